import PyProof.Rows.All
import Wide.All
import OpenK.AllK
import Wide.FinOn
import PySem.Challenge.RW_pb0609_01
set_option Elab.async false
set_option autoImplicit false
set_option linter.unusedVariables false
set_option maxRecDepth 100000
set_option tactic.hygienic false
set_option bootstrap.genMatcherCode false
set_option genSizeOf false
set_option genInjectivity false
set_option backward.linearNoConfusionType false
namespace Mine.Internal
open PySem PySem.Calls PyProof.Rows PySem.W
open And renaming intro -> Ae
open _root_.Array renaming length_toList -> Dt, getElem?_toList -> Lq, mk -> PK, getElem?_eq_getElem -> TJ, any_toList -> TN, toList_push -> TQ, toList_extract -> T3, getElem?_eq_some_iff -> Uk, toArray_toList -> ZT, range -> Aab, getElem?_eq_none_iff -> AaB, getElem_toList -> An8, toList_append -> Aoj, toList_inj -> Aom, getElem?_eq_none -> Aot
open _root_.Bool renaming and_eq_true -> A9, false_ne_true -> Cw, not_eq_true' -> EY, false_eq_true -> Jd, and_eq_true_iff -> Nf, and_false -> Nl, eq_false_iff -> P1, or_eq_true -> TX, not_true -> Ub, false_or -> ZZ, true_and -> Aad, eq_iff_iff -> Aae, and_true -> AnW
open Classical renaming propDecidable -> NU
open Decidable renaming byContradiction -> TU
open Eq renaming refl -> Bd
open Exists renaming intro -> Jh
open ForInStep renaming yield -> NM
open _root_.Int renaming lt_of_le_of_lt -> H9, ofNat_le -> Ia, le_trans -> J6, ofNat_lt -> Ln, toNat_natCast -> P6, lt_of_lt_of_le -> TC, natCast_nonneg -> ZF, lt_trans -> ZG, ofNat_sub -> AnK, le_natAbs -> AnO, toNat_of_nonneg -> AoA, eq_ofNat_of_zero_le -> Apb
open _root_.Int.ofNat renaming inj -> TB
open LawfulBEq renaming eq_of_beq -> Kf
open LawfulMonad renaming pure_bind -> Qb
open _root_.List renaming range -> As, length_map -> AG, mem_cons -> AS, length_append -> Bg, map_cons -> Bj, mem_map -> BB, lookup_cons -> BC, mem_append -> BF, length_cons -> BH, map_append -> BJ, length_range -> BR, all_eq_true -> B0, mem_append_left -> Cb, getElem?_eq_getElem -> Cc, mem_singleton -> Cr, mem_append_right -> Cv, mem_flatMap -> CF, map_map -> CY, mem_cons_self -> Dh, mem_map_of_mem -> Dl, nodup_cons -> Dm, append_nil -> Dn, mem_range -> Do, getElem?_eq_some_iff -> DK, length_nil -> DL, replicate -> DW, getD_eq_getElem?_getD -> EH, nodup_append -> FL, mem_cons_of_mem -> FO, append_assoc -> FQ, mem_of_getElem? -> FU, getElem?_append_left -> Gm, getElem?_eq_none -> Gn, getElem?_set_ne -> GR, length_set -> GS, map -> GX, mem_filter -> GY, nodup_nil -> G1, getElem?_map -> G2, zip_cons_cons -> Hz, length -> Ib, pairwise_cons -> Id, mem_filterMap -> Ie, getElem?_append_right -> IY, size_toArray -> J8, not_mem_nil -> Lx, map_congr_left -> Lz, pairwise_lt_range -> LB, count_cons -> LC, idxOf_lt_length_of_mem -> LD, any_cons -> Nn, length_take -> Nt, reverse_cons -> Nv, foldl_append -> NK, flatMap_cons -> NT, foldl_cons -> PI, length_drop -> PZ, getElem?_eq_none_iff -> Qa, getElem?_set_self' -> Qd, getElem?_range -> Qe, flatMap_append -> Qf, pairwise_map -> Qg, getElem_mem -> Qh, getElem_idxOf -> Qi, replicate_succ -> TH, flatten_cons -> TI, contains_iff_mem -> T2, take_of_length_le -> T4, forIn_cons -> Ud, drop -> Uh, of_mem_zip -> Uj, getElem?_take_of_lt -> Uq, map_filterMap -> Ur, perm_ext_iff_of_nodup -> Us, getElem_inj -> Ut, getElem?_set_self -> ZI, drop_nil -> ZR, append_of_mem -> ZS, find?_cons -> ZV, getElem?_cons_zero -> ZW, getElem?_cons_succ -> ZX, length_eq_zero_iff -> Z6, map_drop -> Aaf, take_length -> Aay, lookup -> AaE, filter_cons -> AaF, lookup_append -> AaQ, filterMap_cons -> AaR, isEmpty_iff -> AaS, getElem?_inj -> Aa1, ext_getElem? -> Aa2, getElem?_drop -> Aa3, length_filter_le -> Aa6, getElem_of_mem -> Aa7, idxOf_cons -> Aa8, idxOf_append -> Aa9, map_id -> Aba, take_nil -> AnU, any_toArray -> AnY, any_eq_true -> Aoi, map_take -> Aok, mem_of_mem_take -> Aol, take_succ_eq_append_getElem -> AoH, findIdx?_cons -> AoJ, zip_nil_right -> AoP, contains_cons -> AoV, dropLast_eq_take -> AoZ, length_zipIdx -> Ao0, getElem?_zipIdx -> Ao1, drop_drop -> Ao3, getElem?_take_eq_none -> Ao4, nodup_range -> Ao5, any_eq_false -> Ao8, nil_append -> Ao9, zipIdx_map -> Apa, filterMap_map -> Apc, flatMap_map -> Apd, map_flatMap -> Ape, length_singleton -> Apg
open _root_.List.Pairwise renaming filter -> Ki
open _root_.List.Perm renaming refl -> Z4, swap -> An3, map -> Ao6
open _root_.List.cons renaming injEq -> Jg
open Min renaming min -> Tx
open _root_.Nat renaming le_trans -> AC, le_refl -> AK, lt_irrefl -> BP, ne_of_lt -> B6, add_le_add -> Dy, le_of_lt -> Dz, not_lt -> DA, beq -> EE, lt_of_lt_of_le -> EX, succ_le_succ -> Fm, lt_of_le_of_lt -> FK, zero_le -> Gl, add_le_add_left -> GP, le_add_right -> GQ, mul_le_mul_left -> Hv, le_succ -> Hw, lt_succ_self -> Je, zero_add -> J5, le_of_eq -> Lm, sub_self -> Lo, lt_trans -> Lw, ne_of_gt -> Ly, le_of_ble_eq_true -> Nh, sub_le -> Ni, one_mul -> Nj, not_lt_zero -> Nx, lt_succ_of_lt -> NH, eq_of_beq_eq_true -> NS, ble -> PN, add_comm -> PP, lt_of_succ_lt_succ -> PT, le_of_not_lt -> PU, add_right_comm -> Tt, le_of_succ_le -> Ty, add_le_add_right -> Tz, lt_trichotomy -> TF, add_assoc -> ZE, lt_or_ge -> ZH, succ -> ZQ, add_zero -> Aac, sub_zero -> AaT, sub_add_cancel -> AnF, min_le_right -> AnG, le_succ_of_le -> AnH, sub_add_eq -> AnI, sub_pos_of_lt -> AnJ, sub_lt_left_of_lt_add -> AnL, le_antisymm -> AnM, sub_eq_zero_iff_le -> AnN, le_add_left -> Aoh, le_of_sub_eq_zero -> Ao2, succ_ne_zero -> Ao7, add_sub_cancel_left -> Apf
open _root_.Nat.succ renaming inj -> Aag
open Ne renaming symm -> EF
open _root_.Option renaming map_eq_some_iff -> Hu, isSome_iff_exists -> Kc, bind_eq_some_iff -> PY, map_some -> Qc, bind_some -> AaW, some_get -> Aa0, isNone_iff_eq_none -> AoO
open _root_.Option.some renaming inj -> Ay, injEq -> ZJ
open Prod.mk renaming inj -> DV, injEq -> ZU
open Pure renaming pure -> Nk
open PyProof renaming noPylong_small -> AnV
open PyProof.Rows renaming News -> CE, rangeInts -> DM, IntsAre -> Jb, subscriptTail -> Nq, wpAny_release' -> TT, CellsAre -> Ui, tail_any -> Z1, markedEach_of_false -> An5, rangeSize_nat -> Aoa
open PyProof.Rows.F renaming plain_set_update_loop -> Aaj, entry_set_update_loop -> Aop
open PyProof.Rows.IntsAre renaming length -> AoY
open PyProof.Rows.LCg renaming NsObj -> GW
open PySem renaming Str -> Ac, Value -> Ad, Addr -> Af, wpAny_bind -> Aj, Shared -> Aq, wpAny_pure -> AB, Stmt -> AL, Obj -> AR, Heap -> AY, World -> B5, Program -> CC, Around -> CD, wpAny_holding -> Dg, mainGlobals -> Eb, DictEntry -> Ec, CmpOp -> Fl, Flow -> Fo, wpAny_standAt -> FM, sizeLine_eq -> FN, assignEach -> FS, cellsFrom -> FT, NameKind -> Go, Result -> GO, Comprehension -> GU, isSubtype -> GV, Operator -> Hx, compareOp -> Ja, noteFrame -> Jf, Model -> J7, wpAny_call -> J9, isInstance -> Ka, wpAny_mono -> Kb, assignInOrder -> Ke, wpAny_execs_cons -> Kg, wpAny_field -> Kh, ExceptHandler -> Lp, wpAny_Name -> Ls, GenState -> Ng, seqIndex? -> Np, wpAny_newObj_type -> Nu, lastMarks -> Nw, intKind_is -> Nz, wpAny_setState_of -> NA, codeAny_builtin -> ND, wpAny_askSetting -> NE, wpAny_typeOf -> NF, wpAny_isInstance -> NG, wpAny_setField -> NI, wpAny_execs_nil -> NO, interactive -> NP, Arguments -> PG, OsState -> PJ, importedModules -> PM, wpAny_loadName_local -> PW, getMethod -> P2, wpAny_ite_split -> P4, wpAny_attempt -> P7, treeTable -> Ts, sysModules -> TD, Keyword -> TG, plainId_quiet -> T6, codeAny_call_builtin -> T7, wpAny_call_entry -> T9, swapsWith -> Ue, cameBackBy -> Uf, setFlight -> Ug, wpAny_loadPart -> Un, bootBuiltins -> ZA, wpAny_truthy_bool -> ZY, newFields -> Z3, compareChain -> Z7, testChain -> Z8, wpAny_rule -> Aah, codeAny_of_tree -> Aak, checkBuiltinCall -> Aal, codeAny_mono -> Aan, wpAny_pyIter_list -> Aap, typeLookup_type -> Aaq, builtinLookup_eq_fast -> Aar, isSubtype_type -> Aas, pickOrder -> Aat, setsByText -> Aau, wpAny_mkText -> Aax, letOwnedTupleGo -> Aaz, wpAny_load -> AaA, wpAny_assign_Name -> AaC, wpAny_storeName_local -> AaD, comprehension -> AaG, firstAsync -> AaH, firstIter -> AaI, storeName -> AaJ, foldedForSure -> AaK, constantsAlone -> AaL, swappedStores -> AaM, wpAny_Expr_any -> AaN, isExcClass -> AaO, arm_exec_Assign -> AaP, fenceModules? -> AnD, importedNames -> AnE, arm_eval_UnaryOp -> An4, arm_eval_Attribute -> An6, arm_eval_Slice -> An7, methodCallForm -> Aoc, methodCallPos -> Aod, wpAny_storeSet_of -> Aon, entryFor_of_tree -> Aor, entryFor_alias -> Aos, wpAny_setEntries_of -> Aou, wpAny_callSpecial?_slot -> Aov, firstArgMember -> Aow, wpAny_pyIter_slot -> Aox, callGetattribute -> AoB, boundAndCalled -> AoC, getattributeRaised -> AoD, sub_AttributeError -> AoE, wpAny_pyIter_enum -> AoI, wpAny_assign_Tuple -> AoK, arm_assign_Attribute -> AoM, wpAny_Return_some -> AoN, recursionLimit -> AoQ, wpAny_loadPart_at -> AoW
open PySem.Around renaming under_plainId -> P3, in1_units -> TM
open PySem.Bind renaming madeBy -> AaV, staticBase -> AoT
open PySem.Builtin.Dict renaming updateFrom -> AoF
open PySem.Builtin.List renaming listTooLong -> Z5, listLengthHint -> Aoy
open PySem.Builtin.Range renaming small -> Z9, rangeSize -> Aaa
open PySem.Calls renaming Name_function_global -> Lu, loadGlobal_global -> PX, evalArgs_plain -> An2, loadGlobal_builtin -> Aob
open PySem.Code renaming builtin -> TV, quiet_builtin -> Aam
open PySem.EntryCells renaming newEntry -> AoR
open PySem.Expr.Attribute renaming elim -> AnQ
open PySem.Expr.Call renaming elim -> ZK
open PySem.Expr.ListComp renaming elim -> ZP
open PySem.Expr.Name renaming elim -> AnP
open PySem.Expr.Slice renaming elim -> AnT
open PySem.Expr.Subscript renaming elim -> AnS
open PySem.Expr.Tuple renaming elim -> ZL
open PySem.F renaming slot_list_getattribute -> Aaw, plain_set_new -> Aoq, slot_set_iter -> Aoz, attr_Exception -> AoX
open PySem.Heap renaming lt_size -> Bz, get?_push_of_some -> Ed, get?_push_size -> Jc, dictOf_iff -> Nm, get?_update_self -> NB, get?_update_other -> NJ, size_push -> P5, ExtBut -> P9, SameBut -> T5, push -> ZB, get?_none_of_le -> AoG
open PySem.Heap.SameBut renaming update -> TS
open PySem.Heap.UpToSlots renaming of_keeps -> AoS
open PySem.Keeper renaming machine -> An0, boundFrame -> An1
open PySem.NameKind renaming free -> EG, cell -> Uc, globalImplicit -> An9
open PySem.Obj renaming mapFields -> Hy, data_mapFields -> P8, isFreed_of_fields -> Ua, putSet -> Aai, cls_mapFields -> Aav
open PySem.PyData renaming keyHash -> Lv
open PySem.ScopeKind renaming function -> AoL
open PySem.SeqAt renaming EqAt -> IZ, RcAt -> TK, RcNeAt -> TL
open PySem.SeqAt.EqAt renaming of_refs -> AnX
open PySem.SetTable renaming insertAt -> Fn, below -> Ny, fill -> T0, grown -> Aof, fits -> Aog, tooFull -> Aoo
open PySem.Shared renaming TypeIs -> Aao
open PySem.Stmt.Assign renaming elim -> ZO
open PySem.Stmt.Expr renaming elim -> ZM
open PySem.Stmt.For renaming elim -> Aa4
open PySem.Stmt.Return renaming elim -> ZN
open PySem.Stmt.Try renaming elim -> AnR
open PySem.Stmt.While renaming elim -> Aa5
open PySem.Str renaming ofString -> Ab
open PySem.Value renaming ref -> CR, type -> EC, builtin -> FJ, none -> FP, int -> GZ, isInt -> TO, isStr -> TP
open PySem.W renaming Frag -> Bf, Looks -> BK, boot_heap -> ED, topRead_of -> Ic, TopRead -> Lr, SharedT -> Nd, kms_lo -> Nr, looks_mroIn -> NQ, emptyDict -> NR, hasDictIn -> PH, namesMeet -> PO, kms_pick -> P0, boot_drawn -> Tu, boot_toks -> Tv, looksOpen -> Tw, keeps_K -> TZ, kts_self -> Ul, looks_clsIn -> Um, any_some -> Uo, looks_findIn -> Up, noRoadLSs -> ZC, builtinNamed -> ZD, kda_dict -> Z2, of_hideAll -> AaU, check_slot -> AaX, news_upd -> AaY, looks_subIn -> AaZ, kms_slice_lit -> AnZ, method_of_cls -> Aoe
open PySem.W.Fast renaming tw6613529449190102663 -> Anz, tw10156331382660048174 -> AnA, tw11892475500146522536 -> AnB, tw14364793385576792824 -> AnC
open PySem.W.InstAt renaming of_news -> Z0
open PySem.W.Looks renaming ld -> LA, of_pure -> TY
open PySem.callAny renaming viaDunder -> AoU
open PySem.pickOrder renaming go -> T8
variable {x0 x1 x2 n a i x3 x4 x5 d acc:Nat}{α β A B δ γ:Type}{v:Ad}{vs ws:List Ad}{s:Aq}{x xn name cn:Ac}{o ob' o' oC oe:AR}{pos p1 p3 apos p5 p4:Pos}{es ifs:List Expr}{E Q:Ad->Aq->Prop}{b:Bool}{e target elt value iter:Expr}{K:Bf}{D:Af->Prop}{C I:Af}{t:Sem Ad}{h':AY}{is:List Int}{post:List (Af×AR)}{scope:Scope}{op:Fl}{xs:List Ac}{ps kvs:List (Int×Ad)}{env cenv:Env}{R:GO->Aq->Prop}{fs us ρ0 ys:List Nat}{w:B5}{ops:List Fl}{u:Unit}{items:Array Ad}{m₀:Ac->Option Ad}{body:List AL}{Z:Nat->Prop}
theorem At{A0 A1:Prop}{R:Prop}(h:A0/\A1)(k:A0->A1->R):R:=k h.1 h.2
theorem CZ{A0 A1 A2:Prop}{R:Prop}(h:A0/\A1/\A2)(k:A0->A1->A2->R):R:=k h.1 h.2.1 h.2.2
theorem Uu{A0 A1 A2 A3:Prop}{R:Prop}(h:A0/\A1/\A2/\A3)(k:A0->A1->A2->A3->R):R:=k h.1 h.2.1 h.2.2.1 h.2.2.2
theorem Uv{A0 A1 A2 A3 A4:Prop}{R:Prop}(h:A0/\A1/\A2/\A3/\A4)(k:A0->A1->A2->A3->A4->R):R:=k h.1 h.2.1 h.2.2.1 h.2.2.2.1 h.2.2.2.2
theorem Q06{A0 A1 A2 A3 A4 A5:Prop}{R:Prop}(h:A0/\A1/\A2/\A3/\A4/\A5)(k:A0->A1->A2->A3->A4->A5->R):R:=k h.1 h.2.1 h.2.2.1 h.2.2.2.1 h.2.2.2.2.1 h.2.2.2.2.2
theorem Uw{A0 A1 A2 A3 A4 A5 A6 A7:Prop}{R:Prop}(h:A0/\A1/\A2/\A3/\A4/\A5/\A6/\A7)(k:A0->A1->A2->A3->A4->A5->A6->A7->R):R:=k h.1 h.2.1 h.2.2.1 h.2.2.2.1 h.2.2.2.2.1 h.2.2.2.2.2.1 h.2.2.2.2.2.2.1 h.2.2.2.2.2.2.2
theorem AI{α0:Sort _}{A0:α0->Prop}{R:Prop}(h:∃x0,A0 x0)(k:∀x0,A0 x0->R):R:=h.elim λx0 h=>k x0 h
theorem Ah{α0:Sort _}{A0 A1:α0->Prop}{R:Prop}(h:∃x0,A0 x0/\A1 x0)(k:∀x0,A0 x0->A1 x0->R):R:=h.elim λx0 h=>k x0 h.1 h.2
theorem AE{α0:Sort _}{A0 A1 A2:α0->Prop}{R:Prop}(h:∃x0,A0 x0/\A1 x0/\A2 x0)(k:∀x0,A0 x0->A1 x0->A2 x0->R):R:=h.elim λx0 h=>k x0 h.1 h.2.1 h.2.2
theorem BL{α0:Sort _}{A0 A1 A2 A3:α0->Prop}{R:Prop}(h:∃x0,A0 x0/\A1 x0/\A2 x0/\A3 x0)(k:∀x0,A0 x0->A1 x0->A2 x0->A3 x0->R):R:=h.elim λx0 h=>k x0 h.1 h.2.1 h.2.2.1 h.2.2.2
theorem Ig{α0:Sort _}{A0 A1 A2 A3 A4:α0->Prop}{R:Prop}(h:∃x0,A0 x0/\A1 x0/\A2 x0/\A3 x0/\A4 x0)(k:∀x0,A0 x0->A1 x0->A2 x0->A3 x0->A4 x0->R):R:=h.elim λx0 h=>k x0 h.1 h.2.1 h.2.2.1 h.2.2.2.1 h.2.2.2.2
theorem HA{α0 α1:Sort _}{A0:α0->α1->Prop}{R:Prop}(h:∃x0 x1,A0 x0 x1)(k:∀x0 x1,A0 x0 x1->R):R:=h.elim λx0 h=>h.elim λx1 h=>k x0 x1 h
theorem Ba{α0 α1:Sort _}{A0 A1:α0->α1->Prop}{R:Prop}(h:∃x0 x1,A0 x0 x1/\A1 x0 x1)(k:∀x0 x1,A0 x0 x1->A1 x0 x1->R):R:=h.elim λx0 h=>h.elim λx1 h=>k x0 x1 h.1 h.2
theorem Bm{α0 α1:Sort _}{A0 A1 A2:α0->α1->Prop}{R:Prop}(h:∃x0 x1,A0 x0 x1/\A1 x0 x1/\A2 x0 x1)(k:∀x0 x1,A0 x0 x1->A1 x0 x1->A2 x0 x1->R):R:=h.elim λx0 h=>h.elim λx1 h=>k x0 x1 h.1 h.2.1 h.2.2
theorem Cj{α0 α1:Sort _}{A0 A1 A2 A3:α0->α1->Prop}{R:Prop}(h:∃x0 x1,A0 x0 x1/\A1 x0 x1/\A2 x0 x1/\A3 x0 x1)(k:∀x0 x1,A0 x0 x1->A1 x0 x1->A2 x0 x1->A3 x0 x1->R):R:=h.elim λx0 h=>h.elim λx1 h=>k x0 x1 h.1 h.2.1 h.2.2.1 h.2.2.2
theorem Ji{α0 α1:Sort _}{A0 A1 A2 A3 A4:α0->α1->Prop}{R:Prop}(h:∃x0 x1,A0 x0 x1/\A1 x0 x1/\A2 x0 x1/\A3 x0 x1/\A4 x0 x1)(k:∀x0 x1,A0 x0 x1->A1 x0 x1->A2 x0 x1->A3 x0 x1->A4 x0 x1->R):R:=h.elim λx0 h=>h.elim λx1 h=>k x0 x1 h.1 h.2.1 h.2.2.1 h.2.2.2.1 h.2.2.2.2
theorem Q26{α0 α1:Sort _}{A0 A1 A2 A3 A4 A5:α0->α1->Prop}{R:Prop}(h:∃x0 x1,A0 x0 x1/\A1 x0 x1/\A2 x0 x1/\A3 x0 x1/\A4 x0 x1/\A5 x0 x1)(k:∀x0 x1,A0 x0 x1->A1 x0 x1->A2 x0 x1->A3 x0 x1->A4 x0 x1->A5 x0 x1->R):R:=h.elim λx0 h=>h.elim λx1 h=>k x0 x1 h.1 h.2.1 h.2.2.1 h.2.2.2.1 h.2.2.2.2.1 h.2.2.2.2.2
theorem Kj{α0 α1:Sort _}{A0 A1 A2 A3 A4 A5 A6:α0->α1->Prop}{R:Prop}(h:∃x0 x1,A0 x0 x1/\A1 x0 x1/\A2 x0 x1/\A3 x0 x1/\A4 x0 x1/\A5 x0 x1/\A6 x0 x1)(k:∀x0 x1,A0 x0 x1->A1 x0 x1->A2 x0 x1->A3 x0 x1->A4 x0 x1->A5 x0 x1->A6 x0 x1->R):R:=h.elim λx0 h=>h.elim λx1 h=>k x0 x1 h.1 h.2.1 h.2.2.1 h.2.2.2.1 h.2.2.2.2.1 h.2.2.2.2.2.1 h.2.2.2.2.2.2
theorem Q31{α0 α1 α2:Sort _}{A0:α0->α1->α2->Prop}{R:Prop}(h:∃x0 x1 x2,A0 x0 x1 x2)(k:∀x0 x1 x2,A0 x0 x1 x2->R):R:=h.elim λx0 h=>h.elim λx1 h=>h.elim λx2 h=>k x0 x1 x2 h
theorem Ee{α0 α1 α2:Sort _}{A0 A1:α0->α1->α2->Prop}{R:Prop}(h:∃x0 x1 x2,A0 x0 x1 x2/\A1 x0 x1 x2)(k:∀x0 x1 x2,A0 x0 x1 x2->A1 x0 x1 x2->R):R:=h.elim λx0 h=>h.elim λx1 h=>h.elim λx2 h=>k x0 x1 x2 h.1 h.2
theorem CG{α0 α1 α2:Sort _}{A0 A1 A2:α0->α1->α2->Prop}{R:Prop}(h:∃x0 x1 x2,A0 x0 x1 x2/\A1 x0 x1 x2/\A2 x0 x1 x2)(k:∀x0 x1 x2,A0 x0 x1 x2->A1 x0 x1 x2->A2 x0 x1 x2->R):R:=h.elim λx0 h=>h.elim λx1 h=>h.elim λx2 h=>k x0 x1 x2 h.1 h.2.1 h.2.2
theorem EZ{α0 α1 α2:Sort _}{A0 A1 A2 A3:α0->α1->α2->Prop}{R:Prop}(h:∃x0 x1 x2,A0 x0 x1 x2/\A1 x0 x1 x2/\A2 x0 x1 x2/\A3 x0 x1 x2)(k:∀x0 x1 x2,A0 x0 x1 x2->A1 x0 x1 x2->A2 x0 x1 x2->A3 x0 x1 x2->R):R:=h.elim λx0 h=>h.elim λx1 h=>h.elim λx2 h=>k x0 x1 x2 h.1 h.2.1 h.2.2.1 h.2.2.2
theorem Ux{α0 α1 α2:Sort _}{A0 A1 A2 A3 A4:α0->α1->α2->Prop}{R:Prop}(h:∃x0 x1 x2,A0 x0 x1 x2/\A1 x0 x1 x2/\A2 x0 x1 x2/\A3 x0 x1 x2/\A4 x0 x1 x2)(k:∀x0 x1 x2,A0 x0 x1 x2->A1 x0 x1 x2->A2 x0 x1 x2->A3 x0 x1 x2->A4 x0 x1 x2->R):R:=h.elim λx0 h=>h.elim λx1 h=>h.elim λx2 h=>k x0 x1 x2 h.1 h.2.1 h.2.2.1 h.2.2.2.1 h.2.2.2.2
theorem Uy{α0 α1 α2:Sort _}{A0 A1 A2 A3 A4 A5:α0->α1->α2->Prop}{R:Prop}(h:∃x0 x1 x2,A0 x0 x1 x2/\A1 x0 x1 x2/\A2 x0 x1 x2/\A3 x0 x1 x2/\A4 x0 x1 x2/\A5 x0 x1 x2)(k:∀x0 x1 x2,A0 x0 x1 x2->A1 x0 x1 x2->A2 x0 x1 x2->A3 x0 x1 x2->A4 x0 x1 x2->A5 x0 x1 x2->R):R:=h.elim λx0 h=>h.elim λx1 h=>h.elim λx2 h=>k x0 x1 x2 h.1 h.2.1 h.2.2.1 h.2.2.2.1 h.2.2.2.2.1 h.2.2.2.2.2
theorem Kk{α0 α1 α2:Sort _}{A0 A1 A2 A3 A4 A5 A6:α0->α1->α2->Prop}{R:Prop}(h:∃x0 x1 x2,A0 x0 x1 x2/\A1 x0 x1 x2/\A2 x0 x1 x2/\A3 x0 x1 x2/\A4 x0 x1 x2/\A5 x0 x1 x2/\A6 x0 x1 x2)(k:∀x0 x1 x2,A0 x0 x1 x2->A1 x0 x1 x2->A2 x0 x1 x2->A3 x0 x1 x2->A4 x0 x1 x2->A5 x0 x1 x2->A6 x0 x1 x2->R):R:=h.elim λx0 h=>h.elim λx1 h=>h.elim λx2 h=>k x0 x1 x2 h.1 h.2.1 h.2.2.1 h.2.2.2.1 h.2.2.2.2.1 h.2.2.2.2.2.1 h.2.2.2.2.2.2
theorem Q38{α0 α1 α2:Sort _}{A0 A1 A2 A3 A4 A5 A6 A7:α0->α1->α2->Prop}{R:Prop}(h:∃x0 x1 x2,A0 x0 x1 x2/\A1 x0 x1 x2/\A2 x0 x1 x2/\A3 x0 x1 x2/\A4 x0 x1 x2/\A5 x0 x1 x2/\A6 x0 x1 x2/\A7 x0 x1 x2)(k:∀x0 x1 x2,A0 x0 x1 x2->A1 x0 x1 x2->A2 x0 x1 x2->A3 x0 x1 x2->A4 x0 x1 x2->A5 x0 x1 x2->A6 x0 x1 x2->A7 x0 x1 x2->R):R:=h.elim λx0 h=>h.elim λx1 h=>h.elim λx2 h=>k x0 x1 x2 h.1 h.2.1 h.2.2.1 h.2.2.2.1 h.2.2.2.2.1 h.2.2.2.2.2.1 h.2.2.2.2.2.2.1 h.2.2.2.2.2.2.2
theorem Q41{α0 α1 α2 α3:Sort _}{A0:α0->α1->α2->α3->Prop}{R:Prop}(h:∃x0 x1 x2 x3,A0 x0 x1 x2 x3)(k:∀x0 x1 x2 x3,A0 x0 x1 x2 x3->R):R:=h.elim λx0 h=>h.elim λx1 h=>h.elim λx2 h=>h.elim λx3 h=>k x0 x1 x2 x3 h
theorem Uz{α0 α1 α2 α3:Sort _}{A0 A1 A2:α0->α1->α2->α3->Prop}{R:Prop}(h:∃x0 x1 x2 x3,A0 x0 x1 x2 x3/\A1 x0 x1 x2 x3/\A2 x0 x1 x2 x3)(k:∀x0 x1 x2 x3,A0 x0 x1 x2 x3->A1 x0 x1 x2 x3->A2 x0 x1 x2 x3->R):R:=h.elim λx0 h=>h.elim λx1 h=>h.elim λx2 h=>h.elim λx3 h=>k x0 x1 x2 x3 h.1 h.2.1 h.2.2
theorem Q44{α0 α1 α2 α3:Sort _}{A0 A1 A2 A3:α0->α1->α2->α3->Prop}{R:Prop}(h:∃x0 x1 x2 x3,A0 x0 x1 x2 x3/\A1 x0 x1 x2 x3/\A2 x0 x1 x2 x3/\A3 x0 x1 x2 x3)(k:∀x0 x1 x2 x3,A0 x0 x1 x2 x3->A1 x0 x1 x2 x3->A2 x0 x1 x2 x3->A3 x0 x1 x2 x3->R):R:=h.elim λx0 h=>h.elim λx1 h=>h.elim λx2 h=>h.elim λx3 h=>k x0 x1 x2 x3 h.1 h.2.1 h.2.2.1 h.2.2.2
theorem NV{α0 α1 α2 α3:Sort _}{A0 A1 A2 A3 A4 A5:α0->α1->α2->α3->Prop}{R:Prop}(h:∃x0 x1 x2 x3,A0 x0 x1 x2 x3/\A1 x0 x1 x2 x3/\A2 x0 x1 x2 x3/\A3 x0 x1 x2 x3/\A4 x0 x1 x2 x3/\A5 x0 x1 x2 x3)(k:∀x0 x1 x2 x3,A0 x0 x1 x2 x3->A1 x0 x1 x2 x3->A2 x0 x1 x2 x3->A3 x0 x1 x2 x3->A4 x0 x1 x2 x3->A5 x0 x1 x2 x3->R):R:=h.elim λx0 h=>h.elim λx1 h=>h.elim λx2 h=>h.elim λx3 h=>k x0 x1 x2 x3 h.1 h.2.1 h.2.2.1 h.2.2.2.1 h.2.2.2.2.1 h.2.2.2.2.2
theorem Q47{α0 α1 α2 α3:Sort _}{A0 A1 A2 A3 A4 A5 A6:α0->α1->α2->α3->Prop}{R:Prop}(h:∃x0 x1 x2 x3,A0 x0 x1 x2 x3/\A1 x0 x1 x2 x3/\A2 x0 x1 x2 x3/\A3 x0 x1 x2 x3/\A4 x0 x1 x2 x3/\A5 x0 x1 x2 x3/\A6 x0 x1 x2 x3)(k:∀x0 x1 x2 x3,A0 x0 x1 x2 x3->A1 x0 x1 x2 x3->A2 x0 x1 x2 x3->A3 x0 x1 x2 x3->A4 x0 x1 x2 x3->A5 x0 x1 x2 x3->A6 x0 x1 x2 x3->R):R:=h.elim λx0 h=>h.elim λx1 h=>h.elim λx2 h=>h.elim λx3 h=>k x0 x1 x2 x3 h.1 h.2.1 h.2.2.1 h.2.2.2.1 h.2.2.2.2.1 h.2.2.2.2.2.1 h.2.2.2.2.2.2
theorem UA{α0 α1 α2 α3 α4:Sort _}{A0:α0->α1->α2->α3->α4->Prop}{R:Prop}(h:∃x0 x1 x2 x3 x4,A0 x0 x1 x2 x3 x4)(k:∀x0 x1 x2 x3 x4,A0 x0 x1 x2 x3 x4->R):R:=h.elim λx0 h=>h.elim λx1 h=>h.elim λx2 h=>h.elim λx3 h=>h.elim λx4 h=>k x0 x1 x2 x3 x4 h
theorem NW{α0 α1 α2 α3 α4:Sort _}{A0 A1 A2:α0->α1->α2->α3->α4->Prop}{R:Prop}(h:∃x0 x1 x2 x3 x4,A0 x0 x1 x2 x3 x4/\A1 x0 x1 x2 x3 x4/\A2 x0 x1 x2 x3 x4)(k:∀x0 x1 x2 x3 x4,A0 x0 x1 x2 x3 x4->A1 x0 x1 x2 x3 x4->A2 x0 x1 x2 x3 x4->R):R:=h.elim λx0 h=>h.elim λx1 h=>h.elim λx2 h=>h.elim λx3 h=>h.elim λx4 h=>k x0 x1 x2 x3 x4 h.1 h.2.1 h.2.2
theorem UB{α0 α1 α2 α3 α4:Sort _}{A0 A1 A2 A3:α0->α1->α2->α3->α4->Prop}{R:Prop}(h:∃x0 x1 x2 x3 x4,A0 x0 x1 x2 x3 x4/\A1 x0 x1 x2 x3 x4/\A2 x0 x1 x2 x3 x4/\A3 x0 x1 x2 x3 x4)(k:∀x0 x1 x2 x3 x4,A0 x0 x1 x2 x3 x4->A1 x0 x1 x2 x3 x4->A2 x0 x1 x2 x3 x4->A3 x0 x1 x2 x3 x4->R):R:=h.elim λx0 h=>h.elim λx1 h=>h.elim λx2 h=>h.elim λx3 h=>h.elim λx4 h=>k x0 x1 x2 x3 x4 h.1 h.2.1 h.2.2.1 h.2.2.2
theorem Qj{α0 α1 α2 α3 α4:Sort _}{A0 A1 A2 A3 A4:α0->α1->α2->α3->α4->Prop}{R:Prop}(h:∃x0 x1 x2 x3 x4,A0 x0 x1 x2 x3 x4/\A1 x0 x1 x2 x3 x4/\A2 x0 x1 x2 x3 x4/\A3 x0 x1 x2 x3 x4/\A4 x0 x1 x2 x3 x4)(k:∀x0 x1 x2 x3 x4,A0 x0 x1 x2 x3 x4->A1 x0 x1 x2 x3 x4->A2 x0 x1 x2 x3 x4->A3 x0 x1 x2 x3 x4->A4 x0 x1 x2 x3 x4->R):R:=h.elim λx0 h=>h.elim λx1 h=>h.elim λx2 h=>h.elim λx3 h=>h.elim λx4 h=>k x0 x1 x2 x3 x4 h.1 h.2.1 h.2.2.1 h.2.2.2.1 h.2.2.2.2
theorem Q57{α0 α1 α2 α3 α4:Sort _}{A0 A1 A2 A3 A4 A5 A6:α0->α1->α2->α3->α4->Prop}{R:Prop}(h:∃x0 x1 x2 x3 x4,A0 x0 x1 x2 x3 x4/\A1 x0 x1 x2 x3 x4/\A2 x0 x1 x2 x3 x4/\A3 x0 x1 x2 x3 x4/\A4 x0 x1 x2 x3 x4/\A5 x0 x1 x2 x3 x4/\A6 x0 x1 x2 x3 x4)(k:∀x0 x1 x2 x3 x4,A0 x0 x1 x2 x3 x4->A1 x0 x1 x2 x3 x4->A2 x0 x1 x2 x3 x4->A3 x0 x1 x2 x3 x4->A4 x0 x1 x2 x3 x4->A5 x0 x1 x2 x3 x4->A6 x0 x1 x2 x3 x4->R):R:=h.elim λx0 h=>h.elim λx1 h=>h.elim λx2 h=>h.elim λx3 h=>h.elim λx4 h=>k x0 x1 x2 x3 x4 h.1 h.2.1 h.2.2.1 h.2.2.2.1 h.2.2.2.2.1 h.2.2.2.2.2.1 h.2.2.2.2.2.2
theorem Qk{α0 α1 α2 α3 α4:Sort _}{A0 A1 A2 A3 A4 A5 A6 A7:α0->α1->α2->α3->α4->Prop}{R:Prop}(h:∃x0 x1 x2 x3 x4,A0 x0 x1 x2 x3 x4/\A1 x0 x1 x2 x3 x4/\A2 x0 x1 x2 x3 x4/\A3 x0 x1 x2 x3 x4/\A4 x0 x1 x2 x3 x4/\A5 x0 x1 x2 x3 x4/\A6 x0 x1 x2 x3 x4/\A7 x0 x1 x2 x3 x4)(k:∀x0 x1 x2 x3 x4,A0 x0 x1 x2 x3 x4->A1 x0 x1 x2 x3 x4->A2 x0 x1 x2 x3 x4->A3 x0 x1 x2 x3 x4->A4 x0 x1 x2 x3 x4->A5 x0 x1 x2 x3 x4->A6 x0 x1 x2 x3 x4->A7 x0 x1 x2 x3 x4->R):R:=h.elim λx0 h=>h.elim λx1 h=>h.elim λx2 h=>h.elim λx3 h=>h.elim λx4 h=>k x0 x1 x2 x3 x4 h.1 h.2.1 h.2.2.1 h.2.2.2.1 h.2.2.2.2.1 h.2.2.2.2.2.1 h.2.2.2.2.2.2.1 h.2.2.2.2.2.2.2
theorem UC{α0 α1 α2 α3 α4 α5:Sort _}{A0 A1:α0->α1->α2->α3->α4->α5->Prop}{R:Prop}(h:∃x0 x1 x2 x3 x4 x5,A0 x0 x1 x2 x3 x4 x5/\A1 x0 x1 x2 x3 x4 x5)(k:∀x0 x1 x2 x3 x4 x5,A0 x0 x1 x2 x3 x4 x5->A1 x0 x1 x2 x3 x4 x5->R):R:=h.elim λx0 h=>h.elim λx1 h=>h.elim λx2 h=>h.elim λx3 h=>h.elim λx4 h=>h.elim λx5 h=>k x0 x1 x2 x3 x4 x5 h.1 h.2
theorem Q68{α0 α1 α2 α3 α4 α5:Sort _}{A0 A1 A2 A3 A4 A5 A6 A7:α0->α1->α2->α3->α4->α5->Prop}{R:Prop}(h:∃x0 x1 x2 x3 x4 x5,A0 x0 x1 x2 x3 x4 x5/\A1 x0 x1 x2 x3 x4 x5/\A2 x0 x1 x2 x3 x4 x5/\A3 x0 x1 x2 x3 x4 x5/\A4 x0 x1 x2 x3 x4 x5/\A5 x0 x1 x2 x3 x4 x5/\A6 x0 x1 x2 x3 x4 x5/\A7 x0 x1 x2 x3 x4 x5)(k:∀x0 x1 x2 x3 x4 x5,A0 x0 x1 x2 x3 x4 x5->A1 x0 x1 x2 x3 x4 x5->A2 x0 x1 x2 x3 x4 x5->A3 x0 x1 x2 x3 x4 x5->A4 x0 x1 x2 x3 x4 x5->A5 x0 x1 x2 x3 x4 x5->A6 x0 x1 x2 x3 x4 x5->A7 x0 x1 x2 x3 x4 x5->R):R:=h.elim λx0 h=>h.elim λx1 h=>h.elim λx2 h=>h.elim λx3 h=>h.elim λx4 h=>h.elim λx5 h=>k x0 x1 x2 x3 x4 x5 h.1 h.2.1 h.2.2.1 h.2.2.2.1 h.2.2.2.2.1 h.2.2.2.2.2.1 h.2.2.2.2.2.2.1 h.2.2.2.2.2.2.2
theorem UD{α0 α1 α2 α3 α4 α5 α6:Sort _}{A0:α0->α1->α2->α3->α4->α5->α6->Prop}{R:Prop}(h:∃x0 x1 x2 x3 x4 x5 x6,A0 x0 x1 x2 x3 x4 x5 x6)(k:∀x0 x1 x2 x3 x4 x5 x6,A0 x0 x1 x2 x3 x4 x5 x6->R):R:=h.elim λx0 h=>h.elim λx1 h=>h.elim λx2 h=>h.elim λx3 h=>h.elim λx4 h=>h.elim λx5 h=>h.elim λx6 h=>k x0 x1 x2 x3 x4 x5 x6 h

noncomputable abbrev ob(x:Option α)(f:α->Option β):Option β:=match x with
 | some a=>f a
 | none=>none
inductive AZ where
 | int (i:Int)
 | ref (a:Af)
structure C0 where
 name:Ac
 qual:Ac
 params:PG
 body:List AL
 scope:Scope
noncomputable def LE(K:Bf)(C:Af)(x:Ac):Bool:=plainGet K C x && PH K C && (findIn K (.ref C) x == some none)
noncomputable def Ql(K:Bf)(C:Af)(x:Ac):Bool:=plainOver K C && (takerIn K C x == some none) && (clsIn K C).any (·.hasDict) && (findIn K (.ref C) "__setattr__" == some (some (.builtin "object.__setattr__")))
noncomputable def Qm(K:Bf)(C:Af)(x:Ac)(f:Af):Bool:=plainGet K C x && (findIn K (.ref C) x == some (some (.ref f))) && isFn K (.ref f) && keepIn K (.ref f)
noncomputable def Qn(K:Bf)(C f:Af):Bool:=makesIn K C && (findIn K (.ref C) "__init__" == some (some (.ref f))) && isFn K (.ref f)
noncomputable def Ih(K:Bf)(C:Af)(x:Ac)(f:Af):Bool:=(specialIn K (.ref C) "__getattribute__" == some (some (.builtin "type.__getattribute__"))) && keepIn K (.ref f) && (match typeIn K (.ref C)with
 | some mc=>readsIn K C mc && (match findCls K (.ref C) mc x with | some (.val v)=>v == .ref f | _=>false)
 | none=>false)
noncomputable def FW:List (Ac×AZ):=[(Ab "I32",AZ.int (-1)),(Ab "I64",AZ.int (-2)),(Ab "FUNCREF",AZ.int (-16)),(Ab "EXTERNREF",AZ.int (-17)),(Ab "EMPTY",AZ.int (-64)),(Ab "FUNCTION_kinds",AZ.int (0)),(Ab "TABLE",AZ.int (1)),(Ab "MEMORY",AZ.int (2)),(Ab "GLOBAL",AZ.int (3)),(Ab "BLOCK",AZ.int (2)),(Ab "LOOP",AZ.int (3)),(Ab "IF",AZ.int (4)),(Ab "ELSE",AZ.int (5)),(Ab "CALL",AZ.int (16)),(Ab "CALL_INDIRECT",AZ.int (17)),(Ab "RETURN_CALL",AZ.int (18)),(Ab "RETURN_CALL_INDIRECT",AZ.int (19)),(Ab "REF_FUNC",AZ.int (210)),(Ab "UNKNOWN",AZ.int (0)),(Ab "FUNCTION_stackcheck",AZ.int (-1)),(Ab "ACTIVE",AZ.int (1)),(Ab "is_block",AZ.ref 115),(Ab "Invalid",AZ.ref 152),(Ab "Block",AZ.ref 185),(Ab "StackCheck",AZ.ref 381),(Ab "Scope",AZ.ref 411),(Ab "Checker",AZ.ref 523),(Ab "checker_of",AZ.ref 532),(Ab "check_function",AZ.ref 539),(Ab "Import",AZ.ref 563),(Ab "Func",AZ.ref 591),(Ab "Global",AZ.ref 619),(Ab "Elem",AZ.ref 645),(Ab "Data",AZ.ref 673),(Ab "Custom",AZ.ref 701),(Ab "Module",AZ.ref 810),(Ab "parts_of",AZ.ref 819),(Ab "copied_body",AZ.ref 826),(Ab "copied_elem",AZ.ref 831),(Ab "note_functions",AZ.ref 838),(Ab "declared_functions",AZ.ref 845),(Ab "scope_of",AZ.ref 850),(Ab "functions_in",AZ.ref 855),(Ab "used_functions",AZ.ref 860),(Ab "kinds_in",AZ.ref 867),(Ab "Numbers",AZ.ref 908),(Ab "without_unused",AZ.ref 917),(Ab "_law_cell",AZ.ref 924),(Ab "_law_digit",AZ.ref 931),(Ab "_law_deed",AZ.ref 938),(Ab "_law_reference",AZ.ref 945),(Ab "_law_imports",AZ.ref 952),(Ab "_law_module",AZ.ref 957),(Ab "_law_closed",AZ.ref 962),(Ab "_law_renamed",AZ.ref 967),(Ab "_law_checked",AZ.ref 974),(Ab "_law_due",AZ.ref 981),(Ab "_law_fields",AZ.ref 988),(Ab "law",AZ.ref 993)]
noncomputable def EI:List (Ac×Ad):=[(Ab "len",FJ "len"),(Ab "list",EC "list"),(Ab "tuple",EC "tuple"),(Ab "sorted",FJ "sorted"),(Ab "min",FJ "min"),(Ab "str",EC "str"),(Ab "range",EC "range"),(Ab "enumerate",EC "enumerate"),(Ab "set",EC "set"),(Ab "dict",EC "dict")]
noncomputable def Kl:List (Af×List Ac):=[(810,[Ab "kinds",Ab "imports",Ab "funcs",Ab "tables",Ab "memories",Ab "globals",Ab "exports",Ab "start",Ab "elems",Ab "datas",Ab "customs"]),(563,[Ab "place",Ab "name",Ab "sort",Ab "about"]),(591,[Ab "kind",Ab "locals",Ab "body"]),(619,[Ab "kind",Ab "mutable",Ab "body"]),(645,[Ab "mode",Ab "table",Ab "offset",Ab "kind",Ab "inits"]),(411,[Ab "kinds",Ab "funcs",Ab "tables",Ab "memories",Ab "globals",Ab "elems",Ab "datas",Ab "declared"]),(908,[Ab "many",Ab "kept",Ab "funcs",Ab "kinds",Ab "rows"]),(523,[Ab "kinds",Ab "funcs",Ab "function",Ab "locals",Ab "results",Ab "values",Ab "blocks",Ab "at",Ab "scope"]),(185,[Ab "code",Ab "params",Ab "results",Ab "height",Ab "is_dead",Ab "is_buried"])]
noncomputable def HB:List (Af×List (Ac×Af)):=[(523,[(Ab "fail",210),(Ab "push",217),(Ab "pop_any",231),(Ab "pop_all",245),(Ab "close",259),(Ab "end",350),(Ab "local",371),(Ab "func_at",294),(Ab "type_at",287),(Ab "check",308),(Ab "step",315),(Ab "control",336),(Ab "more",471),(Ab "reference",506)]),(563,[(Ab "plain",560)]),(591,[(Ab "plain",588)]),(619,[(Ab "plain",616)]),(645,[(Ab "plain",642)]),(810,[(Ab "imported",726),(Ab "abouts",731),(Ab "func_kinds",736),(Ab "table_kinds",743),(Ab "memory_kinds",750),(Ab "global_kinds",755),(Ab "plain",790),(Ab "copy",807)]),(908,[(Ab "body",886),(Ab "imported",893),(Ab "elem",898),(Ab "export",905)])]
noncomputable def Gp:List (Af×Af):=[(185,175),(411,408),(523,429),(563,553),(591,581),(619,609),(645,637),(673,663),(701,691),(810,719),(908,879)]
noncomputable def Km:List (Af×List (Ac×Af)):=[(381,[(Ab "__init__",203)])]
noncomputable def UE(K:Bf)(p:Ac×AZ):Bool:=match nsIn K Eb p.1,p.2 with
 | some (some (.int i _)),.int j=>i == j
 | some (some (.ref a)),.ref b=>a == b && keepIn K (.ref b)
 | _,_=>false
noncomputable def NX(K:Bf)(p:Ac×Ad):Bool:=nsIn K Eb p.1 == some none && ZA p.1 == some p.2 && !(p.1 == "__name__") && (match p.2 with | .builtin _=>true | .type _=>true | _=>false)
noncomputable def UF(K:Bf)(p:Af×List Ac):Bool:=p.2.all λx=>LE K p.1 x && Ql K p.1 x
noncomputable def UG(K:Bf)(p:Af×List (Ac×Af)):Bool:=p.2.all λq=>Qm K p.1 q.1 q.2
noncomputable def UH(K:Bf)(p:Af×Af):Bool:=Qn K p.1 p.2
noncomputable def UI(K:Bf)(p:Af×List (Ac×Af)):Bool:=p.2.all λq=>Ih K p.1 q.1 q.2
noncomputable def EJ(K:Bf)(f:Af):Option C0:=match K.lookup f with
 | some ⟨_,_,.func fd,_⟩=>(match fd.body with
  | .stmts b=>if(fd.globals == Eb && fd.closure.isEmpty && fd.defaults == .none && fd.builtins == builtinsNs && codeIn K fd.code fd.qualname)=true then some ⟨fd.name,fd.qualname,fd.params,b,fd.scope⟩else none
  | _=>none)
 | _=>none
section
set_option maxHeartbeats 1000000
open Builtin Builtin.ObjectAttr Builtin.Getset_descriptor
noncomputable def Ii(K:Bf)(C:Af):Bool:=match K.lookup C with
 | some ⟨_,_,.cls cd,sl⟩ => !cd.abstract && !cd.hasDel && (sl.toList[4]?).join == some (.builtin "Exception.__new__") && !cd.mro.isEmpty && cd.mro.contains (.ref C) && cd.mro.contains (.type "Exception") && !cd.mro.contains (.type "AttributeError") && !cd.mro.contains (.type "NameError") && cd.mro.contains (.type "BaseException") &&
   specialIn K (.ref C) "__call__" == some (some (.builtin "type.__call__")) && instIn K (.ref C) (.type "type") == some true
 | _=>false
end
section
set_option maxHeartbeats 1000000
open Builtin Builtin.ObjectAttr Builtin.Getset_descriptor
noncomputable def NY:List Ad->Bool
 | .ref _::r=>NY r
 | l=>l == [.type "Exception",.type "BaseException",.type "object"]
noncomputable def NZ(K:Bf)(C:Af):Bool:=(clsIn K C).any λcd=>NY cd.mro && cd.hasDict
end
section
set_option maxHeartbeats 1000000
open Builtin Builtin.ObjectAttr Builtin.Getset_descriptor
noncomputable def Ij(K:Bf)(C:Af)(x:Ac):Bool:=(findIn K (.ref C) "__setattr__" == some (some (.builtin "object.__setattr__"))) && NZ K C && (takerIn K C x == some none)
end
noncomputable def Jj(p:CC)(w:B5)(n₀:Nat)(ann:Option Ad):Nat->Nd->Thread->Option Nd
 | 0,_,_=>none
 | n+1,s,t=>match through t with
  | true=>some s
  | false=>match Anz n₀ ann t with
   | false=>none
   | true=>match AnA (AnB AnC) p w s t with
    | some x=>Jj p w n₀ ann n x.1 x.2
    | none=>none
theorem Abb:∀(p:CC) (w:B5) (n₀:Nat) (ann:Option Ad) (x:Nd) (x_1:Thread) (n:Nat),Jj p w n₀ ann n.succ x x_1=match through x_1 with | true=>some x | false=>match Anz n₀ ann x_1 with | false=>none | true=>match AnA (AnB AnC) p w x x_1 with | some x=>Jj p w n₀ ann n x.fst x.snd | none=>none:=by intros;rfl
theorem Abc{p:CC}{n₀:Nat}{ann:Option Ad}:∀(n:Nat) (s:Nd) (t:Thread) (s':Nd),Jj p w n₀ ann n s t=some s'->topRun Ts p w n₀ ann n s.abs t=some s'.abs:=by
 intro z1
 induction z1 with
 | zero =>
  intro z2 z3 z4 h;exfalso;injection h
 | succ n ih =>
  intro s t s' h;rw[Abb]at h;unfold topRun;rcases ht:through t with _ | _
  ·rw[ht,<- Fast.te6613529449190102663]at h;rcases hk:stepOk n₀ ann t with _ | _
   ·rw[hk]at h;(exfalso;injection h)
   ·rw[hk,<- Fast.te10156331382660048174,<- Fast.te11892475500146522536,<- Fast.te14364793385576792824]at h;rcases hs:stepT (denote Ts) p w s t with _ | r
    ·rw[hs]at h;(exfalso;injection h)
    ·rw[hs]at h;rw[stepT_spec hs];exact ih _ _ s' h
  ·rw[ht]at h;(injection h with za;subst za);rfl
noncomputable def LF:List AR->BT->Nat->BT
 | [],t,_=>t
 | o::r,t,n=>LF r (t.ins n o) (n+1)
noncomputable def Qo:List AR->BT->Nat->Bool
 | [],_,_=>true
 | o::r,t,n=>((t.ins n o).get n).isSome && Qo r (t.ins n o) (n+1)
theorem Abd(life:Life):∀(l:List AR) (t:BT) (n:Nat),Qo l t n=true->absHeap (LF l t n) (n+l.length) life=l.foldl ZB (absHeap t n life):=by
 intro z1
 induction z1 with
 | nil =>
  intro t n z2;exact rfl
 | cons o r ih =>
  intro t n h;rcases Nf.mp h with⟨h1,h2⟩
  have e:=ih (t.ins n o) (n+1) h2;rw[show n+(o::r).length=n+1+r.length from(Tt n 1 r.length).symm,PI,<- absHeap_ins h1];exact e
theorem Abe(life:Life):∀(l m:List AR),l.foldl ZB ⟨m.toArray,life⟩=⟨(m++l).toArray,life⟩:=by
 intro z1
 induction z1 with
 | nil =>
  intro m;simp
 | cons o r ih =>
  intro m;rw[PI];have:(ZB ⟨m.toArray,life⟩ o)=⟨(m++[o]).toArray,life⟩:=by
   show Heap.mk _ _=Heap.mk _ _;simp
  rw[this,ih];simp
theorem Abf(H:AY)(h:Qo H.objs.toList .nil 0=true):absHeap (LF H.objs.toList .nil 0) H.objs.toList.length H.life=H:=by
 have e:=Abd H.life H.objs.toList .nil 0 h;rw[J5]at e;rw[e];have z:absHeap .nil 0 H.life=⟨([]:List AR).toArray,H.life⟩:=rfl;rw[z,Abe];simp
noncomputable def s0(w:B5)(os:PJ):Nd:=⟨LF (ED w.params).objs.toList .nil 0,11,(ED w.params).life,PK [],Tu,Tv,os⟩
theorem Abg(w:B5)(os:PJ):(s0 w os).abs=⟨ED w.params,PK [],Tu,Tv,os⟩:=by
 have e:=Abf (ED w.params) (by kernel_rfl)
 rw[show(ED w.params).objs.toList.length=11 by kernel_rfl]at e
 show Shared.mk _ _ _ _ _=_;rw[show(s0 w os).tree=LF (ED w.params).objs.toList .nil 0 from rfl,show(s0 w os).n=11 from rfl,show(s0 w os).life=(ED w.params).life from rfl,e];rfl
noncomputable def N0(p q:CC)(loose:List Ac)(Xt:Aq->Bool)(Yf:Aq->α)(H₀:AY)(s:Aq) :=
 ((staticsOk (PM p.main.body) H₀ s.heap && namesBound p s.heap && gensDone s && laidKept H₀ s.heap,openSeen q loose (PM p.main.body) Xt true s),Yf s)
theorem Abh{p q:CC}{loose:List Ac}{Xt:Aq->Bool}{Yf:Aq->α}{Ya:B5->α}{N:Nat}
  (e:opening p=plainProg p.main.scope.names) (hN:PN 600 N=true) (f:∀s,AnD p s=some s)
  (h:∀w os,(Jj p w 11 (some (.ref 6)) N (s0 w os) (topStub p)).map (λs=>N0 p q loose Xt Yf (ED w.params) s.abs)=some ((true,openGood q loose),Ya w)):LeftO p q loose Xt Yf Ya N:=λw=>by
 rcases Hu.mp (boot_open e hN f w)with⟨s,e1,e2⟩
 rcases s with⟨h0,gs,d,k,os⟩
 obtain⟨rfl,rfl,rfl,rfl⟩:h0=ED w.params/\gs=PK []/\d=Tu/\k=Tv:=by simpa using e2
 rcases Hu.mp (h w os)with⟨s1,h1,h2⟩
 have r:=Abc _ _ _ _ h1;rw[Abg]at r;unfold N0 at h2;rcases DV h2 with⟨h3,h4⟩
 rcases DV h3 with⟨h5,h6⟩
 have t:topFrom Ts p w N ⟨ED w.params,PK [],Tu,Tv,os⟩=some s1.abs:=by
  unfold topFrom;rw[show((ED w.params).isNs Eb && (PK []:Array Ng).size == 0)=true by kernel_rfl]
  dsimp only;rw[show(ED w.params).objs.size=11 by kernel_rfl,show(ED w.params).nsMap Eb "__annotations__" = some (.ref 6)by kernel_rfl,r]
  show(match staticsOk (PM p.main.body) (ED w.params) s1.abs.heap && namesBound p s1.abs.heap && gensDone s1.abs && laidKept (ED w.params) s1.abs.heap with | true=>_ | false=>_)=_
  rw[h5]
 unfold openEnds;rw[e1];show(topFrom Ts p w N _).map _=_;rw[t];exact congrArg some (Prod.ext h6 h4)
section
set_option maxHeartbeats 0
noncomputable abbrev pw:CC:=PySem.Challenge.pw_pb0609_01
noncomputable def qv:CC:=view pw [82]
noncomputable def Ik:List Ac:=pw.boundNames.filter λn=>n != Ab "law"
theorem Abi:opening pw=plainProg pw.main.scope.names:=by kernel_rfl
theorem Abj(s:Aq):AnD pw s=some s:=by kernel_rfl
end
noncomputable def UJ:Nat->Nat->List Af->List Af
 | 0,_,as=>as
 | n+1,m,as=>UJ n m (bif m.testBit n then n::as else as)
noncomputable def asL:List Af:=UJ 994 135289826165628143860511867460692324510887460771863492507999989973221766619193598758427903320272006567747382136703824808519160519391792461547017255443787984448013396011287448206087169880961148252586300290473139869572249591627892711316558144010261006684045712066396192147502866772483122459511876911116 []
noncomputable def G3:List AR->Nat->List Af->Bf
 | [],_,_=>[]
 | _::_,_,[]=>[]
 | o::r,n,a::as=>match EE n a with
  | true=>(match alive o with
   | some o'=>(a,o')::G3 r (n+1) as
   | none=>G3 r (n+1) as)
  | false=>G3 r (n+1) (a::as)
noncomputable def N4(h:AY):Bf:=G3 h.objs.toList 0 asL
noncomputable def HC:List (Af×List Nat):=[(115,[30]),(129,[32,0]),(149,[33,0]),(175,[38,0]),(203,[39,0]),(210,[39,1]),(217,[39,2]),(231,[39,4]),(245,[39,6]),(259,[39,8]),(287,[39,12]),(294,[39,13]),(308,[39,15]),(315,[39,16]),(336,[39,19]),(350,[39,21]),(371,[39,24]),(408,[44,0]),(429,[45,0]),(471,[45,6]),(506,[45,11]),(532,[46]),(539,[47]),(553,[50,0]),(560,[50,1]),(581,[51,0]),(588,[51,1]),(609,[52,0]),(616,[52,1]),(637,[53,0]),(642,[53,1]),(719,[56,0]),(726,[56,1]),(731,[56,2]),(736,[56,3]),(743,[56,4]),(750,[56,5]),(755,[56,6]),(790,[56,11]),(807,[56,14]),(819,[57]),(826,[58]),(831,[59]),(838,[61]),(845,[62]),(850,[63]),(855,[65]),(860,[66]),(867,[67]),(879,[68,0]),(886,[68,1]),(893,[68,2]),(898,[68,3]),(905,[68,4]),(917,[69]),(924,[71]),(931,[72]),(938,[73]),(945,[74]),(952,[75]),(957,[76]),(962,[77]),(967,[78]),(974,[79]),(981,[80]),(988,[81]),(993,[82])]
noncomputable def UK(s:AL):Option (Ac×PG×List AL×Scope):=if h:s.ctorIdx=0 then some (Stmt.FunctionDef.elim (motive_2:=λz=>Ac×PG×List AL×Scope) s h λn a b z z z sc z z z=>(n,a,b,sc))else none
noncomputable def Abk(s:AL):Option (Ac×List AL):=if h:s.ctorIdx=2 then some (Stmt.ClassDef.elim (motive_2:=λz=>Ac×List AL) s h λcn z z b z z z z z z z=>(cn,b))else none
noncomputable def Il(p:CC):List Nat->Option C0
 | [i]=>ob p.main.body[i]? λs=>ob (UK s) λq=>some ⟨q.1,q.1,q.2.1,q.2.2.1,q.2.2.2⟩
 | [i,j]=>ob p.main.body[i]? λs=>ob (Abk s) λc=>ob c.2[j]? λs=>ob (UK s) λq=>some ⟨q.1,c.1++Ab "." ++ q.1,q.2.1,q.2.2.1,q.2.2.2⟩
 | _=>none
noncomputable def G4:List Ac:=[Ab "why",Ab "function",Ab "at"]
noncomputable def UL(K:Bf):Bool:=FW.all (UE K) && EI.all (NX K) && Kl.all (UF K) && HB.all (UG K) && Gp.all (UH K) && Km.all (UI K)
noncomputable def UM(K:Bf):Bool:=Ii K 152 && (findIn K (.ref 152) "__init__" == some (some (.ref 149))) && (typeIn K (.ref 149) == some (.type "function")) && (typeIn K (.ref 152) == some (.type "type")) && (nsIn K Eb "Exception" == some none) &&
 (nsIn K Eb "WasmFault" == some (some (.ref 132))) && Ih K 132 "__init__" 129 && G4.all (Ij K 152)
noncomputable def UN(K:Bf):Bool:=(findIn K (.ref 152) "__getattribute__" == some (some (.builtin "BaseException.__getattribute__"))) && (findIn K (.ref 152) "__getattr__" == some none) && (subIn K (.ref 152) (.type "BaseException") == some true) &&
 (subIn K (.ref 152) (.ref 152) == some true) && PH K 152 && G4.all (λy=>findIn K (.ref 152) y == some none)
noncomputable def Kn(K:Bf):Bool:=UL K && UM K && UN K
noncomputable def LG(s:Aq):Bool×List (Option C0):=(Kn (N4 s.heap),HC.map λp=>EJ (N4 s.heap) p.1)
noncomputable def LH(_:B5):Bool×List (Option C0):=(true,HC.map λp=>Il pw p.2)
inductive Kd where
 | tup
 | lst
 | dct (ks:List Int)
 | ins (C:Af) (xs:List Ac)
inductive T where
 | none
 | bool (b:Bool)
 | int (i:Int)
 | str (x:Ac)
 | node (k:Kd) (ts:List T)
inductive W where
 | own (n:Nat)
 | fz (t:T)
 | junk
section
set_option maxHeartbeats 0
theorem Abl(w:B5)(os:PJ):(Jj pw (w.withFollow "special-get-raises" false) 11 (some (.ref 6)) 7200 (s0 (w.withFollow "special-get-raises" false) os) (topStub pw)).map (λs=>N0 pw qv Ik (λz=>true) LG (ED (w.withFollow "special-get-raises" false).params) s.abs)=some ((true,openGood qv Ik),LH (w.withFollow "special-get-raises" false)):=by kernel_rfl
theorem Abm(w:B5)(os:PJ):(Jj pw (w.withFollow "special-get-raises" true) 11 (some (.ref 6)) 7200 (s0 (w.withFollow "special-get-raises" true) os) (topStub pw)).map (λs=>N0 pw qv Ik (λz=>true) LG (ED (w.withFollow "special-get-raises" true).params) s.abs)=some ((true,openGood qv Ik),LH (w.withFollow "special-get-raises" true)):=by kernel_rfl
theorem Abn:LeftO pw qv Ik (λz=>true) LG LH 7200:=Abh Abi (by kernel_rfl) Abj (byRow2 "special-get-raises" (P:=λw=>∀os,_) Abl Abm)
end
section
set_option maxHeartbeats 1000000
theorem Abo{p:CC}(a:(sreFenced p.main && ((moduleNames p.main.body).isEmpty || lookedIntoSs (moduleNames p.main.body) p.main.body))=true)(b:namesResolve p=true)(c:p.boundNames.all (λn => !worldNames.contains n)=true)
  (d:ZC { strict := !(PM p.main.body).all cThrough.contains,foot:=none,bare:=(["vars","dir","locals"]:List Ac).filter (readsOut p p.main.body) } p.main.body=true) (e:PO p p.main.body (λz n=>attrL n)=true):Tw p=true:=by
 unfold Tw;rw[a,b,c,d,e];rfl
theorem Abp{r:OpenRow}(h:Tw r.prog=true)(k:(true && r.loose.isEmpty && r.makers.isEmpty &&
 (r.records.isEmpty || r.raises.all λct=>ct.1 != .builtin "AttributeError" && ct.1 != .builtin "TypeError") &&
 (r.raises.all λct=>match ct.1 with | .builtin n => !r.prog.boundNames.contains (Ab n) && !ofTheWorld.contains n | .own _=>true) &&
 decide (r.records.map (·.1)).Nodup && (r.records.all λx => !x.1.opensWith "__" && !ZD x.1 && r.prog.boundNames.contains x.1 && x.2.all λf => !f.1.opensWith "__") &&
 r.toRowW.solid && r.pre.litsOk && r.post.litsOk && r.raises.all (·.2.litsOk) &&
 r.mutates.all (λi=>match r.args[i]? with
  | some sh => !sh.arms.any WShape.isObj
  | none=>false) &&
 r.within.all (λi=>decide (i<r.args.length)) && r.same.all (λi=>decide (i<r.args.length)))=true):r.partSaid=true:=by
 unfold OpenRow.partSaid;rw[h];exact k
theorem Abq{r:OpenRow}(h:r.partSaid=true)(k:(true && r.prog.boundNames.contains r.name && !startupNames.contains r.name)=true):r.wellSaid=true:=by
 unfold OpenRow.wellSaid;rw[h];exact k
theorem Abr{l:OpenLaw}(h:l.row.wellSaid=true)(k:(true && decide (l.foot<=(behindTheImports l.prog).length) && l.footing.all footLine && noClassBlock l.prog l.footing &&
 l.most.all (λn=>decide (63<=n)) && l.bound.all (λn=>decide (2 ^ 63<=n)) &&
 ZC { strict:=true,foot:=some l.bound',writes:=l.writes,may:=l.may } l.footing &&
 defStands l.about l.above && l.namesIt &&
 (["type","isinstance","issubclass","getattr","hasattr"]:List Ac).all (λn=>l.about != [n]) && l.bound'.all (λn => !ZD n || l.about == [n] || !l.reads n) && (!l.writes || (l.prog.main.body.flatMap AnE).all λn => !l.reads n) && (l.prog.main.body.flatMap AnE).all (λn => !l.reads n || (drawsOf n l.prog.main.body).all λmn=>mn.2 != ("attrgetter" : Ac) && mn.2 != ("methodcaller" : Ac)) &&
 PO l.prog l.footing (λsc n=>(!(["type","isinstance","issubclass","getattr","hasattr"]:List Ac).contains n || sc.names.lookup n == some .globalImplicit) &&
  (l.may != some n || sc.kind == .module || sc.names.lookup n == some .globalImplicit)) &&
 l.own.contains l.name && l.own.eraseDups.length == l.own.length && l.own.all (λn => !ZD n) &&
 PO l.prog l.above (λz n => !l.own.contains n) && PO l.prog l.footing λsc n=>sc.kind == .module || sc.names.lookup n != some .globalExplicit)=true):l.wellSaid=true:=by
 unfold OpenLaw.wellSaid;rw[h];exact k
theorem Abs:namesResolve PySem.Challenge.rw_pb0609_01.row.prog=true:=by kernel_rfl
theorem Abt:ZC { strict := !(PM PySem.Challenge.rw_pb0609_01.row.prog.main.body).all cThrough.contains,foot:=none,bare:=(["vars","dir","locals"]:List Ac).filter (readsOut PySem.Challenge.rw_pb0609_01.row.prog PySem.Challenge.rw_pb0609_01.row.prog.main.body) } PySem.Challenge.rw_pb0609_01.row.prog.main.body=true:=by kernel_rfl
theorem Abu:PO PySem.Challenge.rw_pb0609_01.row.prog PySem.Challenge.rw_pb0609_01.row.prog.main.body (λz n=>attrL n)=true:=by kernel_rfl
theorem Abv:Tw PySem.Challenge.rw_pb0609_01.row.prog=true:=Abo (by kernel_rfl) Abs (by kernel_rfl) Abt Abu
theorem Abw:PySem.Challenge.rw_pb0609_01.row.wellSaid=true:=Abq (Abp Abv (by kernel_rfl)) (by kernel_rfl)
theorem Abx:PySem.Challenge.rw_pb0609_01.wellSaid=true:=Abr Abw (by kernel_rfl)
end
section
theorem T'{b c:Nat}(h:a<=b)(k:b<=c):a<=c:=AC h k
theorem A'{b c:Nat}(h:a<=b)(k:c<=d):a+c<=b+d:=Dy h k
theorem L'{b:Nat}(h:a<b):a<=b:=Dz h
theorem M'(n:Nat){a b:Nat}(h:a<=b):n*a<=n*b:=Hv n h
theorem Q'{b:Nat}(h:a=b):a<=b:=Lm h
theorem D'{b:Nat}(h:PN a b=true):a<=b:=Nh h
theorem S'{x y b:Nat}(h:a<=b):x+a+y<=x+(y+b):=by rw[ZE,PP a y];exact A' (AK x) (A' (AK y) h)
theorem UO:x0<=4000->x0<4100:=by intros;exact FK (by assumption) (by decide)
theorem Qp:x0+1<x1+1->x0<x1:=by intros;exact PT (by assumption)
theorem N5:x0<x1->x1=x1-1+1:=λh=>(AnF (FK (Gl _) h)).symm
theorem om3:x0<=x1->Tx x0 x1=x0:=by intros;simp_all
theorem om4:Tx x0 (x1-x2)<=x1:=AC (AnG _ _) (Ni _ _)
theorem om5:x0<=1000->x0=x1->x1<=1000:=by intros;subst_vars;assumption
theorem om6:x0<64->x0<=4000:=by decide +revert
theorem om7:x0<=4000->0+x0<=4000:=by intros;simp +arith at *;first | done | assumption
theorem Aby:x0<=x1->x2<=4000->x1<x2->x0<=4000:=λa b c=>T' a (T' (L' c) b)
theorem Abz:x0<=x1->x0<=x1+1:=by intros;exact AnH (by assumption)
theorem Qq:¬x0<x1->x1<=x0:=by intros;simp +arith at *;first | done | assumption
theorem UP:x0+1<=x1->x1-x0=x1-(x0+1)+1:=λh=>by
 rw[AnI];exact(AnF (AnJ h)).symm
theorem AbA:x0+1<=x1->x0<=x1:=by intros;exact Ty (by assumption)
theorem AbB:x0<5->x0=0\/x0=1\/x0=2\/x0=3\/x0=4:=by decide +revert
theorem AbC:x0<4->x0=0\/x0=1\/x0=2\/x0=3:=by decide +revert
theorem UQ:x0<3->x0=0\/x0=1\/x0=2:=by decide +revert
theorem US:x0<2->x0=0\/x0=1:=by decide +revert
theorem UT:2<=7:=by intros;simp +arith at *;first | done | assumption
theorem AbD:x0<=7->x0+1<=4000:=by intros;exact FK (by assumption) (by decide)
theorem AbE:x0<x1->x1<=x2->x2<=7->x0<=7:=λa b c=>T' (L' a) (T' b c)
theorem UU:x0<x1->x1<=7->x0-x2<=4000:=λh1 h2=>AC (Ni _ _) (AC (Dz h1) (AC h2 (by decide)))
theorem Qr:x0<=x1->(↑x1:Int)-(↑x0:Int)=(↑(x1-x0):Int):=λh=>(AnK h).symm
theorem AbF:x0<=x1->¬x1<x0:=by intros;simp +arith at *;first | done | assumption
theorem UV:0<=2:=by intros;simp +arith at *;first | done | assumption
theorem Qs:2<=2:=by intros;simp +arith at *;first | done | assumption
theorem LI:1<=2:=by simp +arith
theorem AbG:x0<=100->x1<=x0->x2<=2->x1+x2<=4000:=λa b c=>T' (A' (T' b a) c) (D' rfl)
theorem AbH:x0<=100->x1<=2->x0+x1<=4000:=λa b=>T' (A' a b) (D' rfl)
theorem AbI:x0<=2*x1->x2<=2->x0+x2<=2*(x1+1):=λa b=>A' a b
theorem AbJ:0<x0->x0<=100->(↑x0:Int)≠0/\(↑x0:Int).natAbs<1073741824:=λh1 h2=>⟨Int.ne_of_gt (Ln.mpr h1),FK h2 (by decide)⟩
theorem AbK:0<x0->(↑x0:Int)≠0:=by lia
theorem AbL{x0:Int}:x0<(↑x1:Int)->x0=(↑x2:Int)->x2<x1:=by intros;simp_all
theorem UW:0<x0->0<(↑x0:Int):=by intros;simp_all
theorem AbM:x0<=100->x1<=100->x1+x0+1<=4000:=λa b=>T' (Fm (A' b a)) (D' rfl)
theorem Ko:x0<=100->x0+1<=4000:=by intros;exact FK (by assumption) (by decide)
theorem AbN:x0<4->x1<=2*x0->x1+(0+1)<=4000:=by lia
theorem AbO:x0<4->x0<=4000:=by decide +revert
theorem AbP:x0<4->x1<x0->x2<=2*x1->x2<=100:=λa b c=>T' c (T' (M' 2 (T' (L' b) (L' a))) (D' rfl))
theorem AbQ:¬x0<x1->¬(↑x0:Int)<(↑x1:Int):=by intros;simp +arith at *;first | done | assumption
theorem AbR:x0<=63->x1<x0->x1<=4000:=by lia
theorem Qt:x0<x1->(↑x0:Int)<(↑x1:Int):=by intros;simp +arith at *;first | done | assumption
theorem AbS:x0<=100->x1<=300->x2<=1*x0->x3<=1->x2+x1+0+x3<=4000:=λa b c d=>by
 rw[Nj]at c;exact AC (Dy (Dy (Dy (AC c a) b) (AK 0)) d) (by decide)
theorem AbT:x0<=100->x1<=1*x0->x2<=1->x1+0+0+x2<=4000:=λa b c=>T' (A' (T' b (M' 1 a)) c) (D' rfl)
theorem AbU:x0<3->(↑x0:Int).natAbs<9223372036854775808:=by intros;exact AC (by assumption) (by decide)
theorem AbV:x0<=900->x1<3->x2<1+x1->x3<=2*x2->x0+x3<=1000:=λa b c d=>T' (A' a (T' d (M' 2 (T' (L' c) (GP (L' b) 1))))) (D' rfl)
theorem AbW:x0<3->x1<1+x0->x1<=100:=by lia
theorem AbX:x0<3->1+x0<=4000:=by decide +revert
theorem AbY:x0<=1000->x1<=1->x0+x1<=4000:=λa b=>T' (A' a b) (D' rfl)
theorem AbZ:x0<=100->x1<3->x2<=6*x1->x0+x2<=900:=λa b c=>T' (A' a (T' c (M' 6 (L' b)))) (D' rfl)
theorem Qu:x0<3->x1<=1*x0->x1<=100:=λa b=>T' b (T' (M' 1 (L' a)) (D' rfl))
theorem Ab0:x0<3->x1<=2*x0->x1<=300:=λa b=>T' b (T' (M' 2 (L' a)) (D' rfl))
theorem Ab1:0<x0->¬x0=0:=by lia
theorem Ab2:x0<=4->x1<x0->x1<=100:=λa b=>T' (L' b) (T' a (D' rfl))
theorem Ab3:x0<=6*x1->x1<=1*x2->x0<=6*x2:=λa b=>T' a (M' 6 (T' b (Q' (Nj _))))
theorem N6:x0<=2*x1->x1<=3->x0<=6:=by lia
theorem Ab4:x0<=2*x1->x1<=1*x2->x0<=2*x2:=λa b=>T' a (M' 2 (T' b (Q' (Nj _))))
theorem Ab5:x0<3->1+x0<=3:=by decide +revert
theorem LJ:x0<3->0<x1/\x1<=4->x2=x0+x1->x2<=100:=λa b c=>c▸AC (Dy (Dz a) b.2) (by decide)
theorem N7:x0<3->x0<=100:=by decide +revert
theorem Ab6:x0<=1*3->x1<=2*3->x2<=1*x0->x2+x1<=100:=λa b c=>T' (A' (T' c (M' 1 a)) b) (D' rfl)
theorem Ab7:x0<=1*3->x0<=100:=by intros;exact AC (by assumption) (by decide)
theorem Ab8:0<x0/\x0<=4->x0<=4000:=λa=>T' a.2 (D' rfl)
theorem Ab9:x0<x1->x0<x1+x2:=λa=>T' a (GQ _ _)
theorem Aca:x0<=2*x1->x1<4->x0+(0+1)<=7:=λa b=>Tz (T' a (M' 2 (Nat.le_of_lt_succ b))) 1
theorem Acb:x0<4->0<1+x0/\1+x0<=4:=by decide +revert
theorem Acc:0<x0+(1+x1):=by intros;simp +arith at *;first | done | assumption
theorem Acd:(↑x0:Int)=(↑x1:Int)↔x0=x1:=⟨λa=>TB a,λa=>congrArg _ a⟩
theorem UX:x0=x1->(↑x1:Int)=(↑x0:Int):=by intros;simp_all
theorem UY:(↑x0:Int)=(↑x1:Int)->x1=x0:=by lia
theorem UZ:x0<3->x0<=4000:=by decide +revert
theorem Ace:x0<=7->(↑x1:Int)<(↑x0:Int)->x1<=4000:=λa b=>T' (L' (Ln.mp b)) (T' a (D' rfl))
theorem Acf:(↑x0:Int)<(↑x1:Int)->x0<x1:=by intros;simp +arith at *;first | done | assumption
theorem U0:x0<=100->x1=x0->x1<=100:=by intros;subst_vars;assumption
theorem Acg:x0=x1->x2<x1->x2<x0:=by intros;subst_vars;assumption
theorem Ach:x0<=100->x0<=4000:=by intros;exact AC (by assumption) (by decide)
theorem Aci:x0<x1->x2=x1->x0<x2:=by intros;subst_vars;assumption
theorem Acj:x0<x1->x1<=100->x0<=4000:=λa b=>T' (L' a) (T' b (D' rfl))
theorem Ack:x0<x1->x2=x1->0<=(↑x0:Int)/\(↑x0:Int)<(↑x2:Int):=by intros;simp_all
theorem Acl:x0<=x1->x1<x2->x0+1<=x2:=λa b=>T' (Fm a) b
theorem Acm:x0<=x1->x0<=x1:=by intros;subst_vars;assumption
theorem Acn:x0<=x1->x0<x1+1:=by intros;exact Fm (by assumption)
theorem Aco:¬x0+x1<x0:=by intros;simp_all
theorem Acp:x0+x1=x2->¬x3<x1->x2<=x0+x3:=λa b=>a▸GP (DA.mp b) _
theorem Acq:x0+x1=x2->x3<x1->x0+x3<x2:=λa b=>a▸Nat.add_lt_add_left b _
theorem Qv:x0<=63->x0<=4000:=by intros;exact AC (by assumption) (by decide)
theorem Acr:x0<3->x1<=7->x2<=1->x0+x1+x2<=4000:=λa b c=>T' (A' (A' (L' a) b) c) (D' rfl)
theorem Acs:¬x0<=x1->¬(↑x0:Int)<=(↑x1:Int):=by intros;simp +arith at *;first | done | assumption
theorem Act:x0<=x1->(↑x0:Int)<=(↑x1:Int):=by intros;simp +arith at *;first | done | assumption
theorem Acu:x0<=7->x1<x0->x1-x2<=4000:=λh2 h1=>AC (Ni _ _) (AC (Dz h1) (AC h2 (by decide)))
theorem Acv:7<=4000:=by simp +arith
theorem U3:x0<=7->x0<64:=by intros;exact FK (by assumption) (by decide)
theorem Acw:x0<=7->x0<=100:=by intros;exact AC (by assumption) (by decide)
theorem Acx:x0<3->x1<=7->x0+x1<=4000:=by lia
theorem Acy:x0<=7->x0+3<=4000:=by decide +revert
theorem Acz:x0<=7->x0+2<=4000:=by decide +revert
theorem AcA:((↑x0:Int)+2 - -1).toNat=x0+3:=rfl
theorem U4:7<=1000:=by intros;simp +arith at *;first | done | assumption
theorem Qw:x0<=3->x0<=4000:=by intros;exact AC (by assumption) (by decide)
theorem AcB:x0<=3->1*(↑x0:Int).toNat<=256/\-9223372036854775808<=(↑x0:Int)/\(↑x0:Int)<9223372036854775808:=by decide +revert
theorem AcC:x0<=3->x1<=3->x1+x0<=4000:=by lia
theorem AcD{x0:Int}:0<=x0/\x0<=2->1*x0.toNat<=256/\-9223372036854775808<=x0/\x0<9223372036854775808:=λa=>⟨T' (Q' (Nj _)) (T' (Int.toNat_le.mpr a.2) (D' rfl)),J6 (by decide) a.1,H9 a.2 (by decide)⟩
theorem AcE:x0<3->x1<=4->x0+x1<=4000:=by lia
theorem AcF:(↑(x0+x1):Int)-(↑x1:Int)=(↑x0:Int):=by intros;simp_all
theorem AcG:x0<=0+x1->x1<=1*x2->x3<=x0+x4->x4<=2*x5->x2<=3->x5<=3->x3<=100:=λa b c d e f=>by
 rw[J5]at a;rw[Nj]at b;exact AC c (AC (Dy (AC a (AC b e)) (AC d (Hv 2 f))) (by decide))
theorem AcH:x0<=0+x1->x1<=1*x2->x2<=3->x0<=100:=λa b c=>T' a (T' (GP (T' b (M' 1 c)) 0) (D' rfl))
theorem AcI:x0<=100->x1<=x0+x2->x2<=6*x3->x3<x4->x4<=3->x1<=1000:=λa b c d e=>AC b (AC (Dy a (AC c (Hv 6 (AC (Dz d) e)))) (by decide))
theorem AcJ:x0<=1000->x1<=3->x2<=x0+x3->x3<=2*x4->x4<x1->x5<=2->x2+x5<=4000:=λa b c d e f=>AC (Dy (AC c (Dy a (AC d (Hv 2 (AC (Dz e) b))))) f) (by decide)
theorem AcK:x0<=100->x1<=x0+x2->x2<=2*x3->x3<x4->x4<=3->x5<=2->x1+x5<=4000:=λa b c d e f=>T' (A' (T' b (A' a (T' c (M' 2 (T' (L' d) e))))) f) (D' rfl)
theorem AcL:x0<=0+x1->x1<=1*x2->x2<x3->x3<=3->x0<=4000:=λa b c d=>by
 rw[J5]at a;rw[Nj]at b;exact AC a (AC b (AC (Dz c) (AC d (by decide))))
theorem AcM:x0<x0+(x1+1):=by intros;simp_all
theorem AcN:x0<=x1->x2<=x3->x2+x0<=x1+x3:=λa b=>T' (A' b a) (Q' (PP _ _))
theorem AcO:x0+x1<=4000->x2<=x0+x3->x3<=x4->x4+x5=x1->x2<=4000:=λa b c d=>T' (T' b (GP (T' c (d▸GQ _ _)) _)) a
theorem U5:x0<=x1+1->x0+x2<=x1+(x2+1):=by intros;simp +arith at *;first | done | assumption
theorem U6:x0<=x0+1:=by intros;simp_all
theorem Qx:¬x0=x1->¬(↑x0:Int)=(↑x1:Int):=λa b=>a (TB b)
theorem AcP:0<=(↑x0:Int):=by intros;simp_all
theorem U7:¬(↑x0:Int)<0:=by intros;simp_all
theorem AcQ:x0<=4000->-9223372036854775808<=(↑x0:Int)/\(↑x0:Int)<9223372036854775808:=λa=>⟨J6 (by decide) (ZF x0),H9 (Ia.mpr a) (by decide)⟩
theorem AcR:x0<=4000->-2 ^ 62<=(↑x0:Int)/\(↑x0:Int)<2 ^ 62:=λa=>⟨J6 (by decide) (ZF x0),H9 (Ia.mpr a) (by decide)⟩
theorem AcS:x0+x1<=4000->x2<=x1->x0+x2<=4000:=λa b=>T' (GP b _) a
theorem AcT:x0<=4000->x0-x1<=4000:=λh=>AC (Ni _ _) h
theorem AcU:¬x0<x1->(↑x0:Int)-(↑x1:Int)=(↑(x0-x1):Int):=λh=>(AnK (PU h)).symm
theorem AcV:¬x0<x1->(↑x1:Int)<=(↑x0:Int):=by intros;simp +arith at *;first | done | assumption
theorem AcW:x0<x1->¬(↑x1:Int)<=(↑x0:Int):=by intros;simp_all
theorem AcX:x0<=100->x1<=6*x2->x2<x3->x3<=3->x0+x1<=1000:=λa b c d=>T' (A' a (T' b (M' 6 (T' (L' c) d)))) (D' rfl)
theorem AcY:x0<=1000->x1<=3->x2<=2*x3->x3<x1->x4<=2->x5<=x4->x0+x2+x5<=4000:=λa b c d e f=>AC (Dy (Dy a (AC c (Hv 2 (AC (Dz d) b)))) (AC f e)) (by decide)
theorem AcZ:x0<=100->x1<=2*x2->x2<x3->x3<=3->x4<=2->x5<=x4->x0+x1+x5<=4000:=λa b c d e f=>AC (Dy (Dy a (AC b (Hv 2 (AC (Dz c) d)))) (AC f e)) (by decide)
theorem Ac0:x0<=3->x1<=3->x0+x1+1<=4000:=λa b=>T' (Fm (A' a b)) (D' rfl)
theorem Ac1:x0<=7->x1<=x0->x1<=4000:=by lia
theorem Ac2:x0<=3->x1<=3->x2<=1->x3<=2*x4->x4<=3->x0+x1+x2+x3<=100:=λa b c d e=>T' (A' (A' (A' a b) c) (T' d (M' 2 e))) (D' rfl)
theorem Ac3:x0<=3->x1<=3->x2<=1->x0+x1+x2<=100:=λa b c=>T' (A' (A' a b) c) (D' rfl)
theorem Ac4:x0<=7->x1<=100->x1+7*(x0-0)<1000:=λh1 h2=>FK (Dy h2 (Hv 7 h1)) (by decide)
theorem Ac5{x6:Nat}:x0<=3->x1<=3->x2<=1->x3<=2*x4->x4<=3->x5<=6*x6->x6<=3->x0+x1+x2+x3+x5<=100:=λa b c d e f g=>AC (Dy (Dy (Dy (Dy a b) c) (AC d (Hv 2 e))) (AC f (Hv 6 g))) (by decide)
theorem Ac6:x0<=3->x1<=3->x0+x1<=4000:=by lia
theorem Ac7:x0<=x1->x1<=7->x0<64:=λa b=>T' (Fm (T' a b)) (D' rfl)
theorem Ac8:x0+1<=1000->x1+(0+1)+7*(x2-x3)<x0+1->x4<=7->x1+x4<=4000:=λa h c=>AC (Dy (AC (AC (GQ x1 1) (GQ _ _)) (AC (Dz h) a)) c) (by decide)
theorem Ac9:x0<=7->x1<x0->x1<=4000:=λa b=>AC (Dz b) (AC a (by decide))
theorem U8:x0<=7->x1+(0+1)<=x0->x1<=4000:=by lia
theorem Qy:x0+1<=1000->x0<=1000:=by intros;exact Ty (by assumption)
theorem Ada:x0+(0+1)+7*(x1-x2)<x3+1->x2+(0+1)<=x1->x4<=7->x5<=x4->x0+x5+7*(x1-(x2+(0+1)))<x3:=λh h1 h2 h3=>by
 rw[UP h1,Nat.mul_succ,Tt]at h;rw[ZE,PP x5];exact FK (GP (GP (AC h3 h2) _) _) (PT h)
theorem Adb:x0<x1+x2->¬x0<x1->x0-x1<x2:=λa b=>AnL (PU b) a
theorem Adc:x0+(0+1)+7*(x1-x2)<x3+1->x0+7*(x1-(x2+(0+1)))<x3:=λh=>by
 rw[Tt]at h;exact FK (GP (Hv 7 (Nat.sub_le_sub_left (Hw x2) x1)) x0) (PT h)
theorem Ade:x0+(0+1)+7*(x1-x2)<x3+1->x0+7*(x1-x2)<x3:=by intros;simp +arith at *;first | done | assumption
theorem Adf:x0<=x0+x1:=by intros;simp +arith at *;first | done | assumption
theorem Adg:x0+1+x1=x0+(x1+1):=by intros;simp +arith at *;first | done | assumption
theorem Adh:x0<7->(↑x0:Int)<7:=by decide +revert
theorem Adi:3<=7:=by intros;simp +arith at *;first | done | assumption
theorem Adj:x0<=3->x1<x0->x2<=0+x1->x2+1<=4000:=λa b c=>T' (Fm (T' c (Q' (J5 _)))) (T' (T' b a) (D' rfl))
theorem Adk:x0<=3->x1<x0->x1<=4000:=λa b=>T' (L' b) (T' a (D' rfl))
theorem Adl:x0<x1->x1<=3->x0<=4000:=by lia
theorem Adm:x0<=100->x0+(0+1)+0<=4000:=by intros;exact FK (by assumption) (by decide)
theorem Adn:x0+(x1+1)=x2->x3+x2<=10->x3+x0<=100:=λe h=>AC (AC (GP (e▸GQ x0 (x1+1)) x3) h) (by decide)
theorem Ado:x0<=7->x1<=3->x2<=x0->x3<=x1->x3+x2<=10:=λa b c d=>T' (A' (T' d b) (T' c a)) (D' rfl)
theorem Adp:x0<=x1->x1<x0+x2->x1-x0<x2:=λa b=>AnL a b
theorem Adq:x0<=7->x1<x0->x1+1<=4000:=by lia
theorem Adr:x0 ≥ x1->x0-x1=0->x0=x1:=λh e=>AnM (AnN.mp e) h
theorem Ads:x0<x1->1<=x1-x0:=λa=>AnJ a
theorem U9:x0+100*x1<=9000->x2=9900->x0+1+20<x2:=λa b=>T' (Tz (T' (GQ _ _) a) 22) (T' (D' rfl) (Q' b.symm))
theorem Adt:x0<x1->x2<=4000->x1=x2->(↑x0:Int)<2 ^ 63-1:=λa b c=>H9 (Ia.mpr (T' (L' a) (T' (Q' c) b))) (by decide)
theorem Adu:x0<x1->x1=x2->x0<x2:=by intros;simp_all
theorem Adv:x0<x1->x0+1<x1+1:=by intros;exact Fm (by assumption)
theorem Adw:x0=x1->x1<=x2+1->x2<900->x0<=1000:=λa b c=>T' (T' (Q' a) (T' b c)) (D' rfl)
theorem Adx:x0<=x1+1->x0+1<=x1+1+1:=by intros;exact Fm (by assumption)
theorem Ady:x0+100*(x1+1)<=9000->x0+(1+3*0)+100*x1<=9000:=λa=>T' (S' (D' rfl)) a
theorem Adz:x0<=1->x1+10*(x2+1)<=900->x1+x0+10*x2<=900:=λa b=>T' (S' (T' a (D' rfl))) b
theorem AdA:x0<=x1->x2+100*x1<=9000->x2+100*x0<=9000:=λa b=>T' (GP (M' 100 a) _) b
theorem AdB:x0<=x1->x2+10*x1<=900->x2+10*x0<=900:=λa h=>AC (GP (Hv 10 a) x2) h
theorem AdC:x0<=4000->x0<=2 ^ 24:=by intros;exact AC (by assumption) (by decide)
theorem AdD{x0 x1:Int}:x0<2 ^ 62->-2 ^ 62<=x1->x0-x1<2 ^ 63:=λa b=>TC (Int.sub_lt_sub_of_lt_of_le a b) (by decide)
theorem Qz:x0<=x1->x2=x0->x2<=x1:=by intros;subst_vars;assumption
theorem AdE:¬x0<x1->(↑x1:Int)-(↑x0:Int)<=0:=λa=>Int.sub_nonpos_of_le (Ia.mpr (DA.mp a))
theorem AdF:(↑x0:Int)-((↑x1:Int)+1)=(↑x0:Int)-(↑x1:Int)-1:=by intros;simp +arith at *;first | done | assumption
theorem AdG:x0<x1->0<(↑x1:Int)-(↑x0:Int):=by intros;simp_all
theorem AdH:x0=x1->x2=x0->x1=x2:=by intros;simp_all
theorem AdI:x0=x1->¬x1>x0:=by intros;simp_all
theorem Va:x0+1<=x0+2:=by intros;simp +arith at *;first | done | assumption
theorem Vb:2<=x0->3<=x0+1:=by intros;exact Fm (by assumption)
theorem AdJ:x0+10*x1<=900->x0<1000:=λa=>T' (Fm (T' (GQ _ _) a)) (D' rfl)
theorem AdK:x0+100*(x1+2)<=9000->x0+3+100*(x1+1)<=9000:=λa=>T' (S' (D' rfl)) a
theorem AdL:x0+10*(x1+2)<=900->x0+1+10*(x1+1)<=900:=λa=>T' (S' (D' rfl)) a
theorem AdM:2<=2*(x0+1):=by intros;simp +arith at *;first | done | assumption
theorem AdN:x0<=16777216->¬x0>16777216:=by intros;simp_all
theorem AdO:x0<=1000->x0<=16777216+1:=by intros;exact AC (by assumption) (by decide)
theorem AdP:x0<900->x1=x2->x2<=x0+1->x1<=1000:=λa b c=>T' (T' (Q' b) (T' c a)) (D' rfl)
theorem Vc:x0<30->x0<=16777216:=by decide +revert
theorem AdQ:x0=x1->x2=x1->x0=x2:=by intros;simp_all
theorem AdR:x0+100*(x1+1)<=9000->x0+3+100*x1<=9000:=λa=>T' (S' (D' rfl)) a
theorem AdS:x0+10*(x1+1)<=900->x0+1+10*x1<=900:=λa=>T' (S' (D' rfl)) a
theorem AdT:x0+10*(x1+1)<=900->x0<1000:=by lia
theorem AdU:x0+x1<=4000->x2+1=x0->x3+1=x1->x2+1+(x3+1)<=16384:=by
 rintro h rfl rfl;exact AC h (by decide)
theorem AdV:x0+1=x1->x1+0<=4000->x0+1+0<=16384:=λa b=>T' (T' (Q' a) b) (D' rfl)
theorem AdW:x0=x1->0+x1<=4000->0+x0<=16384:=λa b=>T' (GP (Q' a) 0) (T' b (D' rfl))
theorem AdX{x0:Int}:x0.natAbs<9223372036854775808->x0<2 ^ 64:=λa=>H9 AnO (ZG (Ln.mpr a) (by decide))
theorem AdY{x0:Int}:x0.natAbs<9223372036854775808->-2 ^ 64<x0:=λa=>Int.neg_lt_of_neg_lt (H9 (Int.natAbs_neg x0▸AnO) (ZG (Ln.mpr a) (by decide)))
theorem AdZ:x0<=4000->x0<=16777216:=by intros;exact AC (by assumption) (by decide)
theorem Ad0:x0=4->x0+1<=16777216:=by intros;simp_all
theorem Ad1:x0<=7->x0+1<=16777216:=by intros;exact FK (by assumption) (by decide)
theorem Ad2:x0<=7->x1=x0->x1<4096:=λa b=>T' (Fm (T' (Q' b) a)) (D' rfl)
theorem Ad3:(↑x0:Int)=(↑x1:Int)->x0=x1:=by lia
theorem Ad4:x0=0\/x0=1\/x0=2\/x0=3\/x0=4\/x0=5\/x0=6->x0<7:=by
 rintro(rfl | rfl | rfl | rfl | rfl | rfl | rfl)<;>decide
theorem Vd:x0-0=x0-0:=by intros;simp +arith at *;first | done | assumption
theorem Ve:x0-x1=x2+1->x0-(x1+1)=x2:=λh=>by
 rw[AnI,h];rfl
theorem Vg:x0-x1=x2+1->x1<x0:=λh=>Nat.sub_pos_iff_lt.mp (by rw[h];exact Nat.succ_pos _)
theorem Vh:x0-x1=0->x1<=x0->x1=x0:=λe h=>AnM h (AnN.mp e)
theorem Ad5:x0=x1+1->x0-1=x1:=by intros;simp_all
theorem Ad6:x0=x1+1->0<x0:=by intros;simp_all
theorem Ad7:x0<=7->x0<=16777216:=by intros;exact AC (by assumption) (by decide)
theorem Ad8{x0:Int}:0<=x0/\x0<7->x0.toNat<7:=by intros;simp_all
theorem Ad9:x0<=1000->x1<x0->x2<=x1->x2<=16777216:=λa b c=>T' (T' c (T' (L' b) a)) (D' rfl)
theorem Vi:x0+(x1+1)<x2->x0<x2:=λa=>FK (GQ _ _) a
theorem Aea:x0+(x1+1)<x2->x0+1+x1<x2:=by intros;simp +arith at *;first | done | assumption
theorem Vj:x0+100*x1<=9000->x2=9900->x0+19+1<x2:=λa b=>b▸FK (Tz (AC (GQ _ _) a) 20) (by decide)
theorem Aeb:x0+x1+1<x2->x0<x2:=by lia
theorem Aec:x0+x1+1<x2->x0+1+x1<x2:=by intros;simp +arith at *;first | done | assumption
theorem Aed:x0<=x1->x1<=4000->x0<=4000:=by lia
theorem Aee:Tx (x0-x1) (x2-x1)<=x2:=AC (AnG _ _) (Ni _ _)
theorem Aef{x0:Int}:¬x0<0->0<=x0:=by intros;simp_all
theorem Aeg:x0=x1->x1<=4000->(↑x0:Int)<2 ^ 63:=λa b=>H9 (Ia.mpr (T' (Q' a) b)) (by decide)
theorem Aeh{x0:Int}:0<=x0/\x0<(↑x1:Int)->x2=x1->x0<(↑x2:Int):=by intros;simp_all
theorem Aei{x0:Int}:0<=x0/\x0<(↑x1:Int)->x1<=4000->x0<2 ^ 63:=λa b=>ZG a.2 (H9 (Ia.mpr b) (by decide))
theorem Aej:x0=x1->x2=x3->x1<=4000->x3<=4000->x4=16777216->x0+x2<=x4+1:=by
 rintro rfl rfl a b rfl;exact AC (Dy a b) (by decide)
theorem Aek:x0=x1->x2=x3->x1<=4000->x3<=4000->x0+x2<=8000:=λa b c d=>T' (A' (T' (Q' a) c) (T' (Q' b) d)) (D' rfl)
theorem Ael:x0=x1->x1<=4000->x2=16777216->x3=x4->x4<=4000->x0+x3<=x2+1:=λa b c d e=>T' (A' (T' (Q' a) b) (T' (Q' d) e)) (T' (D' rfl) (Fm (Q' c.symm)))
theorem Aem:x0=x1->x1<=4000->x2=x3->x3<=4000->x0+x2<=8000:=by
 rintro rfl a rfl b;exact AC (Dy a b) (by decide)
theorem Aen:x0+x1<=8000->x2=16777216->¬x0+x1>x2:=λa b=>DA.mpr (T' a (T' (D' rfl) (Q' b.symm)))
theorem Aeo:x0<64->x0<=16777216:=by decide +revert
theorem Aep{x0 x1:Int}:¬x0<=x1->x1<=x0:=λa=>Int.le_of_lt (Int.not_le.mp a)
theorem Aeq{x0 x1 x2:Int}:x0<=x1->x1<=x2->x0<=x2:=λa b=>J6 a b
theorem Aer:x0=x1->x1<=4000->x0<=16384:=by lia
theorem Aes:x0<=4000->x1=x0->(↑x1:Int)<2 ^ 63:=λa b=>H9 (Ia.mpr (T' (Q' b) a)) (by decide)
theorem Aet:x0<=4000->x1=x0->(↑x1:Int)<9223372036854775808:=λa b=>H9 (Ia.mpr (T' (Q' b) a)) (by decide)
theorem Aeu:38+2<=42:=by simp +arith
theorem Aev:2<=38:=by intros;simp +arith at *;first | done | assumption
theorem Aew:x0<=63->x1=x0->x1<=16777216:=λa b=>T' (Q' b) (T' a (D' rfl))
theorem Aex:x0<=63->x1=x0->x1<=Tx 63 x1:=by intros;simp_all
theorem Aey:3<=43:=by intros;simp +arith at *;first | done | assumption
theorem Aez:¬(↑63:Int)<(↑x0:Int)->x0<=63:=λa=>DA.mp λh=>a (Ln.mpr h)
noncomputable abbrev put(s:Aq)(h:AY)(t:Nat):Aq:={ s with heap:=h,toks:=t }
inductive CV where
 | none
 | bool (b:Bool)
 | int (i:Int)
 | str (x:Ac)
 | tup (vs:List CV)
 | ref (n:Nat)
inductive CO where
 | list (vs:List CV)
 | dict (es:List (Int×CV))
 | inst (C:Af) (as:List (Ac×CV))
noncomputable abbrev CH:=List CO
structure Am where
 Φ:List (Af×AR)
 σ:CH
 ad:Nat->Bool->Af
noncomputable def CO.isInst:CO->Bool
 | .inst _ _=>true
 | _=>false
def G5(σ:CH)(i:Nat)(b:Bool):Prop:=∃o,σ[i]? = some o/\(b=true->o.isInst=true)
def AQ(l:Am)(p:Af×AR):Prop:=p∈l.Φ/\∀i b,G5 l.σ i b->l.ad i b≠p.1
noncomputable abbrev Cs(vs:List Ad)(k:Nat):AR:={ cls:=.type "tuple",data:=.seq vs.toArray k }
mutual
inductive VR(l:Am):Ad->CV->Prop
 | none:VR l .none .none
 | bool (b:Bool):VR l (.bool b) (.bool b)
 | int (i:Int) (t:Tok):VR l (.int i t) (.int i)
 | str (x:Ac) (t:Tok):VR l (.str x t) (.str x)
 | tup {a:Af} {vs:List Ad} {k:Nat} {cvs:List CV}:AQ l (a,Cs vs k)->Az l vs cvs->VR l (.ref a) (.tup cvs)
 | ref {a:Af} {n:Nat}:n<l.σ.length->l.ad n false=a->VR l (.ref a) (.ref n)
inductive Az(l:Am):List Ad->List CV->Prop
 | nil:Az l [] []
 | cons {v:Ad} {vs:List Ad} {c:CV} {cs:List CV}:VR l v c->Az l vs cs->Az l (v::vs) (c::cs)
end
theorem VR.ref_inv{l:Am}(h:VR l v (.ref n)):∃a,v=.ref a/\n<l.σ.length/\l.ad n false=a:=by
 rcases h with _ | _ | _ | _ | _ | ⟨h1,h2⟩
 ·exact⟨_,rfl,h1,h2⟩
theorem VR.ref_ad{l:Am}{a:Af}(h:VR l (.ref a) (.ref n)):n<l.σ.length/\l.ad n false=a:=by
 rcases h with _ | _ | _ | _ | _ | ⟨h1,h2⟩
 ·exact⟨h1,h2⟩
theorem VR.tup_inv{l:Am}{cvs:List CV}(h:VR l v (.tup cvs)):∃a vs k,v=.ref a/\AQ l (a,Cs vs k)/\Az l vs cvs:=by
 rcases h with _ | _ | _ | _ | ⟨h1,h2⟩ | _
 ·exact⟨_,_,_,rfl,h1,h2⟩
theorem VR.none_inv{l:Am}(h:VR l v .none):v=.none:=by
 rcases h with _ | _ | _ | _ | _ | _
 ·rfl
theorem VR.bool_inv{l:Am}(h:VR l v (.bool b)):v=.bool b:=by
 rcases h with _ | b | _ | _ | _ | _
 ·rfl
theorem VR.int_inv{l:Am}{i:Int}(h:VR l v (.int i)):∃t,v=.int i t:=by
 rcases h with _ | _ | ⟨_,t⟩ | _ | _ | _
 ·exact⟨t,rfl⟩
theorem VR.str_inv{l:Am}(h:VR l v (.str x)):∃t,v=.str x t:=by
 rcases h with _ | _ | _ | ⟨_,t⟩ | _ | _
 ·exact⟨t,rfl⟩
inductive Di(l:Am):List Ec->List (Ac×CV)->Prop
 | nil:Di l [] []
 | cons {h:Int} {x:Ac} {t:Tok} {v:Ad} {c:CV} {es:List Ec} {as:List (Ac×CV)}:VR l v c->Di l es as->Di l (⟨h,.str x t,v⟩::es) ((x,c)::as)
inductive BD(l:Am):List (Int×Ad)->List (Int×CV)->Prop
 | nil:BD l [] []
 | cons {k:Int} {v:Ad} {c:CV} {es:List (Int×Ad)} {as:List (Int×CV)}:VR l v c->BD l es as->BD l ((k,v)::es) ((k,c)::as)
def OR(prog:CC)(w:B5)(l:Am)(i:Nat):CO->Prop
 | .list vs=>∃ws k,(l.ad i false,listOf ws k)∈l.Φ/\Az l ws.toList vs
 | .dict es=>∃o kvs,(l.ad i false,o)∈l.Φ/\(l.ad i false == TD)=false/\o.IsDictOf (intKind prog w) kvs/\BD l kvs es
 | .inst C as=>∃es k,(l.ad i false,instObj C (l.ad i true))∈l.Φ/\(l.ad i true,dictOf es k)∈l.Φ/\Di l es as
structure LR(prog:CC)(w:B5)(l:Am):Prop where
 nd:(l.Φ.map (·.1)).Nodup
 inj:∀i j a b,G5 l.σ i a->G5 l.σ j b->l.ad i a=l.ad j b->i=j/\a=b
 obj:∀i o,l.σ[i]? = some o->OR prog w l i o
abbrev No:Af->Prop:=λz=>False
structure Ap(D:Af->Prop)(l l':Am):Prop where
 len:l.σ.length<=l'.σ.length
 kind:∀(i:Nat) (o:CO),l.σ[i]? = some o->∃o':CO,l'.σ[i]? = some o'/\CO.isInst o'=CO.isInst o
 ad:∀i b,i<l.σ.length->l'.ad i b=l.ad i b
 oth:∀p,AQ l p->((∃vs k,p.2=Cs vs k)\/¬D p.1)->AQ l' p
theorem Kp(h:o.cls≠.type "tuple"):∀vs k,o≠Cs vs k:=λvs k e=>h (by rw[e])
theorem Gq{fs:Array Ad}(h:o.data=.fields fs):∀vs k,o≠Cs vs k:=λvs k e=>by rw[e]at h;(exfalso;injection h)
theorem Vk{es:Array Ec}(h:o.data=.dict es n):∀vs k,o≠Cs vs k:=λvs k e=>by rw[e]at h;(exfalso;injection h)
theorem AeA{u:Option Ad}(h:o.data=.cell u):∀vs k,o≠Cs vs k:=λvs k e=>by rw[e]at h;(exfalso;injection h)
theorem Ap.refl(l:Am):Ap D l l:=⟨AK _,λz o h=>⟨o,h,rfl⟩,λz z z=>rfl,λz h z=>h⟩
theorem Ap.weaken{l l':Am}(x:Ap No l l'):Ap D l l':=⟨x.len,x.kind,x.ad,λp h z=>x.oth p h (.inr id)⟩
theorem Ap.widen{D':Af->Prop}{l l':Am}(x:Ap D l l')(h:∀a,D a->D' a):Ap D' l l':=⟨x.len,x.kind,x.ad,λp hp q=>x.oth p hp (q.imp id λn d=>n (h _ d))⟩
theorem Ap.narrow{D':Af->Prop}{l l':Am}(x:Ap D l l')(h:∀p,AQ l p->D p.1->D' p.1):Ap D' l l':=⟨x.len,x.kind,x.ad,λp hp q=>x.oth p hp (q.imp id λn d=>n (h _ hp d))⟩
theorem Ap.all{l l':Am}(x:Ap No l l'){p:Af×AR}(h:AQ l p):AQ l' p:=x.oth p h (.inr id)
theorem Ap.trans{a b c:Am}(x:Ap D a b)(y:Ap D b c):Ap D a c :=
 ⟨AC x.len y.len,
   λi o h=>by
  refine Ah (x.kind i o h) ?_;rintro o' h' e;refine Ah (y.kind i o' h') ?_;rintro o'' h'' e';exact⟨o'',h'',e'.trans e⟩,
   λi b h=>(y.ad i b (EX h x.len)).trans (x.ad i b h),λp h q=>y.oth p (x.oth p h q) q⟩
theorem Az.ind{l:Am}{P:List Ad->List CV->Prop}(hn:P [] [])(hc:∀{v vs c cs},VR l v c->Az l vs cs->P vs cs->P (v::vs) (c::cs)){vs:List Ad}{cs:List CV}(h:Az l vs cs):P vs cs :=
 Az.rec (motive_1:=λz z z=>True) (motive_2:=λvs cs z=>P vs cs) trivial (λz=>trivial) (λz z=>trivial) (λz z=>trivial) (λz z z=>trivial) (λz z=>trivial) hn (λa r z ih=>hc a r ih) h
theorem Az.cons_inv{l:Am}{c:CV}{cs:List CV}(h:Az l vs (c::cs)):∃v ws,vs=v::ws/\VR l v c/\Az l ws cs:=by
 rcases h with _ | ⟨a,r⟩
 exact⟨_,_,rfl,a,r⟩
theorem Az.nil_inv{l:Am}(h:Az l vs []):vs=[]:=by
 rcases h with _ | _
 rfl
theorem VR.mono{l l':Am}(x:Ap D l l'){v:Ad}{c:CV}(h:VR l v c):VR l' v c :=
 VR.rec (motive_1:=λv c z=>VR l' v c) (motive_2:=λvs cs z=>Az l' vs cs) .none .bool .int .str (λh z r=>.tup (x.oth _ h (.inl ⟨_,_,rfl⟩)) r) (λh e=>.ref (EX h x.len) ((x.ad _ _ h).trans e)) .nil (λz z a b=>.cons a b) h
theorem Az.mono{l l':Am}(x:Ap D l l'){vs:List Ad}{cs:List CV}(h:Az l vs cs):Az l' vs cs :=
 Az.rec (motive_1:=λv c z=>VR l' v c) (motive_2:=λvs cs z=>Az l' vs cs) .none .bool .int .str (λh z r=>.tup (x.oth _ h (.inl ⟨_,_,rfl⟩)) r) (λh e=>.ref (EX h x.len) ((x.ad _ _ h).trans e)) .nil (λz z a b=>.cons a b) h
theorem Di.mono{l l':Am}(x:Ap D l l'){es:List Ec}{as:List (Ac×CV)}(h:Di l es as):Di l' es as :=
 Di.rec (motive:=λes as z=>Di l' es as) .nil (λa z r=>.cons (a.mono x) r) h
theorem BD.mono{l l':Am}(x:Ap D l l'){es:List (Int×Ad)}{as:List (Int×CV)}(h:BD l es as):BD l' es as :=
 BD.rec (motive:=λes as z=>BD l' es as) .nil (λa z r=>.cons (a.mono x) r) h
section
variable {prog:CC}{w:B5}{l l':Am}
theorem LR.own(R:LR prog w l){i:Nat}{b:Bool}(h:G5 l.σ i b):∃ob,(l.ad i b,ob)∈l.Φ:=by
 refine Ah h ?_;clear h;rintro o h hb;have z:=R.obj i o h;rcases o with vs | es | ⟨C,as⟩
 ·refine Ba z ?_;clear z;rintro ws k hm _;rcases b with _ | _
  ·exact⟨_,hm⟩
  ·have z0:_=_:=hb rfl;exfalso;injection z0
 ·refine Ba z ?_;clear z;rintro ob kvs hm _;rcases b with _ | _
  ·exact⟨_,hm⟩
  ·have z0:_=_:=hb rfl;exfalso;injection z0
 ·refine Bm z ?_;clear z;rintro es k hm hm' _;rcases b with _ | _
  ·exact⟨_,hm⟩
  ·exact⟨_,hm'⟩
theorem OR.mono(x:Ap D l l'){i:Nat}{o:CO}(hi:i<l.σ.length)(z:OR prog w l i o)(hs:∀b ob,(b=true->o.isInst=true)->(l.ad i b,ob)∈l.Φ->(l.ad i b,ob)∈l'.Φ):OR prog w l' i o:=by
 have e:=λb=>x.ad i b hi;rcases o with vs | es | ⟨C,as⟩
 ·refine Ba z ?_;clear z;rintro ws k hm r;exact⟨ws,k,by rw[e];exact hs _ _ (λz=>nomatch z) hm,r.mono x⟩
 ·refine Cj z ?_;clear z;rintro ob kvs hm c d r;exact⟨ob,kvs,by rw[e];exact hs _ _ (λz=>nomatch z) hm,by rw[e];exact c,d,r.mono x⟩
 ·refine Bm z ?_;clear z;rintro es k hm hm' r;exact⟨es,k,by rw[e,e];exact hs _ _ (λz=>nomatch z) hm,by rw[e];exact hs _ _ (λq=>rfl) hm',r.mono x⟩
theorem Ap.junk{N:List (Af×AR)}(e:l'={ l with Φ:=N++l.Φ }):Ap No l l':=by
 subst e;exact⟨AK _,λz o h=>⟨o,h,rfl⟩,λz z z=>rfl,λp h z=>⟨Cv _ h.1,h.2⟩⟩
theorem LR.junk(R:LR prog w l){N:List (Af×AR)}(e:l'={ l with Φ:=N++l.Φ })(nd:((N++l.Φ).map (·.1)).Nodup):LR prog w l':=by
 have x:=Ap.junk e;subst e;exact⟨nd,R.inj,λi o h=>OR.mono x (DK.mp h).1 (R.obj i o h) λz z z hm=>Cv _ hm⟩
theorem LR.junk_oth(R:LR prog w l){N:List (Af×AR)}(e:l'={ l with Φ:=N++l.Φ })(nd:((N++l.Φ).map (·.1)).Nodup){p:Af×AR}(hp:p∈N):AQ l' p:=by
 subst e;refine⟨Cb _ hp,λi b ho q => ?_⟩;refine AI (R.own ho) ?_;rintro ob hm;rw[BJ]at nd;exact(FL.mp nd).2.2 p.1 (Dl (f:=(·.1)) hp) _ (Dl (f:=(·.1)) hm) q.symm
theorem QA{σ:CH}{co:CO}(h:G5 (σ++[co]) i b):(i<σ.length/\G5 σ i b)\/(i=σ.length/\(b=true->co.isInst=true)):=by
 refine Ah h ?_;clear h;rintro o h hb;rcases TF i σ.length with q | q | q
 ·rw[Gm q]at h;exact .inl ⟨q,o,h,hb⟩
 ·subst q;rw[IY (AK _),Lo]at h;injection h with za;subst za
  exact .inr ⟨rfl,hb⟩
 ·rw[IY (Dz q),Gn (by simp;exact Ads q)]at h
  exfalso;injection h
structure Kr(l l':Am)(co:CO)(N:List (Af×AR)):Prop where
 Φ:l'.Φ=N++l.Φ
 σ:l'.σ=l.σ++[co]
 ad:∀i b,i<l.σ.length->l'.ad i b=l.ad i b
 new:∀b,(b=true->co.isInst=true)->l'.ad l.σ.length b∈N.map (·.1)
 nd:((N++l.Φ).map (·.1)).Nodup
 apart:l'.ad l.σ.length false=l'.ad l.σ.length true->co.isInst=false
theorem Kr.ext{co:CO}{N:List (Af×AR)}(g:Kr l l' co N):Ap No l l':=by
 refine⟨by rw[g.σ,Bg];exact GQ _ _,λi o h=>⟨o,by rw[g.σ,Gm (DK.mp h).1,h],rfl⟩,g.ad,λp h z=>⟨by rw[g.Φ];exact Cv _ h.1,λi b ho q => ?_⟩⟩
 rw[g.σ]at ho;rcases QA ho with⟨hi,ho⟩ | ⟨rfl,hb⟩
 ·rw[g.ad i b hi]at q;exact h.2 i b ho q
 ·have nd:=g.nd;rw[BJ]at nd;exact(FL.mp nd).2.2 _ (g.new b hb) _ (Dl (f:=(·.1)) h.1) q
theorem Kr.lr{co:CO}{N:List (Af×AR)}(g:Kr l l' co N)(R:LR prog w l)(o:OR prog w l' l.σ.length co):LR prog w l':=by
 have x:=g.ext;have nd:=g.nd;have nd':=nd;rw[BJ]at nd';have dis:∀i b c,G5 l.σ i b->(c=true->co.isInst=true)->l.ad i b≠l'.ad l.σ.length c:=λi b c ho hc q=>by
  refine AI (R.own ho) ?_;rintro ob hm;exact(FL.mp nd').2.2 _ (g.new c hc) _ (Dl (f:=(·.1)) hm) q.symm
 refine⟨by rw[g.Φ];exact nd,λi j a b hi hj q => ?_,λi o' h => ?_⟩
 ·rw[g.σ]at hi hj;rcases QA hi with⟨li,hi⟩ | ⟨rfl,ha⟩<;>rcases QA hj with⟨lj,hj⟩ | ⟨rfl,hb⟩
  ·rw[g.ad i a li,g.ad j b lj]at q;exact R.inj i j a b hi hj q
  ·rw[g.ad i a li]at q;exact absurd q (dis i a b hi hb)
  ·rw[g.ad j b lj]at q;exact absurd q.symm (dis j b a hj ha)
  ·refine⟨rfl,?_⟩;rcases a with⟨⟩<;>rcases b with⟨⟩
   ·rfl
   ·have z:=g.apart q;rw[hb rfl]at z;(exfalso;injection z)
   ·have z:=g.apart q.symm;rw[ha rfl]at z;(exfalso;injection z)
   ·rfl
 ·rw[g.σ]at h;rcases ZH i l.σ.length with li | li
  ·rw[Gm li]at h;exact OR.mono x li (R.obj i o' h) λy y y hm=>by rw[g.Φ];exact Cv _ hm
  ·rw[IY li]at h;have:i=l.σ.length:=by
    have:=(DK.mp h).1;simp at this;exact Adr li this
   subst this;rw[Lo]at h;injection h with za;subst za
   exact o
theorem QB{σ:CH}{co co':CO}(h:σ[i]? = some co)(k:co'.isInst=co.isInst){j:Nat}{b:Bool}:G5 (σ.set i co') j b↔G5 σ j b:=by
 unfold G5
 by_cases q:i=j
 ·subst q;have:=(DK.mp h).1;rw[ZI this,h];simp only[ZJ,exists_eq_left'];rw[k]
 ·rw[GR q]
structure Gr(l l':Am)(i:Nat)(co co':CO)(b:Bool)(ob ob':AR):Prop where
 at_:l.σ[i]? = some co
 kind:co'.isInst=co.isInst
 own:b=true->co.isInst=true
 σ:l'.σ=l.σ.set i co'
 ad:l'.ad=l.ad
 Φ:∃pre post,l.Φ=pre++(l.ad i b,ob)::post/\l'.Φ=pre++(l.ad i b,ob')::post
theorem Gr.mem{co co':CO}{ob:AR}(t:Gr l l' i co co' b ob ob'){p:Af×AR}(h:p∈l.Φ)(n:p.1≠l.ad i b):p∈l'.Φ:=by
 refine Ba t.Φ ?_;rintro pre post e e';rw[e]at h;rw[e'];rcases BF.mp h with h | h
 ·exact Cb _ h
 ·rcases AS.mp h with rfl | h
  ·exact absurd rfl n
  ·exact Cv _ (.tail _ h)
theorem Gr.new{co co':CO}{ob:AR}(t:Gr l l' i co co' b ob ob'):(l.ad i b,ob')∈l'.Φ:=by
 refine Ba t.Φ ?_;rintro pre post e e';rw[e'];exact Cv _ (.head _)
theorem Gr.keys{co co':CO}{ob:AR}(t:Gr l l' i co co' b ob ob'):l'.Φ.map (·.1)=l.Φ.map (·.1):=by
 refine Ba t.Φ ?_;rintro pre post e e';rw[e,e'];simp
theorem Gr.ext{co co':CO}{ob:AR}(t:Gr l l' i co co' b ob ob'):Ap No l l':=by
 refine⟨by rw[t.σ,GS];exact AK _,λj o h => ?_,λj c z=>by rw[t.ad],λp h z=>⟨t.mem h.1 λq=>h.2 i b ⟨co,t.at_,t.own⟩ q.symm,λj c ho => ?_⟩⟩
 ·by_cases q:i=j
  ·subst q;rw[t.at_]at h;injection h with za;subst za
   exact⟨co',by rw[t.σ,ZI (DK.mp t.at_).1],t.kind⟩
  ·exact⟨o,by rw[t.σ,GR q,h],rfl⟩
 ·rw[t.σ]at ho;rw[t.ad];exact h.2 j c ((QB t.at_ t.kind).mp ho)
theorem Gr.lr{co co':CO}{ob:AR}(t:Gr l l' i co co' b ob ob')(R:LR prog w l)(o:OR prog w l' i co'):LR prog w l':=by
 have x:=t.ext;refine⟨by rw[t.keys];exact R.nd,λj k a c hj hk q => ?_,λj o' h => ?_⟩
 ·rw[t.σ]at hj hk;rw[t.ad]at q;exact R.inj j k a c ((QB t.at_ t.kind).mp hj) ((QB t.at_ t.kind).mp hk) q
 ·rw[t.σ]at h
  by_cases q:i=j
  ·subst q;rw[ZI (DK.mp t.at_).1]at h;injection h with za;subst za
   exact o
  ·rw[GR q]at h;refine OR.mono x (DK.mp h).1 (R.obj j o' h) λc ob'' hc hm=>t.mem hm λe => ?_;exact q (R.inj j i c b ⟨o',h,hc⟩ ⟨co,t.at_,t.own⟩ e).1.symm
theorem Vl{a:Af}{pre:List (Af×AR)}(R:LR prog w l)(e:l.Φ=pre++(a,o)::post)(h1:∀p∈pre,p.1≠a)(h2:∀p∈post,p.1≠a)(ho:AQ l (a,o))(hc:∀vs k,o≠Cs vs k)
  (e':l'={ l with Φ:=pre++(a,o')::post }):Ap (·=a) l l'/\LR prog w l'/\AQ l' (a,o'):=by
 have mem:∀p∈l.Φ,p.1≠a->p∈l'.Φ:=λp hp hn=>by
  rw[e]at hp;subst e';rcases BF.mp hp with hp | hp
  ·exact Cb _ hp
  ·rcases AS.mp hp with rfl | hp
   ·exact absurd rfl hn
   ·exact Cv _ (.tail _ hp)
 have new:(a,o')∈l'.Φ:=by subst e';exact Cv _ (.head _)
 have hσ:l'.σ=l.σ:=by subst e';rfl
 have had:l'.ad=l.ad:=by subst e';rfl
 have x:Ap (·=a) l l':=by
  refine⟨by rw[hσ];exact AK _,λi o h=>⟨o,by rw[hσ];exact h,rfl⟩,λy y y=>by rw[had],λp hp hq=>⟨mem p hp.1 λea => ?_,λi b hi => ?_⟩⟩
  ·rcases hq with hq | hq
   ·have:p=(a,o):=by
     have hp1:=hp.1;rw[e]at hp1;rcases BF.mp hp1 with z | z
     ·exact absurd ea (h1 p z)
     ·rcases AS.mp z with rfl | z
      ·rfl
      ·exact absurd ea (h2 p z)
    subst this;refine HA hq ?_;clear hq;rintro vs k hq;exact hc vs k hq
   ·exact hq ea
  ·rw[hσ]at hi;rw[had];exact hp.2 i b hi
 refine⟨x,⟨?_,?_,?_⟩,new,λi b hi => ?_⟩
 ·have nd:=R.nd;rw[e]at nd;subst e'
  simpa using nd
 ·intro i j a b hi hj q;rw[hσ]at hi hj;rw[had]at q;exact R.inj i j a b hi hj q
 ·intro i co h;rw[hσ]at h;refine OR.mono x (DK.mp h).1 (R.obj i co h) λb ob hb hm=>mem _ hm λea=>ho.2 i b ⟨co,h,hb⟩ ea
 ·rw[hσ]at hi;rw[had];exact ho.2 i b hi
end
end
variable {cs cvs:List CV}{l l' l0 l1:Am}{σ σ' σ0:CH}{co co':CO}{as:List (Ac×CV)}{cv:CV}
section
theorem Aw{x:α}(h:(none:Option α)=some x):False:=nomatch h
structure CX where
 cls:Af
 as:List (Ac×CV)
inductive B2(α:Type) where
 | stuck
 | ok (a:α) (σ:CH)
 | exc (x:CX) (σ:CH)
theorem B2.ok_inj{a b:α}{τ:CH}(h:B2.ok a σ=.ok b τ):a=b/\σ=τ:=by(injection h with za zb;subst za;subst zb);exact⟨rfl,rfl⟩
noncomputable abbrev CM(α:Type):=CH->B2 α
noncomputable def ret(a:α):CM α:=λσ=>.ok a σ
noncomputable def Ar:CM α:=λz=>.stuck
noncomputable def bnd(x:CM α)(f:α->CM β):CM β:=λσ=>match x σ with
 | .ok a σ'=>f a σ'
 | .exc x σ'=>.exc x σ'
 | .stuck=>.stuck
structure FC where
 prog:CC
 w:B5
 K:Bf
 p:CC
 loose:List Ac
 mean:ExcName->Option Ad
 mg:Ac->Option Ad
 mb:Ac->Option Ad
 A:CD
 A₀:CD
 base:AY
 outer:List Env
 h₀:AY
 L:Af
 fenv:Env
noncomputable abbrev FC.M(c:FC):J7:=model c.prog c.w
structure AJ(c:FC)(d:Nat):Prop where
 below:Below c.A₀ c.base c.outer c.h₀
 kin:c.K.In c.h₀
 top:Top c.p c.loose c.mean c.mg c.mb c.h₀
 frames:c.A.frames=some (c.fenv::c.outer)
 frame:c.fenv.frame=some c.L
 kind:c.fenv.scope.kind=.function
 depth:c.A.depth+10*d<=900
 units:c.A.units+100*d<=9000
 handled:c.A.handled=none
structure St(c:FC)(m:Ac->Option Ad)(l:Am)(h:AY):Prop where
 fr:Fr c.h₀ c.L h m
 nw:CE c.h₀ c.L h l.Φ
 lr:LR c.prog c.w l
noncomputable abbrev Bh:=Am->CX->Ad->AY->Prop
def Aa(c:FC)(FX:Bh)(m:Ac->Option Ad)(l:Am)(t:Sem α)(f:CM β)(V:Am->α->β->Prop):Prop :=
 ∀(s:Aq) (Q:α->Aq->Prop) (E:Ad->Aq->Prop),St c m l s.heap ->
  (∀b l' a h' tk,f l.σ=.ok b l'.σ->St c m l' h'->Ap No l l'->V l' a b->Q a (put s h' tk)) ->
  (∀x l' e h' tk,f l.σ=.exc x l'.σ->Ap No l l'->FX l' x e h'->E e (put s h' tk)) ->
  f l.σ≠.stuck->wpAny c.M c.A t Q E s
section
variable {α β γ δ:Type}{c:FC}{FX:Bh}{m:Ac->Option Ad}{l:Am}
theorem Aa.pure{a:α}{b:β}{V:Am->α->β->Prop}(h:V l a b):Aa c FX m l (Nk a:Sem α) (ret b) V :=
 λs Q E st ok z z=>AB (ok b l a s.heap s.toks rfl st (Ap.refl l) h)
theorem Aa.bind{t:Sem α}{f:CM β}{g:α->Sem γ}{k:β->CM δ}{V:Am->α->β->Prop}{V2:Am->γ->δ->Prop}(h:Aa c FX m l t f V)
  (h2:∀a b l',f l.σ=.ok b l'.σ->Ap No l l'->V l' a b->Aa c FX m l' (g a) (k b) V2):Aa c FX m l (t >>= g) (bnd f k) V2:=by
 intro s Q E st ok exc ns;refine Aj (h s _ E st (λb l' a h' tk e st' x v => ?_) (λx l' e h' tk hx xx fx => ?_) ?_)
 ·have eb:bnd f k l.σ=k b l'.σ:=by unfold bnd;rw[e]
  rw[eb]at ok exc ns;refine h2 a b l' e x v _ Q E st' (λb2 l2 a2 h2' tk2 e2 st2 x2 v2 => ?_) (λx2 l2 e2 h2' tk2 hx2 xx2 fx2 => ?_) ns
  ·exact ok b2 l2 a2 h2' tk2 e2 st2 (x.trans x2) v2
  ·exact exc x2 l2 e2 h2' tk2 hx2 (x.trans xx2) fx2
 ·exact exc x l' e h' tk (by unfold bnd;rw[hx]) xx fx
 ·intro q;exact ns (by unfold bnd;rw[q])
theorem Aa.mono{t:Sem α}{f:CM β}{V V':Am->α->β->Prop}(h:Aa c FX m l t f V)(hv:∀l' a b,V l' a b->V' l' a b):Aa c FX m l t f V' :=
 λs Q E st ok exc ns=>h s Q E st (λb l' a h' tk e st' x v=>ok b l' a h' tk e st' x (hv _ _ _ v)) exc ns
theorem Aa.hold{t:Sem α}{f:CM β}{V:Am->α->β->Prop}(vs:List Ad)(h:Aa c FX m l t f V):Aa c FX m l (holding vs t) f V :=
 λs Q E st ok exc ns=>Dg (h s Q E st ok exc ns)
theorem Aa.stand{t:Sem α}{f:CM β}{V:Am->α->β->Prop}(pos:Pos)(h:Aa c FX m l t f V):Aa c FX m l (standAt pos >>= λz=>t) f V :=
 λs Q E st ok exc ns=>Aj (FM (h s Q E st ok exc ns))
theorem Aa.stuck{t:Sem α}{V:Am->α->β->Prop}:Aa c FX m l t Ar V:=λz z z z z z ns=>absurd rfl ns
theorem Aa.operate{f:CM β}{V:Am->Ad->β->Prop}(h:Aa c FX m l t f V):Aa c FX m l (operate vs t) f V :=
 λs Q E st ok exc ns=>wpAny_operate' (h s Q E st ok exc ns)
theorem Aa.of_eq{t:Sem α}{f f':CM β}{V:Am->α->β->Prop}(h:Aa c FX m l t f' V)(e:f=f'):Aa c FX m l t f V:=e▸h
theorem Aa.now{t:Sem α}{b:β}{V:Am->α->β->Prop}(h:∀(s:Aq) (Q:α->Aq->Prop) (E:Ad->Aq->Prop),St c m l s.heap->(∀a tk,V l a b->Q a { s with toks:=tk })->wpAny c.M c.A t Q E s) :
  Aa c FX m l t (ret b) V:=λs Q E st ok z z=>h s Q E st λa tk v=>ok b l a s.heap tk rfl st (Ap.refl l) v
end
theorem QC{c:Prop}[Decidable c]{a k:α}(h:(if c then some a else none)=some k):c/\a=k:=by
 by_cases q:c
 ·exact⟨q,Ay ((if_pos q).symm.trans h)⟩
 ·exact(Aw ((if_neg q).symm.trans h)).elim
theorem Vm{c:Prop}[Decidable c]{a b r:α}(h:(if c then a else b)=r):(c/\a=r)\/b=r:=by
 by_cases q:c
 ·exact .inl ⟨q,(if_pos q).symm.trans h⟩
 ·exact .inr ((if_neg q).symm.trans h)
noncomputable def B7(e:Expr):Option (Ac×Pos):=if h:e.ctorIdx=23 then some (AnP (motive_1:=λz=>Ac×Pos) e h λx p=>(x,p))else none
theorem Fp{q:Ac×Pos}(h:B7 e=some q):e=.Name q.1 q.2:=by
 by_cases K:e.ctorIdx=23
 ·have K0:=K;revert h K;refine AnP (motive_1:=λe=>B7 e=some q->e.ctorIdx=23->e=.Name q.1 q.2) e K0 λx p h k0 => ?_;obtain rfl:(x,p)=q:=Ay ((dif_pos k0).symm.trans h);rfl
 ·exact(Aw ((dif_neg K).symm.trans h)).elim
noncomputable def LK(e:Expr):Option (Expr×List Expr×List TG×Pos):=if h:e.ctorIdx=16 then some (ZK (motive_1:=λz=>Expr×List Expr×List TG×Pos) e h λf a k p=>(f,a,k,p))else none
theorem Vn{q:Expr×List Expr×List TG×Pos}(h:LK e=some q):e=.Call q.1 q.2.1 q.2.2.1 q.2.2.2:=by
 by_cases K:e.ctorIdx=16
 ·have K0:=K;revert h K;refine ZK (motive_1:=λe=>LK e=some q->e.ctorIdx=16->e=.Call q.1 q.2.1 q.2.2.1 q.2.2.2) e K0 λf a k p h k0 => ?_;obtain rfl:(f,a,k,p)=q:=Ay ((dif_pos k0).symm.trans h);rfl
 ·exact(Aw ((dif_neg K).symm.trans h)).elim
noncomputable def E2(e:Expr):Option (Expr×Ac×Pos):=if h:e.ctorIdx=20 then some (AnQ (motive_1:=λz=>Expr×Ac×Pos) e h λo a p=>(o,a,p))else none
theorem LL{q:Expr×Ac×Pos}(h:E2 e=some q):e=.Attribute q.1 q.2.1 q.2.2:=by
 by_cases K:e.ctorIdx=20
 ·have K0:=K;revert h K;refine AnQ (motive_1:=λe=>E2 e=some q->e.ctorIdx=20->e=.Attribute q.1 q.2.1 q.2.2) e K0 λo a p h k0 => ?_;obtain rfl:(o,a,p)=q:=Ay ((dif_pos k0).symm.trans h);rfl
 ·exact(Aw ((dif_neg K).symm.trans h)).elim
noncomputable def Fq(e:Expr):Option (List Expr×Nat×Pos):=if h:e.ctorIdx=25 then some (ZL (motive_1:=λz=>List Expr×Nat×Pos) e h λes c p=>(es,c,p))else none
theorem LM{q:List Expr×Nat×Pos}(h:Fq e=some q):e=.Tuple q.1 q.2.1 q.2.2:=by
 by_cases K:e.ctorIdx=25
 ·have K0:=K;revert h K;refine ZL (motive_1:=λe=>Fq e=some q->e.ctorIdx=25->e=.Tuple q.1 q.2.1 q.2.2) e K0 λes c p h k0 => ?_;obtain rfl:(es,c,p)=q:=Ay ((dif_pos k0).symm.trans h);rfl
 ·exact(Aw ((dif_neg K).symm.trans h)).elim
noncomputable def N8(e:AL):Option (Expr×Pos):=if h:e.ctorIdx=24 then some (ZM (motive_2:=λz=>Expr×Pos) e h λe p=>(e,p))else none
theorem Vo{e:AL}{q:Expr×Pos}(h:N8 e=some q):e=.Expr q.1 q.2:=by
 by_cases K:e.ctorIdx=24
 ·have K0:=K;revert h K;refine ZM (motive_2:=λe=>N8 e=some q->e.ctorIdx=24->e=.Expr q.1 q.2) e K0 λe p h k0 => ?_;obtain rfl:(e,p)=q:=Ay ((dif_pos k0).symm.trans h);rfl
 ·exact(Aw ((dif_neg K).symm.trans h)).elim
noncomputable def QD(e:AL):Option (Option Expr×Pos):=if h:e.ctorIdx=3 then some (ZN (motive_2:=λz=>Option Expr×Pos) e h λv p=>(v,p))else none
theorem AeB{e:AL}{q:Option Expr×Pos}(h:QD e=some q):e=.Return q.1 q.2:=by
 by_cases K:e.ctorIdx=3
 ·have K0:=K;revert h K;refine ZN (motive_2:=λe=>QD e=some q->e.ctorIdx=3->e=.Return q.1 q.2) e K0 λv p h k0 => ?_;obtain rfl:(v,p)=q:=Ay ((dif_pos k0).symm.trans h);rfl
 ·exact(Aw ((dif_neg K).symm.trans h)).elim
noncomputable def QE(e:AL):Option (List AL×List Lp×List AL×List AL×Pos):=if h:e.ctorIdx=17 then some (AnR (motive_2:=λz=>List AL×List Lp×List AL×List AL×Pos) e h λb hs o f p=>(b,hs,o,f,p))else none
theorem AeC{e:AL}{q:List AL×List Lp×List AL×List AL×Pos}(h:QE e=some q):e=.Try q.1 q.2.1 q.2.2.1 q.2.2.2.1 q.2.2.2.2:=by
 by_cases K:e.ctorIdx=17
 ·have K0:=K;revert h K;refine AnR (motive_2:=λe=>QE e=some q->e.ctorIdx=17->e=.Try q.1 q.2.1 q.2.2.1 q.2.2.2.1 q.2.2.2.2) e K0 λb hs o f p h k0 => ?_;obtain rfl:(b,hs,o,f,p)=q:=Ay ((dif_pos k0).symm.trans h);rfl
 ·exact(Aw ((dif_neg K).symm.trans h)).elim
noncomputable def QF(e:AL):Option (List Expr×Expr×Pos):=if h:e.ctorIdx=5 then some (ZO (motive_2:=λz=>List Expr×Expr×Pos) e h λt v p=>(t,v,p))else none
theorem AeD{e:AL}{q:List Expr×Expr×Pos}(h:QF e=some q):e=.Assign q.1 q.2.1 q.2.2:=by
 by_cases K:e.ctorIdx=5
 ·have K0:=K;revert h K;refine ZO (motive_2:=λe=>QF e=some q->e.ctorIdx=5->e=.Assign q.1 q.2.1 q.2.2) e K0 λt v p h k0 => ?_;obtain rfl:(t,v,p)=q:=Ay ((dif_pos k0).symm.trans h);rfl
 ·exact(Aw ((dif_neg K).symm.trans h)).elim
noncomputable def N9(e:Expr):Option (Expr×List GU×Scope×Pos):=if h:e.ctorIdx=8 then some (ZP (motive_1:=λz=>Expr×List GU×Scope×Pos) e h λa b c d=>(a,b,c,d))else none
theorem AeE{q:Expr×List GU×Scope×Pos}(h:N9 e=some q):e=.ListComp q.1 q.2.1 q.2.2.1 q.2.2.2:=by
 by_cases K:e.ctorIdx=8
 ·have K0:=K;revert h K;refine ZP (motive_1:=λe=>N9 e=some q->e.ctorIdx=8->e=.ListComp q.1 q.2.1 q.2.2.1 q.2.2.2) e K0 λa b c d h k0 => ?_;obtain rfl:(a,b,c,d)=q:=Ay ((dif_pos k0).symm.trans h);rfl
 ·exact(Aw ((dif_neg K).symm.trans h)).elim
noncomputable def Ks(e:Expr):Option (Expr×Expr×Pos):=if h:e.ctorIdx=21 then some (AnS (motive_1:=λz=>Expr×Expr×Pos) e h λo i p=>(o,i,p))else none
theorem AeF{q:Expr×Expr×Pos}(h:Ks e=some q):e=.Subscript q.1 q.2.1 q.2.2:=by
 by_cases K:e.ctorIdx=21
 ·have K0:=K;revert h K;refine AnS (motive_1:=λe=>Ks e=some q->e.ctorIdx=21->e=.Subscript q.1 q.2.1 q.2.2) e K0 λo i p h k0 => ?_;obtain rfl:(o,i,p)=q:=Ay ((dif_pos k0).symm.trans h);rfl
 ·exact(Aw ((dif_neg K).symm.trans h)).elim
noncomputable def Kt(e:Expr):Option (Option Expr×Option Expr×Option Expr×Pos):=if h:e.ctorIdx=26 then some (AnT (motive_1:=λz=>Option Expr×Option Expr×Option Expr×Pos) e h λa b st p=>(a,b,st,p))else none
theorem AeG{q:Option Expr×Option Expr×Option Expr×Pos}(h:Kt e=some q):e=.Slice q.1 q.2.1 q.2.2.1 q.2.2.2:=by
 by_cases K:e.ctorIdx=26
 ·have K0:=K;revert h K;refine AnT (motive_1:=λe=>Kt e=some q->e.ctorIdx=26->e=.Slice q.1 q.2.1 q.2.2.1 q.2.2.2) e K0 λa b st p h k0 => ?_;obtain rfl:(a,b,st,p)=q:=Ay ((dif_pos k0).symm.trans h);rfl
 ·exact(Aw ((dif_neg K).symm.trans h)).elim
theorem AN{x:Option α}{f:α->Option β}{b:β}{R:Prop}(h:ob x f=some b)(k:∀a,x=some a->f a=some b->R):R:=by
 rcases x with _ | a
 ·exact(Aw h).elim
 ·exact k a rfl h
noncomputable def QG:List α->Option (α×List α)
 | a::r=>some (a,r)
 | []=>none
theorem Vp{l:List α}{q:α×List α}(h:QG l=some q):l=q.1::q.2:=by
 rcases l with _ | ⟨a,r⟩
 ·exact(Aw h).elim
 ·obtain rfl:=Ay h;rfl
noncomputable def Fs:List α->Option α
 | [a]=>some a
 | _=>none
theorem Jk{l:List α}{a:α}(h:Fs l=some a):l=[a]:=by
 rcases l with _ | ⟨b,_ | ⟨_,_⟩⟩
 ·exact(Aw h).elim
 ·obtain rfl:=Ay h;rfl
 ·exact(Aw h).elim
noncomputable def LN(gens:List GU):Option (Expr×Expr×List Expr):=match Fs gens with
 | some g=>if g.is_async=0 then some (g.target,g.iter,g.ifs)else none
 | none=>none
theorem Vq{gens:List GU}{q:Expr×Expr×List Expr}(h:LN gens=some q):gens=[⟨q.1,q.2.1,q.2.2,0⟩]:=by
 unfold LN at h;rcases e:Fs gens with _ | g
 ·rw[e]at h;(exfalso;injection h)
 ·rw[e]at h;rcases g with⟨a,b,c,n⟩
  by_cases hn:n=0
  ·rw[<- Ay ((if_pos hn).symm.trans h),Jk e,hn]
  ·have z0:_=_:=(if_neg hn).symm.trans h;exfalso;injection z0
noncomputable def LO:List α->Option Unit
 | []=>some ()
 | _=>none
theorem Oa{l:List α}(h:LO l=some u):l=[]:=by
 rcases l with _ | ⟨_,_⟩
 ·rfl
 ·exact(Aw h).elim
noncomputable def Jl(e:Expr):Option (Ac×Pos×List Expr×Pos):=ob (LK e) λk=>ob (B7 k.1) λf=>ob (LO k.2.2.1) λz=>some (f.1,f.2,k.2.1,k.2.2.2)
theorem Vr{q:Ac×Pos×List Expr×Pos}(h:Jl e=some q):e=.Call (.Name q.1 q.2.1) q.2.2.1 [] q.2.2.2:=by
 refine AN h λk e1 h=>AN h λf e2 h=>AN h λz e3 h => ?_;obtain rfl:=Ay h;rw[Vn e1,Fp e2,Oa e3]
noncomputable def Ob:CV->Option (List CV)
 | .tup vs=>some vs
 | _=>none
theorem Vs{v:CV}{vs:List CV}(h:Ob v=some vs):v=.tup vs:=by
 rcases v with _ | _ | _ | _ | ws | _
 case tup=>obtain rfl:=Ay h;rfl
 all_goals exact(Aw h).elim
end
variable {f:Expr->CM CV}{c c1:FC}{FX:FC->Bh}{g:Expr->CM Bool}{y:CX}
section
section
variable {c:FC}{m:Ac->Option Ad}{l:Am}{h h':AY}
theorem Az.length(h:Az l vs cs):vs.length=cs.length :=
 h.ind (P:=λvs cs=>vs.length=cs.length) rfl λz z ih=>congrArg ZQ ih
theorem Az.append{ds:List CV}(h:Az l vs cs)(k:Az l ws ds):Az l (vs++ws) (cs++ds) :=
 h.ind (P:=λvs cs=>Az l (vs++ws) (cs++ds)) k λa z ih=>.cons a ih
theorem Az.get{x:CV}(h:Az l vs cs):cs[i]? = some x->∃v,vs[i]? = some v/\VR l v x :=
 h.ind (P:=λvs cs=>∀i,cs[i]? = some x->∃v,vs[i]? = some v/\VR l v x) (λz e=>(Aw e).elim) (λa z ih i e=>by
  rcases i with _ | i
  ·obtain rfl:=Ay e;exact⟨_,rfl,a⟩
  ·exact ih i e) i
theorem Az.drop(n:Nat){vs:List Ad}{cs:List CV}(k:Az l vs cs):Az l (vs.drop n) (cs.drop n):=by
 revert n;refine Az.ind (P:=λvs cs=>∀n,Az l (vs.drop n) (cs.drop n)) (λn => ?_) (λh r ih n => ?_) k
 ·rw[ZR,ZR];exact .nil
 ·rcases n with _ | n
  ·exact .cons h r
  ·exact ih n
theorem Az.take(n:Nat){vs:List Ad}{cs:List CV}(k:Az l vs cs):Az l (vs.take n) (cs.take n):=by
 revert n;refine Az.ind (P:=λvs cs=>∀n,Az l (vs.take n) (cs.take n)) (λn => ?_) (λh r ih n => ?_) k
 ·rw[AnU,AnU];exact .nil
 ·rcases n with _ | n
  ·exact .nil
  ·exact .cons h (ih n)
theorem Az.flat(k:Az l vs cs):∀n,Az l (DW n vs).flatten (DW n cs).flatten:=by
 intro z1
 induction z1 with
 | zero =>
  exact .nil
 | succ n ih =>
  rw[TH,TH,TI,TI];exact k.append (ih)
theorem St.addL{D:Af}(st:St c m l h)(F':Fr c.h₀ c.L h' m)(N':CE c.h₀ c.L h' ((D,o)::l.Φ))(fr:∀p∈l.Φ,p.1≠D)(hi:co.isInst=false)
  (ho:∀l':Am,Ap No l l'->(D,o)∈l'.Φ->l'.ad l.σ.length false=D->OR c.prog c.w l' l.σ.length co) :
  ∃l':Am,l'.σ=l.σ++[co]/\St c m l' h'/\Ap No l l'/\VR l' (.ref D) (.ref l.σ.length):=by
 let l':Am:=⟨(D,o)::l.Φ,l.σ++[co],λi b=>if i=l.σ.length then(if b then D+1 else D)else l.ad i b⟩
 have g:Kr l l' co [(D,o)]:=by
  refine⟨rfl,rfl,λi b hi => ?_,λb hb => ?_,?_,λz=>hi⟩
  ·show(if i=l.σ.length then _ else _)=_;rw[if_neg (B6 hi)]
  ·rcases b with _ | _
   ·show(if l.σ.length=l.σ.length then _ else _)∈_;rw[if_pos rfl];exact .head _
   ·rw[hb rfl]at hi;(exfalso;injection hi)
  ·show(D::l.Φ.map (·.1)).Nodup;refine Dm.mpr ⟨λhm => ?_,st.lr.nd⟩;refine Ah (BB.mp hm) ?_;rintro p hp e;exact fr p hp e
 have ha:l'.ad l.σ.length false=D:=by show(if l.σ.length=l.σ.length then _ else _)=_;rw[if_pos rfl];rfl
 refine⟨l',rfl,⟨F',N',g.lr st.lr (ho l' g.ext (.head _) ha)⟩,g.ext,.ref ?_ ha⟩;show l.σ.length<(l.σ++[co]).length;simp
theorem St.addList{D:Af}{k:Nat}(st:St c m l h)(F':Fr c.h₀ c.L h' m)(N':CE c.h₀ c.L h' ((D,listOf ws.toArray k)::l.Φ))(fr:∀p∈l.Φ,p.1<D)(hv:Az l ws cs) :
  ∃l':Am,l'.σ=l.σ++[.list cs]/\St c m l' h'/\Ap No l l'/\VR l' (.ref D) (.ref l.σ.length) :=
 st.addL F' N' (λp hp=>B6 (fr p hp)) rfl λl' x hm ha=>⟨ws.toArray,k,by rw[ha];exact hm,by simpa using hv.mono x⟩
theorem St.addJ{D:Af}(st:St c m l h)(F':Fr c.h₀ c.L h' m)(N':CE c.h₀ c.L h' ((D,o)::l.Φ))(fr:∀p∈l.Φ,p.1≠D) :
  ∃l':Am,l'.σ=l.σ/\St c m l' h'/\Ap No l l'/\AQ l' (D,o):=by
 have nd:(([(D,o)]++l.Φ).map (·.1)).Nodup:=by
  refine Dm.mpr ⟨λhm => ?_,st.lr.nd⟩;refine Ah (BB.mp hm) ?_;rintro p hp e;exact fr p hp e
 exact⟨{ l with Φ:=[(D,o)]++l.Φ },rfl,⟨F',N',st.lr.junk rfl nd⟩,Ap.junk rfl,st.lr.junk_oth rfl nd (.head _)⟩
theorem St.addTup{D:Af}{k:Nat}(st:St c m l h)(F':Fr c.h₀ c.L h' m)(N':CE c.h₀ c.L h' ((D,Cs ws k)::l.Φ))(fr:∀p∈l.Φ,p.1<D)(hv:Az l ws cs) :
  ∃l':Am,l'.σ=l.σ/\St c m l' h'/\Ap No l l'/\VR l' (.ref D) (.tup cs):=by
 refine BL (st.addJ F' N' λp hp=>B6 (fr p hp)) ?_;rintro l' e st' x ho;exact⟨l',e,st',x,.tup ho (hv.mono x)⟩
theorem St.list{a:Af}{vs:List CV}(st:St c m l h)(hv:VR l (.ref a) (.ref n))(hs:l.σ[n]? = some (.list vs)):∃ws k,(a,listOf ws k)∈l.Φ/\Az l ws.toList vs:=by
 rcases hv with _ | _ | _ | _ | _ | ⟨hl,ha⟩
 ·subst ha;exact st.lr.obj n _ hs
theorem St.isList{a:Af}{ws:Array Ad}{k:Nat}(st:St c m l h)(hm:(a,listOf ws k)∈l.Φ):h.IsList a ws:=⟨_,(st.nw _ hm).1,rfl,_,rfl⟩
theorem St.isTup{a:Af}{k:Nat}(st:St c m l h)(hm:AQ l (a,Cs ws k)):IsTup h a ws.toArray:=⟨_,(st.nw _ hm.1).1,rfl,_,rfl⟩
theorem St.split{d:Af}(st:St c m l h)(hm:(d,o)∈l.Φ):∃pre post,l.Φ=pre++(d,o)::post/\(∀p∈pre,p.1≠d)/\∀p∈post,p.1≠d:=by
 refine HA (ZS hm) ?_;rintro pre post e;have nd:=st.lr.nd;rw[e,BJ,Bj]at nd;have z:=FL.mp nd;refine⟨pre,post,e,λp hp q => ?_,λp hp q => ?_⟩
 ·exact z.2.2 p.1 (Dl (f:=(·.1)) hp) d (.head _) q
 ·have:=(Dm.mp z.2.1).1;exact this (q▸Dl (f:=(·.1)) hp)
theorem Ku{d:Af}:∀{pre post:List (Af×AR)},(∀p∈pre,p.1≠d)->(∀p∈post,p.1≠d)->Upd d o o' (pre++(d,o)::post) (pre++(d,o')::post):=by
 intro z1
 induction z1 with
 | nil =>
  intro z4 z5 h2;exact .head h2
 | cons z2 z3 ih =>
  intro z6 h1 h2;exact .tail (h1 _ (.head _)) (ih (λp hp=>h1 p (.tail _ hp)) h2)
theorem AeH{d:Af}:∀{pre post:List (Af×AR)},(∀p∈pre,p.1≠d)->(∀p∈post,p.1≠d)->UpdF d o (pre++(d,o)::post) (λo'=>pre++(d,o')::post):=by
 intro z1
 induction z1 with
 | nil =>
  intro z4 z5 h2;exact .head h2
 | cons z2 z3 ih =>
  intro z6 h1 h2;exact .tail (h1 _ (.head _)) (ih (λp hp=>h1 p (.tail _ hp)) h2)
theorem St.turn{pre:List (Af×AR)}(st:St c m l h)(hs:l.σ[i]? = some co)(hk:co'.isInst=co.isInst)(hb:b=true->co.isInst=true)
  (e:l.Φ=pre++(l.ad i b,o)::post) (F':Fr c.h₀ c.L h' m) (N':CE c.h₀ c.L h' (pre++(l.ad i b,o')::post))
  (ho:∀l':Am,Ap No l l'->l'.ad=l.ad->(l.ad i b,o')∈l'.Φ->(∀p∈l.Φ,p.1≠l.ad i b->p∈l'.Φ)->OR c.prog c.w l' i co') :
  ∃l':Am,l'.σ=l.σ.set i co'/\St c m l' h'/\Ap No l l':=by
 let l':Am:=⟨pre++(l.ad i b,o')::post,l.σ.set i co',l.ad⟩
 have t:Gr l l' i co co' b o o':=⟨hs,hk,hb,rfl,rfl,pre,post,e,rfl⟩;exact⟨l',rfl,⟨F',N',t.lr st.lr (ho l' t.ext rfl t.new λp hp n=>t.mem hp n)⟩,t.ext⟩
theorem St.turnList{cs':List CV}{ws ws':Array Ad}{k k':Nat}{pre:List (Af×AR)}(st:St c m l h)(hs:l.σ[i]? = some (.list cs))
  (e:l.Φ=pre++(l.ad i false,listOf ws k)::post) (F':Fr c.h₀ c.L h' m) (N':CE c.h₀ c.L h' (pre++(l.ad i false,listOf ws' k')::post)) (hv:Az l ws'.toList cs') :
  ∃l':Am,l'.σ=l.σ.set i (.list cs')/\St c m l' h'/\Ap No l l' :=
 st.turn (b:=false) hs rfl (λq=>nomatch q) e F' N' λl' x ea hm z=>⟨ws',k',by rw[ea];exact hm,hv.mono x⟩
end
end
section
noncomputable def small(n:Nat):Bool:=decide (n<=4000)
noncomputable def BV(vs:List CV):CM CV:=λσ=>if small vs.length=true then .ok (.ref σ.length) (σ++[.list vs])else .stuck
noncomputable def EK(vs:List CV):CM CV:=if small vs.length=true then ret (.tup vs)else Ar
noncomputable def Vt:CM CV:=λσ=>.ok (.ref σ.length) (σ++[.dict []])
noncomputable def listC(n:Nat):CM (List CV):=λσ=>match σ[n]? with
 | some (.list vs)=>if small vs.length=true then .ok vs σ else .stuck
 | _=>.stuck
noncomputable def FY(op:Hx)(a b:CV):CM CV:=match op,a,b with
 | .Add,.int x,.int y=>ret (.int (x+y))
 | .Sub,.int x,.int y=>ret (.int (x-y))
 | .Mult,.int x,.int y=>if x.natAbs<9223372036854775808 then ret (.int (x*y))else Ar
 | .FloorDiv,.int x,.int y=>if y≠0/\y.natAbs<1073741824 then ret (.int (x.fdiv y))else Ar
 | .Mod,.int x,.int y=>if y≠0 then ret (.int (x.fmod y))else Ar
 | .Add,.str x,.str y=>if small (x.length+y.length)=true then ret (.str (x++y))else Ar
 | .Add,.tup xs,.tup ys=>if small (xs.length+ys.length)=true then ret (.tup (xs++ys))else Ar
 | .Add,.ref i,.ref j=>bnd (listC i) λxs=>bnd (listC j) λys=>BV (xs++ys)
 | .Mult,.ref i,.int n=>bnd (listC i) λxs=>if xs.length*n.toNat<=256/\-9223372036854775808<=n/\n<9223372036854775808 then BV (DW n.toNat xs).flatten else Ar
 | _,_,_=>Ar
section
variable {c:FC}{FX:Bh}{m:Ac->Option Ad}{l:Am}
theorem FZ(h:small n=true):n<=sizeLine:=by
 have:=of_decide_eq_true h;rw[FN];exact AdZ this
theorem Vu(hv:Az l vs cs):Aa c FX m l (newList vs) (BV cs) VR:=by
 intro s Q E st ok exc ns;unfold BV at ok ns
 by_cases hs:small cs.length=true
 ·rw[if_pos hs]at ok;refine newList_K st.fr st.nw (λD h' F' N' fr => ?_) (by rw[hv.length];exact FZ hs)
  refine BL (st.addList F' N' fr hv) ?_;rintro l' e st' x v;exact ok (.ref l.σ.length) l' _ h' s.toks (by rw[e]) st' x v
 ·rw[if_neg hs]at ns;exact absurd rfl ns
theorem AeI(hv:Az l vs cs):Aa c FX m l (newTuple vs) (EK cs) VR:=by
 intro s Q E st ok exc ns;unfold EK at ok ns
 by_cases hs:small cs.length=true
 ·rw[if_pos hs]at ok;refine newTuple_N st.fr st.nw (λh' F' N' => ?_) (by rw[hv.length];exact FZ hs)
  refine BL (st.addTup F' N' (λp hp=>Bz (st.nw p hp).1) hv) ?_;rintro l' e st' x v;exact ok (.tup cs) l' _ h' s.toks (by rw[e];rfl) st' x v
 ·rw[if_neg hs]at ns;exact absurd rfl ns
set_option tactic.hygienic true in
theorem St.listC{a:Af}{h:AY}(st:St c m l h)(hv:VR l (.ref a) (.ref n))(e:listC n l.σ=.ok cs σ') :
  σ'=l.σ/\l.σ[n]? = some (.list cs)/\small cs.length=true/\l.ad n false=a/\∃ws k,(a,listOf ws k)∈l.Φ/\Az l ws.toList cs:=by
 unfold Mine.Internal.listC at e
 split at e
 ·rename_i vs hs
  split at e
  ·rename_i hz;injection e with za zb;subst za;subst zb
   refine⟨rfl,hs,hz,?_,st.list hv hs⟩;rcases hv with _ | _ | _ | _ | _ | ⟨_,ha⟩
   ·exact ha
  ·exfalso;injection e
 ·exfalso;injection e
theorem Vv{x:CX}:listC n σ≠.exc x σ':=by
 unfold listC
 split
 ·split<;>(intro q;(exfalso;injection q))
 ·intro q;(exfalso;injection q)
theorem AeJ{x:Int}(h:x.natAbs<9223372036854775808):Builtin.Int.intBits x<=64:=intBits_le_64 (AdY h) (AdX h)
theorem Aa.getList{t:Sem α}{f:List CV->CM β}{V:Am->α->β->Prop}{a:Af}(hv:VR l (.ref a) (.ref n))
  (h:∀cs ws k,l.σ[n]? = some (.list cs)->small cs.length=true->l.ad n false=a->(a,listOf ws k)∈l.Φ->Az l ws.toList cs->Aa c FX m l t (f cs) V):Aa c FX m l t (bnd (listC n) f) V:=by
 intro s Q E st ok exc ns;rcases e:listC n l.σ with _ | ⟨cs,σ'⟩ | ⟨x,σ'⟩
 ·exact absurd (by unfold bnd;rw[e]) ns
 ·rcases st.listC hv e with⟨rfl,hs,hz,ha,ws,k,hm,hr⟩
  have eq:bnd (listC n) f l.σ=f cs l.σ:=by unfold bnd;rw[e]
  rw[eq]at ok exc ns;exact h cs ws k hs hz ha hm hr s Q E st ok exc ns
 ·exact absurd e Vv
theorem Aa.guard{t:Sem α}{f:CM β}{V:Am->α->β->Prop}{p:Prop}[Decidable p](h:p->Aa c FX m l t f V):Aa c FX m l t (if p then f else Ar) V:=by
 by_cases hp:p
 ·rw[if_pos hp];exact h hp
 ·rw[if_neg hp];exact Aa.stuck
theorem Aa.ofRet{b:CV}(h:∀(s:Aq) (Q:Ad->Aq->Prop) (E:Ad->Aq->Prop),(∀a tk,VR l a b->Q a { s with toks:=tk })->St c m l s.heap->wpAny c.M c.A t Q E s):Aa c FX m l t (ret b) VR :=
 λs Q E st ok z z=>h s Q E (λa tk v=>ok b l a s.heap tk rfl st (Ap.refl l) v) st
set_option tactic.hygienic true in
theorem AeK{op:Hx}{w:Ad}{a b:CV}(hv:VR l v a)(hw:VR l w b):Aa c FX m l (binaryOp op v w) (FY op a b) VR:=by
 rcases op with _ | _ | _ | _ | _ | _ | _ | _ | _ | _ | _ | _ | _
 case Add =>
  rcases a with _ | _ | x | x | xs | i
  case int =>
   rcases b with _ | _ | y | _ | _ | _
   case int =>
    refine AI hv.int_inv ?_;rintro _ rfl;(refine AI hw.int_inv ?_;rintro _ rfl);exact Aa.ofRet λs Q E ok z=>PySem.P.add_int (ok _ _ (.int _ _))
   all_goals exact Aa.stuck
  case str =>
   rcases b with _ | _ | _ | y | _ | _
   case str =>
    refine AI hv.str_inv ?_;rintro _ rfl;(refine AI hw.str_inv ?_;rintro _ rfl);exact Aa.guard λhx=>Aa.ofRet λs Q E ok z=>PySem.SB.add (λt' k=>ok _ _ (.str _ _)) (FZ hx)
   all_goals exact Aa.stuck
  case tup =>
   rcases b with _ | _ | _ | _ | ys | _
   case tup =>
    refine Aa.guard λhx => ?_;refine CG hv.tup_inv ?_;rintro _ _ _ rfl ho hr;refine CG hw.tup_inv ?_;rintro _ _ _ rfl ho2 hr2;have hz:=of_decide_eq_true hx;have e1:=hr.length;have e2:=hr2.length;rename_i a1 vs1 k1 a2 vs2 k2;intro s Q E st ok _ _;have t1:=st.isTup ho;have t2:=st.isTup ho2;rcases vs1 with _ | ⟨v1,vs1⟩
    ·rcases hr with⟨⟩
     exact kde_addT0 st.fr st.nw t1 t2 rfl (by simp only[DL]at *;exact AdW e2 hz) (ok _ l _ s.heap s.toks rfl st (Ap.refl l) (.tup ho2 hr2))
    ·rcases vs2 with _ | ⟨v2,vs2⟩
     ·rcases hr2 with⟨⟩
      refine kde_addT1 st.fr st.nw t1 t2 (by simp) rfl (by simp only[BH,DL]at *;exact AdV e1 hz) (ok _ l _ s.heap s.toks rfl st (Ap.refl l) ?_)
      rw[Dn];exact .tup ho hr
     ·refine kde_addT st.fr st.nw t1 t2 (by simp) (by simp) (by simp only[BH]at *;exact AdU hz e1 e2) rfl λD h' F' N' fr => ?_
      refine BL (st.addTup F' N' fr (hr.append hr2)) ?_;rintro l' e st' x v;exact ok _ l' _ h' s.toks (by rw[e];rfl) st' x v
   all_goals exact Aa.stuck
  case ref =>
   rcases b with _ | _ | _ | _ | _ | j
   case ref =>
    refine AE hv.ref_inv ?_;rintro _ rfl hl ha;refine AE hw.ref_inv ?_;rintro _ rfl hl2 ha2;refine Aa.getList (.ref hl ha) λxs ws k hs hz z hm hr=>Aa.getList (.ref hl2 ha2) λys ws2 k2 hs2 hz2 z hm2 hr2 => ?_;intro s Q E st ok _ ns;unfold BV at ok ns
    by_cases hx:small (xs++ys).length=true
    ·rw[if_pos hx]at ok;have e1:=hr.length;have e2:=hr2.length;refine kmk_add_lit st.fr st.nw (st.isList hm) (st.isList hm2) rfl (λD h' F' N' fr => ?_) (by rw[e1,e2,<- Bg];exact FZ hx)
     refine BL (st.addList F' N' fr (hr.append hr2)) ?_;rintro l' e st' x v;exact ok _ l' _ h' s.toks (by rw[e]) st' x v
    ·rw[if_neg hx]at ns;exact absurd rfl ns
   all_goals exact Aa.stuck
  all_goals exact Aa.stuck
 case Sub =>
  rcases a with _ | _ | x | _ | _ | _
  case int =>
   rcases b with _ | _ | y | _ | _ | _
   case int =>
    refine AI hv.int_inv ?_;rintro _ rfl;(refine AI hw.int_inv ?_;rintro _ rfl);exact Aa.ofRet λs Q E ok z=>PySem.P.sub_int (ok _ _ (.int _ _))
   all_goals exact Aa.stuck
  all_goals exact Aa.stuck
 case Mult =>
  rcases a with _ | _ | x | _ | _ | i
  case int =>
   rcases b with _ | _ | y | _ | _ | _
   case int =>
    refine AI hv.int_inv ?_;rintro _ rfl;(refine AI hw.int_inv ?_;rintro _ rfl);exact Aa.guard λhx=>Aa.ofRet λs Q E ok z=>PySem.P.mul_int (ok _ _ (.int _ _)) (.of_left (AeJ hx))
   all_goals exact Aa.stuck
  case ref =>
   rcases b with _ | _ | n | _ | _ | _
   case int =>
    refine AE hv.ref_inv ?_;rintro _ rfl hl ha;refine AI hw.int_inv ?_;rintro t rfl;refine Aa.getList (.ref hl ha) λxs ws k hs hz z hm hr=>Aa.guard λhq => ?_;intro s Q E st ok _ ns;unfold BV at ok ns
    by_cases hx:small (DW n.toNat xs).flatten.length=true
    ·rw[if_pos hx]at ok;have hl':=st.isList hm;have e1:=hr.length;obtain⟨li,rfl⟩:∃li:List Ad,ws=li.toArray:=⟨ws.toList,by rw[ZT]⟩
     refine KMa.mul st.fr st.nw hl' hq.2.1 hq.2.2 (by simp at e1;rw[e1];exact hq.1) rfl λD h' F' N' fr => ?_
     refine BL (st.addList F' N' fr (Az.flat (by simpa using hr) n.toNat)) ?_;rintro l' e st' x v
     exact ok _ l' _ h' s.toks (by rw[e]) st' x v
    ·rw[if_neg hx]at ns;exact absurd rfl ns
   all_goals exact Aa.stuck
  all_goals exact Aa.stuck
 case FloorDiv =>
  rcases a with _ | _ | x | _ | _ | _
  case int =>
   rcases b with _ | _ | y | _ | _ | _
   case int =>
    refine AI hv.int_inv ?_;rintro _ rfl;(refine AI hw.int_inv ?_;rintro _ rfl);exact Aa.guard λhx=>Aa.ofRet λs Q E ok z=>AutoIntOps.floordiv_1 (by simpa using hx.1) (by rw[AnV hx.2];decide) (ok _ _ (.int _ _))
   all_goals exact Aa.stuck
  all_goals exact Aa.stuck
 case Mod =>
  rcases a with _ | _ | x | _ | _ | _
  case int =>
   rcases b with _ | _ | y | _ | _ | _
   case int =>
    refine AI hv.int_inv ?_;rintro _ rfl;(refine AI hw.int_inv ?_;rintro _ rfl);exact Aa.guard λhx=>Aa.ofRet λs Q E ok z=>PyProof.Rows.mod_int hx (ok _ _ (.int _ _))
   all_goals exact Aa.stuck
  all_goals exact Aa.stuck
 all_goals exact Aa.stuck
end
end
section
noncomputable def G6(f:CV->CV->Option Bool):List CV->List CV->Option Bool
 | [],[]=>some true
 | [],_::_=>some false
 | _::_,[]=>some false
 | x::xs,y::ys=>match f x y,G6 f xs ys with
  | some a,some b=>some (a && b)
  | _,_=>none
theorem QH:∀(f:CV->CV->Option Bool) (x_2:CV) (xs:List CV) (y:CV) (ys:List CV),G6 f (x_2::xs) (y::ys)=match f x_2 y,G6 f xs ys with | some a,some b=>some (a && b) | x,x_1=>none:=by intros;rfl
noncomputable def EL(es:List (Int×CV))(k:Int):Option CV:=match es with
 | []=>none
 | (j,v)::r=>if j=k then some v else EL r k
theorem QI:∀(k j:Int) (v:CV) (r:List (Int×CV)),EL ((j,v)::r) k=if j=k then some v else EL r k:=by intros;rfl
noncomputable def Gs(f:CV->CV->Option Bool)(fs:List (Int×CV)):List (Int×CV)->Option Bool
 | []=>some true
 | (k,v)::r=>match EL fs k with
  | none=>some false
  | some y=>match f v y,Gs f fs r with
   | some a,some b=>some (a && b)
   | _,_=>none
theorem QJ:∀(f:CV->CV->Option Bool) (fs:List (Int×CV)) (j:Int) (v:CV) (r:List (Int×CV)),Gs f fs ((j,v)::r)=match EL fs j with | none=>some false | some y=>match f v y,Gs f fs r with | some a,some b=>some (a && b) | x,x_1=>none:=by intros;rfl
noncomputable def Jm(f:CV->CV->Option Bool)(x y:Option CO):Option Bool:=match x with
 | some (.list xs)=>(match y with
  | some (.list ys)=>if xs.length=ys.length then G6 f xs ys else some false
  | _=>none)
 | some (.dict es)=>(match y with
  | some (.dict fs)=>if es.length=fs.length then Gs f fs es else some false
  | _=>none)
 | _=>none
theorem Vw{f:CV->CV->Option Bool}{x y:Option CO}{r:Bool}(h:Jm f x y=some r):(∃xs ys,x=some (.list xs)/\y=some (.list ys)/\(if xs.length=ys.length then G6 f xs ys else some false)=some r)\/∃es fs,x=some (.dict es)/\y=some (.dict fs)/\(if es.length=fs.length then Gs f fs es else some false)=some r:=by
 rcases x with _ | o
 ·exact(Aw h).elim
 ·rcases o with xs | es | ⟨_,_⟩
  ·rcases y with _ | p
   ·exact(Aw h).elim
   ·rcases p with ys | _ | ⟨_,_⟩
    ·exact .inl ⟨_,_,rfl,rfl,h⟩
    ·exact(Aw h).elim
    ·exact(Aw h).elim
  ·rcases y with _ | p
   ·exact(Aw h).elim
   ·rcases p with _ | fs | ⟨_,_⟩
    ·exact(Aw h).elim
    ·exact .inr ⟨_,_,rfl,rfl,h⟩
    ·exact(Aw h).elim
  ·exact(Aw h).elim
theorem QK{p:Prop}[Decidable p]{x:Option Bool}{r:Bool}(h:(if p then x else some false)=some r):(p/\x=some r)\/(¬p/\r=false):=by
 by_cases q:p
 ·exact .inl ⟨q,(if_pos q).symm.trans h⟩
 ·exact .inr ⟨q,(Ay ((if_neg q).symm.trans h)).symm⟩
noncomputable def Cd(σ:CH):Nat->CV->CV->Option Bool
 | 0,_,_=>none
 | n+1,a,b=>match a,b with
  | .none,.none=>some true
  | .bool x,.bool y=>some (x == y)
  | .int x,.int y=>some (x == y)
  | .str x,.str y=>some (x == y)
  | .tup xs,.tup ys=>G6 (Cd σ n) xs ys
  | .ref i,.ref j=>Jm (Cd σ n) σ[i]? σ[j]?
  | _,_=>none
section
variable {c:FC}{FX:Bh}{m:Ac->Option Ad}{l:Am}
theorem AeL{Φ:List (Af×AR)}(nd:(Φ.map (·.1)).Nodup){p q:Af×AR}(hp:p∈Φ)(hq:q∈Φ)(e:p.1=q.1):p=q:=by
 induction Φ with
 | nil=>(rcases hp with⟨⟩)
 | cons r Φ ih =>
  rw[Bj]at nd;have z:=Dm.mp nd;rcases AS.mp hp with e1 | hp'<;>rcases AS.mp hq with e2 | hq'
  ·rw[e1,e2]
  ·exact absurd (by rw[<- e1,e];exact Dl (f:=(·.1)) hq') z.1
  ·exact absurd (by rw[<- e2,<- e];exact Dl (f:=(·.1)) hp') z.1
  ·exact ih z.2 hp' hq'
theorem VR.ref_not{a:Af}(h:VR l (.ref a) (.tup cvs))(k:VR l (.ref a) (.ref n)):False:=by
 refine CG h.tup_inv ?_;rintro _ _ _ e h1 _;refine At k.ref_ad ?_;rintro h2 h3;injection e with e
 exact h1.2 n false ⟨_,Cc h2,λq=>nomatch q⟩ (h3.trans e)
theorem VR.func(R:LR c.prog c.w l){v:Ad}{a b:CV}(h:VR l v a)(k:VR l v b):a=b:=by
 refine VR.rec (motive_1:=λv a z=>∀b,VR l v b->a=b) (motive_2:=λvs a z=>∀b,Az l vs b->a=b) ?_ ?_ ?_ ?_ ?_ ?_ ?_ ?_ h b k
 ·intro b k;rcases k with⟨⟩;rfl
 ·intro x b k;rcases k with⟨⟩;rfl
 ·intro x t b k;rcases k with⟨⟩;rfl
 ·intro x t b k;rcases k with⟨⟩;rfl
 ·intro a vs n cvs h r ih b k;rcases b with _ | _ | _ | _ | cs | m
  ·exfalso;injection k.none_inv
  ·exfalso;injection k.bool_inv
  ·refine AI k.int_inv ?_;rintro _ e;exfalso;injection e
  ·refine AI k.str_inv ?_;rintro _ e;exfalso;injection e
  ·refine CG k.tup_inv ?_;rintro _ ws m e h' r';injection e with e
   subst e;have e:=AeL R.nd h.1 h'.1 rfl;simp only[ZU,Obj.mk.injEq,Data.seq.injEq,true_and,and_true]at e;obtain rfl:=List.toArray_inj e.1;rw[ih _ r']
  ·exact(VR.ref_not (.tup h r) k).elim
 ·intro a n hl ha b k;rcases b with _ | _ | _ | _ | cs | m
  ·exfalso;injection k.none_inv
  ·exfalso;injection k.bool_inv
  ·refine AI k.int_inv ?_;rintro _ e;exfalso;injection e
  ·refine AI k.str_inv ?_;rintro _ e;exfalso;injection e
  ·exact(VR.ref_not k (.ref hl ha)).elim
  ·refine At k.ref_ad ?_;rintro hl' ha';have:=R.inj _ _ false false ⟨_,Cc hl,λq=>nomatch q⟩ ⟨_,Cc hl',λq=>nomatch q⟩ (ha.trans ha'.symm)
   rw[this.1]
 ·intro b k;rcases k with⟨⟩;rfl
 ·intro v vs c cs h r ih1 ih2 b k;rcases k with _ | ⟨h',r'⟩
  rw[ih1 _ h',ih2 _ r']
set_option tactic.hygienic true in
theorem Vx{f:CV->CV->Option Bool}(hf:∀x b,f x x=some b->b=true):∀{xs:List CV} {b:Bool},G6 f xs xs=some b->b=true:=by
 intro z1
 induction z1 with
 | nil =>
  intro z2 e;injection e with za;subst za;rfl
 | cons x xs ih =>
  intro b e;rw[QH]at e
  split at e
  ·rename_i a b' ea eb;injection e with za;subst za
   rw[hf _ _ ea,ih eb];rfl
  ·exfalso;injection e
theorem AeM:∀{es:List (Int×CV)} {k:Int} {v:CV},(es.map (·.1)).Nodup->(k,v)∈es->EL es k=some v:=by
 intro z1
 induction z1 with
 | nil=>intros;contradiction
 | cons z2 r ih =>
  rcases z2 with⟨j,u⟩
  intro k v nd hm;rw[QI];have z:=Dm.mp nd;rcases AS.mp hm with e | hm
  ·injection e with za zb;subst za;subst zb
   rw[if_pos rfl]
  ·rw[if_neg λ(e:j=k)=>z.1 (by rw[e];exact Dl (f:=(·.1)) hm)]
   exact ih z.2 hm
set_option tactic.hygienic true in
theorem AeN{f:CV->CV->Option Bool}(hf:∀x b,f x x=some b->b=true){fs:List (Int×CV)}(nd:(fs.map (·.1)).Nodup):∀{es:List (Int×CV)} {b:Bool},(∀p∈es,p∈fs)->Gs f fs es=some b->b=true:=by
 intro z1
 induction z1 with
 | nil =>
  intro z3 z4 e;injection e with za;subst za;rfl
 | cons z2 r ih =>
  rcases z2 with⟨k,v⟩
  intro b hs e;rw[QJ]at e;rw[AeM nd (hs _ (.head _))]at e;dsimp only at e
  split at e
  ·rename_i a b' ea eb;injection e with za;subst za
   rw[hf _ _ ea,ih (λp hp=>hs p (.tail _ hp)) eb];rfl
  ·exfalso;injection e
theorem BD.keys{es:List (Int×CV)}(h:BD l kvs es):kvs.map (·.1)=es.map (·.1) :=
 BD.rec (motive:=λkvs es z=>kvs.map (·.1)=es.map (·.1)) rfl (λz z ih=>by rw[Bj,Bj,ih]) h
theorem BD.length{es:List (Int×CV)}(k:BD l kvs es):kvs.length=es.length:=by
 have:=congrArg Ib k.keys
 simpa using this
theorem BD.look{es:List (Int×CV)}(k:Int)(h:BD l kvs es):(EL es k=none/\valueAt kvs k=none)\/∃v x,EL es k=some x/\valueAt kvs k=some v/\VR l v x:=by
 refine BD.rec (motive:=λkvs es z=>(EL es k=none/\valueAt kvs k=none)\/∃v x,EL es k=some x/\valueAt kvs k=some v/\VR l v x) (.inl ⟨rfl,rfl⟩) (λ{j v x kvs as} h r ih => ?_) h;rw[QI,valueAt]
 by_cases e:j=k
 ·subst e;refine .inr ⟨v,x,by rw[if_pos rfl],?_,h⟩
  simp
 ·rw[if_neg e];rw[ZV];have d:decide (j=k)=false:=decide_eq_false e;simp only[d];exact ih
theorem AeO(dk:∀(i:Nat) (es:List (Int×CV)),σ[i]? = some (CO.dict es)->(es.map (·.1)).Nodup):∀(n:Nat) (x:CV) (b:Bool),Cd σ n x x=some b->b=true:=by
 intro z1
 induction z1 with
 | zero =>
  intro z2 z3 e;exfalso;injection e
 | succ n ih =>
  intro x b e;rcases x with _ | y | y | y | xs | i
  ·exact(Ay e).symm
  ·exact(Ay e).symm.trans (beq_self_eq_true y)
  ·exact(Ay e).symm.trans (beq_self_eq_true y)
  ·exact(Ay e).symm.trans (beq_self_eq_true y)
  ·exact Vx (ih) e
  ·have e:Jm (Cd σ n) σ[i]? σ[i]? = some b:=e;rcases Vw e with⟨xs,ys,h1,h2,h⟩ | ⟨xs,ys,h1,h2,h⟩
   ·obtain rfl:xs=ys:=by
     have:=h1.symm.trans h2;injection this with this
     injection this
    rw[if_pos rfl]at h;exact Vx (ih) h
   ·obtain rfl:xs=ys:=by
     have:=h1.symm.trans h2;injection this with this
     injection this
    rw[if_pos rfl]at h;exact AeN (ih) (dk _ _ h1) (λz h=>h) h
noncomputable def ej(f:CV->CV->Option Bool)(xs ys:List CV)(j:Nat):Bool:=match xs[j]?,ys[j]? with
 | some x,some y=>(f x y).getD true
 | _,_=>true
set_option tactic.hygienic true in
theorem Vy{f:CV->CV->Option Bool}:∀{xs ys:List CV} {r:Bool},G6 f xs ys=some r ->
  (∀(j:Nat) x y,xs[j]? = some x->ys[j]? = some y->f x y=some (ej f xs ys j))/\r=((As (min xs.length ys.length)).all (ej f xs ys) && xs.length == ys.length):=by
 intro z1
 induction z1 with
 | nil =>
  intro z2;rcases z2 with _ | ⟨z3,z4⟩
  ·intro r e;injection e with za;subst za;exact⟨λz z z h=>by simp at h,by simp⟩
  ·intro r e;injection e with za;subst za;exact⟨λz z z h=>by simp at h,by simp⟩
 | cons x xs ih =>
  intro z5;rcases z5 with _ | ⟨y,ys⟩
  ·intro r e;injection e with za;subst za;exact⟨λz z z z h=>by simp at h,by simp⟩
  ·intro r e;rw[QH]at e
   split at e
   ·rename_i a b ea eb;injection e with za;subst za
    refine At (ih eb) ?_;rintro h1 h2;refine⟨λj x' y' hx hy => ?_,?_⟩
    ·rcases j with _ | j
     ·simp only[ZW,ZJ]at hx hy;subst hx hy;unfold ej;simp[ea]
     ·rw[ZX]at hx hy;have:=h1 j x' y' hx hy;unfold ej at this ⊢;simp only[ZX];exact this
    ·have e0:ej f (x::xs) (y::ys) 0=a:=by unfold ej;simp[ea]
     have e1:(λj=>ej f (x::xs) (y::ys) (j+1))=ej f xs ys:=by funext j;unfold ej;simp
     rw[BH,BH,Nat.succ_min_succ,List.range_succ_eq_map,List.all_cons,List.all_map,e0,h2];show _=(a && (As (min xs.length ys.length)).all (λj=>ej f (x::xs) (y::ys) (j+1)) && _);rw[e1];simp[Bool.and_assoc]
   ·exfalso;injection e
theorem Oc{prog prog':CC}{w':B5}(h:o.IsDictOf (intKind prog w) kvs):o.IsDictOf (intKind prog' w') kvs:=by
 refine Ji h ?_;clear h;rintro es ep a b c d e;refine⟨es,ep,a,b,c,?_,e⟩
 generalize es.toList=l at d
 clear a b c e
 induction d with
 | nil=>exact .nil
 | cons h1 h2 _ ih=>exact .cons h1 h2 ih
theorem LR.dictKeys(R:LR c.prog c.w l):∀(i:Nat) (es:List (Int×CV)),l.σ[i]? = some (CO.dict es)->(es.map (·.1)).Nodup:=λi es h=>by
 refine Cj (R.obj i _ h) ?_;rintro o kvs _ _ hd r;refine Ji hd ?_;clear hd;rintro _ _ _ _ _ _ e;rw[<- r.keys];exact e
theorem Az.arr{ws:Array Ad}(h:Az l ws.toList cs){j:Nat}(hj:j<ws.size):∃x,cs[j]? = some x/\VR l ws[j] x:=by
 have hl:=h.length;rw[Dt]at hl;have hc:j<cs.length:=hl▸hj;refine⟨cs[j],Cc hc,?_⟩;refine Ah (h.get (Cc hc)) ?_;rintro v e r;rw[Lq,TJ hj]at e;injection e with za;subst za
 exact r
set_option tactic.hygienic true in
theorem Vz{A:CD}{f:CV->CV->Option Bool}{kb:List (Int×Ad)}{fs:List (Int×CV)}(kf:BD l kb fs)(hf:∀v w a b r,f a b=some r->VR l v a->VR l w b->IZ A s v w r)
  {ka:List (Int×Ad)} {es:List (Int×CV)} {r:Bool} (h:BD l ka es) (e:Gs f fs es=some r):KeqHits A s kb ka r:=by
 revert r;refine BD.rec (motive:=λka es z=>∀{r:Bool},Gs f fs es=some r->KeqHits A s kb ka r) (λ{r} e => ?_) (λ{k v c ka as} h rr ih r e => ?_) h
 ·injection e with za;subst za;exact .nil
 ·rw[QJ]at e;rcases kf.look k with⟨h1,h2⟩ | ⟨v',x,h1,h2,h3⟩
  ·rw[h1]at e;injection e with za;subst za
   exact .miss h2
  ·rw[h1]at e;dsimp only at e
   split at e
   ·rename_i a b ea eb;injection e with za;subst za
    exact .hit h2 (hf _ _ _ _ _ ea h h3) (ih eb)
   ·exfalso;injection e
theorem AeP(R:LR c.prog c.w l){s:Aq}(N:CE c.h₀ c.L s.heap l.Φ){A:CD}{f:CV->CV->Option Bool}{i j:Nat}{r:Bool}{xs ys:List CV}(ih:∀(v w:Ad) (a b:CV) (r:Bool),f a b=some r->VR l v a->VR l w b->IZ A.in1 s v w r)(e1:l.σ[i]? = some (.list xs))(e2:l.σ[j]? = some (.list ys))
  (e:(if xs.length=ys.length then G6 f xs ys else some false)=some r) (hu':A.units<cLine):TK A s (.ref (l.ad i false)) (.ref (l.ad j false)) r/\TL A s (.ref (l.ad i false)) (.ref (l.ad j false)) (!r):=by
 refine Ba (R.obj _ _ e1) ?_;rintro ws1 k1 m1 r1;refine Ba (R.obj _ _ e2) ?_;rintro ws2 k2 m2 r2;have t1:s.heap.IsList _ ws1:=⟨_,(N _ m1).1,rfl,_,rfl⟩;have t2:s.heap.IsList _ ws2:=⟨_,(N _ m2).1,rfl,_,rfl⟩;have z1:ws1.size=xs.length:=by rw[<- Dt];exact r1.length
 have z2:ws2.size=ys.length:=by rw[<- Dt];exact r2.length
 rcases QK e with⟨hlen,e⟩ | ⟨hlen,rfl⟩
 ·refine At (Vy e) ?_;rintro h1 h2;have he:∀j (q1:j<ws1.size) (q2:j<ws2.size),IZ A.in1 s ws1[j] ws2[j] (ej f xs ys j):=λj q1 q2=>by
   refine Ah (Az.arr r1 q1) ?_;rintro x ex rx;refine Ah (Az.arr r2 q2) ?_;rintro y ey ry;exact ih _ _ _ _ _ (h1 j x y ex ey) rx ry
  have hz:ws1.size=ws2.size:=z1.trans (hlen.trans z2.symm);have z:=SeqAt.RcAt.lists t1 t2 hz hu' he;have z':=SeqAt.RcNeAt.lists t1 t2 hz hu' he;rw[h2,hlen,Nat.min_self];simp only[beq_self_eq_true,AnW];rw[z1,hlen]at z z';exact⟨z,z'⟩
 ·have hz:(ws1.size != ws2.size)=true:=bne_iff_ne.mpr λq=>hlen (z1.symm.trans (q.trans z2));exact⟨SeqAt.RcAt.lists_lengths t1 t2 hz hu',SeqAt.RcNeAt.lists_lengths t1 t2 hz hu'⟩
theorem AeQ(R:LR c.prog c.w l){s:Aq}(N:CE c.h₀ c.L s.heap l.Φ){A:CD}{f:CV->CV->Option Bool}{i j:Nat}{r:Bool}{es fs:List (Int×CV)}(ih:∀(v w:Ad) (a b:CV) (r:Bool),f a b=some r->VR l v a->VR l w b->IZ A.in1 s v w r)(e1:l.σ[i]? = some (.dict es))(e2:l.σ[j]? = some (.dict fs))
  (e:(if es.length=fs.length then Gs f fs es else some false)=some r) (hu':A.units<cLine):TK A s (.ref (l.ad i false)) (.ref (l.ad j false)) r/\TL A s (.ref (l.ad i false)) (.ref (l.ad j false)) (!r):=by
 refine Cj (R.obj _ _ e1) ?_;rintro o1 kv1 m1 s1 d1 r1;refine Cj (R.obj _ _ e2) ?_;rintro o2 kv2 m2 s2 d2 r2;have hl:(kv1.length == kv2.length)=(es.length == fs.length):=by rw[r1.length,r2.length]
 have key:((kv1.length == kv2.length) && r)=r:=by
  rcases QK e with⟨hlen,_⟩ | ⟨_,rfl⟩
  ·rw[hl,beq_iff_eq.mpr hlen];rfl
  ·exact Nl _
 have hit:kv1.length=kv2.length->Gs f fs es=some r:=λq=>by
  rcases QK e with⟨_,e⟩ | ⟨hlen,_⟩
  ·exact e
  ·exact absurd (by rw[<- r1.length,<- r2.length];exact q) hlen
 refine⟨λprog w E Q hq => ?_,λprog w E Q hq => ?_⟩
 ·have D1:s.heap.DictOf (intKind prog w) _ kv1:=Nm.mpr ⟨o1,(N _ m1).1,Oc d1⟩;have D2:s.heap.DictOf (intKind prog w) _ kv2:=Nm.mpr ⟨o2,(N _ m2).1,Oc d2⟩;refine keq_eq (r:=r) s1 s2 D1 D2 hu' (λq=>Vz r2 ih r1 (hit q)) ?_;rw[key];exact hq
 ·have D1:s.heap.DictOf (intKind prog w) _ kv1:=Nm.mpr ⟨o1,(N _ m1).1,Oc d1⟩;have D2:s.heap.DictOf (intKind prog w) _ kv2:=Nm.mpr ⟨o2,(N _ m2).1,Oc d2⟩;refine keq_ne (r:=r) s1 s2 D1 D2 hu' (λq=>Vz r2 ih r1 (hit q)) ?_;rw[key];exact hq
theorem VA(R:LR c.prog c.w l){s:Aq}(N:CE c.h₀ c.L s.heap l.Φ){n:Nat}{A:CD}{v w:Ad}{a b:CV}{r:Bool}(ih:∀(v w:Ad) (a b:CV) (r:Bool),Cd l.σ n a b=some r->VR l v a->VR l w b->IZ A.in1 s v w r)(e:Cd l.σ (n+1) a b=some r)(hv:VR l v a)(hw:VR l w b)(hu':A.units<cLine) :
  TK A s v w r/\TL A s v w (!r):=by
 rcases a with _ | x | x | x | xs | i
 ·rcases b with _ | _ | _ | _ | _ | _
  case none =>
   obtain rfl:=hv.none_inv;obtain rfl:=hw.none_inv;obtain rfl:=Ay e;exact⟨SeqAt.RcAt.none_none,SeqAt.RcNeAt.none_none⟩
  all_goals exact(Aw e).elim
 ·rcases b with _ | y | _ | _ | _ | _
  case bool =>
   obtain rfl:=hv.bool_inv;obtain rfl:=hw.bool_inv;obtain rfl:=Ay e;exact⟨SeqAt.RcAt.bool_bool _ _,SeqAt.RcNeAt.bool_bool _ _⟩
  all_goals exact(Aw e).elim
 ·rcases b with _ | _ | y | _ | _ | _
  case int =>
   refine AI hv.int_inv ?_;rintro _ rfl;refine AI hw.int_inv ?_;rintro _ rfl;obtain rfl:=Ay e;exact⟨SeqAt.RcAt.int_int _ _ _ _,SeqAt.RcNeAt.int_int _ _ _ _⟩
  all_goals exact(Aw e).elim
 ·rcases b with _ | _ | _ | y | _ | _
  case str =>
   refine AI hv.str_inv ?_;rintro _ rfl;refine AI hw.str_inv ?_;rintro _ rfl;obtain rfl:=Ay e;exact⟨SeqAt.RcAt.str_str _ _ _ _,SeqAt.RcNeAt.str_str _ _ _ _⟩
  all_goals exact(Aw e).elim
 ·rcases b with _ | _ | _ | _ | ys | _
  case tup =>
   refine CG hv.tup_inv ?_;rintro a1 vs1 k1 rfl ho hr;refine CG hw.tup_inv ?_;rintro a2 vs2 k2 rfl ho2 hr2;refine At (Vy e) ?_;rintro h1 h2;have t1:s.heap.IsTuple a1 vs1.toArray:=⟨_,(N _ ho.1).1,rfl,_,rfl⟩;have t2:s.heap.IsTuple a2 vs2.toArray:=⟨_,(N _ ho2.1).1,rfl,_,rfl⟩;have he:∀j (q1:j<vs1.toArray.size) (q2:j<vs2.toArray.size),IZ A.in1 s vs1.toArray[j] vs2.toArray[j] (ej (Cd l.σ n) xs ys j):=λj q1 q2=>by
    refine Ah (Az.arr (ws:=vs1.toArray) (by simpa using hr) q1) ?_;rintro x ex rx
    refine Ah (Az.arr (ws:=vs2.toArray) (by simpa using hr2) q2) ?_;rintro y ey ry
    exact ih _ _ _ _ _ (h1 j x y ex ey) rx ry
   have z:=SeqAt.RcAt.tuples t1 t2 hu' he;have z2:=SeqAt.RcNeAt.tuples t1 t2 hu' he;rw[h2];simp only[J8,hr.length,hr2.length]at z z2;exact⟨z,z2⟩
  all_goals exact(Aw e).elim
 ·rcases b with _ | _ | _ | _ | _ | j
  case ref =>
   refine AE hv.ref_inv ?_;rintro _ rfl _ rfl;refine AE hw.ref_inv ?_;rintro _ rfl _ rfl;rcases Vw e with⟨xs,ys,e1,e2,h⟩ | ⟨es,fs,e1,e2,h⟩
   ·exact AeP R N ih e1 e2 h hu'
   ·exact AeQ R N ih e1 e2 h hu'
  all_goals exact(Aw e).elim
theorem QL(R:LR c.prog c.w l){s:Aq}(N:CE c.h₀ c.L s.heap l.Φ):∀(n:Nat) {A:CD} {v w:Ad} {a b:CV} {r:Bool},Cd l.σ n a b=some r->VR l v a->VR l w b->A.units+n<cLine->IZ A s v w r:=by
 intro z1
 induction z1 with
 | zero =>
  intro z2 z3 z4 z5 z6 z7 e z8 z9 z10;exfalso;injection e
 | succ n ih =>
  intro A v w a b r e hv hw hu
  by_cases hvw:v=w
  ·subst hvw;have:=VR.func R hv hw;subst this;rw[AeO R.dictKeys (n+1) _ _ e];exact SeqAt.EqAt.same v
  have z:=(VA (A:=A) R N (λv w a b r e hv hw=>ih e hv hw (by rw[TM];exact Aea hu)) e hv hw (Vi hu)).1
  rcases a with _ | x | x | x | xs | i
  ·rcases b with _ | _ | _ | _ | _ | _
   case none=>exact absurd (hv.none_inv.trans hw.none_inv.symm) hvw
   all_goals exact(Aw e).elim
  ·rcases b with _ | y | _ | _ | _ | _
   case bool =>
    obtain rfl:=hv.bool_inv;obtain rfl:=hw.bool_inv;obtain rfl:=Ay e;exact SeqAt.EqAt.bool_bool _ _
   all_goals exact(Aw e).elim
  ·rcases b with _ | _ | y | _ | _ | _
   case int =>
    refine AI hv.int_inv ?_;rintro _ rfl;refine AI hw.int_inv ?_;rintro _ rfl;obtain rfl:=Ay e;exact SeqAt.EqAt.int_int _ _ _ _
   all_goals exact(Aw e).elim
  ·rcases b with _ | _ | _ | y | _ | _
   case str =>
    refine AI hv.str_inv ?_;rintro _ rfl;refine AI hw.str_inv ?_;rintro _ rfl;obtain rfl:=Ay e;exact SeqAt.EqAt.str_str _ _ _ _
   all_goals exact(Aw e).elim
  ·rcases b with _ | _ | _ | _ | ys | _
   case tup =>
    refine CG hv.tup_inv ?_;rintro _ _ _ rfl _ _;refine CG hw.tup_inv ?_;rintro _ _ _ rfl _ _;exact AnX (λq=>hvw (congrArg CR q)) z
   all_goals exact(Aw e).elim
  ·rcases b with _ | _ | _ | _ | _ | j
   case ref =>
    refine AE hv.ref_inv ?_;rintro _ rfl _ _;refine AE hw.ref_inv ?_;rintro _ rfl _ _;exact AnX (λq=>hvw (congrArg CR q)) z
   all_goals exact(Aw e).elim
end
end
section
noncomputable def Ef(f:CV->CV->Option Bool)(x:CV):List CV->Option Bool
 | []=>some false
 | y::ys=>match f y x,Ef f x ys with
  | some a,some b=>some (a || b)
  | _,_=>none
theorem VD:∀(f:CV->CV->Option Bool) (x y:CV) (ys:List CV),Ef f x (y::ys)=match f y x,Ef f x ys with | some a,some b=>some (a || b) | x,x_1=>none:=by intros;rfl
noncomputable def Gu(σ:CH)(a b:CV):Option Bool:=match b with
 | .tup ys=>Ef (Cd σ 20) a ys
 | .ref j=>match σ[j]? with
  | some (.list ys)=>Ef (Cd σ 20) a ys
  | some (.dict es)=>match a with
   | .int k=>some (EL es k).isSome
   | _=>none
  | _=>none
 | _=>none
noncomputable def isNone(a:CV):Bool:=match a with | .none=>true | _=>false
noncomputable def HD(o:Option Bool):CM Bool:=match o with
 | some r=>ret r
 | none=>Ar
noncomputable def Eg(op:Fl)(a b:CV):CM Bool:=match op with
 | .Eq=>λσ=>HD (Cd σ 20 a b) σ
 | .NotEq=>λσ=>HD ((Cd σ 20 a b).map (!·)) σ
 | .Lt=>match a,b with | .int x,.int y=>ret (decide (x<y)) | _,_=>Ar
 | .LtE=>match a,b with | .int x,.int y=>ret (decide (x<=y)) | _,_=>Ar
 | .Gt=>match a,b with | .int x,.int y=>ret (decide (y<x)) | _,_=>Ar
 | .GtE=>match a,b with | .int x,.int y=>ret (decide (y<=x)) | _,_=>Ar
 | .Is=>match b with | .none=>ret (isNone a) | _=>Ar
 | .IsNot=>match b with | .none=>ret (!isNone a) | _=>Ar
 | .In=>λσ=>HD (Gu σ a b) σ
 | .NotIn=>λσ=>HD ((Gu σ a b).map (!·)) σ
def VB(_:Am)(v:Ad)(b:Bool):Prop:=v=.bool b
section
variable {c:FC}{FX:Bh}{m:Ac->Option Ad}{l:Am}{d:Nat}
theorem VE(R:LR c.prog c.w l){s:Aq}(N:CE c.h₀ c.L s.heap l.Φ){n:Nat}{A:CD}{v w:Ad}{a b:CV}{r:Bool}(e:Cd l.σ (n+1) a b=some r)(hv:VR l v a)(hw:VR l w b)(hu:A.units+n+1<cLine) :
  TK A s v w r/\TL A s v w (!r) :=
 VA R N (λv w a b r e hv hw=>QL R N n e hv hw (by rw[TM];exact Aec hu)) e hv hw (Aeb hu)
theorem Aa.heapRet{f:CM Bool}{V:Am->Ad->Bool->Prop}(o:Option Bool)(hf:f l.σ=HD o l.σ)
  (h:∀r,o=some r->∀(s:Aq) (Q:Ad->Aq->Prop) (E:Ad->Aq->Prop),St c m l s.heap->(∀a tk,V l a r->Q a { s with toks:=tk })->wpAny c.M c.A t Q E s):Aa c FX m l t f V:=by
 intro s Q E st ok exc ns;rw[hf]at ok ns;rcases o with _ | r
 ·exact absurd rfl ns
 ·exact h r rfl s Q E st λa tk v=>ok r l a s.heap tk rfl st (Ap.refl l) v
open Classical in
theorem VG{f:CV->CV->Option Bool}(R:LR c.prog c.w l){x:CV}{vs:List Ad}{ys:List CV}{r:Bool}(hv:Az l vs ys):Ef f x ys=some r ->
  (∀y∈vs,∃cy b,VR l y cy/\f cy x=some b/\decide (∃cy,VR l y cy/\f cy x=some true)=b)/\vs.any (λy=>decide (∃cy,VR l y cy/\f cy x=some true))=r :=
 hv.ind (P:=λvs ys=>∀r,Ef f x ys=some r->(∀y∈vs,∃cy b,VR l y cy/\f cy x=some b/\decide (∃cy,VR l y cy/\f cy x=some true)=b)/\vs.any (λy=>decide (∃cy,VR l y cy/\f cy x=some true))=r)
  (λr e=>⟨λz h=>(nomatch h),Ay e⟩) (λ{v vs cy cs} h _ ih r e=>by
   have e:(match f cy x,Ef f x cs with | some a,some b=>some (a || b) | _,_=>none)=some r:=e
   rcases ea:f cy x with _ | a
   ·rw[ea]at e;exact(Aw e).elim
   ·rcases eb:Ef f x cs with _ | b
    ·rw[ea,eb]at e;exact(Aw e).elim
    ·rw[ea,eb]at e;obtain rfl:=Ay e;refine At (ih b eb) ?_;rintro h1 h2;have hd:decide (∃cy,VR l v cy/\f cy x=some true)=a:=by
      rcases a with _ | _
      ·refine decide_eq_false λzz => ?_;refine Ah zz ?_;clear zz;rintro cy' h' e';rw[<- VR.func R h h',ea]at e';injection e' with za;exfalso;injection za
      ·exact decide_eq_true ⟨cy,h,ea⟩
     refine⟨λy hy => ?_,?_⟩
     ·rcases AS.mp hy with rfl | hy
      ·exact⟨cy,a,h,ea,hd⟩
      ·exact h1 y hy
     ·rw[Nn,hd,h2]) r
open Classical in
set_option tactic.hygienic true in
theorem VH(ok:AJ c d){s:Aq}(st:St c m l s.heap){v w:Ad}{a b:CV}{r:Bool}(e:Gu l.σ a b=some r)(hv:VR l v a)(hw:VR l w b)(Q:Ad->Aq->Prop)(E:Ad->Aq->Prop) :
  ((∀tk,Q (.bool r) { s with toks:=tk })->wpAny c.M c.A (Ja .In v w) Q E s)/\((∀tk,Q (.bool (!r)) { s with toks:=tk })->wpAny c.M c.A (Ja .NotIn v w) Q E s):=by
 have hu:=ok.units;have hcl:cLine=9900:=rfl;have ih:∀{ys:List CV} {vs:List Ad} {r:Bool},Az l vs ys->Ef (Cd l.σ 20) a ys=some r->∃e:Ad->Bool,(∀y∈vs,IZ c.A.in1 s y v (e y))/\vs.any e=r:=λhr ha=>by
  refine At (VG st.lr hr ha) ?_;rintro h1 h2;refine⟨_,λy hy => ?_,h2⟩;refine Bm (h1 y hy) ?_;rintro cy b hb he hd;rw[hd];exact QL st.lr st.nw 20 he hb hv (by rw[TM];exact U9 hu hcl)
 unfold Gu at e
 split at e
 ·refine CG hw.tup_inv ?_;rintro _ _ _ rfl ho hr
  ·refine Ah (ih hr e) ?_;rintro e' h1 h2;have t:s.heap.IsTuple _ _:=⟨_,(st.nw _ ho.1).1,rfl,_,rfl⟩;refine⟨λk=>SeqAt.in_tupleAt e' t (λy hy=>h1 y (by simpa using hy)) ?_,λk=>SeqAt.notIn_tupleAt e' t (λy hy=>h1 y (by simpa using hy)) ?_⟩
   ·rw[AnY,h2];exact k s.toks
   ·rw[AnY,h2];exact k s.toks
 ·refine AE hw.ref_inv ?_;rintro _ rfl hl ha
  ·split at e
   ·rename_i ys hs;refine Ba (st.list (.ref hl ha) hs) ?_;rintro ws k' hm hr;refine Ah (ih hr e) ?_;rintro e' h1 h2;have t:=st.isList hm;refine⟨λk=>SeqAt.in_listAt e' t (λy hy=>h1 y (by simpa using hy)) ?_,λk=>SeqAt.notIn_listAt e' t (λy hy=>h1 y (by simpa using hy)) ?_⟩
    ·rw[<- TN,h2];exact k s.toks
    ·rw[<- TN,h2];exact k s.toks
   ·rename_i es hs;refine Cj (st.lr.obj _ _ hs) ?_;rintro o kvs hm hsys hd hr;rw[ha]at hm hsys
    split at e
    ·rename_i k;refine AI hv.int_inv ?_;rintro t rfl;injection e with za;subst za
     have D:s.heap.DictOf (intKind c.prog c.w) _ kvs:=Nm.mpr ⟨o,(st.nw _ hm).1,hd⟩;have hk:(intKind c.prog c.w).is k (.int k t)=true:=by simp[intKind,TO]
     have hb:(valueAt kvs k).isSome=(EL es k).isSome:=by
      rcases hr.look k with⟨h1,h2⟩ | ⟨v',x,h1,h2,_⟩<;>rw[h1,h2]<;>rfl
     exact⟨λq=>wpAny_in_of hk hsys D.mapOf (by rw[hb];exact q _),λq=>wpAny_notIn_of hk hsys D.mapOf (by rw[hb];exact q _)⟩
    ·exfalso;injection e
   ·exfalso;injection e
 ·exfalso;injection e
noncomputable def AeR(f:Int->Int->Bool)(a b:CV):CM Bool:=match a,b with | .int x,.int y=>ret (f x y) | _,_=>Ar
theorem Od{f:Int->Int->Bool}{w:Ad}{a b:CV}(hs:∀x y t u (s:Aq) (Q:Ad->Aq->Prop) (E:Ad->Aq->Prop),Q (.bool (f x y)) s->wpAny c.M c.A (Ja op (.int x t) (.int y u)) Q E s)(hv:VR l v a)(hw:VR l w b) :
  Aa c FX m l (Ja op v w) (AeR f a b) VB:=by
 rcases a with⟨⟩<;>try exact Aa.stuck
 rcases b with⟨⟩<;>try exact Aa.stuck
 refine AI hv.int_inv ?_;rintro t e1;refine AI hw.int_inv ?_;rintro u e2;rw[e1,e2];exact Aa.heapRet (some _) rfl λr e s Q E st k=>hs _ _ _ _ _ _ _ (k _ _ (Ay e▸rfl))
theorem VI{a:CV}(hv:VR l v a):(v == .none)=isNone a:=by rcases hv with⟨⟩<;>rfl
theorem Oe(ok:AJ c d){op:Fl}{v w:Ad}{a b:CV}(hv:VR l v a)(hw:VR l w b):Aa c FX m l (Ja op v w) (Eg op a b) VB:=by
 have hu:=ok.units;have hcl:cLine=9900:=rfl;rcases op with _ | _ | _ | _ | _ | _ | _ | _ | _ | _
 ·refine Aa.heapRet (Cd l.σ 20 a b) rfl λr e s Q E st k => ?_;exact(VE st.lr st.nw e hv hw (Vj hu hcl)).1 _ _ _ _ (k _ _ rfl)
 ·refine Aa.heapRet ((Cd l.σ 20 a b).map (!·)) rfl λr e s Q E st k => ?_;refine Ah (Hu.mp e) ?_;rintro r' e' rfl;exact(VE st.lr st.nw e' hv hw (Vj hu hcl)).2 _ _ _ _ (k _ _ rfl)
 ·exact Od (f:=λx y=>decide (x<y)) (λz z z z z z z h=>PyProof.Rows.lt_int h) hv hw
 ·exact Od (f:=λx y=>decide (x<=y)) (λz z z z z z z h=>PyProof.Rows.le_int h) hv hw
 ·exact Od (f:=λx y=>decide (y<x)) (λz z z z z z z h=>PyProof.Rows.gt_int h) hv hw
 ·exact Od (f:=λx y=>decide (y<=x)) (λz z z z z z z h=>PyProof.Rows.ge_int h) hv hw
 ·rcases b with⟨⟩<;>try exact Aa.stuck
  rw[hw.none_inv];exact Aa.heapRet (some (isNone a)) rfl λr e s Q E st k=>PyProof.Rows.is_none_gen (k _ s.toks (congrArg Value.bool ((VI hv).trans (Ay e))))
 ·rcases b with⟨⟩<;>try exact Aa.stuck
  rw[hw.none_inv];exact Aa.heapRet (some (!isNone a)) rfl λr e s Q E st k=>PyProof.Rows.isnot_none_gen (k _ s.toks (congrArg Value.bool ((congrArg (!·) (VI hv)).trans (Ay e))))
 ·refine Aa.heapRet (Gu l.σ a b) rfl λr e s Q E st k => ?_;exact(VH ok st e hv hw Q E).1 λtk=>k _ _ rfl
 ·refine Aa.heapRet ((Gu l.σ a b).map (!·)) rfl λr e s Q E st k => ?_;refine Ah (Hu.mp e) ?_;rintro r' e' rfl;exact(VH ok st e' hv hw Q E).2 λtk=>k _ _ rfl
end
end
noncomputable abbrev Gv(C t:Af)(od:Option Af):AR:={ cls:=.ref C,dict:=od,data:=.fields #[.ref t,.none,.none,.none,.bool false,.none] }
def XS(b0:Af)(l:Am)(x C:Af)(as:List (Ac×CV)):Prop:=b0<=x/\∃t od,AQ l (x,Gv C t od)/\match od with
 | none=>as=[]
 | some dx=>b0<=dx/\dx≠x/\∃es k,AQ l (dx,dictOf es k)/\Di l es as
theorem XS.mono{b0 x:Af}(e:Ap No l l')(z:XS b0 l x C as):XS b0 l' x C as:=by
 rcases z with⟨hb,t,od,ho,r⟩
 refine⟨hb,t,od,e.all ho,?_⟩;rcases od with _ | dx
 ·exact r
 ·rcases r with⟨r1,r2,es,k,r3,r4⟩
  exact⟨r1,r2,es,k,e.all r3,r4.mono e⟩
def AeS(K:Bf)(C:Af)(names:List Ac):Prop:=∀(c:FC) (m:Ac->Option Ad) (l:Am) (vs:List Ad) (cs:List CV) (s:Aq) (R:GO->Aq->Prop),c.K=K->AJ c 3->St c m l s.heap->Az l vs cs->cs.length=names.length ->
 (∀l' x b0 h' tk,l'.σ=l.σ->St c m l' h'->Ap No l l'->(∀p∈l.Φ,p.1<b0)->XS b0 l' x C (names.zip cs)->R (.ok (.ret (.ref x))) (put s h' tk)) ->
 codeAny c.M c.A (.call (.ref C) ⟨vs,[]⟩) R s
structure Of(K:Bf)(C:Af)(names:List Ac):Prop where
 ne:names≠[]
 base:∀M h,K.In h->BK M h (GV (.ref C) (.type "BaseException")) true
 typ:∀M h,K.In h->BK M h (typeOf (.ref C)) (.type "type")
 make:AeS K C names
section
noncomputable abbrev Ao:=List (Ac×CV)
noncomputable abbrev AD:=List (Ac×Go)
def Jn(K:Bf)(f:Af)(D:C0):Prop:=∃oc od osl kV doc pm an cdv ct,K.lookup f=some ⟨oc,od,.func (fnOf D.name D.qual D.params D.body D.scope .none kV doc pm an cdv ct),osl⟩/\codeIn K cdv D.qual=true
structure AM where
 top:List (Ac×AZ)
 bins:List (Ac×Ad)
 attrs:List (Af×List Ac)
 meths:List (Af×List (Ac×Af))
 inits:List (Af×Af)
 clsfn:List (Af×List (Ac×Af))
 excs:List (Af×List Ac)
 defs:Af->Option C0
 fn:Af->Option (List CV->CM CV)
structure Bn(K:Bf)(Γ:AM):Prop where
 top:∀x v,Γ.top.lookup x=some v->∃w,nsIn K Eb x=some (some w)/\(match v with | .int i=>∃t,w=.int i t | .ref a=>w=.ref a/\keepIn K (.ref a)=true)
 bins:∀x v,Γ.bins.lookup x=some v->nsIn K Eb x=some none/\ZA x=some v/\x≠"__name__"
 attrs:∀C xs x,Γ.attrs.lookup C=some xs->xs.contains x=true->LE K C x=true/\Ql K C x=true
 meths:∀C ms x f,Γ.meths.lookup C=some ms->ms.lookup x=some f->Qm K C x f=true
 inits:∀C f,Γ.inits.lookup C=some f->Qn K C f=true
 clsfn:∀C ms x f,Γ.clsfn.lookup C=some ms->ms.lookup x=some f->Ih K C x f=true
 defs:∀f D,Γ.defs f=some D->Jn K f D
 excs:∀C names,Γ.excs.lookup C=some names->Of K C names
noncomputable def C7(x:Ac):Bool := !(x == ("__debug__" : Ac)) && !(x == ("__classdict__" : Ac))
noncomputable def Gw(Γ:AM)(ks:AD)(loc:Ao)(x:Ac):CM CV :=
 if C7 x=true then match ks.lookup x with
  | some .globalImplicit=>match Γ.top.lookup x with
   | some (.int i)=>ret (.int i)
   | _=>Ar
  | some .local | some .cell | some .free=>match loc.lookup x with
   | some v=>ret v
   | none=>Ar
  | _=>Ar
 else Ar
noncomputable def Og:Const->CM CV
 | .none=>ret .none
 | .bool b=>ret (.bool b)
 | .int i=>ret (.int i)
 | .str x=>ret (.str x)
 | _=>Ar
noncomputable def Oh:CV->CM CV
 | .int i=>ret (.int (-i))
 | _=>Ar
noncomputable def Gx(v:CV):CM Bool:=match v with
 | .none=>ret false
 | .bool b=>ret b
 | .int i=>ret (i != 0)
 | .ref n=>bnd (listC n) λvs=>ret (!vs.isEmpty)
 | _=>Ar
noncomputable def QM(k:Int):Bool:=decide (-9223372036854775808<=k/\k<9223372036854775808)
noncomputable def Kv(vs:List CV)(k:Int):CM CV:=if QM k=true then match (Np k vs.length).bind (vs[·]?)with
 | some x=>ret x
 | none=>Ar
 else Ar
noncomputable def Ft(n:Nat):CM (List (Int×CV)):=λσ=>match σ[n]? with
 | some (.dict es)=>.ok es σ
 | _=>.stuck
noncomputable def G7(n:Nat)(σ:CH):Bool:=match σ[n]? with | some (.list _)=>true | _=>false
noncomputable def HE(o i:CV):CM CV:=match o,i with
 | .tup vs,.int k=>Kv vs k
 | .ref n,.int k=>λσ=>if G7 n σ=true then bnd (listC n) (λvs=>Kv vs k) σ else bnd (Ft n) (λes=>match EL es k with | some x=>ret x | none=>Ar) σ
 | _,_=>Ar
noncomputable def Gy(n:Nat):CM (Af×List (Ac×CV)):=λσ=>match σ[n]? with
 | some (.inst C as)=>.ok (C,as) σ
 | _=>.stuck
noncomputable def Fu(Γ:AM)(C:Af)(x:Ac):Bool:=match Γ.attrs.lookup C with
 | some xs=>xs.contains x
 | none=>false
noncomputable def HF(Γ:AM)(o:CV)(x:Ac):CM CV:=match o with
 | .ref n=>bnd (Gy n) λp=>if Fu Γ p.1 x=true then match p.2.lookup x with
  | some v=>ret v
  | none=>Ar
  else Ar
 | _=>Ar
def HG(c:FC)(m:Ac->Option Ad)(env:Env)(l:Am)(x:Ac)(k:Go)(v:CV):Prop:=match k with
 | .local=>(env.locals=c.L/\∃w,m x=some w/\VR l w v)\/∃oC m₂ w,AQ l (env.locals,oC)/\(∀u,oC.data≠.cell u)/\GW oC m₂/\m₂ x=some w/\VR l w v
 | .cell=>∃a o w,env.cells.lookup x=some a/\AQ l (a,o)/\o.data=.cell (some w)/\VR l w v
 | .free=>∃a o w,env.cells.lookup x=some a/\AQ l (a,o)/\o.data=.cell (some w)/\VR l w v
 | _=>False
structure B8(c:FC)(m:Ac->Option Ad)(env:Env)(l:Am)(loc:Ao):Prop where
 nm:∀x v k,loc.lookup x=some v->env.kindOf x=some k->HG c m env l x k v
 lo:env.locals=c.L\/∃o,AQ l (env.locals,o)
structure Ce(c:FC)(env:Env):Prop where
 globals:env.globals=Eb
 builtins:env.builtins=builtinsNs
 kind:env.scope.kind=.function
 frame:env.frame=some c.L
section
variable {c:FC}{FX:Bh}{m:Ac->Option Ad}{l l':Am}{d:Nat}{env:Env}{loc:Ao}{Γ:AM}
theorem HG.mono(x:Ap No l l'){n:Ac}{k:Go}{v:CV}(h:HG c m env l n k v):HG c m env l' n k v:=by
 rcases k with _ | _ | _ | _ | _
 case «local» =>
  rcases h with⟨e,w,hm,hv⟩ | ⟨oC,m₂,w,ho,hc,hn,hm,hv⟩
  ·exact .inl ⟨e,w,hm,hv.mono x⟩
  ·exact .inr ⟨oC,m₂,w,x.all ho,hc,hn,hm,hv.mono x⟩
 case cell =>
  refine EZ h ?_;clear h;rintro a o w e ho hd hv;exact⟨a,o,w,e,x.all ho,hd,hv.mono x⟩
 case free =>
  refine EZ h ?_;clear h;rintro a o w e ho hd hv;exact⟨a,o,w,e,x.all ho,hd,hv.mono x⟩
 all_goals exact h
theorem B8.mono(x:Ap No l l')(h:B8 c m env l loc):B8 c m env l' loc:=⟨λn v k e q=>(h.nm n v k e q).mono x,h.lo.imp id λ⟨o,ho⟩=>⟨o,x.all ho⟩⟩
theorem QN(ok:AJ c d)(g:Bn c.K Γ)(eo:Ce c env)(er:B8 c m env l loc){x:Ac}{pos:Pos}:Aa c FX m l (eval (.Name x pos) env) (Gw Γ env.scope.names loc x) VR:=by
 unfold Gw;refine Aa.guard λhx => ?_;simp only[C7,A9,EY]at hx;have T:Lr c.p c.loose c.mg c.mb c.h₀:=Ic ok.top;have lo:∀k,env.kindOf x=some k->(k=.local\/k=.cell\/k=.free)->Aa c FX m l (eval (.Name x pos) env) (match loc.lookup x with | some v=>ret v | none=>Ar) VR:=λk hk hk'=>by
  rcases hv:loc.lookup x with _ | v
  ·exact Aa.stuck
  ·have z:=er.nm x v k hv hk;refine Aa.ofRet λs Q E q st => ?_;rcases hk' with rfl | rfl | rfl
   ·rcases z with⟨e,w,hm,hr⟩ | ⟨oC,m₂,w,ho,_,hn,hm,hr⟩
    ·exact Ls (PW eo.kind hk (e▸st.fr.ns) hm (q w s.toks hr)) hx.1
    ·exact Ls (PW eo.kind hk (hn.ns (st.nw _ ho.1).1) hm (q w s.toks hr)) hx.1
   ·refine EZ z ?_;clear z;rintro a o w e ho hd hr;exact Ls (wpAny_loadName_cell eo.kind hk e ⟨o,(st.nw _ ho.1).1,hd⟩ (q w s.toks hr)) hx.1
   ·refine EZ z ?_;clear z;rintro a o w e ho hd hr;exact Ls (wpAny_loadName_free eo.kind hk e ⟨o,(st.nw _ ho.1).1,hd⟩ (q w s.toks hr) hx.2) hx.1
 rcases hk:env.scope.names.lookup x with _ | k
 ·exact Aa.stuck
 rcases k with _ | _ | _ | _ | _
 case «local»=>exact lo _ hk (.inl rfl)
 case cell=>exact lo _ hk (.inr (.inl rfl))
 case free=>exact lo _ hk (.inr (.inr rfl))
 case globalExplicit=>exact Aa.stuck
 case globalImplicit =>
  dsimp only;rcases hi:Γ.top.lookup x with _ | (i | _)
  case some.int =>
   rcases g.top x _ hi with⟨w,hw,t,rfl⟩
   exact Aa.ofRet λs Q E q st=>Lu eo.kind hk (PX (by rw[eo.globals];exact T.g.keeps st.fr.keep) (mg_of ok.kin T.g hw) (q _ s.toks (.int _ _))) hx.1
  all_goals exact Aa.stuck
theorem VJ{k:Const}:Aa c FX m l (eval (.Constant k n pos) env) (Og k) VR:=by
 rcases k with _ | _ | _ | _ | _ | _ | _ | _
 case none=>exact Aa.ofRet λs Q E q st=>Constant_none (q _ s.toks .none)
 case bool=>exact Aa.ofRet λs Q E q st=>Constant_bool (q _ s.toks (.bool _))
 case int =>
  exact Aa.ofRet λs Q E q st=>fun Γ p hΓ=>by
   exact q (.int _ s.toks) (s.toks+1) (.int _ _)
 case str=>exact Aa.ofRet λs Q E q st=>Constant_str (q _ _ (.str _ _))
 all_goals exact Aa.stuck
theorem AeT{a:CV}(hv:VR l v a):Aa c FX m l (unaryOp .USub v) (Oh a) VR:=by
 unfold Oh
 split
 ·rcases hv with⟨⟩
  exact Aa.ofRet λs Q E q st=>PySem.P.neg_int (q _ _ (.int _ _))
 ·exact Aa.stuck
theorem QO{a:CV}(hv:VR l v a):Aa c FX m l (truthy v) (Gx a) (λz r b=>r=b):=by
 rcases a with _ | b | i | _ | _ | n
 ·obtain rfl:=hv.none_inv;exact Aa.now λs Q E st q=>truthy_none (q _ s.toks rfl)
 ·obtain rfl:=hv.bool_inv;exact Aa.now λs Q E st q=>ZY (q _ s.toks rfl)
 ·refine AI hv.int_inv ?_;rintro _ rfl;exact Aa.now λs Q E st q=>PyProof.Rows.truthy_int (q _ s.toks rfl)
 ·exact Aa.stuck
 ·exact Aa.stuck
 ·refine AE hv.ref_inv ?_;rintro _ rfl hl ha;refine Aa.getList (.ref hl ha) λcs ws k hs hz z hm hr=>Aa.now λs Q E st q => ?_;have e:=hr.length;rw[Dt]at e;have hz':=of_decide_eq_true hz;refine wpAny_truthy_list (st.isList hm) (Aeg e hz') (q _ _ ?_);rcases cs with _ | ⟨c,cs⟩
  ·simp at e;simp[e]
  ·simp at e;have:ws≠#[]:=λq=>by rw[q]at e;simp at e
   simp[this]
theorem St.inst{a:Af}{h:AY}(st:St c m l h)(hv:VR l (.ref a) (.ref n))(hs:l.σ[n]? = some (.inst C as)) :
  ∃es k,(a,instObj C (l.ad n true))∈l.Φ/\(l.ad n true,dictOf es k)∈l.Φ/\Di l es as/\l.ad n false=a:=by
 rcases hv with _ | _ | _ | _ | _ | ⟨hl,ha⟩
 ·refine Bm (st.lr.obj _ _ hs) ?_;rintro es k h1 h2 h3;exact⟨es,k,ha▸h1,h2,h3,ha⟩
theorem Aa.getInst{t:Sem α}{f:Af×List (Ac×CV)->CM β}{V:Am->α->β->Prop}(h:∀C as,l.σ[n]? = some (.inst C as)->Aa c FX m l t (f (C,as)) V):Aa c FX m l t (bnd (Gy n) f) V:=by
 intro s Q E st ok exc ns;rcases e:l.σ[n]? with _ | o
 ·exact absurd (by unfold bnd Gy;rw[e]) ns
 ·rcases o with _ | _ | ⟨C,as⟩
  ·exact absurd (by unfold bnd Gy;rw[e]) ns
  ·exact absurd (by unfold bnd Gy;rw[e]) ns
  ·have eq:bnd (Gy n) f l.σ=f (C,as) l.σ:=by unfold bnd Gy;rw[e]
   rw[eq]at ok exc ns;exact h C as e s Q E st ok exc ns
theorem Aa.getDict{t:Sem α}{f:List (Int×CV)->CM β}{V:Am->α->β->Prop}(h:∀es,l.σ[n]? = some (.dict es)->Aa c FX m l t (f es) V):Aa c FX m l t (bnd (Ft n) f) V:=by
 intro s Q E st ok exc ns;rcases e:l.σ[n]? with _ | o
 ·exact absurd (by unfold bnd Ft;rw[e]) ns
 ·rcases o with _ | es | ⟨_,_⟩
  ·exact absurd (by unfold bnd Ft;rw[e]) ns
  ·have eq:bnd (Ft n) f l.σ=f es l.σ:=by unfold bnd Ft;rw[e]
   rw[eq]at ok exc ns;exact h es e s Q E st ok exc ns
  ·exact absurd (by unfold bnd Ft;rw[e]) ns
theorem AeU{e:Ec}{es:List Ec}(h1:e.key.isStr x=false)(h2:e.refKey=false):getL x (e::es)=getL x es:=by
 unfold getL;rw[ZV,h1,Nn,h2,ZZ]
theorem AeV{e:Ec}{es:List Ec}(h1:e.key.isStr x=true):getL x (e::es)=some (some e.val):=by
 unfold getL;rw[ZV,h1]
set_option tactic.hygienic true in
theorem Di.get{es:List Ec}(h:Di l es as)(x:Ac):(∃v w,as.lookup x=some v/\getL x es=some (some w)/\VR l w v)\/(as.lookup x=none/\getL x es=some none):=by
 induction h with
 | nil=>exact .inr ⟨rfl,rfl⟩
 | cons hv hr ih =>
  rename_i hh y t v cv es as;rw[BC]
  by_cases e:x=y
  ·subst e;refine .inl ⟨cv,v,by simp,?_,hv⟩
   exact AeV (by simp[TP])
  ·have e1:(x == y)=false:=beq_eq_false_iff_ne.mpr e;have e2:(y == x)=false:=beq_eq_false_iff_ne.mpr (EF e);rw[AeU (by simp[TP,e2]) rfl,e1]
   exact ih
theorem VR.handed{a:CV}(h:VR l v a):handedIn v=true:=by rcases h with⟨⟩<;>rfl
set_option tactic.hygienic true in
theorem AeW(ok:AJ c d)(g:Bn c.K Γ){v:Ad}{a:CV}{x:Ac}{expr:Bool}(hv:VR l v a):Aa c FX m l (getAttr v x expr) (HF Γ a x) VR:=by
 unfold HF
 split
 ·rename_i n;refine Aa.getInst λC as hs=>Aa.guard λha => ?_;unfold Fu at ha
  split at ha
  ·rename_i xs hx;refine At (g.attrs C xs x hx ha) ?_;rintro h1 _;simp only[LE,A9,beq_iff_eq]at h1;refine AE hv.ref_inv ?_;rintro _ rfl hl had
   split
   ·rename_i cv hc;refine Aa.ofRet λs Q E q st => ?_;refine Cj (st.inst (.ref hl had) hs) ?_;rintro es k m1 m2 r _;rcases r.get x with⟨v',w,e1,hw,hr⟩ | ⟨e1,_⟩
    ·have e2:some v'=some cv:=e1.symm.trans hc;injection e2 with za;subst za
     exact get_own st.fr ok.kin (Z0 st.nw m1 m2) h1.1.1 h1.1.2 h1.2 rfl hw hr.handed (q w _ hr)
    ·have e2:none=some cv:=e1.symm.trans hc;exfalso;injection e2
   ·exact Aa.stuck
  ·exfalso;injection ha
 ·exact Aa.stuck
set_option tactic.hygienic true in
theorem AeX(slice:Expr)(o i:Ad):∃ops,subscripted slice false o i=operate ops (getItem o i):=by
 rcases slice with⟨⟩<;>try exact⟨_,rfl⟩
 rename_i lo hi st p;rcases st with⟨⟩<;>exact⟨_,rfl⟩
theorem Aa.getListOr{t:Sem α}{f:CM β}{g:CM β}{V:Am->α->β->Prop}(h1:Aa c FX m l t f V)(h2:Aa c FX m l t g V):Aa c FX m l t (λσ=>if G7 n σ=true then f σ else g σ) V:=by
 intro s Q E st ok exc ns;dsimp only at ok exc ns
 by_cases hp:G7 n l.σ=true
 ·rw[if_pos hp]at ok exc ns;exact h1 s Q E st ok exc ns
 ·rw[if_neg hp]at ok exc ns;exact h2 s Q E st ok exc ns
set_option tactic.hygienic true in
theorem AeY{slice:Expr}{o i:Ad}{a b:CV}(ho:VR l o a)(hi:VR l i b):Aa c FX m l (Nq value slice o i) (HE a b) VR:=by
 refine AI (AeX slice o i) ?_;rintro ops hops;unfold HE;rcases a with _ | _ | _ | _ | xs | n
 case tup =>
  rcases b with _ | _ | k | _ | _ | _
  all_goals try exact Aa.stuck
  dsimp only;refine CG ho.tup_inv ?_;rintro _ _ _ rfl hoth hr;refine AI hi.int_inv ?_;rintro t rfl;unfold Kv;refine Aa.guard λhk => ?_;have hk':=of_decide_eq_true hk
  split
  ·rename_i x hx;refine Ah (PY.mp hx) ?_;rintro j hj hx';refine Ah (hr.get hx') ?_;rintro v hv hr';rw[<- hr.length]at hj;refine Aa.ofRet λs Q E q st => ?_;have T:=st.isTup hoth;exact Z1 T.typeIs slot_tuple_getitem.lookup (getItem_tuple T hk'.1 hk'.2 (by simpa using hj) (by simpa using hv) (q v s.toks hr')) hops
  ·exact Aa.stuck
 case ref =>
  rcases b with _ | _ | k | _ | _ | _
  all_goals try exact Aa.stuck
  dsimp only;refine AE ho.ref_inv ?_;rintro _ rfl hl had;refine AI hi.int_inv ?_;rintro t rfl;refine Aa.getListOr ?_ ?_
  ·refine Aa.getList (.ref hl had) λcs ws kk hs hz z hm hr => ?_;unfold Kv;refine Aa.guard λhk => ?_;have hk':=of_decide_eq_true hk
   split
   ·rename_i x hx;refine Ah (PY.mp hx) ?_;rintro j hj hx';refine Ah (hr.get hx') ?_;rintro v hv hr';rw[<- hr.length]at hj;refine Aa.ofRet λs Q E q st => ?_;have T:=st.isList hm;obtain⟨li,rfl⟩:∃li:List Ad,ws=li.toArray:=⟨ws.toList,by rw[ZT]⟩
    refine Z1 T.typeIs slot_list_getitem.lookup ?_ hops
    by_cases h0:k<0
    ·exact kde_getNeg T h0 hk'.1 (by simpa using hj) (by simpa using hv) (q v s.toks hr')
    ·have hj':j=k.toNat:=by
      unfold Np at hj;rw[if_neg h0]at hj;dsimp only at hj
      split at hj
      ·injection hj with za;subst za;rfl
      ·exfalso;injection hj
     subst hj';exact wpAny_getItem_list T (Aef h0) hk'.2 (by simpa using hv) (q v s.toks hr')
   ·exact Aa.stuck
  ·refine Aa.getDict λes hs => ?_
   split
   ·rename_i x hx;refine Aa.ofRet λs Q E q st => ?_;refine Cj (st.lr.obj _ _ hs) ?_;rintro ob kvs hm hsys hd hr;rw[had]at hm hsys;rcases hr.look k with⟨h1,_⟩ | ⟨v',x',h1,h2,h3⟩
    ·rw[h1]at hx;(exfalso;injection hx)
    ·rw[h1]at hx;injection hx with za;subst za
     have D:=Z2 st.nw hm hd;have hk:(intKind c.prog c.w).is k (.int k t)=true:=by simp[intKind,TO]
     exact Z1 D.typeIs slot_dict_getitem.lookup (wpAny_getItem_of hk D.mapOf h2 (q v' _ h3)) hops
   ·exact Aa.stuck
 all_goals exact Aa.stuck
noncomputable def Kw(a:CV):Option (Option Int):=match a with
 | .none=>some none
 | .int i=>some (some i)
 | _=>none
noncomputable def Im(vs:List CV)(lo hi:Option Int):List CV:=(vs.drop (Nr lo vs.length)).take (kms_hi hi vs.length-Nr lo vs.length)
noncomputable def LP(o a b:CV):CM CV:=match Kw a with
 | some lo=>(match Kw b with
  | some hi=>(match o with
   | .ref n=>bnd (listC n) λvs=>BV (Im vs lo hi)
   | _=>Ar)
  | none=>Ar)
 | none=>Ar
theorem Oi{a:CV}{o:Option Int}(h:Kw a=some o)(hv:VR l v a):IsPart v o:=by
 rcases a with _ | _ | i | _ | _ | _
 case none =>
  obtain rfl:=Ay h;obtain rfl:=hv.none_inv;exact .none
 case int =>
  obtain rfl:=Ay h;refine AI hv.int_inv ?_;rintro _ rfl;exact .int _ _
 all_goals exact(Aw h).elim
theorem AeZ{e1 e2:Option Expr}{p:Pos}{o v1 v2:Ad}{a a1 a2:CV}(ho:VR l o a)(h1:VR l v1 a1)(h2:VR l v2 a2) :
  Aa c FX m l (Z3 "slice" [v1,v2,.none] >>= λi=>standAt pos >>= λz=>Nq value (.Slice e1 e2 none p) o i) (LP a a1 a2) VR:=by
 unfold LP;rcases e1:Kw a1 with _ | lo
 ·exact Aa.stuck
 rcases e2:Kw a2 with _ | hi
 ·exact Aa.stuck
 rcases a with _ | _ | _ | _ | _ | n
 case ref =>
  dsimp only;refine AE ho.ref_inv ?_;rintro _ rfl hl had;refine Aa.getList (.ref hl had) λcs ws k hs hz z hm hr => ?_;have len:=hr.length;have hcut:(Im cs lo hi).length<=cs.length:=by
   unfold Im;rw[Nt,PZ];exact Aee
  intro s Q E st ok exc ns;unfold BV at ok ns;have hx:small (Im cs lo hi).length=true:=by
   have:=of_decide_eq_true hz;exact decide_eq_true (Aed hcut this)
  rw[if_pos hx]at ok;refine Aj (Nu (Aj (FM ?_)) (by simp[sizeOk,sizeLine]))
  refine kba_turn (value':=Expr.Name (PySem.Str.ofString "_") ⟨0,0,0,0⟩) (λz=>rfl) ?_;refine AnZ st.fr st.nw (st.isList hm) (Oi e1 h1) (Oi e2 h2) rfl (λD h' F' N' fr => ?_) rfl (λz=>rfl) ?_
  ·have hv:Az l (P0 ws.toList lo hi) (Im cs lo hi):=by
    unfold P0 Im;rw[len];exact(hr.drop _).take _
   refine BL (st.addList F' N' fr hv) ?_;rintro l' e st' x v;exact ok _ l' _ h' s.toks (by rw[e]) st' x v
  ·rw[<- Dt,len];exact FZ hz
 all_goals exact Aa.stuck
end
end
variable {Γ:AM}{ks names:AD}{vars base loc:Ao}
section
noncomputable def C8(e:Expr):Bool:=EE e.ctorIdx 22
noncomputable def Bx(f:Expr->CM CV):List Expr->CM (List CV)
 | []=>ret []
 | e::r=>if C8 e=true then Ar else bnd (f e) λv=>bnd (Bx f r) λvs=>ret (v::vs)
theorem QP:∀(f:Expr->CM CV) (e:Expr) (r:List Expr),Bx f (e::r)=if C8 e=true then Ar else bnd (f e) λ(v:CV)=>bnd (Bx f r) λ(vs:List CV)=>ret (v::vs):=by intros;rfl
section
variable {c:FC}{FX:Bh}{m:Ac->Option Ad}{l l':Am}{d:Nat}{env:Env}{loc:Ao}{Γ:AM}
def Bu(c:FC)(FX:Bh)(m:Ac->Option Ad)(env:Env)(l:Am)(f:Expr->CM CV):Prop:=∀e l',Ap No l l'->Aa c FX m l' (eval e env) (f e) VR
theorem Bu.mono(h:Bu c FX m env l f)(x:Ap No l l'):Bu c FX m env l' f:=λe l2 x2=>h e l2 (x.trans x2)
theorem Bu.here(h:Bu c FX m env l f)(e:Expr):Aa c FX m l (eval e env) (f e) VR:=h e l (Ap.refl l)
theorem Aa.nstk{t:Sem α}{f:CM β}{V:Am->α->β->Prop}{p:Prop}[Decidable p](h:¬p->Aa c FX m l t f V):Aa c FX m l t (if p then Ar else f) V:=by
 by_cases hp:p
 ·rw[if_pos hp];exact Aa.stuck
 ·rw[if_neg hp];exact h hp
theorem Jo{r:List Expr}(h:C8 e=false):starEach (e::r) env=(false,eval e env)::starEach r env:=by
 rcases e with⟨⟩<;>first | rfl | (exfalso;injection h)
theorem QQ{x:Sem Ad}{rest:List (Bool×Sem Ad)}:spliced ((false,x)::rest)=(x >>= λv=>holding [v] (spliced rest) >>= λvs=>pure (v::vs)):=by
 rfl
theorem G8:∀(es:List Expr) {l:Am},Bu c FX m env l f->Aa c FX m l (spliced (backTo pos (starEach es env))) (Bx f es) Az:=by
 intro z1
 induction z1 with
 | nil =>
  intro l z2;exact Aa.pure (V:=Az) .nil
 | cons e r ih =>
  intro l h;rw[QP];refine Aa.nstk λhs => ?_;rw[Jo (P1.mpr hs)];show Aa c FX m l (spliced ((false,eval e env)::backTo pos (starEach r env))) _ _;rw[QQ];refine Aa.bind (h.here e) λv a l' z x hv => ?_;refine Aa.bind (Aa.hold _ (ih (h.mono x))) λvs as l2 z x2 hvs => ?_;exact Aa.pure (V:=Az) (.cons (hv.mono x2) hvs)
theorem VK:∀(es:List Expr),(∀e∈es,C8 e=false)->(backTo pos (starEach es env)).any (·.1)=false:=by
 intro z1
 induction z1 with
 | nil =>
  intro z2;exact rfl
 | cons e r ih =>
  intro h;rw[Jo (h e (.head _))];show(false || (backTo pos (starEach r env)).any (·.1))=false;rw[ih λx hx=>h x (.tail _ hx)];rfl
noncomputable def noStar:List Expr->Bool
 | []=>true
 | e::r => !C8 e && noStar r
theorem LQ:∀{es:List Expr},noStar es=true->∀e∈es,C8 e=false:=by
 intro z1
 induction z1 with
 | nil=>intros;contradiction
 | cons e r ih =>
  intro h x hx;simp only[noStar,A9,EY]at h;rcases AS.mp hx with rfl | hx
  ·exact h.1
  ·exact ih h.2 x hx
def VL(c:FC)(FX:Bh)(m:Ac->Option Ad)(l:Am)(f:Ad)(spec:List CV->CM CV):Prop:=∀l' vs cs,Ap No l l'->Az l' vs cs->Aa c FX m l' (call f vs) (spec cs) VR
theorem LS{P:AY->Prop}{fv:Ad}{first:List Ad}{fa:CM α}{k:α->CM δ}{W:Am->List Ad->α->Prop}{V:Am->Ad->δ->Prop}(hn:noStar es=true)
  (hP:∀l' h,St c m l' h->Ap No l l'->P h) (hk:∀h,P h->∃k,(k=Keeper.frame\/k=An0\/k=An1)/\BK c.M h (keeperOf fv) k)
  (hargs:Aa c FX m l (spliced (backTo pos (starEach es env))) fa W) (body:∀vs a l',Ap No l l'->W l' vs a->Aa c FX m l' (call fv (first++vs)) (k a) V) :
  Aa c FX m l (callWith pos fv first (backTo pos (starEach es env)) []) (bnd fa k) V:=by
 intro s Q E st ok exc ns;have plain:((backTo pos (starEach es env)).any (·.1) || ([]:List (Option Ac×Sem Ad)).any (·.1.isNone))=false:=by
  rw[VK es (LQ hn)];rfl
 refine callWith_of (P:=P) plain hk ?_;have main:wpAny c.M c.A (spliced (backTo pos (starEach es env))) (λvs s₁=>P s₁.heap/\wpAny c.M c.A (call fv (first++vs) []) Q E s₁) E s:=by
  refine hargs s _ E st (λas l' vs h' tk e st' x hv=>⟨hP l' h' st' x,?_⟩) (λx l' e h' tk hx xx fx => ?_) λq => ?_
  ·have eb:bnd fa k l.σ=k as l'.σ:=by unfold bnd;rw[e]
   rw[eb]at ok exc ns;exact body vs as l' x hv _ Q E st' (λb l2 a h2 tk2 e2 st2 x2 v2=>ok b l2 a h2 tk2 e2 st2 (x.trans x2) v2) (λx2 l2 e2 h2 tk2 hx2 xx2 fx2=>exc x2 l2 e2 h2 tk2 hx2 (x.trans xx2) fx2) ns
  ·exact exc x l' e h' tk (by unfold bnd;rw[hx]) xx fx
  ·exact ns (by unfold bnd;rw[q])
 rcases es with _ | ⟨e,r⟩
 ·have z:backTo pos (starEach [] env)=[]:=rfl;rw[z]at main ⊢;refine evalArgs_nil3 ?_;have main':wpAny c.M c.A (pure []:Sem (List Ad)) (λvs s₁=>P s₁.heap/\wpAny c.M c.A (call fv (first++vs) []) Q E s₁) E s:=main
  exact⟨hP l _ st (Ap.refl l),fun Γ p hΓ=>(main' Γ p hΓ).2 Γ p hΓ⟩
 ·rw[Jo (LQ hn e (.head _))]at main ⊢;exact An2 main
end
end
section
noncomputable def Kx(a:CV):CM CV:=match a with
 | .tup vs=>if small vs.length=true then ret (.int vs.length)else Ar
 | .ref n=>bnd (listC n) λvs=>ret (.int vs.length)
 | _=>Ar
noncomputable def Io(a:CV):CM CV:=match a with
 | .ref n=>λσ=>if G7 n σ=true then bnd (listC n) (λvs=>BV vs) σ else bnd (Ft n) (λes=>BV (es.map λp=>.int p.1)) σ
 | _=>Ar
noncomputable def Oj(a:CV):CM CV:=match a with
 | .tup vs=>ret (.tup vs)
 | .ref n=>bnd (listC n) λvs=>EK vs
 | _=>Ar
noncomputable def E3:List CV->Option (List Int)
 | []=>some []
 | .int i::r=>match E3 r with
  | some is=>some (i::is)
  | none=>none
 | _=>none
noncomputable def G9(x:Int):List Int->List Int
 | []=>[x]
 | y::r=>if x<=y then x::y::r else y::G9 x r
theorem QR:∀(x y:Int) (r:List Int),G9 x (y::r)=if x<=y then x::y::r else y::G9 x r:=by intros;rfl
noncomputable def EM:List Int->List Int
 | []=>[]
 | x::r=>G9 x (EM r)
noncomputable def Ky(is:List Int):CM CV:=if is.length<64 then BV ((EM is).map .int)else Ar
noncomputable def Jp(a:CV):CM CV:=match a with
 | .ref n=>λσ=>if G7 n σ=true then bnd (listC n) (λvs=>match E3 vs with | some is=>Ky is | none=>Ar) σ else bnd (Ft n) (λes=>Ky (es.map (·.1))) σ
 | _=>Ar
noncomputable def LT(a b:CV):CM CV:=match a,b with
 | .int x,.int y=>ret (.int (if y<x then y else x))
 | _,_=>Ar
noncomputable def LU(a:CV):CM CV:=match a with
 | .int x=>if x.natAbs<9223372036854775808 then ret (.str (Ab (toString x)))else Ar
 | _=>Ar
noncomputable def Ip(n:Nat)(o:CO):CM CV:=λσ=>.ok .none (σ.set n o)
noncomputable def Ha(n:Nat)(v:CV):CM CV:=bnd (listC n) λvs=>Ip n (.list (vs++[v]))
noncomputable def Kz(n:Nat)(v:CV):CM CV:=match v with
 | .ref k=>if n=k then Ar else bnd (listC n) λvs=>bnd (listC k) λws=>Ip n (.list (vs++ws))
 | _=>Ar
noncomputable def LV(n:Nat):CM CV:=bnd (listC n) λvs=>match vs.getLast? with
 | some y=>bnd (Ip n (.list vs.dropLast)) λz=>ret y
 | none=>Ar
noncomputable def LX(n:Nat):CM CV:=bnd (listC n) λvs=>Ip n (.list vs.reverse)
noncomputable def EN(es:List (Int×CV))(k:Int)(v:CV):List (Int×CV):=if(es.any λp=>decide (p.1=k))=true then es.map (λp=>if p.1=k then(p.1,v)else p)else es++[(k,v)]
noncomputable def Iq(o i v:CV):CM CV:=match o,i with
 | .ref n,.int k=>λσ=>if G7 n σ=true then bnd (listC n) (λvs=>if 0<=k/\k<vs.length then Ip n (.list (vs.set k.toNat v))else Ar) σ
  else bnd (Ft n) (λes=>if small es.length=true then Ip n (.dict (EN es k v))else Ar) σ
 | _,_=>Ar
section
variable {c:FC}{FX:Bh}{m:Ac->Option Ad}{l l':Am}{d:Nat}{env:Env}{loc:Ao}{Γ:AM}
theorem Ae0{a:CV}(hv:VR l v a):Aa c FX m l (call (.builtin "len") [v]) (Kx a) VR:=by
 unfold Kx
 split
 ·refine Aa.guard λhz => ?_;have hz':=of_decide_eq_true hz;refine CG hv.tup_inv ?_;rintro _ _ _ rfl ho hr;have e:=hr.length;refine Aa.ofRet λs Q E q st=>PyProof.Rows.len_tuple (st.isTup ho) (by simp;exact Aet hz' e) ?_
  have:=q (.int _ (s.toks+1)) (s.toks+2) (.int _ _);simp only[J8,e];exact this
 ·refine AE hv.ref_inv ?_;rintro _ rfl hl ha;refine Aa.getList (.ref hl ha) λcs ws k hs hz z hm hr => ?_;have hz':=of_decide_eq_true hz;have e:=hr.length;rw[Dt]at e;refine Aa.ofRet λs Q E q st=>call_len_list (st.isList hm) (Aes hz' e) ?_;have:=q (.int _ (s.toks+1)) (s.toks+2) (.int _ _);rw[e];exact this
 ·exact Aa.stuck
theorem Aa.newL(h:small cs.length=true->∀(s:Aq) (Q:Ad->Aq->Prop) (E:Ad->Aq->Prop),St c m l s.heap ->
  (∀(D:Af) (h':AY) (k tk:Nat) (ws:List Ad),Fr c.h₀ c.L h' m->CE c.h₀ c.L h' ((D,listOf ws.toArray k)::l.Φ)->(∀p∈l.Φ,p.1<D)->Az l ws cs->Q (.ref D) (put s h' tk)) ->
  wpAny c.M c.A t Q E s):Aa c FX m l t (BV cs) VR:=by
 intro s Q E st ok exc ns;unfold BV at ok ns
 by_cases hz:small cs.length=true
 ·rw[if_pos hz]at ok;refine h hz s Q E st λD h' k tk ws F' N' fr hv => ?_;refine BL (st.addList F' N' fr hv) ?_;rintro l' e st' x v;exact ok _ l' _ h' tk (by rw[e]) st' x v
 ·rw[if_neg hz]at ns;exact absurd rfl ns
theorem BD.keyAt{es:List (Int×CV)}(h:BD l ps es):∀{ws:List Ad},ws.length=ps.length->(∀(j:Nat) (v:Ad),ws[j]? = some v->∃k x,ps[j]? = some (k,x)/\(intKind c.prog c.w).is k v=true)->Az l ws (es.map λp=>.int p.1):=by
 induction h with
 | nil=>intro ws hl _;cases ws with | nil=>exact .nil | cons _ _=>(exfalso;injection hl)
 | cons hv r ih =>
  intro ws hl hj;rcases ws with _ | ⟨w0,ws⟩
  ·exfalso;injection hl
  ·refine Ba (hj 0 w0 rfl) ?_;rintro k' x e hk;rw[ZW]at e;injection e with za;injection za with za zb;subst za;subst zb
   refine .cons ?_ (ih (by simpa using hl) λj v e=>by simpa using hj (j+1) v (by simpa using e))
   rcases w0 with⟨⟩<;>simp[intKind,TO]at hk
   subst hk;exact .int _ _
theorem Aa.getDictR{t:Sem α}{f:List (Int×CV)->CM β}{V:Am->α->β->Prop}{a:Af}(hv:VR l (.ref a) (.ref n))
  (h:∀es ob kvs,l.σ[n]? = some (.dict es)->l.ad n false=a->(a,ob)∈l.Φ->(a == TD)=false->ob.IsDictOf (intKind c.prog c.w) kvs->BD l kvs es->Aa c FX m l t (f es) V):Aa c FX m l t (bnd (Ft n) f) V:=by
 refine At hv.ref_ad ?_;rintro hl had;refine Aa.getDict λes hs => ?_;intro s Q E st;refine Cj (st.lr.obj _ _ hs) ?_;rintro ob kvs hm hsys hd hr;rw[had]at hm hsys;exact h es ob kvs hs had hm hsys hd hr s Q E st
theorem Ae1(ok:AJ c d){v:Ad}{a:CV}(hv:VR l v a):Aa c FX m l (call (.type "list") [v]) (Io a) VR:=by
 unfold Io
 split
 ·refine AE hv.ref_inv ?_;rintro _ rfl hl ha;refine Aa.getListOr ?_ ?_
  ·refine Aa.getList (.ref hl ha) λcs ws k hs hz z hm hr=>Aa.newL λhz s Q E st q => ?_;exact kup_listOf st.fr st.nw hm rfl (λD k' h' F' N' fr=>q D h' k' s.toks _ F' N' fr hr) (by rw[hr.length];exact FZ hz)
  ·refine Aa.getDictR (.ref hl ha) λes ob kvs hs had hm hsys hd hr=>Aa.newL λhz s Q E st q => ?_;have D:=Z2 st.nw hm hd;refine AI D.dictAt ?_;rintro ep D';have e:=hr.length;rw[AG]at hz;refine kdl_N (kdl_dict (knd:=intKind c.prog c.w) (ep:=ep) hsys) ok.handled st.fr st.nw D' (by rw[e];exact FZ hz) λD k' h' tk vs F' N' fr hl' hj=>q D h' k' tk vs F' N' fr (BD.keyAt hr hl' hj)
 ·exact Aa.stuck
theorem Ae2{a:CV}(hv:VR l v a):Aa c FX m l (call (.type "tuple") [v]) (Oj a) VR:=by
 unfold Oj
 split
 ·rcases hv with _ | _ | _ | _ | ⟨ho,hr⟩ | _
  ·exact Aa.ofRet λs Q E q st=>call_tuple_tup (st.isTup ho) (q _ s.toks (.tup ho hr))
 ·refine AE hv.ref_inv ?_;rintro _ rfl hl ha;refine Aa.getList (.ref hl ha) λcs ws k hs hz z hm hr => ?_;have e:=hr.length;have hz':=of_decide_eq_true hz;rw[Dt]at e;intro s Q E st ok exc ns;unfold EK at ok;rw[if_pos hz]at ok;refine kde_tupleOf st.fr st.nw (st.isList hm) (Aer e hz') rfl λD h' F' N' fr => ?_;refine BL (st.addTup F' N' fr hr) ?_;rintro l' e st' x v;exact ok (.tup cs) l' _ h' s.toks (by rw[e];rfl) st' x v
 ·exact Aa.stuck
set_option tactic.hygienic true in
theorem Az.ints(e:E3 cs=some is)(h:Az l vs cs):Jb vs is :=
 h.ind (P:=λvs cs=>∀is,E3 cs=some is->Jb vs is) (λis e=>by
  obtain rfl:=Ay e;exact .nil) (λ{v vs c cs} a _ ih is e=>by
  rcases c with⟨⟩<;>try exact(Aw e).elim
  rename_i i;have e:(match E3 cs with | some is=>some (i::is) | none=>none)=some is:=e
  rcases q:E3 cs with _ | js
  ·rw[q]at e;exact(Aw e).elim
  ·rw[q]at e;obtain rfl:=Ay e;refine AI a.int_inv ?_;rintro _ rfl;exact .cons _ _ (ih js q)) is e
theorem Ae3:∀{cs:List CV} {is:List Int},E3 cs=some is->cs=is.map .int:=by
 intro cs
 induction cs with
 | nil=>intro is h;obtain rfl:=Ay h;rfl
 | cons c cs ih =>
  intro is h;rcases c with _ | _ | i | _ | _ | _
  case int =>
   have h:(match E3 cs with | some is=>some (i::is) | none=>none)=some is:=h
   rcases e:E3 cs with _ | js
   ·rw[e]at h;exact(Aw h).elim
   ·rw[e]at h;obtain rfl:=Ay h;rw[ih e];rfl
  all_goals exact(Aw h).elim
theorem VM:∀is:List Int,E3 (is.map .int)=some is:=by
 intro z1
 induction z1 with
 | nil =>
  exact rfl
 | cons i r ih =>
  show(match E3 (r.map .int)with | some is=>some (i::is) | none=>none)=_
  rw[ih]
theorem Ok(h:Jb vs is):Az l vs (is.map .int):=by
 induction h with
 | nil=>exact .nil
 | cons _ _ _ ih=>exact .cons (.int _ _) ih
theorem VN(x:Int):∀l:List Int,(G9 x l).Perm (x::l):=by
 intro z1
 induction z1 with
 | nil =>
  exact Z4 _
 | cons y r ih =>
  rw[QR]
  split
  ·exact Z4 _
  ·exact((ih).cons y).trans (An3 x y r)
theorem Ae4:∀l:List Int,(EM l).Perm l:=by
 intro z1
 induction z1 with
 | nil =>
  exact Z4 _
 | cons x r ih =>
  exact(VN x _).trans ((ih).cons x)
theorem Ae5{x y:Int}{l:List Int}(h:y∈G9 x l):y=x\/y∈l:=by
 have:=(VN x l).mem_iff.mp h
 simpa using this
set_option tactic.hygienic true in
theorem Ae6(x:Int):∀{l:List Int},l.Pairwise (λa b=>a<=b)->(G9 x l).Pairwise (λa b=>a<=b):=by
 intro z1
 induction z1 with
 | nil =>
  intro z2;simp[G9]
 | cons y r ih =>
  intro h;rw[QR]
  split
  ·rename_i hxy;refine Id.mpr ⟨λz hz => ?_,h⟩;rcases AS.mp hz with rfl | hz
   ·exact hxy
   ·have:=(Id.mp h).1 z hz;exact Aeq hxy this
  ·rename_i hxy;refine At (Id.mp h) ?_;rintro h1 h2;refine Id.mpr ⟨λz hz => ?_,ih h2⟩;rcases Ae5 hz with rfl | hz
   ·exact Aep hxy
   ·exact h1 z hz
theorem Ae7:∀l:List Int,(EM l).Pairwise (λa b=>a<=b):=by
 intro z1
 induction z1 with
 | nil =>
  exact List.Pairwise.nil
 | cons x r ih =>
  exact Ae6 x (ih)
theorem Ol{a b:List Int}(h:a.Perm b)(s:a.Pairwise (λa b=>a<=b)):a=EM b:=lks_uniq (h.trans (Ae4 b).symm) s (Ae7 b)
set_option tactic.hygienic true in
theorem Ae8(ok:AJ c d){v:Ad}{a:CV}(hv:VR l v a):Aa c FX m l (call (.builtin "sorted") [v]) (Jp a) VR:=by
 unfold Jp
 split
 ·refine AE hv.ref_inv ?_;rintro _ rfl hl ha;refine Aa.getListOr ?_ ?_
  ·refine Aa.getList (.ref hl ha) λcs ws k hs hz z hm hr => ?_
   split
   ·rename_i is hi;unfold Ky;refine Aa.guard λh64=>Aa.newL λhz s Q E st q => ?_;have I:=Az.ints hi hr;have L:=st.isList hm;rw[<- ZT (xs:=ws)]at L;refine kso_sorted st.fr st.nw L I h64 λD vs' ns' k' h' F' N' fr I' z hp hs' z => ?_;have e:=Ol hp hs';subst e;exact q D h' k' s.toks _ F' N' fr (Ok I')
   ·exact Aa.stuck
  ·refine Aa.getDictR (.ref hl ha) λes ob kvs hs had hm hsys hd hr => ?_;unfold Ky;refine Aa.guard λh64=>Aa.newL λhz s Q E st q => ?_;have D:=Z2 st.nw hm hd;refine AI D.dictAt ?_;rintro ep D';have e:=hr.length;rw[AG]at h64;refine kdu_sorted (kdl_dict (knd:=intKind c.prog c.w) (ep:=ep) hsys) ok.handled st.fr st.nw D' (by rw[e,FN];exact Aeo h64) λD h' tk vs F' N' fr hl' hj => ?_
   have V:Az l vs ((es.map (·.1)).map .int):=by
    rw[CY];exact BD.keyAt hr hl' hj
   have I:Jb vs (es.map (·.1)):=Az.ints (VM _) V;refine ksk_lsort F' N' (λo=>.head λp hp=>B6 (fr p hp)) (by simp) I (by rw[AG];exact h64) λvs' ns' k' h2 F2 N2 I' z hp hs' z => ?_
   have e:=Ol hp hs';subst e;exact q D h2 k' tk _ F2 N2 fr (Ok I')
 ·exact Aa.stuck
theorem Ae9(ok:AJ c d){v w:Ad}{a b:CV}(hv:VR l v a)(hw:VR l w b):Aa c FX m l (call (.builtin "min") [v,w]) (LT a b) VR:=by
 unfold LT
 split
 ·rcases hv with⟨⟩;rcases hw with⟨⟩
  intro s Q E st q _ _;exact min_two_N ok.handled st.fr st.nw λh' tk F' N'=>q _ l _ h' tk rfl ⟨F',N',st.lr⟩ (Ap.refl l) (.int _ _)
 ·exact Aa.stuck
set_option tactic.hygienic true in
theorem Afa{a:CV}(hv:VR l v a):Aa c FX m l (call (.type "str") [v]) (LU a) VR:=by
 unfold LU
 split
 ·refine Aa.guard λhx => ?_;rcases hv with⟨⟩
  rename_i x t;refine Aa.ofRet λs Q E q st=>P.str_of_int (shown_abs (N:=9223372036854775808) (by split<;>omega) (by decide +kernel)) (q _ _ (.str _ _))
 ·exact Aa.stuck
theorem Aa.setList{a:Af}{cs':List CV}{ws:Array Ad}{k:Nat}(hs:l.σ[n]? = some (.list cs))(ha:l.ad n false=a)(hm:(a,listOf ws k)∈l.Φ)
  (h:∀(s:Aq) (Q:Ad->Aq->Prop) (E:Ad->Aq->Prop) (pre post:List (Af×AR)),St c m l s.heap->l.Φ=pre++(a,listOf ws k)::post->(∀p∈pre,p.1≠a)->(∀p∈post,p.1≠a) ->
   (∀(h':AY) (k' tk:Nat) (ws':Array Ad),Fr c.h₀ c.L h' m->CE c.h₀ c.L h' (pre++(a,listOf ws' k')::post)->Az l ws'.toList cs'->Q .none (put s h' tk)) ->
   wpAny c.M c.A t Q E s):Aa c FX m l t (Ip n (.list cs')) VR:=by
 intro s Q E st ok exc ns;refine Bm (st.split hm) ?_;rintro pre post e h1 h2;refine h s Q E pre post st e h1 h2 λh' k' tk ws' F' N' hv => ?_;subst ha;refine AE (st.turnList hs e F' N' hv) ?_;rintro l' e' st' x;exact ok .none l' _ h' tk (by show B2.ok _ _=_;rw[e']) st' x .none
theorem Az.size{ws:Array Ad}(h:Az l ws.toList cs):ws.size=cs.length:=by rw[<- Dt];exact h.length
theorem VO{D:Af}{a:CV}(hd:VR l (.ref D) (.ref n))(hv:VR l v a):Aa c FX m l (call (.builtin "list.append") [.ref D,v]) (Ha n a) VR:=by
 unfold Ha;refine Aa.getList hd λcs ws k hs hz had hm hr=>Aa.setList hs had hm λs Q E pre post st e h1 h2 q => ?_;have N:=st.nw;rw[e]at N;refine append_K st.fr N (Ku h1 h2) (λh' F' N'=>q h' _ s.toks _ F' N' ?_) (by rw[hr.size];exact FZ hz)
 rw[TQ];exact hr.append (.cons hv .nil)
theorem Az.nil_iff(h:Az l vs cs)(e:vs=[]):cs=[]:=by subst e;rcases h with⟨⟩;rfl
theorem VP{b:Nat}(h:a+b<=8000)(x:Bool):¬(x && Z5 (a+b))=true:=by
 have:Z5 (a+b)=false:=by
  unfold Z5;have:=FN;exact decide_eq_false (Aen h this)
 rw[this,Nl];exact Cw
set_option tactic.hygienic true in
theorem Afb{D:Af}{a:CV}(hd:VR l (.ref D) (.ref n))(hv:VR l v a):Aa c FX m l (call (.builtin "list.extend") [.ref D,v]) (Kz n a) VR:=by
 unfold Kz
 split
 ·rename_i j;refine Aa.nstk λhne => ?_;refine AE hv.ref_inv ?_;rintro _ rfl hl2 ha2;refine Aa.getList hd λcs ws k hs hz had hm hr=>Aa.getList (.ref hl2 ha2) λcs2 ws2 k2 hs2 hz2 had2 hm2 hr2=>Aa.setList hs had hm λs Q E pre post st e h1 h2 q => ?_;have N:=st.nw;rw[e]at N hm2;have z1:=hr.size;have z2:=hr2.size;have y1:=of_decide_eq_true hz;have y2:=of_decide_eq_true hz2;have ys1:=FZ hz;have hl:=FN
  by_cases he:ws2.toList=[]
  ·have:=hr2.nil_iff he;subst this;refine kxn_extend st.fr N hm2 he (Ku h1 h2) (VP (Aem z1 y1 z2 y2) _) (by rw[hr.length];exact ys1) (Ael z1 y1 hl z2 y2) λh' F' N'=>q h' _ s.toks _ F' N' ?_
   rw[Dn];exact hr
  ·refine kl_extend st.fr N hm2 rfl (λq=>he (Z6.mp q)) (Ku h1 h2) (VP (Aek z1 z2 y1 y2) _) (by rw[hr.length];exact ys1) (Aej z1 z2 y1 y2 hl) λh' F' N'=>q h' _ s.toks _ F' N' ?_
   exact hr.append hr2
 ·exact Aa.stuck
theorem Az.last{y:CV}(h:Az l vs cs)(e:cs.getLast? = some y):∃p v,vs=p++[v]/\Az l p cs.dropLast/\VR l v y:=by
 revert e;refine Az.ind (P:=λvs cs=>cs.getLast? = some y->∃p v,vs=p++[v]/\Az l p cs.dropLast/\VR l v y) (λe=>nomatch e) (λ{v vs c cs} hv r ih e => ?_) h
 rcases cs with _ | ⟨c2,cs⟩
 ·obtain rfl:=r.nil_inv;obtain rfl:=Ay e;exact⟨[],v,rfl,.nil,hv⟩
 ·rw[List.getLast?_cons_cons]at e;refine Bm (ih e) ?_;rintro p u e1 h1 h2;exact⟨v::p,u,by rw[e1];rfl,.cons hv h1,h2⟩
set_option tactic.hygienic true in
theorem Afc{D:Af}(hd:VR l (.ref D) (.ref n)):Aa c FX m l (call (.builtin "list.pop") [.ref D]) (LV n) VR:=by
 unfold LV;refine Aa.getList hd λcs ws k hs hz had hm hr => ?_
 split
 ·rename_i y hy;intro s Q E st ok exc ns;refine Bm (hr.last hy) ?_;rintro p v e1 h1 h2;refine Bm (st.split hm) ?_;rintro pre post e g1 g2;have N:=st.nw;rw[e]at N;refine kl_pop st.fr N (by rw[e1];exact kpa_last v p) (Ku g1 g2) (by rw[hr.length];exact FZ hz) λh' F' N' => ?_
  subst had;refine AE (st.turnList hs e F' N' (cs':=cs.dropLast) (by simpa using h1)) ?_;rintro l' e' st' x
  exact ok y l' _ h' s.toks (by show B2.ok _ _=_;rw[e']) st' x (h2.mono x)
 ·exact Aa.stuck
theorem Az.rev(h:Az l vs cs):Az l vs.reverse cs.reverse :=
 Az.ind (P:=λvs cs=>Az l vs.reverse cs.reverse) .nil (λhv z ih=>by rw[Nv,Nv];exact ih.append (.cons hv .nil)) h
theorem Afd{D:Af}(hd:VR l (.ref D) (.ref n)):Aa c FX m l (call (.builtin "list.reverse") [.ref D]) (LX n) VR:=by
 unfold LX;refine Aa.getList hd λcs ws k hs hz had hm hr=>Aa.setList hs had hm λs Q E pre post st e h1 h2 q => ?_;have N:=st.nw;rw[e]at N;refine kl_reverse st.fr N rfl (Ku h1 h2) (by rw[hr.length];exact FZ hz) λh' F' N'=>q h' _ s.toks _ F' N' ?_
 simpa using hr.rev
theorem Az.set{a:CV}(h:Az l vs cs)(hv:VR l v a):∀i,Az l (vs.set i v) (cs.set i a) :=
 h.ind (P:=λvs cs=>∀i,Az l (vs.set i v) (cs.set i a)) (λz=>.nil) λa r ih i=>by
  rcases i with _ | i
  ·exact .cons hv r
  ·exact .cons a (ih i)
theorem BD.any{es:List (Int×CV)}(h:BD l ps es)(k:Int):(ps.any λp=>decide (p.1=k))=es.any λp=>decide (p.1=k):=by
 induction h with
 | nil=>rfl
 | cons _ _ ih=>rw[Nn,Nn,ih]
theorem BD.app{qs:List (Int×Ad)}{es fs:List (Int×CV)}(h:BD l ps es)(h2:BD l qs fs):BD l (ps++qs) (es++fs):=by
 induction h with
 | nil=>exact h2
 | cons hv _ ih=>exact .cons hv ih
theorem BD.put{es:List (Int×CV)}{a:CV}(h:BD l ps es)(hv:VR l v a)(k:Int):BD l (ps.map λp=>if p.1=k then(p.1,v)else p) (es.map λp=>if p.1=k then(p.1,a)else p):=by
 induction h with
 | nil=>exact .nil
 | cons h1 _ ih =>
  rw[Bj,Bj]
  split
  ·exact .cons hv ih
  ·exact .cons h1 ih
theorem BD.stored{es:List (Int×CV)}{a:CV}(h:BD l ps es)(hv:VR l v a)(k:Int) :
  BD l (PySem.stored ps k v) (EN es k a):=by
 unfold PySem.stored EN;rw[h.any]
 split
 ·exact h.put hv k
 ·exact h.app (.cons hv .nil)
set_option tactic.hygienic true in
theorem Afe{o i:Ad}{a b e:CV}(ho:VR l o a)(hi:VR l i b)(hv:VR l v e):Aa c FX m l (setItem o i v) (Iq a b e) (λj j j=>True):=by
 unfold Iq
 split
 ·rename_i n k;refine AE ho.ref_inv ?_;rintro _ rfl hl had;refine AI hi.int_inv ?_;rintro t rfl;refine Aa.getListOr ?_ ?_
  ·refine Aa.getList (.ref hl had) λcs ws kk hs hz j hm hr=>Aa.guard λhk => ?_;intro s Q E st ok exc ns;refine Bm (st.split hm) ?_;rintro pre post e g1 g2;have N:=st.nw;have z:=hr.size;have y:=of_decide_eq_true hz;refine ki_setAt (st.nw _ hm).1 hk.1 (Aei hk y) (Aeh hk z) ?_;rw[e]at N;have nz:=N _ (Cv _ (.head _));subst had;refine AE (st.turnList hs e (st.fr.change (TS ..) nz.2.1 nz.2.2) (ki_turn (λx=>x.setIfInBounds k.toNat v) N g1 g2 rfl rfl) (cs':=cs.set k.toNat _) (by rw[Array.toList_setIfInBounds];exact hr.set hv _)) ?_;rintro l' e' st' x
   exact ok .none l' _ _ s.toks (by show B2.ok _ _=_;rw[e']) st' x trivial
  ·refine Aa.getDictR (.ref hl had) λes ob kvs hs had hm hsys hd hr=>Aa.guard λhz => ?_;intro s Q E st ok exc ns;refine Bm (st.split hm) ?_;rintro pre post e g1 g2;have N:=st.nw;rw[e]at N;have hk:(intKind c.prog c.w).is k (.int k t)=true:=by simp[intKind,TO]
   refine kda_set st.fr N (AeH g1 g2) hd hk (by rw[hr.length];exact FZ hz) λh' o' F' N' hd' => ?_
   subst had;refine AE (st.turn (b:=false) (co':=.dict (EN es k _)) hs rfl (λq=>nomatch q) e F' N' λl' x ea hm' j=>by
    exact⟨o',_,by rw[ea];exact hm',by rw[ea];exact hsys,hd',(hr.stored hv k).mono x⟩) ?_;rintro l' e' st' x
   exact ok .none l' _ _ _ (by show B2.ok _ _=_;rw[e']) st' x trivial
 ·exact Aa.stuck
theorem Aff(ok:AJ c d){pos:Pos}:Aa c FX m l (eval (.Dict [] [] pos) env) Vt VR:=by
 intro s Q E st q exc ns;refine newDict_K st.fr st.nw (Ic ok.top).nolimit λD h' o F' N' fr hsys z z hd z => ?_;refine BL (st.addL (co:=.dict []) F' N' (λp hp=>B6 (fr p hp)) rfl λl' x hm ha=>⟨o,[],by rw[ha];exact hm,by rw[ha];exact hsys,hd,.nil⟩) ?_;rintro l' e st' x v
 exact q _ l' _ h' s.toks (by show B2.ok _ _=_;rw[e]) st' x v
end
end
section
abbrev Eh:Am->Bool->Bool->Prop:=λz r b=>r=b
abbrev EO:Am->α->β->Prop:=λz z z=>True
noncomputable def LY(f:Expr->CM CV)(op:BoolOp):List Expr->CM CV
 | []=>Ar
 | e::r=>match r with
  | []=>f e
  | _=>bnd (f e) λv=>bnd (Gx v) λt=>match op,t with
   | .And,false=>ret v
   | .Or,true=>ret v
   | _,_=>LY f op r
noncomputable def Hb(f:Expr->CM CV)(a:CV):List Fl->List Expr->CM CV
 | [op],[e]=>bnd (f e) λb=>bnd (Eg op a b) λt=>ret (.bool t)
 | op::ops,e::es=>bnd (f e) λb=>bnd (Eg op a b) λt=>if t=true then Hb f b ops es else ret (.bool t)
 | _,_=>Ar
noncomputable def Fv(f:Expr->CM CV)(a:CV):List Fl->List Expr->CM Bool
 | [op],[e]=>bnd (f e) λb=>Eg op a b
 | op::ops,e::es=>bnd (f e) λb=>bnd (Eg op a b) λt=>if t=true then Fv f b ops es else ret t
 | _,_=>Ar
noncomputable def KA(g:Expr->CM Bool)(op:BoolOp):List Expr->CM Bool
 | []=>ret (op == .And)
 | e::r=>bnd (g e) λt=>match op,t with
  | .And,false=>ret false
  | .Or,true=>ret true
  | _,_=>KA g op r
theorem VQ:∀(g:Expr->CM Bool) (op:BoolOp) (e:Expr) (r:List Expr),KA g op (e::r)=bnd (g e) λ(t:Bool)=>match op,t with | BoolOp.And,false=>ret false | BoolOp.Or,true=>ret true | x,x_1=>KA g op r:=by intros;rfl
set_option tactic.hygienic true in
theorem QS(x:CM α):bnd x ret=x:=by
 funext σ
 unfold bnd ret;cases (x σ)<;>rfl
section
variable {c:FC}{FX:Bh}{m:Ac->Option Ad}{l l':Am}{d:Nat}{env:Env}{loc:Ao}{Γ:AM}
def DX(c:FC)(FX:Bh)(m:Ac->Option Ad)(env:Env)(l:Am)(g:Expr->CM Bool):Prop:=∀e l',Ap No l l'->Aa c FX m l' (isTrue e env (eval e env)) (g e) Eh
theorem DX.mono{f:Expr->CM Bool}(h:DX c FX m env l f)(x:Ap No l l'):DX c FX m env l' f:=λe l2 x2=>h e l2 (x.trans x2)
theorem DX.here{f:Expr->CM Bool}(h:DX c FX m env l f)(e:Expr):Aa c FX m l (isTrue e env (eval e env)) (f e) Eh:=h e l (Ap.refl l)
theorem Aa.release{t:Sem α}{f:CM β}{V:Am->α->β->Prop}{ks:List Ad}(h:Aa c FX m l t f V):Aa c FX m l (PySem.release vs ks >>= λz=>t) f V :=
 λs Q E st ok exc ns=>Aj (TT (h s Q E st ok exc ns))
theorem Afg(h:Bu c FX m env l f){a b:Expr}{op:Hx}{pos:Pos}:Aa c FX m l (eval (.BinOp a op b pos) env) (bnd (f a) λx=>bnd (f b) λy=>FY op x y) VR:=by
 rw[arm_eval_BinOp];refine Aa.bind (h.here a) λv x l1 z e1 hv=>Aa.bind (Aa.hold _ ((h.mono e1).here b)) λw y l2 z e2 hw => ?_;exact Aa.stand _ (Aa.operate (AeK (hv.mono e2) hw))
theorem Afh(h:Bu c FX m env l f){a:Expr}{pos:Pos}:Aa c FX m l (eval (.UnaryOp .USub a pos) env) (bnd (f a) Oh) VR:=by
 rw[An4];exact Aa.bind (h.here a) λv x l1 z e1 hv=>Aa.stand _ (Aa.hold _ (AeT hv))
theorem Afi(v:Ad):unaryOp .Not v=holding [v] (truthy v >>= λb=>pure (.bool (!b))):=rfl
theorem Afj(h:Bu c FX m env l f){a:Expr}{pos:Pos}:Aa c FX m l (eval (.UnaryOp .Not a pos) env) (bnd (f a) λv=>bnd (Gx v) λb=>ret (.bool !b)) VR:=by
 rw[An4];refine Aa.bind (h.here a) λv x l1 z e1 hv=>Aa.stand _ (Aa.hold _ ?_);rw[Afi];refine Aa.hold _ (Aa.bind (QO hv) λr b l2 z z e => ?_);subst e;exact Aa.pure (V:=VR) (.bool _)
theorem QT(e:Expr)(r:List Expr):evalEach (e::r) env=eval e env::evalEach r env:=rfl
theorem Afk{op:BoolOp}:∀(es:List Expr) {l:Am},Bu c FX m env l f->Aa c FX m l (boolOp pos op (evalEach es env)) (LY f op es) VR:=by
 intro es
 induction es with
 | nil=>intro _ _;exact Aa.stuck
 | cons e r ih0 =>
  intro l h;rcases r with _ | ⟨e2,r⟩
  ·exact h.here e
  ·show Aa c FX m l (eval e env >>= λv=>standAt pos >>= λz=>holding [v] (truthy v) >>= λt=>match op,t with | .And,false | .Or,true=>pure v | _,_=>boolOp pos op (evalEach (e2::r) env)) (bnd (f e) λv=>bnd (Gx v) λt=>match op,t with
    | .And,false=>ret v
    | .Or,true=>ret v
    | _,_=>LY f op (e2::r)) VR
   refine Aa.bind (h.here e) λv x l1 z e1 hv=>Aa.stand _ (Aa.bind (Aa.hold _ (QO hv)) λt b l2 z x2 q => ?_);subst q;have ih:=ih0 (h.mono (e1.trans x2));rcases op with⟨⟩<;>rcases t with⟨⟩
   ·exact Aa.pure (V:=VR) (hv.mono x2)
   ·exact ih
   ·exact ih
   ·exact Aa.pure (V:=VR) (hv.mono x2)
theorem Aa.mapC{t:Sem α}{f:CM β}{g:β->γ}{V:Am->α->β->Prop}{V2:Am->α->γ->Prop}(h:Aa c FX m l t f V)(hg:∀l' a b,V l' a b->V2 l' a (g b)):Aa c FX m l t (bnd f λb=>ret (g b)) V2:=by
 intro s Q E st ok exc ns;refine h s Q E st (λb l' a h' tk e st' x v => ?_) (λx l' e h' tk hx xx fx => ?_) λq => ?_
 ·exact ok (g b) l' a h' tk (by unfold bnd;rw[e];rfl) st' x (hg _ _ _ v)
 ·exact exc x l' e h' tk (by unfold bnd;rw[hx]) xx fx
 ·exact ns (by unfold bnd;rw[q])
theorem Aa.truthB{X:Bool->Sem α}{Y:CM β}{V:Am->α->β->Prop}(h:Aa c FX m l (X b) Y V):Aa c FX m l (holding vs (truthy (.bool b)) >>= X) Y V :=
 λs Q E st ok exc ns=>Aj (Dg (ZY (h s Q E st ok exc ns)))
theorem Afl{x:Sem Ad}{xs:List (Sem Ad)}(h:ops≠[]\/xs≠[]):Z7 pos v (op::ops) (x::xs) =
  (holding [v] x >>= λrv=>standAt pos >>= λz=>holding [v,rv] (Ja op v rv) >>= λc=>PySem.release [v,rv] [c] >>= λz=>holding [c,rv] (truthy c) >>= λt=>if t=true then Z7 pos rv ops xs else pure c):=by
 rcases ops with⟨⟩<;>rcases xs with⟨⟩<;>first | rfl | (rcases h with h | h<;>exact absurd rfl h)
theorem Afm{x:Sem Ad}{xs:List (Sem Ad)}(h:ops≠[]\/xs≠[]):Z8 pos v (op::ops) (x::xs) =
  (holding [v] x >>= λrv=>standAt pos >>= λz=>holding [v,rv] (Ja op v rv) >>= λc=>PySem.release [v,rv] [c] >>= λz=>holding [c,rv] (truthy c) >>= λt=>if t=true then Z8 pos rv ops xs else pure false):=by
 rcases ops with⟨⟩<;>rcases xs with⟨⟩<;>first | rfl | (rcases h with h | h<;>exact absurd rfl h)
theorem Afn{a:CV}(h:ops≠[]\/es≠[]):Hb f a (op::ops) (e::es)=bnd (f e) λb=>bnd (Eg op a b) λt=>if t=true then Hb f b ops es else ret (.bool t):=by
 rcases ops with⟨⟩<;>rcases es with⟨⟩<;>first | rfl | (rcases h with h | h<;>exact absurd rfl h)
theorem Afo{a:CV}(h:ops≠[]\/es≠[]):Fv f a (op::ops) (e::es)=bnd (f e) λb=>bnd (Eg op a b) λt=>if t=true then Fv f b ops es else ret t:=by
 rcases ops with⟨⟩<;>rcases es with⟨⟩<;>first | rfl | (rcases h with h | h<;>exact absurd rfl h)
theorem VS(h:es≠[]):evalEach es env≠[]:=by
 rcases es with _ | ⟨e,r⟩
 ·exact absurd rfl h
 ·rw[QT];exact List.cons_ne_nil _ _
theorem Afp(ok:AJ c d){f:Expr->CM CV}{pos:Pos}:∀(ops:List Fl) (es:List Expr) {l:Am} {v:Ad} {a:CV},Bu c FX m env l f->VR l v a->Aa c FX m l (Z7 pos v ops (evalEach es env)) (Hb f a ops es) VR:=by
 intro z1
 induction z1 with
 | nil =>
  intro es z2 z3 z4 z5 z6;rcases es with⟨⟩<;>exact Aa.stuck
 | cons op ops ih =>
  intro z7;rcases z7 with _ | ⟨e,es⟩
  ·intro z8 z9 z10 z11 z12;rcases ops with⟨⟩<;>exact Aa.stuck
  ·intro l v a h hv
   by_cases hh:ops≠[]\/es≠[]
   ·rw[Afn hh,QT,Afl (hh.imp id VS)];refine Aa.bind (Aa.hold _ (h.here e)) λw b l1 z e1 hw=>Aa.stand _ (Aa.bind (Aa.hold _ (Oe ok (hv.mono e1) hw)) λcv t l2 z e2 hc=>Aa.release ?_);have hc':cv=.bool t:=hc;subst hc';refine Aa.truthB ?_;rcases t with⟨⟩
    ·exact Aa.pure (V:=VR) (.bool _)
    ·exact ih es (h.mono (e1.trans e2)) (hw.mono e2)
   ·have h1:ops=[]:=TU λq=>hh (.inl q);have h2:es=[]:=TU λq=>hh (.inr q);subst h1 h2;show Aa c FX m l (holding [v] (eval e env) >>= λrv=>standAt pos >>= λz=>operate [v,rv] (Ja op v rv)) (bnd (f e) λb=>bnd (Eg op a b) λt=>ret (.bool t)) VR;exact Aa.bind (Aa.hold _ (h.here e)) λw b l1 z e1 hw=>Aa.stand _ (Aa.operate (Aa.mapC (Oe ok (hv.mono e1) hw) λl' cv t hc=>by
     have hc':cv=.bool t:=hc;subst hc';exact .bool _))
theorem Afq(ok:AJ c d){f:Expr->CM CV}{pos:Pos}:∀(ops:List Fl) (es:List Expr) {l:Am} {v:Ad} {a:CV},Bu c FX m env l f->VR l v a->Aa c FX m l (Z8 pos v ops (evalEach es env)) (Fv f a ops es) Eh:=by
 intro z1
 induction z1 with
 | nil =>
  intro es z2 z3 z4 z5 z6;rcases es with⟨⟩<;>exact Aa.stuck
 | cons op ops ih =>
  intro z7;rcases z7 with _ | ⟨e,es⟩
  ·intro z8 z9 z10 z11 z12;rcases ops with⟨⟩<;>exact Aa.stuck
  ·intro l v a h hv
   by_cases hh:ops≠[]\/es≠[]
   ·rw[Afo hh,QT,Afm (hh.imp id VS)];refine Aa.bind (Aa.hold _ (h.here e)) λw b l1 z e1 hw=>Aa.stand _ (Aa.bind (Aa.hold _ (Oe ok (hv.mono e1) hw)) λcv t l2 z e2 hc=>Aa.release ?_);have hc':cv=.bool t:=hc;subst hc';refine Aa.truthB ?_;rcases t with⟨⟩
    ·exact Aa.pure (V:=Eh) rfl
    ·exact ih es (h.mono (e1.trans e2)) (hw.mono e2)
   ·have h1:ops=[]:=TU λq=>hh (.inl q);have h2:es=[]:=TU λq=>hh (.inr q);subst h1 h2;show Aa c FX m l (holding [v] (eval e env) >>= λrv=>standAt pos >>= λz=>operate [v,rv] (Ja op v rv) >>= λcv=>holding [cv] (truthy cv)) (bnd (f e) λb=>Eg op a b) Eh;refine Aa.bind (Aa.hold _ (h.here e)) λw b l1 z e1 hw=>Aa.stand _ (Aa.of_eq (f':=bnd (Eg op a b) ret) (Aa.bind (Aa.operate (Oe ok (hv.mono e1) hw)) λcv t l2 z e2 hc => ?_) (QS _).symm);have hc':cv=.bool t:=hc;subst hc';exact Aa.hold _ (Aa.now λs Q E st q=>ZY (q _ s.toks rfl))
theorem Afr(ok:AJ c d){f:Expr->CM CV}(h:Bu c FX m env l f){a:Expr}{ops:List Fl}{es:List Expr}{pos:Pos} :
  Aa c FX m l (eval (.Compare a ops es pos) env) (if Nw ops es=true then Ar else bnd (f a) λv=>Hb f v ops es) VR:=by
 refine Aa.nstk λhm => ?_;rw[arm_eval_Compare,An5 ops es _ (P1.mpr hm)];exact Aa.bind (h.here a) λv x l1 z e1 hv=>Afp ok ops es (h.mono e1) hv
theorem Afs(ok:AJ c d){f:Expr->CM CV}(h:Bu c FX m env l f){a:Expr}{ops:List Fl}{es:List Expr}{pos:Pos}{t:Sem Ad} :
  Aa c FX m l (isTrue (.Compare a ops es pos) env t) (if Nw ops es=true then Ar else bnd (f a) λv=>Fv f v ops es) Eh:=by
 refine Aa.nstk λhm => ?_;rw[arm_isTrue_Compare,An5 ops es _ (P1.mpr hm)];exact Aa.bind (h.here a) λv x l1 z e1 hv=>Afq ok ops es (h.mono e1) hv
theorem Aft{op:BoolOp}:∀(es:List Expr) {l:Am},DX c FX m env l g->Aa c FX m l (allTrue op es env) (KA g op es) Eh:=by
 intro es
 induction es with
 | nil=>intro l _;exact Aa.pure (V:=Eh) rfl
 | cons e r ih0 =>
  intro l h;rw[arm_allTrue_cons];rw[VQ];refine Aa.bind (h.here e) λt b l1 z e1 q => ?_;subst q;have ih:=ih0 (h.mono e1);rcases op with⟨⟩<;>rcases t with⟨⟩
  ·exact Aa.pure (V:=Eh) rfl
  ·exact ih
  ·exact ih
  ·exact Aa.pure (V:=Eh) rfl
theorem Afu(h:Bu c FX m env l f)(hg:DX c FX m env l g){t a b:Expr}{pos:Pos}:Aa c FX m l (eval (.IfExp t a b pos) env) (bnd (g t) λq=>if q=true then f a else f b) VR:=by
 rw[arm_eval_IfExp];refine Aa.bind (hg.here t) λr q l1 z e1 hq => ?_;subst hq;rcases r with⟨⟩
 ·exact(h.mono e1).here b
 ·exact(h.mono e1).here a
theorem Afv(hg:DX c FX m env l g){t a b:Expr}{pos:Pos}{w:Sem Ad}:Aa c FX m l (isTrue (.IfExp t a b pos) env w) (bnd (g t) λq=>if q=true then g a else g b) Eh:=by
 rw[arm_isTrue_IfExp];refine Aa.bind (hg.here t) λr q l1 z e1 hq => ?_;subst hq;rcases r with⟨⟩
 ·exact(hg.mono e1).here b
 ·exact(hg.mono e1).here a
theorem Afw(hg:DX c FX m env l g){a:Expr}{pos:Pos}{w:Sem Ad}:Aa c FX m l (isTrue (.UnaryOp .Not a pos) env w) (bnd (g a) λq=>ret !q) Eh:=by
 rw[arm_isTrue_UnaryOp];refine Aa.bind (hg.here a) λr q l1 z e1 hq => ?_;subst hq;exact Aa.pure (V:=Eh) rfl
theorem VU(h:Bu c FX m env l f){e:Expr}(he:isTrue e env (eval e env)=(eval e env >>= λv=>standAt e.pos >>= λz=>holding [v] (truthy v))):Aa c FX m l (isTrue e env (eval e env)) (bnd (f e) Gx) Eh:=by
 rw[he];exact Aa.bind (h.here e) λv x l1 z e1 hv=>Aa.stand _ (Aa.hold _ (QO hv))
theorem VV(h:Bu c FX m env l f){es:List Expr}{n:Nat}{pos:Pos}:Aa c FX m l (eval (.Tuple es n pos) env) (bnd (Bx f es) EK) VR:=by
 rw[arm_eval_Tuple];exact Aa.stand _ (Aa.bind (G8 es h) λvs cs l1 z e1 hv=>AeI hv)
theorem Afx(h:Bu c FX m env l f){es:List Expr}{pos:Pos}:Aa c FX m l (eval (.List es pos) env) (bnd (Bx f es) BV) VR:=by
 rw[arm_eval_List];exact Aa.stand _ (Aa.bind (G8 es h) λvs cs l1 z e1 hv=>Vu hv)
noncomputable def Ir(e:Expr):Bool:=match LK e with
 | some q => !(q.2.1.isEmpty && q.2.2.1.isEmpty)
 | none=>true
set_option tactic.hygienic true in
theorem QU{o:Expr}{w:Sem Ad}(h:Ir o=true):attributeBase o x env w=w:=by
 rcases o with⟨⟩<;>try rfl
 rename_i fn as kw p;rcases as with _ | ⟨_,_⟩
 ·rcases kw with _ | ⟨_,_⟩
  ·exact(Cw h).elim
  ·rcases fn with⟨⟩<;>rfl
 ·rcases fn with⟨⟩<;>rfl
theorem Aa.letGo{t:Expr}{o r:Ad}{b:CV}(hv:VR l r b):Aa c FX m l (letTemporaryGo t o r >>= λz=>(Nk r:Sem Ad)) (ret b) VR :=
 Aa.ofRet λs z z q z=>Aj (wpAny_letTemporaryGo (AB (q r s.toks hv)))
theorem Aa.holdBind{X:Sem α}{k:α->Sem β}{f:CM γ}{V:Am->β->γ->Prop}(h:Aa c FX m l (X >>= k) f V):Aa c FX m l (holding vs X >>= k) f V :=
 λs Q E st ok exc ns=>fun Γ p hΓ=>by
  have:=h s Q E st ok exc ns Γ p hΓ
  simpa only[Sem.wp_bind',Sem.wp_holding] using this
theorem Aa.assoc{X:Sem α}{Y:α->Sem β}{k:β->Sem γ}{f:CM δ}{V:Am->γ->δ->Prop}(h:Aa c FX m l (X >>= λa=>Y a >>= k) f V):Aa c FX m l ((X >>= Y) >>= k) f V :=
 λs Q E st ok exc ns=>fun Γ p hΓ=>by
  have:=h s Q E st ok exc ns Γ p hΓ
  simpa only[Sem.wp_bind'] using this
theorem Afy(ok:AJ c d)(g:Bn c.K Γ){f:Expr->CM CV}(h:Bu c FX m env l f){o:Expr}{x:Ac}{pos:Pos}:Aa c FX m l (eval (.Attribute o x pos) env) (if Ir o=true then bnd (f o) λv=>HF Γ v x else Ar) VR:=by
 refine Aa.guard λhb => ?_;rw[An6,QU hb];refine Aa.bind (h.here o) λv a l1 z e1 hv=>Aa.stand _ (Aa.of_eq (f':=bnd (HF Γ a x) ret) (Aa.bind (Aa.hold _ (AeW ok g hv)) λr b l2 z e2 hr=>Aa.letGo hr) (QS _).symm)
noncomputable def Om(f:Expr->CM CV):Option Expr->CM CV
 | none=>ret .none
 | some e=>f e
theorem VW(h:Bu c FX m env l f){o:Option Expr}:Aa c FX m l (valueOrNone (evalOpt o env)) (Om f o) VR:=by
 rcases o with _ | e
 ·exact Aa.pure (V:=VR) .none
 ·exact h.here e
noncomputable def LZ(f:Expr->CM CV)(o i:Expr):CM CV:=match Kt i with
 | some q=>(match q.2.2.1 with
  | none=>bnd (f o) λv=>bnd (Om f q.1) λx=>bnd (Om f q.2.1) λy=>LP v x y
  | some _=>Ar)
 | none=>bnd (f o) λv=>bnd (f i) λk=>HE v k
theorem Afz(h:Bu c FX m env l f){o i:Expr}{pos:Pos}:Aa c FX m l (eval (.Subscript o i pos) env) (LZ f o i) VR:=by
 have e:eval (.Subscript o i pos) env=(eval o env >>= λv=>holding [v] (eval i env) >>= λk=>standAt pos >>= λq=>Nq o i v k):=rfl;rw[e];have df:Aa c FX m l (eval o env >>= λv=>holding [v] (eval i env) >>= λk=>standAt pos >>= λq=>Nq o i v k) (bnd (f o) λv=>bnd (f i) λk=>HE v k) VR:=by
  exact Aa.bind (h.here o) λv x l1 q e1 hv=>Aa.bind (Aa.hold _ ((h.mono e1).here i)) λk y l2 q e2 hk=>Aa.stand _ (AeY (hv.mono e2) hk)
 unfold LZ;rcases hq:Kt i with _ | ⟨a,b,st,p⟩
 ·exact df
 obtain rfl:i=.Slice a b st p:=AeG hq;clear hq df e;dsimp only;rcases st with _ | _
 ·refine Aa.bind (h.here o) λv x l1 q e1 hv=>Aa.holdBind ?_;rw[An7];refine Aa.assoc (Aa.bind (VW (h.mono e1)) λv1 x1 l2 q e2 hv1=>Aa.assoc (Aa.bind (Aa.hold _ (VW (h.mono (e1.trans e2)))) λv2 x2 l3 q e3 hv2 => ?_));have z:=AeZ (c:=c) (FX:=FX) (m:=m) (value:=o) (e1:=a) (e2:=b) (p:=p) (pos:=pos) (hv.mono (e2.trans e3)) (hv1.mono e3) hv2;exact Aa.assoc (λs Q E st ok exc ns=>Aj (Dg (AB (z s Q E st ok exc ns))))
 ·exact Aa.stuck
end
end
section
noncomputable def E4(es:List Expr)(apos pos:Pos):Bool:=noStar es && decide (es.length<30) && apos.endLine == pos.line
def L4(c:FC)(FX:Bh)(f:Af)(spec:List CV->CM CV):Prop:=∀(m:Ac->Option Ad) (l:Am) (vs:List Ad) (cs:List CV) (s:Aq) (R:GO->Aq->Prop),Az l vs cs->St c m l s.heap ->
 (∀b l' v h' tk,spec cs l.σ=.ok b l'.σ->St c m l' h'->Ap No l l'->VR l' v b->R (.ok (.ret v)) (put s h' tk)) ->
 (∀x l' e h' tk,spec cs l.σ=.exc x l'.σ->Ap No l l'->FX l' x e h'->R (.error e) (put s h' tk)) ->
 spec cs l.σ≠.stuck->codeAny c.M c.A (.call (.ref f) ⟨vs,[]⟩) R s
def KB(FX:FC->Bh)(Γ:AM)(d:Nat):Prop:=∀(c:FC),Bn c.K Γ->AJ c d->∀f spec,Γ.fn f=some spec->L4 c (FX c) f spec
def Hc(FX:FC->Bh)(Γ:AM)(d:Nat)(c:FC):Prop:=∀(c':FC),c'.outer=c.outer/\c'.base=c.base/\c'.h₀=c.h₀/\c'.K=c.K->Bn c'.K Γ->AJ c' d->∀f spec,Γ.fn f=some spec->L4 c' (FX c') f spec
theorem KB.here(h:KB FX Γ d)(c:FC):Hc FX Γ d c:=λc' z=>h c'
noncomputable def C9(Γ:AM)(f:Af)(vs:List CV):CM CV:=match Γ.fn f with
 | some spec=>spec vs
 | none=>Ar
noncomputable def newC(Γ:AM)(C:Af)(vs:List CV):CM CV:=match Γ.inits.lookup C with
 | some f=>λσ=>match C9 Γ f (.ref σ.length::vs) (σ++[.inst C []])with
  | .ok .none σ'=>.ok (.ref σ.length) σ'
  | _=>.stuck
 | none=>Ar
noncomputable def CI(x:Ac)(v:CV):List (Ac×CV)->List (Ac×CV)
 | []=>[(x,v)]
 | (y,w)::r=>if y=x then(x,v)::r else(y,w)::CI x v r
theorem L5:∀(x:Ac) (v:CV) (y:Ac) (w:CV) (r:List (Ac×CV)),CI x v ((y,w)::r)=if y=x then(x,v)::r else(y,w)::CI x v r:=by intros;rfl
theorem AfA:∀(x:Ac) (v:CV),CI x v []=[(x,v)]:=by intros;rfl
noncomputable def L6(Γ:AM)(o:CV)(x:Ac)(v:CV):CM CV:=match o with
 | .ref n=>bnd (Gy n) λp=>if Fu Γ p.1 x=true/\p.2.length<900 then Ip n (.inst p.1 (CI x v p.2))else Ar
 | _=>Ar
noncomputable def HH(f:CV->CV->Option Bool)(v:CV):List CV->Nat
 | []=>0
 | y::r=>if f y v=some true then 0 else HH f v r+1
theorem VX:∀(f:CV->CV->Option Bool) (v y:CV) (r:List CV),HH f v (y::r)=if f y v=some true then 0 else HH f v r+1:=by intros;rfl
noncomputable def Jq(n:Nat)(v:CV):CM CV:=bnd (listC n) λvs=>λσ=>if Ef (Cd σ 20) v vs=some true then .ok (.int (HH (Cd σ 20) v vs)) σ else .stuck
noncomputable def KC(k:CM CV):List CV->CM CV
 | []=>k
 | _=>Ar
noncomputable def DB(k:CV->CM CV):List CV->CM CV
 | [v]=>k v
 | _=>Ar
noncomputable def VY(k:CV->CV->CM CV):List CV->CM CV
 | [v,w]=>k v w
 | _=>Ar
noncomputable def Fw(n:Nat)(x:Ac)(vs:List CV):CM CV :=
 if x = "append" then DB (Ha n) vs
 else if x = "extend" then DB (Kz n) vs
 else if x = "pop" then KC (LV n) vs
 else if x = "reverse" then KC (LX n) vs
 else if x = "index" then DB (Jq n) vs
 else Ar
noncomputable def On(v:Ad)(vs:List CV):CM CV :=
 if v=.builtin "len" then DB Kx vs
 else if v=.type "list" then DB Io vs
 else if v=.type "tuple" then DB Oj vs
 else if v=.builtin "sorted" then DB Jp vs
 else if v=.builtin "min" then VY LT vs
 else if v=.type "str" then DB LU vs
 else Ar
section
variable {c:FC}{FX:Bh}{m:Ac->Option Ad}{l l':Am}{d:Nat}{env:Env}{loc:Ao}{Γ:AM}
theorem L4.call{f:Af}{spec:List CV->CM CV}(h:L4 c FX f spec):VL c FX m l (.ref f) spec:=λz vs cs z hv s z z st ok exc ns =>
 J9 (h m _ vs cs s _ hv st (λb l' v h' tk e st' x r=>ok b l' v h' tk e st' x r) (λx l' e h' tk hx xx fx=>exc x l' e h' tk hx xx fx) ns)
theorem AJ.weaken{e:Nat}(h:AJ c e)(hd:d<=e):AJ c d:={ h with depth:=by have:=h.depth;exact AdB hd this,units:=by have:=h.units;exact AdA hd this }
noncomputable def FC.under(c:FC)(k:Code):FC:={ c with A:=c.A.under k }
theorem AJ.newC{a:Ad}(h:AJ c (d+1)):AJ (c.under (.builtin "type.__call__" ⟨a::vs,[]⟩)) d:=by
 have hg:(TV "type.__call__" ⟨a::vs,[]⟩).isGuard=false:=by show guardIds.contains "type.__call__" = false;decide +kernel
 have hf:(TV "type.__call__" ⟨a::vs,[]⟩).frames=0:=rfl;have hc:(TV "type.__call__" ⟨a::vs,[]⟩).isCaller=false:=rfl;have hw:(TV "type.__call__" ⟨a::vs,[]⟩).weight<=1:=by
  unfold Code.weight;rw[hg,hf,hc]
  split<;>simp
 have h1:=h.depth;have h2:=h.units;refine { below:=h.below,kin:=h.kin,top:=h.top,frames := ?_,frame:=h.frame,kind:=h.kind,depth := ?_,units := ?_,handled:=h.handled }
 ·show pushEnvs [] c.A.frames=_;rw[h.frames];rfl
 ·show c.A.depth+_+10*d<=900;exact Adz hw h1
 ·show c.A.units+(1+3*_)+100*d<=9000;rw[hf];exact Ady h2
theorem VR.noneEq(h:VR l v .none):v=.none:=by rcases h with⟨⟩;rfl
set_option tactic.hygienic true in
theorem Di.put{es:List Ec}{hsh:Int}{t:Tok}{a:CV}(h:Di l es as)(hv:VR l v a):Di l (putL x hsh (.str x t) v es) (CI x a as):=by
 induction h with
 | nil=>exact .cons hv .nil
 | cons h1 _ ih =>
  rename_i hh y t' v' c' es as h2;rw[putL,L5]
  by_cases e:y=x
  ·subst e;rw[if_pos rfl,if_pos (by simp[TP])]
   exact .cons hv ‹_›
  ·rw[if_neg e,if_neg (by simp[TP,e])]
   exact .cons h1 ih
theorem Di.length{es:List Ec}(h:Di l es as):es.length=as.length:=by
 induction h with
 | nil=>rfl
 | cons _ _ ih=>rw[BH,BH,ih]
theorem QV(x:Ac)(v:CV):∀as:List (Ac×CV),(CI x v as).length<=as.length+1:=by
 intro z1
 induction z1 with
 | nil =>
  simp[CI]
 | cons z2 r ih =>
  rcases z2 with⟨y,w⟩
  rw[L5]
  split
  ·simp
  ·have:=ih;simp only[BH];exact Adx this
set_option tactic.hygienic true in
theorem AfB(ok:AJ c d)(g:Bn c.K Γ){o v:Ad}{a b:CV}{x:Ac}(ho:VR l o a)(hv:VR l v b):Aa c FX m l (setAttr o x v) (L6 Γ a x b) EO:=by
 unfold L6
 split
 ·rename_i n;refine Aa.getInst λC as hs=>Aa.guard λha => ?_;refine At ha ?_;clear ha;rintro ha hz;unfold Fu at ha
  split at ha
  ·rename_i xs hx;refine At (g.attrs C xs x hx ha) ?_;rintro _ h1;simp only[Ql,A9,beq_iff_eq]at h1;refine AE ho.ref_inv ?_;rintro _ rfl hl had;intro s Q E st q _ _;refine Cj (st.inst (.ref hl had) hs) ?_;rintro es k m1 m2 r _;refine Bm (st.split m2) ?_;rintro pre post e g1 g2;have hl':(getL x es).isSome=true:=by
    rcases r.get x with⟨_,_,_,hw,_⟩ | ⟨_,hw⟩<;>rw[hw]<;>rfl
   have hlen:=(r.put (x:=x) (hsh:=Lv c.w.params x) (t:=s.toks+1) hv).length;have hp:=QV x b as;have N:=st.nw;rw[e]at N;have hd1:PH c.K C=true:=by
    simp only[LE,A9]at *;exact(g.attrs C xs x hx ha).1 |> λz=>by simp only[LE,A9]at z;exact z.1.2
   have hz':as.length<900:=hz;refine set_dict st.fr ok.kin N (Z0 st.nw m1 m2) rfl h1.2 h1.1.1.1 h1.1.1.2 hd1 hl' rfl (Ku g1 g2) (Adw hlen hp hz') λh' F' N' => ?_;refine AE (st.turn (b:=true) (co':=.inst C (CI x b as)) hs rfl (λy=>rfl) e F' N' λl' x' ea hm' hoth=>by
    refine⟨_,_,?_,by rw[ea];exact hm',(r.put hv).mono x'⟩
    rw[ea,had];refine hoth _ m1 λq => ?_;have:=(st.lr.inj n n false true ⟨_,hs,λq=>nomatch q⟩ ⟨_,hs,λy=>rfl⟩ (had.trans q)).2
    exfalso;injection this) ?_;rintro l' e' st' x'
   exact q .none l' _ h' _ (by show B2.ok _ _=_;rw[e']) st' x' trivial
  ·exfalso;injection ha
 ·exact Aa.stuck
open Classical in
set_option tactic.hygienic true in
theorem AfC{f:CV->CV->Option Bool}(R:LR c.prog c.w l){x:CV}{vs:List Ad}{cs:List CV}(h:Az l vs cs)(e:Ef f x cs=some true) :
  ∃i,∃hi:i<vs.length,HH f x cs=i/\decide (∃cy,VR l vs[i] cy/\f cy x=some true)=true/\∀j (hj:j<vs.length),j<i->decide (∃cy,VR l vs[j] cy/\f cy x=some true)=false:=by
 revert e;refine Az.ind (P:=λvs cs=>Ef f x cs=some true->∃i,∃hi:i<vs.length,HH f x cs=i/\decide (∃cy,VR l vs[i] cy/\f cy x=some true)=true/\∀j (hj:j<vs.length),j<i->decide (∃cy,VR l vs[j] cy/\f cy x=some true)=false) (λe=>nomatch e) (λ{v vs cy cs} h rr ih e => ?_) h
 rw[VD]at e
 split at e
 ·rename_i a b ea eb;simp only[ZJ]at e
  by_cases ha:f cy x=some true
  ·refine⟨0,by simp,if_pos ha,decide_eq_true ⟨cy,h,ha⟩,λj z hj=>absurd hj (Nx _)⟩
  ·have hb:b=true:=by
    rcases a with⟨⟩
    ·simpa using e
    ·exact absurd ea ha
   subst hb;rcases ih eb with⟨i,h1,hi,h2,h3⟩
   refine⟨i+1,by simp only[BH];exact Adv h1,by rw[VX];rw[if_neg ha,hi],by simpa using h2,λj hj hlt => ?_⟩
   rcases j with _ | j
   ·refine decide_eq_false λzz => ?_;refine Ah zz ?_;clear zz;rintro cy' h' e';have:cy=cy':=VR.func R h h';exact ha (this▸e')
   ·exact h3 j (by simpa using hj) (Qp hlt)
 ·exfalso;injection e
open Classical in
theorem AfD(ok:AJ c d){D:Af}{n:Nat}{v:Ad}{a:CV}(hd:VR l (.ref D) (.ref n))(hv:VR l v a):Aa c FX m l (call (.builtin "list.index") [.ref D,v]) (Jq n a) VR:=by
 unfold Jq;refine Aa.getList hd λcs ws k hs hz had hm hr => ?_;intro s Q E st q _ ns;dsimp only at q ns
 by_cases hf:Ef (Cd l.σ 20) a cs=some true
 ·rw[if_pos hf]at q;have hu:=ok.units;have hcl:cLine=9900:=rfl;refine At (VG st.lr hr hf) ?_;rintro h1 _;rcases AfC st.lr hr hf with⟨i,hi,h4,h2,h3⟩
  rw[h4]at q;have hsz:ws.toList.length=ws.size:=Dt;have hz':=of_decide_eq_true hz;have e1:=hr.length;refine call_meets PySem.F.slot_list_index ⟨_,(st.nw _ hm).1,rfl⟩ PySem.F.entry_list_index (PySem.F.args_list_index_2 _ _)
   (SeqAt.list_indexAt D ws k none #[] v (λy=>decide (∃cy,VR l y cy/\Cd l.σ 20 cy a=some true)) i (Adu hi hsz) (Adt hi hz' e1) (by have:=h2;rwa [An8]at this) λj hj hlt=>by have:=h3 j (by rw[hsz];exact hj) hlt;rwa [An8]at this) ⟨(st.nw _ hm).1,λy hy => ?_,?_⟩
  ·refine Bm (h1 y (by simpa using hy)) ?_;rintro cy b hb he hdd
   show IZ _ _ y v (decide (∃cy,VR l y cy/\Cd l.σ 20 cy a=some true));rw[hdd];exact QL st.lr st.nw 20 he hb hv (by rw[TM];exact U9 hu hcl)
  ·exact q _ l _ s.heap _ rfl st (Ap.refl l) (.int _ _)
 ·rw[if_neg hf]at ns;exact absurd rfl ns
set_option tactic.hygienic true in
theorem AfE{FX:FC->Bh}(ok:AJ c (d+1))(g:Bn c.K Γ)(fn:Hc FX Γ d c){C:Af}:VL c (FX c) m l (.ref C) (newC Γ C):=by
 intro l1 vs cs x1 hv;unfold newC
 split
 ·rename_i f hf;have hi:=g.inits C f hf;simp only[Qn,A9,beq_iff_eq]at hi;rcases hsp:Γ.fn f with _ | spec
  ·have efn:∀a,C9 Γ f a=Ar:=λa=>by unfold C9;rw[hsp]
   intro s Q E st q exc ns;simp only[efn]at ns;exact absurd rfl ns
  ·have efn:∀a,C9 Γ f a=spec a:=λa=>by unfold C9;rw[hsp]
   intro s Q E st q exc ns;simp only[efn]at q exc ns;refine call_cls st.fr ok.kin st.nw hi.1.1 hi.1.2 hi.2 λX dx h' F' N' h1 h2 => ?_;have hok:=ok.newC (a:=.ref C) (vs:=vs);have key:=fn (c.under (.builtin "type.__call__" ⟨.ref C::vs,[]⟩)) ⟨rfl,rfl,rfl,rfl⟩ g hok f spec hsp
   let l2:Am:=⟨(X,instObj C dx)::(dx,dictOf [] 0)::l1.Φ,l1.σ++[.inst C []],λi b=>if i=l1.σ.length then(if b then dx else X)else l1.ad i b⟩
   have ha:l2.ad l1.σ.length false=X:=by show(if _ then _ else _)=_;rw[if_pos rfl];rfl
   have hb:l2.ad l1.σ.length true=dx:=by show(if _ then _ else _)=_;rw[if_pos rfl];rfl
   have G:Kr l1 l2 (.inst C []) [(X,instObj C dx),(dx,dictOf [] 0)]:=by
    refine⟨rfl,rfl,λi b hi => ?_,λb z => ?_,?_,λe => ?_⟩
    ·show(if i=l1.σ.length then _ else _)=_;rw[if_neg (B6 hi)]
    ·rcases b with⟨⟩
     ·rw[ha];simp
     ·rw[hb];simp
    ·show(X::dx::l1.Φ.map (·.1)).Nodup;have lt:∀a∈l1.Φ.map (·.1),a<dx:=λa ham=>by
      refine Ah (BB.mp ham) ?_;rintro p hp e;exact e▸h1 p hp
     refine Dm.mpr ⟨λhm => ?_,Dm.mpr ⟨λhm=>BP _ (lt _ hm),st.lr.nd⟩⟩;rcases AS.mp hm with e | hm
     ·rw[e]at h2;exact BP _ h2
     ·have:=lt _ hm;exact absurd (Lw h2 this) (BP _)
    ·rw[ha,hb]at e;rw[e]at h2;exact absurd h2 (BP _)
   have st2:St c m l2 h':=⟨F',N',G.lr st.lr ⟨[],0,by rw[ha,hb];exact .head _,by rw[hb];exact .tail _ (.head _),.nil⟩⟩
   have hX:VR l2 (.ref X) (.ref l1.σ.length):=.ref (by show _<(l1.σ++[_]).length;simp) ha
   refine key m l2 (.ref X::vs) (.ref l1.σ.length::cs) { s with heap:=h' } _ (.cons hX (hv.mono G.ext)) ⟨st2.fr,st2.nw,st2.lr⟩ (λb l3 v h3 tk e st3 x3 r => ?_) (λx l3 e h3 tk hx xx fx => ?_) λqq => ?_
   ·have e':spec (.ref l1.σ.length::cs) (l1.σ++[.inst C []])=.ok b l3.σ:=e;rw[e']at q ns;rcases b with _ | _ | _ | _ | _ | _
    case none =>
     have:=r.noneEq;subst this;exact⟨rfl,q (.ref l1.σ.length) l3 (.ref X) h3 tk rfl ⟨st3.fr,st3.nw,st3.lr⟩ (G.ext.trans x3) (hX.mono x3)⟩
    all_goals exact absurd rfl ns
   ·have e':spec (.ref l1.σ.length::cs) (l1.σ++[.inst C []])=.exc x l3.σ:=hx;rw[e']at ns;exact absurd rfl ns
   ·have e':spec (.ref l1.σ.length::cs) (l1.σ++[.inst C []])=.stuck:=qq;rw[e']at ns;exact absurd rfl ns
 ·exact Aa.stuck
end
end
section
noncomputable def Ei(a:Int):Bool:=decide (-(2 ^ 62)<=a/\a<2 ^ 62)
noncomputable def Fx:List Int->Option (Int×Int×Nat)
 | [n]=>if Ei n=true/\n.toNat<=4000 then some (0,1,n.toNat)else none
 | [a,b]=>if Ei a=true/\Ei b=true/\(b-a).toNat<=4000 then some (a,1,(b-a).toNat)else none
 | [a,b,c]=>if c = -1/\Ei a=true/\Ei b=true/\(a-b).toNat<=4000 then some (a,-1,(a-b).toNat)else none
 | _=>none
noncomputable def L7(cs:List CV):Option (Int×Int×Nat):=ob (E3 cs) Fx
noncomputable def HI(vs:List CV):CM (Int×Int×Nat):=match L7 vs with
 | some r=>ret r
 | none=>Ar
noncomputable def VZ(a b c:Int)(t u v:Tok):AR:={ cls:=.type "range",dict:=none,data:=.fields #[.int a t,.int b u,.int c v],slots:=#[] }
def RR(l:Am)(v:Ad)(r:Int×Int×Nat):Prop:=∃D b t u w,v=.ref D/\AQ l (D,VZ r.1 b r.2.1 t u w)/\Z9 r.1 b r.2.1=true/\Aaa r.1 b r.2.1=(r.2.2:Int)/\r.2.2<=4000
noncomputable def EP(ks:AD)(x:Ac):Bool:=C7 x && (ks.lookup x == some An9)
noncomputable def CS(Γ:AM)(ks:AD)(x:Ac)(v:Ad):Bool:=EP ks x && (Γ.top.lookup x).isNone && (Γ.bins.lookup x == some v)
section
variable {c:FC}{FX:Bh}{m:Ac->Option Ad}{l l':Am}{d:Nat}{env:Env}{loc:Ao}{Γ:AM}
set_option tactic.hygienic true in
theorem AfF{a b:Int}(ha : -(2 ^ 62)<=a)(ha':a<2 ^ 62)(hb : -(2 ^ 62)<=b)(hb':b<2 ^ 62):Z9 a b (-1)=true:=by
 unfold Z9;rw[rangeSize_down];simp only[Builtin.Range.rangeFitsLong,A9,TX,decide_eq_true_eq,beq_iff_eq,show ¬(-1:Int)>0 by decide,if_false]
 have l1:(-(2 ^ 63):Int)<=-(2 ^ 62):=by decide
 have l2:(2 ^ 62:Int)<=2 ^ 63:=by decide
 refine⟨⟨⟨⟨⟨J6 l1 ha,TC ha' l2⟩,J6 l1 hb,TC hb' l2⟩,by decide,by decide⟩,?_⟩,.inr ?_⟩
 ·split
  ·rename_i q;exact⟨J6 (by decide) (Int.sub_nonneg_of_le (Int.le_of_lt q)),(AdD ha' hb)⟩
  ·exact⟨by decide,by decide⟩
 ·rw[show b+(-1+1)=b from Int.add_zero b];exact⟨J6 l1 hb,TC hb' l2⟩
theorem St.addRange{D:Af}{h:AY}{a b cc:Int}{t u v:Tok}(st:St c m l h)(F':Fr c.h₀ c.L h' m)(N':CE c.h₀ c.L h' l.Φ)(hr:IsRange h' D a b cc t u v)(hD:D=h.objs.size) :
  ∃l':Am,l'.σ=l.σ/\St c m l' h'/\Ap No l l'/\AQ l' (D,VZ a b cc t u v):=by
 have fr:∀p∈l.Φ,p.1≠D:=λp hp=>hD▸B6 (Bz (st.nw p hp).1);have hn:c.h₀.get? D=none:=by
  rcases q:c.h₀.get? D with _ | o
  ·rfl
  ·exact absurd (Bz (st.fr.keep D o q)) (by rw[hD];exact BP _)
 have hL:D≠c.L:=λe=>by
  refine Ee st.fr.ns ?_;rintro oL _ _ ho _;exact absurd (Bz ho) (by rw[<- e,hD];exact BP _)
 exact st.addJ F' (λp hp=>by
  rcases AS.mp hp with rfl | hp
  ·exact⟨hr,hL,hn⟩
  ·exact N' p hp) fr
theorem AfG{a:Int}{r:Int×Int×Nat}(hv:Az l vs [.int a])(h0:Fx [a]=some r):Aa c FX m l (call (.type "range") vs) (ret r) RR:=by
 refine Bm hv.cons_inv ?_;rintro _ _ e1 v1 v2;rw[e1,v2.nil_inv];clear hv e1 v2
 by_cases h:Ei a=true/\a.toNat<=4000
 ·rw[<- Ay ((if_pos h).symm.trans h0)];clear h0;have h1:=of_decide_eq_true h.1;refine AI v1.int_inv ?_;rintro _ e;rw[e];intro s Q E st q _ _;refine range1_rows st.fr st.nw λh' tk t u w hr F' N' hk => ?_;refine BL (st.addRange F' N' hr rfl) ?_;rintro l' e st' x ho;exact q _ l' _ h' tk (by rw[e];rfl) st' x ⟨_,_,_,_,_,rfl,ho,small_one (a:=0) (by decide +kernel) (by decide +kernel) h1.1 h1.2,by rw[Aoa];simp,h.2⟩
 ·exact(Aw ((if_neg h).symm.trans h0)).elim
theorem AfH{a b:Int}{r:Int×Int×Nat}(hv:Az l vs [.int a,.int b])(h0:Fx [a,b]=some r):Aa c FX m l (call (.type "range") vs) (ret r) RR:=by
 refine Bm hv.cons_inv ?_;rintro _ _ e1 v1 w1;refine Bm w1.cons_inv ?_;rintro _ _ e2 v2 w2;rw[e1,e2,w2.nil_inv];clear hv e1 e2 w1 w2
 by_cases h:Ei a=true/\Ei b=true/\(b-a).toNat<=4000
 ·rw[<- Ay ((if_pos h).symm.trans h0)];clear h0;have h1:=of_decide_eq_true h.1;have h3:=of_decide_eq_true h.2.1;refine AI v1.int_inv ?_;rintro _ e1;refine AI v2.int_inv ?_;rintro _ e2;rw[e1,e2];clear v1 v2 e1 e2;intro s Q E st q _ _;refine range2_rows st.fr st.nw λh' tk t u w hr F' N' hk => ?_;refine BL (st.addRange F' N' hr rfl) ?_;rintro l' e st' x ho;exact q _ l' _ h' tk (by rw[e];rfl) st' x ⟨_,_,_,_,_,rfl,ho,small_one h1.1 h1.2 h3.1 h3.2,Aoa _ _,h.2.2⟩
 ·exact(Aw ((if_neg h).symm.trans h0)).elim
theorem AfI{a b k:Int}{r:Int×Int×Nat}(hv:Az l vs [.int a,.int b,.int k])(h0:Fx [a,b,k]=some r):Aa c FX m l (call (.type "range") vs) (ret r) RR:=by
 refine Bm hv.cons_inv ?_;rintro _ _ e1 v1 w1;refine Bm w1.cons_inv ?_;rintro _ _ e2 v2 w2;refine Bm w2.cons_inv ?_;rintro _ _ e3 v3 w3;rw[e1,e2,e3,w3.nil_inv];clear hv e1 e2 e3 w1 w2 w3
 by_cases h:k = -1/\Ei a=true/\Ei b=true/\(a-b).toNat<=4000
 ·rw[<- Ay ((if_pos h).symm.trans h0)];clear h0;have h1:=of_decide_eq_true h.2.1;have h3:=of_decide_eq_true h.2.2.1;refine AI v1.int_inv ?_;rintro _ e1;refine AI v2.int_inv ?_;rintro _ e2;refine AI v3.int_inv ?_;rintro _ e3;rw[e1,e2,e3,h.1];clear v1 v2 v3 e1 e2 e3;intro s Q E st q _ _;refine range3_rows st.fr st.nw (by decide) (λh' tk t u w hr F' N' hk => ?_) (.inl (AnV (by decide)))
  refine BL (st.addRange F' N' hr rfl) ?_;rintro l' e st' x ho;exact q _ l' _ h' tk (by rw[e];rfl) st' x ⟨_,_,_,_,_,rfl,ho,AfF h1.1 h1.2 h3.1 h3.2,rangeSize_downNat _ _,h.2.2.2⟩
 ·exact(Aw ((if_neg h).symm.trans h0)).elim
theorem AfJ(hv:Az l vs cs):Aa c FX m l (call (.type "range") vs) (HI cs) RR:=by
 unfold HI;rcases hr:L7 cs with _ | r
 ·exact Aa.stuck
 refine AN hr λis e h0 => ?_;rw[Ae3 e]at hv;clear hr e;rcases is with _ | ⟨a,_ | ⟨b,_ | ⟨k,_ | ⟨_,_⟩⟩⟩⟩
 ·exact(Aw h0).elim
 ·exact AfG hv h0
 ·exact AfH hv h0
 ·exact AfI hv h0
 ·exact(Aw h0).elim
theorem AfK:∀{ys:List Ad} {is:List Int},CarriedAll ys (is.map PyData.int)->Az l ys (is.map .int):=by
 intro ys is
 induction is generalizing ys with
 | nil=>intro h;rcases h with⟨⟩;exact .nil
 | cons i is ih =>
  intro h;rcases h with _ | ⟨a,r⟩
  ·rcases a with⟨⟩
   exact .cons (.int _ _) (ih r)
theorem AfL(ok:AJ c d){v:Ad}{r:Int×Int×Nat}(hv:RR l v r):Aa c FX m l (call (.type "list") [v]) (BV ((DM r.1 r.2.1 r.2.2).map .int)) VR:=by
 refine Qj hv ?_;clear hv;rintro D b t u w rfl ho h1 h2 h3;refine Aa.newL λhz s Q E st q => ?_;refine list_rangeD ok.handled st.fr st.nw (st.nw _ ho.1).1 h1 h2 (AdC h3) λh' tk ys F' N' hk hn hl np ca => ?_;refine At np ?_;clear np;rintro⟨k,hp⟩ hd;refine q _ h' k tk ys F' (λp hp' => ?_) (λp hp=>Bz (st.nw p hp).1) (AfK ca);rcases AS.mp hp' with rfl | hp'
 ·refine⟨hp,λe => ?_,hn⟩;refine Ee st.fr.ns ?_;rintro oL _ _ ho _;exact absurd (Bz ho) (by rw[<- e];exact BP _)
 ·exact N' p hp'
theorem Jr(ok:AJ c d)(g:Bn c.K Γ)(eo:Ce c env){x:Ac}{p pos:Pos}{es:List Expr}{bv:Ad}{fa:CM δ}{W:Am->List Ad->δ->Prop}{ε:Type}{k:δ->CM ε}{V:Am->Ad->ε->Prop}
  (hb:CS Γ env.scope.names x bv=true) (hbv:∃s,bv=.builtin s\/bv=.type s) (hn:noStar es=true) (ha:Aa c FX m l (spliced (backTo pos (starEach es env))) fa W)
  (hc:∀vs a l',Ap No l l'->W l' vs a->Aa c FX m l' (call bv vs) (k a) V):Aa c FX m l (eval (.Call (.Name x p) es [] pos) env) (bnd fa k) V:=by
 simp only[CS,EP,C7,A9,EY,beq_iff_eq]at hb;refine At hb ?_;clear hb;rintro⟨⟨⟨hd1,hd2⟩,hk⟩,_⟩ hl;refine CZ (g.bins x bv hl) ?_;rintro b1 b2 b3;have T:Lr c.p c.loose c.mg c.mb c.h₀:=Ic ok.top;have key:Aa c FX m l (callWith pos bv [] (backTo pos (starEach es env)) []) (bnd fa k) V:=by
  refine LS (P:=λz=>True) hn (λz z z z=>trivial) (λh z=>⟨.machine,.inr (.inl rfl),?_⟩) ha λvs a l' x hw=>hc vs a l' x hw
  (refine AI hbv ?_;clear hbv;rintro s (rfl | rfl))<;>exact TY rfl
 intro s Q E st q exc ns;refine Call_ (Lu eo.kind hk ?_ hd1);exact Aob (by rw[eo.globals];exact T.g.keeps st.fr.keep) (mg_none_of ok.kin T.g b1) (by rw[eo.builtins];exact T.b.keeps st.fr.keep) ((T.builtins x b3).trans b2) (key s Q E st q exc ns)
theorem V0(ok:AJ c d)(g:Bn c.K Γ)(eo:Ce c env){x:Ac}{p pos:Pos}{es:List Expr}{a:Af}{fa:CM δ}{W:Am->List Ad->δ->Prop}{ε:Type}{k:δ->CM ε}{V:Am->Ad->ε->Prop}
  (hb:EP env.scope.names x=true) (ht:Γ.top.lookup x=some (.ref a)) (hn:noStar es=true) (ha:Aa c FX m l (spliced (backTo pos (starEach es env))) fa W)
  (hc:∀vs a' l',Ap No l l'->W l' vs a'->Aa c FX m l' (call (.ref a) vs) (k a') V):Aa c FX m l (eval (.Call (.Name x p) es [] pos) env) (bnd fa k) V:=by
 simp only[EP,C7,A9,EY,beq_iff_eq]at hb;refine At hb ?_;clear hb;rintro⟨hd1,hd2⟩ hk;refine AE (g.top x _ ht) ?_;rintro w hw rfl hkp;have T:Lr c.p c.loose c.mg c.mb c.h₀:=Ic ok.top;have key:Aa c FX m l (callWith pos (.ref a) [] (backTo pos (starEach es env)) []) (bnd fa k) V :=
  LS (P:=λh=>c.K.In h) hn (λz h st z=>ok.kin.keeps st.fr.keep) (λh X=>TZ hkp h X) ha λvs a' l' x hw=>hc vs a' l' x hw
 intro s Q E st q exc ns;refine Call_ (Lu eo.kind hk ?_ hd1);exact PX (by rw[eo.globals];exact T.g.keeps st.fr.keep) (mg_of ok.kin T.g hw) (key s Q E st q exc ns)
theorem It{f:CV->CM CV}(hv:Az l vs cs)(k:∀v a,vs=[v]->VR l v a->Aa c FX m l t (f a) VR):Aa c FX m l t (DB f cs) VR:=by
 rcases cs with _ | ⟨a,_ | ⟨_,_⟩⟩
 ·exact Aa.stuck
 ·refine Bm hv.cons_inv ?_;rintro v ws rfl h1 h2;obtain rfl:=h2.nil_inv;exact k v a rfl h1
 ·exact Aa.stuck
set_option tactic.hygienic true in
theorem AfM(ok:AJ c d){v:Ad}{vs:List Ad}{cs:List CV}(hv:Az l vs cs):Aa c FX m l (call v vs) (On v cs) VR:=by
 unfold On
 split
 ·rename_i e;subst e;exact It hv λv a e h1=>by subst e;exact Ae0 h1
 split
 ·rename_i e;subst e;exact It hv λv a e h1=>by subst e;exact Ae1 ok h1
 split
 ·rename_i e;subst e;exact It hv λv a e h1=>by subst e;exact Ae2 h1
 split
 ·rename_i e;subst e;exact It hv λv a e h1=>by subst e;exact Ae8 ok h1
 split
 ·rename_i e;subst e;rcases cs with _ | ⟨a,_ | ⟨b,_ | ⟨_,_⟩⟩⟩
  ·exact Aa.stuck
  ·exact Aa.stuck
  ·refine Bm hv.cons_inv ?_;rintro v ws rfl h1 r1;refine Bm r1.cons_inv ?_;rintro w ws rfl h2 r2;obtain rfl:=r2.nil_inv;exact Ae9 ok h1 h2
  ·exact Aa.stuck
 split
 ·rename_i e;subst e;exact It hv λv a e h1=>by subst e;exact Afa h1
 ·exact Aa.stuck
set_option tactic.hygienic true in
theorem QW{FX:FC->Bh}(ok:AJ c d)(g:Bn c.K Γ)(fn:Hc FX Γ d c){f:Af}{vs:List Ad}{cs:List CV}(hv:Az l vs cs):Aa c (FX c) m l (call (.ref f) vs) (C9 Γ f cs) VR:=by
 unfold C9
 split
 ·rename_i spec hs;exact(fn c ⟨rfl,rfl,rfl,rfl⟩ g ok f spec hs).call (m:=m) (l:=l) l vs cs (Ap.refl l) hv
 ·exact Aa.stuck
noncomputable def L8(f:Expr->CM CV)(Γ:AM)(ks:AD)(x:Ac)(es:List Expr):CM CV :=
 if EP ks x=true/\noStar es=true then match Γ.top.lookup x with
  | some (.ref a)=>bnd (Bx f es) λvs=>match Γ.inits.lookup a with
   | some _=>newC Γ a vs
   | none=>C9 Γ a vs
  | some _=>Ar
  | none=>match Γ.bins.lookup x with
   | some v=>bnd (Bx f es) λvs=>On v vs
   | none=>Ar
 else Ar
set_option tactic.hygienic true in
theorem AfN{FX:FC->Bh}(ok:AJ c (d+1))(g:Bn c.K Γ)(fn:Hc FX Γ d c)(eo:Ce c env){f:Expr->CM CV}(h:Bu c (FX c) m env l f){x:Ac}{p pos:Pos}{es:List Expr}(hb:∀x v,Γ.bins.lookup x=some v->∃s,v=.builtin s\/v=.type s) :
  Aa c (FX c) m l (eval (.Call (.Name x p) es [] pos) env) (L8 f Γ env.scope.names x es) VR:=by
 unfold L8;refine Aa.guard λzz => ?_;refine At zz ?_;clear zz;rintro h1 h2
 split
 ·rename_i a ht;refine V0 ok g eo h1 ht h2 (G8 es h) λvs cs l' x' hw => ?_
  split
  ·exact AfE ok g fn l' vs cs (Ap.refl _) hw
  ·exact QW (ok.weaken (Hw d)) g fn hw
 ·exact Aa.stuck
 ·rename_i ht
  split
  ·rename_i v hl;refine Jr ok g eo (Γ:=Γ) (bv:=v) ?_ (hb x v hl) h2 (G8 es h) λvs cs l' x' hw=>AfM ok hw;unfold CS;rw[h1,ht,hl];simp
  ·exact Aa.stuck
theorem AfO:∀{es:List Expr},noStar es=true->(backTo pos (starEach es env)).all (!·.1)=true:=by
 intro z1
 induction z1 with
 | nil =>
  intro z2;exact rfl
 | cons e r ih =>
  intro h;simp only[noStar,A9,EY]at h;rw[Jo h.1];show(!false && (backTo pos (starEach r env)).all (!·.1))=true;rw[ih h.2];rfl
theorem Oo{o:Expr}(h:E4 es apos pos=true)(hb:Ir o=true):eval (.Call (.Attribute o x apos) es [] pos) env =
  (eval o env >>= λov=>standAt apos.atName >>= λz=>holding [ov] (P2 ov x (do return (<- importBound o env).getD true)) >>= λp=>callWith pos p.1 p.2 (backTo pos (starEach es env)) []):=by
 simp only[E4,A9,decide_eq_true_eq]at h;have hf:Aoc (es.length+([]:List TG).length) (backTo pos (starEach es env)) (backToKw pos (keywordEach [] env))=true:=by
  unfold Aoc;rw[AfO h.1.1];show(true && true && decide (es.length+0+0<30))=true;exact decide_eq_true (by omega)
 rw[arm_eval_Call,QU hb];unfold methodCall;rw[hf];have hp:Aod true o env apos pos=pure pos:=by
  unfold Aod;rw[h.2];rfl
 rw[hp];rfl
noncomputable def KD(x:Ac):Bool:=x == "append" || x == "extend" || x == "pop" || x == "reverse" || x == "index"
noncomputable def E5(f:Expr->CM CV)(Γ:AM)(n:Nat)(x:Ac)(es:List Expr):CM CV:=λσ=>match σ[n]? with
 | some (.inst C as)=>(match (Γ.meths.lookup C).bind (·.lookup x),as.lookup x with
  | some g,none=>bnd (Bx f es) (λvs=>C9 Γ g (.ref n::vs)) σ
  | _,_=>.stuck)
 | some (.list _)=>if KD x=true then bnd (Bx f es) (λvs=>Fw n x vs) σ else .stuck
 | _=>.stuck
theorem Aa.getMeth{o:Ad}{pl:Sem Bool}{k:Ad×List Ad->Sem α}{f:CM β}{V:Am->α->β->Prop}{g:Ad}{first:List Ad}
  (hm:∀(s:Aq) (Q:Ad×List Ad->Aq->Prop) (E:Ad->Aq->Prop),St c m l s.heap->Q (g,first) s->wpAny c.M c.A (P2 o x pl) Q E s)
  (h:Aa c FX m l (k (g,first)) f V):Aa c FX m l (holding [o] (P2 o x pl) >>= k) f V :=
 λs Q E st ok exc ns=>Aj (Dg (hm s _ E st (h s Q E st ok exc ns)))
theorem AfP:Fw n "append" = DB (Ha n):=by kernel_rfl
theorem AfQ:Fw n "extend" = DB (Kz n):=by kernel_rfl
theorem AfR:Fw n "pop" = KC (LV n):=by kernel_rfl
theorem AfS:Fw n "reverse" = KC (LX n):=by kernel_rfl
theorem AfT:Fw n "index" = DB (Jq n):=by kernel_rfl
theorem V1{f:CM CV}(hv:Az l vs cs)(k:vs=[]->Aa c FX m l t f VR):Aa c FX m l t (KC f cs) VR:=by
 rcases cs with _ | ⟨a,cs⟩
 ·exact k hv.nil_inv
 ·exact Aa.stuck
theorem AfU{pl:Sem Bool}{D:Af}{vs0:List CV}(ok:AJ c d)(h:Bu c FX m env l f)(hn:noStar es=true)(hv:VR l (.ref D) (.ref n))(hs:l.σ[n]? = some (.list vs0))(hx:KD x=true) :
  Aa c FX m l (holding [.ref D] (P2 (.ref D) x pl) >>= λp=>callWith pos p.1 p.2 (backTo pos (starEach es env)) []) (bnd (Bx f es) λvs=>Fw n x vs) VR:=by
 have keep:∀(y:Ac) (id:String) (spec:List CV->CM CV),x=y->Fw n y=spec->(Slot "list" y id)->(typeOf (.builtin id)=pure (.type "method_descriptor"))->(∀l' vs cs,Ap No l l'->Az l' vs cs->Aa c FX m l' (call (.builtin id) (.ref D::vs)) (spec cs) VR) ->
   Aa c FX m l (holding [.ref D] (P2 (.ref D) x pl) >>= λp=>callWith pos p.1 p.2 (backTo pos (starEach es env)) []) (bnd (Bx f es) (Fw n x)) VR:=λy id spec e1 e2 sl ty hc=>by
  rw[e1,e2];refine Aa.getMeth (g:=.builtin id) (first:=[.ref D]) (λs Q E st q => ?_) ?_
  ·refine Ba (st.list hv hs) ?_;rintro ws k hm _;exact listMethod_K st.nw hm sl ty q
  ·exact LS (P:=λz=>True) hn (λz z z z=>trivial) (λh z=>⟨.machine,.inr (.inl rfl),TY rfl⟩) (G8 es h) λvs cs l' x hw=>hc l' vs cs x hw
 clear h hn hs
 by_cases h1:x = "append"
 ·exact keep _ _ _ h1 AfP PySem.F.slot_list_append PySem.F.type_list_append λl' vs cs x' hw=>It hw λv a e ha=>e▸VO (hv.mono x') ha
 by_cases h2:x = "extend"
 ·exact keep _ _ _ h2 AfQ PySem.F.slot_list_extend PySem.F.type_list_extend λl' vs cs x' hw=>It hw λv a e ha=>e▸Afb (hv.mono x') ha
 by_cases h3:x = "pop"
 ·exact keep _ _ _ h3 AfR PySem.F.slot_list_pop PySem.F.type_list_pop λl' vs cs x' hw=>V1 hw λe=>e▸Afc (hv.mono x')
 by_cases h4:x = "reverse"
 ·exact keep _ _ _ h4 AfS PySem.F.slot_list_reverse PySem.F.type_list_reverse λl' vs cs x' hw=>V1 hw λe=>e▸Afd (hv.mono x')
 by_cases h5:x = "index"
 ·exact keep _ _ _ h5 AfT PySem.F.slot_list_index PySem.F.type_list_index λl' vs cs x' hw=>It hw λv a e ha=>e▸AfD ok (hv.mono x') ha
 ·simp[KD,h1,h2,h3,h4,h5]at hx
noncomputable def KE(f:Expr->CM CV)(Γ:AM)(o:Expr)(x:Ac)(apos:Pos)(es:List Expr)(pos:Pos):CM CV :=
 if E4 es apos pos=true/\Ir o=true then bnd (f o) λov=>match ov with
  | .ref n=>E5 f Γ n x es
  | _=>Ar
 else Ar
theorem Aa.atHeap{t:Sem α}{f g:CM β}{V:Am->α->β->Prop}(e:f l.σ=g l.σ)(h:Aa c FX m l t g V):Aa c FX m l t f V:=by
 intro s Q E st ok exc ns;rw[e]at ok exc ns;exact h s Q E st ok exc ns
set_option tactic.hygienic true in
theorem V3{FX:FC->Bh}(ok:AJ c (d+1))(g:Bn c.K Γ)(fn:Hc FX Γ d c)(eo:Ce c env){f:Expr->CM CV}(h:Bu c (FX c) m env l f){o:Expr}{x:Ac}{apos pos:Pos}{es:List Expr} :
  Aa c (FX c) m l (eval (.Call (.Attribute o x apos) es [] pos) env) (KE f Γ o x apos es pos) VR:=by
 unfold KE;refine Aa.guard λzz => ?_;refine At zz ?_;clear zz;rintro h1 h2;have h3:=h1;simp only[E4,A9,decide_eq_true_eq]at h3;rw[Oo h1 h2];refine Aa.bind (h.here o) λov a l1 hq x1 hov=>Aa.stand _ ?_;clear hq
 split
 ·rename_i n;refine AE hov.ref_inv ?_;rintro _ rfl hl had;rename_i D;have hv:VR l1 (.ref D) (.ref n):=.ref hl had;rcases e:l1.σ[n]? with _ | co
  ·exact Aa.atHeap (g:=Ar) (by unfold E5;rw[e];rfl) Aa.stuck
  ·rcases co with vs0 | _ | ⟨C,as⟩
   ·by_cases hx:KD x=true
    ·exact Aa.atHeap (g:=bnd (Bx f es) λvs=>Fw n x vs) (by unfold E5;rw[e];simp only[if_pos hx]) (AfU ok (h.mono x1) h3.1.1 hv e hx)
    ·exact Aa.atHeap (g:=Ar) (by unfold E5;rw[e];simp only[if_neg hx];rfl) Aa.stuck
   ·exact Aa.atHeap (g:=Ar) (by unfold E5;rw[e];rfl) Aa.stuck
   ·rcases e1:(Γ.meths.lookup C).bind (·.lookup x)with _ | fa
    ·exact Aa.atHeap (g:=Ar) (by unfold E5;rw[e];simp only[e1];rfl) Aa.stuck
    ·rcases e2:as.lookup x with _ | _
     ·refine Aa.atHeap (g:=bnd (Bx f es) (λvs=>C9 Γ fa (.ref n::vs))) (by unfold E5;rw[e];simp only[e1,e2]) ?_
      refine Ah (PY.mp e1) ?_;rintro ms hm1 hm2;have hm:=g.meths C ms x fa hm1 hm2;simp only[Qm,A9,beq_iff_eq]at hm;refine At hm ?_;clear hm;rintro hm hk;refine Aa.getMeth (g:=.ref fa) (first:=[.ref D]) (λs Q E st q => ?_) ?_
      ·refine Cj (st.inst hv e) ?_;rintro es' k m1 m2 r _;refine method_inst st.fr ok.kin (Z0 st.nw m1 m2) hm.1.1 hm.1.2 hm.2 ?_ q;rcases r.get x with⟨_,_,q1,_⟩ | ⟨_,q2⟩
       ·rw[e2]at q1;(exfalso;injection q1)
       ·exact q2
      ·exact LS (P:=λh=>c.K.In h) h3.1.1 (λz h st z=>ok.kin.keeps st.fr.keep) (λh X=>TZ hk h X) (G8 es (h.mono x1)) λvs cs l' x' hw=>QW (ok.weaken (Hw d)) g fn (.cons (hv.mono x') hw)
     ·exact Aa.atHeap (g:=Ar) (by unfold E5;rw[e];simp only[e1,e2];rfl) Aa.stuck
 ·exact Aa.stuck
noncomputable def HJ(Γ:AM)(ks:AD)(cn x:Ac):Option Af:=if EP ks cn=true then match Γ.top.lookup cn with
 | some (.ref C)=>(Γ.clsfn.lookup C).bind (·.lookup x)
 | _=>none
 else none
noncomputable def Op(f:Expr->CM CV)(Γ:AM)(g:Af)(apos:Pos)(es:List Expr)(pos:Pos):CM CV:=if E4 es apos pos=true then bnd (Bx f es) λvs=>C9 Γ g vs else Ar
set_option tactic.hygienic true in
theorem AfV{FX:FC->Bh}(ok:AJ c (d+1))(g:Bn c.K Γ)(fn:Hc FX Γ d c)(eo:Ce c env){f:Expr->CM CV}(h:Bu c (FX c) m env l f){cn x:Ac}{p apos pos:Pos}{es:List Expr}{fa:Af}(hc:HJ Γ env.scope.names cn x=some fa) :
  Aa c (FX c) m l (eval (.Call (.Attribute (.Name cn p) x apos) es [] pos) env) (Op f Γ fa apos es pos) VR:=by
 unfold Op;refine Aa.guard λh1 => ?_;have h3:=h1;simp only[E4,A9,decide_eq_true_eq]at h3;rw[Oo h1 rfl];unfold HJ at hc
 split at hc
 ·rename_i hb
  split at hc
  ·rename_i C ht;refine Ah (PY.mp hc) ?_;rintro ms hm1 hm2;have hm:=g.clsfn C ms x fa hm1 hm2;simp only[Ih,A9,beq_iff_eq]at hm;refine At hm ?_;clear hm;rintro⟨q1,q2⟩ q3;simp only[EP,C7,A9,EY,beq_iff_eq]at hb;refine At hb ?_;clear hb;rintro⟨hd1,hd2⟩ hk;refine AE (g.top cn _ ht) ?_;rintro w hw rfl hkp;have T:Lr c.p c.loose c.mg c.mb c.h₀:=Ic ok.top;have key:Aa c (FX c) m l (callWith pos (.ref fa) [] (backTo pos (starEach es env)) []) (bnd (Bx f es) λvs=>C9 Γ fa vs) VR :=
    LS (P:=λh=>c.K.In h) h3.1.1 (λz h st z=>ok.kin.keeps st.fr.keep) (λh X=>TZ q2 h X) (G8 es h) λvs cs l' x' hw=>QW (ok.weaken (Hw d)) g fn hw
   intro s Q E st q exc ns;refine Aj (Lu eo.kind hk ?_ hd1);refine PX (by rw[eo.globals];exact T.g.keeps st.fr.keep) (mg_of ok.kin T.g hw) ?_
   refine Aj (FM (Aj (Dg ?_)))
   split at q3
   ·rename_i mc hmc;simp only[A9]at q3;refine At q3 ?_;clear q3;rintro q3 q4
    split at q4
    ·rename_i v hv;have hv':v=.ref fa:=beq_iff_eq.mp q4;subst hv';exact Aoe st.fr ok.kin q1 (cls_val st.fr ok.kin hmc q3 hv rfl (key { s with toks:=s.toks+1 } Q E ⟨st.fr,st.nw,st.lr⟩ (λb l' a h' tk=>q b l' a h' tk) (λx l' e h' tk=>exc x l' e h' tk) ns))
    ·exfalso;injection q4
   ·exfalso;injection q3
  ·exfalso;injection hc
 ·exfalso;injection hc
noncomputable def V4(f:Expr->CM CV)(rs:List Expr):CM CV:=bnd (bnd (Bx f rs) HI) λr=>BV ((DM r.1 r.2.1 r.2.2).map .int)
theorem V5(ok:AJ c d)(g:Bn c.K Γ)(eo:Ce c env){f:Expr->CM CV}(h:Bu c FX m env l f){p pos:Pos}{rs:List Expr}(hb:CS Γ env.scope.names "range" (.type "range")=true)(hn:noStar rs=true) :
  Aa c FX m l (eval (.Call (.Name "range" p) rs [] pos) env) (bnd (Bx f rs) HI) RR :=
 Jr ok g eo hb ⟨_,.inr rfl⟩ hn (G8 rs h) λvs cs l' x hw=>AfJ hw
theorem L9{fa:CM δ}{V:Am->Ad->δ->Prop}(he:C8 e=false)(h:Aa c FX m l (eval e env) fa V):Aa c FX m l (spliced (backTo pos (starEach [e] env))) fa (λl' vs r=>∃v,vs=[v]/\V l' v r):=by
 rw[Jo he];show Aa c FX m l (spliced ((false,eval e env)::backTo pos (starEach [] env))) _ _;rw[QQ];refine Aa.of_eq (f':=bnd fa ret) (Aa.bind h λv r l1 z x hv => ?_) (QS _).symm;exact Aa.holdBind (Aa.pure (V:=λl' vs r=>∃v,vs=[v]/\V l' v r) ⟨v,rfl,hv⟩)
theorem AfW(ok:AJ c d)(g:Bn c.K Γ)(eo:Ce c env){f:Expr->CM CV}(h:Bu c FX m env l f){p p2 pos pos2:Pos}{rs:List Expr}(hb:CS Γ env.scope.names "range" (.type "range")=true)(hl:CS Γ env.scope.names "list" (.type "list")=true)(hn:noStar rs=true) :
  Aa c FX m l (eval (.Call (.Name "list" p) [.Call (.Name "range" p2) rs [] pos2] [] pos) env) (V4 f rs) VR :=
 Jr ok g eo hl ⟨_,.inr rfl⟩ rfl (L9 rfl (V5 ok g eo h hb hn)) λvs r l' x ⟨v,e,hr⟩=>by subst e;exact AfL ok hr
end
end
section
set_option maxHeartbeats 1000000
noncomputable def CT(v:Nat):List Nat->List Nat
 | []=>[v]
 | x::r=>if v<=x then v::x::r else x::CT v r
theorem Oq:∀(v x_1:Nat) (r:List Nat),CT v (x_1::r)=if v<=x_1 then v::x_1::r else x_1::CT v r:=by intros;rfl
noncomputable def F3(v:Nat)(vs:List Nat):List Nat:=if vs.contains v then vs else CT v vs
noncomputable def Iu:List Nat->List (List Nat)
 | []=>[[]]
 | x::r=>(Iu r).map (x::·)++Iu r
theorem AfX:∀(x_1:Nat) (r:List Nat),Iu (x_1::r)=GX (λ(x:List Nat)=>x_1::x) (Iu r)++Iu r:=by intros;rfl
noncomputable def DC:List (List Nat):=Iu [0,1,2,3,4,5,6]
noncomputable def C1(n:Nat):Nat:=if n<5 then 7 else 31
noncomputable def C2(vs:List Nat)(mask:Nat)(led:Bool)(moves:Nat):SetTable:=⟨mask,vs.toArray,#[],0,led,moves,true⟩
noncomputable def Ej(vs:List Nat)(v:Nat):Nat:=Ny vs.toArray v
theorem AfY:DC.all (λvs=>(As 7).all λv=>DC.contains (F3 v vs))=true:=by decide +kernel
theorem AfZ(led:Bool)(moves:Nat):DC.all (λvs=>(As 7).all λv=>vs.contains v || ((C2 vs (C1 vs.length) led moves).freeSlot (v:Int) == some (v,false)))=true:=by kernel_rfl
theorem Af0:DC.all (λvs=>(As 7).all λv=>vs.contains v || (Ej vs v<=vs.length && CT v vs == vs.take (Ej vs v)++v::vs.drop (Ej vs v)))=true:=by decide +kernel
set_option tactic.hygienic true in
theorem Af1:DC.all (λvs=>(As 7).all λi=>(match vs[i]? with | some p=>Ny vs.toArray (p+1) == i+1 | none=>true))=true:=by decide +kernel
theorem sub_zero:DC.all (λvs=>Ny vs.toArray 0 == 0)=true:=by decide +kernel
theorem Af2:DC.all (λvs=>vs.length<=7)=true:=by decide +kernel
theorem Af3(led:Bool)(moves:Nat):(DC.filter λvs=>vs.length == 5).all (λvs=>match (C2 vs 7 led moves).relaid (vs.map λv=>((v:Nat):Int)).toArray (Aof 5)with
  | some (t,order)=>t.place == vs.toArray && t.dummies == #[] && t.mask == 31 && t.finger == 0 && t.plain && order == Aab 5
  | none=>false)=true:=by kernel_rfl
end
section
set_option maxHeartbeats 1000000
def Ek(vs:List Nat)(es:List (Int×Ad)):Prop:=es.map (·.1)=vs.map (λv=>((v:Nat):Int))/\∀e∈es,∃t,e.2=.int e.1 t
noncomputable abbrev Os(es:Array (Int×Ad))(ep:Nat)(vs:List Nat)(led:Bool)(moves:Nat):AR:={ cls:=.type "set",dict:=none,data:=.set es ep (C2 vs (C1 vs.length) led moves),slots:=#[] }
def Iv(h:AY)(a:Af)(led:Bool)(vs:List Nat)(es:Array (Int×Ad))(ep:Nat):Prop:=∃moves,vs∈DC/\Ek vs es.toList/\h.get? a=some (Os es ep vs led moves)
def KF(h:AY)(a:Af)(led:Bool)(vs:List Nat):Prop:=∃es ep,Iv h a led vs es ep
theorem Js{vs:List Nat}(h:vs∈DC):vs.length<=7:=of_decide_eq_true (B0.mp Af2 vs h)
theorem Ek.len{vs:List Nat}{es:List (Int×Ad)}(r:Ek vs es):es.length=vs.length:=by
 have:=congrArg Ib r.1
 simpa using this
theorem Ma{vs:List Nat}(h:vs∈DC)(led:Bool)(moves:Nat){n:Nat}(hn:n=vs.length):(C2 vs (C1 vs.length) led moves).fits n=true:=by
 have:=Js h;subst hn;unfold Aog T0 C2 C1;simp only[J8,DL,Aac,beq_self_eq_true,Aad,decide_eq_true_eq]
 by_cases q:vs.length<5
 ·rw[if_pos q];exact this
 ·rw[if_neg q];exact AC this (by decide)
section
variable {prog:CC}{w:B5}{A:CD}{E:Ad->Aq->Prop}{s:Aq}{a:Af}{led:Bool}{vs:List Nat}{es:Array (Int×Ad)}{ep moves v:Nat}
theorem V6(hv:v<7):(intKind prog w).hash ((v:Nat):Int)=(v:Int):=by
 rcases v with _ | _ | _ | _ | _ | _ | _ | v
 ·kernel_rfl
 ·kernel_rfl
 ·kernel_rfl
 ·kernel_rfl
 ·kernel_rfl
 ·kernel_rfl
 ·kernel_rfl
 ·exact absurd hv (DA.mpr (Aoh 7 v))
theorem Af4:∀{l:List Nat} {x:List Nat},x∈Iu l->∀v∈x,v∈l:=by
 intro z1
 induction z1 with
 | nil =>
  intro x h v hv;have:x=[]:=by simpa [Iu] using h
  subst this;(rcases hv with⟨⟩)
 | cons y r ih =>
  intro x h v hv;rw[AfX]at h;rcases BF.mp h with h | h
  ·refine Ah (BB.mp h) ?_;rintro z hz rfl;rcases AS.mp hv with rfl | hv
   ·exact .head _
   ·exact .tail _ (ih hz v hv)
  ·exact .tail _ (ih h v hv)
theorem Af5(h:vs∈DC)(hv:v∈vs):v<7:=by
 have:=Af4 h v hv;simp only[AS,Lx,or_false]at this;exact Ad4 this
theorem Ek.elems(r:Ek vs es.toList)(h:vs∈DC):ElemsOf (intKind prog w) es.toList:=λe he=>by
 refine AI (r.2 e he) ?_;rintro t ht;have hm:e.1∈es.toList.map (·.1):=Dl he;rw[r.1]at hm;refine Ah (BB.mp hm) ?_;rintro v hv e1;refine⟨⟨e.1,?_,?_⟩,?_⟩
 ·rw[ht];exact Nz _ _ _ _
 ·rw[<- e1,V6 (Af5 h hv)]
 ·rw[ht];rfl
theorem Ek.find(r:Ek vs es.toList)(v:Nat):(es.toList.findIdx? (λe=>(intKind prog w).is (v:Int) e.2)).isSome=vs.contains v:=by
 have key:∀e∈es.toList,(intKind prog w).is (v:Int) e.2=(e.1 == (v:Int)):=λe he=>by
  refine AI (r.2 e he) ?_;rintro t ht;rw[ht,KeyKind.is_eq_decide (k:=e.1) (Nz _ _ _ _)]
  by_cases q:(v:Int)=e.1
  ·rw[decide_eq_true q,<- q];simp
  ·rw[decide_eq_false q];simp[EF q]
 rw[List.findIdx?_isSome,Aae,Aoi,T2];constructor
 ·rintro⟨e,he,q⟩;rw[key e he,beq_iff_eq]at q;have hm:e.1∈es.toList.map (·.1):=Dl he;rw[r.1,q]at hm;refine Ah (BB.mp hm) ?_;rintro v' hv e1;have:v'=v:=Ad3 e1;exact this▸hv
 ·intro hv;have hm:(v:Int)∈vs.map (λv=>((v:Nat):Int)):=Dl hv;rw[<- r.1]at hm;refine Ah (BB.mp hm) ?_;rintro e he q;exact⟨e,he,by rw[key e he];simpa using q⟩
theorem Ek.insert(r:Ek vs es.toList){p:Nat}{tok:Tok}{vs':List Nat}(hp:p<=vs.length)(hvs:vs'=vs.take p++v::vs.drop p):Ek vs' (Fn es p ((v:Int),.int (v:Int) tok)).toList:=by
 have hl:=r.len;have e0:(Fn es p ((v:Int),.int (v:Int) tok)).toList=es.toList.take p++((v:Int),.int (v:Int) tok)::es.toList.drop p:=by
  unfold Fn;rw[Aoj,TQ,T3,T3];simp;exact T4 (by simp)
 rw[e0,hvs];refine⟨?_,λe he => ?_⟩
 ·rw[BJ,Bj,Aok,Aaf,r.1,BJ,Bj,Aok,Aaf]
 ·rcases BF.mp he with he | he
  ·exact r.2 e (Aol he)
  ·rcases AS.mp he with rfl | he
   ·exact⟨tok,rfl⟩
   ·exact r.2 e (List.mem_of_mem_drop he)
theorem Af6{t t':SetTable}{hs:Array Int}{wanted:Nat}{order:Array Nat}(h:t.relaid hs wanted=some (t',order)):t'.led=t.led:=by
 unfold SetTable.relaid SetTable.laid at h;rcases q:SetTable.layClean (SetTable.sizeAbove wanted-1) hs with _ | o
 ·rw[q]at h;(exfalso;injection h)
 ·rw[q]at h;have h':=Ay h;have:=congrArg (λx=>x.1.led) h';exact this.symm
theorem Mb{A:Type}{l:List A}(h:l.length=n+1):∃a r,l=a::r/\r.length=n:=by
 rcases l with _ | ⟨a,r⟩
 ·exfalso;injection h
 ·exact⟨a,r,rfl,Aag h⟩
theorem Af7{A:Type}{l:List A}(h:l.length=5):∃a b c d e,l=[a,b,c,d,e]:=by
 refine Ba (Mb h) ?_;rintro a l1 e1 h1;refine Ba (Mb h1) ?_;rintro b l2 e2 h2;refine Ba (Mb h2) ?_;rintro c l3 e3 h3;refine Ba (Mb h3) ?_;rintro d l4 e4 h4;refine Ba (Mb h4) ?_;rintro e l5 e5 h5;rcases l5 with _ | ⟨_,_⟩
 ·exact⟨a,b,c,d,e,by rw[e1,e2,e3,e4,e5]⟩
 ·exfalso;injection h5
set_option tactic.hygienic true in
theorem Af8{vs:List Nat}{es:Array (Int×Ad)}(hvs:vs∈DC)(hl:vs.length=5)(r:Ek vs es.toList)(led:Bool)(moves:Nat):∃moves',relayAll (C2 vs 7 led moves) es (Aof es.size)=(es,C2 vs 31 led moves',false):=by
 have hes:es.size=5:=by rw[<- Dt,r.len,hl]
 have z:=B0.mp (Af3 led moves) vs (GY.mpr ⟨hvs,by simpa using hl⟩)
 have eh:es.map (·.1)=(vs.map λv=>((v:Nat):Int)).toArray:=by
  apply Aom.mp;rw[Array.toList_map];exact r.1
 unfold relayAll;rw[hes,eh]
 split at z
 ·rename_i t order q;rw[q];have hled:=Af6 q;simp only[A9,beq_iff_eq]at z;refine At z ?_;clear z;rintro⟨⟨⟨⟨z1,z2⟩,z3⟩,z4⟩,z5⟩ z6;subst z6;have e2:(Aab 5).filterMap (es[·]?)=es:=by
   obtain⟨l⟩:=es;refine UA (Af7 hes) ?_;rintro a b c d e rfl;rfl
  dsimp only;have ht:t=C2 vs 31 led t.moves:=by
   rcases t with⟨a1,a2,a3,a4,a5,a6,a7⟩
   dsimp only at z1 z2 z3 z4 z5 hled;subst z1 z2 z3 z4 z5;rw[hled];rfl
  have hc:coversAll (Aab 5) 5=true:=by decide +kernel
  have hf:t.fits 5=true:=by
   rw[ht];have:=Ma hvs led t.moves hl.symm
   rwa [show C1 vs.length=31 by rw[hl];rfl]at this
  refine⟨t.moves,?_⟩;rw[e2,hes,hc,hf,if_pos (show(true && true)=true from rfl),<- ht]
 ·exfalso;injection z
theorem Iw(v:Nat):∀vs:List Nat,(CT v vs).length=vs.length+1:=by
 intro z1
 induction z1 with
 | nil =>
  exact rfl
 | cons x r ih =>
  rw[Oq]
  split
  ·rfl
  ·rw[BH,ih,BH]
theorem Af9{tok:Tok}{Q:Bool->Aq->Prop}(hv:v<7)(hS:KF s.heap a led vs)
  (h:∀h' b,T5 a s.heap h'->KF h' a led (F3 v vs)->Q b (put s h' (s.toks+1))):wpAny (model prog w) A (setAdd a (.int (v:Int) tok)) Q E s:=by
 refine CG hS ?_;clear hS;rintro es ep moves hvs r ho;have hvr:v∈As 7:=Do.mpr hv;have hz:vs.length<=7:=Js hvs;unfold setAdd;refine Dg (Aj ((intKind prog w).pyHash (k:=(v:Int)) (Nz _ _ _ _) ?_));have hf:=Ma (n:=es.size) hvs led moves (by rw[<- Dt,r.len])
 have hel:=r.elems (prog:=prog) (w:=w) hvs;unfold setAddHashed setAddHashedIn;refine Dg (Aj (NA (s:={ s with toks:=s.toks+1 }) ho rfl hf ?_))
 dsimp only;have hes:es.size=vs.length:=by rw[<- Dt,r.len]
 rw[byScan_of (knd:=intKind prog w) rfl (by unfold scanBound;exact Ad2 hz hes) hel]
 simp only[↓reduceIte];unfold setAddByScan;refine Aj (Aj (Aah ?_));refine Aj (wpAny_setScan_of (knd:=intKind prog w) (s:={ s with toks:=s.toks+1 }) (Nz _ _ _ _) ho rfl hf hel ?_)
 have hfind:=r.find (prog:=prog) (w:=w) v;rcases hr:List.findIdx? (λe=>(intKind prog w).is (v:Int) e.2) es.toList with _ | j
 ·rw[hr]at hfind ⊢;have hc:vs.contains v=false:=hfind.symm;have ha:F3 v vs=CT v vs:=by unfold F3;rw[hc];rfl
  have hsub:CT v vs∈DC:=by
   have:=B0.mp (B0.mp AfY vs hvs) v hvr;rw[T2,ha]at this;exact this
  have hfree:=B0.mp (B0.mp (AfZ led moves) vs hvs) v hvr;rw[hc,ZZ,beq_iff_eq]at hfree;have hpl:=B0.mp (B0.mp Af0 vs hvs) v hvr;rw[hc,ZZ,A9,decide_eq_true_eq,beq_iff_eq]at hpl;refine At hpl ?_;clear hpl;rintro hp1 hp2;dsimp only;rw[V6 hv];have hput:(C2 vs (C1 vs.length) led moves).put v=(C2 (CT v vs) (C1 vs.length) led moves,Ej vs v):=by
   unfold SetTable.put;have e1:SetTable.has (C2 vs (C1 vs.length) led moves).dummies v=false:=rfl;rw[e1];have e2:Fn vs.toArray (Ej vs v) v=(CT v vs).toArray:=by
    apply Aom.mp;rw[hp2];unfold Fn;rw[Aoj,TQ,T3,T3];simp;exact T4 (by simp)
   show({ (C2 vs (C1 vs.length) led moves)with place:=Fn vs.toArray (Ej vs v) v,dummies:=#[] },Ej vs v)=_
   rw[e2];rfl
  have r':Ek (CT v vs) (Fn es (Ej vs v) ((v:Int),.int (v:Int) tok)).toList:=r.insert hp1 hp2;have hsz':(Fn es (Ej vs v) ((v:Int),.int (v:Int) tok)).size=vs.length+1:=by rw[<- Dt,r'.len,Iw]
  have hfit1:(C2 (CT v vs) (C1 vs.length) led moves).fits (vs.length+1)=true:=by
   have hz':vs.length+1<=7:=by rw[<- Iw v vs];exact Js hsub
   unfold Aog T0 C2 C1;simp only[J8,Iw,DL,Aac,beq_self_eq_true,Aad,decide_eq_true_eq]
   by_cases q:vs.length<5
   ·rw[if_pos q];exact hz'
   ·rw[if_neg q];exact AC hz' (by decide)
  have hlay:layNew (C2 vs (C1 vs.length) led moves) es (v:Int) (.int (v:Int) tok)=(Fn es (Ej vs v) ((v:Int),.int (v:Int) tok),C2 (CT v vs) (C1 vs.length) led moves,false,false):=by
   unfold layNew;rw[hfree];dsimp only;rw[hput];dsimp only;unfold SetTable.orStandIn;rw[hsz',hfit1];rfl
  rw[hlay];dsimp only;refine Aj (AB ?_);have hpl:(C2 (CT v vs) (C1 vs.length) led moves).plain=true:=rfl;rw[hpl];simp only[↓reduceIte];refine Aj ?_;rw[hashByValue_scannable 8 rfl];refine AB ?_;simp only[show plainKind (GZ (v:Int) tok)=true from rfl,↓reduceIte];show wpAny _ _ (storeSet a (Fn es (Ej vs v) ((v:Int),.int (v:Int) tok)) (C2 (CT v vs) (C1 vs.length) led moves) >>= _) _ _ _;refine Aj (Aon (s:={ s with toks:=s.toks+1 }) ho rfl ?_ (by rw[hsz',FN];exact Ad1 hz))
  have ho1:=NB (Aai (Fn es (Ej vs v) ((v:Int),.int (v:Int) tok)) (C2 (CT v vs) (C1 vs.length) led moves)) ho rfl;have hsb1:=TS s.heap a (Aai (Fn es (Ej vs v) ((v:Int),.int (v:Int) tok)) (C2 (CT v vs) (C1 vs.length) led moves))
  by_cases h5:vs.length=4
  ·have hm:C1 vs.length=7:=by rw[h5];rfl
   have hl5:(CT v vs).length=5:=by rw[Iw,h5]
   have htf:(!false && (C2 (CT v vs) (C1 vs.length) led moves).tooFull)=true:=by
    rw[hm];unfold Aoo T0 C2;simp[hl5]
   rw[if_pos htf];rw[hm]at ho1 hsb1 ⊢;refine AI (Af8 hsub hl5 r' led moves) ?_;rintro moves' hre;rw[hre];refine Aj (AB ?_);refine Aj (Aon ho1 rfl ?_ (by rw[hsz',FN];exact Ad0 h5))
   have ho2:=NB (Aai (Fn es (Ej vs v) ((v:Int),.int (v:Int) tok)) (C2 (CT v vs) 31 led moves')) ho1 rfl;refine AB (AB (h _ _ (hsb1.trans (TS _ a _)) ⟨Fn es (Ej vs v) ((v:Int),.int (v:Int) tok),ep+1+1,moves',?_,?_,?_⟩))
   ·rw[ha];exact hsub
   ·rw[ha];exact r'
   ·rw[ha];unfold Os;rw[show C1 (CT v vs).length=31 by rw[hl5];rfl];exact ho2
  ·have htf:(!false && (C2 (CT v vs) (C1 vs.length) led moves).tooFull)=false:=by
    have hz':vs.length+1<=7:=by rw[<- Iw v vs];exact Js hsub
    unfold Aoo T0 C2 C1;simp only[J8,Iw,DL,Aac,Bool.not_false,Aad,decide_eq_false_iff_not];exact(show ∀n,n<7->n≠4->¬(n+1)*5 ≥ (if n<5 then 7 else 31)*3 by decide) _ hz' h5
   rw[if_neg (by rw[htf];decide)]
   refine AB (AB (h _ _ hsb1 ⟨Fn es (Ej vs v) ((v:Int),.int (v:Int) tok),ep+1,moves,?_,?_,?_⟩))
   ·rw[ha];exact hsub
   ·rw[ha];exact r'
   ·have hm:C1 (CT v vs).length=C1 vs.length:=by
     rw[Iw];unfold C1;exact(show ∀n,n<7->n≠4->(if n+1<5 then 7 else 31)=(if n<5 then 7 else 31)by decide) _ (show vs.length+1<=7 by rw[<- Iw v vs];exact Js hsub) h5
    rw[ha];unfold Os;rw[hm];exact ho1
 ·rw[hr]at hfind ⊢;have hc:vs.contains v=true:=hfind.symm;refine AB (AB ?_);refine h s.heap _ (Heap.SameBut.refl a s.heap) ⟨es,ep,moves,?_,?_,?_⟩
  ·unfold F3;rw[if_pos hc];exact hvs
  ·unfold F3;rw[if_pos hc];exact r
  ·unfold F3;rw[if_pos hc];exact ho
end
end
section
set_option maxHeartbeats 1000000
noncomputable def F4(val:Nat->Nat):Nat->List Nat
 | 0=>[]
 | i+1=>F3 (val i) (F4 val i)
noncomputable def Da(w:B5):Bool := !w.params.followText "set-order"
section
variable {prog:CC}{w:B5}{A:CD}{R:GO->Aq->Prop}{I:Af}{fp wr:List Af}{G:Array Ng->Array Ng->Prop}{n:Nat}{P:Nat->Ad->Prop}{St:Nat->Aq->Prop}
theorem Aga{led:Bool}(W:WalksS prog w A.in1 I fp wr G n P St)(S:Af)(hSf:S∉fp)(val:Nat->Nat)(hval:∀i v,P i v->∃t,v=.int (val i:Int) t)(h7:∀i,i<n->val i<7) :
  ∀(k i:Nat) (s:Aq),n-i=k->i<=n->St i s->KF s.heap S led (F4 val i)->(∀s',Moved (S::wr) G s s'->KF s'.heap S led (F4 val n)->R (.ok (.ret .none)) s') ->
   codeAny (model prog w) A (.builtin "set.update.loop" ⟨[.ref S,.ref I],[]⟩) R s:=by
 have hSw:S∉wr:=λh=>hSf (W.sub _ h);have hsub:∀b∈wr,b∈S::wr:=λb hb=>FO _ hb;intro k
 induction k with
 | zero =>
  intro i s hk hi hst hS hR;have hin:i=n:=Vh hk hi;subst hin;refine ND Aop ?_;rw[P3 Aaj _];show wpAny _ A.in1 (pyNext (.ref I) >>= _) _ _ s;refine Aj (W.done s _ _ hst λs' hm => ?_);show wpAny _ A.in1 (PySem.ret FP) _ _ s';refine CG hS ?_;clear hS;rintro es ep mv h1 h2 ho;exact AB (hR s' (hm.mono hsub) ⟨es,ep,mv,h1,h2,hm.heap S _ hSw ho⟩)
 | succ k ih =>
  intro i s hk hi hst hS hR;have hlt:i<n:=Vg hk;refine ND Aop ?_;rw[P3 Aaj _];show wpAny _ A.in1 (pyNext (.ref I) >>= _) _ _ s;refine Aj (W.item i s _ _ hlt hst λv s' hP hst' hm => ?_);refine AI (hval i v hP) ?_;rintro t rfl;refine CG hS ?_;clear hS;rintro es ep mv h1 h2 ho;have hS':KF s'.heap S led (F4 val i):=⟨es,ep,mv,h1,h2,hm.heap S _ hSw ho⟩;show wpAny _ A.in1 (holding [GZ (val i) t] (setAdd S (.int (val i) t)) >>= _) _ _ s';refine Aj (Dg ?_);refine Af9 (h7 i hlt) hS' λh' b hsb hSi => ?_;refine AB ⟨T6 Aaj _,ih (i+1) _ (Ve hk) hlt (W.frame _ s' _ _ hst' (Hw _) λb hb o e => ?_) hSi λs'' hm'' hS'' => ?_⟩
  ·rw[hsb.2 b (λh:b=S=>hSf (by rw[<- h];exact hb))];exact e
  ·refine hR s'' (Moved.trans W.gtrans ((hm.mono hsub).then_heap (Hw _) λb o hb e => ?_) hm'') hS'';rw[hsb.2 b (λh:b=S=>hb (by rw[h];exact Dh))];exact e
end
section
variable {prog:CC}{w:B5}{A:CD}{E:Ad->Aq->Prop}{s:Aq}
theorem Agb(a:Ad){Q₁:Ad->Aq->Prop}
  (h:Q₁ (.ref s.heap.objs.size) { s with heap:=s.heap.push { cls:=.type "set",dict:=none,data:=.set #[] 0 (.fresh 0 0 (Da w)) } }) :
  codeAny (model prog w) A (.call (.builtin "set.__new__") ⟨[.type "set",a],[]⟩) (wants Q₁ E) s:=by
 refine Aak ?_;show wpAny _ A.in1 (do Aal "set.__new__" ⟨[.type "set",a],[]⟩;again (.builtin "set.__new__" ⟨[.type "set",a],[]⟩)) _ _ s
 refine Aj (wpAny_of_eq (F.newCall_set_1 a) (AB ⟨T6 Aoq _,ND F.entry_set_new ?_⟩));rw[P3 Aoq _];unfold Builtin.«set.__new__» Builtin.Frozenset.newClass;have hsub:=sub_set_self;rcases s with⟨hp,g,d,tk,os⟩
 dsimp only
 wp_walk
 refine NE (AB ?_);dsimp only;simp only[newObj];refine Aj (wpAny_alloc (AB ?_));exact AB h
set_option tactic.hygienic true in
theorem Agc{T newId initId:String}{args:List Ad}{Q₁:Ad->Aq->Prop}(ft:TypeCalled T newId initId)(hct:checkTypeCall T ⟨args,[]⟩=pure ())
  (hnew:codeAny (model prog w) A.in1 (.call (.builtin newId) ⟨.type T::args,[]⟩) (wants Q₁ E) s)
  (hnext:∀obj s₁,Q₁ obj s₁->s₁.TypeIs obj T/\codeAny (model prog w) A.in1 (.call (.builtin initId) ⟨obj::args,[]⟩) (wants (λr s₂=>r=.none/\Q obj s₂) E) s₁) :
  wpAny (model prog w) A (call (.type T) args) Q E s:=by
 refine HA ft.mro ?_;rintro c tl hmro;have hmade:=ft.made;have hsub:=ft.sub;refine J9 (Aak ?_);show wpAny _ _ (callAny (.type T) _) _ _ _;refine AB ⟨Aam _ (by decide +kernel),ND F.entry_type_call ?_⟩
 rw[Around.under_plain (weight_type_call_type T args []) rfl];have h1:=ft.notType;have h2:=ft.canCreate
 repeat (any_goals (first | assumption | wp_step))
 refine Aan hnew λr s₁ hr => ?_;rcases r with e | fl
 ·exact hr
 ·rcases fl with _ | _ | _ | obj
  case ret =>
   refine At (hnext _ _ hr) ?_;rintro hT hsi;have hli:=ft.init.lookup;have hbi:=ft.init.bind obj
   repeat (any_goals (first | assumption | wp_step))
   refine Aan hsi λr₂ s₂ hr₂ => ?_;rcases r₂ with e | fl₂
   ·exact hr₂
   ·rcases fl₂ with _ | _ | _ | r
    case ret =>
     refine At hr₂ ?_;clear hr₂;rintro rfl hq
     repeat (any_goals (first | assumption | wp_step))
    all_goals exact hr₂.elim
  all_goals exact hr.elim
theorem Agd{l:Af}{val:Nat->Nat}(hh:A.handled=none)(hl:s.heap.IsList l items)(hval:∀(i:Nat) (v:Ad),items[i]? = some v->∃t:Tok,v=GZ (val i:Int) t)(h7:∀i,i<items.size->val i<7)
  (h:∀(h':AY) (tk:Nat),KF h' s.heap.objs.size (Da w) (F4 val items.size)->(∀b o,b<s.heap.objs.size->s.heap.get? b=some o->h'.get? b=some o)->Q (.ref s.heap.objs.size) (put s h' tk)) :
  wpAny (model prog w) A (call (.type "set") [.ref l]) Q E s:=by
 refine Agc (Q₁:=λobj s₁=>obj=.ref s.heap.objs.size/\s₁={ s with heap:=s.heap.push { cls:=.type "set",dict:=none,data:=.set #[] 0 (.fresh 0 0 (Da w)) } }) F.called_set (F.typeCall_set_1 _) (Agb (.ref l) ⟨rfl,rfl⟩) λobj s₁ h₁ => ?_
 refine At h₁ ?_;clear h₁;rintro rfl rfl;have hS:(s.heap.push { cls:=.type "set",dict:=none,data:=.set #[] 0 (.fresh 0 0 (Da w)) }).get? s.heap.objs.size=some { cls:=.type "set",dict:=none,data:=.set #[] 0 (.fresh 0 0 (Da w)) }:=Jc _ rfl;have hT:Aao { s with heap:=s.heap.push { cls:=.type "set",dict:=none,data:=.set #[] 0 (.fresh 0 0 (Da w)) } } (.ref s.heap.objs.size) "set" := ⟨_,hS,rfl⟩
 refine⟨hT,T7 F.called_set.init.plain F.entry_set_init (check_set_init_1 hT ?_)⟩;rcases id hl with⟨ol,hol,hcl,nl,hdl⟩
 have hlS:l<s.heap.objs.size:=Bz hol;have hl1:(s.heap.push { cls:=.type "set",dict:=none,data:=.set #[] 0 (.fresh 0 0 (Da w)) }).IsList l items:=hl.push _;have hTl:Aao { s with heap:=s.heap.push { cls:=.type "set",dict:=none,data:=.set #[] 0 (.fresh 0 0 (Da w)) } } (.ref l) "list" := ⟨_,Ed _ hol,hcl⟩
 unfold Builtin.«set.__init__»;refine Aj (AB ?_);refine Aj ?_;unfold typeNameOfCut shownTypeOf;refine Aj (Aj (NF hT ?_));simp only[show(EC "set" == EC "builtin_function_or_method")=false by decide,Jd,if_false]
 refine AB ?_;have e:typeNameCut 200 (.type "set")=pure "set" := by unfold typeNameCut typeName;rw[find?_eq_fast];kernel_rfl
 rw[e];refine AB (Aj (AB ?_));refine Aj (AB ?_);refine Aj ?_;unfold setUsed;refine Aj (NA hS rfl rfl (AB ?_));refine P4 (λq=>absurd q (show ¬(false=true)from Cw)) (λz => ?_);refine Aj ?_;unfold Builtin.Frozenset.updateFrom;have hs1:GV (.type "list") (.type "set")=pure false:=F.sub_list_set;have hs2:GV (.type "list") (.type "frozenset")=pure false:=F.sub_list_frozenset;refine Aj (Aj (NG hTl hs1 ?_));show wpAny _ _ (Ka (.ref l) (.type "frozenset")) _ _ _;refine NG hTl hs2 ?_;rw[if_neg (by decide)]
 refine Aj (NF hTl ?_);rw[if_neg (by decide)]
 refine Aj (Aap hl1 ?_);refine Aj (wpAny_runValue ?_);have hh3:A.in1.in1.in1.handled=none:=by simp[hh]
 have hneI:l≠(s.heap.push { cls:=.type "set",dict:=none,data:=.set #[] 0 (.fresh 0 0 (Da w)) }).objs.size:=by
  rw[P5];exact B6 (NH hlS)
 have hSf:s.heap.objs.size∉[(s.heap.push { cls:=.type "set",dict:=none,data:=.set #[] 0 (.fresh 0 0 (Da w)) }).objs.size,l]:=by
  rw[P5];simp only[AS,Cr,Lx,or_false,not_or];exact⟨B6 (Je _),Ly hlS⟩
 refine Aga (led:=Da w) ((Walks.list hh3 _ l hneI items).toS) s.heap.objs.size hSf val hval h7 (items.size-0) 0 _ (Vd) (Gl _) ⟨⟨_,Jc _ rfl,rfl,rfl⟩,(hl1.push _)⟩
  ⟨#[],0,0,show([]:List Nat)∈DC by decide,⟨rfl,λe he=>by rcases he with⟨⟩⟩,Ed _ hS⟩ λs' hm hS' => ?_
 rcases s' with⟨h',g',d',tk',os'⟩
 have eg:g'=s.gens:=hm.gens;have ed:d'=s.drawn:=hm.drawn;have eo:os'=s.os:=hm.os;subst eg;subst ed;subst eo;refine AB (AB ⟨rfl,h h' tk' hS' λb o hb e => ?_⟩);have hb1:b≠s.heap.objs.size:=B6 hb;have hb2:b≠(s.heap.push { cls:=.type "set",dict:=none,data:=.set #[] 0 (.fresh 0 0 (Da w)) }).objs.size:=by
  rw[P5];exact B6 (NH hb)
 exact hm.heap b o (by simp only[AS,Lx,or_false,not_or];exact⟨hb1,hb2⟩) (Ed _ (Ed _ e))
end
end
section
set_option maxHeartbeats 1000000
set_option tactic.hygienic true in
theorem KG:Slot "set_iterator" "__next__" "set_iterator.__next__" :=
 .of (owner := "set_iterator") (n := "__next__") (by rw[Aaq,Aar];kernel_rfl) (by decide +kernel) (by decide +kernel) (by decide +kernel)
  (by first | exact .inl (by decide +kernel) | exact .inr (by decide +kernel)) (by rw[Aas];kernel_rfl)
set_option tactic.hygienic true in
theorem V7:entryFor table "set_iterator.__next__" = some Builtin.«set_iterator.__next__»:=Aor (by kernel_rfl)
set_option tactic.hygienic true in
theorem V8(a:Ad):argsOk "set_iterator.__next__" ⟨[a],[]⟩:=by unfold argsOk;kernel_rfl
theorem V9:Slot "set_iterator" "__iter__" "set_iterator.__iter__" :=
 .of (owner := "set_iterator") (n := "__iter__") (by rw[Aaq,Aar];kernel_rfl) (by decide +kernel) (by decide +kernel) (by decide +kernel)
  (by first | exact .inl (by decide +kernel) | exact .inr (by decide +kernel)) (by rw[Aas];kernel_rfl)
theorem Age:entryFor table "set_iterator.__iter__" = some Builtin.«dict_keyiterator.__iter__»:=Aos (id' := "dict_keyiterator.__iter__") (by kernel_rfl) rfl (by decide +kernel) (by kernel_rfl)
theorem Agf(a:Ad):argsOk "set_iterator.__iter__" ⟨[a],[]⟩:=by unfold argsOk;kernel_rfl
theorem Agg:entryFor table "set.__iter__" = some Builtin.«frozenset.__iter__»:=Aos (id' := "frozenset.__iter__") (by kernel_rfl) rfl (by decide +kernel) (by kernel_rfl)
theorem Agh:∀(l:List α) (i:Nat) (h:i<l.length),(l[i]::l.eraseIdx i).Perm l:=by
 intro z1
 induction z1 with
 | nil=>intros;contradiction
 | cons x r ih =>
  intro z2;rcases z2 with _ | i
  ·intro z3;exact .refl _
  ·intro h;rw[List.eraseIdx_cons_succ,List.getElem_cons_succ];exact(An3 _ _ _).trans (.cons _ (ih i (by simpa using h)))
set_option tactic.hygienic true in
theorem Agi{next:Nat->Nat}{fuel k:Nat}{left:List α}{out:Array α}{x:α}(h:left[next k % left.length]? = some x):T8 next (fuel+1) k left out=T8 next fuel (k+1) (left.eraseIdx (next k % left.length)) (out.push x):=by
 show(match left[next k % left.length]? with
  | some x=>T8 next fuel (k+1) (left.eraseIdx (next k % left.length)) (out.push x)
  | none=>out)=_
 rw[h]
set_option tactic.hygienic true in
theorem Agj(next:Nat->Nat)(xs:Array α):(Aat next xs).toList.Perm xs.toList:=by
 have key:∀(fuel k:Nat) (left:List α) (out:Array α),left.length=fuel->(T8 next fuel k left out).toList.Perm (out.toList++left):=by
  intro fuel
  induction fuel with
  | zero =>
   intro k left out h;rw[Z6.mp h,Dn];exact .refl _
  | succ n ih =>
   intro k left out h;have hp:0<left.length:=Ad6 h;have hlt:next k % left.length<left.length:=Nat.mod_lt _ hp
   rw[Agi (Cc hlt)];refine(ih (k+1) _ _ (by rw[List.length_eraseIdx_of_lt hlt];exact Ad5 h)).trans ?_
   rw[TQ,FQ];refine List.Perm.append_left _ ?_;exact Agh _ _ hlt
 exact key xs.size 0 xs.toList #[] (by simp)
noncomputable def E6(w:B5)(r:Af)(ep:Nat)(es:Array (Int×Ad)):Array (Int×Ad):=if w.params.followText "set-order" = true then Aat (w.params.setOrder r ep) es else es
theorem QX(w:B5)(r:Af)(ep:Nat)(es:Array (Int×Ad)):(E6 w r ep es).toList.Perm es.toList:=by
 unfold E6
 split
 ·exact Agj _ _
 ·exact .refl _
noncomputable def Dp(w:B5)(vs:List Nat)(i:Nat):Nat:=if w.params.followText "set-order" = true then 0 else match i with
 | 0=>0
 | i+1=>(vs[i]?).getD 0+1
def QY(w:B5)(h:AY)(I r:Af)(vs:List Nat)(ep i:Nat):Prop:=∃o:AR,h.get? I=some o/\o.cls=.type "set_iterator" /\ o.data=.fields #[.int (Dp w vs i:Int) 0,.int (i:Int) 0,.ref r,.int (vs.length:Int) 0,.int (ep:Int) 0]
def WN(w:B5)(h:AY)(I r:Af)(vs:List Nat)(es:Array (Int×Ad))(ep i:Nat):Prop:=QY w h I r vs ep i/\Iv h r (Da w) vs es ep
end
section
set_option maxHeartbeats 1000000
section
variable {prog:CC}{w:B5}{A:CD}{E:Ad->Aq->Prop}{s:Aq}{I r:Af}{vs:List Nat}{es:Array (Int×Ad)}{ep i:Nat}
set_option tactic.hygienic true in
theorem Agk(hS:Iv s.heap r (Da w) vs es ep)(hi:i<=vs.length){Q:Option (Ad×Nat)->Aq->Prop}
  (h:Q (((E6 w r ep es)[i]?).map λe=>(e.2,Dp w vs (i+1))) s):wpAny (model prog w) A (setNext r (Dp w vs i) i ep) Q E s:=by
 refine AE hS ?_;clear hS;rintro moves hvs R ho;have hf:=Ma (n:=es.size) hvs (Da w) moves (by rw[<- Dt,R.len])
 have hes:es.size=vs.length:=by rw[<- Dt,R.len]
 unfold setNext;refine Aj (NA ho rfl hf ?_);dsimp only;unfold Aau;refine Aj (Aj (NE (AB ?_)));dsimp only;rcases hb:w.params.followText "set-order" with _ | _
 ·have e1:(model prog w).w.params.followText "set-order" = false:=hb;rw[e1,if_neg (by decide)]
  have hl:Da w=true:=by unfold Da;rw[hb];rfl
  refine P4 (λq=>absurd q (show ¬(false=true)from Cw)) (λz => ?_);refine Aj ?_;show wpAny _ _ (if(!(Da w) && !es.isEmpty)=true then unsupported "set:maker-not-led" else Nk ()) _ _ _;rw[hl,if_neg (show ¬((!true && !es.isEmpty)=true)from Cw)];refine AB ?_;have e2:E6 w r ep es=es:=by unfold E6;rw[if_neg (by rw[hb];decide)]
  have hbel:Ny vs.toArray (Dp w vs i)=i:=by
   unfold Dp;rw[if_neg (by rw[hb];decide)]
   rcases i with _ | j
   ·have:=B0.mp sub_zero vs hvs
    simpa using this
   ·have hj:j<vs.length:=hi;have:=B0.mp (B0.mp Af1 vs hvs) j (Do.mpr (EX hj (Js hvs)));rw[Cc hj]at this;dsimp only;rw[Cc hj]
    simpa using this
  show wpAny _ _ (Nk (match es[Ny vs.toArray (Dp w vs i)]?,vs.toArray[Ny vs.toArray (Dp w vs i)]? with
   | some (_,x),some j=>some (x,j+1)
   | _,_=>none)) _ _ _
  rw[hbel];rw[e2]at h;refine AB ?_;rcases ZH i vs.length with hlt | hge
  ·have hlt':i<es.size:=by rw[hes];exact hlt
   rw[TJ hlt',List.getElem?_toArray,Cc hlt];rw[TJ hlt']at h;have e3:Dp w vs (i+1)=vs[i]+1:=by
    unfold Dp;rw[if_neg (by rw[hb];decide)]
    dsimp only;rw[Cc hlt];rfl
   rw[e3]at h;exact h
  ·rw[Aot (by rw[hes];exact hge)]at h ⊢
   exact h
 ·have e1:(model prog w).w.params.followText "set-order" = true:=hb;rw[e1,if_pos rfl,if_neg (by simp)]
  unfold setWalk;refine Aj (Aj (NA ho rfl hf ?_));dsimp only;unfold Aau;refine Aj (Aj (NE (AB ?_)));dsimp only;rw[e1,if_pos rfl];refine Aj (NE (AB ?_));refine AB ?_;have e2:E6 w r ep es=Aat (w.params.setOrder r ep) es:=by unfold E6;rw[if_pos hb]
  rw[e2]at h;have e3:Dp w vs i=Dp w vs (i+1):=by unfold Dp;rw[if_pos hb,if_pos hb]
  rw[e3];exact h
theorem QY.typeIs(h:QY w s.heap I r vs ep i):s.TypeIs (.ref I) "set_iterator" := let ⟨o,ho,hc,_⟩:=h;⟨o,ho,hc⟩
theorem Iv.keep{h:AY}{led:Bool}(hS:Iv h r led vs es ep)(k:∀o,h.get? r=some o->h'.get? r=some o):Iv h' r led vs es ep:=by
 refine AE hS ?_;clear hS;rintro moves h1 h2 h3;exact⟨moves,h1,h2,k _ h3⟩
theorem Wa(hW:WN w s.heap I r vs es ep i)(hi:i<=vs.length){Q:PySem.Fin->Aq->Prop}
  (hn:(E6 w r ep es)[i]? = none->wpAny (model prog w) A (setField (.ref I) 2 .none) (λq s'=>wpAny (model prog w) A (newExc (.type "StopIteration") []) (λe s''=>wpAny (model prog w) A (raiseNew e:Sem PySem.Fin) Q E s'') E s') E s)
  (hs:∀e,(E6 w r ep es)[i]? = some e->wpAny (model prog w) A (setField (.ref I) 0 (rawInt (Dp w vs (i+1)))) (λq s'=>wpAny (model prog w) A (setField (.ref I) 1 (rawInt ((i:Int)+1))) (λq s''=>Q (.done (.ret e.2)) s'') E s') E s) :
  wpAny (model prog w) A (Builtin.«set_iterator.__next__» ⟨[.ref I],[]⟩) Q E s:=by
 refine At hW ?_;clear hW;rintro⟨o,ho,hc,hd⟩ hS;refine AE (id hS) ?_;rintro moves hvs R hr;have hes:es.size=vs.length:=by rw[<- Dt,R.len]
 have hf:=Ma (n:=es.size) hvs (Da w) moves hes;unfold Builtin.«set_iterator.__next__»;refine Aj (AB ?_);refine Aj (wpAny_fieldsOf ho hd ?_);dsimp only;refine Aj (Aou hr rfl hf ?_);rw[if_neg (by rw[hes];simp)]
 rw[show((Dp w vs i:Int)).toNat=Dp w vs i from P6 _,show((i:Int)).toNat=i from P6 _,show((ep:Int)).toNat=ep from P6 _];refine Aj (Agk hS hi ?_);rcases hq:(E6 w r ep es)[i]? with _ | e
 ·exact Aj (Kb (hn hq) (λq q z=>Aj z) λq q z=>z)
 ·exact Aj (Kb (hs e hq) (λq q z=>Aj (Kb z (λq q y=>AB y) λq q y=>y)) λq q z=>z)
end
end
section
set_option maxHeartbeats 1000000
section
variable {prog:CC}{w:B5}{A:CD}{E:Ad->Aq->Prop}{s:Aq}{I r:Af}{vs:List Nat}{es:Array (Int×Ad)}{ep i:Nat}
theorem Ot(R:Ek vs es.toList):(E6 w r ep es).size=vs.length:=by
 rw[<- Dt,(QX w r ep es).length_eq,R.len]
set_option tactic.hygienic true in
theorem WN.walks(hh:A.handled=none)(I r:Af)(hne:r≠I)(vs:List Nat)(es:Array (Int×Ad))(ep:Nat) :
  Walks prog w A I [I,r] [I] vs.length (λi v=>∃e,(E6 w r ep es)[i]? = some e/\v=e.2) (λi h=>WN w h I r vs es ep i) where
 sub:=λb hb=>by simp at hb;simp[hb]
 frame:=λi h h' st hk=>⟨let ⟨o,ho,q⟩:=st.1;⟨o,hk I (by simp) o ho,q⟩,st.2.keep λo e=>hk r (by simp) o e⟩
 item:=λi s Q E hi st hQ=>by
  refine AE (id st.1) ?_;rintro o ho hc hd;have hR:Ek vs es.toList:=let ⟨_,_,h,_⟩:=st.2;h
  unfold pyNext;refine Aj (P7 (Aov (name:=Ab "__next__") st.1.typeIs KG (T9 KG st.1.typeIs V7 ?_ (V8 _))));refine Wa st (Dz hi) (λq => ?_) λe he => ?_
  ·rw[TJ (by rw[Ot hR];exact hi)]at q;(exfalso;injection q)
  ·refine NI ho hd (by simp) ?_
   have hd1:=P8 hd (·.setIfInBounds 0 (rawInt (Dp w vs (i+1))));have ho1:=NB (Hy (·.setIfInBounds 0 (rawInt (Dp w vs (i+1))))) ho (Ua hd1);refine NI ho1 hd1 (by simp) ?_
   have hd2:=P8 hd1 (·.setIfInBounds 1 (rawInt ((i:Int)+1)));have ho2:=NB (Hy (·.setIfInBounds 1 (rawInt ((i:Int)+1)))) ho1 (Ua hd2);have oth:∀b,b≠I->((s.heap.update I (Hy (·.setIfInBounds 0 (rawInt (Dp w vs (i+1)))))).update I (Hy (·.setIfInBounds 1 (rawInt ((i:Int)+1))))).get? b=s.heap.get? b:=λb hb=>by
    rw[NJ _ _ (EF hb),NJ _ _ (EF hb)]
   refine⟨_,rfl,AB (hQ _ _ s.toks ⟨e,he,rfl⟩ ⟨⟨_,ho2,?_,?_⟩,st.2.keep λo e=>(oth r hne).trans e⟩ λb o hb e=>(oth b λh=>hb (by simp[h])).trans e)⟩
   ·rw[Aav,Aav];exact hc
   ·rw[hd2];simp[rawInt]
 done:=λs Q E st hQ=>by
  refine AE (id st.1) ?_;rintro o ho hc hd;have hR:Ek vs es.toList:=let ⟨_,_,h,_⟩:=st.2;h
  unfold pyNext;refine Aj (P7 (Aov (name:=Ab "__next__") st.1.typeIs KG (T9 KG st.1.typeIs V7 ?_ (V8 _))));refine Wa st (AK _) (λq => ?_) λe he => ?_
  ·refine NI ho hd (by simp) ?_
   simp only[newExc,newTuple];refine Aj (Nu ?_ (by size_fits))
   refine Aj (m:=Aow _ _) (wpAny_of_eq (a:=FP) (by first | rfl | (simp only[Aow];rfl)) ?_)
   refine Nu ?_ (by size_fits)
   unfold raiseNew;refine Aj (wpAny_handled ?_);rw[show A.in1.handled=none from hh];refine Aj (AB (wpAny_throw ?_));refine Aj (NG (T := "StopIteration") (b:=true) ⟨_,Jc _ rfl,rfl⟩ isSubtype_stop ?_);exact AB (hQ _ _ λb o hb e=>(((TS ..).extBut.push _).push _) b o (λh=>hb (by simp[h])) e)
  ·rw[Aot (by rw[Ot hR];exact AK _)]at he;(exfalso;injection he)
 self:=λi s Q E st hQ=>by
  refine Aox st.1.typeIs V9 (T9 V9 st.1.typeIs Age ?_ (Agf _));show wpAny _ _ (PySem.ret (.ref I)) _ _ s;exact AB ⟨_,rfl,"set_iterator",_,st.1.typeIs,KG.lookup,hQ⟩
theorem Agl{Q:Bool->Aq->Prop}(hT:s.TypeIs (.ref r) "set")(h:Q false s):wpAny (model prog w) A (Aoy (.ref r)) Q E s:=by
 unfold Aoy;refine Aj (wpAny_specialOf hT F.slot_set_len.lookup ?_)
 generalize hid:("set.__len__" : String)=id0
 wp_delta
 rw[show splitId id0=some ("set","__len__")from by subst hid;decide +kernel]
 subst hid;refine Aj (NG (T := "set") (b:=true) hT (by rw[Aas];kernel_rfl) ?_)
 refine P4 (λhab=>absurd hab (by decide)) (λz => ?_)
 refine P4 (λz => ?_) (λhab=>absurd (by decide +kernel) hab)
 refine Aj (NF hT ?_);exact AB h
theorem Agm:KdlSrc prog w "set" r r vs.length (λi v=>∃e,(E6 w r ep es)[i]? = some e/\v=e.2) (λh=>Iv h r (Da w) vs es ep) where
 type:=λs hm=>let ⟨_,_,_,ho⟩:=hm;⟨_,ho,rfl⟩
 there:=λh hm=>let ⟨_,_,_,ho⟩:=hm;⟨Bz ho,Bz ho⟩
 keep:=λh h' hm hk=>hm.keep λo e=>hk r (.inl rfl) o e
 notList:=by decide
 notTuple:=by decide
 hint:=λA E s Q hm hq=>Agl (let ⟨_,_,_,ho⟩:=hm;⟨_,ho,rfl⟩) hq
 iter:=λA s hh hm=>by
  refine AE (id hm) ?_;rintro moves hvs hR ho;have hlt:=Bz ho;refine⟨{ cls:=.type "set_iterator",data:=.fields #[.int 0 0,.int 0 0,.ref r,.int vs.length 0,.int ep 0] },λi h=>WN w h s.heap.objs.size r vs es ep i,λE Q hq => ?_,WN.walks hh _ r (B6 hlt) vs es ep,⟨⟨_,Jc _ rfl,rfl,?_⟩,hm.keep λo e=>Ed _ e⟩⟩
  ·have hT:s.TypeIs (.ref r) "set" := ⟨_,ho,rfl⟩;have hes:es.size=vs.length:=by rw[<- Dt,hR.len]
   have hf:=Ma (n:=es.size) hvs (Da w) moves hes;refine Aox hT Aoz (T9 Aoz hT Agg ?_ (F.args_set_iter_1 _));unfold Builtin.«frozenset.__iter__»;refine Aj ?_;unfold Builtin.Frozenset.slot0 slotArgs;simp only[List.isEmpty_nil,Ub,Jd,↓reduceIte,bind_assoc,DL,bne_self_eq_false];unfold Builtin.Frozenset.addrOf;refine Aj (AB ?_)
   try dsimp only
   refine AB ?_;unfold Builtin.Frozenset.sizeOf;refine Aj (Aj (Aou ho rfl hf (AB ?_)));unfold setDrawn;refine Aj (Aj (NA ho rfl hf ?_));unfold Aau;refine Aj (Aj (NE (AB ?_)));refine AB ?_;refine P4 (λq=>absurd q (show ¬((!w.params.followText "set-order" && false)=true)by rw[Nl];exact Cw)) (λz => ?_)
   refine Aj (AB ?_);unfold setEpoch;refine Aj (Aj (NA ho rfl hf (AB ?_)));refine Aj (Nu (AB ⟨_,rfl,"set_iterator",_,⟨_,Jc _ rfl,rfl⟩,KG.lookup,?_⟩))
   simpa [rawInt,hes] using hq
  ·show Data.fields #[.int 0 0,.int 0 0,.ref r,.int vs.length 0,.int ep 0]=.fields #[.int (Dp w vs 0:Int) 0,.int ((0:Nat):Int) 0,.ref r,.int (vs.length:Int) 0,.int (ep:Int) 0];have:Dp w vs 0=0:=by unfold Dp;split<;>rfl
   rw[this];rfl
end
end
section
set_option maxHeartbeats 1000000
noncomputable def HK:List CV->Option (List Nat)
 | []=>some []
 | .int i::r=>if 0<=i/\i<7 then(match HK r with
  | some l=>some (i.toNat::l)
  | none=>none)else none
 | _=>none
theorem Agn:∀(i:Int) (r:List CV),HK (CV.int i::r)=if 0<=i/\i<7 then match HK r with | some l=>some (i.toNat::l) | none=>none else none:=by intros;rfl
noncomputable def Hd(l:List Nat):List Nat:=F4 (λi=>l.getD i 0) l.length
noncomputable def Jt(a:CV):CM (List Nat):=match a with
 | .ref n=>bnd (listC n) λcs=>match HK cs with
  | some l=>ret (Hd l)
  | none=>Ar
 | _=>Ar
noncomputable def Mc(L:List Nat):CM CV:=BV (L.map λ(v:Nat)=>CV.int ((v:Nat):Int))
def QZ(c:FC)(l:Am)(v:Ad)(L:List Nat):Prop:=∃S es ep moves,v=.ref S/\L∈DC/\Ek L es.toList/\AQ l (S,Os es ep L (Da c.w) moves)
theorem Ago{vs:List Nat}(h:vs∈DC):(vs.map λv=>((v:Nat):Int)).Pairwise (·<=·):=by
 have all:DC.all (λvs=>decide ((vs.map λv=>((v:Nat):Int)).Pairwise (·<=·)))=true:=by decide +kernel
 exact of_decide_eq_true (B0.mp all vs h)
section
variable {c:FC}{FX:Bh}{m:Ac->Option Ad}{l l':Am}{d:Nat}{env:Env}{loc:Ao}{Γ:AM}
set_option tactic.hygienic true in
theorem Agp{L:List Nat}(e:HK cs=some L)(h:Az l ws cs):L.length=ws.length/\∀(i:Nat) (v:Ad),ws[i]? = some v->∃t:Tok,v=GZ (L.getD i 0:Nat) t/\L.getD i 0<7 :=
 h.ind (P:=λws cs=>∀L,HK cs=some L->L.length=ws.length/\∀(i:Nat) (v:Ad),ws[i]? = some v->∃t:Tok,v=GZ (L.getD i 0:Nat) t/\L.getD i 0<7)
  (λL e=>by
   obtain rfl:=Ay e;exact⟨rfl,λi v h=>(Aw h).elim⟩) (λ{w ws c cs} a _ ih L e=>by
   rcases c with⟨⟩<;>try exact(Aw e).elim
   rename_i x;refine AI a.int_inv ?_;rintro t rfl;have e:(if 0<=x/\x<7 then(match HK cs with | some l=>some (x.toNat::l) | none=>none)else none)=some L:=e
   by_cases hx:0<=x/\x<7
   ·rw[if_pos hx]at e;rcases q:HK cs with _ | l'
    ·rw[q]at e;exact(Aw e).elim
    ·rw[q]at e;obtain rfl:=Ay e;refine At (ih l' q) ?_;rintro h1 h2;refine⟨congrArg ZQ h1,λi v hv => ?_⟩;rcases i with _ | j
     ·obtain rfl:=Ay hv;refine⟨_,congrArg (λz=>GZ z _) (AoA hx.1).symm,?_⟩;show x.toNat<7;exact Ad8 hx
     ·exact h2 j v hv
   ·rw[if_neg hx]at e;exact(Aw e).elim) L e
set_option tactic.hygienic true in
theorem Agq(ok:AJ c d){v:Ad}{a:CV}(hv:VR l v a):Aa c FX m l (call (.type "set") [v]) (Jt a) (QZ c):=by
 unfold Jt
 split
 ·refine AE hv.ref_inv ?_;rintro _ rfl hl ha;refine Aa.getList (.ref hl ha) λcs ws k hs hz z hm hr => ?_
  split
  ·rename_i L hL;refine At (Agp hL hr) ?_;rintro hlen hval;intro s Q E st okk _ _;have hsz:ws.size=L.length:=by rw[<- Dt];exact hlen.symm
   refine Agd (val:=λi=>L.getD i 0) ok.handled (st.isList hm) (λi v h => ?_) (λi hi => ?_) λh' tk hS hk => ?_
   ·refine Ah (hval i v (by rw[Lq];exact h)) ?_;rintro t h1 _
    exact⟨t,h1⟩
   ·refine Ah (hval i ws[i] (by rw[Lq];simp[hi])) ?_;rintro t _ h2
    exact h2
   ·refine CG hS ?_;clear hS;rintro es ep moves hvs R ho;rw[hsz]at hvs R ho;have keep:∀b o,s.heap.get? b=some o->h'.get? b=some o:=λb o e=>hk b o (Bz e) e;have F':=st.fr.keeps keep;have fr:∀p∈l.Φ,p.1≠s.heap.objs.size:=λp hp=>B6 (Bz (st.nw p hp).1);refine BL (st.addJ (D:=s.heap.objs.size) F' (λp hp=>by
     rcases AS.mp hp with rfl | hp
     ·refine⟨ho,Ly st.fr.ns.lt,?_⟩;rcases q:c.h₀.get? s.heap.objs.size with _ | o
      ·rfl
      ·exact absurd (Bz (st.fr.keep _ _ q)) (BP _)
     ·exact⟨keep _ _ (st.nw p hp).1,(st.nw p hp).2⟩) fr) ?_;rintro l1 e1 st1 x1 o1
    exact okk (Hd L) l1 _ h' tk (by rw[e1];rfl) st1 x1 ⟨_,es,ep,moves,rfl,hvs,R,o1⟩
  ·exact Aa.stuck
 ·exact Aa.stuck
theorem Agr:∀{vs:List Ad} {A:List (Int×Ad)},vs.length=A.length->(∀(j:Nat) (v:Ad),vs[j]? = some v->∃e,A[j]? = some e/\v=e.2)->(∀e∈A,∃t,e.2=GZ e.1 t)->Jb vs (A.map (·.1)):=by
 intro vs A
 induction A generalizing vs with
 | nil =>
  intro hl _ _;rcases vs with _ | ⟨_,_⟩
  ·exact .nil
  ·exfalso;injection hl
 | cons e A ih =>
  intro hl hj ht;rcases vs with _ | ⟨v,vs⟩
  ·exfalso;injection hl
  ·refine Ah (hj 0 v rfl) ?_;rintro e' h1 h2;rw[ZW]at h1;injection h1 with za;subst za
   refine AI (ht e (.head _)) ?_;rintro t h3;rw[h2,h3];exact .cons _ _ (ih (Aag hl) (λj w hw=>hj (j+1) w hw) λe he=>ht e (.tail _ he))
theorem Ags(ok:AJ c d){v:Ad}{L:List Nat}(hv:QZ c l v L):Aa c FX m l (call (.builtin "sorted") [v]) (Mc L) VR:=by
 refine Q44 hv ?_;clear hv;rintro S es ep moves rfl hvs R ho;unfold Mc;refine Aa.newL λhz s Q E st q => ?_;have hX:Iv s.heap S (Da c.w) L es ep:=⟨moves,hvs,R,(st.nw _ ho.1).1⟩;have h7:=Js hvs;refine kdu_sorted (Agm (vs:=L) (es:=es) (ep:=ep)) ok.handled st.fr st.nw hX (by rw[FN];exact Ad7 h7) λD h' tk vs F' N' fr hl' hj => ?_
 have I:Jb vs ((E6 c.w S ep es).toList.map (·.1)):=Agr (hl'.trans ((Ot (w:=c.w) (r:=S) (ep:=ep) R).symm.trans Dt.symm)) (λj v hv=>by
  refine Ah (hj j v hv) ?_;rintro e h1 h2;exact⟨e,by rw[Lq];exact h1,h2⟩) λe he=>R.2 e ((QX c.w S ep es).mem_iff.mp he)
 refine ksk_lsort F' N' (λo=>.head λp hp=>B6 (fr p hp)) (by simp) I (by rw[AG,Dt,Ot R];exact U3 h7) λvs' ns' k' h2 F2 N2 I' z hp hs' z => ?_
 have e:ns'=L.map λv=>((v:Nat):Int):=by
  refine lks_uniq (hp.trans ?_) hs' (Ago hvs);have:=(QX c.w S ep es).map (·.1);rw[R.1]at this;exact this
 subst e;have V:=Ok (l:=l) I';rw[CY]at V;exact q D h2 k' tk _ F2 N2 fr V
noncomputable def Wb(f:Expr->CM CV)(e:Expr):CM CV:=bnd (bnd (f e) Jt) Mc
theorem Agt(ok:AJ c d)(g:Bn c.K Γ)(eo:Ce c env){f:Expr->CM CV}(h:Bu c FX m env l f){p p2 pos pos2:Pos}{e:Expr}(hb:CS Γ env.scope.names "set" (.type "set")=true)(hl:CS Γ env.scope.names "sorted" (.builtin "sorted")=true)(hn:C8 e=false) :
  Aa c FX m l (eval (.Call (.Name "sorted" p) [.Call (.Name "set" p2) [e] [] pos2] [] pos) env) (Wb f e) VR:=by
 have inner:Aa c FX m l (eval (.Call (.Name "set" p2) [e] [] pos2) env) (bnd (f e) Jt) (QZ c) :=
  Jr ok g eo hb ⟨_,.inr rfl⟩ (by unfold noStar;rw[hn];rfl) (L9 hn (h.here e)) λvs r l' x ⟨v,e,hr⟩=>by subst e;exact Agq ok hr
 refine Jr ok g eo hl ⟨_,.inl rfl⟩ rfl (L9 rfl inner) λvs r l' x zz => ?_;refine Ah zz ?_;clear zz;rintro v e hr;exact(by subst e;exact Ags ok hr)
end
end
section
set_option maxHeartbeats 4000000
theorem Agu:typeLookup (.type "list") "keys" = pure none:=by rw[Aaq,Aar];kernel_rfl
section
variable {prog:CC}{w:B5}{A:CD}{E:Ad->Aq->Prop}{s:Aq}{a:Af}{o:AR}{xs:Array Ad}{k:Nat}
theorem Agv{Q:Option Ad->Aq->Prop}(hx:s.heap.get? a=some o)(hc:o.cls=.type "list")(hdat:o.data=.seq xs k)(hd:o.dict=none)(hA:A.handled=none)
  (h:∀h' tk,(∀b o,s.heap.get? b=some o->h'.get? b=some o)->Q none (put s h' tk)):wpAny (model prog w) A (getAttr? (.ref a) "keys") Q E s:=by
 rcases o with⟨c,dct,dat,sl⟩
 simp only at hc hdat hd;subst hc hdat hd;rcases s with⟨hp,g,d,tk,os⟩
 have hT:∀tk',(⟨hp,g,d,tk',os⟩:Aq).TypeIs (.ref a) "list" := λz=>⟨_,hx,rfl⟩;have f3:=Aaw.lookup;have f4:=Aaw.bind (.ref a);have f5:=am_list_getattr_none;unfold getAttr?;refine Aj (Aax ?_);unfold getAttrBy?;refine Aj (P7 ?_);unfold getAttrBy;refine Dg (Aj (NF (hT _) ?_));rw[f3];refine Aj (AB ?_);dsimp only;rw[if_neg (by decide +kernel)]
 unfold getAttrByItsOwn;refine Aj (AB (Aj (P7 (Dg ?_))));unfold AoB;rw[if_neg (by decide)]
 unfold AoC;rw[f4];refine Aj (AB ?_);show wpAny _ _ (call (.builtin "list.__getattribute__") [.ref a,.str "keys" tk]) _ _ _;refine call_meets Aaw (hT _) am_entry_list_getattribute (F.args_list_getattribute_2 _ _) (meets_getattribute_miss_list a xs k sl "keys" _ Agu (by decide +kernel) (by size_fits)) ⟨hx,hA,λh' tk' e hn => ?_⟩
 refine HA hn.there ?_;rintro t u he;have ht:∀tk',(⟨h',g,d,tk',os⟩:Aq).TypeIs (.ref e) "AttributeError" := λz=>⟨_,he,rfl⟩;show wpAny _ _ (AoD _ _ _ _ _ _ _) _ _ _;unfold AoD;refine Aj (NG (ht _) AoE ?_);rw[if_pos rfl];unfold hookBehind;rw[if_neg (by decide)]
 rw[f5];refine Aj (AB ?_);unfold hookOrError;dsimp only;unfold attributeErrorLeaves;dsimp only;rw[if_pos (show(!false)=true from rfl)];refine Aj (wpAny_throw ?_);refine Aj (NG (ht _) AoE ?_);rw[if_pos rfl];exact AB (h _ _ hn.keeps)
end
end
section
set_option maxHeartbeats 1000000
noncomputable def E7(PV:List (Int×Ad)):Nat->List (Int×Ad)
 | 0=>[]
 | i+1=>match PV[i]? with
  | some p=>PySem.stored (E7 PV i) p.1 p.2
  | none=>E7 PV i
theorem Ra:∀(PV:List (Int×Ad)) (i:Nat),E7 PV i.succ=match PV[i]? with | some p=>stored (E7 PV i) p.fst p.snd | none=>E7 PV i:=by intros;rfl
theorem Wc:entryFor table "dict.update.loop" = some Builtin.«dict.update.loop»:=Aor (by kernel_rfl)
theorem Ou:plainId "dict.update.loop" = true:=by decide +kernel
theorem Agw(kvs:List (Int×Ad))(k:Int)(v:Ad):(PySem.stored kvs k v).length<=kvs.length+1:=by
 unfold PySem.stored
 split<;>simp
theorem Agx(PV:List (Int×Ad)):∀i,(E7 PV i).length<=i:=by
 intro z1
 induction z1 with
 | zero =>
  exact AK _
 | succ i ih =>
  rw[Ra]
  split
  ·exact AC (Agw _ _ _) (Fm (ih))
  ·exact AnH (ih)
section
variable {prog:CC}{w:B5}{A:CD}{R:GO->Aq->Prop}{I:Af}{fp wr:List Af}{G:Array Ng->Array Ng->Prop}{n:Nat}{St:Nat->Aq->Prop}
theorem Agy{H0:AY}{PV:List (Int×Ad)}(W:WalksS prog w A.in1 I fp wr G n (λi v=>items[i]? = some v) St)(d:Af)(hdf:d∉fp)(hd0:H0.get? d=none)(hw0:∀b∈wr,H0.get? b=none)
  (hP:∀(i:Nat) (v:Ad),items[i]? = some v->∃t kk k tk x,v=CR t/\H0.get? t=some (Cs [GZ k tk,x] kk)/\PV[i]? = some (k,x)) (hn:n<=1000) :
  ∀(k i:Nat) (s:Aq) (it:Tok),n-i=k->i<=n->St i s->(∀b o,H0.get? b=some o->s.heap.get? b=some o)->s.heap.DictOf (intKind prog w) d (E7 PV i) ->
   (∀s',Moved (d::wr) G s s'->s'.heap.DictOf (intKind prog w) d (E7 PV n)->R (.ok (.ret .none)) s') ->
   codeAny (model prog w) A (.builtin "dict.update.loop" ⟨[.ref d,.ref I,.int (i:Int) it,.none],[]⟩) R s:=by
 have hdw:d∉wr:=λh=>hdf (W.sub _ h);have hsub:∀b∈wr,b∈d::wr:=λb hb=>FO _ hb;intro k
 induction k with
 | zero =>
  intro i s it hk hi hst hH hD hR;have hin:i=n:=Vh hk hi;subst hin;refine ND Wc ?_;rw[P3 Ou _];unfold Builtin.«dict.update.loop»;refine Aj (W.done s _ _ hst λs' hm => ?_);refine Aj (AB (AB (hR s' (hm.mono hsub) ?_)));refine Ee hD ?_;clear hD;rintro o es ep ho r;exact⟨o,es,ep,hm.heap d _ hdw ho,r⟩
 | succ k ih =>
  intro i s it hk hi hst hH hD hR;have hlt:i<n:=Vg hk;refine ND Wc ?_;rw[P3 Ou _];unfold Builtin.«dict.update.loop»;refine Aj (W.item i s _ _ hlt hst λv s' hv hst' hm => ?_);refine NW (hP i v hv) ?_;rintro t kk key tk x rfl ht hpv;have hH':∀b o,H0.get? b=some o->s'.heap.get? b=some o:=λb o e=>hm.heap b o (λq=>by rw[hw0 b q]at e;(exfalso;injection e)) (hH b o e)
  have hD':s'.heap.DictOf (intKind prog w) d (E7 PV i):=by
   refine Ee hD ?_;clear hD;rintro o es ep ho r;exact⟨o,es,ep,hm.heap d _ hdw ho,r⟩
  have hT:s'.TypeIs (.ref t) "tuple" := ⟨_,hH' _ _ ht,rfl⟩;have hlen:(E7 PV i).length<=sizeLine:=by
   have:=Agx PV i;rw[FN];exact Ad9 hn hlt this
  refine Aj (Dg ?_);refine Aj (wpAny_tryCatch ?_);unfold Builtin.Dict.pairItems;refine Aj (NF hT ?_);rw[if_pos (by decide)]
  refine Aj (wpAny_seqItems (hH' _ _ ht) rfl (AB ?_));show wpAny _ _ (holding [GZ key tk,x] (dictSet d (.int key tk) x)) _ _ _;refine Dg ?_;unfold dictSet;refine Dg (Aj ((intKind prog w).pyHash (k:=key) (Nz _ _ _ _) ?_));refine wpAny_dictSetHashed_pairs (knd:=intKind prog w) (s:={ s' with toks:=s'.toks+1 }) (Nz _ _ _ _) hD' (λh' hd' hsb => ?_) hlen
  have hD2:h'.DictOf (intKind prog w) d (E7 PV (i+1)):=by
   rw[Ra];rw[hpv];exact hd'
  refine AB ⟨T6 Ou _,?_⟩;show codeAny _ _ (.builtin "dict.update.loop" ⟨[.ref d,.ref I,.int ((i:Int)+1) 0,.none],[]⟩) _ _;rw[show((i:Int)+1)=((i+1:Nat):Int)from rfl];refine ih (i+1) _ _ (Ve hk) hlt (W.frame _ s' _ _ hst' (Hw _) λb hb o e => ?_) (λb o e => ?_) hD2 λs'' hm'' hD'' => ?_
  ·rw[hsb.2 b (λh:b=d=>hdf (h▸hb))];exact e
  ·rw[hsb.2 b (λh:b=d=>by rw[h,hd0]at e;(exfalso;injection e))];exact hH' b o e
  ·refine hR s'' (Moved.trans W.gtrans ((hm.mono hsub).then_heap (Hw _) λb o hb e => ?_) hm'') hD'';rw[hsb.2 b (λh:b=d=>hb (by rw[h];exact Dh))];exact e
end
section
variable {prog:CC}{w:B5}{A:CD}{E:Ad->Aq->Prop}{s:Aq}
theorem Agz{l:Af}{kk0:Nat}{PV:List (Int×Ad)}(hh:A.handled=none)(hl:s.heap.get? l=some (listOf items kk0))
  (hP:∀(i:Nat) (v:Ad),items[i]? = some v->∃t kk k tk x,v=CR t/\s.heap.get? t=some (Cs [GZ k tk,x] kk)/\PV[i]? = some (k,x)) (hn:items.size<=1000)
  (h:∀(h':AY) (tk:Nat),h'.DictOf (intKind prog w) s.heap.objs.size (E7 PV items.size)->(∀b o,s.heap.get? b=some o->h'.get? b=some o)->Q (.ref s.heap.objs.size) (put s h' tk)) :
  wpAny (model prog w) A (call (.type "dict") [.ref l]) Q E s:=by
 refine callType_codes (Q₁:=λobj s₁=>obj=.ref s.heap.objs.size/\s₁={ s with heap:=s.heap.push { cls:=.type "dict",data:=.dict #[] } }) F.kt_called_dict (F.kt_typeCall_dict_1 _) F.entry_dict_init (kt_code_dict_new _ ⟨rfl,rfl⟩) ?_
 rintro obj s₁ ⟨rfl,rfl⟩;have hnew:(s.heap.push { cls:=.type "dict",data:=.dict #[] }).DictOf (intKind prog w) s.heap.objs.size []:=Heap.DictOf.new s.heap;have hl1:(s.heap.push { cls:=.type "dict",data:=.dict #[] }).get? l=some (listOf items kk0):=Ed _ hl;have hT:Aao { s with heap:=s.heap.push { cls:=.type "dict",data:=.dict #[] } } (.ref l) "list" := ⟨_,hl1,rfl⟩
 refine⟨hnew.typeIs,F.args_dict_init_2 _ _,?_⟩;unfold Builtin.«dict.__init__»;refine Aj ?_;unfold Builtin.Dict.selfAndRest;refine Aj (wpAny_notOrdered_dict hnew.typeIs ?_);show wpAny _ _ (Nk (s.heap.objs.size,[CR l])) _ _ _;refine AB ?_;show wpAny _ _ (AoF "dict.__init__" s.heap.objs.size (.ref l) [] .none) _ _ _;unfold AoF;refine Aj (NF hT ?_);rw[if_pos (by decide)]
 refine Aj (Agv (A:=A.in1.in1) hl1 rfl rfl rfl (by simp[hh]) λh' tk hk => ?_)
 rw[if_pos (show(none:Option Ad).isNone=true from rfl)];refine Aj (Aah ?_);have hl2:h'.IsList l items:=⟨_,hk _ _ hl1,rfl,_,rfl⟩;refine Aj (Aap (s:=(put s h' tk)) hl2 ?_);have hlS:l<s.heap.objs.size:=Bz hl;have hsz:s.heap.objs.size<h'.objs.size:=Bz (hk _ _ (Jc _ rfl));have hne:l≠h'.objs.size:=B6 (Lw hlS hsz);refine AB ⟨T6 Ou _,?_⟩;have hH:∀b o,s.heap.get? b=some o->(h'.push { cls:=.type "list_iterator",data:=.fields #[.ref l,.int 0 0] }).get? b=some o:=λb o e=>Ed _ (hk _ _ (Ed _ e));have hh3:A.in1.in1.handled=none:=by simp[hh]
 refine Agy (H0:=s.heap) (PV:=PV) (items:=items) ((Walks.list hh3 _ l hne items).toS) s.heap.objs.size ?_ (AoG (AK _)) (λb hb => ?_) hP hn (items.size-0) 0 _ 0 (Vd) (Gl _) ⟨⟨_,Jc _ rfl,rfl,rfl⟩,hl2.push _⟩ hH ?_ λs' hm hD => ?_
 ·simp only[AS,Lx,or_false,not_or];exact⟨B6 hsz,Ly hlS⟩
 ·rw[Cr.mp hb];exact AoG (Dz hsz)
 ·exact(Heap.DictOf.keep hnew hk).push _
 ·rcases s' with⟨h2,g',d',tk',os'⟩
  have eg:g'=s.gens:=hm.gens;have ed:d'=s.drawn:=hm.drawn;have eo:os'=s.os:=hm.os;subst eg;subst ed;subst eo;refine⟨rfl,h h2 tk' hD λb o e=>hm.heap b o ?_ (hH b o e)⟩;simp only[AS,Lx,or_false,not_or];exact⟨B6 (Bz e),B6 (Lw (Bz e) hsz)⟩
end
noncomputable def Ov:CV->Option (Int×CV)
 | .tup [.int k,v]=>some (k,v)
 | _=>none
set_option tactic.hygienic true in
theorem AgA{c v:CV}{k:Int}(h:Ov c=some (k,v)):c=.tup [.int k,v]:=by
 rcases c with⟨⟩<;>try exact(Aw h).elim
 rename_i cs;rcases cs with _ | ⟨a,r⟩
 ·exact(Aw h).elim
 ·rcases a with⟨⟩<;>try exact(Aw h).elim
  rcases r with _ | ⟨b,r⟩
  ·exact(Aw h).elim
  ·rcases r with _ | ⟨_,_⟩
   ·refine At (DV (Ay h)) ?_;rintro rfl rfl;rfl
   ·exact(Aw h).elim
noncomputable def F5:List CV->Option (List (Int×CV))
 | []=>some []
 | c::r=>match Ov c with
  | some p=>(match F5 r with
   | some ps=>some (p::ps)
   | none=>none)
  | none=>none
theorem AgB{c:CV}{r:List CV}{ps:List (Int×CV)}(h:F5 (c::r)=some ps):∃k v qs,c=.tup [.int k,v]/\F5 r=some qs/\ps=(k,v)::qs:=by
 have h:(match Ov c with
  | some p=>(match F5 r with
   | some ps=>some (p::ps)
   | none=>none)
  | none=>none)=some ps:=h
 rcases q:Ov c with _ | p
 ·rw[q]at h;exact(Aw h).elim
 ·rcases p with⟨k,v⟩
  rw[q]at h;dsimp only at h;rcases q2:F5 r with _ | qs
  ·rw[q2]at h;exact(Aw h).elim
  ·rw[q2]at h;exact⟨k,v,qs,AgA q,rfl,(Ay h).symm⟩
noncomputable def Rb(ps:List (Int×CV)):List (Int×CV):=ps.foldl (λes p=>EN es p.1 p.2) []
noncomputable def Ow(a:CV):CM CV:=match a with
 | .ref n=>bnd (listC n) λcs=>match F5 cs with
  | some ps=>if ps.length<=1000 then λσ=>.ok (.ref σ.length) (σ++[.dict (Rb ps)])else Ar
  | none=>Ar
 | _=>Ar
section
variable {c:FC}{FX:Bh}{m:Ac->Option Ad}{l l':Am}{d:Nat}{env:Env}{loc:Ao}{Γ:AM}
theorem AgC{h:AY}(st:St c m l h){cs:List CV}{ps:List (Int×CV)}{ws:List Ad}(e:F5 cs=some ps)(hv:Az l ws cs):∃PV:List (Int×Ad),BD l PV ps/\PV.length=ws.length /\
  ∀(i:Nat) (v:Ad),ws[i]? = some v->∃t kk k tk x,v=CR t/\h.get? t=some (Cs [GZ k tk,x] kk)/\PV[i]? = some (k,x) :=
 hv.ind (P:=λws cs=>∀ps,F5 cs=some ps->∃PV:List (Int×Ad),BD l PV ps/\PV.length=ws.length/\∀(i:Nat) (v:Ad),ws[i]? = some v->∃t kk k tk x,v=CR t/\h.get? t=some (Cs [GZ k tk,x] kk)/\PV[i]? = some (k,x))
  (λps e=>by
   obtain rfl:=Ay e;exact⟨[],.nil,rfl,λi v h=>(Aw h).elim⟩) (λ{w ws cv cs} a _ ih ps e=>by
   refine CG (AgB e) ?_;rintro k v qs rfl e2 rfl;refine AE (ih qs e2) ?_;rintro PV h1 h2 h3;refine CG a.tup_inv ?_;rintro t vs kk rfl ho hq;refine Bm hq.cons_inv ?_;rintro v1 w1 rfl ha hb;refine AI ha.int_inv ?_;rintro tk rfl;refine Bm hb.cons_inv ?_;rintro v2 w2 rfl hb2 hn;obtain rfl:=hn.nil_inv;refine⟨_::PV,.cons hb2 h1,congrArg ZQ h2,λi w hw => ?_⟩;rcases i with _ | j
   ·obtain rfl:=Ay hw;exact⟨_,_,_,_,_,rfl,(st.nw _ ho.1).1,rfl⟩
   ·exact h3 j w hw) ps e
theorem AgD:∀(ps:List (Int×CV)) (PV:List (Int×Ad)) (es:List (Int×CV)) (kv:List (Int×Ad)),BD l PV ps->BD l kv es->BD l (PV.foldl (λa p=>PySem.stored a p.1 p.2) kv) (ps.foldl (λa p=>EN a p.1 p.2) es):=by
 intro ps PV es kv h
 induction h generalizing es kv with
 | nil=>exact λh=>h
 | cons hv r ih=>exact λh=>ih _ _ (h.stored hv _)
theorem AgE(PV:List (Int×Ad)):E7 PV PV.length=PV.foldl (λa p=>PySem.stored a p.1 p.2) []:=by
 have key:∀i,i<=PV.length->E7 PV i=(PV.take i).foldl (λa p=>PySem.stored a p.1 p.2) []:=by
  intro i
  induction i with
  | zero=>intro _;rfl
  | succ i ih =>
   intro hi;have hlt:i<PV.length:=hi;rw[Ra];rw[Cc hlt,AoH hlt,NK,ih (Dz hlt)];rfl
 rw[key _ (AK _),Aay]
set_option tactic.hygienic true in
theorem AgF(ok:AJ c d){v:Ad}{a:CV}(hv:VR l v a):Aa c FX m l (call (.type "dict") [v]) (Ow a) VR:=by
 unfold Ow
 split
 ·refine AE hv.ref_inv ?_;rintro _ rfl hl ha;refine Aa.getList (.ref hl ha) λcs ws k hs hz z hm hr => ?_
  split
  ·rename_i ps hp;refine Aa.guard λh1000 => ?_;intro s Q E st okk _ _;refine AE (AgC st hp hr) ?_;rintro PV h1 h2 h3;have hsz:ws.size=PV.length:=by rw[<- Dt];exact h2.symm
   refine Agz (PV:=PV) ok.handled (st.nw _ hm).1 (λi v h=>h3 i v (by rw[Lq];exact h)) (by rw[hsz,h1.length];exact h1000) λh' tk hD keep => ?_
   rw[hsz,AgE]at hD;refine Ah (Nm.mp hD) ?_;rintro o ho hd;have F':=st.fr.keeps keep;have fr:∀p∈l.Φ,p.1≠s.heap.objs.size:=λp hp=>B6 (Bz (st.nw p hp).1);have N':CE c.h₀ c.L h' ((s.heap.objs.size,o)::l.Φ):=λp hp=>by
    rcases AS.mp hp with rfl | hp
    ·refine⟨ho,Ly st.fr.ns.lt,?_⟩;rcases q:c.h₀.get? s.heap.objs.size with _ | o
     ·rfl
     ·exact absurd (Bz (st.fr.keep _ _ q)) (BP _)
    ·exact⟨keep _ _ (st.nw p hp).1,(st.nw p hp).2⟩
   have hsys:(s.heap.objs.size == TD)=false:=st.fr.notModules (modules_low (Ic ok.top).nolimit);refine BL (st.addL (co:=.dict (Rb ps)) F' N' fr rfl λl' x hm ha=>⟨o,_,by rw[ha];exact hm,by rw[ha];exact hsys,hd,(AgD ps PV [] [] h1 .nil).mono x⟩) ?_;rintro l1 e1 st1 x1 v1
   exact okk _ l1 _ h' tk (by show B2.ok _ _=_;rw[e1]) st1 x1 v1
  ·exact Aa.stuck
 ·exact Aa.stuck
noncomputable def Wd(f:Expr->CM CV)(e:Expr):CM CV:=bnd (f e) Ow
theorem AgG(ok:AJ c d)(g:Bn c.K Γ)(eo:Ce c env){f:Expr->CM CV}(h:Bu c FX m env l f){p pos:Pos}{e:Expr}(hb:CS Γ env.scope.names "dict" (.type "dict")=true)(hn:C8 e=false) :
  Aa c FX m l (eval (.Call (.Name "dict" p) [e] [] pos) env) (Wd f e) VR :=
 Jr ok g eo hb ⟨_,.inr rfl⟩ (by unfold noStar;rw[hn];rfl) (L9 hn (h.here e)) λvs r l' x ⟨v,e,hr⟩=>by subst e;exact AgF ok hr
end
end
section
inductive Ck where
 | lst (n:Nat)
 | tup (vs:List CV)
 | rng (a step:Int) (n:Nat)
 | enm (n:Nat)
noncomputable def listAt(σ:CH)(n:Nat):Option (List CV):=match σ[n]? with
 | some (.list vs)=>if small vs.length=true then some vs else none
 | _=>none
noncomputable def B9(σ:CH)(i:Nat):Ck->Option (Option CV)
 | .lst n=>(listAt σ n).map λvs=>vs[i]?
 | .tup vs=>if small vs.length=true then some vs[i]? else none
 | .rng a c n=>if i<n then some (some (.int (a+i*c)))else some none
 | .enm n=>(listAt σ n).map λvs=>(vs[i]?).map λv=>.tup [.int i,v]
def Rc(o:AR)(a:Af)(i:Nat):Prop:=o.cls=.type "list_iterator" /\ o.data=.fields #[.ref a,.int i 0]
noncomputable abbrev KH(it:Af)(i:Int)(old:Ad):AR:={ cls:=.type "enumerate",dict:=none,data:=.fields #[.none,.bool false,.ref it,rawInt i,.none,old],slots:=#[] }
noncomputable abbrev We(x left step:Int):AR:={ cls:=.type "range_iterator",dict:=none,data:=.fields #[rawInt x,rawInt left,rawInt step],slots:=#[] }
def F6(J:Af->Prop)(l:Am)(i:Nat)(I:Af):Ck->Prop
 | .lst n=>∃o,AQ l (I,o)/\J I/\Rc o (l.ad n false) i/\n<l.σ.length
 | .tup vs=>∃o a ws k,AQ l (I,o)/\J I/\o.cls=.type "tuple_iterator" /\ o.data=.fields #[.ref a,.int i 0]/\AQ l (a,Cs ws k)/\Az l ws vs
 | .rng a c n=>AQ l (I,We (a+i*c) ((n:Int)-i) c)/\J I/\i<=n
 | .enm n=>∃it oi old,it≠I/\AQ l (I,KH it i old)/\J I/\AQ l (it,oi)/\J it/\Rc oi (l.ad n false) i/\n<l.σ.length
section
variable {c:FC}{FX:Bh}{m:Ac->Option Ad}{l l':Am}{d:Nat}{env:Env}{loc:Ao}{Γ:AM}{J:Af->Prop}
theorem F6.mono{src:Ck}(x:Ap D l l')(hd:∀a,J a->¬D a)(h:F6 J l i I src):F6 J l' i I src:=by
 rcases src with n | vs | ⟨a,cc,n⟩ | n
 ·refine BL h ?_;clear h;rintro o ho hj hl hn;exact⟨o,x.oth _ ho (.inr (hd _ hj)),hj,by rw[x.ad _ _ hn];exact hl,EX hn x.len⟩
 ·refine NV h ?_;clear h;rintro o a ws k ho hj h1 h2 ht hv;exact⟨o,a,ws,k,x.oth _ ho (.inr (hd _ hj)),hj,h1,h2,x.oth _ ht (.inl ⟨_,_,rfl⟩),hv.mono x⟩
 ·exact⟨x.oth _ h.1 (.inr (hd _ h.2.1)),h.2⟩
 ·refine Kk h ?_;clear h;rintro it oi old hne ho hj hi hj2 hl hn;exact⟨it,oi,old,hne,x.oth _ ho (.inr (hd _ hj)),hj,x.oth _ hi (.inr (hd _ hj2)),hj2,by rw[x.ad _ _ hn];exact hl,EX hn x.len⟩
theorem St.oth_facts{h:AY}{a:Af}(st:St c m l h)(ho:AQ l (a,o)):h.get? a=some o/\a≠c.L/\c.h₀.get? a=none:=st.nw _ ho.1
theorem Am.turn{a:Af}(R:LR c.prog c.w l)(ho:AQ l (a,o))(hc:∀vs k,o≠Cs vs k)(o':AR) :
  ∃l':Am,l'.σ=l.σ/\LR c.prog c.w l'/\Ap (·=a) l l'/\AQ l' (a,o')/\∀p∈l'.Φ,p=(a,o')\/(p∈l.Φ/\p.1≠a):=by
 refine HA (ZS ho.1) ?_;rintro pre post e;have nd:=R.nd;rw[e,BJ,Bj]at nd;have z:=FL.mp nd;have h1:∀p∈pre,p.1≠a:=λp hp q=>z.2.2 p.1 (Dl (f:=(·.1)) hp) a (.head _) q;have h2:∀p∈post,p.1≠a:=λp hp q=>(Dm.mp z.2.1).1 (q▸Dl (f:=(·.1)) hp);refine CZ (Vl (l':={ l with Φ:=pre++(a,o')::post }) R e h1 h2 ho hc rfl) ?_;rintro x R' o2
 refine⟨{ l with Φ:=pre++(a,o')::post },rfl,R',x,o2,λp hp => ?_⟩
 have hp':p∈pre++(a,o')::post:=hp;rw[e];rcases BF.mp hp' with hp | hp
 ·exact .inr ⟨Cb _ hp,h1 p hp⟩
 ·rcases AS.mp hp with rfl | hp
  ·exact .inl rfl
  ·exact .inr ⟨Cv _ (.tail _ hp),h2 p hp⟩
theorem St.turnOth{h:AY}{a:Af}(st:St c m l h)(ho:AQ l (a,o))(hc:∀vs k,o≠Cs vs k)(hs:T5 a h h')(hg:h'.get? a=some o') :
  ∃l':Am,l'.σ=l.σ/\St c m l' h'/\Ap (·=a) l l'/\AQ l' (a,o'):=by
 refine Ig (Am.turn st.lr ho hc o') ?_;rintro l' e R x o2 hm;have z:=st.oth_facts ho;refine⟨l',e,⟨st.fr.change hs z.2.1 z.2.2,λp hp => ?_,R⟩,x,o2⟩;rcases hm p hp with rfl | ⟨q1,q2⟩
 ·exact⟨hg,z.2⟩
 ·have y:=st.nw p q1;exact⟨(hs.2 _ q2).trans y.1,y.2⟩
theorem Fr.but{h₀ h:AY}{L a:Af}{m:Ac->Option Ad}(F:Fr h₀ L h m)(hs:P9 a h h')(hL:a≠L)(hn:h₀.get? a=none):Fr h₀ L h' m :=
 ⟨F.ns.extBut hs (EF hL),λb o e=>hs b o (λq=>by rw[q,hn]at e;(exfalso;injection e)) (F.keep b o e),F.above⟩
theorem St.dropOth'{h:AY}{a:Af}(st:St c m l h)(ho:AQ l (a,o))(hc:∀vs k,o≠Cs vs k)(hs:P9 a h h') :
  ∃l':Am,(∀q∈l'.Φ,q.1≠a)/\l'.σ=l.σ/\St c m l' h'/\Ap (·=a) l l':=by
 refine Bm (st.split ho.1) ?_;rintro pre post e h1 h2;have z:=st.oth_facts ho;have mem:∀p∈l.Φ,p.1≠a->p∈pre++post:=λp hp hn=>by
  rw[e]at hp;rcases BF.mp hp with hp | hp
  ·exact Cb _ hp
  ·rcases AS.mp hp with rfl | hp
   ·exact absurd rfl hn
   ·exact Cv _ hp
 have sub:∀p∈pre++post,p∈l.Φ/\p.1≠a:=λp hp=>by
  rw[e];rcases BF.mp hp with hp | hp
  ·exact⟨Cb _ hp,h1 p hp⟩
  ·exact⟨Cv _ (.tail _ hp),h2 p hp⟩
 have x:Ap (·=a) l { l with Φ:=pre++post }:=by
  refine⟨AK _,λj o h=>⟨o,h,rfl⟩,λj j j=>rfl,λp hp hq=>⟨mem p hp.1 λea => ?_,hp.2⟩⟩;rcases hq with hq | hq
  ·have:p=(a,o):=by
    have hp1:=hp.1;rw[e]at hp1;rcases BF.mp hp1 with z | z
    ·exact absurd ea (h1 p z)
    ·rcases AS.mp z with rfl | z
     ·rfl
     ·exact absurd ea (h2 p z)
   subst this;refine HA hq ?_;clear hq;rintro vs k hq;exact hc vs k hq
  ·exact hq ea
 refine⟨{ l with Φ:=pre++post },λp hp=>(sub p hp).2,rfl,⟨Fr.but st.fr hs z.2.1 z.2.2,λp hp => ?_,?_⟩,x⟩
 ·refine At (sub p hp) ?_;rintro q1 q2;have y:=st.nw p q1;exact⟨hs _ _ q2 y.1,y.2⟩
 ·refine⟨?_,st.lr.inj,λi co h=>OR.mono x (DK.mp h).1 (st.lr.obj i co h) λb ob hb hm=>mem _ hm λea=>ho.2 i b ⟨co,h,hb⟩ ea⟩;have nd:=st.lr.nd;rw[e]at nd;rw[BJ,Bj]at nd;rw[BJ];have z:=FL.mp nd;refine FL.mpr ⟨z.1,(Dm.mp z.2.1).2,λx hx y hy=>z.2.2 x hx y (.tail _ hy)⟩
theorem St.dropOth{h:AY}{a:Af}(st:St c m l h)(ho:AQ l (a,o))(hc:∀vs k,o≠Cs vs k)(hs:P9 a h h') :
  ∃l':Am,l'.σ=l.σ/\St c m l' h'/\Ap (·=a) l l' :=
 let ⟨l',_,e,st',x⟩:=st.dropOth' ho hc hs
 ⟨l',e,st',x⟩
theorem Rd{A:CD}{T:String}{vs:Array Ad}{Q:Unit->Aq->Prop}(ho:s.heap.get? I=some o)(hc:o.cls=.type T)(hd:o.data=.fields vs)
  (hT:(["enumerate","zip","dict_itemiterator","dict_reverseitemiterator","odict_iterator","itertools.zip_longest","itertools.pairwise"].contains T)=false) (hQ:Q () s) :
  wpAny c.M A (Aaz target (.ref I) v) Q E s:=by
 have key:wpAny c.M A (do
   let (.ref r,.ref a):=(CR I,v) | return
   let o <- load r
   match o.cls,o.data with
   | .type n,.fields vs =>
    if["enumerate","zip","dict_itemiterator","dict_reverseitemiterator","odict_iterator","itertools.zip_longest","itertools.pairwise"].contains n && vs[0]? == some (rawInt a)then
     rule "for.unpacks-the-owned-tuple"
     updateField r 0 .none
   | _,_=>pure ():Sem Unit) Q E s:=by
  rcases v with _ | _ | _ | _ | _ | a
  case ref =>
   refine Aj (AaA ho ?_);rw[hc,hd];show wpAny _ A (if _=true then _ else _) Q E s;rw[hT];exact AB hQ
  all_goals exact AB hQ
 rcases target with⟨⟩<;>first | exact key | exact AB hQ
def AgH(c:FC)(m:Ac->Option Ad)(J:Af->Prop)(l:Am)(i:Nat)(I:Af)(src:Ck)(s:Aq)(cv:CV)(v:Ad)(s₂:Aq):Prop :=
 ∃l' h' tk,s₂=(put s h' tk)/\St c m l' h'/\Ap J l l'/\l'.σ=l.σ/\F6 J l' (i+1) I src/\VR l' v cv
noncomputable def Ox(e:Expr):Bool:=(Fq e).isSome
noncomputable def He(t:Expr):Ck->Bool
 | .enm _=>Ox t
 | _=>true
set_option tactic.hygienic true in
theorem St.listAt{h:AY}{vs:List CV}(st:St c m l h)(hn:n<l.σ.length)(e:Mine.Internal.listAt l.σ n=some vs):∃ws k,(l.ad n false,listOf ws k)∈l.Φ/\Az l ws.toList vs:=by
 unfold Mine.Internal.listAt at e
 split at e
 ·rename_i vs' hs
  split at e
  ·injection e with za;subst za
   exact st.list (.ref hn rfl) hs
  ·exfalso;injection e
 ·exfalso;injection e
set_option tactic.hygienic true in
theorem Wg{E₀ E₁:Ad->Aq->Prop}{src:Ck}{Q:Option Ad->Aq->Prop}{Q2:Ad->Aq->Prop}(st:St c m l s.heap)(hi:F6 J l i I src)(hf:He target src=true)(e:B9 l.σ i src=some (some cv))
  (hq:∀v s₂,AgH c m J l i I src s cv v s₂->Q2 v s₂) (hQ:∀v s₁,wpAny c.M c.A (Aaz target (.ref I) v) (λj s₂=>Q2 v s₂) E₁ s₁->Q (some v) s₁) :
  wpAny c.M c.A (pyNext (.ref I)) Q E₀ s:=by
 rcases src with n | vs | ⟨a,cc,n⟩ | n
 ·refine BL hi ?_;clear hi;rintro o ho hj ⟨hc,hd⟩ hn;simp only[B9]at e;refine Ah (Hu.mp e) ?_;rintro vs e1 e2;refine Ba (st.listAt hn e1) ?_;rintro ws k hm hr;refine Ah (hr.get e2) ?_;rintro v hv hvr;have z:=st.oth_facts ho;refine wpAny_pyNext_list_item (x:=v) ⟨o,z.1,hc,hd⟩ (st.isList hm) (by simpa using hv) λh' hit' hs' => ?_
  refine AE hit' ?_;clear hit';rintro o' ho' hc' hd';refine BL (st.turnOth ho (Kp (by rw[hc];decide)) hs' ho') ?_;rintro l' e' st' x oo
  refine hQ _ _ (Rd (s:={ s with heap:=h' }) ho' hc' hd' (by decide) (hq _ _ ⟨l',h',s.toks,rfl,st',x.widen λa q=>q▸hj,e',⟨o',oo,hj,⟨hc',?_⟩,?_⟩,hvr.mono x⟩))
  ·rw[x.ad _ _ hn];exact hd'
  ·rw[e'];exact hn
 ·refine NV hi ?_;clear hi;rintro o a ws k ho hj hc hd ht hr;simp only[B9]at e
  split at e
  ·have e2:=Ay e;refine Ah (hr.get e2) ?_;rintro v hv hvr;have z:=st.oth_facts ho;refine wpAny_pyNext_tuple_item (x:=v) ⟨o,z.1,hc,hd⟩ ⟨_,(st.nw _ ht.1).1,rfl,_,rfl⟩ (by simpa using hv) λh' hit' hs' => ?_
   refine AE hit' ?_;clear hit';rintro o' ho' hc' hd';refine BL (st.turnOth ho (Kp (by rw[hc];decide)) hs' ho') ?_;rintro l' e' st' x oo
   exact hQ _ _ (Rd (s:={ s with heap:=h' }) ho' hc' hd' (by decide) (hq _ _ ⟨l',h',s.toks,rfl,st',x.widen λa q=>q▸hj,e',⟨o',a,ws,k,oo,hj,hc',hd',x.oth _ ht (.inl ⟨_,_,rfl⟩),hr.mono x⟩,hvr.mono x⟩))
  ·exfalso;injection e
 ·refine CZ hi ?_;clear hi;rintro ho hj hle;simp only[B9]at e
  split at e
  ·rename_i hlt;injection e with za;injection za with za;subst za
   have z:=st.oth_facts ho;refine wpAny_pyNext_range_item z.1 (AdG hlt) λh' hit' hs' => ?_;refine BL (st.turnOth ho (Gq rfl) hs' hit') ?_;rintro l' e' st' x oo;refine hQ _ _ (Rd (s:=(put s h' (s.toks+1))) hit' rfl rfl (by decide) (hq _ _ ⟨l',h',_,rfl,st',x.widen λa q=>q▸hj,e',⟨?_,hj,hlt⟩,.int _ _⟩))
   have e1:a+((i+1:Nat):Int)*cc=a+(i:Int)*cc+cc:=by push_cast;rw[Int.add_mul,Int.one_mul,Int.add_assoc]
   have e2:(n:Int)-((i+1:Nat):Int)=(n:Int)-(i:Int)-1:=by push_cast;exact AdF
   rw[e1,e2];exact oo
  ·injection e with za;exfalso;injection za
 ·refine Kk hi ?_;clear hi;rintro it oi old hne ho hj hoi hj2 ⟨hc,hd⟩ hn;simp only[B9]at e;refine Ah (Hu.mp e) ?_;rintro vs e1 e2;refine Ah (Hu.mp e2) ?_;rintro cx e3 e4;refine Ba (st.listAt hn e1) ?_;rintro ws k hm hr;refine Ah (hr.get e3) ?_;rintro v hv hvr;have z:=st.oth_facts ho;have zi:=st.oth_facts hoi;subst e4;refine wpAny_pyNext_enum_item (x:=v) z.1 ⟨oi,zi.1,hc,hd⟩ (st.isList hm) (by simpa using hv) (EF hne) λh' heo hit' ht' hz' hk' => ?_
  refine AE hit' ?_;clear hit';rintro oi' hoi' hci' hdi';refine hQ _ _ ?_;refine AI (Kc.mp (show(Fq target).isSome=true from hf)) ?_;rintro⟨elts,x1,pos⟩ hq;obtain rfl:target=.Tuple elts x1 pos:=LM hq;clear hq hf;refine wpAny_letOwnedTupleGo_enum (s:=(put s h' (s.toks+1))) heo λh2 he2 hs2=>hq _ _ ?_;have hlt:=Bz z.1;have hlti:=Bz zi.1;have gi:h2.get? it=some oi':=(hs2.2 it hne).trans hoi';have gt:h2.get? s.heap.objs.size=some (Cs [.int i s.toks,v] 0):=(hs2.2 _ (Ly hlt)).trans ht';refine Ig (Am.turn st.lr ho (Gq rfl) (KH it ((i:Int)+1) v)) ?_;rintro l1 s1 R1 x1 o1 m1;refine Ig (Am.turn R1 (x1.oth _ hoi (.inr hne)) (Kp (by rw[hc];decide)) oi') ?_;rintro l2 s2 R2 x2 o2 m2
  have x12:Ap J l l2:=(x1.widen λa q=>q▸hj).trans (x2.widen λa q=>q▸hj2);have old:∀p∈l2.Φ,p.1<s.heap.objs.size:=λp hp=>by
   rcases m2 p hp with rfl | ⟨q1,_⟩
   ·exact hlti
   ·rcases m1 p q1 with rfl | ⟨q1,_⟩
    ·exact hlt
    ·exact Bz (st.nw p q1).1
  have keep:∀b o,b≠I->b≠it->s.heap.get? b=some o->h2.get? b=some o:=λb o q1 q2 q=>(hs2.2 b q1).trans (hk' b o q1 q2 q);have F2:Fr c.h₀ c.L h2 m:=⟨st.fr.ns.at' λo q=>keep _ o (EF z.2.1) (EF zi.2.1) q,λb o q=>keep b o (λe=>by rw[e,z.2.2]at q;(exfalso;injection q)) (λe=>by rw[e,zi.2.2]at q;(exfalso;injection q)) (st.fr.keep b o q),st.fr.above⟩
  have N2:CE c.h₀ c.L h2 l2.Φ:=λp hp=>by
   rcases m2 p hp with rfl | ⟨q1,q2⟩
   ·exact⟨gi,zi.2⟩
   ·rcases m1 p q1 with rfl | ⟨q1,q3⟩
    ·exact⟨he2,z.2⟩
    ·have y:=st.nw p q1;exact⟨keep _ _ q3 q2 y.1,y.2⟩
  have st2:St c m l2 h2:=⟨F2,N2,R2⟩;have N3:CE c.h₀ c.L h2 ((s.heap.objs.size,Cs [.int i s.toks,v] 0)::l2.Φ):=λp hp=>by
   rcases AS.mp hp with rfl | hp
   ·refine⟨gt,λq => ?_,?_⟩
    ·refine Ee st.fr.ns ?_;rintro oL _ _ hoL _;exact absurd (Bz hoL) (by rw[<- q];exact BP _)
    ·rcases q:c.h₀.get? s.heap.objs.size with _ | o
     ·rfl
     ·exact absurd (Bz (st.fr.keep _ o q)) (BP _)
   ·exact N2 p hp
  refine BL (st2.addTup F2 N3 old (.cons (.int (i:Int) s.toks) (.cons (hvr.mono x12) .nil))) ?_;rintro l3 e3 st3 x3 v3;refine⟨l3,h2,_,rfl,st3,x12.trans x3.weaken,by rw[e3,s2,s1],⟨it,oi',v,hne,x3.all (x2.oth _ o1 (.inr (EF hne))),hj,x3.all o2,hj2,⟨hci',?_⟩,?_⟩,v3⟩
  ·rw[(x12.trans x3.weaken).ad _ _ hn];exact hdi'
  ·rw[e3,s2,s1];exact hn
set_option tactic.hygienic true in
theorem Wh{E₀:Ad->Aq->Prop}{src:Ck}{Q:Option Ad->Aq->Prop}(hh:c.A.handled=none)(st:St c m l s.heap)(hi:F6 J l i I src)(e:B9 l.σ i src=some none)
  (hQ:∀l' h' tk,St c m l' h'->Ap J l l'->l'.σ=l.σ->Q none (put s h' tk)):wpAny c.M c.A (pyNext (.ref I)) Q E₀ s:=by
 rcases src with n | vs | ⟨a,cc,n⟩ | n
 ·refine BL hi ?_;clear hi;rintro o ho hj ⟨hc,hd⟩ hn;simp only[B9]at e;refine Ah (Hu.mp e) ?_;rintro vs e1 e2;refine Ba (st.listAt hn e1) ?_;rintro ws k hm hr;have z:=st.oth_facts ho;have hl:=hr.size;have hv:ws[i]? = none:=by
   rw[Qa]at e2;rw[AaB];exact Qz e2 hl
  refine wpAny_pyNext_list_end hh ⟨o,z.1,hc,hd⟩ (st.isList hm) hv λh' hs' => ?_;refine AE (st.dropOth ho (Kp (by rw[hc];decide)) hs') ?_;rintro l' e' st' x
  exact hQ l' h' s.toks st' (x.widen λa q=>q▸hj) e'
 ·refine NV hi ?_;clear hi;rintro o a ws k ho hj hc hd ht hr;simp only[B9]at e
  split at e
  ·have e2:=Ay e;have z:=st.oth_facts ho;have hl:=hr.length;have hv:ws.toArray[i]? = none:=by
    rw[Qa]at e2;rw[AaB];simp;exact Qz e2 hl
   refine wpAny_pyNext_tuple_end hh ⟨o,z.1,hc,hd⟩ ⟨_,(st.nw _ ht.1).1,rfl,_,rfl⟩ hv λh' hs' => ?_;refine AE (st.dropOth ho (Kp (by rw[hc];decide)) hs') ?_;rintro l' e' st' x
   exact hQ l' h' s.toks st' (x.widen λa q=>q▸hj) e'
  ·exfalso;injection e
 ·refine CZ hi ?_;clear hi;rintro ho hj hle;simp only[B9]at e
  split at e
  ·injection e with za;exfalso;injection za
  ·rename_i hlt;have z:=st.oth_facts ho;refine wpAny_pyNext_range_end hh z.1 (AdE hlt) λh' hs' => ?_;refine AE (st.dropOth ho (Gq rfl) hs') ?_;rintro l' e' st' x;exact hQ l' h' s.toks st' (x.widen λa q=>q▸hj) e'
 ·refine Kk hi ?_;clear hi;rintro it oi old hne ho hj hoi hj2 ⟨hc,hd⟩ hn;simp only[B9]at e;refine Ah (Hu.mp e) ?_;rintro vs e1 e2;have e3:=Option.map_eq_none_iff.mp e2;refine Ba (st.listAt hn e1) ?_;rintro ws k hm hr;have z:=st.oth_facts ho;have zi:=st.oth_facts hoi;have hl:=hr.size;have hv:ws[i]? = none:=by
   rw[Qa]at e3;rw[AaB];exact Qz e3 hl
  refine wpAny_pyNext_enum_end hh z.1 ⟨oi,zi.1,hc,hd⟩ (st.isList hm) hv λh' hs' => ?_;refine AE (st.dropOth hoi (Kp (by rw[hc];decide)) hs') ?_;rintro l' e' st' x
  exact hQ l' h' s.toks st' (x.widen λa q=>q▸hj2) e'
def Hf(l0 l:Am)(v:Ad):Ck->Prop
 | .lst n=>∃vs,VR l v (.ref n)/\l.σ[n]? = some (.list vs)
 | .tup vs=>VR l v (.tup vs)
 | .rng a c n=>RR l v (a,c,n)
 | .enm n=>∃I it oi,v=.ref I/\it≠I/\AQ l (I,KH it 0 .none)/\AQ l (it,oi)/\Rc oi (l.ad n false) 0/\n<l.σ.length/\∀p,AQ l0 p->p.1≠I/\p.1≠it
theorem Hf.up{l2:Am}{src:Ck}(x:Ap No l0 l1)(h:Hf l1 l2 v src):Hf l0 l2 v src:=by
 rcases src with _ | _ | _ | n
 case enm =>
  refine Kk h ?_;clear h;rintro I it oi e hne ho hoi hli hn hf;exact⟨I,it,oi,e,hne,ho,hoi,hli,hn,λp hp=>hf p (x.all hp)⟩
 all_goals exact h
theorem St.pushJ{h:AY}(st:St c m l h)(hf:o.isFreed=false) :
  ∃l':Am,l'.σ=l.σ/\St c m l' (h.push o)/\Ap No l l'/\AQ l' (h.objs.size,o):=by
 refine st.addJ (st.fr.push o) (λp hp => ?_) λp hp=>B6 (Bz (st.nw p hp).1);rcases AS.mp hp with rfl | hp
 ·refine⟨Jc _ hf,λq => ?_,?_⟩
  ·refine Ee st.fr.ns ?_;rintro oL _ _ hoL _;exact absurd (Bz hoL) (by rw[<- q];exact BP _)
  ·rcases q:c.h₀.get? h.objs.size with _ | o
   ·rfl
   ·exact absurd (Bz (st.fr.keep _ o q)) (BP _)
 ·exact⟨Ed _ (st.nw p hp).1,(st.nw p hp).2⟩
set_option tactic.hygienic true in
theorem Wi{src:Ck}(st:St c m l s.heap)(x0:Ap No l0 l)(hv:Hf l0 l v src)
  (hQ:∀I l' h' tk (J:Af->Prop),St c m l' h'->Ap No l l'->l'.σ=l.σ->F6 J l' 0 I src->(∀a,J a->∃o,AQ l' (a,o)/\(∀u,o.data≠.cell u)/\∀vs k,o≠Cs vs k)->(∀p,AQ l0 p->¬J p.1)->Q (.ref I) (put s h' tk)):wpAny c.M c.A (pyIter v) Q E s:=by
 have fr:∀p,AQ l0 p->p.1≠s.heap.objs.size:=λp hp=>B6 (Bz (st.nw p (x0.all hp).1).1);rcases src with n | vs | ⟨a,cc,n⟩ | n
 ·refine Ah hv ?_;clear hv;rintro vs hv hs;refine AE hv.ref_inv ?_;rintro _ rfl hl ha;subst ha;refine Ba (st.list (.ref hl rfl) hs) ?_;rintro ws k hm hr;refine Aap (st.isList hm) ?_;refine BL (st.pushJ (o:={ cls:=.type "list_iterator",data:=.fields #[.ref (l.ad n false),.int 0 0] }) rfl) ?_;rintro l' e st' x ho;exact hQ _ l' _ s.toks (·=s.heap.objs.size) st' x e ⟨_,ho,rfl,⟨rfl,by rw[x.ad _ _ hl];rfl⟩,by rw[e];exact hl⟩ (λa q=>⟨_,q▸ho,λu q=>(by simp at q),Gq rfl⟩) fr
 ·refine CG hv.tup_inv ?_;rintro _ _ _ rfl ho hr;rename_i a ws k;refine wpAny_pyIter_tuple (t:=a) ⟨_,(st.nw _ ho.1).1,rfl,_,rfl⟩ ?_;refine BL (st.pushJ (o:={ cls:=.type "tuple_iterator",data:=.fields #[.ref a,.int 0 0] }) rfl) ?_;rintro l' e st' x ho';exact hQ _ l' _ s.toks (·=s.heap.objs.size) st' x e ⟨_,a,ws,k,ho',rfl,rfl,rfl,x.all ho,hr.mono x⟩ (λa q=>⟨_,q▸ho',λu q=>(by simp at q),Gq rfl⟩) fr
 ·refine Qj hv ?_;clear hv;rintro D b t u w rfl ho h1 h2 h3;refine wpAny_pyIter_range (st.nw _ ho.1).1 h1 ?_;refine BL (st.pushJ (o:=We a (Aaa a b cc) cc) rfl) ?_;rintro l' e st' x ho';refine hQ _ l' _ s.toks (·=s.heap.objs.size) st' x e ⟨?_,rfl,Gl _⟩ (λa q=>⟨_,q▸ho',λu q=>(by simp at q),Gq rfl⟩) fr
  have h2':Aaa a b cc=(n:Int):=h2;rw[h2']at ho'
  simpa using ho'
 ·refine Kk hv ?_;clear hv;rintro I it oi rfl hne ho hoi hli hn hfr;exact AoI (st.nw _ ho.1).1 (hQ I l s.heap s.toks (λa=>a=I\/a=it) st (Ap.refl l) rfl ⟨it,oi,.none,hne,ho,.inl rfl,hoi,.inr rfl,hli,hn⟩ (λa q=>by
   rcases q with rfl | rfl
   ·exact⟨_,ho,λu q=>(by simp at q),Gq rfl⟩
   ·exact⟨_,hoi,λu q=>(by rw[hli.2]at q;(exfalso;injection q)),Gq hli.2⟩) λp hp q=>q.elim (hfr p hp).1 (hfr p hp).2)
noncomputable def Oy(v:CV):CM Nat:=match v with
 | .ref n=>bnd (listC n) λz=>ret n
 | _=>Ar
set_option tactic.hygienic true in
theorem AgI{a:CV}(hv:VR l v a):Aa c FX m l (call (.type "enumerate") [v]) (Oy a) (λl' v n=>Hf l l' v (.enm n)):=by
 unfold Oy
 split
 ·rename_i n;refine AE hv.ref_inv ?_;rintro _ rfl hl ha;refine Aa.getList (.ref hl ha) λcs ws k hs hz z hm hr => ?_;intro s Q E st q _ _;subst ha;refine call_enumerate_list (st.isList hm) λh' he hit hsz hk => ?_;refine AE hit ?_;clear hit;rintro oi hoi hc hd;have F':Fr c.h₀ c.L h' m:=st.fr.keeps hk;have fresh:∀D,s.heap.objs.size<=D->D≠c.L/\c.h₀.get? D=none/\∀p∈l.Φ,p.1≠D:=λD hD=>by
   refine⟨λq => ?_,?_,λp hp q => ?_⟩
   ·refine Ee st.fr.ns ?_;rintro oL _ _ hoL _;have:=Bz hoL;rw[<- q]at this;exact absurd this (DA.mpr hD)
   ·rcases q:c.h₀.get? D with _ | o
    ·rfl
    ·exact absurd (Bz (st.fr.keep _ o q)) (DA.mpr hD)
   ·have:=Bz (st.nw p hp).1;rw[q]at this;exact absurd this (DA.mpr hD)
  have f1:=fresh s.heap.objs.size (AK _);have f2:=fresh (s.heap.objs.size+1) (Hw _);have nd:(([(s.heap.objs.size+1,KH s.heap.objs.size 0 .none),(s.heap.objs.size,oi)]++l.Φ).map (·.1)).Nodup:=by
   show((s.heap.objs.size+1)::s.heap.objs.size::l.Φ.map (·.1)).Nodup;refine Dm.mpr ⟨λhm => ?_,Dm.mpr ⟨λhm => ?_,st.lr.nd⟩⟩
   ·rcases AS.mp hm with e | hm
    ·exact absurd e (Nat.succ_ne_self _)
    ·refine Ah (BB.mp hm) ?_;rintro p hp e;exact f2.2.2 p hp e
   ·refine Ah (BB.mp hm) ?_;rintro p hp e;exact f1.2.2 p hp e
  have x:Ap No l { l with Φ:=[(s.heap.objs.size+1,KH s.heap.objs.size 0 .none),(s.heap.objs.size,oi)]++l.Φ }:=Ap.junk rfl
  refine q n { l with Φ:=[(s.heap.objs.size+1,KH s.heap.objs.size 0 .none),(s.heap.objs.size,oi)]++l.Φ } _ h' s.toks rfl ⟨F',λp hp => ?_,st.lr.junk rfl nd⟩ x
   ⟨_,_,oi,rfl,B6 (Je _),st.lr.junk_oth rfl nd (.head _),st.lr.junk_oth rfl nd (.tail _ (.head _)),⟨hc,hd⟩,hl,λp hp=>⟨f2.2.2 p hp.1,f1.2.2 p hp.1⟩⟩
  rcases AS.mp hp with rfl | hp
  ·exact⟨he,f2.1,f2.2.1⟩
  ·rcases AS.mp hp with rfl | hp
   ·exact⟨hoi,f1.1,f1.2.1⟩
   ·exact⟨hk _ _ (st.nw p hp).1,(st.nw p hp).2⟩
 ·exact Aa.stuck
theorem AgJ{src:Ck}(st:St c m l s.heap)(hi:F6 J l i I src)(hQ:Q (.ref I) s):wpAny c.M c.A (pyIter (.ref I)) Q E s:=by
 rcases src with n | vs | ⟨a,cc,n⟩ | n
 ·refine BL hi ?_;clear hi;rintro o ho hj ⟨hc,hd⟩ hn;exact wpAny_pyIter_listiter ⟨o,(st.nw _ ho.1).1,hc,hd⟩ hQ
 ·refine NV hi ?_;clear hi;rintro o a ws k ho hj hc hd ht hr;exact wpAny_pyIter_tupleiter ⟨o,(st.nw _ ho.1).1,hc,hd⟩ hQ
 ·exact wpAny_pyIter_rangeiter (st.nw _ hi.1.1).1 hQ
 ·refine Kk hi ?_;clear hi;rintro it oi old hne ho hj hoi hj2 _ hn;exact AoI (st.nw _ ho.1).1 hQ
end
end
variable {src:Ck}
section
section
variable {prog:CC}{w:B5}{A:CD}{R:GO->Aq->Prop}{s:Aq}
theorem AgK{it acc:Ad}(I:Nat->Aq->Prop)
  (turn:∀n s (E:Ad->Aq->Prop) (Q0:Option Ad->Aq->Prop) (Q1:Ad->Aq->Prop) (Q2:Aq->Prop) (Q3:Bool->Aq->Prop) (Q4:Ad->Aq->Prop),I n s ->
   (∀s,R (.ok .next) s->Q0 none s)->(∀v s,wpAny (model prog w) A (Aaz target it v) (λz s=>Q1 v s) E s->Q0 (some v) s) ->
   (∀v s,wpAny (model prog w) A (assign target env v) (λz=>Q2) E s->Q1 v s) ->
   (∀s,wpAny (model prog w) A (forIn ifs true λc r=>if r=true then do let ok <- isTrue c env (eval c env);pure (NM ok)else pure (NM r)) Q3 E s->Q2 s) ->
   (∀s m,m<n->I m s->Q3 false s)->(∀s,wpAny (model prog w) A (eval elt env) Q4 E s->Q3 true s) ->
   (∀x s,wpAny (model prog w) A (call (.builtin "list.append") [acc,x]) (λz s=>∃m,m<n/\I m s) E s->Q4 x s)->wpAny (model prog w) A (pyNext it) Q0 E s)
  (n:Nat) (h:I n s) :
  codeAny (model prog w) A (.compLoop (.ListComp elt [⟨target,iter,ifs,0⟩] scope pos) 0 it acc env) R s:=by
 refine codeAny_loop rfl I (λn s hI => ?_) n h;show wpAny _ A ((compTurn (.ListComp elt [⟨target,iter,ifs,0⟩] scope pos) 0 it acc env).onRaise (λx=>do Jf x env;theTreesLotGoes x)) _ _ s
 refine wpAny_noted ?_;rw[compTurn_list];refine Aj (FM (Aj (turn n s _ _ (λv s=>wpAny (model prog w) A _ _ _ s) (λs=>wpAny (model prog w) A _ _ _ s) (λok s=>wpAny (model prog w) A _ _ _ s) (λx s=>wpAny (model prog w) A _ _ _ s) hI (λs h=>AB h) (λv s h=>Aj h) (λv s h=>Aj h) (λs h=>Aj h) (λs m h1 h2=>AB ⟨rfl,m,h1,h2⟩) (λs h=>Aj (Aj h)) (λx s h=>Aj (Kb h (λz s h=>AB (AB ⟨rfl,h⟩)) λz z h=>h)))))
end
noncomputable def Ju(x:CM α):CM α:=λσ=>match x σ with
 | .exc _ _=>.stuck
 | r=>r
noncomputable def HL:List Expr->List CV->Option Ao
 | [],[]=>some []
 | e::es,v::vs=>ob (B7 e) λq=>ob (HL es vs) λr=>some ((q.1,v)::r)
 | [],_::_=>none
 | _::_,[]=>none
noncomputable def Jv(e:Expr)(v:CV):Option Ao:=match B7 e with
 | some q=>some [(q.1,v)]
 | none=>ob (Fq e) λq=>ob (Ob v) λvs=>HL q.1 vs
noncomputable def Db(ks names:AD):AD:=names.map λ(n,k)=>if(k == EG && ks.lookup n == some .cell)then(n,.cell)else(n,k)
noncomputable def Md(ks':AD)(loc:Ao):Ao:=loc.filter λp=>ks'.lookup p.1 == some Uc || ks'.lookup p.1 == some EG
noncomputable def Me(names:AD)(vars:Ao):Bool:=vars.all (λp=>names.lookup p.1 == some NameKind.local) && decide ((vars.map (·.1)).Nodup)
noncomputable def Mf(g:Expr->CM Bool):List Expr->CM Bool
 | []=>ret true
 | [e]=>g e
 | _=>Ar
noncomputable def Gz:Nat:=4100
noncomputable def KI(acc:Nat)(k:CM CV):Option CV->CM CV
 | some y=>bnd (Ha acc y) λz=>k
 | none=>k
noncomputable def EQ(src:Ck)(bf:CV->CM (Option CV))(acc:Nat):Nat->Nat->CM CV
 | 0,_=>Ar
 | n+1,i=>λσ=>match B9 σ i src with
  | none=>.stuck
  | some none=>.ok (.ref acc) σ
  | some (some v)=>bnd (bf v) (KI acc (EQ src bf acc n (i+1))) σ
theorem Wj:∀(src:Ck) (bf:CV->CM (Option CV)) (acc x n:Nat),EQ src bf acc n.succ x=λ(σ:CH)=>match B9 σ x src with | none=>B2.stuck | some none=>B2.ok (CV.ref acc) σ | some (some v)=>bnd (bf v) (KI acc (EQ src bf acc n (x+1))) σ:=by intros;rfl
noncomputable def GA(fv:Ao->Expr->CM CV)(ft:Ao->Expr->CM Bool)(base:Ao)(names:AD)(target elt:Expr)(ifs:List Expr)(v:CV):CM (Option CV):=match Jv target v with
 | none=>Ar
 | some vars=>if Me names vars=true then bnd (Ju (Mf (ft (vars++base)) ifs)) λok=>if ok=true then bnd (Ju (fv (vars++base) elt)) λy=>ret (some y)else ret none
  else Ar
noncomputable def Re(fv:Ao->Expr->CM CV)(ft:Ao->Expr->CM Bool)(base:Ao)(names:AD)(target elt:Expr)(ifs:List Expr)(acc:Nat)(src:Ck)(n i:Nat):CM CV:=EQ src (GA fv ft base names target elt ifs) acc n i
set_option tactic.hygienic true in
theorem El(x:CM α)(f:α->CM β)(g:β->CM γ):bnd (bnd x f) g=bnd x λa=>bnd (f a) g:=by
 funext σ
 unfold bnd;cases (x σ)<;>rfl
set_option tactic.hygienic true in
theorem KJ{x:CM α}{f g:α->CM β}(h:∀a,f a=g a):bnd x f=bnd x g:=by rw[funext h]
theorem AgL{bf:CV->CM (Option CV)}{R:B2 CV}(e:EQ src bf acc (n+1) i σ=R)(ns:R≠.stuck) :
  (B9 σ i src=some none/\R=.ok (.ref acc) σ)\/∃v,B9 σ i src=some (some v)/\bnd (bf v) (KI acc (EQ src bf acc n (i+1))) σ=R:=by
 have e:(match B9 σ i src with
  | none=>.stuck
  | some none=>.ok (.ref acc) σ
  | some (some v)=>bnd (bf v) (KI acc (EQ src bf acc n (i+1))) σ)=R:=e
 generalize KI acc (EQ src bf acc n (i+1))=k at *
 rcases q:B9 σ i src with _ | o
 ·rw[q]at e;exact absurd e.symm ns
 ·rw[q]at e;rcases o with _ | v
  ·exact .inl ⟨rfl,e.symm⟩
  ·exact .inr ⟨v,rfl,e⟩
section
variable {c:FC}{FX:Bh}{m:Ac->Option Ad}{l l':Am}{d:Nat}{env:Env}{loc:Ao}{Γ:AM}{J:Af->Prop}
theorem Wk{x:CM α}(h:Ju x σ≠.stuck):∃a σ',x σ=.ok a σ'/\Ju x σ=.ok a σ':=by
 unfold Ju at h ⊢;rcases e:x σ with _ | ⟨a,σ'⟩ | ⟨y,σ'⟩
 ·rw[e]at h;exact absurd rfl h
 ·exact⟨a,σ',rfl,rfl⟩
 ·rw[e]at h;exact absurd rfl h
theorem Aa.run{t:Sem α}{f:CM β}{V:Am->α->β->Prop}{Q:α->Aq->Prop}{a:β}(h:Aa c FX m l t f V)(st:St c m l s.heap)(e:f l.σ=.ok a σ')
  (hQ:∀l' v h' tk,l'.σ=σ'->St c m l' h'->Ap No l l'->V l' v a->Q v (put s h' tk)):wpAny c.M c.A t Q E s:=by
 refine h s Q E st (λb l' v h' tk e' st' x hv => ?_) (λx l' z z z hx z z => ?_) ?_
 ·rw[e]at e';injection e' with za zb;subst za;subst zb
  exact hQ l' v h' tk rfl st' x hv
 ·rw[e]at hx;(exfalso;injection hx)
 ·rw[e];intro q;(exfalso;injection q)
def Rf(c:FC)(m:Ac->Option Ad)(C:Af)(m₀:Ac->Option Ad)(l:Am)(vars:Ao)(s s':Aq):Prop :=
 ∃l' h' tk oC m',s'=(put s h' tk)/\St c m l' h'/\Ap (·=C) l l'/\l'.σ=l.σ/\AQ l' (C,oC)/\GW oC m'/\(∀x cv,(x,cv)∈vars->∃w,m' x=some w/\VR l' w cv)/\∀x,x∉vars.map (·.1)->m' x=m₀ x
theorem Rg{m:Ac->Option Ad}(h:GW o m):∀vs k,o≠Cs vs k:=by
 refine Ba h ?_;clear h;rintro es ep hd _;exact Vk hd
theorem Wl{Q:Unit->Aq->Prop}(st:St c m l s.heap)(ho:AQ l (cenv.locals,oC))(hn:GW oC m₀)(hk:cenv.kindOf x=some .local)(hf:cenv.scope.kind=.function)
  (hv:VR l v cv) (hQ:∀s',Rf c m cenv.locals m₀ l [(x,cv)] s s'->Q () s') {p:Pos}:wpAny c.M c.A (assign (.Name x p) cenv v) Q E s:=by
 refine AaC (AaD hk (hn.ns (st.nw _ ho.1).1) (λh' hn' hs'=>hQ _ ?_) (by rw[hf];rfl))
 refine Ah (LCg.ns_obj hn') ?_;rintro oC' hg hnn;refine BL (st.turnOth ho (Rg hn) hs' hg) ?_;rintro l' e st' x' o';refine⟨l',h',_,oC',_,rfl,st',x',e,o',hnn,λy cy hy => ?_,λy hy => ?_⟩
 ·rcases AS.mp hy with q | q
  ·injection q with za zb;subst za;subst zb
   exact⟨v,if_pos rfl,hv.mono x'⟩
  ·rcases q with⟨⟩
 ·exact if_neg λq=>hy (by rw[q];exact .head _)
theorem St.keeps{h:AY}(st:St c m l h)(hk:∀b o,h.get? b=some o->h'.get? b=some o):St c m l h':=⟨st.fr.keeps hk,λp hp=>⟨hk _ _ (st.nw p hp).1,(st.nw p hp).2⟩,st.lr⟩
theorem Wm(h:HL (e::es) cvs=some vars):∃x p cv cs r,e=.Name x p/\cvs=cv::cs/\HL es cs=some r/\vars=(x,cv)::r:=by
 rcases cvs with _ | ⟨cv,cs⟩
 ·exact(Aw h).elim
 ·have h:ob (B7 e) (λq=>ob (HL es cs) λr=>some ((q.1,cv)::r))=some vars:=h;refine AN h λq hq h=>AN h λr hr h => ?_;obtain rfl:=Ay h;exact⟨_,_,cv,cs,r,Fp hq,rfl,hr,rfl⟩
theorem AgM(hf:cenv.scope.kind=.function)(es:List Expr):∀(cvs:List CV) (vs:List Ad) (vars:Ao) (s:Aq) (l:Am) (oC:AR) (m₀:Ac->Option Ad) (Q:Unit->Aq->Prop),HL es cvs=some vars->Az l vs cvs ->
  (∀p∈vars,cenv.kindOf p.1=some .local)->(vars.map (·.1)).Nodup->St c m l s.heap->AQ l (cenv.locals,oC)->GW oC m₀->(∀s',Rf c m cenv.locals m₀ l vars s s'->Q () s') ->
  wpAny c.M c.A (Ke ((FS es cenv).map (·.2)) vs) Q E s:=by
 induction es with
 | nil =>
  intro cvs vs vars s l oC m₀ Q e hv;rcases cvs with _ | ⟨_,_⟩
  ·rw[hv.nil_inv,<- Ay e];exact λhl nd st ho hn hQ=>AB (hQ s ⟨l,s.heap,s.toks,oC,m₀,rfl,st,Ap.refl l,rfl,ho,hn,(λz z h=>nomatch h),λz z=>rfl⟩)
  ·exact(Aw e).elim
 | cons t es ih =>
  intro cvs vs vars s l oC m₀ Q e;refine UB (Wm e) ?_;rintro x p cv cs r rfl rfl hr' rfl;intro hv0;refine Bm hv0.cons_inv ?_;rintro v vs rfl hv hr;clear e hv0;intro hl nd st ho hn hQ;refine At (Dm.mp nd) ?_;rintro n1 n2;show wpAny _ _ (do holding vs (assign (.Name x p) cenv v);Ke ((FS es cenv).map (·.2)) vs) _ _ _
  refine Aj (Dg (Wl st ho hn (hl _ (.head _)) hf hv λs' hb => ?_));refine Qk hb ?_;clear hb;rintro l' h' tk oC' m' rfl st' x' e' o' n' b1 b2;refine ih cs vs r _ l' oC' m' Q hr' (hr.mono x') (λq hq=>hl q (.tail _ hq)) n2 st' o' n' λs2 hb2=>hQ s2 ?_;refine Qk hb2 ?_;clear hb2;rintro l2 h2 tk2 oC2 m2 rfl st2 x2 e2 o2 nn2 c1 c2;refine⟨l2,h2,tk2,oC2,m2,rfl,st2,x'.trans x2,e2.trans e',o2,nn2,λy cy hy => ?_,λy hy => ?_⟩
  ·rcases AS.mp hy with q | q
   ·injection q with za zb;subst za;subst zb
    refine Ah (b1 _ _ (.head _)) ?_;rintro w q1 q2;exact⟨w,(c2 _ n1).trans q1,q2.mono x2⟩
   ·exact c1 y cy q
  ·rw[Bj]at hy;rw[c2 y λq=>hy (.tail _ q)];exact b2 y λq=>hy (by
    rcases AS.mp q with q | q
    ·rw[q];exact .head _
    ·rcases q with⟨⟩)
theorem AgN(es:List Expr):∀{cvs:List CV} {vars:Ao},HL es cvs=some vars->es.length=cvs.length/\(∀e∈es,∃x p,e=.Name x p):=by
 induction es with
 | nil =>
  intro cvs vars e;rcases cvs with _ | ⟨_,_⟩
  ·exact⟨rfl,λz h=>nomatch h⟩
  ·exfalso;injection e
 | cons t es ih =>
  intro cvs vars e;refine UB (Wm e) ?_;rintro x p cv cs r rfl rfl hr rfl;refine At (ih hr) ?_;rintro h1 h2;refine⟨by rw[BH,BH,h1],λe he => ?_⟩
  rcases AS.mp he with rfl | he
  ·exact⟨x,p,rfl⟩
  ·exact h2 e he
theorem AgO:∀(es:List Expr),(∀e∈es,∃x p,e=.Name x p)->(FS es env).length=es.length/\(FS es env).findIdx? (·.1)=none:=by
 intro z1
 induction z1 with
 | nil =>
  intro z2;exact⟨rfl,rfl⟩
 | cons e es ih =>
  intro h;refine HA (h e (.head _)) ?_;rintro x p rfl;refine At (ih λe he=>h e (.tail _ he)) ?_;rintro h1 h2;have z:FS (.Name x p::es) env=(false,assign (.Name x p) env)::FS es env:=rfl;rw[z];refine⟨by rw[BH,h1];rfl,?_⟩
  rw[AoJ];simp[h2]
theorem AgP{Q:Unit->Aq->Prop}(hh:c.A.handled=none)(hf:cenv.scope.kind=.function)(e:Jv target cv=some vars)(hv:VR l v cv)
  (hl:∀p∈vars,cenv.kindOf p.1=some .local) (nd:(vars.map (·.1)).Nodup) (st:St c m l s.heap) (ho:AQ l (cenv.locals,oC)) (hn:GW oC m₀) (hQ:∀s',Rf c m cenv.locals m₀ l vars s s'->Q () s') :
  wpAny c.M c.A (assign target cenv v) Q E s:=by
 unfold Jv at e;rcases hq:B7 target with _ | q
 ·rw[hq]at e;refine AN e λq hq e=>AN e λcvs hc e => ?_;obtain rfl:=LM hq;obtain rfl:=Vs hc;refine CG hv.tup_inv ?_;rintro _ _ _ rfl hot hr;refine At (AgN q.1 e) ?_;rintro z1 z2;refine At (AgO (env:=cenv) q.1 z2) ?_;rintro y1 y2;refine AoK hh ⟨_,(st.nw _ hot.1).1,rfl,_,rfl⟩ (by rw[y1,z1,<- hr.length];simp) y2 λh' ex => ?_
  have st':St c m l h':=st.keeps λb o q=>ex b o (B6 (Bz q)) q;exact AgM hf q.1 _ _ _ _ _ _ _ _ e hr hl nd st' ho hn λs' hb=>hQ s' hb
 ·rw[hq]at e;obtain rfl:=Fp hq;obtain rfl:=Ay e;exact Wl st ho hn (hl _ (.head _)) hf hv hQ
theorem CL{x:CM α}{k:α->CM β}{a:α}(h:x σ=.ok a σ'):bnd x k σ=k a σ':=by unfold bnd;rw[h]
theorem Dd{x:CM α}{k:α->CM β}(h:x σ=.stuck):bnd x k σ=.stuck:=by unfold bnd;rw[h]
theorem DD{x:CM α}{k:α->CM β}(h:x σ=.exc y σ'):bnd x k σ=.exc y σ':=by unfold bnd;rw[h]
theorem AgQ{v:CV}:Ha n v σ≠.exc y σ':=by
 intro q;unfold Ha bnd at q;rcases e:listC n σ with _ | ⟨a,s⟩ | ⟨_,_⟩
 ·rw[e]at q;(exfalso;injection q)
 ·rw[e]at q;(exfalso;injection q)
 ·exact Vv e
theorem AgR{v:CV}:∀{a b:Ao},(a++b).lookup x=some v->(x,v)∈a\/(x∉a.map (·.1)/\b.lookup x=some v):=by
 intro z1
 induction z1 with
 | nil =>
  intro b h;exact .inr ⟨by simp,h⟩
 | cons z2 r ih =>
  rcases z2 with⟨y,w⟩
  intro b h;rw[List.cons_append,BC]at h
  by_cases e:x=y
  ·subst e;simp at h;subst h;exact .inl (.head _)
  ·have e1:(x == y)=false:=beq_eq_false_iff_ne.mpr e;rw[e1]at h;rcases ih h with q | ⟨q1,q2⟩
   ·exact .inl (.tail _ q)
   ·refine .inr ⟨?_,q2⟩;rw[Bj,AS,not_or];exact⟨e,q1⟩
theorem AgS{FX:Bh}(h:DX c FX m env l g)(ifs:List Expr):Aa c FX m l (forIn ifs true λc r=>if r=true then do let ok <- isTrue c env (eval c env);pure (NM ok)else pure (NM r)) (Mf g ifs) Eh:=by
 unfold Mf
 split
 ·exact λs Q E st ok exc ns=>wpAny_tests_nil (ok true l true s.heap s.toks rfl st (Ap.refl l) rfl)
 ·exact λs Q E st ok exc ns=>wpAny_tests_one (h.here _ s Q E st ok exc ns)
 ·exact Aa.stuck
theorem AgT{fv:Ao->Expr->CM CV}{ft:Ao->Expr->CM Bool}{v:CV}{k:Option CV->CM CV}{R:B2 CV}(e:bnd (GA fv ft base names target elt ifs v) k σ=R)(ns:R≠.stuck) :
  ∃vars ok σ1,Jv target v=some vars/\Me names vars=true/\Mf (ft (vars++base)) ifs σ=.ok ok σ1/\(ok=false->k none σ1=R)/\(ok=true->∃y σ2,fv (vars++base) elt σ1=.ok y σ2/\k (some y) σ2=R):=by
 unfold GA at e;rcases hb:Jv target v with _ | vars
 ·rw[hb]at e;exact absurd e.symm ns
 ·rw[hb]at e;dsimp only at e
  by_cases hv:Me names vars=true
  ·rw[if_pos hv,El]at e;refine Ba (Wk λq=>ns (e.symm.trans (Dd q))) ?_;rintro ok σ1 t1 t2;rw[CL t2]at e;refine⟨vars,ok,σ1,rfl,hv,t1,λq => ?_,λq => ?_⟩
   ·subst q;exact e
   ·subst q;rw[if_pos rfl,El]at e;refine Ba (Wk λq=>ns (e.symm.trans (Dd q))) ?_;rintro y σ2 t3 t4;rw[CL t4]at e;exact⟨y,σ2,t3,e⟩
  ·rw[if_neg hv]at e;exact absurd e.symm ns
theorem AgU{m':Ac->Option Ad}(hvk:∀p∈vars,cenv.kindOf p.1=some .local)(hb:∀x v k,base.lookup x=some v->cenv.kindOf x=some k->HG c m cenv l x k v)(ho:AQ l (cenv.locals,oC))(hn:GW oC m')
  (hv:∀x cv,(x,cv)∈vars->∃w,m' x=some w/\VR l w cv):B8 c m cenv l (vars++base):=by
 refine⟨λx v k hx hk => ?_,.inr ⟨oC,ho⟩⟩;rcases AgR hx with q | ⟨_,q2⟩
 ·refine Ah (hv x v q) ?_;rintro w w1 w2;have z0:_=_:=hk.symm.trans (hvk _ q);injection z0 with za;subst za
  refine .inr ⟨oC,m',w,ho,λu hu => ?_,hn,w1,w2⟩;refine Ba hn ?_;clear hn;rintro _ _ hd _;rw[hd]at hu;exfalso;injection hu
 ·exact hb x v k q2 hk
theorem AgV{FX:Bh}{D:Af}{fv:Ao->Expr->CM CV}{ft:Ao->Expr->CM Bool}
  {RES:B2 CV} {X:Af->Prop} (hX:∀a,J a->X a) (hXC:∀a,a=cenv.locals->X a) (hh:c.A.handled=none) (hf:cenv.scope.kind=.function)
  (hfv:∀l' loc',B8 c m cenv l' loc'->Bu c FX m cenv l' (fv loc')) (hft:∀l' loc',B8 c m cenv l' loc'->DX c FX m cenv l' (ft loc'))
  (hbase:∀l',Ap X l0 l'->∀x v k,base.lookup x=some v->cenv.kindOf x=some k->HG c m cenv l' x k v) (hJC:¬J cenv.locals) (hfit:He target src=true)
  (st:St c m l s.heap) (x0:Ap X l0 l) (hi:F6 J l 0 I src) (ho:AQ l (cenv.locals,oC)) (hn:GW oC m₀) (hD:VR l (.ref D) (.ref acc))
  (e:Re fv ft base cenv.scope.names target elt ifs acc src n 0 l.σ=RES) (ns:RES≠.stuck)
  (hR:∀l' h' tk oC m',St c m l' h'->Ap X l0 l'->AQ l' (cenv.locals,oC)->GW oC m'->RES=.ok (.ref acc) l'.σ->VR l' (.ref D) (.ref acc)->R (.ok .next) (put s h' tk)) :
  codeAny c.M c.A (.compLoop (.ListComp elt [⟨target,iter,ifs,0⟩] scope pos) 0 (.ref I) (.ref D) cenv) R s:=by
 have e:EQ src (GA fv ft base cenv.scope.names target elt ifs) acc n 0 l.σ=RES:=e;have hin:∀{v k σ},bnd (GA fv ft base cenv.scope.names target elt ifs v) k σ=RES->_:=λe=>AgT e ns
 generalize GA fv ft base cenv.scope.names target elt ifs=bf at e hin
 obtain⟨W,hW⟩:∃W:Nat->Aq->Prop,∀k s',W k s'↔∃l h' tk i oC m',s'=put s h' tk/\St c m l h'/\Ap X l0 l/\F6 J l i I src/\AQ l (cenv.locals,oC)/\GW oC m'/\VR l (.ref D) (.ref acc)/\EQ src bf acc k i l.σ=RES:=⟨_,λz z=>Iff.rfl⟩;refine AgK W (λk s' E Q0 Q1 Q2 Q3 Q4 hs q0 q1 q2 q3 q4 q5 q6 => ?_) n ((hW _ _).mpr ⟨l,s.heap,s.toks,0,oC,m₀,rfl,st,x0,hi,ho,hn,hD,e⟩);refine Q68 ((hW _ _).mp hs) ?_;rintro l h' tk i oC m' rfl st x0 hi ho hn hD e;rcases k with _ | k
 ·exact absurd e.symm ns
 ·rcases AgL e ns with⟨hit,e⟩ | ⟨cv,hit,e⟩
  ·exact Wh hh st hi hit λl' h2 tk2 st' x' e'=>q0 _ (hR l' h2 tk2 oC m' st' (x0.trans (x'.widen hX)) (x'.oth _ ho (.inr hJC)) hn (by rw[e',e]) (hD.mono x'))
  ·refine Ux (hin e) ?_;rintro vars ok σ1 hb hvk t1 t2 t3;have hvk':=Nf.mp hvk;have hvk1:∀p∈vars,cenv.kindOf p.1=some .local:=λp hp=>Kf (B0.mp hvk'.1 p hp);refine Wg st hi hfit hit (Q2:=Q1) (λv s₂ hN=>q2 _ _ ?_) q1;refine Uy hN ?_;clear hN;rintro l1 h1 tk1 rfl st1 x1 e1 hi1 hv1;refine AgP hh hf hb hv1 hvk1 (of_decide_eq_true hvk'.2) st1 (x1.oth _ ho (.inr hJC)) hn λs3 hB=>q3 _ ?_;refine Qk hB ?_;clear hB;rintro l2 h2 tk2 oC2 m2 rfl st2 x2 e2 o2 n2 b1 _;have x02:=(x0.trans (x1.widen hX)).trans (x2.widen hXC);have hE:=AgU hvk1 (hbase l2 x02) o2 n2 b1;refine(AgS (hft l2 _ hE) ifs).run st2 (by rw[e2,e1];exact t1) λl3 r h3 tk3 e3 st3 x3 hr => ?_
   have hr:r=ok:=hr;subst hr;have hi3:=(hi1.mono x2 λa q q'=>hJC (q'▸q)).mono x3 λz z q=>q;have hD3:=((hD.mono x1).mono x2).mono x3;rcases r with _ | _
   ·exact q4 _ k (Je _) ((hW _ _).mpr ⟨l3,h3,tk3,i+1,oC2,m2,rfl,st3,x02.trans x3.weaken,hi3,x3.all o2,n2,hD3,by rw[e3];exact t2 rfl⟩)
   ·refine Ba (t3 rfl) ?_;rintro y σ2 t3 t4;refine q5 _ (((hfv l2 _ hE) elt l3 x3).run st3 (by rw[e3];exact t3) λl4 v4 h4 tk4 e4 st4 x4 hv4=>q6 _ _ ?_)
    have e':bnd (Ha acc y) (λz=>EQ src bf acc k (i+1)) l4.σ=RES:=by rw[e4];exact t4
    refine VO (FX:=FX) (hD3.mono x4) hv4 _ _ _ st4 (λb l5 v5 h5 tk5 e5 st5 x5 hv5 => ?_) (λy l5 z z z hx z z=>absurd hx AgQ) λq=>ns (e'.symm.trans (Dd q));rw[CL e5]at e';have x35:=x4.trans x5;exact⟨k,Je _,(hW _ _).mpr ⟨l5,h5,tk5,i+1,oC2,m2,rfl,st5,(x02.trans x3.weaken).trans x35.weaken,hi3.mono x35 λz z q=>q,x35.all (x3.all o2),n2,hD3.mono x35,e'⟩⟩
end
end
section
noncomputable def Fy(cells:List (Ac×Af)):AD->List (Ac×Af)->List (Ac×Af)
 | [],cs=>cs
 | (n,k)::r,cs=>Fy cells r (if(k == EG)=true then match cells.lookup n with
  | some a=>(n,a)::cs
  | none=>cs else cs)
theorem Wn:∀(cells x:List (Ac×Af)) (n:Ac) (k:Go) (r:List (Ac×Go)),Fy cells ((n,k)::r) x=Fy cells r (if(k == EG)=true then match AaE n cells with | some a=>(n,a)::x | none=>x else x):=by intros;rfl
theorem AgW:∀(cells x:List (Ac×Af)),Fy cells [] x=x:=by intros;rfl
theorem AgX(cells:List (Ac×Af)):∀(names:AD) (cs:List (Ac×Af)),(∀n a,cs.lookup n=some a->cells.lookup n=some a)->∀n,((n,EG)∈names\/(cs.lookup n).isSome=true)->(∀n,(n,EG)∈names->(cells.lookup n).isSome=true) ->
  (Fy cells names cs).lookup n=cells.lookup n:=by
 intro z1
 induction z1 with
 | nil =>
  intro cs h n hn z3;rcases hn with hn | hn
  ·rcases hn with⟨⟩
  ·rw[AgW];refine AI (Kc.mp hn) ?_;rintro a e;rw[e,h n a e]
 | cons z2 r ih =>
  rcases z2 with⟨y,k⟩
  intro cs h n hn hc;rw[Wn]
  by_cases hk:(k == EG)=true
  ·rw[if_pos hk];have hk':k=.free:=Kf hk;subst hk';refine AI (Kc.mp (hc y (.head _))) ?_;rintro a ea;rw[ea];dsimp only;refine ih ((y,a)::cs) (λn' a' e => ?_) n ?_ λn' hn'=>hc n' (.tail _ hn')
   ·rw[BC]at e
    by_cases q:n'=y
    ·subst q;simp at e;subst e;exact ea
    ·have q1:(n' == y)=false:=beq_eq_false_iff_ne.mpr q;rw[q1]at e;exact h n' a' e
   ·by_cases q:n=y
    ·subst q
     right
     simp
    ·have q1:(n == y)=false:=beq_eq_false_iff_ne.mpr q;rcases hn with hn | hn
     ·rcases AS.mp hn with hn | hn
      ·injection hn with za zb;subst za;rcases zb with⟨⟩;exact absurd rfl q
      ·exact .inl hn
     ·right
      rw[BC,q1];exact hn
  ·rw[if_neg hk];refine ih cs h n ?_ λn' hn'=>hc n' (.tail _ hn');rcases hn with hn | hn
   ·rcases AS.mp hn with hn | hn
    ·injection hn with za zb;subst za;subst zb;exact absurd rfl hk
    ·exact .inl hn
   ·exact .inr hn
theorem AgY(hc:∀n,(n,EG)∈scope.names->(env.cells.lookup n).isSome=true):closureFor scope env=pure (Fy env.cells scope.names []):=by
 have key:∀(names:AD) (cs:List (Ac×Af)),(∀n,(n,EG)∈names->(env.cells.lookup n).isSome=true) ->
   (forIn names cs λx cs=>(do
    let (name,kind):=x
    if kind == .free then pure (NM ((name,<- cellOf env name)::cs))else pure (NM cs):Sem (ForInStep (List (Ac×Af)))))=pure (Fy env.cells names cs):=by
  intro names
  induction names with
  | nil=>intro cs _;rfl
  | cons p r ih =>
   intro cs hc;rcases p with⟨n,k⟩
   have ih':=λcs=>ih cs λn' hn'=>hc n' (.tail _ hn');rw[Ud];rw[Wn]
   by_cases hk:(k == EG)=true
   ·have hk':k=.free:=Kf hk;refine AI (Kc.mp (hc n (by rw[hk'];exact .head _))) ?_;rintro a ea
    simp only[hk,if_true,cellOf,ea,Qb];exact ih' _
   ·simp only[hk,if_false,Qb,Jd];exact ih' _
 unfold closureFor;exact(congrArg (· >>= λs=>(pure s:Sem (List (Ac×Af)))) (key scope.names [] hc)).trans rfl
noncomputable def Mg(t:CM CV):CM Ck:=bnd t λv=>match v with
 | .tup vs=>ret (.tup vs)
 | .ref n=>bnd (listC n) λz=>ret (.lst n)
 | _=>Ar
noncomputable def GB(f:Expr->CM CV)(Γ:AM)(ks:AD)(e:Expr):CM Ck:=match Jl e with
 | some q=>if q.1 = "range" then(if CS Γ ks "range" (.type "range")=true/\noStar q.2.2.1=true then bnd (bnd (Bx f q.2.2.1) HI) λr=>ret (.rng r.1 r.2.1 r.2.2)else Ar)
  else if q.1 = "enumerate" then(match Fs q.2.2.1 with
   | some a=>if CS Γ ks "enumerate" (.type "enumerate")=true/\C8 a=false then bnd (bnd (f a) Oy) λn=>ret (.enm n)else Ar
   | none=>Ar)
  else Mg (f e)
 | none=>Mg (f e)
section
variable {c:FC}{FX:Bh}{m:Ac->Option Ad}{l l':Am}{d:Nat}{env:Env}{loc:Ao}{Γ:AM}{J:Af->Prop}
set_option tactic.hygienic true in
theorem AgZ{f:CM CV}(h:Aa c FX m l t f VR):Aa c FX m l t (Mg f) (Hf l):=by
 have:t=(t >>= pure):=(bind_pure t).symm;rw[this];unfold Mg;refine Aa.bind h λv a l1 z x hv => ?_
 split
 ·exact Aa.pure (V:=Hf l) hv
 ·rename_i n;refine AE hv.ref_inv ?_;rintro _ rfl hl ha;exact Aa.getList (.ref hl ha) λcs ws k hs hz z hm hr=>Aa.pure (V:=Hf l) ⟨cs,.ref hl ha,hs⟩
 ·exact Aa.stuck
theorem Wo(ok:AJ c d)(g:Bn c.K Γ)(eo:Ce c env){f:Expr->CM CV}(h:Bu c FX m env l f)(e:Expr):Aa c FX m l (eval e env) (GB f Γ env.scope.names e) (Hf l):=by
 have df:=AgZ (h.here e);unfold GB;rcases hq:Jl e with _ | ⟨x,p,rs,p2⟩
 ·exact df
 ·obtain rfl:=Vr hq;clear hq;dsimp only
  by_cases hx:x = "range"
  ·rw[if_pos hx];subst hx;refine Aa.guard λzz => ?_;refine At zz ?_;clear zz;rintro h1 h2;exact Aa.mapC (V5 ok g eo h h1 h2) λl' v r hr=>hr
  rw[if_neg hx]
  by_cases hx2:x = "enumerate"
  ·rw[if_pos hx2];subst hx2;rcases ho:Fs rs with _ | a
   ·exact Aa.stuck
   ·obtain rfl:=Jk ho;clear ho;refine Aa.guard λzz => ?_;refine At zz ?_;clear zz;rintro h1 h2;refine Aa.mapC (g:=λn=>Ck.enm n) (V:=λl' v n=>Hf l l' v (.enm n)) ?_ λl' v r hr=>hr;refine Jr ok g eo h1 ⟨_,.inr rfl⟩ (by simp[noStar,h2]) (L9 h2 (h.here a)) λvs a' l' x' zz => ?_
    refine Ah zz ?_;clear zz;rintro v e hv;subst e;exact(AgI hv).mono λl2 v2 n hs=>hs.up x'
  ·rw[if_neg hx2];exact df
noncomputable def Hg(e:Expr):Bool := !EE e.ctorIdx 7
theorem Wp(h:Hg e=true)(v:Ad):foldedSetIterable e env v=pure v:=by
 rcases e with⟨⟩<;>first | rfl | (exfalso;injection h)
noncomputable def Ix(ks:AD)(loc:Ao)(scope:Scope):Bool:=(scope.kind == .function) && scope.names.all λp=>(p.2 != .cell) && (p.2 != .local || scope.names.lookup p.1 == some .local) && (p.2 != .free || ((loc.lookup p.1).isSome && (ks.lookup p.1 == some .cell || ks.lookup p.1 == some .free)))
noncomputable def DN(Γ:AM)(f:Expr->CM CV)(fv:AD->Ao->Expr->CM CV)(ft:AD->Ao->Expr->CM Bool)(ks:AD)(loc:Ao)(elt:Expr)(gens:List GU)(scope:Scope):CM CV:=match LN gens with
 | some q=>if Ix ks loc scope=true/\Hg q.2.1=true then bnd (GB f Γ ks q.2.1) λsrc=>if He q.1 src=true then
   bnd (BV []) λa=>match a with
    | .ref acc=>Re (fv (Db ks scope.names)) (ft (Db ks scope.names)) (Md (Db ks scope.names) loc) (Db ks scope.names) q.1 elt q.2.2 acc src Gz 0
    | _=>Ar
   else Ar else Ar
 | none=>Ar
theorem Ag0{k:Go}:∀{ns:AD},ns.lookup x=some k->(x,k)∈ns:=by
 intro z1
 induction z1 with
 | nil=>intros;contradiction
 | cons z2 r ih =>
  rcases z2 with⟨n,k'⟩
  intro h;rw[BC]at h
  by_cases e:x=n
  ·subst e;simp at h;subst h;exact .head _
  ·rw[beq_eq_false_iff_ne.mpr e]at h;exact .tail _ (ih h)
set_option tactic.hygienic true in
theorem Ag1{k:Go}(h:(x,k)∈Db ks names):(x,k)∈names\/(k=.cell/\(x,EG)∈names/\ks.lookup x=some .cell):=by
 refine Ah (BB.mp h) ?_;rintro p hp e;rcases p with⟨n,k'⟩
 dsimp only at e
 split at e
 ·rename_i hc;simp only[A9,beq_iff_eq]at hc;injection e with za zb;subst za;subst zb
  exact .inr ⟨rfl,by rw[<- hc.1];exact hp,hc.2⟩
 ·injection e with za zb;subst za;subst zb
  exact .inl hp
theorem Ag2(eo:Ce c env)(scope:Scope):(relabel scope env).names=Db env.scope.names scope.names:=by
 show scope.names.map _=scope.names.map _;refine Lz λp hp => ?_;rcases p with⟨n,k⟩
 have h2:(AoL == AoL)=true:=rfl;dsimp only;rw[eo.kind,h2,AnW];rfl
set_option tactic.hygienic true in
theorem Ag3{ks':AD}{v:CV}:∀{loc:Ao},(Md ks' loc).lookup x=some v->loc.lookup x=some v/\(ks'.lookup x=some .cell\/ks'.lookup x=some .free):=by
 intro z1
 induction z1 with
 | nil =>
  intro h;exfalso;injection h
 | cons z2 r ih =>
  rcases z2 with⟨y,w⟩
  intro h;unfold Md at h;rw[AaF]at h
  by_cases e:x=y
  ·subst e
   split at h
   ·rename_i hc;simp at h;subst h;refine⟨by simp,?_⟩
    simpa using hc
   ·rename_i hc;exfalso;have:=(ih h).2;exact hc (by simpa using this)
  ·have e1:(x == y)=false:=beq_eq_false_iff_ne.mpr e;rw[BC,e1]
   split at h
   ·rw[BC,e1]at h;exact ih h
   ·exact ih h
theorem Rh:∀{Φ:List (Af×AR)} {p q:Af×AR},(Φ.map (·.1)).Nodup->p∈Φ->q∈Φ->p.1=q.1->p=q:=by
 intro z1
 induction z1 with
 | nil =>
  intro z2 z3 z4 h z5 z6
  (rcases h with⟨⟩)
 | cons a r ih =>
  intro p q nd hp hq e;rw[Bj]at nd;refine At (Dm.mp nd) ?_;rintro n1 n2;rcases AS.mp hp with h1 | h1<;>rcases AS.mp hq with h2 | h2
  ·rw[h1,h2]
  ·exact absurd (by rw[<- h1,e];exact Dl (f:=(·.1)) h2) n1
  ·exact absurd (by rw[<- h2,<- e];exact Dl (f:=(·.1)) h1) n1
  ·exact ih n2 h1 h2 e
noncomputable def Mh(fv:AD->Ao->Expr->CM CV)(ft:AD->Ao->Expr->CM Bool)(ks:AD)(loc:Ao)(elt target:Expr)(ifs:List Expr)(scope:Scope)(src:Ck):CM CV:=if He target src=true then
   bnd (BV []) λa=>match a with
    | .ref acc=>Re (fv (Db ks scope.names)) (ft (Db ks scope.names)) (Md (Db ks scope.names) loc) (Db ks scope.names) target elt ifs acc src Gz 0
    | _=>Ar
   else Ar
theorem Ag4{fv:AD->Ao->Expr->CM CV}{ft:AD->Ao->Expr->CM Bool}{gens:List GU}(ns:DN Γ f fv ft ks loc elt gens scope σ≠.stuck) :
  ∃target iter ifs,gens=[⟨target,iter,ifs,0⟩]/\Ix ks loc scope=true/\Hg iter=true/\DN Γ f fv ft ks loc elt gens scope=bnd (GB f Γ ks iter) (Mh fv ft ks loc elt target ifs scope):=by
 rcases e:LN gens with _ | q
 ·have z:DN Γ f fv ft ks loc elt gens scope=Ar:=by unfold DN;rw[e]
  rw[z]at ns;exact absurd rfl ns
 ·have z:DN Γ f fv ft ks loc elt gens scope=if Ix ks loc scope=true/\Hg q.2.1=true then bnd (GB f Γ ks q.2.1) (Mh fv ft ks loc elt q.1 q.2.2 scope)else Ar:=by unfold DN;rw[e];rfl
  rw[z]at ns
  by_cases hc:Ix ks loc scope=true/\Hg q.2.1=true
  ·exact⟨q.1,q.2.1,q.2.2,Vq e,hc.1,hc.2,z.trans (if_pos hc)⟩
  ·rw[if_neg hc]at ns;exact absurd rfl ns
set_option tactic.hygienic true in
theorem Wq{FX:Bh}(ok:AJ c d)(g:Bn c.K Γ)(eo:Ce c env)(er:B8 c m env l loc){f:Expr->CM CV}(h:Bu c FX m env l f){fv:AD->Ao->Expr->CM CV}{ft:AD->Ao->Expr->CM Bool}
  (hfv:∀env' l' loc',Ce c env'->B8 c m env' l' loc'->Bu c FX m env' l' (fv env'.scope.names loc')) (hft:∀env' l' loc',Ce c env'->B8 c m env' l' loc'->DX c FX m env' l' (ft env'.scope.names loc'))
  {elt:Expr} {gens:List GU} {scope:Scope} {pos p2:Pos} {use:Option (Ad->Sem Unit)} {s:Aq} {Q:Ad->Aq->Prop} {E:Ad->Aq->Prop} (st:St c m l s.heap)
  (hok:∀b l1 D h' tk C oC m',DN Γ f fv ft env.scope.names loc elt gens scope l.σ=.ok b l1.σ->St c m l1 h'->Ap No l l1->VR l1 (.ref D) b->AQ l1 (C,oC)->GW oC m'->C≠env.locals->(∀p,AQ l p->p.1≠C) ->
   compPost c.M c.A E use Q (.ref D) C (.ok .next) (put s h' tk))
  (hexc:∀x l' e h' tk,DN Γ f fv ft env.scope.names loc elt gens scope l.σ=.exc x l'.σ->Ap No l l'->FX l' x e h'->E e (put s h' tk))
  (ns:DN Γ f fv ft env.scope.names loc elt gens scope l.σ≠.stuck) :
  wpAny c.M c.A (AaG (.ListComp elt gens scope pos) scope env p2 (newList []) (AaH gens) (AaI gens env) use) Q E s:=by
 refine EZ (Ag4 ns) ?_;rintro target iter ifs rfl hc hset eC;rw[eC]at hok hexc ns;simp only[Ix,A9,B0,beq_iff_eq,TX,bne_iff_ne,ne_eq]at hc;refine At hc ?_;clear hc;rintro hk hnm;have hfree:∀n,(n,EG)∈scope.names->∃v,loc.lookup n=some v/\(env.scope.names.lookup n=some .cell\/env.scope.names.lookup n=some .free):=λn hn=>by
  have z:=(hnm _ hn).2;rcases z with z | z
  ·exact absurd rfl z
  ·refine AI (Kc.mp z.1) ?_;rintro v e;exact⟨v,e,z.2⟩
 have hcells:∀n,(n,EG)∈scope.names->(env.cells.lookup n).isSome=true:=λn hn=>by
  refine Ah (hfree n hn) ?_;rintro v e hk;rcases hk with hk | hk
  ·refine Ee (er.nm n v _ e hk) ?_;rintro a o w e1 _;rw[e1];rfl
  ·refine Ee (er.nm n v _ e hk) ?_;rintro a o w e1 _;rw[e1];rfl
 have hlook:=AgX env.cells scope.names [] (λj j q=>by(exfalso;injection q))
 refine wpAny_comprehension_free (g:=⟨target,iter,ifs,0⟩) (gs:=[]) rfl (Wp hset) (AgY hcells) hk (λx hx hl => ?_) ?_
 ·rcases(hnm _ hx).1.2 with z | z
  ·exact absurd hl z
  ·exact z
 refine Wo ok g eo h iter s _ E st (λsrc l1 v h1 tk1 e1 st1 x1 hsrc => ?_) (λx l' e h' tk hx xx fx=>hexc x l' e h' tk (DD hx) xx fx) λq=>ns (Dd q);rw[CL e1]at ns hok;unfold Mh at ns hok
 by_cases hfit:He target src=true
 ·rw[if_pos hfit]at ns hok;refine Wi st1 x1 hsrc λI l2 h2 tk2 J st2 x2 e2 hi hJ hJ0 => ?_;rw[<- e2]at ns hok;refine Vu (c:=c) (FX:=FX) (l:=l2) (vs:=[]) (cs:=[]) .nil _ _ _ st2 (λb l3 v3 h3 tk3 e3 st3 x3 hv3 => ?_) (λx l' j j j hx j j => ?_) (λq=>ns (Dd q))
  ·rw[CL e3]at ns hok;have hb:b=.ref l2.σ.length:=by
    have:BV [] l2.σ=.ok (.ref l2.σ.length) (l2.σ++[.list []]):=rfl;exact(B2.ok_inj (this.symm.trans e3)).1.symm
   subst hb;dsimp only at ns hok;refine AE hv3.ref_inv ?_;rintro _ rfl hl3 ha3;rename_i D;have hD:VR l3 (.ref D) (.ref l2.σ.length):=.ref hl3 ha3;refine wpAny_newFunctionEnv (λx hx => ?_) (λy hy=>by rcases hy with⟨⟩) (λh4 hns4 hs4 => ?_) hk
   ·exact(hnm _ hx).1.1
   dsimp only at hns4 hs4;have hCfresh:∀p∈l3.Φ,p.1<h3.objs.size:=λp hp=>Bz (st3.nw p hp).1;refine Ah (LCg.ns_obj hns4) ?_;rintro oC hgC hnC;have k4:∀b o,h3.get? b=some o->h4.get? b=some o:=λb o q=>hs4.extBut b o (B6 (Bz q)) (Ed _ q);have st4:St c m l3 h4:=st3.keeps k4;have hCL:h3.objs.size≠c.L:=λq=>by
    refine Ee st3.fr.ns ?_;rintro oL _ _ hoL _;exact absurd (Bz hoL) (by rw[<- q];exact BP _)
   have hC0:c.h₀.get? h3.objs.size=none:=by
    rcases q:c.h₀.get? h3.objs.size with _ | o
    ·rfl
    ·exact absurd (Bz (st3.fr.keep _ o q)) (BP _)
   refine BL (st4.addJ (D:=h3.objs.size) (o:=oC) st4.fr (λp hp=>by
    rcases AS.mp hp with rfl | hp
    ·exact⟨hgC,hCL,hC0⟩
    ·exact st4.nw p hp) λp hp=>B6 (hCfresh p hp)) ?_;rintro l5 e5 st5 x5 o5
   show codeAny _ _ (.compStart _ 0 (.ref I) (.ref D) (compEnvC scope (Fy env.cells scope.names []) h3.objs.size env)) _ _;have x03:Ap No l l3:=(x1.trans x2).trans x3;have hCe:h3.objs.size≠env.locals:=λq=>by
    rcases er.lo with e | ⟨o,ho⟩
    ·exact hCL (q.trans e)
    ·have:=hCfresh _ (x03.all ho).1;rw[<- q]at this;exact absurd this (BP _)
   have hJC:¬J h3.objs.size:=λq=>by
    refine Ah (hJ _ q) ?_;rintro o ho _;exact absurd (hCfresh _ (x3.all ho).1) (BP _)
   have x05:Ap No l l5:=((x1.trans x2).trans x3).trans x5;have eo':Ce c (compEnvC scope (Fy env.cells scope.names []) h3.objs.size env):=⟨eo.globals,eo.builtins,hk,eo.frame⟩;have hnames:(compEnvC scope (Fy env.cells scope.names []) h3.objs.size env).scope.names=Db env.scope.names scope.names:=Ag2 eo scope;have loop:codeAny c.M c.A (.compLoop (.ListComp elt [⟨target,iter,ifs,0⟩] scope pos) 0 (.ref I) (.ref D) (compEnvC scope (Fy env.cells scope.names []) h3.objs.size env)) (compPost c.M c.A E use Q (.ref D) h3.objs.size) (put s h4 (tk3+([]:List (Ac×Ad)).length)):=by
    refine AgV (l0:=l5) (l:=l5) (fv:=fv (Db env.scope.names scope.names)) (ft:=ft (Db env.scope.names scope.names)) (base:=Md (Db env.scope.names scope.names) loc) (J:=J) (src:=src) (oC:=oC) (n:=Gz) (X:=λa=>J a\/a=h3.objs.size)
     (λj=>.inl) (λj=>.inr) ok.handled hk (λl' loc' er'=>by have:=hfv _ l' loc' eo' er';rw[hnames]at this;exact this) (λl' loc' er'=>by have:=hft _ l' loc' eo' er';rw[hnames]at this;exact this) (λl' xd x v k hx hkx => ?_) ?_ hfit st5 (Ap.refl l5) ((hi.mono x3 λj j q=>q).mono x5 λj j q=>q) o5 hnC (hD.mono x5) (by rw[hnames,e5]) ns λl' h' tk oC' m' st' xd ho' hn' er hD' => ?_
    ·have hkx':(Db env.scope.names scope.names).lookup x=some k:=by rw[<- hnames];exact hkx
     refine At (Ag3 hx) ?_;rintro hx1 hx2;have hfr:(x,EG)∈scope.names/\(k=.cell\/k=.free):=by
      rcases Ag1 (Ag0 hkx')with q | ⟨q1,q2,_⟩
      ·have hne:=(hnm _ q).1.1;rw[hkx']at hx2;rcases hx2 with z | z
       ·exact absurd (Ay z) hne
       ·have:=Ay z;subst this;exact⟨q,.inr rfl⟩
      ·exact⟨q2,.inl q1⟩
     refine Ah (hfree x hfr.1) ?_;rintro v' hv' hkk;have hvv:v'=v:=Ay (hv'.symm.trans hx1);subst hvv;have key:∃a o w,env.cells.lookup x=some a/\AQ l (a,o)/\o.data=.cell (some w)/\VR l w v':=by
      rcases hkk with hkk | hkk
      ·exact er.nm x v' _ hx1 hkk
      ·exact er.nm x v' _ hx1 hkk
     refine EZ key ?_;clear key;rintro a o w e1 ho hd hv;have hcl:(Fy env.cells scope.names []).lookup x=some a:=by rw[hlook x (.inl hfr.1) hcells];exact e1
     have ho5:=x05.all ho;have ho':AQ l' (a,o):=xd.oth _ ho5 (.inr λq=>by
      rcases q with q | q
      ·refine AE (hJ _ q) ?_;rintro o2 ho2 hn2 _;have:=Rh st2.lr.nd ho2.1 ((x1.trans x2).all ho).1 rfl;injection this with za zb;rcases za with⟨⟩;subst zb
       exact hn2 _ hd
      ·have:=hCfresh _ (x03.all ho).1;have q':a=h3.objs.size:=q;rw[q']at this;exact absurd this (BP _))
     have fin:∃a o w,(Fy env.cells scope.names []).lookup x=some a/\AQ l' (a,o)/\o.data=.cell (some w)/\VR l' w v':=⟨a,o,w,hcl,ho',hd,(hv.mono x05).mono xd⟩;rcases hfr.2 with rfl | rfl
     ·exact fin
     ·exact fin
    ·exact hJC
    ·have xN:Ap No l l':=((x05.weaken).trans xd).narrow λp hp q=>by
      rcases q with q | q
      ·exact absurd q (hJ0 p hp)
      ·have:=hCfresh _ (x03.all hp).1;have q':p.1=h3.objs.size:=q;rw[q']at this;exact absurd this (BP _)
     exact hok _ l' D h' tk _ oC' m' er st' xN hD' ho' hn' hCe λp hp q=>by
      have:=hCfresh _ (x03.all hp).1;rw[q]at this;exact absurd this (BP _)
   exact codeAny_compStart_list loop (AgJ (J:=J) (s:=(put s h4 (tk3+([]:List (Ac×Ad)).length))) st5 ((hi.mono x3 λj j q=>q).mono x5 λj j q=>q) loop)
  ·unfold BV at hx
   split at hx<;>(exfalso;injection hx)
 ·rw[if_neg hfit]at ns;exact absurd rfl ns
theorem St.comp_end{h:AY}{mC:Ac->Option Ad}(st:St c m l h)(x:Ap No l0 l)(ho:AQ l (C,oC))(hn:GW oC mC)(hf:∀p,AQ l0 p->p.1≠C)(hs:T5 C h h') :
  ∃l':Am,l'.σ=l.σ/\St c m l' h'/\Ap No l0 l'/\Ap (·=C) l l':=by
 refine AE (st.dropOth ho (Rg hn) hs.extBut) ?_;rintro l' e st' x';exact⟨l',e,st',(x.weaken.trans x').narrow λp hp q=>absurd q (hf p hp),x'⟩
theorem Ag5{FX:Bh}(ok:AJ c d)(g:Bn c.K Γ)(eo:Ce c env)(er:B8 c m env l loc){f:Expr->CM CV}(h:Bu c FX m env l f){fv:AD->Ao->Expr->CM CV}{ft:AD->Ao->Expr->CM Bool}
  (hfv:∀env' l' loc',Ce c env'->B8 c m env' l' loc'->Bu c FX m env' l' (fv env'.scope.names loc')) (hft:∀env' l' loc',Ce c env'->B8 c m env' l' loc'->DX c FX m env' l' (ft env'.scope.names loc'))
  {elt:Expr} {gens:List GU} {scope:Scope} {pos:Pos}:Aa c FX m l (eval (.ListComp elt gens scope pos) env) (DN Γ f fv ft env.scope.names loc elt gens scope) VR:=by
 intro s Q E st q exc ns;rw[arm_eval_ListComp];refine Wq ok g eo er h hfv hft st (λb l1 D h' tk C oC m' e st' x hD ho hn hCe hf => ?_) exc ns;refine⟨m',hn.ns (st'.nw _ ho.1).1,λh2 hs => ?_⟩;refine BL (st'.comp_end x ho hn hf hs) ?_;rintro l2 e2 st2 x2 x3;exact q b l2 (.ref D) h2 tk (by rw[e2];exact e) st2 x2 (hD.mono x3)
end
end
section
inductive Jw where
 | rng (rs:List Expr)
 | sset (e:Expr)
 | dct (e:Expr)
noncomputable def Mi:List Expr->Option Expr
 | [e]=>some e
 | _=>none
theorem Wr(h:Mi es=some e):es=[e]:=by
 rcases es with _ | ⟨a,r⟩
 ·exfalso;injection h
 ·rcases r with _ | ⟨_,_⟩
  ·injection h with za;subst za;rfl
  ·exfalso;injection h
noncomputable def Jx(Γ:AM)(ks:AD)(x:Ac)(es:List Expr):Option Jw:=match Mi es with
 | none=>none
 | some e=>match Jl e with
  | some (y,_,rs,_)=>if x=Ab "list" /\ y=Ab "range" /\ CS Γ ks (Ab "range") (.type "range")=true/\CS Γ ks (Ab "list") (.type "list")=true/\noStar rs=true then some (.rng rs)
   else if x=Ab "sorted" /\ y=Ab "set" /\ CS Γ ks (Ab "set") (.type "set")=true/\CS Γ ks (Ab "sorted") (.builtin "sorted")=true then(match Mi rs with
    | some e=>if C8 e=false then some (.sset e)else none
    | none=>none)else none
  | none=>if x=Ab "dict" /\ CS Γ ks (Ab "dict") (.type "dict")=true/\C8 e=false then some (.dct e)else none
noncomputable def Ws(f:Expr->CM CV):Jw->CM CV
 | .rng rs=>V4 f rs
 | .sset e=>Wb f e
 | .dct e=>Wd f e
inductive SpR(Γ:AM)(ks:AD)(x:Ac)(es:List Expr)(k:Jw):Prop
 | rng (p:Pos) (rs:List Expr) (q:Pos) (h1:k=.rng rs) (h2:es=[.Call (.Name (Ab "range") p) rs [] q]) (h3:x=Ab "list") (h4:CS Γ ks (Ab "range") (.type "range")=true) (h5:CS Γ ks (Ab "list") (.type "list")=true) (h6:noStar rs=true)
 | sset (p:Pos) (e:Expr) (q:Pos) (h1:k=.sset e) (h2:es=[.Call (.Name (Ab "set") p) [e] [] q]) (h3:x=Ab "sorted") (h4:CS Γ ks (Ab "set") (.type "set")=true) (h5:CS Γ ks (Ab "sorted") (.builtin "sorted")=true) (h6:C8 e=false)
 | dct (e:Expr) (h1:k=.dct e) (h2:es=[e]) (h3:x=Ab "dict") (h4:CS Γ ks (Ab "dict") (.type "dict")=true) (h5:C8 e=false)
theorem Ag6{k:Jw}(h:Jx Γ ks x es=some k):SpR Γ ks x es k:=by
 unfold Jx at h;rcases q1:Mi es with _ | e
 ·rw[q1]at h;exact(Aw h).elim
 ·rw[q1]at h;dsimp only at h;obtain rfl:=Wr q1;clear q1;rcases q2:Jl e with _ | ⟨y,p,rs,q⟩
  ·rw[q2]at h;rcases QC h with⟨c,h⟩
   exact .dct e h.symm rfl c.1 c.2.1 c.2.2
  ·rw[q2]at h;dsimp only at h;obtain rfl:=Vr q2;clear q2;rcases Vm h with⟨c,g⟩ | g
   ·rcases c with⟨c1,rfl,c2,c3,c4⟩
    exact .rng p rs q (Ay g).symm rfl c1 c2 c3 c4
   ·clear h;rcases Vm g with⟨c,h⟩ | h
    ·rcases c with⟨c3,rfl,c4,c5⟩
     clear g;rcases q3:Mi rs with _ | e'
     ·rw[q3]at h;exact(Aw h).elim
     ·rw[q3]at h;dsimp only at h;obtain rfl:=Wr q3;rcases QC h with⟨c,h⟩
      exact .sset p e' q h.symm rfl c3 c4 c5 c
    ·exact(Aw h).elim
noncomputable def Mj(f:Expr->CM CV)(Γ:AM)(ks:AD)(fe:Expr)(es:List Expr)(pos:Pos):CM CV:=match B7 fe with
 | some q=>(match Jx Γ ks q.1 es with
  | some k=>Ws f k
  | none=>L8 f Γ ks q.1 es)
 | none=>match E2 fe with
  | some q=>(match B7 q.1 with
   | some w=>(match HJ Γ ks w.1 q.2.1 with
    | some g=>Op f Γ g q.2.2 es pos
    | none=>KE f Γ q.1 q.2.1 q.2.2 es pos)
   | none=>KE f Γ q.1 q.2.1 q.2.2 es pos)
  | none=>Ar
noncomputable abbrev BM:=AD->Ao->Expr->CM CV
noncomputable abbrev CU:=AD->Ao->Expr->CM Bool
noncomputable def Ri(Γ:AM)(f:BM)(g:CU):BM:=λks loc e=>match e with
 | .Constant k _ _=>Og k
 | .Name x _=>Gw Γ ks loc x
 | .UnaryOp .USub a _=>bnd (f ks loc a) Oh
 | .UnaryOp .Not a _=>bnd (f ks loc a) λv=>bnd (Gx v) λb=>ret (.bool !b)
 | .BinOp a op b _=>bnd (f ks loc a) λx=>bnd (f ks loc b) λy=>FY op x y
 | .BoolOp op es _=>LY (f ks loc) op es
 | .Compare a ops es _=>if Nw ops es=true then Ar else bnd (f ks loc a) λv=>Hb (f ks loc) v ops es
 | .IfExp t a b _=>bnd (g ks loc t) λq=>if q=true then f ks loc a else f ks loc b
 | .Tuple es _ _=>bnd (Bx (f ks loc) es) EK
 | .List es _=>bnd (Bx (f ks loc) es) BV
 | .Dict [] [] _=>Vt
 | .Attribute o x _=>if Ir o=true then bnd (f ks loc o) λv=>HF Γ v x else Ar
 | .Subscript o i _=>LZ (f ks loc) o i
 | .Call fe es [] pos=>Mj (f ks loc) Γ ks fe es pos
 | .ListComp elt gens scope _=>DN Γ (f ks loc) f g ks loc elt gens scope
 | _=>Ar
noncomputable def Rj(f:BM)(g:CU):CU:=λks loc e=>match e with
 | .UnaryOp .Not a _=>bnd (g ks loc a) λq=>ret !q
 | .BoolOp op es _=>KA (g ks loc) op es
 | .IfExp t a b _=>bnd (g ks loc t) λq=>if q=true then g ks loc a else g ks loc b
 | .Compare a ops es _=>if Nw ops es=true then Ar else bnd (f ks loc a) λv=>Fv (f ks loc) v ops es
 | e=>bnd (f ks loc e) Gx
noncomputable def Bp(Γ:AM):Nat->BM×CU
 | 0=>(λz z z=>Ar,λz z z=>Ar)
 | n+1=>(Ri Γ (Bp Γ n).1 (Bp Γ n).2,Rj (Bp Γ n).1 (Bp Γ n).2)
structure Jy(Γ:AM):Prop where
 bins:∀x v,Γ.bins.lookup x=some v->∃s,v=.builtin s\/v=.type s
section
variable {c:FC}{m:Ac->Option Ad}{l l':Am}{d:Nat}{env:Env}{loc:Ao}{Γ:AM}{FX:FC->Bh}
theorem Ag7(gk:Jy Γ)(ok:AJ c (d+1))(g:Bn c.K Γ)(fn:Hc FX Γ d c)(eo:Ce c env){f:Expr->CM CV}(h:Bu c (FX c) m env l f){fe:Expr}{es:List Expr}{pos:Pos} :
  Aa c (FX c) m l (eval (.Call fe es [] pos) env) (Mj f Γ env.scope.names fe es pos) VR:=by
 unfold Mj;rcases hq:B7 fe with _ | ⟨x,p⟩
 ·rcases ha:E2 fe with _ | ⟨o,x,apos⟩
  ·exact Aa.stuck
  obtain rfl:fe=.Attribute o x apos:=LL ha;clear ha hq;dsimp only;rcases hw:B7 o with _ | ⟨cn,p⟩
  ·exact V3 ok g fn eo h
  obtain rfl:o=.Name cn p:=Fp hw;clear hw;dsimp only;rcases hc:HJ Γ env.scope.names cn x with _ | fa
  ·exact V3 ok g fn eo h
  ·exact AfV ok g fn eo h hc
 ·obtain rfl:fe=.Name x p:=Fp hq;clear hq;dsimp only;rcases hk:Jx Γ env.scope.names x es with _ | k
  ·exact AfN ok g fn eo h gk.bins
  ·rcases Ag6 hk with⟨p2,rs,q,rfl,rfl,rfl,h1,h2,h3⟩ | ⟨p2,e,q,rfl,rfl,rfl,h1,h2,h3⟩ | ⟨e,rfl,rfl,rfl,h1,h2⟩
   ·exact AfW ok g eo h h1 h2 h3
   ·exact Agt ok g eo h h1 h2 h3
   ·exact AgG ok g eo h h1 h2
theorem KK(gk:Jy Γ)(ok:AJ c (d+1))(g:Bn c.K Γ)(fn:Hc FX Γ d c)(n:Nat):∀(env:Env) (l:Am) (loc:Ao),Ce c env->B8 c m env l loc ->
  Bu c (FX c) m env l ((Bp Γ n).1 env.scope.names loc)/\DX c (FX c) m env l ((Bp Γ n).2 env.scope.names loc):=by
 induction n with
 | zero=>exact λenv l loc eo er=>⟨λe l' x=>Aa.stuck,λe l' x=>Aa.stuck⟩
 | succ n ih =>
  intro env l loc eo er;refine At (ih env l loc eo er) ?_;rintro hE hT;have hfv:∀env' l' loc',Ce c env'->B8 c m env' l' loc'->Bu c (FX c) m env' l' ((Bp Γ n).1 env'.scope.names loc'):=λenv' l' loc' eo' er'=>(ih env' l' loc' eo' er').1;have hft:∀env' l' loc',Ce c env'->B8 c m env' l' loc'->DX c (FX c) m env' l' ((Bp Γ n).2 env'.scope.names loc'):=λenv' l' loc' eo' er'=>(ih env' l' loc' eo' er').2;refine⟨λe l' x => ?_,λe l' x => ?_⟩
  ·have er':=er.mono x;have hE':=hE.mono x;have hT':=hT.mono x;show Aa c (FX c) m l' (eval e env) (Ri Γ (Bp Γ n).1 (Bp Γ n).2 env.scope.names loc e) VR;rcases e with⟨op,es,p⟩ | _ | ⟨a,op,b,p⟩ | ⟨op,a,p⟩ | _ | ⟨t,a,b,p⟩ | ⟨ks,vs,p⟩ | _ | ⟨elt,gens,scope,p⟩ | _ | _ | _ | _ | _ | _ | ⟨a,ops,es,p⟩ | ⟨fe,es,kw,p⟩ | _ | _ | ⟨k,n,p⟩ | ⟨o,y,p⟩ | ⟨o,i,p⟩ | _ | ⟨y,p⟩ | ⟨es,p⟩ | ⟨es,k,p⟩ | _
   case Constant=>exact VJ
   case Name=>exact QN ok g eo er'
   case UnaryOp =>
    rcases op with _ | _ | _ | _
    case USub=>exact Afh hE'
    case Not=>exact Afj hE'
    all_goals exact Aa.stuck
   case BinOp=>exact Afg hE'
   case BoolOp=>rw[arm_eval_BoolOp];exact Afk _ hE'
   case Compare=>exact Afr ok hE'
   case IfExp=>exact Afu hE' hT'
   case Tuple=>exact VV hE'
   case List=>exact Afx hE'
   case Dict =>
    rcases ks with _ | ⟨_,_⟩
    ·rcases vs with _ | ⟨_,_⟩
     ·exact Aff ok
     ·exact Aa.stuck
    ·exact Aa.stuck
   case Attribute=>exact Afy ok g hE'
   case Subscript=>exact Afz hE'
   case Call =>
    rcases kw with _ | ⟨_,_⟩
    ·exact Ag7 gk ok g fn eo hE'
    ·exact Aa.stuck
   case ListComp=>exact Ag5 ok g eo er' hE' hfv hft
   all_goals exact Aa.stuck
  ·have er':=er.mono x;have hE':=hE.mono x;have hT':=hT.mono x;show Aa c (FX c) m l' (isTrue e env (eval e env)) (Rj (Bp Γ n).1 (Bp Γ n).2 env.scope.names loc e) Eh;rcases e with⟨op,es,p⟩ | _ | _ | ⟨op,a,p⟩ | _ | ⟨t,a,b,p⟩ | _ | _ | _ | _ | _ | _ | _ | _ | _ | ⟨a,ops,es,p⟩ | _ | _ | _ | _ | _ | _ | _ | _ | _ | _ | _
   case UnaryOp =>
    rcases op with _ | _ | _ | _
    case Not=>exact Afw hT'
    all_goals exact VU hE' rfl
   case BoolOp=>rw[arm_isTrue_BoolOp];exact Aft _ hT'
   case IfExp=>exact Afv hT'
   case Compare=>exact Afs ok hE'
   all_goals exact VU hE' rfl
end
end
section
structure Fz(env:Env)(l:Am):Prop where
 at_:∀x a,env.cells.lookup x=some a->∃o u,AQ l (a,o)/\o.data=.cell u
 has:∀x,env.kindOf x=some .cell->∃a,env.cells.lookup x=some a
 inj:∀x y a,env.cells.lookup x=some a->env.cells.lookup y=some a->x=y
def Dc(env:Env)(a:Af):Prop:=∃x,env.cells.lookup x=some a
structure Du(c:FC)(env:Env):Prop where
 eo:Ce c env
 loc:env.locals=c.L
 fen:env=c.fenv
def AF(c:FC)(FX:Bh)(env:Env)(m:Ac->Option Ad)(l:Am)(loc:Ao)(t:Sem α)(f:CM (β×Ao))(V:Am->α->β->Prop):Prop :=
 ∀(s:Aq) (Q:α->Aq->Prop) (E:Ad->Aq->Prop),St c m l s.heap->B8 c m env l loc->Fz env l ->
  (∀b loc' l' m' a h' tk,f l.σ=.ok (b,loc') l'.σ->St c m' l' h'->Ap (Dc env) l l'->B8 c m' env l' loc'->Fz env l'->V l' a b->Q a (put s h' tk)) ->
  (∀x l' e h' tk,f l.σ=.exc x l'.σ->Ap (Dc env) l l'->FX l' x e h'->E e (put s h' tk)) ->
  f l.σ≠.stuck->wpAny c.M c.A t Q E s
noncomputable def Mk(loc:Ao)(f:CM α):CM (α×Ao):=bnd f λb=>ret (b,loc)
section
variable {c:FC}{m:Ac->Option Ad}{l l':Am}{d:Nat}{env:Env}{loc:Ao}{Γ:AM}{FX:Bh}
theorem Fz.mono(x:Ap No l l')(h:Fz env l):Fz env l':=⟨λy a hy=>by
 refine Ba (h.at_ y a hy) ?_;rintro o u ho hd;exact⟨o,u,x.all ho,hd⟩,h.has,h.inj⟩
theorem AF.lift{t:Sem α}{f:CM β}{V:Am->α->β->Prop}(h:Aa c FX m l t f V):AF c FX env m l loc t (Mk loc f) V:=by
 intro s Q E st er cr ok exc ns;refine h s Q E st (λb l' a h' tk e st' x v => ?_) (λx l' e h' tk hx xx fx => ?_) λq=>ns (Dd q)
 ·exact ok b loc l' m a h' tk (CL e) st' x.weaken (er.mono x) (cr.mono x) v
 ·exact exc x l' e h' tk (DD hx) xx.weaken fx
theorem AF.bind{t:Sem α}{f:CM (β×Ao)}{g:α->Sem γ}{k:β×Ao->CM (δ×Ao)}{V:Am->α->β->Prop}{V2:Am->γ->δ->Prop}(h:AF c FX env m l loc t f V)
  (h2:∀a b loc' m' l',f l.σ=.ok (b,loc') l'.σ->Ap (Dc env) l l'->V l' a b->AF c FX env m' l' loc' (g a) (k (b,loc')) V2):AF c FX env m l loc (t >>= g) (bnd f k) V2:=by
 intro s Q E st er cr ok exc ns;refine Aj (h s _ E st er cr (λb loc' l' m' a h' tk e st' x er' cr' v => ?_) (λx l' e h' tk hx xx fx=>exc x l' e h' tk (DD hx) xx fx) λq=>ns (Dd q));rw[CL e]at ok exc ns;exact h2 a b loc' m' l' e x v _ Q E st' er' cr' (λb2 loc2 l2 m2 a2 h2' tk2 e2 st2 x2 er2 cr2 v2=>ok b2 loc2 l2 m2 a2 h2' tk2 e2 st2 (x.trans x2) er2 cr2 v2)
  (λx2 l2 e2 h2' tk2 hx2 xx2 fx2=>exc x2 l2 e2 h2' tk2 hx2 (x.trans xx2) fx2) ns
theorem AF.eval{t:Sem α}{f:CM β}{g:α->Sem γ}{k:β->CM (δ×Ao)}{V:Am->α->β->Prop}{V2:Am->γ->δ->Prop}(h:Aa c FX m l t f V)
  (h2:∀a b l',f l.σ=.ok b l'.σ->Ap No l l'->V l' a b->AF c FX env m l' loc (g a) (k b) V2):AF c FX env m l loc (t >>= g) (bnd f k) V2:=by
 intro s Q E st er cr ok exc ns;refine Aj (h s _ E st (λb l' a h' tk e st' x v => ?_) (λx l' e h' tk hx xx fx=>exc x l' e h' tk (DD hx) xx.weaken fx) λq=>ns (Dd q));rw[CL e]at ok exc ns;exact h2 a b l' e x v _ Q E st' (er.mono x) (cr.mono x) (λb2 loc2 l2 m2 a2 h2' tk2 e2 st2 x2 er2 cr2 v2=>ok b2 loc2 l2 m2 a2 h2' tk2 e2 st2 (x.weaken.trans x2) er2 cr2 v2)
  (λx2 l2 e2 h2' tk2 hx2 xx2 fx2=>exc x2 l2 e2 h2' tk2 hx2 (x.weaken.trans xx2) fx2) ns
theorem AF.pure{a:α}{b:β}{V:Am->α->β->Prop}(h:V l a b):AF c FX env m l loc (Nk a:Sem α) (ret (b,loc)) V :=
 λs Q E st er cr ok z z=>AB (ok b loc l m a s.heap s.toks rfl st (Ap.refl l) er cr h)
theorem AF.stuck{t:Sem α}{V:Am->α->β->Prop}:AF c FX env m l loc t Ar V:=λz z z z z z z z ns=>absurd rfl ns
theorem AF.guard{t:Sem α}{f:CM (β×Ao)}{V:Am->α->β->Prop}{p:Prop}[Decidable p](h:p->AF c FX env m l loc t f V):AF c FX env m l loc t (if p then f else Ar) V:=by
 by_cases hp:p
 ·rw[if_pos hp];exact h hp
 ·rw[if_neg hp];exact AF.stuck
theorem AF.stand{t:Sem α}{f:CM (β×Ao)}{V:Am->α->β->Prop}(pos:Pos)(h:AF c FX env m l loc t f V):AF c FX env m l loc (standAt pos >>= λz=>t) f V :=
 λs Q E st er cr ok exc ns=>Aj (FM (h s Q E st er cr ok exc ns))
theorem AF.of_eq{t:Sem α}{f f':CM (β×Ao)}{V:Am->α->β->Prop}(h:AF c FX env m l loc t f' V)(e:f=f'):AF c FX env m l loc t f V:=e▸h
theorem AF.hold{t:Sem α}{f:CM (β×Ao)}{V:Am->α->β->Prop}(vs:List Ad)(h:AF c FX env m l loc t f V):AF c FX env m l loc (holding vs t) f V :=
 λs Q E st er cr ok exc ns=>Dg (h s Q E st er cr ok exc ns)
noncomputable def E8(ks:AD)(x:Ac)(v:CV)(loc:Ao):CM (Unit×Ao):=match ks.lookup x with
 | some .local | some .cell=>ret ((),CI x v loc)
 | _=>Ar
theorem Wt{y:Ac}{v:CV}:∀{loc:Ao},(CI x v loc).lookup y=if y=x then some v else loc.lookup y:=by
 intro z1
 induction z1 with
 | nil =>
  rw[AfA];rw[BC]
  by_cases e:y=x
  ·subst e;simp
  ·have:(y == x)=false:=beq_eq_false_iff_ne.mpr e;rw[this,if_neg e]
 | cons z2 r ih0 =>
  rcases z2 with⟨z,w⟩
  rw[L5];have ih:=ih0
  by_cases e:z=x
  ·subst e;rw[if_pos rfl]
   by_cases e2:y=z
   ·subst e2;simp
   ·rw[BC,BC,if_neg e2];have:(y == z)=false:=beq_eq_false_iff_ne.mpr e2;rw[this]
  ·rw[if_neg e,BC,BC]
   by_cases e2:y=z
   ·subst e2;rw[if_neg e];simp
   ·have:(y == z)=false:=beq_eq_false_iff_ne.mpr e2;rw[this,ih]
set_option tactic.hygienic true in
theorem Rk(fe:Du c env){x:Ac}{v:Ad}{a:CV}(hv:VR l v a):AF c FX env m l loc (AaJ env x v) (E8 env.scope.names x a loc) EO:=by
 unfold E8;have lc:env.kindOf x=env.scope.names.lookup x:=rfl;have loCase:env.scope.names.lookup x=some .local->AF c FX env m l loc (AaJ env x v) (ret ((),CI x a loc)) EO:=λhk=>by
  intro s Q E st er cr ok _ _;refine AaD hk (by rw[fe.loc];exact st.fr.ns) (λh' hn hs => ?_) (by rw[fe.eo.kind];rfl)
  rw[fe.loc]at hn hs;refine ok () _ l _ () h' _ rfl ⟨st.fr.set hn hs,st.nw.set hs,st.lr⟩ (Ap.refl l) ⟨λy w k hy hk' => ?_,.inl fe.loc⟩ cr trivial;rw[Wt]at hy
  by_cases e:y=x
  ·subst e;rw[if_pos rfl]at hy;injection hy with za;subst za
   have hkk:k=.local:=Ay (hk'.symm.trans hk);subst hkk;exact .inl ⟨fe.loc,v,if_pos rfl,hv⟩
  ·rw[if_neg e]at hy;have z:=er.nm y w k hy hk';rcases k with _ | _ | _ | _ | _
   case «local» =>
    rcases z with⟨q,w',hm,hr⟩ | z
    ·exact .inl ⟨q,w',(if_neg e).trans hm,hr⟩
    ·exact .inr z
   all_goals exact z
 have ceCase:env.scope.names.lookup x=some .cell->AF c FX env m l loc (AaJ env x v) (ret ((),CI x a loc)) EO:=λhk=>by
  intro s Q E st er cr ok _ _;refine AI (cr.has x hk) ?_;rintro ad e1;refine Ba (cr.at_ x ad e1) ?_;rintro o u ho hd;refine wpAny_storeName_cell fe.eo.kind hk e1 ⟨o,(st.nw _ ho.1).1,hd⟩ λh' hc hs => ?_;refine Ah hc ?_;clear hc;rintro o' ho' hd';refine BL (st.turnOth ho (AeA hd) hs ho') ?_;rintro l' e' st' x' oo;have apart:∀y a',y≠x->env.cells.lookup y=some a'->¬a'=ad:=λy a' hy hl q=>hy (cr.inj y x ad (q▸hl) e1);refine ok () _ l' m () h' _ (by rw[e'];rfl) st' (x'.widen λb q=>⟨x,by rw[e1,q]⟩) ⟨λy w k hy hk' => ?_,.inl fe.loc⟩ ⟨λy a' hy => ?_,cr.has,cr.inj⟩ trivial
  ·rw[Wt]at hy
   by_cases e:y=x
   ·subst e;rw[if_pos rfl]at hy;injection hy with za;subst za
    have hkk:k=.cell:=Ay (hk'.symm.trans hk);subst hkk;exact⟨ad,o',v,e1,oo,hd',hv.mono x'⟩
   ·rw[if_neg e]at hy;have z:=er.nm y w k hy hk';rcases k with _ | _ | _ | _ | _
    case «local» =>
     rcases z with⟨q,w',hm,hr⟩ | ⟨oC,m₂,w',q1,q2,q3,q4,q5⟩
     ·exact .inl ⟨q,w',hm,hr.mono x'⟩
     ·refine .inr ⟨oC,m₂,w',x'.oth _ q1 (.inr λq => ?_),q2,q3,q4,q5.mono x'⟩;have q':env.locals=ad:=q;have:=Rh st.lr.nd q1.1 ho.1 q';rw[ZU]at this;rw[this.2]at q2;exact q2 _ hd
    case cell =>
     refine EZ z ?_;clear z;rintro a' o2 w' q1 q2 q3 q4;exact⟨a',o2,w',q1,x'.oth _ q2 (.inr (apart y a' e q1)),q3,q4.mono x'⟩
    case free =>
     refine EZ z ?_;clear z;rintro a' o2 w' q1 q2 q3 q4;exact⟨a',o2,w',q1,x'.oth _ q2 (.inr (apart y a' e q1)),q3,q4.mono x'⟩
    all_goals exact z
  ·by_cases e:y=x
   ·subst e;have:a'=ad:=Ay (hy.symm.trans e1);subst this;exact⟨o',_,oo,hd'⟩
   ·refine Ba (cr.at_ y a' hy) ?_;rintro o2 u2 q2 q3;exact⟨o2,u2,x'.oth _ q2 (.inr (apart y a' e hy)),q3⟩
 split
 ·rename_i hk;exact loCase hk
 ·rename_i hk;exact ceCase hk
 ·exact AF.stuck
noncomputable def Jz(Γ:AM)(f:BM)(ks:AD)(t:Expr)(v:CV)(loc:Ao):CM (Unit×Ao):=match B7 t with
 | some q=>E8 ks q.1 v loc
 | none=>match E2 t with
  | some q=>Mk loc (bnd (f ks loc q.1) λov=>bnd (L6 Γ ov q.2.1 v) λz=>ret ())
  | none=>match Ks t with
   | some q=>Mk loc (bnd (f ks loc q.1) λov=>bnd (f ks loc q.2.1) λiv=>bnd (Iq ov iv v) λz=>ret ())
   | none=>Ar
noncomputable def KL(Γ:AM)(f:BM)(ks:AD):List Expr->List CV->Ao->CM (Unit×Ao)
 | [],[],loc=>ret ((),loc)
 | t::ts,v::vs,loc=>bnd (Jz Γ f ks t v loc) λp=>KL Γ f ks ts vs p.2
 | _,_,_=>Ar
noncomputable def GC(Γ:AM)(f:BM)(ks:AD)(t:Expr)(v:CV)(loc:Ao):CM (Unit×Ao):=match Fq t with
 | some q=>(match Ob v with
  | some vs=>if q.1.length=vs.length/\noStar q.1=true then KL Γ f ks q.1 vs loc else Ar
  | none=>Ar)
 | none=>Jz Γ f ks t v loc
abbrev Hh(c:FC)(FX:Bh)(env:Env)(f:BM):Prop:=∀m l loc,B8 c m env l loc->Bu c FX m env l (f env.scope.names loc)
theorem Wu(fe:Du c env)(ok:AJ c d)(g:Bn c.K Γ){f:BM}(hf:Hh c FX env f){t:Expr}{v:Ad}{a:CV}(hv:VR l v a):AF c FX env m l loc (assign t env v) (Jz Γ f env.scope.names t a loc) EO:=by
 unfold Jz;rcases hq:B7 t with _ | q
 ·rcases ha:E2 t with _ | q
  ·rcases hs:Ks t with _ | q
   ·exact AF.stuck
   ·obtain rfl:=AeF hs;clear hs ha hq;dsimp only;intro s Q E st er;refine AF.lift (V:=EO) ?_ s Q E st er;rw[arm_assign_Subscript];refine Aa.bind (Aa.hold _ ((hf m l loc er).here q.1)) λov b l1 z x1 hov=>Aa.bind (Aa.hold _ (((hf m l loc er).mono x1).here q.2.1)) λiv b2 l2 z x2 hiv => ?_;refine Aa.stand _ (Aa.bind (Aa.hold _ (Afe (hov.mono x2) hiv ((hv.mono x1).mono x2))) λz z l3 z z z => ?_);exact Aa.now λs Q E st q=>TT (q () s.toks trivial)
  ·obtain rfl:=LL ha;clear ha hq;dsimp only;intro s Q E st er;refine AF.lift (V:=EO) ?_ s Q E st er;rw[AoM];refine Aa.bind (Aa.hold _ ((hf m l loc er).here q.1)) λov b l1 z x1 hov=>Aa.stand _ (Aa.bind (Aa.hold _ (AfB ok g hov (hv.mono x1))) λz z l2 z z z => ?_);exact Aa.now λs Q E st q=>TT (q () s.toks trivial)
 ·obtain rfl:=Fp hq;clear hq;exact λs Q E st er cr ok exc ns=>AaC (Rk fe hv s Q E st er cr ok exc ns)
theorem Rl{t:Expr}{ts:List Expr}(h:C8 t=false):FS (t::ts) env=(false,assign t env)::FS ts env:=by
 rcases t with⟨⟩<;>first | rfl | (exfalso;injection h)
theorem Ag8:∀(ts:List Expr),noStar ts=true->(FS ts env).length=ts.length/\(FS ts env).findIdx? (·.1)=none:=by
 intro z1
 induction z1 with
 | nil =>
  intro z2;exact⟨rfl,rfl⟩
 | cons t ts ih =>
  intro h;have h0:=LQ h t (.head _);simp only[noStar,A9]at h;refine At (ih h.2) ?_;rintro h1 h2;rw[Rl h0];refine⟨by rw[BH,BH,h1],?_⟩
  rw[AoJ];simp[h2]
set_option tactic.hygienic true in
theorem Ag9(fe:Du c env)(ok:AJ c d)(g:Bn c.K Γ){f:BM}(hf:Hh c FX env f):∀(ts:List Expr) (vs:List Ad) (cs:List CV) (m:Ac->Option Ad) (l:Am) (loc:Ao),noStar ts=true->Az l vs cs ->
  AF c FX env m l loc (Ke ((FS ts env).map (·.2)) vs) (KL Γ f env.scope.names ts cs loc) EO:=by
 intro z1
 induction z1 with
 | nil =>
  intro z2;rcases z2 with _ | ⟨z3,z4⟩
  ·intro cs m l loc z5 hv;rcases hv with⟨⟩
   exact AF.pure (V:=EO) trivial
  ·intro cs m l loc z6 hv;rcases hv with⟨⟩
   exact AF.stuck
 | cons t ts ih =>
  intro z7;rcases z7 with _ | ⟨v,vs⟩
  ·intro cs m l loc z8 hv;rcases hv with⟨⟩
   exact AF.stuck
  ·intro cs m l loc hn hv;rcases hv with _ | ⟨h1,h2⟩
   rename_i c0 cs;have h0:=LQ hn t (.head _);simp only[noStar,A9]at hn;rw[Rl h0];show AF c FX env m l loc (holding vs (assign t env v) >>= λz=>Ke ((FS ts env).map (·.2)) vs) (bnd (Jz Γ f env.scope.names t c0 loc) λp=>KL Γ f env.scope.names ts cs p.2) EO;exact AF.bind (AF.hold _ (Wu fe ok g hf h1)) λz z loc' m' l' z x z=>ih vs cs m' l' loc' hn.2 (h2.mono x)
theorem Wv(fe:Du c env)(ok:AJ c d)(g:Bn c.K Γ){f:BM}(hf:Hh c FX env f){t:Expr}{v:Ad}{a:CV}(hv:VR l v a):AF c FX env m l loc (assign t env v) (GC Γ f env.scope.names t a loc) EO:=by
 unfold GC;rcases hq:Fq t with _ | ⟨ts,k,p⟩
 case some =>
  obtain rfl:t=.Tuple ts k p:=LM hq;clear hq;dsimp only;rcases hc:Ob a with _ | cvs
  ·exact AF.stuck
  ·obtain rfl:=Vs hc;clear hc;refine AF.guard λzz => ?_;refine At zz ?_;clear zz;rintro h1 h2;refine CG hv.tup_inv ?_;rintro _ _ _ rfl ho hr;intro s Q E st er cr okk exc ns;refine At (Ag8 (env:=env) ts h2) ?_;rintro y1 y2;refine AoK ok.handled ⟨_,(st.nw _ ho.1).1,rfl,_,rfl⟩ (by rw[y1,h1,<- hr.length];simp) y2 λh' ex => ?_
   have st':St c m l h':=st.keeps λb o q=>ex b o (B6 (Bz q)) q;have:=Ag9 fe ok g hf ts _ _ m l loc h2 hr { s with heap:=h' } Q E st' er cr (λb loc' l' m' a h'' tk e st2 x er' cr' v=>okk b loc' l' m' a h'' tk e st2 x er' cr' v) (λx l' e h'' tk hx xx fx=>exc x l' e h'' tk hx xx fx) ns
   exact this
 ·exact Wu fe ok g hf hv
end
end
section
inductive Bk where
 | next
 | ret (v:CV)
set_option tactic.hygienic true in
noncomputable def FR(l:Am)(a:Fo):Bk->Prop
 | .next=>a=.next
 | .ret v=>∃w,a=.ret w/\VR l w v
noncomputable def Rm(targets:List Expr)(value:Expr):Option (List Expr×List Expr):=match targets,value with
 | [.Tuple ts _ _],.Tuple vs _ _ | [.List ts _],.Tuple vs _ _=>some (ts,vs)
 | _,_=>none
noncomputable def F7(ks:AD)(ts:List Expr):List Ac:=ts.filterMap fun
 | .Name id pos=>if ks.lookup id == some NameKind.local && pos.line == (ts.head?.map (·.pos.line)).getD 0 then some id else none
 | _=>none
noncomputable def KM(ks:AD)(targets:List Expr)(value:Expr):Option (Option (List Ac)):=match Rm targets value with
 | some (ts,vs)=>if(!(ts.length == 2 || ts.length == 3) || vs.length != ts.length)=true then some none
  else if(vs.any fun | .Starred ..=>true | _=>false)=true then some none
  else if((F7 ks ts).length != ts.length || (F7 ks ts).eraseDups.length != (F7 ks ts).length)=true then some none
  else if vs.all (AaK 8)=true then some none
  else if vs.all (AaL 8)=true then none
  else some (some (F7 ks ts))
 | none=>some none
theorem Ww(hk:env.blockKind=.function){targets:List Expr}{value:Expr}{r:Option (List Ac)}(h:KM env.scope.names targets value=some r):AaM targets value env=pure r:=by
 have hb:(env.blockKind != .function)=false:=by rw[hk];rfl
 have e:AaM targets value env=(match Rm targets value with
  | some (ts,vs)=>if(!(ts.length == 2 || ts.length == 3) || vs.length != ts.length || env.blockKind != .function)=true then pure none
   else if(vs.any fun | .Starred ..=>true | _=>false)=true then pure none
   else if((F7 env.scope.names ts).length != ts.length || (F7 env.scope.names ts).eraseDups.length != (F7 env.scope.names ts).length)=true then pure none
   else if vs.all (AaK 8)=true then pure none
   else if vs.all (AaL 8)=true then(unsupported "assign.tuple-of-constant-expressions:order-of-the-stores" >>= λ(_:PUnit)=>pure (some (F7 env.scope.names ts)))
   else pure (some (F7 env.scope.names ts))
  | none=>pure none:Sem (Option (List Ac))):=by
  rcases targets with _ | ⟨t,r⟩
  ·rfl
  ·rcases r with _ | ⟨_,_⟩
   ·rcases t with⟨⟩<;>first | rfl | (rcases value with⟨⟩<;>rfl)
   ·rcases t with⟨⟩<;>rfl
 rw[e];unfold KM at h;rw[hb];rcases hp:Rm targets value with _ | p
 ·rw[hp]at h;(injection h with za;subst za);rfl
 ·rcases p with⟨ts,vs⟩
  rw[hp]at h;dsimp only at h ⊢;rw[Bool.or_false]
  by_cases h1:(!(ts.length == 2 || ts.length == 3) || vs.length != ts.length)=true
  ·rw[if_pos h1]at h ⊢;(injection h with za;subst za);rfl
  rw[if_neg h1]at h ⊢
  by_cases h2:(vs.any fun | .Starred ..=>true | _=>false)=true
  ·rw[if_pos h2]at h ⊢;(injection h with za;subst za);rfl
  rw[if_neg h2]at h ⊢
  by_cases h3:((F7 env.scope.names ts).length != ts.length || (F7 env.scope.names ts).eraseDups.length != (F7 env.scope.names ts).length)=true
  ·rw[if_pos h3]at h ⊢;(injection h with za;subst za);rfl
  rw[if_neg h3]at h ⊢
  by_cases h4:vs.all (AaK 8)=true
  ·rw[if_pos h4]at h ⊢;(injection h with za;subst za);rfl
  rw[if_neg h4]at h ⊢
  by_cases h5:vs.all (AaL 8)=true
  ·rw[if_pos h5]at h;(exfalso;injection h)
  rw[if_neg h5]at h ⊢;injection h with za;subst za;rfl
noncomputable def HM(ks:AD)(value t:Expr):Bool:=match N9 value with
 | some q=>(match B7 t with
  | some w=>(ks.lookup w.1 == some NameKind.local) && w.2.line == q.2.2.2.line && !(q.2.2.1.names.any λ(n,k)=>n == w.1 && (k == .local || k == .cell))
  | none=>false)
 | none=>false
noncomputable def KN(e:Expr):Bool := !(EE e.ctorIdx 8 || EE e.ctorIdx 9 || EE e.ctorIdx 10)
noncomputable def Oz(e:Expr):Bool := !(EE e.ctorIdx 9 || EE e.ctorIdx 10)
noncomputable def KO(ks:AD):List Ac->List CV->Ao->CM (Unit×Ao)
 | [],[],loc=>ret ((),loc)
 | x::xs,v::vs,loc=>bnd (E8 ks x v loc) λp=>KO ks xs vs p.2
 | _,_,_=>Ar
noncomputable def JA(Γ:AM)(f:BM)(ks:AD)(t value:Expr)(v:CV)(loc:Ao):CM (Unit×Ao):=match KM ks [t] value with
 | none=>Ar
 | some none=>GC Γ f ks t v loc
 | some (some names)=>(match v with
  | .tup vs=>if vs.length=names.length then KO ks names.reverse vs.reverse loc else Ar
  | _=>Ar)
section
variable {c:FC}{m:Ac->Option Ad}{l l':Am}{d:Nat}{env:Env}{loc:Ao}{Γ:AM}{FX:Bh}
theorem Rn(fe:Du c env):env.blockKind=.function:=by
 simp only[Env.blockKind,fe.eo.kind,ScopeKind.isAnnotationScope,Bool.false_and,Jd,if_false]
theorem OA(fe:Du c env){value t:Expr}{n:Nat}(h:Oz value=true):swapsWithSole [t] value n env=pure (HM env.scope.names value t):=by
 show Ue value (some t) n env=_;have kk:∀x,env.kindOf x=env.scope.names.lookup x:=λz=>rfl;have bk:=Rn fe;unfold Ue HM;rcases value with⟨⟩<;>first | rfl | ((first | (exfalso;injection h;done) | (rcases h with⟨⟩));done) | skip
 rcases t with⟨⟩<;>first | rfl | skip
 simp only[bk,kk];rfl
set_option tactic.hygienic true in
theorem Aha(fe:Du c env):∀(xs:List Ac) (vs:List Ad) (cs:List CV) (m:Ac->Option Ad) (l:Am) (loc:Ao),Az l vs cs ->
  AF c FX env m l loc (Ke (xs.map λn=>bindName env n) vs) (KO env.scope.names xs cs loc) EO:=by
 intro z1
 induction z1 with
 | nil =>
  intro z2;rcases z2 with _ | ⟨z3,z4⟩
  ·intro cs m l loc hv;rcases hv with⟨⟩
   exact AF.pure (V:=EO) trivial
  ·intro cs m l loc hv;rcases hv with⟨⟩
   exact AF.stuck
 | cons x xs ih =>
  intro z5;rcases z5 with _ | ⟨v,vs⟩
  ·intro cs m l loc hv;rcases hv with⟨⟩
   exact AF.stuck
  ·intro cs m l loc hv;rcases hv with _ | ⟨h1,h2⟩
   rename_i c0 cs;show AF c FX env m l loc (holding vs (bindName env x v) >>= λz=>Ke (xs.map λn=>bindName env n) vs) (bnd (E8 env.scope.names x c0 loc) λp=>KO env.scope.names xs cs p.2) EO;exact AF.bind (AF.hold _ λs Q E st er cr ok exc ns=>wpAny_bindName (Rk fe h1 s Q E st er cr ok exc ns)) λz z loc' m' l' z x' z=>ih vs cs m' l' loc' (h2.mono x')
set_option tactic.hygienic true in
theorem Wx(fe:Du c env)(ok:AJ c d)(g:Bn c.K Γ){f:BM}(hf:Hh c FX env f){t value:Expr}{v:Ad}{a:CV}(hv:VR l v a) :
  AF c FX env m l loc (AaM [t] value env >>= λsw=>assignStores env v sw ((FS [t] env).map (·.2))) (bnd (JA Γ f env.scope.names t value a loc) λp=>ret (Bk.next,p.2)) (λl'=>FR l'):=by
 unfold JA;rcases hs:KM env.scope.names [t] value with _ | r
 ·exact AF.stuck
 ·rw[Ww (Rn fe) hs];rcases r with _ | names
  ·have key:AF c FX env m l loc (assign t env v >>= λz=>(pure .next:Sem Fo)) (bnd (GC Γ f env.scope.names t a loc) λp=>ret (Bk.next,p.2)) (λl'=>FR l') :=
    AF.bind (Wv fe ok g hf hv) λz z loc' m' l' z x z=>AF.pure (V:=λl'=>FR l') rfl
   by_cases hst:C8 t=true
   ·rcases t with⟨⟩<;>first | ((first | (exfalso;injection hst;done) | (rcases hst with⟨⟩));done) | exact AF.of_eq AF.stuck rfl
   ·have e:(FS [t] env).map (·.2)=[assign t env]:=by rw[Rl (P1.mpr hst)];rfl
    rw[e];exact key
  ·rcases a with _ | _ | _ | _ | cvs | _
   case tup =>
    intro s Q E st er cr okk exc ns;refine CG hv.tup_inv ?_;rintro _ _ _ rfl ho hr;rename_i ad ws k
    by_cases hl:cvs.length=names.length
    ·simp only[if_pos hl]at okk exc ns;have hlen:=hr.length;refine Aj (AB ?_);show wpAny _ _ (rule "assign.swapped-stores" >>= λz=>unpackItems (.ref ad) names.length none >>= λitems=>Ke (names.reverse.map λn=>bindName env n) items.reverse >>= λz=>(pure .next:Sem Fo)) Q E s
     refine Aj (Aah (Aj ?_));have hsz:names.length=ws.toArray.size:=by simp;exact AdH hl hlen
     rw[hsz];refine unpackItems_tuple ok.handled (st.isTup ho) λh' ex => ?_;have st':St c m l h':=st.keeps λb o q=>ex b o (B6 (Bz q)) q;have key:AF c FX env m l loc (Ke (names.reverse.map λn=>bindName env n) ws.reverse >>= λz=>(pure .next:Sem Fo)) (bnd (KO env.scope.names names.reverse cvs.reverse loc) λp=>ret (Bk.next,p.2)) (λl'=>FR l') :=
      AF.bind (Aha fe _ _ _ m l loc hr.rev) λz z loc' m' l' z x z=>AF.pure (V:=λl'=>FR l') rfl
     have e:ws.toArray.toList.reverse=ws.reverse:=by simp
     rw[e];exact key { s with heap:=h' } Q E st' er cr (λb loc' l' m' a h'' tk e=>okk b loc' l' m' a h'' tk e) (λx l' e h'' tk=>exc x l' e h'' tk) ns
    ·simp only[if_neg hl]at ns;exact absurd rfl ns
   all_goals exact AF.of_eq AF.stuck rfl
end
end
variable {Bc:CV->Ao->CM (Bk×Ao)}
section
abbrev FV:Am->Fo->Bk->Prop:=λl=>FR l
noncomputable abbrev XT:=List AL->Ao->CM (Bk×Ao)
structure JB(c:FC)(FX:Bh):Prop where
 own:∀(env:Env) (l:Am) (x:CX) (e:Ad) (s:Aq) (E:Ad->Aq->Prop),env=c.fenv->FX l x e s.heap->(∀h',FX l x e h'->E e { s with heap:=h' })->notedBy c.M c.A env (Uf c.M c.A env E) e s
 raised:∀(m:Ac->Option Ad) (l:Am) (b0 x C:Af) (as:List (Ac×CV)) (h:AY),as≠[]->St c m l h->XS b0 l x C as->∃l':Am,l'.σ=l.σ/\Ap (·=x) l l'/\FX l' ⟨C,as⟩ (.ref x) h
set_option tactic.hygienic true in
noncomputable def KP(S:AL->Ao->CM (Bk×Ao)):XT
 | [],loc=>ret (.next,loc)
 | s::r,loc=>bnd (S s loc) λp=>match p.1 with
  | .next=>KP S r p.2
  | .ret v=>ret (.ret v,p.2)
set_option tactic.hygienic true in
theorem Ahb:∀(S:AL->Ao->CM (Bk×Ao)) (x:Ao) (s:AL) (r:List AL),KP S (s::r) x=bnd (S s x) λ(p:Bk×Ao)=>match p.fst with | Bk.next=>KP S r p.snd | Bk.ret v=>ret (Bk.ret v,p.snd):=by intros;rfl
set_option tactic.hygienic true in
noncomputable def Iy(g:CU)(X:XT)(ks:AD)(test:Expr)(body:List AL):Nat->Ao->CM (Bk×Ao)
 | 0,_=>Ar
 | n+1,loc=>bnd (g ks loc test) λq=>if q=true then bnd (X body loc) λp=>match p.1 with
   | .next=>Iy g X ks test body n p.2
   | .ret v=>ret (.ret v,p.2)
  else ret (.next,loc)
set_option tactic.hygienic true in
theorem Wy:∀(g:CU) (X:XT) (ks:AD) (test:Expr) (body:List AL) (x:Ao) (n:Nat),Iy g X ks test body n.succ x=bnd (g ks x test) λ(q:Bool)=>if q=true then bnd (X body x) λ(p:Bk×Ao)=>match p.fst with | Bk.next=>Iy g X ks test body n p.snd | Bk.ret v=>ret (Bk.ret v,p.snd)else ret (Bk.next,x):=by intros;rfl
set_option tactic.hygienic true in
noncomputable def F8(step:CV->Ao->CM (Bk×Ao))(src:Ck):Nat->Nat->Ao->CM (Bk×Ao)
 | 0,_,_=>Ar
 | n+1,i,loc=>λσ=>match B9 σ i src with
  | none=>.stuck
  | some none=>.ok (.next,loc) σ
  | some (some v)=>bnd (step v loc) (λq=>match q.1 with
   | .next=>F8 step src n (i+1) q.2
   | .ret v=>ret (.ret v,q.2)) σ
set_option tactic.hygienic true in
theorem Ahc:∀(step:CV->Ao->CM (Bk×Ao)) (src:Ck) (x:Nat) (x_1:Ao) (n:Nat),F8 step src n.succ x x_1=λ(σ:CH)=>match B9 σ x src with | none=>B2.stuck | some none=>B2.ok (Bk.next,x_1) σ | some (some v)=>bnd (step v x_1) (λ(q:Bk×Ao)=>match q.fst with | Bk.next=>F8 step src n (x+1) q.snd | Bk.ret v=>ret (Bk.ret v,q.snd)) σ:=by intros;rfl
noncomputable def Iz(Γ:AM)(f:BM)(X:XT)(ks:AD)(target:Expr)(body:List AL)(src:Ck)(n i:Nat)(loc:Ao):CM (Bk×Ao):=F8 (λv loc=>bnd (GC Γ f ks target v loc) λp=>X body p.2) src n i loc
set_option tactic.hygienic true in
theorem Ahd{f:BM}{X:XT}:Iz Γ f X ks target body src (n+1) i loc σ=match B9 σ i src with
  | none=>B2.stuck
  | some none=>B2.ok (Bk.next,loc) σ
  | some (some v)=>bnd (GC Γ f ks target v loc) (λp=>bnd (X body p.2) λq=>match q.1 with
   | .next=>Iz Γ f X ks target body src n (i+1) q.2
   | .ret v=>ret (.ret v,q.2)) σ:=by
 unfold Iz;show(match B9 σ i src with
  | none=>B2.stuck
  | some none=>B2.ok (Bk.next,loc) σ
  | some (some v)=>bnd (bnd (GC Γ f ks target v loc) λp=>X body p.2) (λq=>match q.1 with
   | .next=>F8 (λv loc=>bnd (GC Γ f ks target v loc) λp=>X body p.2) src n (i+1) q.2
   | .ret v=>ret (.ret v,q.2)) σ)=_
 rcases B9 σ i src with _ | o
 ·rfl
 ·rcases o with _ | v
  ·rfl
  ·dsimp only;rw[El]
section
variable {c:FC}{m:Ac->Option Ad}{l l':Am}{d:Nat}{env:Env}{loc:Ao}{Γ:AM}{FX:Bh}
abbrev Ro(c:FC)(FX:Bh)(env:Env)(g:CU):Prop:=∀m l loc,B8 c m env l loc->DX c FX m env l (g env.scope.names loc)
abbrev Ml(c:FC)(FX:Bh)(env:Env)(X:XT):Prop:=∀body m l loc,AF c FX env m l loc (execs body env) (X body loc) FV
set_option tactic.hygienic true in
theorem Ahe{S:AL->Ao->CM (Bk×Ao)}(h:∀st m l loc,AF c FX env m l loc (exec st env) (S st loc) FV):∀(body:List AL) (m:Ac->Option Ad) (l:Am) (loc:Ao),AF c FX env m l loc (execs body env) (KP S body loc) FV:=by
 intro z1
 induction z1 with
 | nil =>
  intro m l loc;exact λs Q E st er cr ok z z=>NO (ok .next loc l m .next s.heap s.toks rfl st (Ap.refl l) er cr rfl)
 | cons st r ih =>
  intro m l loc s Q E JV er cr ok exc ns;rw[Ahb]at ok exc ns;refine Kg (h st m l loc s _ E JV er cr (λfl loc' l' m' fl' h' tk e st' x er' cr' v => ?_) (λx l' e h' tk hx xx fx=>exc x l' e h' tk (DD hx) xx fx) λq=>ns (Dd q));rw[CL e]at ok exc ns;rcases fl with _ | cv
  ·have v':fl'=.next:=v
   subst v';exact ih m' l' loc' _ Q E st' er' cr' (λb loc2 l2 m2 a2 h2 tk2 e2 st2 x2 er2 cr2 v2=>ok b loc2 l2 m2 a2 h2 tk2 e2 st2 (x.trans x2) er2 cr2 v2) (λy l2 e2 h2 tk2 hx2 xx2 fx2=>exc y l2 e2 h2 tk2 hx2 (x.trans xx2) fx2) ns
  ·refine Ah v ?_;clear v;rintro w rfl hw;exact ok (.ret cv) loc' l' m' (.ret w) h' tk rfl st' x er' cr' ⟨w,rfl,hw⟩
theorem Ahf{g:CU}{X:XT}(hg:Ro c FX env g)(hX:Ml c FX env X){test:Expr}{a b:List AL}{pos:Pos} :
  AF c FX env m l loc (exec (.If test a b pos) env) (bnd (g env.scope.names loc test) λq=>if q=true then X a loc else X b loc) FV:=by
 intro s Q E st er cr ok exc ns;refine wpAny_If ((hg m l loc er).here test s _ E st (λq l' r h' tk e st' x v => ?_) (λx l' e h' tk hx xx fx=>exc x l' e h' tk (DD hx) xx.weaken fx) λq=>ns (Dd q));have v':r=q:=v;subst v';rw[CL e]at ok exc ns;rcases r with _ | _
 ·rw[if_neg Cw]at ok exc ns;rw[if_neg Cw];exact hX b m l' loc _ Q E st' (er.mono x) (cr.mono x) (λb loc2 l2 m2 a2 h2 tk2 e2 st2 x2 er2 cr2 v2=>ok b loc2 l2 m2 a2 h2 tk2 e2 st2 (x.weaken.trans x2) er2 cr2 v2) (λy l2 e2 h2 tk2 hx2 xx2 fx2=>exc y l2 e2 h2 tk2 hx2 (x.weaken.trans xx2) fx2) ns
 ·rw[if_pos rfl]at ok exc ns;rw[if_pos rfl];exact hX a m l' loc _ Q E st' (er.mono x) (cr.mono x) (λb loc2 l2 m2 a2 h2 tk2 e2 st2 x2 er2 cr2 v2=>ok b loc2 l2 m2 a2 h2 tk2 e2 st2 (x.weaken.trans x2) er2 cr2 v2) (λy l2 e2 h2 tk2 hx2 xx2 fx2=>exc y l2 e2 h2 tk2 hx2 (x.weaken.trans xx2) fx2) ns
theorem Ahg{f:BM}(hf:Hh c FX env f){e:Expr}{pos:Pos}:AF c FX env m l loc (exec (.Return (some e) pos) env) (bnd (f env.scope.names loc e) λv=>ret (.ret v,loc)) FV:=by
 intro s Q E st er cr ok exc ns;refine AoN ((hf m l loc er).here e s _ E st (λv l' w h' tk e st' x hv => ?_) (λx l' e h' tk hx xx fx=>exc x l' e h' tk (DD hx) xx.weaken fx) λq=>ns (Dd q));exact ok (.ret v) loc l' m (.ret w) h' tk (CL e) st' x.weaken (er.mono x) (cr.mono x) ⟨w,rfl,hv⟩
theorem Ahh:AF c FX env m l loc (exec (.Return none pos) env) (ret (.ret .none,loc)) FV :=
 λs Q E st er cr ok z z=>wpAny_Return_none (ok (.ret .none) loc l m (.ret .none) s.heap s.toks rfl st (Ap.refl l) er cr ⟨.none,rfl,.none⟩)
set_option tactic.hygienic true in
theorem Ahi:AF c FX env m l loc (exec (.Pass pos) env) (ret (.next,loc)) FV :=
 λs Q E st er cr ok z z=>wpAny_Pass (ok .next loc l m .next s.heap s.toks rfl st (Ap.refl l) er cr rfl)
theorem Rp(h:KN value=true):Ue value none n env=pure false:=by
 unfold Ue;rcases value with⟨⟩<;>first | rfl | (exfalso;injection h)
set_option tactic.hygienic true in
theorem Wz(fe:Du c env){f:BM}(hf:Hh c FX env f){e:Expr}{pos:Pos}:AF c FX env m l loc (exec (.Expr e pos) env) (if KN e=true then bnd (f env.scope.names loc e) λz=>ret (.next,loc)else Ar) FV:=by
 refine AF.guard λhn => ?_;intro s Q E st er cr ok exc ns;have hi:NP env=false:=by unfold NP;rw[fe.eo.kind];rfl
 refine AaN ((hf m l loc er).here e s _ E st (λv l' w h' tk e st' x hv => ?_) (λx l' e h' tk hx xx fx=>exc x l' e h' tk (DD hx) xx.weaken fx) λq=>ns (Dd q)) hi (Rp hn);exact ok .next loc l' m .next h' tk (CL e) st' x.weaken (er.mono x) (cr.mono x) rfl
inductive WA(c:FC)(env:Env)(l:Am)(s:Aq)(F:Nat->Ao->CM (Bk×Ao))(RES:B2 (Bk×Ao))(k:Nat):Aq->Prop
 | mk (l1:Am) (h':AY) (tk:Nat) (m1:Ac->Option Ad) (Et:Ao) (st:St c m1 l1 h') (x:Ap (Dc env) l l1) (er:B8 c m1 env l1 Et) (cr:Fz env l1) (e:F k Et l1.σ=RES):WA c env l s F RES k (put s h' tk)
set_option tactic.hygienic true in
theorem Ahj(fx:JB c FX)(fe:Du c env){g:CU}{X:XT}(hg:Ro c FX env g)(hX:Ml c FX env X){test:Expr}{body:List AL}{pos:Pos}{N:Nat} :
  AF c FX env m l loc (exec (.While test body [] pos) env) (Iy g X env.scope.names test body N loc) FV:=by
 intro s Q E st er cr ok exc ns
 generalize hR:Iy g X env.scope.names test body N loc l.σ=RES at ns
 have ok':=ok;refine wpAny_While (codeAny_whileLoop (WA c env l s (Iy g X env.scope.names test body) RES) ?_ N (.mk l s.heap s.toks m loc st (Ap.refl l) er cr hR));rintro k s' ⟨l1,h1,tk1,m1,Et,st1,x1,er1,cr1,e1⟩;have raise:∀x l' e h' tk,RES=.exc x l'.σ->Ap (Dc env) l l'->FX l' x e h'->notedBy c.M c.A env (λe s'=>Uf c.M c.A env E e s') e (put s h' tk):=λx l' e h' tk hx xx hfx =>
  fx.own env l' x e _ E fe.fen hfx λh2 hfx2=>exc x l' e h2 tk (hR.trans hx) xx hfx2
 rcases k with _ | k
 ·exact absurd e1.symm ns
 ·rw[Wy]at e1;refine(hg m1 l1 Et er1).here test _ _ _ st1 (λq l2 r h2 tk2 e2 st2 x2 v => ?_) (λx l' e h' tk hx xx hfx=>raise x l' e h' tk (e1.symm.trans (DD hx)) (x1.trans xx.weaken) hfx) λq=>ns (e1.symm.trans (Dd q));have v':r=q:=v;subst v';rw[CL e2]at e1;have x12:=x1.trans (x2.weaken (D:=Dc env));rcases r with _ | _
  ·rw[if_neg Cw]at e1;rw[if_neg Cw];exact NO (ok .next Et l2 m1 .next h2 tk2 (hR.trans e1.symm) st2 x12 (er1.mono x2) (cr1.mono x2) rfl)
  ·rw[if_pos rfl]at e1;rw[if_pos rfl];refine hX body m1 l2 Et _ _ _ st2 (er1.mono x2) (cr1.mono x2) (λfl loc3 l3 m3 fl' h3 tk3 e3 st3 x3 er3 cr3 v3 => ?_) (λx l' e h' tk hx xx hfx=>raise x l' e h' tk (e1.symm.trans (DD hx)) (x12.trans xx) hfx) λq=>ns (e1.symm.trans (Dd q));rw[CL e3]at e1;rcases fl with _ | cv
   ·have v':fl'=.next:=v3
    subst v';exact⟨k,Je _,.mk l3 h3 tk3 m3 loc3 st3 (x12.trans x3) er3 cr3 e1⟩
   ·refine Ah v3 ?_;clear v3;rintro w rfl hw;exact ok (.ret cv) loc3 l3 m3 (.ret w) h3 tk3 (hR.trans e1.symm) st3 (x12.trans x3) er3 cr3 ⟨w,rfl,hw⟩
end
end
section
section
variable {c:FC}{m:Ac->Option Ad}{l l':Am}{d:Nat}{env:Env}{loc:Ao}{Γ:AM}{FX:Bh}
theorem HG.monoA(x:Ap D l l')(h1:∀y a,env.cells.lookup y=some a->¬D a)(h2:¬D env.locals){n:Ac}{k:Go}{v:CV}(h:HG c m env l n k v):HG c m env l' n k v:=by
 rcases k with _ | _ | _ | _ | _
 case «local» =>
  rcases h with⟨e,w,hm,hv⟩ | ⟨oC,m₂,w,ho,hc,hn,hm,hv⟩
  ·exact .inl ⟨e,w,hm,hv.mono x⟩
  ·exact .inr ⟨oC,m₂,w,x.oth _ ho (.inr h2),hc,hn,hm,hv.mono x⟩
 case cell =>
  refine EZ h ?_;clear h;rintro a o w e ho hd hv;exact⟨a,o,w,e,x.oth _ ho (.inr (h1 _ _ e)),hd,hv.mono x⟩
 case free =>
  refine EZ h ?_;clear h;rintro a o w e ho hd hv;exact⟨a,o,w,e,x.oth _ ho (.inr (h1 _ _ e)),hd,hv.mono x⟩
 all_goals exact h
theorem B8.monoA(x:Ap D l l')(h1:∀y a,env.cells.lookup y=some a->¬D a)(h2:¬D env.locals)(h:B8 c m env l loc):B8 c m env l' loc :=
 ⟨λy v k e q=>(h.nm y v k e q).monoA x h1 h2,h.lo.imp id λ⟨o,ho⟩=>⟨o,x.oth _ ho (.inr h2)⟩⟩
theorem Fz.monoA(x:Ap D l l')(h1:∀y a,env.cells.lookup y=some a->¬D a)(h:Fz env l):Fz env l' :=
 ⟨λy a hy=>by
  refine Ba (h.at_ y a hy) ?_;rintro o u ho hd;exact⟨o,u,x.oth _ ho (.inr (h1 _ _ hy)),hd⟩,h.has,h.inj⟩
inductive WB(c:FC)(env:Env)(J:Af->Prop)(l2:Am)(I:Af)(src:Ck)(s:Aq)(F:Nat->Nat->Ao->CM (Bk×Ao))(RES:B2 (Bk×Ao))(k:Nat):Aq->Prop
 | mk (l1:Am) (h':AY) (tk:Nat) (m1:Ac->Option Ad) (Et:Ao) (i:Nat) (st:St c m1 l1 h') (x:Ap (λa=>J a\/Dc env a) l2 l1) (er:B8 c m1 env l1 Et) (cr:Fz env l1) (hi:F6 J l1 i I src) (e:F k i Et l1.σ=RES):WB c env J l2 I src s F RES k (put s h' tk)
set_option tactic.hygienic true in
theorem Ahk(fx:JB c FX)(fe:Du c env)(ok:AJ c d)(g:Bn c.K Γ){f:BM}(hf:Hh c FX env f){X:XT}(hX:Ml c FX env X){target iter:Expr}{body:List AL}{pos:Pos}{N:Nat} :
  AF c FX env m l loc (exec (.For target iter body [] pos) env) (if Hg iter=true then bnd (GB (f env.scope.names loc) Γ env.scope.names iter) λsrc=>if He target src=true then Iz Γ f X env.scope.names target body src N 0 loc else Ar else Ar) FV:=by
 refine AF.guard λhset => ?_;intro s Q E st er cr okk exc ns;refine wpAny_For ?_ (Wp hset);refine Wo ok g fe.eo (hf m l loc er) iter s _ E st (λsrc l1 v h1 tk1 e1 st1 x1 hsrc => ?_) (λx l' e h' tk hx xx fx=>exc x l' e h' tk (DD hx) xx.weaken fx) λq=>ns (Dd q);rw[CL e1]at okk exc ns
 by_cases hfit:He target src=true
 ·rw[if_pos hfit]at okk exc ns;refine Wi st1 x1 hsrc λI l2 h2 tk2 J st2 x2 e2 hi hJ hJ0 => ?_;rw[<- e2]at okk exc ns;have x02:Ap No l l2:=x1.trans x2;have hJc:∀y a,env.cells.lookup y=some a->¬J a:=λy a hy=>by
   refine Ba (cr.at_ y a hy) ?_;rintro o u ho _;exact hJ0 _ ho
  have hJl:¬J env.locals:=λq=>by
   refine Ah (hJ _ q) ?_;rintro o ho _;exact(st2.nw _ ho.1).2.1 fe.loc
  have hJD:∀a,J a->¬Dc env a:=λa q ⟨y,hy⟩=>hJc y a hy q;have all:∀l',Ap (λa=>J a\/Dc env a) l2 l'->Ap (Dc env) l l':=λl' x=>((x02.weaken).trans x).narrow λp hp q=>q.elim (λq=>absurd q (hJ0 p hp)) id
  generalize hR:Iz Γ f X env.scope.names target body src N 0 loc l2.σ=RES at ns
  have raise:∀x l' e h' tk,RES=.exc x l'.σ->Ap (λa=>J a\/Dc env a) l2 l'->FX l' x e h'->notedBy c.M c.A env (λe s'=>Uf c.M c.A env E e s') e (put s h' tk):=λx l' e h' tk hx xx hfx =>
   fx.own env l' x e _ E fe.fen hfx λh2 hfx2=>exc x l' e h2 tk (hR.trans hx) (all l' xx) hfx2
  refine codeAny_forLoop_any (WB c env J l2 I src s (Iz Γ f X env.scope.names target body src) RES) ?_ N (.mk l2 h2 tk2 m loc 0 st2 (Ap.refl l2) (er.mono x02) (cr.mono x02) hi hR);rintro k s' ⟨l3,h3,tk3,m3,loc3,i,st3,x3,er3,cr3,hi3,e3⟩;rcases k with _ | k
  ·exact absurd e3.symm ns
  ·rw[Ahd]at e3;rcases hit:B9 l3.σ i src with _ | o
   ·rw[hit]at e3;exact absurd e3.symm ns
   ·rw[hit]at e3;rcases o with _ | cv
    ·dsimp only at e3;refine Wh ok.handled st3 hi3 hit λl4 h4 tk4 st4 x4 e4 => ?_;refine NO (okk .next loc3 l4 m3 .next h4 tk4 (by rw[hR,<- e3,e4]) st4 (all l4 (x3.trans (x4.widen λa q=>.inl q))) (er3.monoA x4 hJc hJl) (cr3.monoA x4 hJc) rfl)
    ·dsimp only at e3;refine Wg st3 hi3 hfit hit (Q2:=λv s₂=>wpAny c.M c.A (assign target env v) _ _ s₂) (λv s₂ hN => ?_) λv s₁ h=>h;refine Uy hN ?_;clear hN;rintro l4 h4 tk4 rfl st4 x4 e4 hi4 hv4;have er4:=er3.monoA x4 hJc hJl;have cr4:=cr3.monoA x4 hJc;have x34:=x3.trans (x4.widen (D':=λa=>J a\/Dc env a) λa q=>.inl q);rw[<- e4]at e3;refine Wv fe ok g hf hv4 _ _ _ st4 er4 cr4 (λb loc5 l5 m5 a5 h5 tk5 e5 st5 x5 er5 cr5 v5 => ?_) (λx l' e h' tk hx xx hfx=>raise x l' e h' tk (e3.symm.trans (DD hx)) (x34.trans (xx.widen λa q=>.inr q)) hfx) λq=>ns (e3.symm.trans (Dd q));rw[CL e5]at e3;have x35:=x34.trans (x5.widen (D':=λa=>J a\/Dc env a) λa q=>.inr q);have hi5:F6 J l5 (i+1) I src:=hi4.mono x5 hJD;refine hX body m5 l5 loc5 _ _ _ st5 er5 cr5 (λfl loc6 l6 m6 fl' h6 tk6 e6 st6 x6 er6 cr6 v6 => ?_) (λx l' e h' tk hx xx hfx=>raise x l' e h' tk (e3.symm.trans (DD hx)) (x35.trans (xx.widen λa q=>.inr q)) hfx) λq=>ns (e3.symm.trans (Dd q));rw[CL e6]at e3;have x36:=x35.trans (x6.widen (D':=λa=>J a\/Dc env a) λa q=>.inr q);rcases fl with _ | cv
     ·have v':fl'=.next:=v6
      subst v';exact⟨k,Je _,.mk l6 h6 tk6 m6 loc6 (i+1) st6 x36 er6 cr6 (hi5.mono x6 hJD) e3⟩
     ·refine Ah v6 ?_;clear v6;rintro w rfl hw;exact okk (.ret cv) loc6 l6 m6 (.ret w) h6 tk6 (hR.trans e3.symm) st6 (all l6 x36) er6 cr6 ⟨w,rfl,hw⟩
 ·rw[if_neg hfit]at ns;exact absurd rfl ns
end
end
section
set_option maxHeartbeats 1000000
open Builtin
theorem Rq{x:CM α}{k:α->CM β}{b:β}(h:bnd x k σ=.ok b σ'):∃a σ1,x σ=.ok a σ1/\k a σ1=.ok b σ':=by
 unfold bnd at h;rcases e:x σ with _ | ⟨a,σ1⟩ | ⟨_,_⟩
 ·rw[e]at h;(exfalso;injection h)
 ·rw[e]at h;exact⟨a,σ1,rfl,h⟩
 ·rw[e]at h;(exfalso;injection h)
theorem Rr{x:CM α}{k:α->CM β}(h:bnd x k σ=.exc y σ'):x σ=.exc y σ'\/∃a σ1,x σ=.ok a σ1/\k a σ1=.exc y σ':=by
 unfold bnd at h;rcases e:x σ with _ | ⟨a,σ1⟩ | ⟨z,τ⟩
 ·rw[e]at h;(exfalso;injection h)
 ·rw[e]at h;exact .inr ⟨a,σ1,rfl,h⟩
 ·rw[e]at h;have h':(B2.exc z τ:B2 β)=.exc y σ':=h;injection h' with za zb;subst za;subst zb
  left;rfl
theorem Rs{x:CM α}{k:α->CM β}(h:bnd x k σ=.stuck):x σ=.stuck\/∃a σ1,x σ=.ok a σ1/\k a σ1=.stuck:=by
 unfold bnd at h;rcases e:x σ with _ | ⟨a,σ1⟩ | ⟨_,_⟩
 ·exact .inl rfl
 ·rw[e]at h;exact .inr ⟨a,σ1,rfl,h⟩
 ·rw[e]at h;(exfalso;injection h)
theorem Ahl{M:J7}{A:CD}{Q:Fo->Aq->Prop}(hh:A.handled=none)
  (h:wpAny M A t (λv s₁=>∃e oe fs,v=.ref e/\s₁.heap.get? e=some oe/\oe.cls=.ref C/\oe.data=.fields fs/\fs[1]? = some .none/\BK M s₁.heap (GV (.ref C) (.type "BaseException")) true/\BK M s₁.heap (typeOf (.ref C)) (.type "type")/\E (.ref e) s₁) E s) :
  wpAny M A (raiseStmt env (some t) none) Q E s:=by
 unfold raiseStmt;refine Aj (Kb h (λv s₁ h₁ => ?_) λz z x=>x);refine Q38 h₁ ?_;clear h₁;rintro e oe fs rfl he hc hd h1 hb ht hE;rcases oe with⟨oc,od,oda,osl⟩
 dsimp only at hc hd;subst hc hd;have it:BK M s₁.heap (PySem.isType (.ref e)) false:=(LA he).andThen .now;have to:BK M s₁.heap (typeOf (.ref e)) (.ref C):=(LA he).andThen .now;have ii:BK M s₁.heap (Ka (.ref e) (.type "BaseException")) true:=to.andThen hb;refine Aj (AB (Aj (Dg ?_)));unfold excFromValue AaO;refine Aj (Aj (it.here (AB ?_)));rw[if_neg Cw];refine Aj (ii.here ?_);rw[if_pos rfl];refine AB ?_;refine Aj (it.here ?_);rw[if_neg Cw];unfold raisedInstance;refine Aj (Aj (to.here (Aj (ht.here ?_))));rw[if_pos (by decide)]
 refine AB ?_;unfold Ug;refine Aj (Aj (Kh he rfl h1 ?_));rw[if_neg (by decide)]
 exact AB (wpAny_raiseNew_none hh hE)
noncomputable def Mm(Γ:AM)(f:BM)(ks:AD)(cn:Ac)(es:List Expr)(loc:Ao):CM (Bk×Ao):=if noStar es=true/\EP ks cn=true then(match Γ.top.lookup cn with
 | some (.ref C)=>(match Γ.excs.lookup C with
  | some names=>bnd (Bx (f ks loc) es) λvs=>if vs.length=names.length then λσ=>.exc ⟨C,names.zip vs⟩ σ else Ar
  | none=>Ar)
 | _=>Ar)else Ar
section
variable {c:FC}{m:Ac->Option Ad}{l l':Am}{d:Nat}{env:Env}{loc:Ao}{Γ:AM}{FX:Bh}
set_option tactic.hygienic true in
theorem Ahm(fx:JB c FX)(fe:Du c env)(ok:AJ c d)(ok3:AJ c 3)(g:Bn c.K Γ){f:BM}(hf:Hh c FX env f){cn:Ac}{p cpos pos:Pos}{es:List Expr} :
  AF c FX env m l loc (exec (.Raise (some (.Call (.Name cn p) es [] cpos)) none pos) env) (Mm Γ f env.scope.names cn es loc) FV:=by
 unfold Mm;refine AF.guard λzz => ?_;refine At zz ?_;clear zz;rintro hn hb
 split
 ·rename_i C ht
  split
  ·rename_i names hx;have X:=g.excs C names hx;intro s Q E st er cr okk exc ns;have key:Aa c FX m l (eval (.Call (.Name cn p) es [] cpos) env) (bnd (Bx (f env.scope.names loc) es) λvs=>if vs.length=names.length then ret vs else Ar) (λl' v a=>∃x b0,v=.ref x/\a.length=names.length/\XS b0 l' x C (names.zip a)/\∀q,AQ l q->q.1<b0):=by
    refine V0 ok g fe.eo hb ht hn (G8 es (hf m l loc er)) λvs cs l1 x1 hv => ?_;refine Aa.guard λhl => ?_;intro s1 Q1 E1 st1 ok1 exc1 ns1;refine J9 (X.make c m l1 vs cs s1 _ rfl ok3 st1 hv hl λl2 x b0 h2 tk2 e2 st2 x2 hlt z => ?_);exact ok1 cs l2 (.ref x) h2 tk2 (by show B2.ok cs l1.σ=_;rw[e2]) st2 x2 ⟨x,b0,rfl,hl,z,λq hq=>hlt q (x1.all hq).1⟩
   rw[arm_exec_Raise];refine Aj (FM (Ahl (C:=C) ok.handled ?_));refine Aj ?_;refine key s _ E st (λa l1 v h1 tk1 e1 st1 x1 hV => ?_) (λy l1 e h1 tk1 hx1 xx fx1 => ?_) λq => ?_
   ·refine Cj hV ?_;clear hV;rintro x b0 rfl hl z hlt;refine AE (fx.raised m l1 b0 x C (names.zip a) h1 (by
     intro q;have:=congrArg Ib q;rw[List.length_zip,hl,Nat.min_self]at this;exact X.ne (Z6.mp this)) st1 z) ?_;rintro l2 e2 x2 hfx
    refine Ba (Rq e1) ?_;rintro a' σ1 e3 e4;have:a'.length=names.length/\a'=a/\σ1=l1.σ:=by
     by_cases q:a'.length=names.length
     ·rw[if_pos q]at e4;injection e4 with e5 e6
      exact⟨q,e5,e6⟩
     ·rw[if_neg q]at e4;(exfalso;injection e4)
    refine CZ this ?_;clear this;rintro q1 rfl rfl;have hEx:E (.ref x) (put s h1 tk1):=by
     refine exc ⟨C,names.zip a'⟩ l2 (.ref x) h1 tk1 ?_ ?_ hfx
     ·rw[CL e3,if_pos q1,e2]
     ·exact(Ap.trans (x1.weaken (D:=(·=x))) x2).narrow λq hq e=>by
       have:=hlt q hq;rw[e]at this;exact absurd (EX this z.1) (BP _)
    rcases z with⟨hb0,t,od,ho,_⟩
    refine Aj (FM (AB ?_));exact⟨x,Gv C t od,_,rfl,(st1.nw _ ho.1).1,rfl,rfl,rfl,X.base _ _ (ok.kin.keeps st1.fr.keep),X.typ _ _ (ok.kin.keeps st1.fr.keep),hEx⟩
   ·rcases Rr hx1 with q | ⟨a1,σ1,q1,q2⟩
    ·exact exc y l1 e h1 tk1 (DD q) xx.weaken fx1
    ·by_cases q:a1.length=names.length
     ·rw[if_pos q]at q2;(exfalso;injection q2)
     ·rw[if_neg q]at q2;(exfalso;injection q2)
   ·rcases Rs q with q | ⟨a1,σ1,q1,q2⟩
    ·exact ns (Dd q)
    ·by_cases q:a1.length=names.length
     ·rw[if_pos q]at q2;(exfalso;injection q2)
     ·exact ns (by rw[CL q1,if_neg q];rfl)
  ·exact AF.stuck
 ·exact AF.stuck
end
end
section
noncomputable def Mn(Γ:AM)(f:BM)(g:CU)(ks:AD)(t value:Expr)(loc:Ao):CM (Bk×Ao) :=
 if HM ks value t=true then(match value,t with
  | .ListComp elt gens scope _,.Name x _=>bnd (DN Γ (f ks loc) f g ks loc elt gens scope) λv=>bnd (E8 ks x v loc) λp=>ret (.next,p.2)
  | _,_=>Ar)
 else if Oz value=true then bnd (f ks loc value) λv=>bnd (JA Γ f ks t value v loc) λp=>ret (.next,p.2)
 else Ar
noncomputable def Rt(Γ:AM)(f:BM)(g:CU)(ks:AD)(X:XT)(st:AL)(loc:Ao):CM (Bk×Ao):=match st with
 | .Expr e _=>if KN e=true then bnd (f ks loc e) λz=>ret (.next,loc)else Ar
 | .Pass _=>ret (.next,loc)
 | .Return (some e) _=>bnd (f ks loc e) λv=>ret (.ret v,loc)
 | .Return none _=>ret (.ret .none,loc)
 | .Assign [t] value _=>Mn Γ f g ks t value loc
 | .Raise (some (.Call (.Name cn _) es [] _)) none _=>Mm Γ f ks cn es loc
 | .If t a b _=>bnd (g ks loc t) λq=>if q=true then X a loc else X b loc
 | .While t b [] _=>Iy g X ks t b 1000 loc
 | .For target iter b [] _=>if Hg iter=true then bnd (GB (f ks loc) Γ ks iter) λsrc=>if He target src=true then Iz Γ f X ks target b src Gz 0 loc else Ar else Ar
 | _=>Ar
noncomputable def GD(Γ:AM)(f:BM)(g:CU)(ks:AD):Nat->XT
 | 0=>λz z=>Ar
 | n+1=>KP (Rt Γ f g ks (GD Γ f g ks n))
section
variable {c:FC}{m:Ac->Option Ad}{l l':Am}{d:Nat}{env:Env}{loc:Ao}{Γ:AM}{FX:Bh}
structure JC(c:FC)(FX:Bh)(f:BM)(g:CU):Prop where
 ev:∀env m l loc,Ce c env->B8 c m env l loc->Bu c FX m env l (f env.scope.names loc)
 ts:∀env m l loc,Ce c env->B8 c m env l loc->DX c FX m env l (g env.scope.names loc)
theorem Ahn(fe:Du c env)(ok:AJ c d)(gk:Bn c.K Γ){f:BM}{g:CU}(ha:JC c FX f g){x:Ac}{p vp p2:Pos}{elt:Expr}{gens:List GU}{scope:Scope} :
  AF c FX env m l loc (AaG (.ListComp elt gens scope vp) scope env p2 (newList []) (AaH gens) (AaI gens env) (some (assign (.Name x p) env))) (bnd (DN Γ (f env.scope.names loc) f g env.scope.names loc elt gens scope) λv=>E8 env.scope.names x v loc) EO:=by
 intro s Q E st er cr okk exc ns;refine Wq (use:=some (assign (.Name x p) env)) (Q:=λv s'=>Q v s') ok gk fe.eo er (ha.ev env m l loc fe.eo er) (λenv' l' loc' eo' er'=>ha.ev env' m l' loc' eo' er') (λenv' l' loc' eo' er'=>ha.ts env' m l' loc' eo' er') st
  (λb l1 D h' tk C oC m' e st1 x1 hD ho hn hCe hCf => ?_) (λx l' e h' tk hx xx fx=>exc x l' e h' tk (DD hx) xx.weaken fx) λq=>ns (Dd q)
 rw[CL e]at okk exc ns;show wpAny _ _ (assign (.Name x p) env (.ref D)) _ _ _;have er1:=er.mono x1;have cr1:=cr.mono x1;refine AaC (Rk fe hD _ _ _ st1 er1 cr1 (λu loc2 l2 m2 a2 h2 tk2 e2 st2 x2 er2 cr2 z => ?_) (λy l2 e2 h2 tk2 hx2 xx2 fx2=>exc y l2 e2 h2 tk2 hx2 (x1.weaken.trans xx2) fx2) ns);have hCD:¬Dc env C:=λ⟨y,hy⟩=>by
  refine Ba (cr1.at_ y C hy) ?_;rintro o u ho2 hd;have:=Rh st1.lr.nd ho.1 ho2.1 rfl;rw[ZU]at this;refine Ba hn ?_;clear hn;rintro _ _ hd2 _;rw[this.2,hd]at hd2;exfalso;injection hd2
 have ho2:AQ l2 (C,oC):=x2.oth _ ho (.inr hCD);refine⟨m',hn.ns (st2.nw _ ho2.1).1,λh3 hs3 => ?_⟩;refine AE (st2.dropOth ho2 (Rg hn) hs3.extBut) ?_;rintro l3 e3 st3 x3;have hCl:¬C=env.locals:=hCe;refine okk () loc2 l3 m2 .none h3 _ (by rw[e3];exact e2) st3 ?_ (er2.monoA x3 (λy a hy q=>hCD ⟨y,q▸hy⟩) (λq=>hCl q.symm)) (cr2.monoA x3 λy a hy q=>hCD ⟨y,q▸hy⟩) trivial
 exact(((x1.weaken).trans (x2.widen (D':=λa=>Dc env a\/a=C) λa q=>.inl q)).trans (x3.widen λa q=>.inr q)).narrow λp hp q=>q.elim id λq=>absurd q (hCf p hp)
theorem WC{t:Expr}(h:HM ks value t=true):∃elt gens scope vp x p,value=.ListComp elt gens scope vp/\t=.Name x p:=by
 unfold HM at h;rcases hq:N9 value with _ | q
 ·rw[hq]at h;exact(Cw h).elim
 ·rw[hq]at h;dsimp only at h;rcases hw:B7 t with _ | w
  ·rw[hw]at h;exact(Cw h).elim
  ·exact⟨_,_,_,_,_,_,AeE hq,Fp hw⟩
set_option tactic.hygienic true in
theorem Aho(fe:Du c env)(ok:AJ c d)(gk:Bn c.K Γ){f:BM}{g:CU}(ha:JC c FX f g){t value:Expr}{pos:Pos} :
  AF c FX env m l loc (exec (.Assign [t] value pos) env) (Mn Γ f g env.scope.names t value loc) FV:=by
 have hf:Hh c FX env f:=λm l loc er=>ha.ev env m l loc fe.eo er;unfold Mn
 by_cases hc:HM env.scope.names value t=true
 ·rw[if_pos hc];refine UC (WC hc) ?_;rintro elt gens scope vp x p rfl rfl;rw[exec_Assign_Name_used _ _ _ _ (by have:=OA (t:=.Name x p) (n:=pos.line) fe (value:=.ListComp elt gens scope vp) rfl;rw[hc]at this;exact this)]
  intro s Q E st er cr okk exc ns;have key:wpAny c.M c.A (AaG (.ListComp elt gens scope vp) scope env (firstIterPos gens vp) (newList []) (AaH gens) (AaI gens env) (some (assign (.Name x p) env))) (λz s'=>Q .next s') E s:=by
   refine Ahn (p2:=firstIterPos gens vp) (vp:=vp) fe ok gk ha s (λz s'=>Q .next s') E st er cr (λb loc' l' m' a h' tk e st' x' er' cr' v => ?_) (λy l' e h' tk hx xx fx => ?_) λq => ?_
   ·refine okk .next loc' l' m' .next h' tk ?_ st' x' er' cr' rfl
    show bnd (DN Γ (f env.scope.names loc) f g env.scope.names loc elt gens scope) (λv=>bnd (E8 env.scope.names x v loc) λp=>ret (Bk.next,p.2)) l.σ=_
    rcases Rq e with⟨a1,σ1,e1,e2⟩
    rw[CL e1,CL e2];rfl
   ·refine exc y l' e h' tk ?_ xx fx;show bnd (DN Γ (f env.scope.names loc) f g env.scope.names loc elt gens scope) (λv=>bnd (E8 env.scope.names x v loc) λp=>ret (Bk.next,p.2)) l.σ=_
    rcases Rr hx with e1 | ⟨a1,σ1,e1,e2⟩
    ·exact DD e1
    ·rw[CL e1];exact DD e2
   ·refine ns ?_;show bnd (DN Γ (f env.scope.names loc) f g env.scope.names loc elt gens scope) (λv=>bnd (E8 env.scope.names x v loc) λp=>ret (Bk.next,p.2)) l.σ=_
    rcases Rs q with e1 | ⟨a1,σ1,e1,e2⟩
    ·exact Dd e1
    ·rw[CL e1];exact Dd e2
  exact Aj (FM (Aj (Aj (Kb key (λz s' h=>AB (AB h)) λz z e=>e))))
 ·rw[if_neg hc];refine AF.guard λho => ?_;rw[AaP];refine AF.stand _ ?_;rw[OA fe ho,P1.mpr hc];intro s Q E st er cr okk exc ns;refine Aj (AB ?_);rw[if_neg Cw];exact AF.eval ((hf m l loc er).here value) (λv a l' z x hv=>Wx fe ok gk hf hv) s Q E st er cr okk exc ns
set_option tactic.hygienic true in
theorem Ahp(fx:JB c FX)(fe:Du c env)(ok:AJ c d)(ok3:AJ c 3)(gk:Bn c.K Γ){f:BM}{g:CU}(ha:JC c FX f g){X:XT}(hX:Ml c FX env X)(st:AL)(m:Ac->Option Ad)(l:Am)(loc:Ao) :
  AF c FX env m l loc (exec st env) (Rt Γ f g env.scope.names X st loc) FV:=by
 have hf:Hh c FX env f:=λm l loc er=>ha.ev env m l loc fe.eo er;have hg:Ro c FX env g:=λm l loc er=>ha.ts env m l loc fe.eo er;rcases st with _ | _ | _ | ⟨e,p⟩ | _ | ⟨ts,v,p⟩ | _ | _ | _ | ⟨t,i,b,e,p⟩ | _ | ⟨t,b,e,p⟩ | ⟨t,a,b,p⟩ | _ | _ | _ | ⟨e,c,p⟩ | _ | _ | _ | _ | _ | _ | _ | ⟨e,p⟩ | p | _ | _
 case Expr=>exact Wz fe hf
 case Pass=>exact Ahi
 case Return =>
  rcases e with _ | e
  ·exact Ahh
  ·exact Ahg hf
 case Assign =>
  rcases ts with _ | ⟨t,r⟩
  ·exact AF.stuck
  ·rcases r with _ | ⟨_,_⟩
   ·exact Aho fe ok gk ha
   ·exact AF.stuck
 case Raise =>
  rcases e with _ | e
  ·exact AF.stuck
  ·rcases e with⟨⟩<;>try exact AF.stuck
   rename_i fn es kw q2;rcases fn with⟨⟩<;>try exact AF.stuck
   rcases kw with⟨⟩<;>try exact AF.stuck
   rcases c with⟨⟩<;>try exact AF.stuck
   exact Ahm fx fe ok ok3 gk hf
 case If=>exact Ahf hg hX
 case While =>
  rcases e with _ | ⟨_,_⟩
  ·exact Ahj fx fe hg hX
  ·exact AF.stuck
 case For =>
  rcases e with _ | ⟨_,_⟩
  ·exact Ahk fx fe ok gk hf hX
  ·exact AF.stuck
 all_goals exact AF.stuck
theorem Ru(fx:JB c FX)(fe:Du c env)(ok:AJ c d)(ok3:AJ c 3)(gk:Bn c.K Γ){f:BM}{g:CU}(ha:JC c FX f g)(n:Nat):Ml c FX env (GD Γ f g env.scope.names n):=by
 induction n with
 | zero=>exact λbody m l loc=>AF.stuck
 | succ n ih=>exact λbody m l loc=>Ahe (λst m l loc=>Ahp fx fe ok ok3 gk ha ih st m l loc) body m l loc
end
end
theorem Ahq:∀{xs:List Ac} {vs:List Ad},xs.length=vs.length->∀x∈xs,((xs.zip vs).lookup x).isSome=true:=by
 intro z1
 induction z1 with
 | nil =>
  intro z2 z3 z4 h;exact nomatch h
 | cons y xs ih =>
  intro z5;rcases z5 with _ | ⟨v,vs⟩
  ·intro h z6 z7;exfalso;injection h
  ·intro h x hx;rw[Hz,BC]
   by_cases e:x=y
   ·subst e;simp
   ·have:(x == y)=false:=beq_eq_false_iff_ne.mpr e;rw[this];rcases AS.mp hx with q | q
    ·exact absurd q e
    ·exact ih (by simpa using h) x q
theorem Ahr:∀{xs:List Ac} {vs:List Ad},xs.length=vs.length->xs.Nodup->xs.filterMap (λn=>((xs.zip vs).lookup n).map (n,·))=xs.zip vs:=by
 have key:∀(ys:List Ac) (ws:List Ad) (pre:List (Ac×Ad)),ys.length=ws.length->ys.Nodup->(∀y∈ys,pre.lookup y=none)->ys.filterMap (λn=>((pre++ys.zip ws).lookup n).map (n,·))=ys.zip ws:=by
  intro ys
  induction ys with
  | nil=>intro ws pre _ _ _;rfl
  | cons y ys ih =>
   intro ws pre hl nd hp;rcases ws with _ | ⟨w,ws⟩
   ·exfalso;injection hl
   ·refine At (Dm.mp nd) ?_;rintro n1 n2;have hy:(pre++(y::ys).zip (w::ws)).lookup y=some w:=by
     rw[AaQ,hp y (.head _),Hz,BC];simp
    rw[AaR,hy];simp only[Qc];rw[Hz]
    congr 1
    have:=ih ws (pre++[(y,w)]) (by simpa using hl) n2 (λz hz=>by
     rw[AaQ,hp z (.tail _ hz),BC];have hne:z≠y:=λq=>n1 (q▸hz);have:(z == y)=false:=beq_eq_false_iff_ne.mpr hne;rw[this];rfl)
    rw[FQ]at this;exact this
 intro xs vs hl nd;exact key xs vs [] hl nd λx x=>rfl
noncomputable def Mo(p:PG):Bool:=p.posonlyargs.isEmpty && p.kwonlyargs.isEmpty && p.vararg.isNone && p.kwarg.isNone && decide ((p.args.map (·.arg)).Nodup)
theorem Ahs{m:Type->Type}[Monad m]{L:List α}{s:β}{f:α->β->m (ForInStep β)}(h:L=[]):forIn L s f=pure s:=by subst h;rfl
theorem Rw{fd:FuncData}(hp:Mo fd.params=true)(hd:fd.defaults=.none)(hl:(fd.params.args.map (·.arg)).length=vs.length):BindsTo s fd ⟨vs,[]⟩ ((fd.params.args.map (·.arg)).zip vs):=by
 simp only[Mo,A9,AaS,AoO,decide_eq_true_eq]at hp;refine At hp ?_;clear hp;rintro⟨⟨⟨h1,h2⟩,h3⟩,h4⟩ nd;rcases fd with⟨a1,a2,⟨po,ar,va,ko,kd,ka,de⟩,a4,a5,a6,a7,dV,a9,a10,a11,a12,a13,a14,a15⟩
 dsimp only at h1 h2 h3 h4 nd hd hl ⊢;subst h1 h2 h3 h4
 generalize hxs:ar.map (·.arg)=xs at *
 have e1:=Ahr hl nd;have e2:xs.filter (λn=>((xs.zip vs).lookup n).isNone)=[]:=by
  rw[List.filter_eq_nil_iff];intro x hx;have:=Ahq hl x hx;rcases q:(xs.zip vs).lookup x with _ | _
  ·rw[q]at this;(exfalso;injection this)
  ·simp[q]
 have hle:¬vs.length>xs.length:=AdI hl;have D0:Uh (([]:List Ad).length-xs.length) ([]:List Ad)=[]:=ZR;have c1:¬((decide (vs.length>xs.length) && true)=true):=by rw[decide_eq_false hle];exact Cw
 have c2:¬((!(((xs.take (xs.length-(Uh (([]:List Ad).length-xs.length) ([]:List Ad)).length)).filter λn=>((xs.zip vs).lookup n).isNone).isEmpty))=true):=by rw[D0,DL,AaT,Aay,e2];exact Cw
 have c3:(xs.drop (xs.length-(Uh (([]:List Ad).length-xs.length) ([]:List Ad)).length)).zip (Uh (([]:List Ad).length-xs.length) ([]:List Ad))=[]:=by rw[D0,AoP]
 have c4:(xs++[]).filterMap (λn=>((xs.zip vs).lookup n).map (n,·))=xs.zip vs:=by rw[Dn,e1]
 clear e1 e2 hle D0 nd hl;subst hxs;exact BindsTo.of_eq ((show bindArgs _ ⟨vs,[]⟩=seqItems? dV >>= _ from rfl).trans ((congrArg (λm=>m >>= _) (show seqItems? dV=pure none from hd▸rfl)).trans ((Qb _ _).trans ((if_neg c1).trans ((if_neg c2).trans ((congrArg (λm=>m >>= _) (Ahs c3)).trans ((Qb _ _).trans ((Qb _ _).trans (congrArg pure c4)))))))))
noncomputable def HN(D:C0):Bool:=Mo D.params && (D.scope.kind == .function) && !D.scope.isCoroutine && !D.scope.isGenerator &&
 (D.params.args.all λa=>D.scope.names.lookup a.arg == some .local || D.scope.names.lookup a.arg == some .cell) && decide (((FT 0 D.scope.names []).map (·.1)).Nodup)
set_option tactic.hygienic true in
noncomputable def JD(Γ:AM)(N:Nat)(D:C0)(vs:List CV):CM CV:=if HN D=true/\(D.params.args.map (·.arg)).length=vs.length then
 bnd (GD Γ (Bp Γ N).1 (Bp Γ N).2 D.scope.names N D.body ((D.params.args.map (·.arg)).zip vs)) λp=>match p.1 with
  | .next=>ret .none
  | .ret v=>ret v
 else Ar
theorem WD:∀(names:List (Ac×Go)) (n:Nat) (acc:List (Ac×Af)),(acc.map (·.2)).Nodup->(∀p∈acc,p.2<n)->((FT n names acc).map (·.2)).Nodup/\∀p∈FT n names acc,p∈acc\/n<=p.2:=by
 intro z1
 induction z1 with
 | nil =>
  intro n acc nd h;exact⟨nd,λp hp=>.inl hp⟩
 | cons z2 r ih =>
  rcases z2 with⟨x,k⟩
  intro n acc nd h;rw[cellsFrom.eq_2]
  split
  ·refine At (ih (n+1) ((x,n)::acc) (by
    rw[Bj];refine Dm.mpr ⟨λq => ?_,nd⟩;refine Ah (BB.mp q) ?_;rintro p hp e;have:=h p hp;rw[e]at this;exact BP _ this) (λp hp=>by
    rcases AS.mp hp with rfl | hp
    ·exact Je _
    ·exact NH (h p hp))) ?_;rintro h1 h2
   refine⟨h1,λp hp => ?_⟩;rcases h2 p hp with q | q
   ·rcases AS.mp q with rfl | q
    ·exact .inr (AK _)
    ·exact .inl q
   ·exact .inr (Ty q)
  ·exact ih n acc nd h
theorem cellsFrom_names:∀(names:List (Ac×Go)) (n n':Nat) (acc acc':List (Ac×Af)),acc.map (·.1)=acc'.map (·.1)->(FT n names acc).map (·.1)=(FT n' names acc').map (·.1):=by
 intro z1
 induction z1 with
 | nil =>
  intro z3 z4 z5 z6 h;exact h
 | cons z2 r ih =>
  rcases z2 with⟨x,k⟩
  intro n n' acc acc' h;rw[cellsFrom.eq_2,cellsFrom.eq_2]
  split
  ·exact ih _ _ _ _ (by rw[Bj,Bj,h])
  ·exact ih _ _ _ _ h
theorem WE{cm:Ac->Option Ad}{cs:List (Ac×Af)}{cells:List (Af×AR)}(h:Ui cm cs cells):cells.map (·.1)=cs.map (·.2):=by
 induction h with
 | nil=>rfl
 | cons _ _ ih=>rw[Bj,Bj,ih]
theorem Rx{cm:Ac->Option Ad}{cs:List (Ac×Af)}{cells:List (Af×AR)}{a:Af}(hc:Ui cm cs cells):cs.lookup x=some a->∃o,(a,o)∈cells/\o.data=.cell (cm x):=by
 induction hc with
 | nil=>exact λh=>nomatch h
 | @cons n c o _ _ hd r ih =>
  intro h;rw[BC]at h
  by_cases e:x=n
  ·subst e;simp at h;subst h;exact⟨o,.head _,hd⟩
  ·rw[beq_eq_false_iff_ne.mpr e]at h;refine Ah (ih h) ?_;rintro o' h1 h2;exact⟨o',.tail _ h1,h2⟩
theorem WF:∀{cs:List (Ac×Af)} {x y:Ac} {a:Af},(cs.map (·.2)).Nodup->cs.lookup x=some a->cs.lookup y=some a->x=y:=by
 intro z1
 induction z1 with
 | nil =>
  intro z3 z4 z5 z6 h z7;exfalso;injection h
 | cons z2 r ih0 =>
  rcases z2 with⟨n,b⟩
  intro x y a nd h1 h2;rw[Bj]at nd;refine At (Dm.mp nd) ?_;rintro n1 n2;have mem:∀{z:Ac},r.lookup z=some a->a∈r.map (·.2):=λ{z} h=>by
   clear n1 n2 nd h1 h2 ih0
   induction r with
   | nil=>(exfalso;injection h)
   | cons p r ih =>
    rcases p with⟨q,b'⟩
    rw[BC]at h
    by_cases e:z=q
    ·subst e;simp at h;subst h;simp
    ·rw[beq_eq_false_iff_ne.mpr e]at h;rw[Bj];exact .tail _ (ih h)
  rw[BC]at h1 h2
  by_cases e1:x=n<;>by_cases e2:y=n
  ·rw[e1,e2]
  ·rw[beq_eq_false_iff_ne.mpr e2]at h2;subst e1;simp at h1;subst h1;exact absurd (mem h2) n1
  ·rw[beq_eq_false_iff_ne.mpr e1]at h1;subst e2;simp at h2;subst h2;exact absurd (mem h1) n1
  ·rw[beq_eq_false_iff_ne.mpr e1]at h1;rw[beq_eq_false_iff_ne.mpr e2]at h2;exact ih0 n2 h1 h2
theorem OB:∀(names:List (Ac×Go)) (n:Nat) (acc:List (Ac×Af)) (x:Ac),(names.lookup x=some .cell\/(acc.lookup x).isSome=true)->((FT n names acc).lookup x).isSome=true:=λnames n acc x h=>cellsFrom_some names n acc h
set_option tactic.hygienic true in
theorem WG{kindOf:Ac->Option Go}:∀(xs:List Ac) (vs:List Ad) (cs:List CV) (m cm:Ac->Option Ad) (l:Am),xs.length=vs.length->xs.Nodup->Az l vs cs->∀x a,(xs.zip cs).lookup x=some a ->
  ∃v,VR l v a/\(if kindOf x=some .local then bindL kindOf (xs.zip vs) m x=some v else bindC kindOf (xs.zip vs) cm x=some v):=by
 have keep:∀(xs:List Ac) (vs:List Ad) (m cm:Ac->Option Ad) (x:Ac),x∉xs->bindL kindOf (xs.zip vs) m x=m x/\bindC kindOf (xs.zip vs) cm x=cm x:=by
  intro xs
  induction xs with
  | nil=>intro vs m cm x _;exact⟨rfl,rfl⟩
  | cons y ys ih =>
   intro vs m cm x hx;rcases vs with _ | ⟨v,vs⟩
   ·exact⟨rfl,rfl⟩
   ·rw[AS,not_or]at hx;rw[Hz];rw[bindL.eq_2,bindC.eq_2];refine At (ih vs (if kindOf y=some .local then λz=>if z=y then some v else m z else m) (if kindOf y=some .local then cm else λz=>if z=y then some v else cm z) x hx.2) ?_;rintro h1 h2;rw[h1,h2];constructor
    ·split
     ·exact if_neg hx.1
     ·rfl
    ·split
     ·rfl
     ·exact if_neg hx.1
 intro xs
 induction xs with
 | nil=>intro vs cs m cm l _ _ hv x a h;(exfalso;injection h)
 | cons y ys ih =>
  intro vs cs m cm l hl nd hv x a h;rcases hv with _ | ⟨hv,hr⟩
  ·exfalso;injection hl
  ·rename_i v vs c0 cs;refine At (Dm.mp nd) ?_;rintro n1 n2;rw[Hz]at h;rw[BC]at h;rw[Hz];rw[bindL.eq_2,bindC.eq_2]
   by_cases e:x=y
   ·subst e;simp at h;subst h;refine⟨v,hv,?_⟩;refine At (keep ys vs (if kindOf x=some .local then λz=>if z=x then some v else m z else m) (if kindOf x=some .local then cm else λz=>if z=x then some v else cm z) x n1) ?_;rintro h1 h2;rw[h1,h2]
    split
    ·exact if_pos rfl
    ·exact if_pos rfl
   ·rw[beq_eq_false_iff_ne.mpr e]at h;exact ih vs cs _ _ l (by simpa using hl) n2 hr x a h
noncomputable def FC.callee(c:FC)(g:AY)(L:Af)(env:Env):FC:={ c with A:=c.A.deeper env,A₀:=c.A,outer:=c.fenv::c.outer,h₀:=g,L:=L,fenv:=env }
structure Ry(FX:FC->Bh):Prop where
 own:∀c d,AJ c d->JB c (FX c)
 leave:∀(c:FC) (d:Nat) (m:Ac->Option Ad) (g:AY) (L:Af) (env:Env) (l0 l:Am) (x:CX) (e:Ad) (s:Aq) (Q:Unit->Aq->Prop) (E:Ad->Aq->Prop),AJ c d->AJ (c.callee g L env) d->Fr c.h₀ c.L g m->env.frame=some L->env.scope.kind=.function ->
  FX (c.callee g L env) l x e s.heap->(∀h',FX c l x e h'->Q () { s with heap:=h' })->wpAny c.M (c.A.deeper env) (leaving env e) Q E s
structure OC(D:C0):Prop where
 hp:Mo D.params=true
 hk:D.scope.kind=.function
 hco:D.scope.isCoroutine=false
 hgen:D.scope.isGenerator=false
 hnd:((FT 0 D.scope.names []).map (·.1)).Nodup
 hxs:(D.params.args.map (·.arg)).Nodup
 kinds:∀x∈D.params.args.map (·.arg),D.scope.names.lookup x=some .local\/D.scope.names.lookup x=some .cell
theorem WH{D:C0}(h:HN D=true):OC D:=by
 simp only[HN,A9,EY,beq_iff_eq,decide_eq_true_eq]at h;refine⟨h.1.1.1.1.1,h.1.1.1.1.2,h.1.1.1.2,h.1.1.2,h.2,of_decide_eq_true (Nf.mp h.1.1.1.1.1).2,λx hx => ?_⟩;refine Ah (BB.mp hx) ?_;rintro a ha rfl;have:=B0.mp h.1.2 a ha
 simpa using this
theorem OC.binds{D:C0}(G:OC D)(vs:List Ad):(((D.params.args.map (·.arg)).zip vs).all λy=>D.scope.names.lookup y.1 == some .local || D.scope.names.lookup y.1 == some .cell)=true:=by
 rw[B0];rintro⟨x,v⟩ hx;have:=G.kinds x (Uj hx).1
 simpa using this
theorem Aht{a:α}:∀{ps:List (Ac×α)},ps.lookup x=some a->(x,a)∈ps:=λ{ps} hx=>by
 induction ps with
 | nil=>(exfalso;injection hx)
 | cons p r ih =>
  rcases p with⟨y,b⟩
  rw[BC]at hx
  by_cases e:x=y
  ·subst e;simp at hx;subst hx;exact .head _
  ·rw[beq_eq_false_iff_ne.mpr e]at hx;exact .tail _ (ih hx)
structure Ahu(c c':FC)(env:Env)(m:Ac->Option Ad)(l l1:Am)(h:AY)(loc:Ao)(d:Nat):Prop where
 ok:AJ c' (d+1)
 fe:Du c' env
 st:St c' m l1 h
 er:B8 c' m env l1 loc
 cr:Fz env l1
 all:∀l',Ap (Dc env) l1 l'->Ap No l l'
theorem WI{f:Af}{D:C0}{cdv:Ad}{g1 h h₁:AY}{L':Af}{cells:List (Af×AR)}{m:Ac->Option Ad}(G:OC D)(ok:AJ c (d+2))(st:St c m l h)(hv:Az l vs cs)(hlen:(D.params.args.map (·.arg)).length=vs.length)
  (F1:Fr g1 L' h₁ (bindL (envOfC D.qual D.scope L' f cdv).kindOf ((D.params.args.map (·.arg)).zip vs) λj=>none)) (N1:CE g1 L' h₁ (cells++l.Φ))
  (CA:Ui (bindC (envOfC D.qual D.scope L' f cdv).kindOf ((D.params.args.map (·.arg)).zip vs) λj=>none) (FT (L' + 1) D.scope.names []) cells) (B1:Below c.A c.base (c.fenv::c.outer) g1) (K1:c.K.In g1) (T1:Top c.p c.loose c.mean c.mg c.mb g1) (hlt:∀p∈l.Φ,p.1<L') :
  Ahu c (c.callee g1 L' (envOfC D.qual D.scope L' f cdv)) (envOfC D.qual D.scope L' f cdv) (bindL (envOfC D.qual D.scope L' f cdv).kindOf ((D.params.args.map (·.arg)).zip vs) λj=>none) l { l with Φ:=cells++l.Φ } h₁ ((D.params.args.map (·.arg)).zip cs) d:=by
 refine At (WD D.scope.names (L' + 1) [] G1 (λp hp=>by rcases hp with⟨⟩)) ?_;rintro ca1 ca2
 have hkeys:=WE CA;have cge:∀p∈cells,L'<p.1:=λp hp=>by
  have:p.1∈(FT (L' + 1) D.scope.names []).map (·.2):=hkeys▸Dl (f:=(·.1)) hp;refine Ah (BB.mp this) ?_;rintro q hq e;rcases ca2 q hq with z | z
  ·rcases z with⟨⟩
  ·rw[<- e];exact z
 have nd:((cells++l.Φ).map (·.1)).Nodup:=by
  rw[BJ];refine FL.mpr ⟨by rw[hkeys];exact ca1,st.lr.nd,λa ha b hb q => ?_⟩
  refine Ah (BB.mp ha) ?_;rintro p hp e;refine Ah (BB.mp hb) ?_;rintro p2 hp2 e2;exact absurd (Lw (cge p hp) (e.trans (q.trans e2.symm)▸hlt p2 hp2)) (BP _)
 have x1:Ap No l { l with Φ:=cells++l.Φ }:=Ap.junk rfl
 have cell_at:∀x a,(envOfC D.qual D.scope L' f cdv).cells.lookup x=some a->∃o,AQ { l with Φ:=cells++l.Φ } (a,o)/\o.data=.cell (bindC (envOfC D.qual D.scope L' f cdv).kindOf ((D.params.args.map (·.arg)).zip vs) (λj=>none) x):=λx a h=>by
  refine Ah (Rx CA h) ?_;rintro o h1 h2;exact⟨o,st.lr.junk_oth rfl nd h1,h2⟩
 refine⟨⟨B1,K1,T1,?_,rfl,G.hk,?_,?_,ok.handled⟩,⟨⟨rfl,rfl,G.hk,rfl⟩,rfl,rfl⟩,⟨F1,N1,st.lr.junk rfl nd⟩,⟨λx a k hx hkx => ?_,.inl rfl⟩,⟨λx a h => ?_,λx hx => ?_,λx y a h1 h2=>WF ca1 h1 h2⟩,λl' x => ?_⟩
 ·show Option.map _ c.A.frames=_;rw[ok.frames];rfl
 ·have:=ok.depth;show c.A.depth+1+10*(d+1)<=900;exact AdL this
 ·have:=ok.units;show c.A.units+3+100*(d+1)<=9000;exact AdK this
 ·have hxm:x∈D.params.args.map (·.arg):=(Uj (Aht hx)).1;refine Ah (WG (kindOf:=(envOfC D.qual D.scope L' f cdv).kindOf) _ vs cs (λj=>none) (λj=>none) l hlen G.hxs hv x a hx) ?_;rintro v hva hb;have hkx':D.scope.names.lookup x=some k:=hkx;rcases G.kinds x hxm with q | q
  ·obtain rfl:k=.local:=Ay (hkx'.symm.trans q);rw[if_pos hkx]at hb;exact .inl ⟨rfl,v,hb,hva.mono x1⟩
  ·obtain rfl:k=.cell:=Ay (hkx'.symm.trans q);rw[if_neg (by rw[hkx];intro q;(injection q with za;exfalso;injection za))]at hb
   refine AI (Kc.mp (OB D.scope.names (L' + 1) [] x (.inl q))) ?_;rintro ad had;refine Ah (cell_at x ad had) ?_;rintro o ho hd;rw[hb]at hd;exact⟨ad,o,v,had,ho,hd,hva.mono x1⟩
 ·refine Ah (cell_at x a h) ?_;rintro o ho hd;exact⟨o,_,ho,hd⟩
 ·exact Kc.mp (OB D.scope.names (L' + 1) [] x (.inl hx))
 ·refine(x1.weaken.trans x).narrow λp hp zz => ?_;refine AI zz ?_;clear zz;rintro y hy;refine Ah (Rx CA hy) ?_;rintro o h1 _;exact absurd (Lw (cge _ h1) (hlt p hp.1)) (BP _)
theorem WJ(ok:AJ c d):c.A.depth<AoQ:=by
 have:=ok.depth;show c.A.depth<1000;exact AdJ this
set_option tactic.hygienic true in
theorem Ahv(fx:Ry FX){Γ Γ':AM}(gk:Jy Γ){d N:Nat}(h3:2<=d)(hΓ:∀K,Bn K Γ'->Bn K Γ/\∀f spec,Γ'.fn f=some spec->∃D,Jn K f D/\spec=JD Γ N D)(fn:KB FX Γ d):KB FX Γ' (d+2):=by
 intro c g0 ok f spec hf;refine At (hΓ c.K g0) ?_;rintro g hD;refine Ah (hD f spec hf) ?_;rintro D ⟨oc,od,osl,kV,doc,pm,an,cdv,ct,hK,hcd⟩ rfl;intro m l vs cs s R hv st okk exc ns;unfold JD at okk exc ns
 by_cases hg:HN D=true/\(D.params.args.map (·.arg)).length=cs.length
 ·rw[if_pos hg]at okk exc ns;refine At hg ?_;clear hg;rintro hgood hlen;have G:=WH hgood;have hlen':(D.params.args.map (·.arg)).length=vs.length:=hlen.trans hv.length.symm;refine code_defC (binds:=(D.params.args.map (·.arg)).zip vs) ok.below st.fr ok.kin st.nw ok.top ok.frames ok.frame ok.kind hK hcd (WJ ok) (Rw G.hp rfl hlen') (G.binds vs) G.hnd ?_ G.hco G.hgen G.hk;intro g1 L' h₁ tk cells F0 F1 N1 CA B1 K1 T1 hlt;have En:=WI G ok st hv hlen' F1 N1 CA B1 K1 T1 hlt;clear F1 N1 CA B1 K1 T1 hlt hv;rcases En with⟨ok',fe,st1,er,cr,all⟩
  have ha:JC (c.callee g1 L' (envOfC D.qual D.scope L' f cdv)) (FX (c.callee g1 L' (envOfC D.qual D.scope L' f cdv))) (Bp Γ N).1 (Bp Γ N).2 :=
   ⟨λenv m l loc eo er=>(KK gk ok' g (fn.here _) N env l loc eo er).1,λenv m l loc eo er=>(KK gk ok' g (fn.here _) N env l loc eo er).2⟩
  refine Ru (fx.own _ _ ok') fe ok' (ok'.weaken (Vb h3)) g ha N D.body _ _ _ _ _ _ st1 er cr (λfl loc' l' m' fl' h' tk' e st' x er' cr' v => ?_) (λx l' e h' tk' hx xx hfx => ?_) λq=>ns (Dd q)
  ·have e':GD Γ (Bp Γ N).1 (Bp Γ N).2 D.scope.names N D.body ((D.params.args.map (·.arg)).zip cs) l.σ=.ok (fl,loc') l'.σ:=e;rw[CL e']at okk;refine⟨L',m',l'.Φ,st'.fr,st'.nw,λFF NN => ?_⟩;rcases fl with _ | cv
   ·have v':fl'=.next:=v
    subst v';exact okk .none l' .none h' tk' rfl ⟨FF,NN,st'.lr⟩ (all l' x) .none
   ·refine Ah v ?_;clear v;rintro w rfl hw;exact okk cv l' w h' tk' rfl ⟨FF,NN,st'.lr⟩ (all l' x) hw
  ·exact fx.leave c (d+1) m g1 L' _ l l' x e _ _ _ (ok.weaken (Va)) ok' F0 rfl G.hk hfx λh2 hfx2=>exc x l' e h2 tk' (DD hx) (all l' xx) hfx2
 ·rw[if_neg hg]at ns;exact absurd rfl ns
section
def Hi(h base:AY)(a:Af)(C:Ad)(t dx:Af)(fl:Ad):Prop :=
 ∃oe vs T oT ts,h.get? a=some oe/\oe.cls=C/\oe.dict=some dx/\oe.data=.fields vs/\vs[0]? = some (.ref t)/\vs[1]? = some (.ref T)/\base.get? T=none/\T≠a/\h.get? T=some oT/\oT.data=.fields ts/\ts[3]? = some fl
section
variable {M:J7}{A:CD}{E:Ad->Aq->Prop}{s:Aq}{base:AY}{l outer:List Env}{env:Env}{L a:Af}{C:Ad}{t dx:Af}{fl:Ad}{Q:Unit->Aq->Prop}
theorem Ahw(o:AR)(f:Array Ad->Array Ad):(Hy f o).dict=o.dict:=by
 rcases o with⟨c,d,dt,sl⟩
 rcases dt with⟨⟩<;>rfl
theorem WK{vs:Array Ad}{head:Ad}{hadNext:Bool}(hfr:A.frames=some (env::outer))(hl:s.heap.FunFrames base (env::outer))(hf:env.frame=some L)
  (he:s.heap.get? a=some oe) (hkb:base.StaysIn s.heap) (hen:base.get? a=none) (hc:oe.cls=C) (hdc:oe.dict=some dx) (hd:oe.data=.fields vs) (hsz:1<vs.size) (h0:vs[0]? = some (.ref t))
  (h:∀h',base.StaysIn h'->h'.FunFrames base (env::outer)->Hi h' base a C t dx (rawInt L)->s.heap.UpToSlots h'->Q () { s with heap:=h' }) :
  wpAny M A (do let b <- frameOf env;let pl <- entryPlaceOf L hadNext;let b <- AoR head b .none (rawInt L) .none pl;setField (.ref a) 1 b) Q E s:=by
 have hene:a∉(env::outer).filterMap (·.frame):=λhm=>by
  rcases hl.mem hm with⟨_,o,ho,hnf⟩
  rw[he]at ho;injection ho with ho;subst ho;exact hnf vs hd
 refine Aj (wpAny_frameOf_fun hfr hl hf λh₁ hs₁ => ?_);refine Aj (wpAny_entryPlaceOf λpl hpl => ?_);unfold AoR Z3;refine Aj (Nu ?_ (hpl.sizeOk5 _ _ _ _ _));have he₁:h₁.get? a=some oe:=(hs₁.2.1 a hene).trans he;have kb₁:base.StaysIn h₁:=λb o hbo=>(hs₁.2.1 b λhm=>by rw[(hl.mem hm).1]at hbo;(exfalso;injection hbo)).trans (hkb b o hbo)
 have he₂:=Ed (h:=h₁) { cls:=.type "traceback",dict:=none,data:=.fields ([head,.ref L,.none,rawInt L,.none]++(if pl.isEmpty then DW 6 FP else pl)).toArray } he₁;refine NI he₂ hd hsz (h _ ?_ ?_ ?_ ?_)
 all_goals
  have hTe:h₁.objs.size≠a:=Ly (Bz he₁);have hd₃:=P8 hd (·.setIfInBounds 1 (CR h₁.objs.size));have he₃:=NB (Hy (·.setIfInBounds 1 (CR h₁.objs.size))) he₂ (Ua hd₃);have hT₃:=(NJ (h₁.push { cls:=.type "traceback",dict:=none,data:=.fields ([head,.ref L,.none,rawInt L,.none]++(if pl.isEmpty then DW 6 FP else pl)).toArray })
   (Hy (·.setIfInBounds 1 (CR h₁.objs.size))) (EF hTe)).trans (Jc h₁ rfl)
  have keep:∀b o,b≠a->h₁.get? b=some o ->
    ((h₁.push { cls:=.type "traceback",dict:=none,data:=.fields ([head,.ref L,.none,rawInt L,.none]++(if pl.isEmpty then DW 6 FP else pl)).toArray }).update a (Hy (·.setIfInBounds 1 (CR h₁.objs.size)))).get? b=some o :=
   λb o hbe hb=>by
    rw[NJ _ _ (EF hbe)];exact Ed _ hb
  have noRecord:∀b o,s.heap.get? b=some o->(∀vs,o.data≠.fields vs)->b≠a:=λb o hb hnf q=>by
   rw[q,he]at hb;injection hb with hb;subst hb;exact hnf vs hd
 ·exact λb o hbo=>keep b o (λq=>by rw[q,hen]at hbo;(exfalso;injection hbo)) (kb₁ b o hbo)
 ·exact hl.of_keeps λb o hb hnf=>by
   refine AI (hs₁.2.2 b o hb) ?_;rintro sl hs;exact⟨_,keep b _ (noRecord b o hb hnf) hs,rfl⟩
 ·exact⟨_,_,h₁.objs.size,_,_,he₃,(Aav _ _).trans hc,(Ahw _ _).trans hdc,hd₃,by rw[Array.getElem?_setIfInBounds_ne (by decide)];exact h0,by simp[hsz],kb₁.fresh,hTe,hT₃,rfl,by first | (simp;done) | (rcases hpl with rfl | ⟨_,_,_,_,_,_,_,rfl⟩<;>simp)⟩
 ·intro b o hb hnf;refine AI (hs₁.2.2 b o hb) ?_;rintro sl hs;exact⟨sl,keep b _ (noRecord b o hb hnf) hs⟩
theorem Ahx(hfr:A.frames=some (env::outer))(hl:s.heap.FunFrames base (env::outer))(hf:env.frame=some L)(ht:Hi s.heap base a C t dx .none)(hkb:base.StaysIn s.heap)(hen:base.get? a=none)
  (h:∀h',base.StaysIn h'->h'.FunFrames base (env::outer)->Hi h' base a C t dx (rawInt L)->s.heap.UpToSlots h'->Q () { s with heap:=h' }):wpAny M A (Jf (.ref a) env) Q E s:=by
 rcases ht with⟨oe,vs,T,oT,ts,he,hcls,hdc,hd,h0,h1,hnT,hTe,hT,hdT,h3⟩
 unfold Jf;simp only[hf];refine Aj (Kh he hd h1 ?_);rw[if_pos (show(CR T != FP)=true from by simp)]
 refine Aj (Kh hT hdT h3 ?_);rw[if_neg (show ¬((FP == rawInt L)=true)from by simp[rawInt])]
 refine Aj (NI hT hdT (Uk.mp h3).1 ?_);have other:∀b,b≠T->(s.heap.update T (Hy (·.setIfInBounds 3 FP))).get? b=s.heap.get? b:=λb hb=>NJ _ _ (EF hb);have noRecord:∀b o,s.heap.get? b=some o->(∀vs,o.data≠.fields vs)->b≠T:=λb o hb hnf q=>by
  rw[q,hT]at hb;injection hb with hb;subst hb;exact hnf ts hdT
 refine WK hfr (hl.of_keeps λb o hb hnf=>⟨o,(other b (noRecord b o hb hnf)).trans hb,rfl⟩) hf ((other a (EF hTe)).trans he)
  (λb o hbo=>(other b λq=>by rw[q,hnT]at hbo;(exfalso;injection hbo)).trans (hkb b o hbo)) hen hcls hdc hd (Uk.mp h1).1 h0
  λh' x1 x2 x3 x4=>h h' x1 x2 x3 λb o hb hnf=>x4 b o ((other b (noRecord b o hb hnf)).trans hb) hnf
theorem Ahy(hf:env.frame=some L)(ht:Hi s.heap base a C t dx (rawInt L))(h:Q () s):wpAny M A (Jf (.ref a) env) Q E s:=by
 rcases ht with⟨oe,vs,T,oT,ts,he,hcls,hdc,hd,h0,h1,hnT,hTe,hT,hdT,h3⟩
 unfold Jf;simp only[hf];refine Aj (Kh he hd h1 ?_);rw[if_pos (show(CR T != FP)=true from by simp)]
 refine Aj (Kh hT hdT h3 ?_);rw[if_pos (show((rawInt L == rawInt L)=true)from by simp[rawInt])]
 exact AB h
def WL(h:AY)(a:Af)(C:Ad)(t dx:Af):Prop :=
 ∃oe vs,h.get? a=some oe/\oe.cls=C/\oe.dict=some dx/\oe.data=.fields vs/\vs[0]? = some (.ref t)/\vs[1]? = some .none
theorem Ahz(hfr:A.frames=some (env::outer))(hl:s.heap.FunFrames base (env::outer))(hf:env.frame=some L)(ht:WL s.heap a C t dx)(hkb:base.StaysIn s.heap)(hen:base.get? a=none)
  (h:∀h',base.StaysIn h'->h'.FunFrames base (env::outer)->Hi h' base a C t dx (rawInt L)->s.heap.UpToSlots h'->Q () { s with heap:=h' }):wpAny M A (Jf (.ref a) env) Q E s:=by
 refine Q26 ht ?_;clear ht;rintro oe vs he hcls hdc hd h0 h1;unfold Jf;simp only[hf];refine Aj (Kh he hd h1 ?_);rw[if_neg (show ¬((FP != FP)=true)from by simp)]
 exact WK hfr hl hf he hkb hen hcls hdc hd (Uk.mp h1).1 h0 h
theorem OD{fl':Option Af}(hkb:base.StaysIn s.heap)(hl:s.heap.FunFrames base l)(ht:Hi s.heap base a C t dx fl)
  (h:∀h',base.StaysIn h'->h'.FunFrames base l->Hi h' base a C t dx (fl'.elim .none λf=>rawInt f)->s.heap.UpToSlots h'->Q () { s with heap:=h' }) :
  wpAny M A (Ug (.ref a) fl') Q E s:=by
 rcases ht with⟨oe,vs,T,oT,ts,he,hcls,hdc,hd,h0,h1,hnT,hTe,hT,hdT,h3⟩
 have hsz3:3<ts.size:=(Uk.mp h3).1;have other:∀b,b≠T->(s.heap.update T (Hy (·.setIfInBounds 3 (fl'.elim FP λf=>rawInt f)))).get? b=s.heap.get? b :=
  λb hb=>NJ _ _ (EF hb)
 have noRecord:∀b o,s.heap.get? b=some o->(∀vs,o.data≠.fields vs)->b≠T:=λb o hb hnf q=>by
  rw[q,hT]at hb;injection hb with hb;subst hb;exact hnf ts hdT
 unfold Ug;refine Aj (Kh he hd h1 ?_);rw[if_pos (show(CR T != FP)=true from by simp)]
 refine NI hT hdT hsz3 (h _ (λb o hbo=>(other b λq=>by rw[q,hnT]at hbo;(exfalso;injection hbo)).trans (hkb b o hbo))
  (hl.of_keeps λb o hb hnf=>⟨o,(other b (noRecord b o hb hnf)).trans hb,rfl⟩) ?_ λb o hb hnf=>⟨o.slots,(other b (noRecord b o hb hnf)).trans hb⟩)
 exact⟨oe,vs,T,_,_,(other a (EF hTe)).trans he,hcls,hdc,hd,h0,h1,hnT,hTe,NB _ hT (Ua (P8 hdT _)),P8 hdT _,by simp[hsz3]⟩
end
end
section
noncomputable def DO(c:FC):Bh:=λl x e h=>∃a t dx B es k g m,e=.ref a/\c.base.StaysIn B/\(∀q∈l.Φ,B.get? q.1=some q.2/\q.1≠c.L/\c.h₀.get? q.1=none)/\B.StaysIn h/\B.get? a=none/\h.FunFrames B (c.fenv::c.outer) /\
 ((∃fl,Hi h B a (.ref x.cls) t dx fl/\(fl=.none\/fl=rawInt c.L))\/WL h a (.ref x.cls) t dx)/\LR c.prog c.w l/\AQ l (dx,dictOf es k)/\Di l es x.as/\Fr c.h₀ c.L g m/\g.UpToSlots h
section
variable {c:FC}{d:Nat}{l:Am}{x:CX}{e:Ad}{s:Aq}{E E0:Ad->Aq->Prop}
theorem DO.note(ok:AJ c d){Q:Unit->Aq->Prop}(h:DO c l x e s.heap)(hf:c.fenv.frame=some c.L)(hQ:∀a t dx B es k g m h',e=.ref a->c.base.StaysIn B->(∀q∈l.Φ,B.get? q.1=some q.2/\q.1≠c.L/\c.h₀.get? q.1=none)->B.StaysIn h'->B.get? a=none->h'.FunFrames B (c.fenv::c.outer) ->
  Hi h' B a (.ref x.cls) t dx (rawInt c.L)->LR c.prog c.w l->AQ l (dx,dictOf es k)->Di l es x.as->Fr c.h₀ c.L g m->g.UpToSlots h'->Q () { s with heap:=h' }):wpAny c.M c.A (Jf e c.fenv) Q E0 s:=by
 rcases h with⟨a,t,dx,B,es,k,g,m,ea,b1,b2,b3,b4,b5,b6,b8,b9,b10,b11,b12⟩
 have key:=λh' y1 y2 y3 (y4:s.heap.UpToSlots h')=>hQ a t dx B es k g m h' ea b1 b2 y1 b4 y2 y3 b8 b9 b10 b11 (b12.trans y4);rw[ea];clear hQ b1 b2 b8 b9 b10 b11 b12;rcases b6 with⟨fl,b6,e1 | e1⟩ | b6
 ·rw[e1]at b6;exact Ahx ok.frames b5 hf b6 b3 b4 key
 ·rw[e1]at b6;exact Ahy hf b6 (key _ b3 b5 b6 (Heap.UpToSlots.refl _))
 ·exact Ahz ok.frames b5 hf b6 b3 b4 key
theorem AhA(ok:AJ c d)(m:Ac->Option Ad)(l:Am)(b0 x C:Af)(as:List (Ac×CV))(h:AY)(ne:as≠[])(st:St c m l h)(z:XS b0 l x C as):∃l':Am,l'.σ=l.σ/\Ap (·=x) l l'/\DO c l' ⟨C,as⟩ (.ref x) h:=by
 rcases z with⟨hb,t,od,ho,r⟩
 cases od with
 | none=>exact absurd r ne
 | some dx =>
 rcases r with⟨r1,r2,es,k,r3,r4⟩
 refine BL (st.dropOth' ho (Gq rfl) (λb o y e=>e:P9 x h h)) ?_;rintro l' hnx e' st' x';refine⟨l',e',x',?_⟩;have hL:c.base.get? c.L=none:=by
  rcases q:c.base.get? c.L with _ | o
  ·rfl
  ·have:=ok.below.stays _ o q;rw[Ul st.fr]at this;(exfalso;injection this)
 have hin:∀env∈(c.fenv::c.outer),∀b,env.frame=some b->b∈x::(c.fenv::c.outer).filterMap (·.frame):=λenv he b hb=>.tail _ (Ie.mpr ⟨env,he,hb⟩);have hframes:h.FunFrames c.base (c.fenv::c.outer):=by
  refine CG st.fr.ns ?_;rintro oL esL ep hoL hdL _;refine⟨(λq=>by rw[ok.kind]at q;(exfalso;injection q)),⟨c.L,oL,ok.frame,hL,hoL,(λvs q=>by rw[hdL]at q;(exfalso;injection q))⟩,Heap.FunFrames.of_keeps (λb o hb' y=>⟨o,st.fr.keep b o hb',rfl⟩) ok.below.frames⟩
 have hmem:∀b,b∈(c.fenv::c.outer).filterMap (·.frame)->b=c.L\/b∈c.outer.filterMap (·.frame):=λb hm=>by
  refine Ah (Ie.mp hm) ?_;rintro env he hf;rcases AS.mp he with rfl | he
  ·exact .inl (Ay (hf.symm.trans ok.frame))
  ·exact .inr (Ie.mpr ⟨env,he,hf⟩)
 have hx0:=(st.nw _ ho.1).2;refine⟨x,t,dx,hideAll h (x::(c.fenv::c.outer).filterMap (·.frame)),es,k,h,m,rfl,λb o q=>hideAll_get _ (st.fr.keep b o (ok.below.stays b o q)) λhm => ?_,λq hq => ?_,λb o q=>AaU _ q,hideAll_none _ (.head _),funFrames_hide hframes hin,.inr ⟨_,_,(st.nw _ ho.1).1,rfl,rfl,rfl,rfl,rfl⟩,st'.lr,x'.oth _ r3 (.inr λq=>r2 q),r4.mono x',st'.fr,AoS λy y e=>e⟩
 ·rcases AS.mp hm with rfl | hm
  ·have:=ok.below.stays _ o q;rw[hx0.2]at this;(exfalso;injection this)
  ·rw[(hframes.mem hm).1]at q;(exfalso;injection q)
 ·have hq':=st'.nw q hq;refine⟨hideAll_get _ hq'.1 λhm => ?_,hq'.2.1,hq'.2.2⟩;rcases AS.mp hm with e | hm
  ·exact hnx q hq e
  ·rcases hmem _ hm with e | hm
   ·exact hq'.2.1 e
   ·refine Ah ((ok.below.frames.mem hm).2) ?_;rintro o ho' _;rw[hq'.2.2]at ho';(exfalso;injection ho')
theorem WM(ok:AJ c d):JB c (DO c):=⟨λenv l x e s E he h hE=>by
 subst he;unfold notedBy;refine DO.note ok h ok.frame λa t dx B es k g m h' ea b1 b2 b3 b4 b5 b6 b8 b9 b10 b11 b12 => ?_;subst ea;unfold Uf;refine Q57 (id b6) ?_;rintro oe vs T oT ts he hcls hdc hd h0 h1 r;refine Aj (Kh he hd h1 ?_);rw[if_neg (show ¬((CR T == FP)=true)from by simp)]
 rw[ok.frame];refine OD (fl':=some c.L) b3 b5 b6 λh2 y1 y2 y3 y4=>hE h2 ⟨a,t,dx,B,es,k,g,m,rfl,b1,b2,y1,b4,y2,.inl ⟨_,y3,.inr rfl⟩,b8,b9,b10,b11,b12.trans y4⟩,AhA ok⟩
theorem Rz:Ry DO:=by
 refine⟨λc d ok=>WM ok,λc d m g L env l0 l x e s Q E ok ok' F hf hk h hQ => ?_⟩;unfold leaving;refine Aj ?_;refine DO.note (c:=c.callee g L env) ok' h hf λa t dx B es k g2 m2 h' ea b1 b2 b3 b4 b5 b6 b8 b9 b10 b11 b12 => ?_;subst ea;refine OD (fl':=none) b3 b5 b6 λh2 y1 y2 y3 y4=>hQ h2 ⟨a,t,dx,B,es,k,g,m,rfl,b1,λq hq => ?_,y1,b4,y2.2.2,.inl ⟨.none,y3,.inl rfl⟩,b8,b9,b10,F,?_⟩
 ·refine CZ (b2 q hq) ?_;rintro z1 z2 z3;have z3':g.get? q.1=none:=z3;refine⟨z1,λe => ?_,?_⟩
  ·refine Ee F.ns ?_;rintro o _ _ ho _;rw[<- e,z3']at ho;exfalso;injection ho
  ·rcases z:c.h₀.get? q.1 with _ | o
   ·rfl
   ·have:=F.keep _ o z;rw[z3']at this;(exfalso;injection this)
 ·have b11':Fr g L g2 m2:=b11;exact(AoS b11'.keep).trans (b12.trans y4)
end
end
set_option tactic.hygienic true in
theorem OE{f:Af}{D:C0}(h:EJ K f=some D):Jn K f D:=by
 unfold EJ at h
 split at h
 ·rename_i oc od fd osl ho
  split at h
  ·rename_i b hb
   split at h
   ·rename_i hc;simp only[A9,beq_iff_eq,AaS]at hc;refine At hc ?_;clear hc;rintro⟨⟨⟨h1,h2⟩,h3⟩,h4⟩ h5;injection h with za;subst za
    rcases fd with⟨a1,a2,a3,a4,a5,a6,a7,a8,a9,a10,a11,a12,a13,a14,a15⟩
    dsimp only at hb h1 h2 h3 h4 h5;subst hb h1 h2 h3 h4;exact⟨oc,od,osl,_,_,_,_,_,_,ho,h5⟩
   ·exfalso;injection h
  ·exfalso;injection h
 ·exfalso;injection h
noncomputable def Hj:List (Af×List Ac):=[(152,[Ab "why",Ab "function",Ab "at"])]
noncomputable def HO(K:Bf):AM:={ top:=FW,bins:=EI,attrs:=Kl,meths:=HB,inits:=Gp,clsfn:=Km,excs:=Hj,defs:=EJ K,fn:=λz=>none }
theorem F9[BEq α][LawfulBEq α]{x:α}{v:β}:∀{l:List (α×β)},l.lookup x=some v->(x,v)∈l:=by
 intro z1
 induction z1 with
 | nil=>intros;contradiction
 | cons z2 r ih =>
  rcases z2 with⟨y,w⟩
  intro h;rw[BC]at h
  by_cases e:(x == y)=true
  ·rw[e]at h;have:=Kf e;injection h with za;subst za
   rw[this];exact .head _
  ·have e':(x == y)=false:=by simpa using e
   rw[e']at h;exact .tail _ (ih h)
structure Tabs0(K:Bf):Prop where
 top:FW.all (UE K)=true
 bins:EI.all (NX K)=true
 attrs:Kl.all (UF K)=true
 meths:HB.all (UG K)=true
 inits:Gp.all (UH K)=true
 clsfn:Km.all (UI K)=true
structure KQ(K:Bf):Prop extends Tabs0 K where
 excs:∀C names,Hj.lookup C=some names->Of K C names
theorem WO(T:Tabs0 K)(ex:List (Af×List Ac))(hex:∀C names,ex.lookup C=some names->Of K C names)(fn:Af->Option (List CV->CM CV)):Bn K { HO K with excs:=ex,fn:=fn }:=by
 refine⟨λx v h => ?_,λx v h => ?_,λC xs x h hx => ?_,λC ms x f h h2 => ?_,λC f h => ?_,λC ms x f h h2 => ?_,λf D h=>OE h,hex⟩
 ·have z:=B0.mp T.top _ (F9 h);have z:(match (generalizing:=false) nsIn K Eb x,v with
   | some (some (.int i _)),.int j=>i == j
   | some (some (.ref a)),.ref b=>a == b && keepIn K (.ref b)
   | _,_=>false)=true:=z
  rcases q:nsIn K Eb x with _ | o
  ·rw[q]at z;(exfalso;injection z)
  ·rcases o with _ | u
   ·rw[q]at z;(exfalso;injection z)
   ·rw[q]at z;rcases v with j | b
    ·rcases u with⟨⟩<;>try exact(Cw z).elim
     dsimp only at z;rw[beq_iff_eq]at z;subst z;exact⟨_,rfl,_,rfl⟩
    ·rcases u with⟨⟩<;>try exact(Cw z).elim
     simp only[A9,beq_iff_eq]at z;refine At z ?_;clear z;rintro rfl z;exact⟨_,rfl,rfl,z⟩
 ·have z:=B0.mp T.bins _ (F9 h);simp only[NX,A9,beq_iff_eq,EY,beq_eq_false_iff_ne]at z;exact⟨z.1.1.1,z.1.1.2,z.1.2⟩
 ·have z:=B0.mp (B0.mp T.attrs _ (F9 h)) x (by simpa using hx)
  simpa using z
 ·exact B0.mp (B0.mp T.meths _ (F9 h)) (x,f) (F9 h2)
 ·exact B0.mp T.inits _ (F9 h)
 ·exact B0.mp (B0.mp T.clsfn _ (F9 h)) (x,f) (F9 h2)
theorem WP(T:KQ K)(fn:Af->Option (List CV->CM CV)):Jy { HO K with fn:=fn }:=⟨λx v h=>by
 have z:=B0.mp T.bins _ (F9 h);simp only[NX,A9]at z;have z2:=z.2
 split at z2
 ·exact⟨_,.inl rfl⟩
 ·exact⟨_,.inr rfl⟩
 ·exfalso;injection z2⟩
noncomputable def BO(K:Bf)(N:Nat):Nat->AM
 | 0=>HO K
 | k+1=>{ HO K with fn:=λf=>(EJ K f).map (JD (BO K N k) N) }
theorem IA(K:Bf)(N k:Nat):∃fn,BO K N k={ HO K with fn:=fn }:=by
 rcases k with _ | k
 ·exact⟨_,rfl⟩
 ·exact⟨_,rfl⟩
theorem WQ(T:KQ K)(N k:Nat):Jy (BO K N k):=by
 refine AI (IA K N k) ?_;rintro fn e;rw[e];exact WP T _
theorem WS{K':Bf}{fn fn':Af->Option (List CV->CM CV)}(g:Bn K' { HO K with fn:=fn }):Bn K' { HO K with fn:=fn' }:=⟨g.top,g.bins,g.attrs,g.meths,g.inits,g.clsfn,g.defs,g.excs⟩
theorem WT(T:KQ K){FX:FC->Bh}(fx:Ry FX)(N:Nat):∀k,KB FX (BO K N k) (2*k+2):=by
 intro z1
 induction z1 with
 | zero =>
  exact λc g ok f spec h=>by(exfalso;injection h)
 | succ k ih =>
  refine Ahv fx (WQ T N k) (N:=N) (AdM) (λK' g=>⟨?_,λf spec h => ?_⟩) (ih)
  ·refine AI (IA K N k) ?_;rintro fn e;rw[e];exact WS g
  ·have h':(EJ K f).map (JD (BO K N k) N)=some spec:=h;refine Ah (Hu.mp h') ?_;rintro D hD rfl;exact⟨D,g.defs f D hD,rfl⟩
section
section
variable {Γ:AM}{n:Nat}{ks:AD}{loc:Ao}{f:BM}{g:CU}{X:XT}
end
theorem AhB(K:Bf)(N k:Nat):(BO K N k).top=FW:=by rcases k with⟨⟩<;>rfl
theorem AhC(K:Bf)(N k:Nat):(BO K N k).bins=EI:=by rcases k with⟨⟩<;>rfl
theorem AhD(K:Bf)(N k:Nat):(BO K N k).attrs=Kl:=by rcases k with⟨⟩<;>rfl
theorem AhE(K:Bf)(N k:Nat):(BO K N k).meths=HB:=by rcases k with⟨⟩<;>rfl
theorem WU(K:Bf)(N k:Nat):(BO K N k).inits=Gp:=by rcases k with⟨⟩<;>rfl
theorem AhF(K:Bf)(N k:Nat):(BO K N k).clsfn=Km:=by rcases k with⟨⟩<;>rfl
end
theorem AhG(K:Bf)(N k:Nat)(f:Af)(vs:List CV){D:C0}(h:EJ K f=some D):C9 (BO K N (k+1)) f vs=JD (BO K N k) N D vs:=by
 unfold C9;have:(BO K N (k+1)).fn f=some (JD (BO K N k) N D):=by
  show(EJ K f).map _=_;rw[h];rfl
 rw[this]
section
set_option maxHeartbeats 1000000
open Builtin Builtin.ObjectAttr Builtin.Getset_descriptor
structure RA(M:J7)(h:AY)(C:Af):Prop where
 obj:∃oc od cd sl,h.get? C=some ⟨oc,od,.cls cd,sl⟩/\cd.abstract=false/\cd.hasDel=false/\cd.mro.isEmpty=false
 made:BK M h (AaV (.ref C)) (some "Exception.__new__")
 base:BK M h (AoT (.ref C)) (.ref C)
 self:BK M h (GV (.ref C) (.ref C)) true
 exc:BK M h (GV (.ref C) (.type "Exception")) true
 att:BK M h (GV (.ref C) (.type "AttributeError")) false
 nam:BK M h (GV (.ref C) (.type "NameError")) false
 bexc:BK M h (GV (.ref C) (.type "BaseException")) true
 call:BK M h (specialOf (.ref C) "__call__") (some (.builtin "type.__call__"))
 typ:BK M h (Ka (.ref C) (.type "type")) true
set_option tactic.hygienic true in
theorem RB{M:J7}{h:AY}(X:K.In h){C:Af}(e:Ii K C=true):RA M h C:=by
 unfold Ii at e;rcases ho:K.lookup C with _ | ⟨oc,od,dt,sl⟩
 ·rw[ho]at e;exact(Cw e).elim
 rw[ho]at e;rcases dt with⟨⟩
 case cls cd =>
  simp only[A9,EY,beq_iff_eq]at e;refine At e ?_;clear e;rintro⟨⟨⟨⟨⟨⟨⟨⟨⟨e1,e2⟩,e3⟩,e4⟩,e5⟩,e6⟩,e7⟩,e8⟩,e9⟩,e10⟩ e11;have hc:clsIn K C=some cd:=by unfold clsIn;rw[ho]
  have hm:BK M h (mroOf (.ref C)) cd.mro:=(Um X hc).andThen .now;obtain⟨c,l,hl⟩:∃c l,cd.mro=c::l:=by cases q:cd.mro with | nil=>rw[q]at e4;(exfalso;injection e4) | cons c l=>exact⟨c,l,rfl⟩
  have made:BK M h (AaV (.ref C)) (some "Exception.__new__"):=by
   intro A Q E s k q;unfold AaV;refine Aj (hm A _ E s k ?_);rw[hl,Ud];refine Aj (Aj (Aj (Aj (Un (k _ _ (X _ _ ho)) (AB ?_)))));dsimp only;rw[<- Lq,e3];exact AB (AB (AB q))
  have mr:∀b r,cd.mro.contains b=r->mroIn K C b=some r:=λb r q=>by unfold mroIn;rw[hc,AaW,if_neg (by rw[e4];decide),q]
  refine⟨⟨oc,od,cd,sl,X _ _ ho,e1,e2,e4⟩,made,?_,NQ X (mr _ _ e5),NQ X (mr _ _ e6),NQ X (mr _ _ e7),NQ X (mr _ _ e8),NQ X (mr _ _ e9),looks_specialIn X e10,looks_instIn X e11⟩;intro A Q E s k q;unfold AoT;refine Aj (hm A _ E s k ?_);rw[hl,Ud];exact Aj (Aj (Aj (made A _ E s k (AB (AB (AB q))))))
 all_goals exact(Cw e).elim
noncomputable abbrev KR(C:Af)(t:Af):AR:={ cls:=.ref C,data:=.fields #[.ref t,.none,.none,.none,.bool false,.none] }
section
variable {prog:CC}{w:B5}{A:CD}{K:Bf}{C:Af}{R:GO->Aq->Prop}{h:AY}{g:Array Ng}{d:Drawn}{t:Nat}{os:PJ}
theorem AhH{rest:List Ad}(Y:RA (model prog w) h C)(hz:rest.length<=sizeLine)
  (hq:R (.ok (.ret (.ref (h.objs.size+1)))) ⟨(h.push { cls:=.type "tuple",data:=.seq rest.toArray }).push (KR C h.objs.size),g,d,t,os⟩) :
  codeAny (model prog w) A (.call (.builtin "Exception.__new__") ⟨.ref C::rest,[]⟩) R ⟨h,g,d,t,os⟩:=by
 rcases Y with⟨⟨oc,od,cd,sl,hC,e1,e2,e4⟩,made,base,self,exc,att,nam,bexc,call,typ⟩
 have F:=PySem.F.excBase_Exception;have hstar:=F.noStar;have here:BK (model prog w) h (Bind.madeHere "BaseException.__new__" (.ref C)) ():=base.andThen (made.andThen (TY (by simp only[Qc,F.canon,bne_self_eq_false,Jd,if_false])))
 refine codeAny_call_builtin_code (Aam _ F.quiet) ?_;simp only[Aal,F.newKind,F.newSplit,F.newRow]
 repeat (first | simp only[bne_self_eq_false,Jd,if_false,Ub] | lk)
 refine codeAny_builtinAt F.entry ?_;unfold Builtin.«BaseException.__new__»;refine PySem.wpAt_bind ?_;show PySem.wpAt _ _ _ (stack >>= _) _ _ _;refine PySem.wpAt_bind (PySem.wpAt_stack λp below=>PySem.wpAt_of_wpAny ?_);have hends:=F.ends
 wp_walk
 refine PySem.wpAt_of_wpAny ?_;rw[F.owner]
 repeat (first | simp only[bne_self_eq_false,Jd,if_false,Ub] | lk)
 rw[if_neg (by rw[FN]at hz;rw[J8,FN];exact AdN hz)]
 unfold newObjAsIs classHasDel
 repeat (first | simp only[bne_self_eq_false,Jd,if_false,Ub] | lk)
 refine AaA (Ed _ (Ed _ hC)) (AB ?_);rw[e2];refine AB ?_;refine AB ?_;show R _ _;rw[P5];exact hq
theorem AhI{rest:List Ad}{init:Ad}(Y:RA (model prog w) h C)(hz:rest.length<=sizeLine)(hi:BK (model prog w) h (typeLookup (.ref C) "__init__") (some init))
  (hb:∀self,BK (model prog w) h (bindSpecial init self) (init,[self]))
  (hq:codeAny (model prog w) (A.under (.builtin "type.__call__" ⟨.ref C::rest,[]⟩)) (.call init ⟨.ref (h.objs.size+1)::rest,[]⟩) (InitBack (h.objs.size+1) R) ⟨(h.push { cls:=.type "tuple",data:=.seq rest.toArray }).push (KR C h.objs.size),g,d,t,os⟩) :
  codeAny (model prog w) A (.call (.ref C) ⟨rest,[]⟩) R ⟨h,g,d,t,os⟩:=by
 have Y':=Y;rcases Y with⟨⟨oc,od,cd,sl,hC,e1,e2,e4⟩,made,base,self,exc,att,nam,bexc,call,typ⟩
 refine Aak ?_;show wpAny _ _ (callAny (.ref C) _) _ _ _;refine nd_load hC ?_;show wpAny _ _ (AoU (.ref C) _) _ _ _;unfold AoU;refine Aj (call.at ?_);dsimp only;rw[tc_bind];refine Aj (AB (Aj (AB ?_)));refine AB (a:=Fin.again (.call (.builtin "type.__call__") ⟨.ref C::rest,[]⟩)) (Ae rfl ?_);refine codeAny_call_builtin_at (Aam _ (by decide +kernel)) entry_typeCall (AaX tc_kind tc_split typ (tc_args _ _ _) ?_)
 unfold Builtin.«type.__call__»;have hm:BK (model prog w) h (mroOf (.ref C)) cd.mro:=((LA (part:=none) hC).andThen .now).andThen .now
 repeat (first | simp only[e4,Jd,if_false] | with_reducible refine J9 ?_ | lk)
 refine AhH Y' hz ?_;have k:∀b o,h.get? b=some o->((h.push { cls:=.type "tuple",data:=.seq rest.toArray }).push (KR C h.objs.size)).get? b=some o:=λb o e=>Ed _ (Ed _ e);have hx:((h.push { cls:=.type "tuple",data:=.seq rest.toArray }).push (KR C h.objs.size)).get? (h.objs.size+1)=some (KR C h.objs.size):=by heap_get
 have t1:BK (model prog w) ((h.push { cls:=.type "tuple",data:=.seq rest.toArray }).push (KR C h.objs.size)) (typeOf (.ref (h.objs.size+1))) (.ref C):=(LA hx).andThen .now;have s1:=self.keeps k;have i1:=hi.keeps k;have b1:=(hb (.ref (h.objs.size+1))).keeps k;unfold Ka callSpecial? specialOf
 repeat (first | with_reducible refine J9 ?_ | lk)
 refine Aan hq λr s' z => ?_;rcases r with e | (v | _ | _ | _)<;>first | exact z | exact z.elim | skip
 refine At z ?_;clear z;rintro rfl z;exact AB (AB z)
end
end
section
set_option maxHeartbeats 1000000
open Builtin Builtin.ObjectAttr Builtin.Getset_descriptor
theorem AhJ(self:Ad):∀{l:List Ad},NY l=true->refuseLoop self "__setattr__" l=pure ():=by
 intro l
 induction l with
 | nil=>intro e;(exfalso;injection e)
 | cons v r ih =>
  intro e;cases v with
  | ref c=>rw[refuseLoop_ref];exact ih e
  | type n =>
   have:(EC n::r)=[.type "Exception",.type "BaseException",.type "object"]:=Kf e;rw[this];exact PySem.F.store_Exception.passes self
  | _=>(exfalso;injection e)
theorem AhK:∀{l:List Ad},NY l=true->l.contains (.type "object")=true:=by
 intro l
 induction l with
 | nil=>intro e;(exfalso;injection e)
 | cons v r ih =>
  intro e;cases v with
  | ref c=>rw[AoV,ih e,Bool.or_true]
  | type n =>
   have:(EC n::r)=[.type "Exception",.type "BaseException",.type "object"]:=Kf e;rw[this];decide +kernel
  | _=>(exfalso;injection e)
section
variable {prog:CC}{w:B5}{A A₀:CD}{E:Ad->Aq->Prop}{s:Aq}{K:Bf}{x C dx L:Af}{h₀:AY}{m:Ac->Option Ad}{news news':List (Af×AR)}{ox od:AR}{es es':List Ec}{n n':Nat}{name:Ac}{v:Ad}{R:GO->Aq->Prop}
theorem WV{ox:AR}{od:Option AR}{tk:Tok}{r:Option Ad}(X:K.In s.heap)(I:InstAt s.heap x ox C od)(hp:NZ K C=true)(ht:takerIn K C name=some r)
  (h:∀b,wpAny (model prog w) A.in1 (match r with | some a=>setByDescriptor a (.ref x) v | none=>storeInOwnDict (.ref x) (.ref C) (.str name tk) name v b)
   (λfin s'=>match fin with | .done f=>R (.ok f) s' | .again c'=>c'.quiet=true/\codeAny (model prog w) A c' R s') (λe s'=>R (.error e) s') s) :
  codeAny (model prog w) A (.call (.builtin "object.__setattr__") ⟨[.ref x,.str name tk,v],[]⟩) R s:=by
 have SF:=PySem.F.store_object;refine Ah (Uo hp) ?_;rintro cd hc ho;refine At (Nf.mp ho) ?_;rintro ho -;have ne:cd.mro.isEmpty=false:=by cases q:cd.mro with | nil=>rw[q]at ho;(exfalso;injection ho) | cons _ _=>rfl
 have sub:BK (model prog w) s.heap (Ka (.ref x) (.type "object")) true:=I.type.andThen (NQ X (by unfold mroIn;rw[hc,AaW,if_neg (by rw[ne];decide),AhK ho]))
 refine T7 SF.slot.plain SF.entry (@AaX (model prog w) _ _ s "object.__setattr__" "object" "__setattr__" (.ref x) [.str name tk,v] [] _ SF.kind SF.split sub (SF.args (.ref x) (.str name tk) v) ?_);refine Ah (PY.mp ht) ?_;rintro attr ha hr;have hm:BK (model prog w) s.heap (mroOf (.ref C)) cd.mro:=(Um X hc).andThen .now;have L3:BK (model prog w) s.heap (storeTaker? attr) r:=by
  rcases attr with _ | a
  ·injection hr with za;subst za;exact .now
  ·refine Ah (Hu.mp hr) ?_;rintro b hb rfl;refine(looks_takesIn X hb).andThen ?_;rcases b with⟨⟩<;>exact .now
 rw[osa_eq,refuse_eq];refine Aj (Aj (I.type.here (Aj (hm.here ?_))));rw[AhJ _ ho];refine AB (Aj (I.type.here (Aj ((Up X ha).here (Aj (L3.here ?_))))));exact h _
set_option tactic.hygienic true in
theorem WW{Q:Fin->Aq->Prop}{od od':AR}{tk:Tok}{pre:List (Af×AR)}{es:List Ec}(F:Fr h₀ L s.heap m)(N:CE h₀ L s.heap (pre++(dx,od)::post))
  (hl:(lookIn name od).isSome=true) (h1:∀p∈pre,p.1≠dx) (h2:∀p∈post,p.1≠dx)
  (e:Obj.putName name (Lv w.params name) (.str name s.toks) v od=od') (e':od'.data=.dict es.toArray n) (hz:es.length<=1000)
  (h:∀h',Fr h₀ L h' m->CE h₀ L h' (pre++(dx,od')::post)->Q (.done (.ret .none)) (put s h' (s.toks+1))) :
  wpAny (model prog w) A (storeInDict dx (.str name tk) name v) Q E s:=by
 refine At (AaY (f:=Obj.putName name (Lv w.params name) (.str name s.toks) v) F N h1 h2 e (by rcases od' with⟨_,_,dd,_⟩;subst e';rfl)) ?_;rintro U1 U2
 have D:=(N (dx,od) (by simp)).1
 have D':=(U2 (dx,od') (by simp)).1
 unfold storeInDict newKeyGuard;refine Aj (AB (Aj ?_));unfold nsSet;refine Aj (Aj (NE (AB (Aj (Aax (Aj (Un D ?_)))))));unfold lookIn at hl
 split at hl
 ·rename_i es₀ n₀ q;rw[q];dsimp only;have c:(!es₀.any (·.key.isStr name) && es₀.any (·.refKey))=false:=by
   rw[<- TN,<- TN]
   split at hl
   ·rename_i en he;rw[Aoi.mpr ⟨en,List.mem_of_find?_eq_some he,List.find?_some he⟩];rfl
   ·split at hl
    ·exfalso;injection hl
    ·rename_i z;rw[Bool.not_eq_true]at z;rw[z,Nl]
  rw[aRefKeyMayBeTheName_at,c];refine wpAny_updatePart D ?_;refine Aj (wpAny_lookBehind D' (by rw[e'];exact pastItsLine_dict (by rw[J8,FN];exact AdO hz)) ?_)
  exact AB (h _ U1 U2)
 ·exfalso;injection hl
theorem AhL{Q:Unit->Aq->Prop}{pre:List (Af×AR)}(F:Fr h₀ L s.heap m)(X₀:K.In h₀)(N:CE h₀ L s.heap (pre++(dx,dictOf es n)::post))(I:InstAt s.heap x ox C (some (dictOf es n)))(hd:ox.dict=some dx)
  (hs:findIn K (.ref C) "__setattr__" = some (some (.builtin "object.__setattr__"))) (hp:NZ K C=true) (ht:takerIn K C name=some none) (hl:(getL name es).isSome=true)
  (h1:∀p∈pre,p.1≠dx) (h2:∀p∈post,p.1≠dx) (hz:(putL name (Lv w.params name) (.str name (s.toks+1)) v es).length<=1000)
  (h:∀h',Fr h₀ L h' m->CE h₀ L h' (pre++(dx,dictOf (putL name (Lv w.params name) (.str name (s.toks+1)) v es) (putN name es n))::post)->Q () (put s h' (s.toks+2))) :
  wpAny (model prog w) A (setAttr (.ref x) name v) Q E s:=by
 have X:=X₀.keeps F.keep;refine set_plain X I hs (WV (s:={ s with toks:=s.toks+1 }) X I hp ht λb => ?_)
 refine Ah (Uo hp) ?_;rintro cd hc hd';refine At (Nf.mp hd') ?_;rintro-hd';rcases I with⟨hx,hcl,hn,-⟩
 rcases ox with⟨oc,odi,oda,osl⟩
 dsimp only at hcl hd;subst hcl hd;refine Aj (AB (Aj (Aj (Un hx (Aj ((Um X hc) _ _ _ _ (λz z e=>e) ?_))))));rw[hd'];refine AB (a:=some dx) ?_;refine WW (s:={ s with toks:=s.toks+1 }) F N hl h1 h2 (by rw[putName_dict]) rfl hz λh' F' N' => ?_
 exact h h' F' N'
theorem AhM{Q:Unit->Aq->Prop}{pre:List (Af×AR)}(F:Fr h₀ L s.heap m)(X₀:K.In h₀)(N:CE h₀ L s.heap (pre++(x,ox)::post))(hcl:ox.cls=.ref C)(hn:notCls ox=true)(hd:ox.dict=none)(hfr:ox.isFreed=false)
  (hs:findIn K (.ref C) "__setattr__" = some (some (.builtin "object.__setattr__"))) (hp:NZ K C=true) (ht:takerIn K C name=some none)
  (h1:∀p∈pre,p.1≠x) (h2:∀p∈post,p.1≠x)
  (h:∀d h',Fr h₀ L h' m->CE h₀ L h' ((d,dictOf [⟨Lv w.params name,.str name (s.toks+1),v⟩] 1)::(pre++(x,{ ox with dict:=some d })::post))->(∀p∈pre++(x,ox)::post,p.1<d)->Q () (put s h' (s.toks+2))) :
  wpAny (model prog w) A (setAttr (.ref x) name v) Q E s:=by
 have X:=X₀.keeps F.keep;have hx:=(N (x,ox) (by simp)).1
 have I:InstAt s.heap x ox C none:=⟨hx,hcl,hn,by rw[hd];trivial⟩
 refine set_plain X I hs (WV (s:={ s with toks:=s.toks+1 }) X I hp ht λb => ?_)
 refine Ah (Uo hp) ?_;rintro cd hc hd';refine At (Nf.mp hd') ?_;rintro-hd';have F1:=F.push (o:=NR);have N1:=N.push F NR;have lt:∀p∈pre++(x,ox)::post,p.1<s.heap.objs.size:=λp hp=>Bz (N p hp).1;refine At (AaY (pre:=(s.heap.objs.size,NR)::pre) (post:=post) (f:=λo=>{ o with dict:=some s.heap.objs.size }) (o':={ ox with dict:=some s.heap.objs.size }) F1 N1 (λp hp=>by
  rcases AS.mp hp with rfl | hp
  ·exact λq=>BP _ (q▸lt (x,ox) (by simp))
  ·exact h1 p hp) h2 rfl (by rcases ox with⟨_,_,dt,_⟩;rcases dt with⟨⟩<;>first | rfl | exact hfr)) ?_;rintro F2 N2
 rcases ox with⟨oc,odi,oda,osl⟩
 dsimp only at hcl hd;subst hcl hd;refine Aj (AB (Aj (Aj (Un hx (Aj ((Um X hc) _ _ _ _ (λz z e=>e) ?_))))));rw[hd'];have hpush:(s.heap.push NR).get? x=some { cls:=CR C,data:=oda,slots:=osl }:=Ed _ hx;have fin:wpAny (model prog w) A.in1 (storeInDict s.heap.objs.size (.str name s.toks) name v) (λfin s'=>match fin with
   | .done f=>(match (Except.ok f:GO)with | .ok (.ret _)=>Q () s' | .ok _=>False | .error e=>E e s')
   | .again c'=>c'.quiet=true/\codeAny (model prog w) A c' (λr s'=>match r with | .ok (.ret _)=>Q () s' | .ok _=>False | .error e=>E e s') s') (λe s'=>E e s')
   { heap:=(s.heap.push NR).update x λo=>{ cls:=o.cls,dict:=some s.heap.objs.size,data:=o.data,slots:=o.slots },gens:=s.gens,drawn:=s.drawn,toks:=s.toks+1,os:=s.os }:=by
  refine WW (pre:=[]) (s:={ heap:=(s.heap.push NR).update x λo=>{ cls:=o.cls,dict:=some s.heap.objs.size,data:=o.data,slots:=o.slots },gens:=s.gens,drawn:=s.drawn,toks:=s.toks+1,os:=s.os }) F2 (od:=dictOf [] 0) N2 rfl (λp hp=>by rcases hp with⟨⟩) (λp hp => ?_) (by rw[putName_dict];rfl) rfl (by simp) λh' F' N'=>h _ h' F' N' lt
  have:p.1<s.heap.objs.size:=by
   rcases BF.mp hp with q | q
   ·exact lt p (Cb _ q)
   ·rcases AS.mp q with rfl | q
    ·exact lt (x,{ cls:=CR C,data:=oda,slots:=osl }) (by simp)
    ·exact lt p (Cv _ (.tail _ q))
  exact B6 this
 rcases oda with⟨⟩<;>first
  | (first | (exfalso;injection hn;done) | (rcases hn with⟨⟩));done
  | exact Aj (wpAny_alloc (Aj (wpAny_update' hpush (AB fin))))
end
end
section
set_option maxHeartbeats 1000000
open Builtin Builtin.ObjectAttr Builtin.Getset_descriptor
section
variable {c:FC}{FX:Bh}{m:Ac->Option Ad}{l l':Am}{d:Nat}{h h':AY}{x C b0:Af}{as:List (Ac×CV)}
theorem St.turnN{a:Af}{pre:List (Af×AR)}(st:St c m l h)(e:l.Φ=pre++(a,o)::post)(h1:∀p∈pre,p.1≠a)(h2:∀p∈post,p.1≠a)(ho:AQ l (a,o))(hc:∀vs k,o≠Cs vs k)
  (F':Fr c.h₀ c.L h' m) (N':CE c.h₀ c.L h' (pre++(a,o')::post)):∃l':Am,l'.σ=l.σ/\l'.Φ=pre++(a,o')::post/\St c m l' h'/\Ap (·=a) l l'/\AQ l' (a,o'):=by
 refine CZ (Vl (l':={ l with Φ:=pre++(a,o')::post }) st.lr e h1 h2 ho hc rfl) ?_;rintro x' R' o2
 exact⟨{ l with Φ:=pre++(a,o')::post },rfl,rfl,⟨F',N',R'⟩,x',o2⟩
theorem AhN{Q:Unit->Aq->Prop}{a:CV}(ok:AJ c d)(hk:Ij c.K C name=true)(st:St c m l s.heap)(z:XS b0 l x C as)(hv:VR l v a)(hz:as.length<900)
  (hQ:∀l' h' tk,l'.σ=l.σ->St c m l' h'->Ap (b0<=·) l l'->XS b0 l' x C (CI name a as)->Q () (put s h' tk)) :
  wpAny c.M c.A (setAttr (.ref x) name v) Q E s:=by
 simp only[Ij,A9,beq_iff_eq]at hk;refine At hk ?_;clear hk;rintro⟨k1,k2⟩ k3;rcases z with⟨hb,t,od,ho,r⟩
 rcases od with _ | dx
 ·have r:as=[]:=r;subst r;refine Bm (st.split ho.1) ?_;rintro pre post e g1 g2;have N:=st.nw;rw[e]at N;refine AhM st.fr ok.kin N rfl rfl rfl rfl k1 k2 k3 g1 g2 λdx h' F' N' hlt => ?_;refine Ig (st.turnN e g1 g2 ho (Gq rfl) F' (λp hp=>N' p (.tail _ hp))) ?_;rintro l1 s1 e1 st1 x1 o1;have hlt':∀p∈l1.Φ,p.1<dx:=λp hp=>by
   rw[e1]at hp;rcases BF.mp hp with q | q
   ·exact hlt p (Cb _ q)
   ·rcases AS.mp q with rfl | q
    ·exact hlt (x,Gv C t none) (by simp)
    ·exact hlt p (Cv _ (.tail _ q))
  refine BL (st1.addJ F' (by rw[e1];exact N') λp hp=>B6 (hlt' p hp)) ?_;rintro l2 s2 st2 x2 o2
  have x1':Ap (b0<=·) l l1:=x1.widen λa q=>q▸hb;have hxd:x<dx:=hlt' _ o1.1;refine hQ l2 h' _ (s2.trans s1) st2 (x1'.trans x2.weaken) ⟨hb,t,some dx,x2.all o1,AC hb (Dz hxd),Ly hxd,_,_,o2,?_⟩;exact .cons ((hv.mono x1).mono x2) .nil
 ·rcases r with⟨r1,r2,es,k,r3,r4⟩
  refine Bm (st.split r3.1) ?_;rintro pre post e g1 g2;have N:=st.nw;rw[e]at N;have I:InstAt s.heap x (Gv C t (some dx)) C (some (dictOf es k)):=⟨(st.nw _ ho.1).1,rfl,rfl,(st.nw _ r3.1).1⟩;have hl':(getL name es).isSome=true:=by
   rcases r4.get name with⟨_,_,_,hw,_⟩ | ⟨_,hw⟩<;>rw[hw]<;>rfl
  have hlen:=(r4.put (x:=name) (hsh:=Lv c.w.params name) (t:=s.toks+1) hv).length;have hp:=QV name a as;refine AhL st.fr ok.kin N I rfl k1 k2 k3 hl' g1 g2 (AdP hz hlen hp) λh' F' N' => ?_;refine Ig (st.turnN e g1 g2 r3 (Vk rfl) F' N') ?_;rintro l1 s1 e1 st1 x1 o1;refine hQ l1 h' _ s1 st1 (x1.widen λa q=>q▸r1) ⟨hb,t,some dx,x1.oth _ ho (.inr λq=>r2 q.symm),r1,r2,_,_,o1,(r4.put hv).mono x1⟩
end
end
section
set_option maxHeartbeats 1000000
open Builtin Builtin.ObjectAttr Builtin.Getset_descriptor
structure E9(c:FC)(m:Ac->Option Ad)(env:Env)(l:Am)(loc:Ao)(slf:Ac)(x:Af):Prop where
 eo:Ce c env
 er:B8 c m env l loc
 lo:env.locals=c.L
 fen:env=c.fenv
 kind:env.kindOf slf=some .local
 good:C7 slf=true
 at_:m slf=some (.ref x)
 cells:env.cells=[]
section
variable {c:FC}{FX:Bh}{m:Ac->Option Ad}{l l':Am}{d:Nat}{h h':AY}{x C b0:Af}{as:List (Ac×CV)}{env:Env}{loc:Ao}{slf:Ac}{Γ:AM}
theorem E9.mono(e:Ap No l l')(z:E9 c m env l loc slf x):E9 c m env l' loc slf x:={ z with er:=z.er.mono e }
theorem E9.keep(e:Ap D l l')(st:St c m l h)(z:E9 c m env l loc slf x):E9 c m env l' loc slf x:=by
 refine { z with er:=⟨λn v k e1 e2 => ?_,.inl z.lo⟩ }
 have y:=z.er.nm n v k e1 e2;rcases k with _ | _ | _ | _ | _
 case «local» =>
  rcases y with⟨q,w,hm,hv⟩ | ⟨oC,m₂,w,ho,_⟩
  ·exact .inl ⟨q,w,hm,hv.mono e⟩
  ·exact absurd z.lo (st.nw _ ho.1).2.1
 case cell =>
  refine Ee y ?_;clear y;rintro a o w q _;rw[z.cells]at q;exfalso;injection q
 case free =>
  refine Ee y ?_;clear y;rintro a o w q _;rw[z.cells]at q;exfalso;injection q
 all_goals exact y
theorem WX{p:Pos}(xf:E9 c m env l loc slf x)(st:St c m l s.heap)(h:Q (.ref x) s):wpAny c.M c.A (eval (.Name slf p) env) Q E s:=by
 have hg:=xf.good;simp only[C7,A9,EY]at hg;exact Ls (PW xf.eo.kind xf.kind (xf.lo▸st.fr.ns) xf.at_ h) hg.1
theorem AhO{Q:List Ad->Aq->Prop}{p:Pos}(xf:E9 c m env l loc slf x)(st:St c m l s.heap)(hf:Bu c FX m env l f)(he:Bx f es l.σ=.ok cs l.σ)
  (h:∀l' vs h' tk,l'.σ=l.σ->St c m l' h'->Ap No l l'->Az l' vs cs->Q (.ref x::vs) (put s h' tk)) :
  wpAny c.M c.A (spliced (backTo pos (starEach (.Name slf p::es) env))) Q E s:=by
 rw[Jo rfl];show wpAny _ _ (spliced ((false,eval (.Name slf p) env)::backTo pos (starEach es env))) _ _ _;rw[QQ];refine Aj (WX xf st ?_);refine Aj (Dg (G8 es hf s _ E st (λb l' a h' tk e st' x' hv => ?_) (λy l' e h' tk hx xx fx => ?_) λq => ?_))
 ·rw[he]at e;injection e with e1 e2
  subst e1;exact AB (h l' a h' tk e2.symm st' x' hv)
 ·rw[he]at hx;(exfalso;injection hx)
 ·rw[he]at q;(exfalso;injection q)
theorem AhP(ok:AJ c d)(hC:Ii c.K C=true)(st:St c m l s.heap)(z:XS b0 l x C as)(hz:ws.length<=sizeLine)
  (hQ:∀l' h',l'.σ=l.σ->St c m l' h'->Ap (b0<=·) l l'->XS b0 l' x C as->Q .none { s with heap:=h' }) :
  wpAny c.M c.A (call (.builtin "Exception.__init__") (.ref x::ws)) Q E s:=by
 have F:=PySem.F.excBase_Exception;have Y:=RB (M:=c.M) (ok.kin.keeps st.fr.keep) hC;rcases z with⟨hb,t,od,ho,r⟩
 rcases s with⟨hh,g,dr,tk,os⟩
 have hx:=(st.nw _ ho.1).1;have T:BK c.M hh (Ka (.ref x) (.type "Exception")) true:=((LA hx).andThen .now:BK _ _ (typeOf (.ref x)) (.ref C)).andThen Y.exc;refine Bm (st.split ho.1) ?_;rintro pre post e g1 g2;have N:=st.nw;rw[e]at N;have lt:∀p∈pre++(x,Gv C t od)::post,p.1<hh.objs.size:=λp hp=>Bz (N p hp).1;have N1:=N.push st.fr (Cs ws 0);refine At (AaY (pre:=(hh.objs.size,Cs ws 0)::pre) (post:=post) (f:=Hy (·.setIfInBounds 0 (.ref hh.objs.size))) (o':=Gv C hh.objs.size od) (st.fr.push (Cs ws 0)) N1 (λp hp=>by
  rcases AS.mp hp with rfl | hp
  ·exact λq=>BP _ (q▸lt (x,Gv C t od) (by simp))
  ·exact g1 p hp) g2 rfl rfl) ?_;rintro F2 N2
 refine J9 (T7 F.init.plain F.initEntry ?_);have hshort:=F.noStar;simp only[Aal,F.initKind,F.initSplit,F.initRow];refine Aj (T.here ?_);rw[if_neg (by decide)]
 rcases id Y with⟨⟨oc,odc,cd,sl,hCC,e1,e2,e4⟩,-⟩
 repeat (first | with_reducible refine AaA hCC ?_ | with_reducible refine AoW hx ?_ | with_reducible refine AoW hCC ?_ | wp_step)
 refine wpAny_onRaise ?_;rw[show ∀(a b:String) (n:Nat),Bind.check ⟨.positional,"*","Exception",.self,[⟨"args",.varPos,false⟩]⟩ a b n (GX (λx=>x.fst) ({ pos:=CR x::ws }:Args).kw)=pure ()from
  λa b n=>check_star_args _ _ _ _ _ _]
 refine AB ?_;have hx1:(hh.push (Cs ws 0)).get? x=some (Gv C t od):=Ed _ hx;unfold Builtin.«BaseException.__init__»
 wp_walk
 show Q .none _;refine Ig (st.turnN e g1 g2 ho (Gq rfl) F2 (λp hp=>N2 p (.tail _ hp))) ?_;rintro l1 s1 e1 st1 x1 o1;have hlt':∀p∈l1.Φ,p.1<hh.objs.size:=λp hp=>by
  rw[e1]at hp;rcases BF.mp hp with q | q
  ·exact lt p (Cb _ q)
  ·rcases AS.mp q with rfl | q
   ·exact lt (x,Gv C t od) (by simp)
   ·exact lt p (Cv _ (.tail _ q))
 refine BL (st1.addJ F2 (by rw[e1];exact N2) λp hp=>B6 (hlt' p hp)) ?_;rintro l2 s2 st2 x2 o2
 have x1':Ap (b0<=·) l l1:=x1.widen λa q=>q▸hb;refine hQ l2 _ (s2.trans s1) st2 (x1'.trans x2.weaken) ⟨hb,hh.objs.size,od,x2.all o1,?_⟩;rcases od with _ | dx
 ·exact r
 ·rcases r with⟨r1,r2,es,k,r3,r4⟩
  exact⟨r1,r2,es,k,x2.all (x1.oth _ r3 (.inr λq=>r2 q)),(r4.mono x1).mono x2⟩
end
end
section
set_option maxHeartbeats 1000000
open Builtin Builtin.ObjectAttr Builtin.Getset_descriptor
section
variable {c:FC}{FX:Bh}{m:Ac->Option Ad}{l l':Am}{d:Nat}{h h':AY}{x C b0:Af}{as:List (Ac×CV)}{env:Env}{loc:Ao}{slf:Ac}{Γ:AM}
set_option tactic.hygienic true in
theorem AhQ{Q:Fo->Aq->Prop}{a n:Ac}{p2:Pos}{v:CV}(ok:AJ c d)(g:Bn c.K Γ)(xf:E9 c m env l loc slf x)(hk:Ij c.K C a=true)(st:St c m l s.heap)(z:XS b0 l x C as)(hz:as.length<900)
  (hn:Gw Γ env.scope.names loc n l.σ=.ok v l.σ)
  (hQ:∀l' h' tk,l'.σ=l.σ->St c m l' h'->Ap (b0<=·) l l'->XS b0 l' x C (CI a v as)->Q .next (put s h' tk)) :
  wpAny c.M c.A (exec (.Assign [.Attribute (.Name slf p1) a p2] (.Name n p3) pos) env) Q E s:=by
 have fe:Du c env:=⟨xf.eo,xf.lo,xf.fen⟩;rw[AaP];refine Aj (FM ?_);rw[OA fe (value:=.Name n p3) rfl];refine Aj (AB ?_);rw[if_neg (show ¬(HM env.scope.names (.Name n p3) (.Attribute (.Name slf p1) a p2)=true)from Cw)];refine Aj (QN (FX:=λj j j j=>False) ok g xf.eo xf.er s _ E st (λb l1 w h1 tk1 e st1 x1 hw => ?_) (λy l' e h' tk hx xx fx=>fx.elim) λq=>by rw[hn]at q;(exfalso;injection q))
 rw[hn]at e;injection e with e1 e2
 subst e1;rw[Ww (Rn fe) (r:=none) rfl];refine Aj (AB ?_);show wpAny _ _ (assign (.Attribute (.Name slf p1) a p2) env w >>= λj=>(pure .next:Sem Fo)) Q E _
 rw[AoM];refine Aj (Aj (Dg (WX (xf.mono x1) st1 (Aj (FM (Aj (Dg ?_)))))));refine AhN ok hk st1 (z.mono x1) hw hz λl2 h2 tk2 s2 st2 x2 z2 => ?_;exact TT (AB (hQ l2 h2 tk2 (s2.trans e2.symm) st2 ((x1.weaken).trans x2) z2))
theorem AhR(K:Bf):findCls K (.type "Exception") (.type "type") "__init__" = some (.val (.builtin "Exception.__init__")):=by kernel_rfl
theorem AhS:typeOf (.type "Exception")=pure (.type "type"):=by kernel_rfl
theorem AhT:Manifest.isStub "Exception" = false:=by kernel_rfl
theorem AhU:ZA "Exception" = some (.type "Exception"):=by kernel_rfl
theorem WY{P:AY->Prop}{p:Pos}{fv:Ad}(hn:noStar es=true)(xf:E9 c m env l loc slf x)(st:St c m l s.heap)(hf:Bu c FX m env l f)(he:Bx f es l.σ=.ok cs l.σ)
  (hP:∀l' h,St c m l' h->P h) (hk:∀h,P h->∃k,(k=Keeper.frame\/k=An0\/k=An1)/\BK c.M h (keeperOf fv) k)
  (h:∀l' vs h' tk,l'.σ=l.σ->St c m l' h'->Ap No l l'->Az l' vs cs->wpAny c.M c.A (call fv (.ref x::vs)) Q E (put s h' tk)) :
  wpAny c.M c.A (callWith pos fv [] (backTo pos (starEach (.Name slf p::es) env)) []) Q E s:=by
 have hns:noStar (.Name slf p::es)=true:=by simp only[noStar,A9];exact⟨rfl,hn⟩
 have plain:((backTo pos (starEach (.Name slf p::es) env)).any (·.1) || ([]:List (Option Ac×Sem Ad)).any (·.1.isNone))=false:=by
  rw[VK _ (LQ hns)];rfl
 refine callWith_of (P:=P) plain hk ?_;have main:=AhO (Q:=λvs s₁=>P s₁.heap/\wpAny c.M c.A (call fv ([]++vs) []) Q E s₁) (E:=E) (p:=p) (pos:=pos) xf st hf he λl' vs h' tk e st' x' hv=>⟨hP l' h' st',h l' vs h' tk e st' x' hv⟩;rw[Jo rfl]at main ⊢;exact An2 main
set_option tactic.hygienic true in
theorem AhV{Q:Fo->Aq->Prop}{p0 epos:Pos}(ok:AJ c d)(xf:E9 c m env l loc slf x)(hC:Ii c.K C=true)(hg:nsIn c.K Eb "Exception" = some none)
  (hn:noStar es=true) (hc:E4 (.Name slf p1::es) apos pos=true) (hkn:env.kindOf "Exception" = some .globalImplicit) (st:St c m l s.heap) (z:XS b0 l x C as) (hf:Bu c FX m env l f) (he:Bx f es l.σ=.ok cs l.σ) (hl:cs.length<30)
  (hQ:∀l' h' tk,l'.σ=l.σ->St c m l' h'->Ap (b0<=·) l l'->XS b0 l' x C as->Q .next (put s h' tk)) :
  wpAny c.M c.A (exec (.Expr (.Call (.Attribute (.Name "Exception" p0) "__init__" apos) (.Name slf p1::es) [] pos) epos) env) Q E s:=by
 have T:Lr c.p c.loose c.mg c.mb c.h₀:=Ic ok.top;have hi:NP env=false:=by unfold NP;rw[xf.eo.kind];rfl
 refine AaN ?_ hi (Rp rfl);rw[Oo hc rfl];refine Aj (Lu xf.eo.kind hkn ?_ (by decide))
 refine Aob (by rw[xf.eo.globals];exact T.g.keeps st.fr.keep) (mg_none_of ok.kin T.g hg) (by rw[xf.eo.builtins];exact T.b.keeps st.fr.keep) ((T.builtins "Exception" (by decide)).trans AhU) ?_
 refine Aj (FM (Aj (Dg ?_)));refine method_type st.fr ok.kin AhS AhT (AhR _) rfl ?_;refine WY (s:={ s with toks:=s.toks+1 }) (P:=λq=>True) hn xf st hf he (λq q q=>trivial) (λh q=>⟨.machine,.inr (.inl rfl),TY rfl⟩) λl1 vs h1 tk1 e1 st1 x1 hv => ?_
 refine AhP ok hC st1 (z.mono x1) (by rw[hv.length,FN];exact Vc hl) λl2 h2 e2 st2 x2 z2 => ?_
 exact hQ l2 h2 tk1 (e2.trans e1) st2 (x1.weaken.trans x2) z2
def IB(c:FC)(C:Af)(f:Af)(cs:List CV)(as as':List (Ac×CV)):Prop:=∀(m:Ac->Option Ad) (l:Am) (b0 x:Af) (ws:List Ad) (s:Aq) (R:GO->Aq->Prop),St c m l s.heap->XS b0 l x C as->Az l ws cs ->
 (∀l' h' tk,l'.σ=l.σ->St c m l' h'->Ap (b0<=·) l l'->XS b0 l' x C as'->R (.ok (.ret .none)) (put s h' tk))->codeAny c.M c.A (.call (.ref f) ⟨.ref x::ws,[]⟩) R s
set_option tactic.hygienic true in
theorem AhW{Q:Fo->Aq->Prop}{p0 epos:Pos}{B g:Af}{as':List (Ac×CV)}(ok:AJ c d)(xf:E9 c m env l loc slf x)(hg:nsIn c.K Eb cn=some (some (.ref B)))(hm:Ih c.K B "__init__" g=true)
  (hn:noStar es=true) (hgn:C7 cn=true) (hc:E4 (.Name slf p1::es) apos pos=true) (hkn:env.kindOf cn=some .globalImplicit) (st:St c m l s.heap) (z:XS b0 l x C as) (hf:Bu c FX m env l f) (he:Bx f es l.σ=.ok cs l.σ) (hi:IB c C g cs as as')
  (hQ:∀l' h' tk,l'.σ=l.σ->St c m l' h'->Ap (b0<=·) l l'->XS b0 l' x C as'->Q .next (put s h' tk)) :
  wpAny c.M c.A (exec (.Expr (.Call (.Attribute (.Name cn p0) "__init__" apos) (.Name slf p1::es) [] pos) epos) env) Q E s:=by
 have T:Lr c.p c.loose c.mg c.mb c.h₀:=Ic ok.top;have hin:NP env=false:=by unfold NP;rw[xf.eo.kind];rfl
 simp only[C7,A9,EY]at hgn;refine AaN ?_ hin (Rp rfl);rw[Oo hc rfl];simp only[Ih,A9,beq_iff_eq]at hm;refine At hm ?_;clear hm;rintro⟨q1,q2⟩ q3;have key:∀s':Aq,s'.heap=s.heap->s'={ s with toks:=s'.toks }->wpAny c.M c.A (callWith pos (.ref g) [] (backTo pos (starEach (.Name slf p1::es) env)) []) (λq=>Q .next) E s':=λs' e1 e2=>by
  refine WY (s:=s') (P:=λh=>c.K.In h) hn xf (e1▸st) hf he (λl' h st'=>ok.kin.keeps st'.fr.keep) (λh X=>TZ q2 h X) λl1 vs h1 tk1 e1 st1 x1 hv => ?_;refine J9 (hi m l1 b0 x vs _ _ st1 (z.mono x1) hv λl2 h2 tk2 s2 st2 x2 z2 => ?_);have:=hQ l2 h2 tk2 (s2.trans e1) st2 (x1.weaken.trans x2) z2;rw[e2];exact this
 refine Aj (Lu xf.eo.kind hkn ?_ hgn.1);refine PX (by rw[xf.eo.globals];exact T.g.keeps st.fr.keep) (mg_of ok.kin T.g hg) ?_
 refine Aj (FM (Aj (Dg ?_)))
 split at q3
 ·rename_i mc hmc;simp only[A9]at q3;refine At q3 ?_;clear q3;rintro q3 q4
  split at q4
  ·rename_i v hv;have hv':v=.ref g:=beq_iff_eq.mp q4;subst hv';exact Aoe st.fr ok.kin q1 (cls_val st.fr ok.kin hmc q3 hv rfl (key { s with toks:=s.toks+1 } rfl rfl))
  ·exfalso;injection q4
 ·exfalso;injection q3
end
end
section
set_option maxHeartbeats 1000000
open Builtin Builtin.ObjectAttr Builtin.Getset_descriptor
noncomputable def KS(D:C0)(slf:Ac)(xs:List Ac):Bool:=HN D && (D.params.args.map (·.arg) == slf::xs) && (FT 0 D.scope.names []).isEmpty && (D.scope.names.lookup slf == some .local) && C7 slf
theorem AhX{kindOf:Ac->Option Go}:∀(xs:List Ac) (vs:List Ad) (m:Ac->Option Ad) (x:Ac),x∉xs->bindL kindOf (xs.zip vs) m x=m x:=by
 intro xs
 induction xs with
 | nil=>intro vs m x _;rfl
 | cons y ys ih =>
  intro vs m x hx;rcases vs with _ | ⟨v,vs⟩
  ·rfl
  ·rw[AS,not_or]at hx;rw[Hz];rw[bindL.eq_2];rw[ih vs (if kindOf y=some .local then λz=>if z=y then some v else m z else m) x hx.2]
   split
   ·exact if_neg hx.1
   ·rfl
set_option tactic.hygienic true in
noncomputable def AhY(c:FC)(C:Af)(D:C0)(slf:Ac)(xs:List Ac)(cs:List CV)(as as':List (Ac×CV)):Prop:=∀(m:Ac->Option Ad) (l:Am) (b0 x:Af) (env:Env) (s:Aq) (Q:Fo->Aq->Prop) (E:Ad->Aq->Prop),env.scope=D.scope->E9 c m env l (xs.zip cs) slf x->St c m l s.heap->XS b0 l x C as ->
 (∀l' h' tk,l'.σ=l.σ->St c m l' h'->Ap (b0<=·) l l'->XS b0 l' x C as'->Q .next (put s h' tk))->wpAny c.M c.A (execs D.body env) Q E s
theorem WZ{f:Af}{D:C0}{slf:Ac}{as':List (Ac×CV)}(ok:AJ c (d+1))(hD:Jn c.K f D)(hg:KS D slf xs=true)(hl:xs.length=cs.length)
  (hb:∀g L env,AJ (c.callee g L env) d->AhY (c.callee g L env) C D slf xs cs as as'):IB c C f cs as as':=by
 intro m l b0 x ws s R st z hv hR;rcases hD with⟨oc,od,osl,kV,doc,pm,an,cdv,ct,hK,hcd⟩
 simp only[KS,A9,beq_iff_eq,AaS]at hg;refine At hg ?_;clear hg;rintro⟨⟨⟨hgood,hargs⟩,hcell⟩,hself⟩ hgn;simp only[HN,A9,EY,beq_iff_eq,decide_eq_true_eq]at hgood;refine At hgood ?_;clear hgood;rintro⟨⟨⟨⟨hp,hk⟩,hco⟩,hgen⟩,hall⟩ hnd;have hxs:(D.params.args.map (·.arg)).Nodup:=by
  simp only[Mo,A9,decide_eq_true_eq]at hp;exact hp.2
 have hwl:ws.length=cs.length:=hv.length;have hlen':(D.params.args.map (·.arg)).length=(CR x::ws).length:=by rw[hargs,BH,BH,hl,hwl]
 have hkinds:∀y∈D.params.args.map (·.arg),D.scope.names.lookup y=some .local\/D.scope.names.lookup y=some .cell:=λy hy=>by
  refine Ah (BB.mp hy) ?_;rintro a ha rfl;have:=B0.mp hall a ha
  simpa using this
 have hdep:=ok.depth;refine code_defC (binds:=(D.params.args.map (·.arg)).zip (CR x::ws)) ok.below st.fr ok.kin st.nw ok.top ok.frames ok.frame ok.kind hK hcd (by show c.A.depth<1000;exact AdT hdep) (Rw hp rfl hlen') ?_ hnd ?_ hco hgen hk
 ·rw[B0];rintro⟨y,v⟩ hy;have:=hkinds y (Uj hy).1
  simpa using this
 intro g1 L' h₁ tk cells F0 F1 N1 CA B1 K1 T1 hlt;have cz:FT (L' + 1) D.scope.names []=[]:=by
  have:=cellsFrom_names D.scope.names (L' + 1) 0 [] [] rfl;rw[hcell]at this;exact List.map_eq_nil_iff.mp this
 rw[cz]at CA;rcases CA with⟨⟩
 have nocell:∀y,D.scope.names.lookup y≠some .cell:=λy hy=>by
  have:=OB D.scope.names 0 [] y (.inl hy);rw[hcell]at this;exfalso;injection this
 have ok':AJ (c.callee g1 L' (envOfC D.qual D.scope L' f cdv)) d:=by
  have h2:=ok.units;refine⟨B1,K1,T1,?_,rfl,hk,?_,?_,ok.handled⟩
  ·show Option.map _ c.A.frames=_;rw[ok.frames];rfl
  ·show c.A.depth+1+10*d<=900;exact AdS hdep
  ·show c.A.units+3+100*d<=9000;exact AdR h2
 have eo:Ce (c.callee g1 L' (envOfC D.qual D.scope L' f cdv)) (envOfC D.qual D.scope L' f cdv):=⟨rfl,rfl,hk,rfl⟩;have st1:St (c.callee g1 L' (envOfC D.qual D.scope L' f cdv)) (bindL (envOfC D.qual D.scope L' f cdv).kindOf ((D.params.args.map (·.arg)).zip (CR x::ws)) λj=>none) l h₁:=⟨F1,N1,st.lr⟩;rw[hargs]at hxs st1 hkinds;refine At (Dm.mp hxs) ?_;rintro n1 n2;have er:B8 (c.callee g1 L' (envOfC D.qual D.scope L' f cdv)) (bindL (envOfC D.qual D.scope L' f cdv).kindOf ((slf::xs).zip (CR x::ws)) λj=>none) (envOfC D.qual D.scope L' f cdv) l (xs.zip cs):=by
  refine⟨λy a k hy hky => ?_,.inl rfl⟩;have hym:y∈xs:=by
   have:(y,a)∈xs.zip cs:=by
    clear hky
    generalize xs.zip cs=ps at hy
    induction ps with
    | nil=>(exfalso;injection hy)
    | cons p r ih =>
     rcases p with⟨y',b⟩
     rw[BC]at hy
     by_cases e:y=y'
     ·subst e;simp at hy;subst hy;exact .head _
     ·rw[beq_eq_false_iff_ne.mpr e]at hy;exact .tail _ (ih hy)
   exact(Uj this).1
  have hky':D.scope.names.lookup y=some k:=hky;rw[Hz];rw[bindL.eq_2];refine Ah (WG (kindOf:=(envOfC D.qual D.scope L' f cdv).kindOf) xs ws cs (if(envOfC D.qual D.scope L' f cdv).kindOf slf=some .local then λz=>if z=slf then some (CR x)else none else λj=>none) (λj=>none) l (AdQ hl hwl) n2 hv y a hy) ?_;rintro v hva hb;rcases hkinds y (.tail _ hym)with q | q
  ·have:k=.local:=Ay (hky'.symm.trans q);subst this;rw[if_pos hky]at hb;exact .inl ⟨rfl,v,hb,hva⟩
  ·exact absurd q (nocell y)
 have hat:bindL (envOfC D.qual D.scope L' f cdv).kindOf ((slf::xs).zip (CR x::ws)) (λj=>none) slf=some (.ref x):=by
  rw[Hz];rw[bindL.eq_2];rw[AhX xs ws _ slf n1];rw[if_pos (show(envOfC D.qual D.scope L' f cdv).kindOf slf=some .local from hself)];exact if_pos rfl
 refine hb g1 L' _ ok' _ l b0 x _ _ _ _ rfl ⟨eo,er,rfl,rfl,hself,hgn,hat,cz⟩ st1 z λl2 h2 tk2 s2 st2 x2 z2 => ?_;exact⟨L',_,l2.Φ,st2.fr,st2.nw,λFF NN=>hR l2 h2 tk2 s2 ⟨FF,NN,st2.lr⟩ x2 z2⟩
end
section
set_option maxHeartbeats 1000000
open Builtin Builtin.ObjectAttr Builtin.Getset_descriptor
noncomputable def JE(b:AL):Option (Ac×Ac×Ac):=ob (QF b) λt=>ob (Fs t.1) λx=>ob (E2 x) λq=>ob (B7 q.1) λs=>ob (B7 t.2.1) λn=>some (s.1,q.2.1,n.1)
theorem AhZ{b:AL}{q:Ac×Ac×Ac}(e:JE b=some q):∃p1 p2 p3 pos,b=.Assign [.Attribute (.Name q.1 p1) q.2.1 p2] (.Name q.2.2 p3) pos:=by
 refine AN e λt e1 e=>AN e λx e2 e=>AN e λq e3 e=>AN e λs' e4 e=>AN e λn' e5 e => ?_;obtain rfl:=Ay e;rw[AeD e1,Jk e2,LL e3,Fp e4,Fp e5];exact⟨_,_,_,_,rfl⟩
theorem Ah0{b:AL}{s a n:Ac}(e:JE b=some (s,a,n)):∃p1 p2 p3 pos,b=.Assign [.Attribute (.Name s p1) a p2] (.Name n p3) pos:=AhZ e
noncomputable def RC(pairs:List (Ac×Ac×CV))(as:List (Ac×CV)):List (Ac×CV):=pairs.foldl (λas p=>CI p.1 p.2.2 as) as
section
variable {c:FC}{FX:Bh}{m:Ac->Option Ad}{l l':Am}{d:Nat}{h h':AY}{x C b0:Af}{env:Env}{loc:Ao}{slf:Ac}{Γ:AM}
set_option tactic.hygienic true in
theorem W0(ok:AJ c d)(g:Bn c.K Γ):∀(body:List AL) (pairs:List (Ac×Ac×CV)) (as:List (Ac×CV)) (l:Am) (s:Aq) (Q:Fo->Aq->Prop) (E:Ad->Aq->Prop),body.map JE=pairs.map (λp=>some (slf,p.1,p.2.1)) ->
  (∀p∈pairs,Ij c.K C p.1=true/\Gw Γ env.scope.names loc p.2.1=ret p.2.2)->as.length+pairs.length<900->E9 c m env l loc slf x->St c m l s.heap->XS b0 l x C as ->
  (∀l' h' tk,l'.σ=l.σ->St c m l' h'->Ap (b0<=·) l l'->XS b0 l' x C (RC pairs as)->Q .next (put s h' tk))->wpAny c.M c.A (execs body env) Q E s:=by
 intro z1
 induction z1 with
 | nil =>
  intro z2;rcases z2 with _ | ⟨z3,z4⟩
  ·intro as l s Q E z5 z6 z7 xf st z hQ;exact NO (hQ l s.heap s.toks rfl st (Ap.refl l) z)
  ·intro as l s Q E e z8 z9 xf st z hQ;exfalso;injection e
 | cons b bs ih =>
  intro z10;rcases z10 with _ | ⟨p,ps⟩
  ·intro as l s Q E e z11 z12 xf st z hQ;exfalso;injection e
  ·intro as l s Q E e hp hz xf st z hQ;rw[Bj,Bj]at e;injection e with e1 e2
   have⟨h1,h2⟩:=hp p (.head _);rw[BH]at hz;refine Q41 (Ah0 e1) ?_;rintro p1 p2 p3 pos rfl;refine Kg (AhQ ok g xf h1 st z (Vi hz) (by rw[h2];rfl) λl1 h1 tk1 s1 st1 x1 z1 => ?_)
   refine ih ps _ l1 _ Q E e2 (λq hq=>hp q (.tail _ hq)) (FK (T' (Tz (QV p.1 p.2.2 as) _) (Q' ((ZE _ _ _).trans (congrArg _ (PP _ _))))) hz) (xf.keep x1 st) st1 z1 λl2 h2 tk2 s2 st2 x2 z2 => ?_;exact hQ l2 h2 tk2 (s2.trans s1) st2 (x1.trans x2) z2
noncomputable def Mp(Γ:AM)(ks:AD)(loc:Ao):Expr->CM CV
 | .Name n _=>Gw Γ ks loc n
 | _=>Ar
theorem W1(ok:AJ c d)(g:Bn c.K Γ)(eo:Ce c env)(er:B8 c m env l loc):Bu c FX m env l (Mp Γ env.scope.names loc):=λe l' x'=>by
 rcases e with⟨⟩<;>first | exact Aa.stuck | exact QN ok g eo (er.mono x')
noncomputable def W2(e:Expr):Option ((Ac×Pos)×Ac×Pos×List Expr×Pos):=ob (LK e) λk=>ob (E2 k.1) λt=>ob (B7 t.1) λn=>ob (LO k.2.2.1) λz=>some (n,t.2.1,t.2.2,k.2.1,k.2.2.2)
theorem Ah1{q:(Ac×Pos)×Ac×Pos×List Expr×Pos}(h:W2 e=some q):e=.Call (.Attribute (.Name q.1.1 q.1.2) q.2.1 q.2.2.1) q.2.2.2.1 [] q.2.2.2.2:=by
 refine AN h λk e1 h=>AN h λt e2 h=>AN h λn e3 h=>AN h λz e4 h => ?_;obtain rfl:=Ay h;rw[Vn e1,LL e2,Fp e3,Oa e4]
noncomputable def KT(b:AL):Option (Ac×Ac×List Expr):=ob (N8 b) λv=>ob (W2 v.1) λk=>ob (QG k.2.2.2.1) λas=>ob (B7 as.1) λs =>
 if k.2.1=("__init__" : Ac)/\E4 (.Name s.1 s.2::as.2) k.2.2.1 k.2.2.2.2=true/\noStar as.2=true then some (k.1.1,s.1,as.2)else none
theorem Ah2{b:AL}{q:Ac×Ac×List Expr}(e:KT b=some q):∃p0 apos p1 pos epos,b=.Expr (.Call (.Attribute (.Name q.1 p0) "__init__" apos) (.Name q.2.1 p1::q.2.2) [] pos) epos/\E4 (.Name q.2.1 p1::q.2.2) apos pos=true/\noStar q.2.2=true:=by
 refine AN e λv e1 e=>AN e λk e2 e=>AN e λas e5 e=>AN e λs' e6 e => ?_;refine At (QC e) ?_;rintro q e;subst e;have k2:=Ah1 e2;rw[Vp e5,Fp e6,q.1]at k2;exact⟨_,_,_,_,_,(Vo e1).trans (congrArg (λx=>Stmt.Expr x _) k2),q.2⟩
theorem W3{b:AL}{s:Ac}(e:KT b=some (cn,s,es)):∃p0 apos p1 pos epos,b=.Expr (.Call (.Attribute (.Name cn p0) "__init__" apos) (.Name s p1::es) [] pos) epos/\E4 (.Name s p1::es) apos pos=true/\noStar es=true:=Ah2 e
theorem Ah3{f:Af}{D:C0}{cs0:List CV}{b:AL}{bs:List AL}{pairs:List (Ac×Ac×CV)}(ok:AJ c (d+1))(g:Bn c.K Γ)(hD:Jn c.K f D)(hg:KS D slf xs=true)(hl:xs.length=cs.length)
  (hC:Ii c.K C=true) (hge:nsIn c.K Eb "Exception" = some none) (hke:D.scope.names.lookup (Ab "Exception")=some An9)
  (hb:D.body=b::bs) (h1:KT b=some (Ab "Exception",slf,es)) (he:Bx (Mp Γ D.scope.names (xs.zip cs)) es=ret cs0) (hl0:cs0.length<30)
  (h2:bs.map JE=pairs.map (λp=>some (slf,p.1,p.2.1))) (hp:∀p∈pairs,Ij c.K C p.1=true/\Gw Γ D.scope.names (xs.zip cs) p.2.1=ret p.2.2) (hz:as.length+pairs.length<900) :
  IB c C f cs as (RC pairs as):=by
 refine WZ ok hD hg hl λg0 L0 env0 ok' m l b0 x env s Q E hs xf st z hQ => ?_;have gk:Bn (c.callee g0 L0 env0).K Γ:=g;refine NW (W3 h1) ?_;rintro p0 apos p1 pos epos rfl c1 c2;rw[hb];refine Kg (AhV (FX:=λq q q q=>False) (cs:=cs0) ok' xf hC hge c2 c1 (by show env.scope.names.lookup _=_;rw[hs];exact hke) st z (W1 ok' gk xf.eo xf.er) (by rw[hs,he];rfl) hl0 λl1 h1 tk1 s1 st1 x1 z1 => ?_)
 refine W0 ok' gk bs pairs as l1 _ Q E h2 (by rw[hs];exact hp) hz (xf.keep x1 st) st1 z1 λl2 h2 tk2 s2 st2 x2 z2 => ?_
 exact hQ l2 h2 tk2 (s2.trans s1) st2 (x1.trans x2) z2
theorem Ah4{f B fB:Af}{D:C0}{cs0:List CV}{as1:List (Ac×CV)}{b:AL}{bs:List AL}{pairs:List (Ac×Ac×CV)}(ok:AJ c (d+1))(g:Bn c.K Γ)(hD:Jn c.K f D)(hg:KS D slf xs=true)(hl:xs.length=cs.length)
  (hge:nsIn c.K Eb cn=some (some (.ref B))) (hgn:C7 cn=true) (hm:Ih c.K B "__init__" fB=true) (hke:D.scope.names.lookup cn=some .globalImplicit) (hi:∀c':FC,c'.K=c.K->AJ c' d->IB c' C fB cs0 as as1)
  (hb:D.body=b::bs) (h1:KT b=some (cn,slf,es)) (he:Bx (Mp Γ D.scope.names (xs.zip cs)) es=ret cs0)
  (h2:bs.map JE=pairs.map (λp=>some (slf,p.1,p.2.1))) (hp:∀p∈pairs,Ij c.K C p.1=true/\Gw Γ D.scope.names (xs.zip cs) p.2.1=ret p.2.2) (hz:as1.length+pairs.length<900) :
  IB c C f cs as (RC pairs as1):=by
 refine WZ ok hD hg hl λg0 L0 env0 ok' m l b0 x env s Q E hs xf st z hQ => ?_;have gk:Bn (c.callee g0 L0 env0).K Γ:=g;refine NW (W3 h1) ?_;rintro p0 apos p1 pos epos rfl c1 c2;rw[hb];refine Kg (AhW (FX:=λq q q q=>False) (cs:=cs0) ok' xf hge hm c2 hgn c1 (by show env.scope.names.lookup _=_;rw[hs];exact hke) st z (W1 ok' gk xf.eo xf.er) (by rw[hs,he];rfl) (hi _ rfl ok') λl1 h1 tk1 s1 st1 x1 z1 => ?_)
 refine W0 ok' gk bs pairs as1 l1 _ Q E h2 (by rw[hs];exact hp) hz (xf.keep x1 st) st1 z1 λl2 h2 tk2 s2 st2 x2 z2 => ?_
 exact hQ l2 h2 tk2 (s2.trans s1) st2 (x1.trans x2) z2
theorem Ah5{fI:Af}(ok:AJ c (d+1))(hC:Ii c.K C=true)(hi:findIn c.K (.ref C) "__init__" = some (some (.ref fI)))(hf:typeIn c.K (.ref fI)=some (.type "function"))
  (hI:∀c':FC,c'.K=c.K->AJ c' d->IB c' C fI cs [] as) (st:St c m l s.heap) (hv:Az l vs cs) (hz:cs.length<30)
  (hR:∀l' x b0 h' tk,l'.σ=l.σ->St c m l' h'->Ap No l l'->(∀p∈l.Φ,p.1<b0)->XS b0 l' x C as->R (.ok (.ret (.ref x))) (put s h' tk)) :
  codeAny c.M c.A (.call (.ref C) ⟨vs,[]⟩) R s:=by
 rcases s with⟨hh,gg,dr,tk,os⟩
 have X:=ok.kin.keeps st.fr.keep;have lt:∀p∈l.Φ,p.1<hh.objs.size:=λp hp=>Bz (st.nw p hp).1;have Y:=RB (M:=c.M) X hC;refine AhI Y (by rw[hv.length,FN];exact Vc hz) (Up X hi) (λself=>bind_fn X self hf) ?_
 refine BL (st.addJ (st.fr.push (Cs vs 0)) (st.nw.push st.fr (Cs vs 0)) λp hp=>B6 (lt p hp)) ?_;rintro l1 s1 st1 x1 o1;have N2:=st1.nw.push st1.fr (Gv C hh.objs.size none);refine BL (st1.addJ (st1.fr.push (Gv C hh.objs.size none)) N2 λp hp=>B6 (Bz (st1.nw p hp).1)) ?_;rintro l2 s2 st2 x2 o2;have x12:=x1.trans x2;rw[P5]at o2;refine hI (c.under (.builtin "type.__call__" ⟨.ref C::vs,[]⟩)) rfl ok.newC m l2 hh.objs.size (hh.objs.size+1) vs _ _ ⟨st2.fr,st2.nw,st2.lr⟩ ⟨Hw _,_,none,o2,rfl⟩ (hv.mono x12) λl3 h3 tk3 s3 st3 x3 z3 => ?_;refine⟨rfl,hR l3 _ hh.objs.size h3 tk3 (s3.trans (s2.trans s1)) ⟨st3.fr,st3.nw,st3.lr⟩ ?_ lt z3⟩;exact((x12.weaken).trans x3).narrow λp hp q=>absurd (lt p hp.1) (DA.mpr q)
end
end
section
set_option maxHeartbeats 1000000
open Builtin
section
variable {prog:CC}{w:B5}{A:CD}{E:Ad->Aq->Prop}{s:Aq}{K:Bf}{x C:Af}{ox:AR}{od:Option AR}{name:Ac}{expr:Bool}{Q:Ad->Aq->Prop}{v:Ad}
theorem Ah6(X:K.In s.heap)(I:InstAt s.heap x ox C od)(hga:findIn K (.ref C) "__getattribute__" = some (some (.builtin "BaseException.__getattribute__")))(hgt:findIn K (.ref C) "__getattr__" = some none)
  (hb:BK (model prog w) s.heap (GV (.ref C) (.type "BaseException")) true) (hf:findObj K C od name=some (.value v)) (hh:handedIn v=true) (h:Q v { s with toks:=s.toks+1 }) :
  wpAny (model prog w) A (getAttr (.ref x) name expr) Q E s:=by
 rcases s with⟨hp,g,d,t,os⟩
 have L0:=I.type (M:=model prog w);have L1:=Up (M:=model prog w) X hga;have L2:=Up (M:=model prog w) X hgt;have ii:BK (model prog w) hp (Ka (.ref x) (.type "BaseException")) true:=L0.andThen hb;have hne:(onTheHeap (.ref C) && FJ "BaseException.__getattribute__" == FJ "object.__getattribute__")=false:=by
  rw[show(FJ "BaseException.__getattribute__" == FJ "object.__getattribute__")=false from by decide +kernel,Nl]
 unfold getAttr getAttrBy;refine Aj (Aax (Dg (Aj (L0.at (Aj (L1.at ?_))))));dsimp only;rw[hne,if_neg (by decide)]
 have hbk:BK (model prog w) hp (hookBefore (.ref C)) none:=L2;refine Aj (hbk.at (Aj (P7 (Dg ?_))));unfold AoB;rw[show(expr && onTheHeap (FJ "BaseException.__getattribute__"))=false from Nl _,if_neg (by decide)]
 unfold AoC;rw[AoX.ga.bind];refine Aj (AB ?_);show wpAny _ _ (call (.builtin "BaseException.__getattribute__") [.ref x,.str name t]) _ _ _;refine J9 ?_;refine T7 AoX.ga.plain F.entry_bexc_ga ?_;refine @AaX (model prog w) _ _ _ "BaseException.__getattribute__" "BaseException" "__getattribute__" (.ref x) [.str name t] [] _ (by decide +kernel) (by decide +kernel) ii (F.args_bexc_ga _ _) ?_
 unfold Builtin.«object.__getattribute__»;have L3:=looks_find (M:=model prog w) X I hf;refine Aj (AB (Aj (AB (Aj (L0.at (Aj (L3.at ?_)))))));refine AB ?_;show wpAny _ _ (handedOut v) _ _ _;rw[handedOut_of hh];exact AB h
end
end
section
set_option maxHeartbeats 1000000
open Builtin
section
variable {prog:CC}{w:B5}{A₀ A:CD}{s:Aq}{base h₀:AY}{outer:List Env}{L:Af}{m:Ac->Option Ad}{env:Env}{news:List (Af×AR)}{K:Bf}{p:CC}{loose:List Ac}{mean:ExcName->Option Ad}{mg mb:Ac->Option Ad}
theorem Ah7{qual:Ac}{params:PG}{dV kV doc pm cdv ct oc:Ad}{an od:Option Af}{osl:Array (Option Ad)}{f:Af}{args:Args}{binds:List (Ac×Ad)}
  (B:Below A₀ base outer h₀) (F:Fr h₀ L s.heap m) (X₀:K.In h₀) (N:CE h₀ L s.heap news) (T:Top p loose mean mg mb h₀) (hA:A.frames=some (env::outer)) (hf:env.frame=some L) (hke:env.scope.kind=.function)
  (ho:K.lookup f=some ⟨oc,od,.func (fnOf name qual params body scope dV kV doc pm an cdv ct),osl⟩) (hcd:codeIn K cdv qual=true) (hroom:A.depth<AoQ)
  (hbind:BindsTo s (fnOf name qual params body scope dV kV doc pm an cdv ct) args binds) (hkind:(binds.all λy=>scope.names.lookup y.1 == some .local || scope.names.lookup y.1 == some .cell)=true)
  (hnd:((FT 0 scope.names []).map (·.1)).Nodup)
  (h:∀g L' h₁ tk cells,Fr h₀ L g m->Fr g L' h₁ (bindL (envOfC qual scope L' f cdv).kindOf binds λz=>none)->CE g L' h₁ (cells++news) ->
   Ui (bindC (envOfC qual scope L' f cdv).kindOf binds λz=>none) (FT (L' + 1) scope.names []) cells->Below A base (env::outer) g->K.In g->Top p loose mean mg mb g->(∀p∈news,p.1<L') ->
   (∀v s',LeaveK h₀ L m g R v s'->R (.ok (.ret v)) s') ->
   wpAny (model prog w) (A.deeper (envOfC qual scope L' f cdv)) (execs body (envOfC qual scope L' f cdv))
    (λfl s'=>R (.ok (.ret (match fl with | .ret v=>v | _=>.none))) s')
    (λe s'=>wpAny (model prog w) (A.deeper (envOfC qual scope L' f cdv)) (leaving (envOfC qual scope L' f cdv) e) (λz s''=>R (.error e) s'') (λe' s''=>R (.error e') s'') s')
    (put s h₁ tk))
  (hco:scope.isCoroutine=false) (hgen:scope.isGenerator=false) (hk:scope.kind=.function):codeAny (model prog w) A (.call (.ref f) args) R s:=by
 refine Uu (groundX (R:=R) B F N hA hf hke) ?_;rintro FG BG st lv;refine codeAny_call_function hroom ((X₀.keeps F.keep) _ _ ho) rfl hco hgen rfl (codeRec_of (X₀.keeps F.keep) hcd) (hbind _ _ _ _ ?_);refine wpAny_newFunctionEnv_cells hk (kindsX hkind _) λenv' he s' x => ?_;subst he;refine⟨(T.nolimit.keeps F.keep).keeps x.toInCall.keep,codeAny_func ?_⟩;refine Ba x.done ?_;rintro h₁ tk rfl _;have hk₁:=x.toInCall.keep;refine Ah (Cl.news (h₀:=s.heap) (AK _) λn c hm=>⟨x.cell n c (PyProof.Rows.lookup_of_mem_nodup (PyProof.Rows.cellsFrom_names scope.names 0 (s.heap.objs.size+1) [] [] rfl▸hnd) hm),x.above n c hm⟩) ?_;rintro cells NC Y;refine Kb (h _ s.heap.objs.size h₁ tk cells FG ⟨x.toInCall.ns,λb o e=>hk₁ b o (AaU _ e),Lm (hideAll_size _ _)⟩ (λp hp => ?_) Y BG (X₀.keeps st) (T.keeps st) (λp hp=>Bz (N p hp).1) lv) (λfl s' hl=>hl) λz z y=>y;rcases BF.mp hp with hp | hp
 ·refine⟨(NC p hp).1,(NC p hp).2.1,?_⟩;rcases q:(hideAll s.heap (news.map (·.1))).get? p.1 with _ | o
  ·exact q
  ·have:=AaU _ q;rw[(NC p hp).2.2]at this;(exfalso;injection this)
 ·exact⟨hk₁ _ _ (N p hp).1,B6 (Bz (N p hp).1),hideAll_none _ (Dl hp)⟩
end
structure JF(K:Bf)(C:Af):Prop where
 ga:findIn K (.ref C) "__getattribute__" = some (some (.builtin "BaseException.__getattribute__"))
 gt:findIn K (.ref C) "__getattr__" = some none
 sub:subIn K (.ref C) (.type "BaseException")=some true
 own:subIn K (.ref C) (.ref C)=some true
 typ:typeIn K (.ref C)=some (.type "type")
 dict:PH K C=true
section
variable {M:J7}{h:AY}{K:Bf}{C a:Af}{oe:AR}
theorem Ah8(X:K.In h)(Y:JF K C)(he:h.get? a=some oe)(hc:oe.cls=.ref C):BK M h (excMatches (.ref a) (.ref C)) true:=by
 have nt:GV (.type "type") (.type "tuple")=pure false:=tc_notTuple;have t0:BK M h (typeOf (.ref C)) (.type "type"):=looks_typeIn X Y.typ;have i0:BK M h (Ka (.ref C) (.type "tuple")) false:=t0.andThen (by rw[nt];exact .now)
 have i1:BK M h (PySem.isType (.ref C)) true:=by
  obtain⟨cd,hcd⟩:∃cd,clsIn K C=some cd:=by
   have:=Y.dict;unfold PH at this;refine Ah (Uo this) ?_;rintro cd h1 _;exact⟨cd,h1⟩
  unfold clsIn at hcd;rcases ho:K.lookup C with _ | ⟨oc,od,dt,sl⟩
  ·rw[ho]at hcd;exact(Aw hcd).elim
  ·rw[ho]at hcd;rcases dt with⟨⟩
   case cls=>exact(LA (part:=none) (X _ _ ho)).andThen .now
   all_goals exact(Aw hcd).elim
 have i2:BK M h (AaO (.ref C)) true:=by
  unfold AaO;refine i1.andThen ?_;rw[if_pos rfl];exact AaZ X Y.sub
 have t1:BK M h (typeOf (.ref a)) (.ref C):=hc▸(LA he).andThen .now;have s1:BK M h (GV (.ref C) (.ref C)) true:=AaZ X Y.own;intro A Q E s k q;unfold excMatches;refine Aj (i0 A _ E s k ?_);dsimp only;rw[if_neg Cw];refine Aj (AB ?_);simp only[Ud,List.forIn_nil];refine Aj (Aj (Aj (i2 A _ E s k ?_)));rw[if_neg (by decide)]
 refine AB (AB ?_);refine Aj (t1 A _ E s k ?_);refine Aj (Aj (Aj (s1 A _ E s k ?_)));rw[if_pos rfl];exact AB (AB (AB q))
end
noncomputable def Mq(n:Ac)(as:List (Ac×CV))(e:Expr):CM CV:=match ob (E2 e) λq=>ob (B7 q.1) λw=>if w.1=n then as.lookup q.2.1 else none with
 | some v=>ret v
 | none=>Ar
section
variable {c:FC}{FX:Bh}{m:Ac->Option Ad}{l l':Am}{env:Env}{n:Ac}{a dx C:Af}{oe:AR}{es:List Ec}{k:Nat}{as:List (Ac×CV)}
theorem Ah9(hk:env.scope.kind=.function)(hl:env.kindOf n=some .local)(hloc:env.locals=c.L)(hgn:C7 n=true)(hm:m n=some (.ref a))(X:c.K.In c.h₀)(Y:JF c.K C)
  (hatt:∀x v,as.lookup x=some v->findIn c.K (.ref C) x=some none) (ho:AQ l (a,oe)) (hoc:oe.cls=.ref C) (hno:notCls oe=true) (hd:oe.dict=some dx) (hdx:AQ l (dx,dictOf es k)) (r:Di l es as) :
  Bu c FX m env l (Mq n as):=by
 intro e l' x;unfold Mq;rcases ha:(ob (E2 e) λq=>ob (B7 q.1) λw=>if w.1=n then as.lookup q.2.1 else none)with _ | v
 ·exact Aa.stuck
 refine AN ha λq hq h2=>AN h2 λw hw h3 => ?_
 by_cases hn:w.1=n
 ·have hv:as.lookup q.2.1=some v:=(if_pos hn).symm.trans h3;obtain rfl:=LL hq;clear h2 h3 ha hq;rw[Fp hw,hn];rcases q with⟨_,y,pos⟩
  rcases w with⟨_,p⟩
  clear hw hn;show Aa c FX m l' (eval (.Attribute (.Name n p) y pos) env) (ret v) VR;rw[An6,QU rfl];refine Aa.of_eq (f':=bnd (ret ()) λz=>bnd (ret v) ret) (Aa.bind (V:=λz w z=>w=.ref a) ?_ λw u l1 e1 x1 hw => ?_) rfl
  ·intro s Q E st ok _ _;simp only[C7,A9,EY]at hgn;exact Ls (PW hk hl (hloc▸st.fr.ns) hm (ok () l' (.ref a) s.heap s.toks rfl st (Ap.refl l') rfl)) hgn.1
  ·subst hw;refine Aa.stand _ (Aa.bind (Aa.hold _ (Aa.ofRet λs Q E q st => ?_)) λr b l2 z e2 hr=>Aa.letGo hr);have ho1:=x1.all (x.all ho);have hd1:=x1.all (x.all hdx);have r1:=(r.mono x).mono x1;have Xs:=X.keeps st.fr.keep;have I:W.InstAt s.heap a oe C (some (dictOf es k)):=⟨(st.nw _ ho1.1).1,hoc,hno,by rw[hd];exact(st.nw _ hd1.1).1⟩
   rcases r1.get y with⟨v',w,e1,hw,hr⟩ | ⟨e1,_⟩
   ·have e2:some v'=some v:=e1.symm.trans hv;injection e2 with za;subst za
    exact Ah6 Xs I Y.ga Y.gt (AaZ Xs Y.sub) (findObj_own Y.dict (hatt y _ hv) rfl hw) hr.handed (q w _ hr)
   ·exact(Aw (e1.symm.trans hv)).elim
 ·exact(Aw ((if_neg hn).symm.trans h3)).elim
end
end
section
set_option maxHeartbeats 1000000
open Builtin
noncomputable def JG:Lp->Option Expr×Option Ac×List AL×Pos
 | .ExceptHandler t n b p=>(t,n,b,p)
theorem Aia(h:Lp):h=.ExceptHandler (JG h).1 (JG h).2.1 (JG h).2.2.1 (JG h).2.2.2:=by
 rcases h with⟨_,_,_,_⟩
 rfl
noncomputable def W4(l:List AL):Option Expr:=ob (Fs l) λs=>ob (N8 s) λe=>some e.1
theorem Aib{l:List AL}(h:W4 l=some e):∃p,l=[.Expr e p]:=by
 refine AN h λs e1 h=>AN h λc e2 h => ?_;obtain rfl:=Ay h;rw[Jk e1,Vo e2];exact⟨_,rfl⟩
noncomputable def W5(l:List AL):Option (List Expr):=ob (Fs l) λs=>ob (QD s) λv=>ob v.1 λv=>ob (Fq v) λes=>some es.1
theorem Aic{l:List AL}(h:W5 l=some es):∃n p q,l=[.Return (some (.Tuple es n p)) q]:=by
 refine AN h λs e1 h=>AN h λv e2 h=>AN h λw e3 h=>AN h λes' e4 h => ?_;obtain rfl:=Ay h;rw[Jk e1,AeB e2,e3,LM e4];exact⟨_,_,_,rfl⟩
noncomputable def W6(l:List Lp):Option (Ac×Ac×List Expr):=ob (Fs l) λh=>ob (JG h).1 λty=>ob (B7 ty) λxn=>ob (JG h).2.1 λn=>ob (W5 (JG h).2.2.1) λes=>some (xn.1,n,es)
theorem Aid{l:List Lp}{q:Ac×Ac×List Expr}(h:W6 l=some q):∃p2 nn p3 p4 p5,l=[.ExceptHandler (some (.Name q.1 p2)) (some q.2.1) [.Return (some (.Tuple q.2.2 nn p3)) p4] p5]:=by
 refine AN h λhd e5 h=>AN h λty e6 h=>AN h λx e7 h=>AN h λm e8 h=>AN h λs2 e9 h => ?_;obtain rfl:=Ay h;refine Q31 (Aic e9) ?_;rintro n p q e10;have k:=Aia hd;rw[e6,e8,e10,Fp e7]at k;rw[Jk e5,k];exact⟨_,_,_,_,_,rfl⟩
noncomputable def KU(b:List AL):Option (Expr×Ac×Ac×List Expr×List AL) :=
 ob (QG b) λr=>ob (QE r.1) λt=>ob (W4 t.1) λce=>ob (W6 t.2.1) λh=>ob (LO t.2.2.1) λz=>ob (LO t.2.2.2.1) λz=>some (ce,h.1,h.2.1,h.2.2,r.2)
theorem Aie{b:List AL}{q:Expr×Ac×Ac×List Expr×List AL}(h:KU b=some q) :
  ∃p1 p2 nn p3 p4 p5 p6,b=.Try [.Expr q.1 p1] [.ExceptHandler (some (.Name q.2.1 p2)) (some q.2.2.1) [.Return (some (.Tuple q.2.2.2.1 nn p3)) p4] p5] [] [] p6::q.2.2.2.2:=by
 refine AN h λr e1 h=>AN h λt e2 h=>AN h λc e3 h=>AN h λq e4 h=>AN h λz e5 h=>AN h λz e6 h => ?_;obtain rfl:=Ay h;clear h;refine AI (Aib e3) ?_;rintro p1 e3;refine UA (Aid e4) ?_;rintro p2 nn p3 p4 p5 e4;have k:=AeC e2;rw[e3,e4,Oa e5,Oa e6]at k;exact⟨p1,p2,nn,p3,p4,p5,_,(Vp e1).trans (congrArg (·::r.2) k)⟩
theorem Aif{b:List AL}{ce:Expr}{n:Ac}{rest:List AL}(h:KU b=some (ce,xn,n,es,rest)) :
  ∃p1 p2 nn p3 p4 p5 p6,b=.Try [.Expr ce p1] [.ExceptHandler (some (.Name xn p2)) (some n) [.Return (some (.Tuple es nn p3)) p4] p5] [] [] p6::rest:=Aie h
noncomputable def OF(Γ:AM)(xn:Ac)(C:Af):Bool:=match Γ.top.lookup xn with
 | some (.ref C')=>C' == C
 | _=>false
set_option tactic.hygienic true in
theorem Aig(h:OF Γ xn C=true):Γ.top.lookup xn=some (.ref C):=by
 unfold OF at h
 split at h
 ·rename_i C' e;rw[e,beq_iff_eq.mp h]
 ·exfalso;injection h
noncomputable def JH(Γ:AM)(xn n:Ac)(es:List Expr)(x:CX):CM CV:=if OF Γ xn x.cls=true/\Γ.excs.lookup x.cls=some (x.as.map (·.1))then bnd (Bx (Mq n x.as) es) EK else Ar
set_option tactic.hygienic true in
noncomputable def IC(Γ:AM)(N:Nat)(D:C0)(vs:List CV):CM CV:=match KU D.body with
 | some (ce,xn,n,es,rest)=>if HN D=true/\(D.params.args.map (·.arg)).length=vs.length/\KN ce=true/\EP D.scope.names xn=true/\C7 n=true/\D.scope.names.lookup n=some .local then λσ =>
   match (Bp Γ N).1 D.scope.names ((D.params.args.map (·.arg)).zip vs) ce σ with
   | .ok _ σ1=>bnd (GD Γ (Bp Γ N).1 (Bp Γ N).2 D.scope.names N rest ((D.params.args.map (·.arg)).zip vs)) (λp=>match p.1 with
    | .next=>ret .none
    | .ret v=>ret v) σ1
   | .exc x σ1=>JH Γ xn n es x σ1
   | .stuck=>.stuck
  else Ar
 | none=>Ar
theorem Aih{h:AY}{L:Af}{m:Ac->Option Ad}(hn:h.Ns L m)(u:h.UpToSlots h'):h'.Ns L m:=by
 refine CG hn ?_;clear hn;rintro o es ep ho hd r;refine AI (u L o ho λvs q=>by rw[hd]at q;(exfalso;injection q)) ?_;rintro sl hs
 exact⟨_,es,ep,hs,hd,r⟩
theorem KV{a:α}{R:Prop}(h:none=some a):R:=by(exfalso;injection h)
theorem RD{vs:Array Ad}{es:Array Ec}{ep:Nat}{R:Prop}(h:Data.dict es ep=.fields vs):R:=by(exfalso;injection h)
theorem W7{prog:CC}{a:Af}(R:LR prog w l)(n:∀p∈l.Φ,p.1≠a):∃l',l'.Φ=(a,o)::l.Φ/\l'.σ=l.σ/\Ap No l l'/\LR prog w l'/\AQ l' (a,o) :=
 have nd:(([(a,o)]++l.Φ).map (·.1)).Nodup:=Dm.mpr ⟨λq=>(BB.mp q).elim λp hp=>n p hp.1 hp.2,R.nd⟩
 ⟨{ l with Φ:=[(a,o)]++l.Φ },rfl,rfl,Ap.junk (N:=[(a,o)]) rfl,R.junk rfl nd,R.junk_oth rfl nd (.head _)⟩
theorem Aii{A:CD}{m mm:Ac->Option Ad}{B gg h3 h4:AY}{a:Af}{vs:Array Ad}{n:Ac}
  (F0:Fr c.h₀ c.L c1.h₀ m) (b1:c.h₀.StaysIn B) (b2:CE c1.h₀ c1.L B l1.Φ) (b4:B.get? a=none) (b8:LR c1.prog c1.w l1) (b11:Fr c1.h₀ c1.L gg mm) (up3:gg.UpToSlots h3) (z1:B.StaysIn h3)
  (he3:h3.get? a=some oe) (hd3:oe.data=.fields vs) (nsL':h3.Ns c1.L mm) (hn4:h4.Ns c1.L λx=>if x=n then some (.ref a)else mm x) (hs4:T5 c1.L h3 h4) :
  ∃(l2:Am) (oL:AR) (es:Array Ec) (ep:Nat),l2.σ=l1.σ/\Ap No l1 l2/\AQ l2 (a,oe)/\AQ l2 (c.L,oL)/\oL.data=.dict es ep/\(StrKeys es/\∀name,nsFind es name=m name)/\St { c1 with A:=A,h₀:=c.h₀ } (λy=>if y=n then some (.ref a)else mm y) l2 h4:=by
 refine CG F0.ns ?_;rintro oL0 esL epL hL0 hLd hLr;refine AI (up3 c.L oL0 (b11.keep _ _ hL0) λvs q=>RD (hLd.symm.trans q)) ?_;rintro sl hL3;have hLne:c.L≠c1.L:=λq=>KV ((Ul b11).symm.trans (q▸hL0));have haL:a≠c.L:=λq=>by
  rw[q,hL3]at he3;rw[<- Ay he3]at hd3;exact RD (hLd.symm.trans hd3)
 have haL':a≠c1.L:=λq=>by
  refine CG nsL' ?_;clear nsL';rintro o es0 ep0 ho0 hd0 _;rw[<- q,he3]at ho0;rw[<- Ay ho0]at hd0;exact RD (hd0.symm.trans hd3)
 have h0:∀b,B.get? b=none->c.h₀.get? b=none:=λb q=>by
  rcases z:c.h₀.get? b with _ | o
  ·rfl
  ·exact KV (q.symm.trans (b1 _ o z))
 have h0B:∀b,c1.h₀.get? b=none->c.h₀.get? b=none:=λb q=>by
  rcases z:c.h₀.get? b with _ | o
  ·rfl
  ·exact KV (q.symm.trans (F0.keep _ o z))
 have st4:c.h₀.StaysIn h4:=λb o q=>(hs4.2 b λz=>KV ((Ul b11).symm.trans (z▸F0.keep b o q))).trans (z1 b o (b1 b o q));refine Ig (W7 (a:=c.L) (o:={ oL0 with slots:=sl }) b8 λp hp q=>KV ((b2 p hp).2.2.symm.trans (q▸hL0))) ?_;rintro l2 p2 s2 x2 r2 o2
 refine Ig (W7 (a:=a) (o:=oe) r2 λp hp q=>by
  rw[p2]at hp;rcases AS.mp hp with rfl | hp
  ·exact haL q.symm
  ·exact KV (b4.symm.trans (q▸(b2 p hp).1))) ?_;rintro l3 p3 s3 x3 r3 o3
 refine⟨l3,_,_,_,s3.trans s2,x2.trans x3,o3,x3.all o2,hLd,hLr,⟨hn4,st4,AC F0.above (Dz (EX F0.ns.lt b11.above))⟩,λq hq => ?_,r3⟩;rw[p3,p2]at hq;rcases AS.mp hq with rfl | hq
 ·exact⟨(hs4.2 _ haL').trans he3,haL',h0 a b4⟩
 rcases AS.mp hq with rfl | hq
 ·exact⟨(hs4.2 _ hLne).trans hL3,hLne,Ul F0⟩
 ·refine CZ (b2 q hq) ?_;rintro w1 w2 w3;exact⟨(hs4.2 _ w2).trans (z1 _ _ w1),w2,h0B _ w3⟩
theorem Aij{A:CD}{m mm:Ac->Option Ad}{l3:Am}{h1 h6:AY}{oL:AR}{es:Array Ec}{ep:Nat}(F0:Fr c.h₀ c.L h1 m)(hp:c1.prog=c.prog)(hw:c1.w=c.w)
  (st:St { c1 with A:=A,h₀:=c.h₀ } mm l3 h6) (hLd:oL.data=.dict es ep) (hLr:StrKeys es/\∀name,nsFind es name=m name) (oo:AQ l3 (c.L,oL)) (hnL:∀q,AQ l q->q.1≠c.L) (xx:Ap No l l3) :
  ∃l4:Am,l4.σ=l3.σ/\St c m l4 h6/\Ap No l l4/\Ap (·=c.L) l3 l4:=by
 refine BL (st.dropOth' oo (λvs q e=>by(have z0:_=_:=hLd.symm.trans (congrArg Obj.data e);exfalso;injection z0)) (λb o x e=>e:P9 c.L h6 h6)) ?_;rintro l4 hnx e4 st8 x8
 refine⟨l4,e4,⟨⟨⟨_,es,ep,(st.nw _ oo.1).1,hLd,hLr⟩,st8.fr.keep,F0.above⟩,λq hq=>⟨(st8.nw q hq).1,hnx q hq,(st8.nw q hq).2.2⟩,?_⟩,(xx.weaken.trans x8).narrow λq hq z=>hnL q hq z,x8⟩;have:=st8.lr;rw[<- hp,<- hw];exact this
theorem RE{M:J7}{A:CD}{t:Sem α}{Q:α->Aq->Prop}(h:wpAny M A t Q (λz z=>False) s):wpAny M A t Q E s :=
 Kb h (λz z q=>q) λz z q=>q.elim
theorem Aik{A:CD}{h:AY}{a:Af}{p2:Pos}
  (T:Lr c.p c.loose c.mg c.mb h) (kin:c.K.In h) (hv:c.mg xn=some (.ref C)) (eo:Ce c1 c1.fenv) (Y:JF c.K C) (hg:EP c1.fenv.scope.names xn=true) (st:h.StaysIn s.heap)
  (he:s.heap.get? a=some oe) (hcls:oe.cls=.ref C) (hq:R (.ok .brk) s) :
  codeAny (model c1.prog c1.w) A (.handlers (.ref a) [.ExceptHandler (some (.Name xn p2)) none [] p5] c1.fenv) R s:=by
 simp only[EP,C7,A9,beq_iff_eq,EY]at hg;exact codeAny_handlers_test (Lu eo.kind hg.2 (PX (by rw[eo.globals];exact T.g.keeps st) hv (Ah8 (kin.keeps st) Y he hcls _ _ _ _ (λz z q=>q) hq)) hg.1.1)
theorem Ail{A:CD}{m mm:Ac->Option Ad}{x:CX}{a:Af}{n:Ac}{nn:Nat}{B gg:AY}{t dx:Af}{es':List Ec}{k:Nat}
  (hK:c1.K.In c.h₀) (Y:JF c1.K x.cls) (hatt:∀y v,x.as.lookup y=some v->findIn c1.K (.ref x.cls) y=some none) (F0:Fr c.h₀ c.L c1.h₀ m) (eo:Ce c1 c1.fenv) (hloc:c1.fenv.locals=c1.L) (hgn:C7 n=true) (hl:c1.fenv.kindOf n=some .local)
  (b1:c.h₀.StaysIn B) (b2:CE c1.h₀ c1.L B l1.Φ) (b4:B.get? a=none) (b8:LR c1.prog c1.w l1) (b9:AQ l1 (dx,dictOf es' k)) (b10:Di l1 es' x.as) (b11:Fr c1.h₀ c1.L gg mm) (up:gg.UpToSlots s.heap)
  (y1:B.StaysIn s.heap) (y2:s.heap.FunFrames B (c1.fenv::c1.outer)) (y3:Hi s.heap B a (.ref x.cls) t dx v)
  (ns:bnd (Bx (Mq n x.as) es) EK l1.σ≠.stuck)
  (hq:∀l2 oL esL epL b l3 v h5 tk5 mm',Ap No l1 l2->AQ l2 (c.L,oL)->oL.data=.dict esL epL->(StrKeys esL/\∀name,nsFind esL name=m name)->bnd (Bx (Mq n x.as) es) EK l1.σ=.ok b l3.σ->St { c1 with A:=A,h₀:=c.h₀ } mm' l3 h5->Ap No l2 l3->VR l3 v b->R (.ok (.ret v)) (put s h5 tk5)) :
  codeAny (model c1.prog c1.w) A (.handlers (.ref a) [.ExceptHandler none (some n) [.Return (some (.Tuple es nn p3)) p4] p5] c1.fenv) R s:=by
 refine codeAny_handlers_suite_as (RE (OD (fl':=none) y1 y2 y3 λh3 z1 z2 z3 z4 => ?_));have up3:=up.trans z4;have nsL':h3.Ns c1.L mm:=Aih b11.ns up3;refine RE (AaD (s:=put s h3 s.toks) hl (hloc▸nsL') (λh4 hn4 hs4=>RE ?_) (by rw[eo.kind];rfl))
 rw[hloc]at hn4 hs4;refine Qj z3 ?_;clear z3;rintro oe3 vs3 _ _ _ he3 hcls3 hdc3 hd3 _;refine Q47 (Aii (A:=A) F0 b1 b2 b4 b8 b11 up3 z1 he3 hd3 nsL' hn4 hs4) ?_;rintro l2 oL esL epL s2 x2 oa oL2 hLd hLr st5;clear b1 b2 b4 b8 b11 up3 up z1 z2 z4 he3 nsL' hn4 hs4 y1 y2 y3;have hno:notCls oe3=true:=by
  rcases oe3 with⟨_,_,dt,_⟩
  dsimp only at hd3;subst hd3;rfl
 rw[<- s2]at ns hq;have es0:=Ah9 (c:={ c1 with A:=A,h₀:=c.h₀ }) (FX:=λz z z z=>False) (m:=λy=>if y=n then some (.ref a)else mm y) (l:=l2) (C:=x.cls) eo.kind hl hloc hgn (if_pos rfl) hK Y hatt oa hcls3 hno hdc3 (x2.all b9) (b10.mono x2)
 clear hatt oa hcls3 hno hdc3 b9 b10 hd3 Y;exact Kg (AoN (VV es0 _ _ _ st5 (λb l3 v h5 tk5 e5 st6 x6 hv=>hq _ _ _ _ b l3 v h5 tk5 _ x2 oL2 hLd hLr e5 st6 x6 hv) (λz z z z z z z hf=>hf.elim) ns))
theorem Aim{M:J7}{A:CD}{e:Ad}{t:Expr}{n:Ac}{Q:Fo->Aq->Prop}
  (h1:∀R:GO->Aq->Prop,R (.ok .brk) s->codeAny M (A.mark (some e)) (.handlers e [.ExceptHandler (some t) none [] pos] env) R s)
  (h2:∀R:GO->Aq->Prop,(∀f s2,wpAny M A (do bindName env n .none;unbindBehindTheSuite env n pos) (λz s₃=>Q f s₃) E s2->R (.ok f) s2)->codeAny M (A.mark (some e)) (.handlers e [.ExceptHandler none (some n) body pos] env) R s) (hnb:e≠byPass) :
  wpAny M A (handleBy e env [.ExceptHandler (some t) (some n) body pos]) Q E s :=
 wpAny_handleBy_cons (h1 _ (h2 _ λz z q=>q)) hnb
theorem Ain{d':Nat}{m:Ac->Option Ad}{x:CX}{e:Ad}{Q:Fo->Aq->Prop}{n:Ac}{nn:Nat}{p2:Pos}
  (ok:AJ c d) (g:Bn c.K Γ) (ok':AJ c1 d') (hcc:c1.prog=c.prog/\c1.w=c.w/\c1.base=c.h₀/\c1.K=c.K) (F0:Fr c.h₀ c.L c1.h₀ m) (eo:Ce c1 c1.fenv) (hloc:c1.fenv.locals=c1.L)
  (hY:∀C names,Γ.excs.lookup C=some names->JF c.K C/\∀y∈names,findIn c.K (.ref C) y=some none)
  (hg:EP c1.fenv.scope.names xn=true) (hgn:C7 n=true) (hl:c1.fenv.kindOf n=some .local) (xx:Ap No l l1) (hnL:∀q,AQ l q->q.1≠c.L) (hfx:DO c1 l1 x e s.heap) (ns:JH Γ xn n es x l1.σ≠.stuck)
  (okk:∀b l' v h' tk,JH Γ xn n es x l1.σ=.ok b l'.σ->St c m l' h'->Ap No l l'->VR l' v b->Q (.ret v) (put s h' tk)) :
  wpAny (model c1.prog c1.w) c1.A (Jf e c1.fenv) (λz s₂=>wpAny (model c1.prog c1.w) c1.A (Ug e none) (λz s₃ =>
   wpAny (model c1.prog c1.w) c1.A (handleBy e c1.fenv [.ExceptHandler (some (.Name xn p2)) (some n) [.Return (some (.Tuple es nn p3)) p4] p5]) Q E s₃) E s₂) E s:=by
 refine Uu hcc ?_;clear hcc;rintro hp hw hb hK;unfold JH at ns okk
 by_cases hx:OF Γ xn x.cls=true/\Γ.excs.lookup x.cls=some (x.as.map (·.1))
 case neg=>rw[if_neg hx]at ns;exact absurd rfl ns
 rw[if_pos hx]at ns okk;refine At (hY _ _ hx.2) ?_;rintro Y hatt;refine DO.note ok' hfx ok'.frame λa t dx B es' k gg mm h' ea b1 b2 b3 b4 b5 b6 b8 b9 b10 b11 b12 => ?_;subst ea;rw[hb]at b1;refine AE (g.top xn _ (Aig hx.1)) ?_;rintro v0 hv0 rfl hkp;clear hkp hx;refine OD (s:=put s h' s.toks) (fl':=none) b3 b5 b6 λh2 y1 y2 y3 y4 => ?_;clear b3 b5 b6;have st2:c.h₀.StaysIn h2:=λb o q=>y1 b o (b1 b o q);have up2:=b12.trans y4;clear y4 b12;refine NW (id y3) ?_;rintro oe _ _ _ _ he hcls _;refine Aim (s:=put s h2 s.toks) (λR q=>Aik (Ic ok.top) ok.kin (mg_of ok.kin (Ic ok.top).g hv0) eo Y hg st2 he hcls q) (λR hR => ?_) (by intro q;(exfalso;injection q))
 clear st2 he hcls;refine Ail (c:=c) (by rw[hK];exact ok.kin) (by rw[hK];exact Y) (λy v q=>by rw[hK];exact hatt y (BB.mpr ⟨_,F9 q,rfl⟩)) F0 eo hloc hgn hl b1 b2 b4 b8 b9 b10 b11 up2 y1 y2 y3 ns λl2 oL esL epL b l3 v h5 tk5 mm' x2 oL2 hLd hLr e5 st6 x6 hv=>hR _ _ ?_
 clear b1 b2 b4 b8 b9 b10 b11 up2 y1 y2 y3;refine wpAny_nameGoes (s:=put s h5 tk5) hl (hloc▸st6.fr.ns) (by rw[eo.kind];rfl) λh6 m6 hn6 hs6 => ?_
 rw[hloc]at hn6 hs6;refine BL (Aij F0 hp hw (⟨st6.fr.set hn6 hs6,st6.nw.set hs6,st6.lr⟩:St _ m6 l3 h6) hLd hLr (x6.all oL2) hnL ((xx.trans x2).trans x6)) ?_;rintro l4 e4 st8 x4 x8;exact okk b l4 v h6 _ (by rw[e4];exact e5) st8 x4 (hv.mono x8)
end
section
set_option maxHeartbeats 1000000
set_option tactic.hygienic true in
theorem Aio{f:Af}{D:C0}(gk:Jy Γ){d N:Nat}(h3:2<=d)(fn:KB DO Γ d)(g:Bn c.K Γ)(ok:AJ c (d+2))(hbase:c.base=c.h₀)(hDin:Jn c.K f D)
  (hY:∀C names,Γ.excs.lookup C=some names->JF c.K C/\∀y∈names,findIn c.K (.ref C) y=some none):L4 c (DO c) f (IC Γ N D):=by
 have fx:=Rz;rcases hDin with⟨oc,od,osl,kV,doc,pm,an,cdv,ct,hK,hcd⟩
 intro m l vs cs s R hv st okk exc ns;unfold IC at okk exc ns;cases hsh:KU D.body with
 | none=>rw[hsh]at ns;exact absurd rfl ns
 | some sh =>
 rcases sh with⟨ce,xn,n,es,rest⟩
 refine UD (Aif hsh) ?_;rintro p1 p2 nn p3 p4 p5 p6 hbody;rw[hsh]at okk exc ns;dsimp only at okk exc ns
 by_cases hg:HN D=true/\(D.params.args.map (·.arg)).length=cs.length/\KN ce=true/\EP D.scope.names xn=true/\C7 n=true/\D.scope.names.lookup n=some .local
 ·rw[if_pos hg]at okk exc ns;refine Q06 hg ?_;clear hg;rintro hgood hlen hnc hxn hgn hln;have G:=WH hgood;have hlen':(D.params.args.map (·.arg)).length=vs.length:=hlen.trans hv.length.symm;refine Ah7 (binds:=(D.params.args.map (·.arg)).zip vs) ok.below st.fr ok.kin st.nw ok.top ok.frames ok.frame ok.kind hK hcd (WJ ok) (Rw G.hp rfl hlen') (G.binds vs) G.hnd ?_ G.hco G.hgen G.hk;intro g1 L' h₁ tk cells F0 F1 N1 CA B1 K1 T1 hlt lv;have En:=WI G ok st hv hlen' F1 N1 CA B1 K1 T1 hlt;clear F1 N1 CA B1 K1 T1 hlt hv;rcases En with⟨ok',fe,st1,er,cr,all⟩
  have eo:=fe.eo;have ha:JC (c.callee g1 L' (envOfC D.qual D.scope L' f cdv)) (DO (c.callee g1 L' (envOfC D.qual D.scope L' f cdv))) (Bp Γ N).1 (Bp Γ N).2 :=
   ⟨λenv m l loc eo er=>(KK gk ok' g (fn.here _) N env l loc eo er).1,λenv m l loc eo er=>(KK gk ok' g (fn.here _) N env l loc eo er).2⟩
  have lvv:∀v l' m' h' tk',St (c.callee g1 L' (envOfC D.qual D.scope L' f cdv)) m' l' h'->(St c m l' h'->R (.ok (.ret v)) (put s h' tk'))->R (.ok (.ret v)) (put s h' tk'):=λv l' m' h' tk' st' k =>
   lv v (put s h' tk') ⟨L',m',l'.Φ,st'.fr,st'.nw,λFF NN=>k ⟨FF,NN,st'.lr⟩⟩
  rw[hbody];have e0:(Bp Γ N).1 D.scope.names ((D.params.args.map (·.arg)).zip cs) ce l.σ≠.stuck:=λq=>ns (by rw[q])
  refine Kg (wpAny_Try_except (Kg ?_));refine Wz (FX:=DO (c.callee g1 L' (envOfC D.qual D.scope L' f cdv))) (f:=(Bp Γ N).1) (e:=ce) (pos:=p1) fe (λm l loc er=>ha.ev _ m l loc eo er) _ _ _ st1 er cr (λfl loc' l' m' fl' h' tk' e st' x er' cr' v => ?_) (λx l' e h' tk' hx xx hfx => ?_) ?_
  ·rw[if_pos hnc]at e;refine Ba (Rq e) ?_;rintro b σ1 e1 e2;have e1:(Bp Γ N).1 D.scope.names ((D.params.args.map (·.arg)).zip cs) ce l.σ=.ok b σ1:=e1;have e2':(B2.ok (Bk.next,(D.params.args.map (·.arg)).zip cs) σ1:B2 (Bk×Ao))=.ok (fl,loc') l'.σ:=e2
   injection e2' with q1 q2
   refine At (DV q1) ?_;rintro rfl rfl;subst q2;have v':fl'=.next:=v
   subst v';rw[e1]at okk exc ns;dsimp only at okk exc ns;refine NO (NO ?_);refine Ru (fx.own _ _ ok') fe ok' (ok'.weaken (Vb h3)) g ha N rest _ _ _ _ _ _ st' er' cr' (λfl loc2 l2 m2 fl2 h2 tk2 e st2 x2 er2 cr2 v2 => ?_) (λy l2 e2 h2 tk2 hx2 xx2 hfx2 => ?_) λq=>ns (Dd q)
   ·have e':GD Γ (Bp Γ N).1 (Bp Γ N).2 D.scope.names N rest ((D.params.args.map (·.arg)).zip cs) l'.σ=.ok (fl,loc2) l2.σ:=e;rw[CL e']at okk;rcases fl with _ | cv
    ·have v':fl2=.next:=v2
     subst v';exact lvv .none l2 m2 h2 tk2 st2 λS=>okk .none l2 .none h2 tk2 rfl S (all l2 (x.trans x2)) .none
    ·refine Ah v2 ?_;clear v2;rintro w rfl hw;exact lvv w l2 m2 h2 tk2 st2 λS=>okk cv l2 w h2 tk2 rfl S (all l2 (x.trans x2)) hw
   ·exact fx.leave c (d+1) m g1 L' _ l l2 y e2 _ _ _ (ok.weaken (Va)) ok' F0 rfl G.hk hfx2 λh3 hfx3=>exc y l2 e2 h3 tk2 (DD hx2) (all l2 (x.trans xx2)) hfx3
  ·rw[if_pos hnc]at hx;have hx1:(Bp Γ N).1 D.scope.names ((D.params.args.map (·.arg)).zip cs) ce l.σ=.exc x l'.σ:=by
    rcases Rr hx with q | ⟨_,_,_,q2⟩
    ·exact q
    ·exfalso;injection q2
   rw[hx1]at okk exc ns;dsimp only at okk exc ns;refine Ain (l:=l) (c:=c) (c1:=c.callee g1 L' (envOfC D.qual D.scope L' f cdv)) ok g ok' ⟨rfl,rfl,hbase,rfl⟩ F0 eo rfl hY hxn hgn hln (all l' xx) (λq hq=>(st.nw q hq.1).2.1) hfx ns λb l2 v h2 tk2 e2 S2 x2 v2 => ?_;exact okk b l2 v h2 tk2 e2 S2 x2 v2
  ·rw[if_pos hnc];intro q;rcases Rs q with q | ⟨_,_,_,q2⟩
   ·exact e0 q
   ·exfalso;injection q2
 ·rw[if_neg hg]at ns;exact absurd rfl ns
end
section
set_option maxHeartbeats 0
noncomputable def BA:DefRec×List (Ac×Expr):=(defOf qv (Ab "law")).get (by kernel_rfl)
theorem Aip:defOf qv (Ab "law")=some BA:=(Aa0 _).symm
theorem W8:BA.2=[]:=by kernel_rfl
theorem Aiq:pw.theDef (Ab "law")=some (BA.1.params,BA.1.body,BA.1.scope):=by kernel_rfl
theorem Air:kwWritten? BA.1.params.kwonlyargs BA.1.params.kw_defaults=some []:=by kernel_rfl
end
theorem Ais:∀(x:Nat) (o:AR) (r:List AR) (a:Af) (as:List Af),G3 (o::r) x (a::as)=match x.beq a with | true=>(match alive o with | some o'=>(a,o')::G3 r (x+1) as | none=>G3 r (x+1) as) | false=>G3 r (x+1) (a::as):=by intros;rfl
theorem Ait:∀(l:List AR) (n:Nat) (as:List Nat),((a,o):Nat×AR)∈G3 l n as->n<=a/\∃x,l[a-n]? = some x/\alive x=some o:=by
 intro z1
 induction z1 with
 | nil =>
  intro n as h;exact absurd (show((a,o):Nat×AR)∈([]:List (Nat×AR))from h) Lx
 | cons x r ih =>
  intro n z2;rcases z2 with _ | ⟨b,as⟩
  ·intro h;exact absurd (show((a,o):Nat×AR)∈([]:List (Nat×AR))from h) Lx
  ·intro h;have up:∀as':List Nat,((a,o):Nat×AR)∈G3 r (n+1) as'->n<=a/\∃y,(x::r)[a-n]? = some y/\alive y=some o:=λas' h'=>by
    rcases ih (n+1) as' h' with⟨h1,y,h2,h3⟩
    refine⟨(AbA h1),y,?_,h3⟩;rw[show a-n=(a-(n+1))+1 from(UP h1),ZX];exact h2
   rw[Ais]at h;rcases e:EE n b with _ | _
   ·rw[e]at h;exact up _ h
   ·rw[e]at h;obtain rfl:n=b:=NS e;rcases ha:alive x with _ | o'
    ·rw[ha]at h;exact up _ h
    ·rw[ha]at h;rcases AS.mp h with h | h
     ·injection h with za zb;subst za;subst zb
      exact⟨AK _,x,by simp,ha⟩
     ·exact up _ h
theorem Aiu(h:AY):(N4 h).In h:=λa o e=>by
 rcases Ait _ _ _ (F9 e)with⟨_,x,h1,h2⟩
 rw[AaT,Lq]at h1;unfold Heap.get?;rw[h1];rcases x with⟨c,d,dt,sl⟩
 rcases dt with⟨⟩<;>first | exact h2 | cases h2
def Mr(h:AY):Prop:=∃K:Bf,K.In h/\Kn K=true/\HC.map (λp=>EJ K p.1)=HC.map λp=>Il pw p.2
theorem Aiv(w:B5)(s:Aq)(h:LG s=LH w):Mr s.heap:=⟨N4 s.heap,Aiu _,(DV h).1,(DV h).2⟩
theorem Aiw(w:B5)(h h':AY)(x:Mr h)(k:∀b o,h.get? b=some o->h'.get? b=some o):Mr h':=by
 refine Ah x ?_;clear x;rintro K h1 h2;exact⟨K,h1.keeps k,h2⟩
section
structure BW(K:Bf):Prop where
 all:Kn K=true
 defs:HC.map (λp=>EJ K p.1)=HC.map λp=>Il pw p.2
section
variable {K:Bf}
theorem BW.tabs(F:BW K):Tabs0 K:=by
 have h:=F.all;simp only[Kn,UL,A9]at h;refine At h ?_;clear h;rintro⟨⟨⟨⟨⟨⟨h1,h2⟩,h3⟩,h4⟩,h5⟩,h6⟩,_⟩ _;exact⟨h1,h2,h3,h4,h5,h6⟩
theorem BW.more(F:BW K):Ii K 152=true/\findIn K (.ref 152) "__init__" = some (some (.ref 149))/\typeIn K (.ref 149)=some (.type "function")/\typeIn K (.ref 152)=some (.type "type")/\nsIn K Eb "Exception" = some none /\
  nsIn K Eb "WasmFault" = some (some (.ref 132))/\Ih K 132 "__init__" 129=true/\∀x∈G4,Ij K 152 x=true:=by
 have h:=F.all;simp only[Kn,UM,A9,beq_iff_eq]at h;refine At h ?_;clear h;rintro⟨_,⟨⟨⟨⟨⟨⟨⟨h1,h2⟩,h3⟩,h4⟩,h5⟩,h6⟩,h7⟩,h8⟩⟩ _;exact⟨h1,h2,h3,h4,h5,h6,h7,B0.mp h8⟩
theorem BW.catch(F:BW K):JF K 152/\∀y∈G4,findIn K (.ref 152) y=some none:=by
 have h:=F.all;simp only[Kn,UN,A9,beq_iff_eq]at h;refine At h ?_;clear h;rintro _ ⟨⟨⟨⟨⟨h1,h2⟩,h3⟩,h4⟩,h5⟩,h6⟩;exact⟨⟨h1,h2,h3,h4,F.more.2.2.2.1,h5⟩,λy hy=>by have:=B0.mp h6 y hy;simpa using this⟩
theorem BW.def(F:BW K){f:Af}{pth:List Nat}(h:(f,pth)∈HC):EJ K f=Il pw pth:=List.map_inj_left.mp F.defs (f,pth) h
noncomputable def OG:C0:=(Il pw [32,0]).get (by kernel_rfl)
noncomputable def OH:C0:=(Il pw [33,0]).get (by kernel_rfl)
theorem BW.d129(F:BW K):EJ K 129=some OG:=(F.def (pth:=[32,0]) (by decide)).trans (Aa0 _).symm
theorem BW.d149(F:BW K):EJ K 149=some OH:=(F.def (pth:=[33,0]) (by decide)).trans (Aa0 _).symm
noncomputable def Ms(K:Bf):AM:={ HO K with excs:=[],fn:=λz=>none }
theorem BW.gokX(F:BW K):Bn K (Ms K):=WO F.tabs [] (by simp) _
theorem x9:KS OG "self" ["why"]=true:=by kernel_rfl
theorem x10:KS OH "self" ["why","function","at"]=true:=by kernel_rfl
theorem Aix:∃b bs es,OG.body=b::bs/\KT b=some (Ab "Exception",Ab "self",es)/\(∀a,Bx (Mp (Ms K) OG.scope.names ([Ab "why"].zip [a])) es=ret [a])/\bs.map JE=[some (Ab "self",Ab "why",Ab "why")] :=
 ⟨_,_,_,rfl,rfl,λa=>by kernel_rfl,by kernel_rfl⟩
theorem Aiy:∃b bs es,OH.body=b::bs/\KT b=some (Ab "WasmFault",Ab "self",es)/\(∀a1 a2 a3,Bx (Mp (Ms K) OH.scope.names ([Ab "why",Ab "function",Ab "at"].zip [a1,a2,a3])) es=ret [a1]) /\
  bs.map JE=[some (Ab "self",Ab "function",Ab "function"),some (Ab "self",Ab "at",Ab "at")]:=⟨_,_,_,rfl,rfl,λa1 a2 a3=>by kernel_rfl,by kernel_rfl⟩
theorem Aiz(F:BW K){c:FC}{d:Nat}(hK:c.K=K)(ok:AJ c (d+1))(a:CV):IB c 152 129 [a] [] [(Ab "why",a)]:=by
 refine EZ (Aix (K:=K)) ?_;rintro b bs es h1 h2 h3 h4;refine Uw F.more ?_;rintro k1 _ _ _ k5 _ _ k8;exact Ah3 (Γ:=Ms K) (xs:=[Ab "why"]) (pairs:=[(Ab "why",Ab "why",a)]) ok (by rw[hK];exact F.gokX) (by rw[hK];exact OE F.d129) x9 rfl (by rw[hK];exact k1) (by rw[hK];exact k5) (by kernel_rfl) h1 h2 (h3 a) (by simp) h4
  (λp hp=>by
   rcases Cr.mp hp with rfl
   exact⟨by rw[hK];exact k8 _ (.head _),by kernel_rfl⟩) (by simp)
theorem AiA(F:BW K){c:FC}{d:Nat}(hK:c.K=K)(ok:AJ c (d+2))(a1 a2 a3:CV):IB c 152 149 [a1,a2,a3] [] [(Ab "why",a1),(Ab "function",a2),(Ab "at",a3)]:=by
 refine EZ (Aiy (K:=K)) ?_;rintro b bs es h1 h2 h3 h4;refine Uw F.more ?_;rintro _ _ _ _ _ k6 k7 k8;refine Ah4 (Γ:=Ms K) (xs:=[Ab "why",Ab "function",Ab "at"]) (as1:=[(Ab "why",a1)]) (pairs:=[(Ab "function",Ab "function",a2),(Ab "at",Ab "at",a3)]) ok (by rw[hK];exact F.gokX) (by rw[hK];exact OE F.d149) x10 rfl (by rw[hK];exact k6) (by decide) (by rw[hK];exact k7) (by kernel_rfl)
  (λc' e ok'=>Aiz F (e.trans hK) ok' a1) h1 h2 (h3 a1 a2 a3) h4 (λp hp => ?_) (by simp)
 rcases AS.mp hp with rfl | hp
 ·exact⟨by rw[hK];exact k8 _ (.tail _ (.head _)),by kernel_rfl⟩
 ·rcases Cr.mp hp with rfl
  exact⟨by rw[hK];exact k8 _ (.tail _ (.tail _ (.head _))),by kernel_rfl⟩
theorem BW.excCls(F:BW K):Of K 152 G4:=by
 refine Uv F.more ?_;rintro k1 k2 k3 k4 _;refine⟨by simp[G4],λM h X=>(RB X k1).bexc,λM h X=>looks_typeIn X k4,?_⟩
 intro c m l vs cs s R hK ok st hv hl hR;obtain⟨a1,a2,a3,rfl⟩:∃a1 a2 a3,cs=[a1,a2,a3]:=by
  rcases cs with _ | ⟨a1,_ | ⟨a2,_ | ⟨a3,_ | ⟨a4,r⟩⟩⟩⟩
  ·exact absurd (show(0:Nat)=3 from hl) (by decide)
  ·exact absurd (show(1:Nat)=3 from hl) (by decide)
  ·exact absurd (show(2:Nat)=3 from hl) (by decide)
  ·exact⟨a1,a2,a3,rfl⟩
  ·exact absurd (Lm (show r.length+4=3 from hl)) (Nat.not_le.mpr (EX (by decide:3<4) (Aoh 4 _)))
 exact Ah5 (d:=2) ok (by rw[hK];exact k1) (by rw[hK];exact k2) (by rw[hK];exact k3) (λc' e ok'=>AiA F (e.trans hK) ok' a1 a2 a3) st hv (by simp) hR
theorem BW.tab(F:BW K):KQ K:={ F.tabs with
 excs:=λC names h=>by
  unfold Hj at h
  by_cases e:C=152
  ·subst e;have:G4=names:=by simpa [G4] using h
   exact this▸F.excCls
  ·have:(C == 152)=false:=beq_eq_false_iff_ne.mpr e;rw[BC,this]at h;exfalso;injection h }
end
end
section
set_option maxHeartbeats 1000000
section
variable {c:FC}{FX:Bh}{m:Ac->Option Ad}{l:Am}{env:Env}
theorem AiB{la:Af}{p2:Pos}{k:Nat}(hk:env.scope.kind=.function)(hl:env.kindOf x=some .local)(hloc:env.locals=c.L)(hgn:C7 x=true)(hm:m x=some (.ref la))
  (hlst:c.h₀.IsList la vs.toArray) (hI:Jb vs is) (hz:is.length<=63) :
  Aa c FX m l (eval (.Subscript (.Name x p1) (.Slice none (some (.Constant (.int 63) k p2)) none p3) p4) env) (BV (is.map .int)) VR:=by
 have e:eval (.Subscript (.Name x p1) (.Slice none (some (.Constant (.int 63) k p2)) none p3) p4) env=(eval (.Name x p1) env >>= λv=>holding [v] (eval (.Slice none (some (.Constant (.int 63) k p2)) none p3) env) >>= λk'=>standAt p4 >>= λq=>Nq (.Name x p1) (.Slice none (some (.Constant (.int 63) k p2)) none p3) v k'):=rfl;rw[e];simp only[C7,A9,EY]at hgn;refine Aa.of_eq (f':=bnd (ret ()) λq=>bnd (ret CV.none) λq=>bnd (ret (CV.int 63)) λq=>BV (is.map .int)) ?_ rfl;refine Aa.bind (V:=λq w q=>w=.ref la) (λs Q E st ok q q=>Ls (PW hk hl (hloc▸st.fr.ns) hm (ok () l (.ref la) s.heap s.toks rfl st (Ap.refl l) rfl)) hgn.1) λv q l1 q e1 hv=>Aa.holdBind ?_;subst hv;rw[An7];refine Aa.assoc (Aa.bind (V:=VR) (Aa.pure (V:=VR) .none) λv1 x1 l2 q2 e2 hv1=>Aa.assoc (Aa.bind (Aa.hold _ (VJ (k:=.int 63) (n:=k) (pos:=p2))) λv2 x2 l3 q3 e3 hv2 => ?_));have x1e:CV.none=x1:=(B2.ok_inj q2).1;have x2e:CV.int 63=x2:=(B2.ok_inj q3).1;subst x1e x2e;have z:Aa c FX m l3 (Z3 "slice" [v1,v2,.none] >>= λi=>standAt p4 >>= λq=>Nq (.Name x p1) (.Slice none (some (.Constant (.int 63) k p2)) none p3) (.ref la) i) (BV (is.map .int)) VR:=by
  intro s Q E st ok exc ns;have hz':(is.map CV.int).length<=63:=by rw[AG];exact hz
  have hx:small (is.map CV.int).length=true:=decide_eq_true (Qv hz');unfold BV at ok;rw[if_pos hx]at ok;refine Aj (Nu (Aj (FM ?_)) (by simp[sizeOk,sizeLine]))
  refine AnZ st.fr st.nw ((hlst.at λo e=>st.fr.keep _ o e)) (Oi (a:=.none) rfl hv1) (Oi (a:=.int 63) rfl hv2) rfl (λD h' F' N' fr => ?_) rfl (λq=>rfl) ?_
  ·have hv:Az l3 (P0 vs.toArray.toList none (some 63)) (is.map .int):=by
    have hlen:vs.length=is.length:=AoY hI;have e:P0 vs.toArray.toList none (some 63)=vs:=by
     rw[List.toList_toArray];unfold P0 Nr kms_hi;simp only[List.drop_zero,AaT];rw[if_neg (by decide)]
     rw[T4];show vs.length<=min (63:Int).toNat vs.length;rw[show(63:Int).toNat=63 from rfl];exact Aex hz hlen
    rw[e];exact Ok hI
   refine BL (st.addList F' N' fr hv) ?_;rintro l' e st' x v;exact ok _ l' _ h' s.toks (by rw[e]) st' x v
  ·have hlen:vs.length=is.length:=AoY hI;rw[J8,FN];exact Aew hz hlen
 exact Aa.assoc (λs Q E st ok exc ns=>Aj (Dg (AB (z s Q E st ok exc ns))))
end
noncomputable def Em:{D // Il pw [79]=some D}:=⟨_,rfl⟩
noncomputable def NL:Nat:=40
noncomputable def CN(K:Bf):AM:={ BO K NL 20 with fn:=λf=>if f=974 then some (IC (BO K NL 18) NL Em.1)else(BO K NL 20).fn f }
theorem AiC(T:KQ K):Bn K (CN K):=by
 refine AI (IA K NL 20) ?_;rintro fn e;unfold CN;rw[e];exact WO T.toTabs0 Hj T.excs _
theorem W9(T:KQ K):Jy (CN K):=by
 refine AI (IA K NL 20) ?_;rintro fn e;unfold CN;rw[e];exact WP T _
theorem AiD(F:BW K){c:FC}(hK:c.K=K)(hb:c.base=c.h₀):Hc DO (CN K) 42 c:=by
 intro c' ⟨h1,h2,h3,h4⟩ g ok f spec hf;have gl:∀k,Bn c'.K (BO K NL k):=λk=>by
  refine AI (IA K NL k) ?_;rintro fn e;refine AI (IA K NL 20) ?_;rintro fn2 e2;rw[e];unfold CN at g;rw[e2]at g;exact WS g
 have hf':(if f=974 then some (IC (BO K NL 18) NL Em.1)else(BO K NL 20).fn f)=some spec:=hf
 by_cases e:f=974
 ·rw[if_pos e]at hf';injection hf' with za;subst za
  subst e;have hd:EJ K 974=some Em.1:=(F.def (pth:=[79]) (by decide)).trans Em.2
  refine Aio (d:=38) (WQ F.tab NL 18) (Aev) (WT F.tab Rz NL 18) (gl 18) (ok.weaken (Aeu)) (by rw[h2,h3,hb]) (by rw[h4,hK];exact OE hd) λC names h => ?_
  refine AI (IA K NL 18) ?_;rintro fn e;rw[e]at h;have h':Hj.lookup C=some names:=h;unfold Hj at h'
  by_cases e:C=152
  ·subst e;have e2:G4=names:=by simpa [G4] using h'
   subst e2;rw[h4,hK];exact F.catch
  ·have:(C == 152)=false:=beq_eq_false_iff_ne.mpr e;rw[BC,this]at h';exfalso;injection h'
 ·rw[if_neg e]at hf';exact WT F.tab Rz NL 20 c' (gl 20) ok f spec hf'
def OI(K:Bf)(is:List Int):Prop:=∃loc σ,GD (CN K) (Bp (CN K) NL).1 (Bp (CN K) NL).2 BA.1.scope.names NL BA.1.body.tail [(Ab "script",CV.ref 0)] [.list (is.map .int)]=.ok (.ret (.bool true),loc) σ
theorem AiE:∃p p1 p2 p3 p4 p5 k,BA.1.body=.Assign [.Name (Ab "script") p] (.Subscript (.Name (Ab "script") p1) (.Slice none (some (.Constant (.int 63) k p2)) none p3) p4) p5::BA.1.body.tail:=⟨_,_,_,_,_,_,_,rfl⟩
theorem AiF:BA.1.params.defaults=[]:=by kernel_rfl
end
section
set_option maxHeartbeats 1000000
theorem AiG(pm cd doc:Ad)(v:Ad):bindArgs (docDef BA.1.name BA.1.params BA.1.body BA.1.scope pm cd doc) ⟨[v],[]⟩=pure [(Ab "script",v)]:=by kernel_rfl
theorem RF:BA.1.scope.names.lookup (Ab "script")=some .local:=by kernel_rfl
theorem AiH:((FT 0 BA.1.scope.names []).map (·.1)).Nodup:=by decide +kernel
theorem AiI:BA.1.scope.isCoroutine=false/\BA.1.scope.isGenerator=false/\BA.1.scope.kind=.function:=⟨by kernel_rfl,by kernel_rfl,by kernel_rfl⟩
theorem AiJ(K:Bf)(cs:List CV)(p p1 p2 p3 p4:Pos)(k:Nat):(λ(v:CV)=>bnd (JA (CN K) (Bp (CN K) NL).1 BA.1.scope.names (.Name (Ab "script") p) (.Subscript (.Name (Ab "script") p1) (.Slice none (some (.Constant (.int 63) k p2)) none p3) p4) v []) λq=>ret (Bk.next,q.2)) (.ref 0) [.list cs]=.ok (.next,[(Ab "script",.ref 0)]) [.list cs]:=by kernel_rfl
set_option tactic.hygienic true in
theorem AiK{mm:Ac->Option Ad}{la:Af}{Q:Fo->Aq->Prop}{loc':Ao}
  (F:BW c.K) (hb:c.base=c.h₀) (ok:AJ c 43) (fe:Du c c.fenv) (hs:c.fenv.scope=BA.1.scope) (hl0:l0.σ=[]) (st:St c mm l0 s.heap) (er:B8 c mm c.fenv l0 []) (cr:Fz c.fenv l0) (hm0:mm (Ab "script")=some (.ref la)) (hlst:c.h₀.IsList la vs.toArray) (hI:Jb vs is) (h63:is.length<=63)
  (hlaw:GD (CN c.K) (Bp (CN c.K) NL).1 (Bp (CN c.K) NL).2 BA.1.scope.names NL BA.1.body.tail [(Ab "script",CV.ref 0)] [.list (is.map .int)]=.ok (.ret (.bool true),loc') σ')
  (hq:∀h3 tk3,c.h₀.StaysIn h3->Q (.ret (.bool true)) (put s h3 tk3)) :
  wpAny (model c.prog c.w) c.A (execs BA.1.body c.fenv) Q E s:=by
 have gk:Bn c.K (CN c.K):=AiC F.tab;have fnA:Hc DO (CN c.K) 42 c:=AiD F rfl hb;have ha:JC c (DO c) (Bp (CN c.K) NL).1 (Bp (CN c.K) NL).2 :=
  ⟨λenv m l loc eo er=>(KK (W9 F.tab) ok gk fnA NL env l loc eo er).1,λenv m l loc eo er=>(KK (W9 F.tab) ok gk fnA NL env l loc eo er).2⟩
 clear hb F fnA;refine UD AiE ?_;rintro p p1 p2 p3 p4 p5 k hshape;have e0:(bnd (BV (is.map CV.int)) λv=>bnd (JA (CN c.K) (Bp (CN c.K) NL).1 c.fenv.scope.names (.Name (Ab "script") p) (.Subscript (.Name (Ab "script") p1) (.Slice none (some (.Constant (.int 63) k p2)) none p3) p4) v []) λq=>ret (Bk.next,q.2)) l0.σ=.ok (.next,[(Ab "script",.ref 0)]) [.list (is.map CV.int)]:=by
  rw[hl0,hs];refine(CL (a:=CV.ref 0) (σ':=[.list (is.map CV.int)]) ?_).trans (AiJ c.K (is.map CV.int) p p1 p2 p3 p4 k);unfold BV;rw[if_pos (by rw[AG];exact decide_eq_true (Qv h63))]
  rfl
 rw[<- hs]at hlaw;clear hl0;have hsc:c.fenv.kindOf (Ab "script")=some .local:=by
  show c.fenv.scope.names.lookup _=_;rw[hs];exact RF
 have S:=AiB (c:=c) (FX:=DO c) (l:=l0) (env:=c.fenv) (p1:=p1) (p2:=p2) (p3:=p3) (p4:=p4) (k:=k) fe.eo.kind hsc fe.loc (by decide +kernel) hm0 hlst hI h63
 rw[hshape];clear hshape hs hsc hm0 hlst hI h63;refine Kg ?_;rw[AaP];refine Aj (FM ?_);rw[OA fe (rfl:Oz (.Subscript (.Name (Ab "script") p1) (.Slice none (some (.Constant (.int 63) k p2)) none p3) p4)=true)];refine Aj (AB ?_);refine AF.eval (loc:=[]) S (λv a l' z x hv=>Wx (Γ:=CN c.K) fe ok gk (λm l loc er=>ha.ev c.fenv m l loc fe.eo er) hv) _ _ _ st er cr (λfl Et l1 m1 fl' h2 tk2 e st1 x1 er1 cr1 v1 => ?_) (λx l' e h' tk hx xx fx=>by(have z0:_=_:=e0.symm.trans hx;exfalso;injection z0)) (λq=>by(have z0:_=_:=e0.symm.trans q;exfalso;injection z0))
 injection e0.symm.trans e with q1 q2
 refine At (DV q1) ?_;rintro rfl rfl;rw[show fl'=.next from v1]
 rw[q2]at hlaw;refine Ru (FX:=DO c) (WM ok) fe ok (ok.weaken (Aey)) gk ha NL BA.1.body.tail _ _ _ _ _ _ st1 er1 cr1 (λfl2 loc2 l2 m2 fl2' h3 tk3 e2 st2 x2 er2 cr2 v2 => ?_) (λx l' e h' tk hx xx fx=>by(have z0:_=_:=hlaw.symm.trans hx;exfalso;injection z0)) (λq=>by(have z0:_=_:=hlaw.symm.trans q;exfalso;injection z0))
 injection hlaw.symm.trans e2 with q3 q4
 refine At (DV q3) ?_;rintro rfl rfl;refine Ah v2 ?_;clear v2;rintro wv rfl hw;rw[hw.bool_inv];exact hq h3 tk3 st2.fr.keep
set_option tactic.hygienic true in
theorem AiL{s₀ s₁:Aq}{args:List WData}{vals:List Ad}{as:List Af}(hpre:PySem.Challenge.rw_pb0609_01.row.claim.pre args=true)(hlay:WData.layableAll args=true)
  (hrd:ReadsAllW PySem.Challenge.rw_pb0609_01.row.records (classAt s₀.heap) s₁.heap vals args as) (hwl:WellAll w.params s₁.heap vals args) (hlo:∀a∈as,(a == TD)=false) :
  ∃is la vs,args=[ofPy (.list (is.map .int))]/\vals=[.ref la]/\s₁.heap.IsList la vs.toArray/\Jb vs is/\is.length<=63:=by
 wrow_args hpre hlay hrd hwl hlo
 rename_i is hs hlay0 hL1 hr1 hl2 w4 w3 la vs w5 hlst ra w1 r0 hI hr hcond hcond';exact⟨is,la,vs,rfl,rfl,hlst,hI,Aez hcond⟩
theorem AiM(law:∀K,BW K->∀is:List Int,is.length<=63->OI K is):WalkO qv Ik (λz z=>True) (λz h=>Mr h) PySem.Challenge.rw_pb0609_01.row.toRowW BA.1 BA.2 (λf vs=>PySem.call f vs):=by
 intro w s₀ s₁ mg mb G Y fa o pm cd doc dV kV ho hd hcd hD hmg hg args vals as hpre hlay hrd hwl hlo;refine Ux (AiL hpre hlay hrd hwl hlo) ?_;rintro is la vs rfl rfl hlst hI h63;clear hpre hlay hrd hwl hlo;refine AE Y ?_;clear Y;rintro K KX hF1 hF2;have F:BW K:=⟨hF1,hF2⟩;refine Ground.open G ?_;intro T B D TE TW;clear G B D TE TW;refine HA (law K F is h63) ?_;rintro loc' σ' hlaw;have he:=Dflts.none hD AiF;subst he;have he:=Dflts.noKw (by rw[W8]at hD;exact hD)
 subst he;refine CZ AiI ?_;rintro hco hgen hk;refine enter_call ?_;refine call_cellsN (by decide) ho (fd_plain hd) (Top.nolimit T) hcd (AiG pm cd doc _) (λx hx => ?_) AiH (λh₁ tk cells F1 N1 X1 => ?_) hco hgen hk
 ·rcases Cr.mp hx with rfl
  exact .inl RF
 let env:=envOfC BA.1.name BA.1.scope s₁.heap.objs.size fa cd
 let c:FC:={ prog:=PySem.Challenge.rw_pb0609_01.row.prog,w:=w,K:=K,p:=qv,loose:=looseW qv Ik,mean:=ExcName.means s₀.heap,mg:=mg,mb:=mb,A:=callerA.deeper env,A₀:=callerA,base:=s₁.heap,outer:=[],h₀:=s₁.heap,L:=s₁.heap.objs.size,fenv:=env }
 have ok:AJ c 43:=⟨below_caller s₁.heap,KX,T,rfl,rfl,hk,show callerA.depth+1+10*43<=900 by decide,show callerA.units+3+100*43<=9000 by decide,rfl⟩
 have fe:Du c env:=⟨⟨rfl,rfl,hk,rfl⟩,rfl,rfl⟩;refine At (WD BA.1.scope.names (s₁.heap.objs.size+1) [] G1 (λp hp=>by rcases hp with⟨⟩)) ?_;rintro ca1 ca2
 have hkeys:=WE X1
 let l0:Am:={ Φ:=cells,σ:=[],ad:=λz z=>0 }
 have lr:LR c.prog c.w l0:=⟨by show(cells.map (·.1)).Nodup;rw[hkeys];exact ca1,λi j a b h=>(nomatch h),λi o h=>by simp[l0]at h⟩
 have st:St c (bindL env.kindOf [(Ab "script",CR la)] λz=>none) l0 h₁:=⟨F1,N1,lr⟩;have er:B8 c (bindL env.kindOf [(Ab "script",CR la)] λz=>none) env l0 []:=⟨λx v k hx=>by simp at hx,.inl rfl⟩
 have oth0:∀p∈cells,AQ l0 p:=λp hp=>⟨hp,λi b q=>nomatch q⟩
 have cr:Fz env l0:=by
  refine⟨λx a h => ?_,λx hx => ?_,λx y a h1 h2=>WF ca1 h1 h2⟩
  ·refine Ah (Rx X1 h) ?_;rintro o h1 h2;exact⟨o,_,oth0 _ h1,h2⟩
  ·exact Kc.mp (OB BA.1.scope.names (s₁.heap.objs.size+1) [] x (.inl hx))
 have hm0:(bindL env.kindOf [(Ab "script",CR la)] λz=>none) (Ab "script")=some (.ref la):=by
  unfold bindL;rw[if_pos (show env.kindOf (Ab "script")=some .local from RF)];unfold bindL;exact if_pos rfl
 exact AiK (c:=c) F rfl ok fe rfl rfl st er cr hm0 hlst hI h63 hlaw λh3 tk3 keep=>⟨.inl ⟨_,.bool true,[],rfl,raisesW_false allW_false_nil,.bool true,by kernel_rfl,λz=>⟨.nil,λa h=>nomatch h⟩⟩,.of_keep keep,rfl,.of_eq hg⟩
end
section
inductive V where
 | w (x:W)
 | tup (xs:List W)
inductive AO where
 | lst (ts:List T)
 | dct (es:List (Int×T))
 | ins (C:Af) (as:List (Ac×W))
 | dead
noncomputable abbrev AH:=List AO
noncomputable abbrev An:=List (Ac×W)
noncomputable def OJ:CO->Kd×List CV
 | .list vs=>(.lst,vs)
 | .dict es=>(.dct (es.map (·.1)),es.map (·.2))
 | .inst C as=>(.ins C (as.map (·.1)),as.map (·.2))
noncomputable def AiN:Kd->Nat->Bool
 | .lst,n=>small n
 | _,_=>true
mutual
inductive TR(X:Nat->Prop)(σ:CH):CV->T->Prop
 | none:TR X σ .none .none
 | bool (b:Bool):TR X σ (.bool b) (.bool b)
 | int (i:Int):TR X σ (.int i) (.int i)
 | str (x:Ac):TR X σ (.str x) (.str x)
 | tup {vs:List CV} {ts:List T}:small vs.length=true->AA X σ vs ts->TR X σ (.tup vs) (.node .tup ts)
 | obj {a:Nat} {o:CO} {ts:List T}:¬X a->σ[a]? = some o->AiN (OJ o).1 (OJ o).2.length=true->AA X σ (OJ o).2 ts->TR X σ (.ref a) (.node (OJ o).1 ts)
inductive AA(X:Nat->Prop)(σ:CH):List CV->List T->Prop
 | nil:AA X σ [] []
 | cons {v:CV} {t:T} {vs:List CV} {ts:List T}:TR X σ v t->AA X σ vs ts->AA X σ (v::vs) (t::ts)
end
section
variable {X X':Nat->Prop}{σ σ':CH}
theorem TR.mono(h:∀a o,σ[a]? = some o->¬X a->σ'[a]? = some o/\¬X' a){v:CV}{t:T}(r:TR X σ v t):TR X' σ' v t :=
 TR.rec (motive_1:=λv t z=>TR X' σ' v t) (motive_2:=λvs ts z=>AA X' σ' vs ts) .none .bool .int .str (λs z r=>.tup s r) (λn e s z r=>.obj (h _ _ e n).2 (h _ _ e n).1 s r) .nil (λz z a b=>.cons a b) r
theorem AA.mono(h:∀a o,σ[a]? = some o->¬X a->σ'[a]? = some o/\¬X' a){vs:List CV}{ts:List T}(r:AA X σ vs ts):AA X' σ' vs ts :=
 AA.rec (motive_1:=λv t z=>TR X' σ' v t) (motive_2:=λvs ts z=>AA X' σ' vs ts) .none .bool .int .str (λs z r=>.tup s r) (λn e s z r=>.obj (h _ _ e n).2 (h _ _ e n).1 s r) .nil (λz z a b=>.cons a b) r
theorem AA.nil_inv{vs:List CV}(r:AA X σ vs []):vs=[]:=by
 rcases r with _ | _
 rfl
theorem AA.cons_inv{vs:List CV}{t:T}{ts:List T}(r:AA X σ vs (t::ts)):∃v ws,vs=v::ws/\TR X σ v t/\AA X σ ws ts:=by
 rcases r with _ | ⟨a,r⟩
 exact⟨_,_,rfl,a,r⟩
theorem AA.ind{P:List CV->List T->Prop}(hn:P [] [])(hc:∀{v t vs ts},TR X σ v t->AA X σ vs ts->P vs ts->P (v::vs) (t::ts)){vs:List CV}{ts:List T}(h:AA X σ vs ts):P vs ts:=by
 induction ts generalizing vs with
 | nil=>obtain rfl:=h.nil_inv;exact hn
 | cons t ts ih=>(refine Bm h.cons_inv ?_;rintro v ws rfl a r);exact hc a r (ih r)
theorem TR.int_inv{v:CV}{i:Int}(h:TR X σ v (.int i)):v=.int i:=by
 rcases h with _ | _ | _ | _ | _ | _
 rfl
theorem AA.len{vs:List CV}{ts:List T}(h:AA X σ vs ts):vs.length=ts.length:=by
 induction ts generalizing vs with
 | nil=>rcases h with⟨⟩;rfl
 | cons t ts ih=>cases h with | cons a r=>rw[BH,BH,ih r]
theorem AA.app{vs ws:List CV}{ts us:List T}(h:AA X σ vs ts)(g:AA X σ ws us):AA X σ (vs++ws) (ts++us):=by
 induction ts generalizing vs with
 | nil=>rcases h with⟨⟩;exact g
 | cons t ts ih=>cases h with | cons a r=>exact .cons a (ih r)
theorem AA.at{vs:List CV}{ts:List T}(h:AA X σ vs ts){i:Nat}{t:T}(e:ts[i]? = some t):∃v,vs[i]? = some v/\TR X σ v t:=by
 induction ts generalizing vs i with
 | nil=>(exfalso;injection e)
 | cons u us ih =>
  rcases h with _ | ⟨a,r⟩
  ·rcases i with _ | i
   ·injection e with za;subst za;exact⟨_,rfl,a⟩
   ·exact ih r e
theorem AA.drop{vs:List CV}{ts:List T}(h:AA X σ vs ts):∀n,AA X σ (vs.drop n) (ts.drop n):=by
 induction ts generalizing vs with
 | nil=>rcases h with⟨⟩;intro n;rcases n with⟨⟩<;>exact .nil
 | cons u us ih =>
  rcases h with _ | ⟨a,r⟩
  ·intro n;rcases n with _ | n
   ·exact .cons a r
   ·exact ih r n
theorem AA.take{vs:List CV}{ts:List T}(h:AA X σ vs ts):∀n,AA X σ (vs.take n) (ts.take n):=by
 induction ts generalizing vs with
 | nil=>rcases h with⟨⟩;intro n;rcases n with⟨⟩<;>exact .nil
 | cons u us ih =>
  rcases h with _ | ⟨a,r⟩
  ·intro n;rcases n with _ | n
   ·exact .nil
   ·exact .cons a (ih r n)
theorem AA.rev{vs:List CV}{ts:List T}(h:AA X σ vs ts):AA X σ vs.reverse ts.reverse:=by
 induction ts generalizing vs with
 | nil=>rcases h with⟨⟩;exact .nil
 | cons u us ih =>
  rcases h with _ | ⟨a,r⟩
  ·rw[Nv,Nv];exact(ih r).app (.cons a .nil)
theorem AA.set{vs:List CV}{ts:List T}(h:AA X σ vs ts){v:CV}{t:T}(q:TR X σ v t):∀n,AA X σ (vs.set n v) (ts.set n t):=by
 induction ts generalizing vs with
 | nil=>rcases h with⟨⟩;intro n;rcases n with⟨⟩<;>exact .nil
 | cons u us ih =>
  rcases h with _ | ⟨a,r⟩
  ·intro n;rcases n with _ | n
   ·exact .cons q r
   ·exact .cons a (ih r n)
theorem AA.ints(is:List Int):AA X σ (is.map .int) (is.map .int):=by
 induction is with
 | nil=>exact .nil
 | cons i is ih=>exact .cons (.int i) ih
set_option tactic.hygienic true in
theorem TR.list{ts:List T}(h:TR X σ (.ref a) (.node .lst ts)):¬X a/\∃vs,σ[a]? = some (.list vs)/\small vs.length=true/\AA X σ vs ts:=by
 generalize ek:T.node .lst ts=t at h
 rcases h with _ | _ | _ | _ | _ | ⟨n,e,s,r⟩
 ·rename_i o us;rcases o with vs | es | ⟨C,as⟩
  ·injection ek with za zb;rcases za with⟨⟩;subst zb;exact⟨n,vs,e,s,r⟩
  ·injection ek with za;exfalso;injection za
  ·injection ek with za;exfalso;injection za
theorem TR.ofList{vs:List CV}{ts:List T}(n:¬X a)(e:σ[a]? = some (.list vs))(s:small vs.length=true)(r:AA X σ vs ts):TR X σ (.ref a) (.node .lst ts):=.obj (o:=.list vs) n e s r
set_option tactic.hygienic true in
theorem TR.dict{ks:List Int}{ts:List T}(h:TR X σ (.ref a) (.node (.dct ks) ts)):¬X a/\∃es:List (Int×CV),σ[a]? = some (.dict es)/\ks=es.map (·.1)/\AA X σ (es.map (·.2)) ts:=by
 generalize ek:T.node (.dct ks) ts=t at h
 rcases h with _ | _ | _ | _ | _ | ⟨n,e,s,r⟩
 ·rename_i o us;rcases o with vs | es | ⟨C,as⟩
  ·injection ek with za;exfalso;injection za
  ·injection ek with za zb;injection za with za;subst za;subst zb;exact⟨n,es,e,rfl,r⟩
  ·injection ek with za;exfalso;injection za
theorem TR.ofDict{es:List (Int×CV)}{ts:List T}(n:¬X a)(e:σ[a]? = some (.dict es))(r:AA X σ (es.map (·.2)) ts):TR X σ (.ref a) (.node (.dct (es.map (·.1))) ts):=.obj (o:=.dict es) n e rfl r
set_option tactic.hygienic true in
theorem TR.inst{ts:List T}(h:TR X σ (.ref a) (.node (.ins C xs) ts)):¬X a/\∃as:List (Ac×CV),σ[a]? = some (.inst C as)/\xs=as.map (·.1)/\AA X σ (as.map (·.2)) ts:=by
 generalize ek:T.node (.ins C xs) ts=t at h
 rcases h with _ | _ | _ | _ | _ | ⟨n,e,s,r⟩
 ·rename_i o us;rcases o with vs | es | ⟨C,as⟩
  ·injection ek with za;exfalso;injection za
  ·injection ek with za;exfalso;injection za
  ·injection ek with za zb;injection za with za zb;subst za;subst zb;subst zb;exact⟨n,as,e,rfl,r⟩
theorem TR.ofInst{ts:List T}(n:¬X a)(e:σ[a]? = some (.inst C as))(r:AA X σ (as.map (·.2)) ts):TR X σ (.ref a) (.node (.ins C (as.map (·.1))) ts):=.obj (o:=.inst C as) n e rfl r
set_option tactic.hygienic true in
theorem TR.node_inv{k:Kd}{ts:List T}{v:CV}(h:TR X σ v (.node k ts)):(k=.tup/\∃vs,v=.tup vs/\small vs.length=true/\AA X σ vs ts)\/(k≠.tup/\∃a,v=.ref a):=by
 generalize ek:T.node k ts=t at h
 rcases h with _ | _ | _ | _ | ⟨s,r⟩ | ⟨n,e,s,r⟩
 case tup=>(injection ek with za zb;subst za;subst zb);exact .inl ⟨rfl,_,rfl,s,r⟩
 case obj =>
  rename_i a o us;refine .inr ⟨?_,_,rfl⟩;rintro rfl;rcases o with⟨⟩<;>(injection ek with za;exfalso;injection za)
 all_goals (exfalso;injection ek)
theorem TR.lst_ref{ts:List T}{v:CV}(h:TR X σ v (.node .lst ts)):∃a,v=.ref a:=by
 rcases h.node_inv with⟨q,_⟩ | ⟨_,q⟩
 ·exfalso;injection q
 ·exact q
theorem TR.tup_inv{ts:List T}{v:CV}(h:TR X σ v (.node .tup ts)):∃vs,v=.tup vs/\small vs.length=true/\AA X σ vs ts:=by
 rcases h.node_inv with⟨_,q⟩ | ⟨q,_⟩
 ·exact q
 ·exact absurd rfl q
theorem TR.dct_ref{ks:List Int}{ts:List T}{v:CV}(h:TR X σ v (.node (.dct ks) ts)):∃a,v=.ref a:=by
 rcases h.node_inv with⟨q,_⟩ | ⟨_,q⟩
 ·exfalso;injection q
 ·exact q
theorem TR.ins_ref{ts:List T}{v:CV}(h:TR X σ v (.node (.ins C xs) ts)):∃a,v=.ref a:=by
 rcases h.node_inv with⟨q,_⟩ | ⟨_,q⟩
 ·exfalso;injection q
 ·exact q
end
def DY(ρ:List Nat)(α:AH)(a:Nat):Prop:=∃(k:Nat) (o:AO),ρ[k]? = some a/\α[k]? = some o/\o≠AO.dead
def Zx(X:Nat->Prop)(ρ:List Nat)(α:AH)(a:Nat):Prop:=X a\/DY ρ α a
def WR(Z:Nat->Prop)(ρ:List Nat)(σ:CH)(v:CV):W->Prop
 | .own k=>∃a,ρ[k]? = some a/\v=.ref a
 | .fz t=>TR Z σ v t
 | .junk=>True
noncomputable def Dj(Z:Nat->Prop)(ρ:List Nat)(σ:CH):List CV->List W->Prop
 | [],[]=>True
 | v::vs,w::ws=>WR Z ρ σ v w/\Dj Z ρ σ vs ws
 | _,_=>False
def UR(Z:Nat->Prop)(ρ:List Nat)(σ:CH)(v:CV):V->Prop
 | .w x=>WR Z ρ σ v x
 | .tup xs=>∃vs,v=.tup vs/\small vs.length=true/\Dj Z ρ σ vs xs
noncomputable def Bv(Z:Nat->Prop)(ρ:List Nat)(σ:CH):List CV->List V->Prop
 | [],[]=>True
 | v::vs,w::ws=>UR Z ρ σ v w/\Bv Z ρ σ vs ws
 | _,_=>False
def KW(Z:Nat->Prop)(ρ:List Nat)(σ:CH)(a:Nat):AO->Prop
 | .lst ts=>∃vs,σ[a]? = some (.list vs)/\small vs.length=true/\AA Z σ vs ts
 | .dct es=>∃cs:List (Int×CV),σ[a]? = some (.dict cs)/\es.map (·.1)=cs.map (·.1)/\AA Z σ (cs.map (·.2)) (es.map (·.2))
 | .ins C as=>∃cs:List (Ac×CV),σ[a]? = some (.inst C cs)/\as.map (·.1)=cs.map (·.1)/\Dj Z ρ σ (cs.map (·.2)) (as.map (·.2))
 | .dead=>True
structure Au(X:Nat->Prop)(ρ:List Nat)(α:AH)(σ:CH):Prop where
 len:ρ.length=α.length
 nd:ρ.Nodup
 lt:∀a∈ρ,a<σ.length
 nx:∀a∈ρ,¬X a
 xlt:∀a,X a->a<σ.length
 ob:∀(k a:Nat) (o:AO),ρ[k]? = some a->α[k]? = some o->KW (Zx X ρ α) ρ σ a o
def AW(Z:Nat->Prop)(ρ:List Nat)(σ:CH)(cloc:Ao)(loc:An):Prop:=∀x w,loc.lookup x=some w->w≠.junk->∃v,cloc.lookup x=some v/\WR Z ρ σ v w
structure AT(ρ:List Nat)(α:AH)(σ:CH)(ρ':List Nat)(α':AH)(σ':CH):Prop where
 len:σ.length<=σ'.length
 keep:∀a o,σ[a]? = some o->¬DY ρ α a->σ'[a]? = some o
 pre:∀(k a:Nat),ρ[k]? = some a->ρ'[k]? = some a
 live:∀a,DY ρ' α' a->DY ρ α a\/σ.length<=a
section
variable {X X' Z:Nat->Prop}{ρ ρ' ρ2:List Nat}{α α' α2:AH}{σ σ' σ2:CH}
theorem AT.refl:AT ρ α σ ρ α σ:=⟨AK _,λz z h z=>h,λz z h=>h,λz h=>.inl h⟩
theorem Hk{o:CO}(h:σ[a]? = some o):a<σ.length:=(DK.mp h).1
theorem AT.trans(s:AT ρ α σ ρ' α' σ')(t:AT ρ' α' σ' ρ2 α2 σ2):AT ρ α σ ρ2 α2 σ2:=by
 refine⟨AC s.len t.len,λa o h n=>t.keep a o (s.keep a o h n) λq => ?_,λk a h=>t.pre k a (s.pre k a h),λa q => ?_⟩
 ·rcases s.live a q with q | q
  ·exact n q
  ·exact absurd (Hk h) (DA.mpr q)
 ·rcases t.live a q with q | q
  ·exact s.live a q
  ·exact .inr (AC s.len q)
theorem AT.tr(s:AT ρ α σ ρ' α' σ'){a:Nat}{o:CO}(h:σ[a]? = some o)(n:¬Zx X ρ α a):σ'[a]? = some o/\¬Zx X ρ' α' a:=by
 refine⟨s.keep a o h λq=>n (.inr q),λq => ?_⟩;rcases q with q | q
 ·exact n (.inl q)
 ·rcases s.live a q with q | q
  ·exact n (.inr q)
  ·exact absurd (Hk h) (DA.mpr q)
theorem WR.mono(h:∀a o,σ[a]? = some o->¬Z a->σ'[a]? = some o/\¬X' a)(p:∀(k a:Nat),ρ[k]? = some a->ρ'[k]? = some a){v:CV}{w:W}(q:WR Z ρ σ v w):WR X' ρ' σ' v w:=by
 rcases w with k | t | _
 ·refine Ah q ?_;clear q;rintro a e r;exact⟨a,p k a e,r⟩
 ·exact TR.mono h q
 ·trivial
theorem Dj.mono(h:∀a o,σ[a]? = some o->¬Z a->σ'[a]? = some o/\¬X' a)(p:∀(k a:Nat),ρ[k]? = some a->ρ'[k]? = some a):∀{vs:List CV} {ws:List W},Dj Z ρ σ vs ws->Dj X' ρ' σ' vs ws:=by
 intro z1
 induction z1 with
 | nil =>
  intro z4;rcases z4 with _ | ⟨z5,z6⟩
  ·intro z7;exact trivial
  ·intro q;exact q.elim
 | cons z2 z3 ih =>
  intro z8;rcases z8 with _ | ⟨z9,z10⟩
  ·intro q;exact q.elim
  ·intro q;exact⟨q.1.mono h p,ih q.2⟩
theorem UR.mono(h:∀a o,σ[a]? = some o->¬Z a->σ'[a]? = some o/\¬X' a)(p:∀(k a:Nat),ρ[k]? = some a->ρ'[k]? = some a){v:CV}{w:V}(q:UR Z ρ σ v w):UR X' ρ' σ' v w:=by
 rcases w with x | xs
 ·exact WR.mono (w:=x) h p q
 ·refine AE q ?_;clear q;rintro vs e s r;exact⟨vs,e,s,r.mono h p⟩
theorem Bv.mono(h:∀a o,σ[a]? = some o->¬Z a->σ'[a]? = some o/\¬X' a)(p:∀(k a:Nat),ρ[k]? = some a->ρ'[k]? = some a):∀{vs:List CV} {ws:List V},Bv Z ρ σ vs ws->Bv X' ρ' σ' vs ws:=by
 intro z1
 induction z1 with
 | nil =>
  intro z4;rcases z4 with _ | ⟨z5,z6⟩
  ·intro z7;exact trivial
  ·intro q;exact q.elim
 | cons z2 z3 ih =>
  intro z8;rcases z8 with _ | ⟨z9,z10⟩
  ·intro q;exact q.elim
  ·intro q;exact⟨q.1.mono h p,ih q.2⟩
theorem UR.stp(s:AT ρ α σ ρ' α' σ'){v:CV}{w:V}(q:UR (Zx X ρ α) ρ σ v w):UR (Zx X ρ' α') ρ' σ' v w:=q.mono (λz z h n=>s.tr h n) s.pre
theorem Bv.stp(s:AT ρ α σ ρ' α' σ'){v:List CV}{w:List V}(q:Bv (Zx X ρ α) ρ σ v w):Bv (Zx X ρ' α') ρ' σ' v w:=q.mono (λz z h n=>s.tr h n) s.pre
theorem WR.stp(s:AT ρ α σ ρ' α' σ'){v:CV}{w:W}(q:WR (Zx X ρ α) ρ σ v w):WR (Zx X ρ' α') ρ' σ' v w:=q.mono (λz z h n=>s.tr h n) s.pre
theorem AW.stp(s:AT ρ α σ ρ' α' σ'){cloc:Ao}{loc:An}(q:AW (Zx X ρ α) ρ σ cloc loc):AW (Zx X ρ' α') ρ' σ' cloc loc:=λx w h n=>by
 refine Ah (q x w h n) ?_;rintro v e r;exact⟨v,e,r.stp s⟩
theorem KW.mono(h:∀a o,σ[a]? = some o->¬Z a->σ'[a]? = some o/\¬X' a)(p:∀(k a:Nat),ρ[k]? = some a->ρ'[k]? = some a){a:Nat}{o:AO}(e:o≠.dead->σ'[a]? = σ[a]?)(q:KW Z ρ σ a o):KW X' ρ' σ' a o:=by
 rcases o with ts | es | ⟨C,as⟩ | _
 ·refine AE q ?_;clear q;rintro vs h1 h2 h3;exact⟨vs,(e (λz=>nomatch z)).trans h1,h2,h3.mono h⟩
 ·refine AE q ?_;clear q;rintro cs h1 h2 h3;exact⟨cs,(e (λz=>nomatch z)).trans h1,h2,h3.mono h⟩
 ·refine AE q ?_;clear q;rintro cs h1 h2 h3;exact⟨cs,(e (λz=>nomatch z)).trans h1,h2,h3.mono h p⟩
 ·trivial
end
def Sm(E:CX->Prop)(ρ:List Nat)(α:AH)(σ:CH)(x:CM β)(P:β->List Nat->AH->CH->Prop):Prop:=match x σ with
 | .ok b σ'=>∃ρ' α',AT ρ α σ ρ' α' σ'/\P b ρ' α' σ'
 | .exc x σ'=>(∀a o,σ[a]? = some o->¬DY ρ α a->σ'[a]? = some o)/\E x
 | .stuck=>False
section
variable {β γ:Type}{E:CX->Prop}{X Z:Nat->Prop}{ρ ρ':List Nat}{α α':AH}{σ σ':CH}
theorem Sm.ret{b:β}{P:β->List Nat->AH->CH->Prop}(h:P b ρ α σ):Sm E ρ α σ (ret b) P:=⟨ρ,α,AT.refl,h⟩
theorem Sm.ok{x:CM β}{b:β}{P:β->List Nat->AH->CH->Prop}(e:x σ=.ok b σ')(s:AT ρ α σ ρ' α' σ')(h:P b ρ' α' σ'):Sm E ρ α σ x P:=by
 unfold Sm;rw[e];exact⟨ρ',α',s,h⟩
theorem Sm.bnd{x:CM β}{f:β->CM γ}{P:β->List Nat->AH->CH->Prop}{Q:γ->List Nat->AH->CH->Prop}(h:Sm E ρ α σ x P)
  (k:∀b ρ' α' σ',AT ρ α σ ρ' α' σ'->P b ρ' α' σ'->Sm E ρ' α' σ' (f b) Q):Sm E ρ α σ (bnd x f) Q:=by
 unfold Sm at h ⊢;unfold Mine.Internal.bnd;rcases e:x σ with _ | ⟨b,σ1⟩ | ⟨y,σ1⟩
 ·rw[e]at h;exact h.elim
 ·rw[e]at h;refine Ba h ?_;clear h;rintro ρ1 α1 s hp;have z:=k b ρ1 α1 σ1 s hp;unfold Sm at z;dsimp only;rcases e2:f b σ1 with _ | ⟨c,σ2⟩ | ⟨y,σ2⟩
  ·rw[e2]at z;exact z.elim
  ·rw[e2]at z;refine Ba z ?_;clear z;rintro ρ2 α2 s2 hq;exact⟨ρ2,α2,s.trans s2,hq⟩
  ·rw[e2]at z;refine⟨λa o h n=>z.1 a o (s.keep a o h n) λq => ?_,z.2⟩;rcases s.live a q with q | q
   ·exact n q
   ·exact absurd (Hk h) (DA.mpr q)
 ·rw[e]at h;exact h
theorem Sm.mono{x:CM β}{P Q:β->List Nat->AH->CH->Prop}(h:Sm E ρ α σ x P)(k:∀b ρ' α' σ',AT ρ α σ ρ' α' σ'->P b ρ' α' σ'->Q b ρ' α' σ'):Sm E ρ α σ x Q:=by
 unfold Sm at h ⊢
 split at h
 ·refine Ba h ?_;clear h;rintro ρ1 α1 s hp;exact⟨ρ1,α1,s,k _ _ _ _ s hp⟩
 ·exact h
 ·exact h
theorem Sm.eq{x y:CM β}{P:β->List Nat->AH->CH->Prop}(e:y σ=x σ)(h:Sm E ρ α σ x P):Sm E ρ α σ y P:=by
 unfold Sm at h ⊢;rw[e];exact h
set_option tactic.hygienic true in
theorem Sm.out{x:CM β}{P:β->List Nat->AH->CH->Prop}(h:Sm (λz=>False) ρ α σ x P):∃b σ' ρ' α',x σ=.ok b σ'/\AT ρ α σ ρ' α' σ'/\P b ρ' α' σ':=by
 unfold Sm at h
 split at h
 ·rename_i b σ' e;refine Ba h ?_;clear h;rintro ρ' α' s p;exact⟨b,σ',ρ',α',e,s,p⟩
 ·exact h.2.elim
 ·exact h.elim
end
end
variable {ao:AO}{α0:AH}
inductive Al where
 | a
 | b (x:Bool)
 | t (x:T)
 | l (xs:List T)
 | d (es:List (Int×T))
 | st (loc:An) (h:AH)
 | go
 | q (x:T)
inductive Rv where
 | v (x:V)
 | l (ts:List T)
 | d (es:List (Int×T))
variable {r:Rv}
noncomputable abbrev Kq(A:Type):=A->AH->List Al->Prop
noncomputable abbrev EA:=AD->An->Expr->AH->List Al->Kq Rv->Prop
noncomputable abbrev TA:=AD->An->Expr->AH->List Al->Kq Bool->Prop
inductive BS where
 | next
 | ret (v:V)
noncomputable abbrev XA:=List AL->An->AH->List Al->(BS->An->AH->List Al->Prop)->Prop
def Bq(x:Option A)(Q:A->Prop):Prop:=match x with
 | some r=>Q r
 | none=>False
def DZ(dec:Al->Option A)(x:Option A)(as:List Al)(Q:A->List Al->Prop):Prop:=match as with
 | []=>Bq x λr=>Q r []
 | an::r=>match dec an with
  | some y=>x=some y/\Q y r
  | none=>match an with
   | .a=>Bq x λy=>Q y r
   | an=>Bq x λy=>Q y (an::r)
noncomputable def KY:Al->Option Bool | .b x=>some x | _=>none
noncomputable def OK:Al->Option T | .t x=>some x | _=>none
noncomputable def OL:Al->Option (List T) | .l x=>some x | _=>none
noncomputable def AiO:Al->Option (List (Int×T)) | .d x=>some x | _=>none
def Cf(b:Bool)(P:Prop):Prop:=match b with
 | true=>P
 | false=>False
def ID(g:Bool)(as:List Al)(Q:List Al->Prop):Prop:=DZ KY (some g) as λb as=>Cf b (Q as)
noncomputable abbrev Vf(t:T):V:=.w (.fz t)
def Xa(r:Rv)(as:List Al)(Q:Rv->List Al->Prop):Prop:=match as with
 | .q y::as=>r=.v (Vf y)/\Q (.v (Vf y)) as
 | as=>Q r as
noncomputable def frz:Rv->V
 | .v x=>x
 | .l ts=>Vf (.node .lst ts)
 | .d es=>Vf (.node (.dct (es.map (·.1))) (es.map (·.2)))
noncomputable def KZ(α:AH):W->Option (T×AH)
 | .fz t=>some (t,α)
 | .own k=>match α[k]? with
  | some (.lst ts)=>some (.node .lst ts,α.set k .dead)
  | some (.dct es)=>some (.node (.dct (es.map (·.1))) (es.map (·.2)),α.set k .dead)
  | _=>none
 | .junk=>none
noncomputable def K2(α:AH):List W->Option (List T×AH)
 | []=>some ([],α)
 | w::r=>match KZ α w with
  | some (t,α')=>match K2 α' r with
   | some (ts,α2)=>some (t::ts,α2)
   | none=>none
  | none=>none
theorem AiP:∀(α:AH) (w:W) (r:List W),K2 α (w::r)=match KZ α w with | some (t,α')=>(match K2 α' r with | some (ts,α2)=>some (t::ts,α2) | none=>none) | none=>none:=by intros;rfl
noncomputable def IE(α:AH):V->Option (T×AH)
 | .w (.own k)=>match α[k]? with
  | some (.ins C as)=>match K2 (α.set k .dead) (as.map (·.2))with
   | some (ts,α')=>some (.node (.ins C (as.map (·.1))) ts,α')
   | none=>none
  | _=>KZ α (.own k)
 | .w x=>KZ α x
 | .tup ws=>none
noncomputable def Ga(α:AH):List V->Option (List T×AH)
 | []=>some ([],α)
 | v::r=>match IE α v with
  | some (t,α')=>match Ga α' r with
   | some (ts,α2)=>some (t::ts,α2)
   | none=>none
  | none=>none
theorem AiQ:∀(α:AH) (v:V) (r:List V),Ga α (v::r)=match IE α v with | some (t,α')=>(match Ga α' r with | some (ts,α2)=>some (t::ts,α2) | none=>none) | none=>none:=by intros;rfl
noncomputable def Dv(α:AH):V->Option (List T)
 | .w (.own k)=>match α[k]? with
  | some (.lst ts)=>some ts
  | _=>none
 | .w (.fz (.node .lst ts))=>some ts
 | _=>none
noncomputable def Hl(α:AH):V->Option T
 | .w (.own k)=>match α[k]? with
  | some (.lst ts)=>some (.node .lst ts)
  | some (.dct es)=>some (.node (.dct (es.map (·.1))) (es.map (·.2)))
  | _=>none
 | .w (.fz t)=>some t
 | _=>none
noncomputable def K3(α:AH):V->Option (List (Int×T))
 | .w (.own k)=>match α[k]? with
  | some (.dct es)=>some es
  | _=>none
 | .w (.fz (.node (.dct ks) ts))=>some (ks.zip ts)
 | _=>none
noncomputable def RG:T->Option (List T)
 | .node .tup ts=>some ts
 | _=>none
noncomputable def FA:V->Option (List T)
 | .w (.fz t)=>RG t
 | _=>none
noncomputable def RH:V->Option T
 | .w (.fz t)=>some t
 | _=>none
noncomputable def Xb:T->Option Int
 | .int i=>some i
 | _=>none
abbrev Gb(vs:List V)(P:V->Prop):Prop:=match Fs vs with
 | some v=>P v
 | none=>False
noncomputable def K4:List V->Option (List W)
 | []=>some []
 | .w x::r=>match K4 r with
  | some ws=>some (x::ws)
  | none=>none
 | _=>none
noncomputable def G0:AM:={ top:=FW,bins:=EI,attrs:=Kl,meths:=HB,inits:=Gp,clsfn:=Km,excs:=Hj,defs:=λz=>none,fn:=λz=>none }
noncomputable def Xc:Const->Option T
 | .none=>some .none
 | .bool b=>some (.bool b)
 | .int i=>some (.int i)
 | .str x=>some (.str x)
 | _=>none
noncomputable def RI(ks:AD)(loc:An)(x:Ac):Option W:=match C7 x with
 | true=>match ks.lookup x with
  | some .globalImplicit=>match FW.lookup x with
   | some (.int i)=>some (.fz (.int i))
   | _=>none
  | some .local | some .cell | some .free=>match loc.lookup x with
   | some .junk=>none
   | o=>o
  | _=>none
 | false=>none
noncomputable def RJ:V->Option Bool
 | .w (.fz .none)=>some false
 | .w (.fz (.bool b))=>some b
 | .w (.fz (.int i))=>some (i != 0)
 | _=>none
noncomputable def JI(α:AH)(v:V):Option Bool:=match RJ v with
 | some b=>some b
 | none=>ob (Dv α v) λts=>some !ts.isEmpty
noncomputable def Cm:V->Option Int
 | .w (.fz (.int i))=>some i
 | _=>none
noncomputable def Xd(op:Hx)(x y:Int):Option (Bool×Int):=match op with
 | .Add=>some (true,x+y)
 | .Sub=>some (true,x-y)
 | .Mult=>some (decide (x.natAbs<9223372036854775808),x*y)
 | .FloorDiv=>some (decide (y≠0/\y.natAbs<1073741824),x.fdiv y)
 | .Mod=>some (decide (y≠0),x.fmod y)
 | _=>none
noncomputable def RK:Hx->Option Unit
 | .Add=>some ()
 | _=>none
noncomputable def Mt:V->Option Ac
 | .w (.fz (.str x))=>some x
 | _=>none
noncomputable def Mu(op:Hx)(α:AH)(a b:V):Option (Bool×Rv):=match op with
 | .Add=>ob (Dv α a) λxs=>ob (Dv α b) λys=>some (small (xs.length+ys.length),.l (xs++ys))
 | .Mult=>ob (Dv α a) λxs=>ob (Cm b) λn=>some (decide (xs.length*n.toNat<=256/\-9223372036854775808<=n/\n<9223372036854775808) && small (DW n.toNat xs).flatten.length,.l (DW n.toNat xs).flatten)
 | _=>none
noncomputable def RL(op:Hx)(α:AH)(a b:V):Option (Bool×Rv):=match Cm a with
 | some x=>(match Cm b with
  | some y=>ob (Xd op x y) λq=>some (q.1,.v (Vf (.int q.2)))
  | none=>Mu op α a b)
 | none=>match Mt a with
  | some x=>(match Mt b with
   | some y=>ob (RK op) λz=>some (small (x.length+y.length),.v (Vf (.str (x++y))))
   | none=>Mu op α a b)
  | none=>match FA a with
   | some xs=>(match FA b with
    | some ys=>ob (RK op) λz=>some (small (xs.length+ys.length),.v (Vf (.node .tup (xs++ys))))
    | none=>Mu op α a b)
   | none=>Mu op α a b
noncomputable def Eo(f:T->T->Option Bool):List T->List T->Option Bool
 | [],[]=>some true
 | [],_::_=>some false
 | _::_,[]=>some false
 | x::xs,y::ys=>match f x y,Eo f xs ys with
  | some a,some b=>some (a && b)
  | _,_=>none
noncomputable def Ct(es:List (Int×T))(k:Int):Option T:=match es with
 | []=>none
 | (j,v)::r=>if j=k then some v else Ct r k
theorem AiR:∀(k j:Int) (v:T) (r:List (Int×T)),Ct ((j,v)::r) k=if j=k then some v else Ct r k:=by intros;rfl
noncomputable def HP(f:T->T->Option Bool)(fs:List (Int×T)):List (Int×T)->Option Bool
 | []=>some true
 | (k,v)::r=>match Ct fs k with
  | none=>some false
  | some y=>match f v y,HP f fs r with
   | some a,some b=>some (a && b)
   | _,_=>none
theorem AiS:∀(f:T->T->Option Bool) (fs:List (Int×T)) (j:Int) (v:T) (r:List (Int×T)),HP f fs ((j,v)::r)=match Ct fs j with | none=>some false | some y=>match f v y,HP f fs r with | some a,some b=>some (a && b) | x,x_1=>none:=by intros;rfl
noncomputable def Br:Nat->T->T->Option Bool
 | 0,_,_=>none
 | n+1,a,b=>match a,b with
  | .none,.none=>some true
  | .bool x,.bool y=>some (x == y)
  | .int x,.int y=>some (x == y)
  | .str x,.str y=>some (x == y)
  | .node .tup xs,.node .tup ys=>Eo (Br n) xs ys
  | .node .lst xs,.node .lst ys=>if xs.length=ys.length then Eo (Br n) xs ys else some false
  | .node (.dct ks) xs,.node (.dct js) ys=>if xs.length=ys.length then HP (Br n) (js.zip ys) (ks.zip xs)else some false
  | _,_=>none
noncomputable def D3(f:T->T->Option Bool)(x:T):List T->Option Bool
 | []=>some false
 | y::ys=>match f y x,D3 f x ys with
  | some a,some b=>some (a || b)
  | _,_=>none
theorem Xe:∀(f:T->T->Option Bool) (x y:T) (ys:List T),D3 f x (y::ys)=match f y x,D3 f x ys with | some a,some b=>some (a || b) | x,x_1=>none:=by intros;rfl
noncomputable def JJ(α:AH)(t:T)(b:V):Option Bool:=match FA b with
 | some ys=>D3 (Br 20) t ys
 | none=>match Dv α b with
  | some ys=>D3 (Br 20) t ys
  | none=>ob (K3 α b) λes=>ob (Xb t) λk=>some (Ct es k).isSome
noncomputable def K5:V->Option Bool
 | .w (.fz .none)=>some true
 | .w (.fz _)=>some false
 | .w (.own _)=>some false
 | _=>none
noncomputable def Mv(α:AH)(a b:V):Option Bool:=ob (Hl α a) λx=>ob (Hl α b) λy=>Br 20 x y
noncomputable def Mw:V->Option Unit
 | .w (.fz .none)=>some ()
 | _=>none
noncomputable def JK(op:Fl)(α:AH)(a b:V):Option Bool:=match op with
 | .Eq=>Mv α a b
 | .NotEq=>(Mv α a b).map (!·)
 | .Lt=>ob (Cm a) λx=>ob (Cm b) λy=>some (decide (x<y))
 | .LtE=>ob (Cm a) λx=>ob (Cm b) λy=>some (decide (x<=y))
 | .Gt=>ob (Cm a) λx=>ob (Cm b) λy=>some (decide (y<x))
 | .GtE=>ob (Cm a) λx=>ob (Cm b) λy=>some (decide (y<=x))
 | .Is=>ob (Mw b) λz=>K5 a
 | .IsNot=>ob (Mw b) λz=>(K5 a).map (!·)
 | .In=>ob (Hl α a) λt=>JJ α t b
 | .NotIn=>ob (Hl α a) λt=>(JJ α t b).map (!·)
noncomputable def ER(ts:List T)(k:Int):Option T:=if QM k=true then(Np k ts.length).bind (ts[·]?)else none
noncomputable def OM(α:AH)(o i:V):Option T:=ob (Cm i) λk=>match FA o with
 | some ts=>ER ts k
 | none=>match Dv α o with
  | some ts=>ER ts k
  | none=>ob (K3 α o) λes=>Ct es k
noncomputable def RM(α:AH)(v:V)(x:Ac):Option W:=match v with
 | .w (.own k)=>match α[k]? with
  | some (.ins C as)=>match Fu G0 C x with
   | true=>as.lookup x
   | false=>none
  | _=>none
 | .w (.fz (.node (.ins C xs) ts))=>match Fu G0 C x with
  | true=>((xs.zip ts).lookup x).map .fz
  | false=>none
 | _=>none
noncomputable def RN:V->Option (Option Int)
 | .w (.fz .none)=>some none
 | .w (.fz (.int i))=>some (some i)
 | _=>none
noncomputable def Mx(ts:List T)(lo hi:Option Int):List T:=(ts.drop (Nr lo ts.length)).take (kms_hi hi ts.length-Nr lo ts.length)
noncomputable def RO(α:AH)(o a b:V):Option (List T):=ob (Dv α o) λts=>ob (RN a) λlo=>ob (RN b) λhi=>some (Mx ts lo hi)
noncomputable def HQ:List T->Option (List Int)
 | []=>some []
 | .int i::r=>match HQ r with
  | some is=>some (i::is)
  | none=>none
 | _=>none
noncomputable def JL:List V->Option (List Int)
 | []=>some []
 | v::r=>match Cm v,JL r with
  | some i,some is=>some (i::is)
  | _,_=>none
noncomputable def GE(vs:List V):Option (List T):=match JL vs with
 | some is=>(match Fx is with
  | some (a,c,n)=>some ((DM a c n).map .int)
  | none=>none)
 | none=>none
noncomputable def RP(α:AH)(v:V):Option (List Int):=match Dv α v with
 | some ts=>HQ ts
 | none=>match K3 α v with
  | some es=>some (es.map λp=>p.1)
  | none=>none
noncomputable def RQ(α:AH)(v:V):Option (List T):=match RP α v with
 | some is=>if is.length<64 then some ((EM is).map .int)else none
 | none=>none
noncomputable def FB:List T->Option (List Nat)
 | []=>some []
 | .int i::r=>if 0<=i/\i<7 then(match FB r with
  | some l=>some (i.toNat::l)
  | none=>none)else none
 | _=>none
noncomputable def RS(α:AH)(v:V):Option (List T):=match Dv α v with
 | some ts=>match FB ts with
  | some l=>some ((Hd l).map λ(n:Nat)=>T.int (n:Int))
  | none=>none
 | none=>none
noncomputable def My:T->Option (Int×T)
 | .node .tup [.int k,v]=>some (k,v)
 | _=>none
noncomputable def Fa:List T->Option (List (Int×T))
 | []=>some []
 | t::r=>match My t with
  | some p=>(match Fa r with
   | some ps=>some (p::ps)
   | none=>none)
  | none=>none
noncomputable def Cg(es:List (Int×T))(k:Int)(v:T):List (Int×T):=if(es.any λp=>decide (p.1=k))=true then es.map (λp=>if p.1=k then(p.1,v)else p)else es++[(k,v)]
noncomputable def RT(α:AH)(v:V):Option (List (Int×T)):=match Dv α v with
 | some ts=>match Fa ts with
  | some ps=>if ps.length<=1000 then some (ps.foldl (λes p=>Cg es p.1 p.2) [])else none
  | none=>none
 | none=>none
noncomputable def Hm(f:T->T->Option Bool)(v:T):List T->Nat
 | []=>0
 | y::r=>if f y v=some true then 0 else Hm f v r+1
theorem AiT:∀(f:T->T->Option Bool) (v y:T) (ys:List T),Hm f v (y::ys)=if f y v=some true then 0 else Hm f v ys+1:=by intros;rfl
noncomputable def JM(ts:List T)(t:T):Option T:=if D3 (Br 20) t ts=some true then some (.int (Hm (Br 20) t ts))else none
noncomputable def Gc(ts:List T):List T:=ts.zipIdx.map λp=>.node .tup [.int (p.2:Int),p.1]
structure Hs where
 fn:Af->List V->AH->List Al->Kq V->Prop
 cls:Af->List V->AH->List Al->Kq V->Prop
 quiet:Bool
def BU(f:EA)(ks:AD)(loc:An)(e:Expr)(α:AH)(as:List Al)(Q:Kq V):Prop:=f ks loc e α as λr α as=>Q (frz r) α as
noncomputable def D4(f:EA)(ks:AD)(loc:An):List Expr->AH->List Al->Kq (List V)->Prop
 | [],α,as,Q=>Q [] α as
 | e::r,α,as,Q=>match C8 e with
  | true=>False
  | false=>BU f ks loc e α as λv α as=>D4 f ks loc r α as λvs α as=>Q (v::vs) α as
theorem AiU:∀(f:EA) (ks:AD) (loc:An) (x:AH) (x_1:List Al) (x_2:Kq (List V)) (e:Expr) (r:List Expr),D4 f ks loc (e::r) x x_1 x_2=match C8 e with | true=>False | false=>BU f ks loc e x x_1 λ(v:V) (α:AH) (as:List Al)=>D4 f ks loc r α as λ(vs:List V) (α:AH) (as:List Al)=>x_2 (v::vs) α as:=by intros;rfl
abbrev Xf(α:AH)(vs:List V)(as:List Al)(Q:Rv->List Al->Prop):Prop:=Gb vs λv=>match FA v with
  | some ts=>Q (.v (Vf (.int ts.length))) as
  | none=>Bq (Dv α v) λts=>Q (.v (Vf (.int ts.length))) as
abbrev Xg(α:AH)(vs:List V)(as:List Al)(Q:Rv->List Al->Prop):Prop:=Gb vs λv=>match Dv α v with
   | some ts=>Q (.l ts) as
   | none=>Bq (K3 α v) λes=>ID (small es.length) as λas=>Q (.l (es.map λp=>.int p.1)) as
abbrev Xh(α:AH)(vs:List V)(as:List Al)(Q:Rv->List Al->Prop):Prop:=Gb vs λv=>match FA v with
  | some ts=>Q (.v (Vf (.node .tup ts))) as
  | none=>Bq (Dv α v) λts=>Q (.v (Vf (.node .tup ts))) as
abbrev Xi(α:AH)(vs:List V)(as:List Al)(Q:Rv->List Al->Prop):Prop:=Gb vs λv=>DZ OL (RQ α v) as λts as=>Q (.l ts) as
abbrev Xj(α:AH)(vs:List V)(as:List Al)(Q:Rv->List Al->Prop):Prop:=match vs with
  | [a,b]=>Bq (Cm a) λx=>Bq (Cm b) λy=>Q (.v (Vf (.int (if y<x then y else x)))) as
  | _=>False
abbrev Xk(α:AH)(vs:List V)(as:List Al)(Q:Rv->List Al->Prop):Prop:=Gb vs λa=>Bq (Cm a) λx=>ID (decide (x.natAbs<9223372036854775808)) as λas=>Q (.v (Vf (.str (Ab (toString x))))) as
def RU(x:Ac)(α:AH)(vs:List V)(as:List Al)(Q:Rv->List Al->Prop):Prop :=
 if x=Ab "len" then Xf α vs as Q
 else if x=Ab "list" then Xg α vs as Q
 else if x=Ab "tuple" then Xh α vs as Q
 else if x=Ab "sorted" then Xi α vs as Q
 else if x=Ab "min" then Xj α vs as Q
 else if x=Ab "str" then Xk α vs as Q
 else False
def Xl(H:Hs)(f:EA)(ks:AD)(loc:An)(x:Ac)(es:List Expr)(α:AH)(as:List Al)(Q:Kq Rv):Prop:=Cf (EP ks x && noStar es) (match FW.lookup x with
 | some (.ref a)=>D4 f ks loc es α as λvs α as=>(match Gp.lookup a with
  | some _=>H.cls a vs α as λv α as=>Q (.v v) α as
  | none=>H.fn a vs α as λv α as=>Q (.v v) α as)
 | some _=>False
 | none=>match (EI.lookup x).isSome with
  | true=>D4 f ks loc es α as λvs α as=>RU x α vs as λr as=>Q r α as
  | false=>False)
noncomputable def ON(ks:AD)(x:Ac)(es:List Expr):Option Jw:=Jx G0 ks x es
def OO(f:EA)(ks:AD)(loc:An)(k:Jw)(α:AH)(as:List Al)(Q:Kq Rv):Prop:=match k with
 | .rng rs=>D4 f ks loc rs α as λvs α as=>DZ OL (GE vs) as λts as=>Q (.l ts) α as
 | .sset e=>BU f ks loc e α as λv α as=>DZ OL (RS α v) as λts as=>Q (.l ts) α as
 | .dct e=>BU f ks loc e α as λv α as=>DZ AiO (RT α v) as λes as=>Q (.d es) α as
abbrev IG(o:Option AO)(F:List T->Prop):Prop:=match o with
 | some (.lst ts)=>F ts
 | _=>False
abbrev OP(vs:List V)(P:Prop):Prop:=match vs with
 | []=>P
 | _=>False
abbrev Xm(k:Nat)(α:AH)(as:List Al)(Q:Kq Rv)(v:V):Prop:=Bq (IE α v) λp=>IG p.2[k]? λts=>ID (small (ts.length+1)) as λas=>Q (.v (Vf .none)) (p.2.set k (.lst (ts++[p.1]))) as
abbrev RV(k:Nat)(α:AH)(as:List Al)(Q:Kq Rv)(ts us:List T):Prop:=ID (small (ts.length+us.length)) as λas=>Q (.v (Vf .none)) (α.set k (.lst (ts++us))) as
abbrev Xn(k:Nat)(α:AH)(as:List Al)(Q:Kq Rv)(v:V):Prop:=match v with
 | .w (.own j)=>IG α[k]? λts=>IG α[j]? λus=>Cf (!EE k j) (RV k α as Q ts us)
 | .w (.fz (.node .lst us))=>IG α[k]? λts=>RV k α as Q ts us
 | _=>False
abbrev Xo(k:Nat)(α:AH)(as:List Al)(Q:Kq Rv):Prop:=IG α[k]? λts=>DZ OK ts.getLast? as λt as=>Q (.v (Vf t)) (α.set k (.lst ts.dropLast)) as
abbrev Xq(k:Nat)(α:AH)(as:List Al)(Q:Kq Rv):Prop:=IG α[k]? λts=>Q (.v (Vf .none)) (α.set k (.lst ts.reverse)) as
abbrev RW(α:AH)(as:List Al)(Q:Kq Rv)(ts:List T)(v:V):Prop:=Bq (Hl α v) λt=>DZ OK (JM ts t) as λr as=>Q (.v (Vf r)) α as
def RX(k:Nat)(x:Ac)(vs:List V)(α:AH)(as:List Al)(Q:Kq Rv):Prop :=
 if x=Ab "append" then Gb vs (Xm k α as Q)
 else if x=Ab "extend" then Gb vs (Xn k α as Q)
 else if x=Ab "pop" then OP vs (Xo k α as Q)
 else if x=Ab "reverse" then OP vs (Xq k α as Q)
 else if x=Ab "index" then Gb vs λv=>IG α[k]? λts=>RW α as Q ts v
 else False
abbrev RY(H:Hs)(f:EA)(ks:AD)(loc:An)(ov:V)(es:List Expr)(α:AH)(as:List Al)(Q:Kq Rv)(g:Af):Prop:=D4 f ks loc es α as λvs α as=>H.fn g (ov::vs) α as λv α as=>Q (.v v) α as
abbrev Xr(H:Hs)(f:EA)(ks:AD)(loc:An)(k:Nat)(x:Ac)(es:List Expr)(α:AH)(as:List Al)(Q:Kq Rv)(o:Option AO):Prop:=match o with
 | some (.ins C cs)=>Bq ((HB.lookup C).bind (·.lookup x)) λg=>Cf (cs.lookup x).isNone (RY H f ks loc (.w (.own k)) es α as Q g)
 | some (.lst _)=>Cf (KD x) (D4 f ks loc es α as λvs α as=>RX k x vs α as Q)
 | _=>False
def RZ(H:Hs)(f:EA)(ks:AD)(loc:An)(ov:V)(x:Ac)(es:List Expr)(α:AH)(as:List Al)(Q:Kq Rv):Prop:=match ov with
 | .w (.own k)=>Xr H f ks loc k x es α as Q α[k]?
 | .w (.fz (.node (.ins C xs) ts))=>Bq ((HB.lookup C).bind (·.lookup x)) λg=>Cf (!xs.contains x) (RY H f ks loc ov es α as Q g)
 | .w (.fz (.node .lst ts))=>Cf (decide (x=Ab "index")) (D4 f ks loc es α as λvs α as=>Gb vs λv=>RW α as Q ts v)
 | _=>False
def R0(H:Hs)(f:EA)(ks:AD)(loc:An)(fe:Expr)(es:List Expr)(pos:Pos)(α:AH)(as:List Al)(Q:Kq Rv):Prop :=
 let meth:=λ(o:Expr) (x:Ac) (apos:Pos)=>Cf (E4 es apos pos && Ir o) (BU f ks loc o α as λov α as=>RZ H f ks loc ov x es α as Q)
 match B7 fe with
 | some q=>(match ON ks q.1 es with
  | some k=>OO f ks loc k α as Q
  | none=>Xl H f ks loc q.1 es α as Q)
 | none=>match E2 fe with
  | some q=>(match B7 q.1 with
   | some w=>(match HJ G0 ks w.1 q.2.1 with
    | some g=>Cf (E4 es q.2.2 pos) (D4 f ks loc es α as λvs α as=>H.fn g vs α as λv α as=>Q (.v v) α as)
    | none=>meth q.1 q.2.1 q.2.2)
   | none=>meth q.1 q.2.1 q.2.2)
  | none=>False
noncomputable def R3:V->Option (List T)
 | .w (.fz (.node .lst ts))=>some ts
 | .w (.fz (.node .tup ts))=>some ts
 | _=>none
def OQ(f:EA)(ks:AD)(loc:An)(target e:Expr)(α:AH)(as:List Al)(Q:Kq (List T)):Prop :=
 let plain:=BU f ks loc e α as λv α as=>Bq (R3 v) λts=>Q ts α as
 match Jl e with
 | some q=>if q.1=Ab "range" then Cf (CS G0 ks (Ab "range") (.type "range") && noStar q.2.2.1) (D4 f ks loc q.2.2.1 α as λvs α as=>DZ OL (GE vs) as λts as=>Q ts α as)
  else if q.1=Ab "enumerate" then(match Fs q.2.2.1 with
   | some a=>Cf (CS G0 ks (Ab "enumerate") (.type "enumerate") && !C8 a && Ox target) (BU f ks loc a α as λv α as=>match v with
    | .w (.fz (.node .lst ts))=>Q (Gc ts) α as
    | _=>False)
   | none=>False)
  else plain
 | none=>plain
noncomputable def OS:List Expr->List T->Option An
 | [],[]=>some []
 | e::es,v::vs=>ob (B7 e) λq=>ob (OS es vs) λr=>some ((q.1,.fz v)::r)
 | [],_::_=>none
 | _::_,[]=>none
noncomputable def OT(e:Expr)(t:T):Option An:=match B7 e with
 | some q=>some [(q.1,.fz t)]
 | none=>ob (Fq e) λq=>ob (RG t) λvs=>OS q.1 vs
noncomputable def AiV(ks':AD)(loc:An):An:=loc.filter λp=>ks'.lookup p.1 == some Uc || ks'.lookup p.1 == some EG
noncomputable def R4(names:AD)(vars:An):Bool:=vars.all (λp=>names.lookup p.1 == some NameKind.local) && decide ((vars.map (·.1)).Nodup)
noncomputable def Xu(loc:An)(x:Ac):Bool:=match loc.lookup x with
 | none=>false
 | some .junk=>false
 | some _=>true
noncomputable def R5(ks:AD)(loc:An)(scope:Scope):Bool:=(scope.kind == .function) && scope.names.all λp=>(p.2 != .cell) && (p.2 != .local || scope.names.lookup p.1 == some .local) && (p.2 != .free || (Xu loc p.1 && (ks.lookup p.1 == some .cell || ks.lookup p.1 == some .free)))
def Xv(g:TA)(ks:AD)(loc:An)(es:List Expr)(α:AH)(as:List Al)(Q:Kq Bool):Prop:=match es with
 | []=>Q true α as
 | [e]=>g ks loc e α as Q
 | _=>False
def JN(f:EA)(g:TA)(names:AD)(base:An)(target elt:Expr)(ifs:List Expr)(α:AH)(t:T)(as:List Al)(K:Option T->Prop):Prop:=match OT target t with
 | some vars=>Cf (R4 names vars) (Xv g names (vars++base) ifs α as λq α1 as=>match q with
  | true=>BU f names (vars++base) elt α1 as λv α2 z=>(match v with
   | .w (.fz y)=>α2=α/\K (some y)
   | _=>False)
  | false=>α1=α/\K none)
 | none=>False
noncomputable def Cu(B:T->List Al->(Option T->Prop)->Prop):List T->List T->Prop
 | [],rs=>rs=[]
 | t::ts,rs=>∃as o,B t as (λo'=>o'=o)/\match o with
  | some y=>∃rs',rs=y::rs'/\Cu B ts rs'
  | none=>Cu B ts rs
noncomputable def AiW:List Al->Option (List T×List Al)
 | .l rs::as=>some (rs,as)
 | _=>none
def R6(H:Hs)(f:EA)(g:TA)(ks:AD)(loc:An)(elt:Expr)(gens:List GU)(scope:Scope)(α:AH)(as:List Al)(Q:Kq Rv):Prop:=Bq (LN gens) λq=>Cf (R5 ks loc scope && Hg q.2.1 && H.quiet) (OQ f ks loc q.1 q.2.1 α as λts α as=>Bq (AiW as) λp=>Cu (JN f g (Db ks scope.names) (AiV (Db ks scope.names) loc) q.1 elt q.2.2 α) ts p.1/\Q (.l p.1) α p.2)
noncomputable def OU(f:EA)(ks:AD)(loc:An)(op:BoolOp):List Expr->AH->List Al->Kq V->Prop
 | [],_,_,_=>False
 | e::r,α,as,Q=>match r with
  | []=>BU f ks loc e α as Q
  | _=>BU f ks loc e α as λv α as=>Bq (JI α v) λt=>match op,t with
   | .And,false=>Q v α as
   | .Or,true=>Q v α as
   | _,_=>OU f ks loc op r α as Q
noncomputable def K6(f:EA)(ks:AD)(loc:An)(a:V):List Fl->List Expr->AH->List Al->Kq Bool->Prop
 | [op],[e],α,as,Q=>BU f ks loc e α as λb α as=>DZ KY (JK op α a b) as λt as=>Q t α as
 | op::ops,e::es,α,as,Q=>BU f ks loc e α as λb α as=>DZ KY (JK op α a b) as λt as=>match t with
  | true=>K6 f ks loc b ops es α as Q
  | false=>Q false α as
 | _,_,_,_,_=>False
noncomputable def Mz(g:TA)(ks:AD)(loc:An)(op:BoolOp):List Expr->AH->List Al->Kq Bool->Prop
 | [],α,as,Q=>Q (op == .And) α as
 | e::r,α,as,Q=>g ks loc e α as λt α as=>match op,t with
  | .And,false=>Q false α as
  | .Or,true=>Q true α as
  | _,_=>Mz g ks loc op r α as Q
theorem AiX:∀(g:TA) (ks:AD) (loc:An) (op:BoolOp) (x:AH) (x_1:List Al) (x_2:Kq Bool) (e:Expr) (r:List Expr),Mz g ks loc op (e::r) x x_1 x_2=g ks loc e x x_1 λ(t:Bool) (α:AH) (as:List Al)=>match op,t with | BoolOp.And,false=>x_2 false α as | BoolOp.Or,true=>x_2 true α as | x,x_3=>Mz g ks loc op r α as x_2:=by intros;rfl
def MA(f:EA)(ks:AD)(loc:An)(o:Option Expr)(α:AH)(as:List Al)(Q:Kq V):Prop:=match o with
 | none=>Q (Vf .none) α as
 | some e=>BU f ks loc e α as Q
def R7(f:EA)(ks:AD)(loc:An)(o i:Expr)(α:AH)(as:List Al)(Q:Kq Rv):Prop:=match Kt i with
 | some q=>(match q.2.2.1 with
  | none=>BU f ks loc o α as λv α as=>MA f ks loc q.1 α as λx α as=>MA f ks loc q.2.1 α as λy α as=>Bq (RO α v x y) λts=>Q (.l ts) α as
  | some _=>False)
 | none=>BU f ks loc o α as λv α as=>BU f ks loc i α as λk α as=>DZ OK (OM α v k) as λt as=>Q (.v (Vf t)) α as
noncomputable def MB(H:Hs)(f:EA)(g:TA):EA:=λks loc e α as Q=>match e with
 | .Constant k _ _=>Bq (Xc k) λt=>Q (.v (Vf t)) α as
 | .Name x _=>Bq (RI ks loc x) λw=>Q (.v (.w w)) α as
 | .UnaryOp .USub a _=>BU f ks loc a α as λv α as=>Bq (Cm v) λi=>Q (.v (Vf (.int (-i)))) α as
 | .UnaryOp .Not a _=>BU f ks loc a α as λv α as=>Bq (JI α v) λb=>Q (.v (Vf (.bool !b))) α as
 | .BinOp a op b _=>BU f ks loc a α as λx α as=>BU f ks loc b α as λy α as=>Bq (RL op α x y) λp=>ID p.1 as λas=>Xa p.2 as λr as=>Q r α as
 | .BoolOp op es _=>OU f ks loc op es α as λv α as=>Q (.v v) α as
 | .Compare a ops es _=>Cf (!Nw ops es) (BU f ks loc a α as λv α as=>K6 f ks loc v ops es α as λt α as=>Q (.v (Vf (.bool t))) α as)
 | .IfExp t a b _=>g ks loc t α as λq α as=>match q with
  | true=>f ks loc a α as Q
  | false=>f ks loc b α as Q
 | .Tuple es _ _=>D4 f ks loc es α as λvs α as=>Bq (Ga α vs) λp=>Cf (small p.1.length) (Q (.v (Vf (.node .tup p.1))) p.2 as)
 | .List es _=>D4 f ks loc es α as λvs α as=>Bq (Ga α vs) λp=>Cf (small p.1.length) (Q (.l p.1) p.2 as)
 | .Dict [] [] _=>Q (.d []) α as
 | .Attribute o x _=>Cf (Ir o) (BU f ks loc o α as λv α as=>Bq (RM α v x) λw=>Q (.v (.w w)) α as)
 | .Subscript o i _=>R7 f ks loc o i α as Q
 | .Call fe es [] pos=>R0 H f ks loc fe es pos α as Q
 | .ListComp elt gens scope _=>R6 H f g ks loc elt gens scope α as Q
 | _=>False
noncomputable def Xw(f:EA)(g:TA):TA:=λks loc e α as Q=>match e with
 | .UnaryOp .Not a _=>g ks loc a α as λq α as=>Q (!q) α as
 | .BoolOp op es _=>Mz g ks loc op es α as Q
 | .IfExp t a b _=>g ks loc t α as λq α as=>match q with
  | true=>g ks loc a α as Q
  | false=>g ks loc b α as Q
 | .Compare a ops es _=>Cf (!Nw ops es) (BU f ks loc a α as λv α as=>K6 f ks loc v ops es α as Q)
 | e=>BU f ks loc e α as λv α as=>Bq (JI α v) λb=>Q b α as
noncomputable def DP(H:Hs):Nat->EA×TA
 | 0=>(λz z z z z z=>False,λz z z z z z=>False)
 | n+1=>(MB H (DP H n).1 (DP H n).2,Xw (DP H n).1 (DP H n).2)
noncomputable def Gd(x:Ac)(v:W):An->An
 | []=>[(x,v)]
 | (y,w)::r=>if y=x then(x,v)::r else(y,w)::Gd x v r
theorem Xx:∀(x:Ac) (v:W) (y:Ac) (w:W) (r:List (Ac×W)),Gd x v ((y,w)::r)=if y=x then(x,v)::r else(y,w)::Gd x v r:=by intros;rfl
def JO(ks:AD)(x:Ac)(v:V)(loc:An)(K:An->Prop):Prop:=match v with
 | .w w=>(match ks.lookup x with
  | some .local | some .cell=>K (Gd x w loc)
  | _=>False)
 | _=>False
def OV(f:EA)(ks:AD)(t:Expr)(v:V)(loc:An)(α:AH)(as:List Al)(Q:Kq An):Prop:=match B7 t with
 | some q=>JO ks q.1 v loc λl=>Q l α as
 | none=>match E2 t with
  | some q=>BU f ks loc q.1 α as λov α as=>(match ov,v with
   | .w (.own k),.w w=>(match α[k]? with
    | some (.ins C cs)=>Cf (Fu G0 C q.2.1 && decide (cs.length<900)) (Q loc (α.set k (.ins C (Gd q.2.1 w cs))) as)
    | _=>False)
   | _,_=>False)
  | none=>match Ks t with
   | some q=>BU f ks loc q.1 α as λov α as=>BU f ks loc q.2.1 α as λiv α as=>Bq (Cm iv) λj=>(match ov with
    | .w (.own k)=>Bq (IE α v) λp=>(match p.2[k]? with
     | some (.lst ts)=>ID (decide (0<=j/\j<ts.length)) as λas=>Q loc (p.2.set k (.lst (ts.set j.toNat p.1))) as
     | some (.dct es)=>ID (small es.length) as λas=>Q loc (p.2.set k (.dct (Cg es j p.1))) as
     | _=>False)
    | _=>False)
   | none=>False
noncomputable def R8(f:EA)(ks:AD):List Expr->List V->An->AH->List Al->Kq An->Prop
 | [],[],loc,α,as,Q=>Q loc α as
 | t::ts,v::vs,loc,α,as,Q=>OV f ks t v loc α as λloc α as=>R8 f ks ts vs loc α as Q
 | _,_,_,_,_,_=>False
noncomputable def R9:V->Option (List V)
 | .tup ws=>some (ws.map .w)
 | .w (.fz (.node .tup ts))=>some (ts.map Vf)
 | _=>none
def IH(f:EA)(ks:AD)(t:Expr)(v:V)(loc:An)(α:AH)(as:List Al)(Q:Kq An):Prop:=match Fq t with
 | some q=>Bq (R9 v) λvs=>Cf (EE q.1.length vs.length && noStar q.1) (R8 f ks q.1 vs loc α as Q)
 | none=>OV f ks t v loc α as Q
noncomputable def Sa(ks:AD):List Ac->List V->An->(An->Prop)->Prop
 | [],[],loc,K=>K loc
 | x::xs,v::vs,loc,K=>JO ks x v loc λloc=>Sa ks xs vs loc K
 | _,_,_,_=>False
def Sb(f:EA)(ks:AD)(t value:Expr)(v:V)(loc:An)(α:AH)(as:List Al)(Q:Kq An):Prop:=match KM ks [t] value with
 | none=>False
 | some none=>IH f ks t v loc α as Q
 | some (some names)=>Bq (R9 v) λvs=>Cf (EE vs.length names.length) (Sa ks names.reverse vs.reverse loc λl=>Q l α as)
def Sd(r:Rv)(α:AH)(K:V->AH->Prop):Prop:=match r with
 | .v x=>K x α
 | .l ts=>K (.w (.own α.length)) (α++[.lst ts])
 | .d es=>K (.w (.own α.length)) (α++[.dct es])
def MC(f:EA)(ks:AD)(loc:An)(e:Expr)(α:AH)(as:List Al)(Q:Kq V):Prop:=f ks loc e α as λr α as=>Sd r α λv α=>Q v α as
noncomputable def MD(f:EA)(ks:AD)(loc:An):List Expr->AH->List Al->Kq (List V)->Prop
 | [],α,as,Q=>Q [] α as
 | e::r,α,as,Q=>match C8 e with
  | true=>False
  | false=>MC f ks loc e α as λv α as=>MD f ks loc r α as λvs α as=>Q (v::vs) α as
theorem AiY:∀(f:EA) (ks:AD) (loc:An) (x:AH) (x_1:List Al) (x_2:Kq (List V)) (e:Expr) (r:List Expr),MD f ks loc (e::r) x x_1 x_2=match C8 e with | true=>False | false=>MC f ks loc e x x_1 λ(v:V) (α:AH) (as:List Al)=>MD f ks loc r α as λ(vs:List V) (α:AH) (as:List Al)=>x_2 (v::vs) α as:=by intros;rfl
def Se(f f':EA)(ks:AD)(loc:An)(t e:Expr)(α:AH)(as:List Al)(Q:Kq V):Prop:=match Ox t with
 | true=>(match Fq e with
  | some q=>MD f' ks loc q.1 α as λvs α as=>Bq (K4 vs) λws=>Cf (small ws.length) (Q (.tup ws) α as)
  | none=>MC f ks loc e α as Q)
 | false=>MC f ks loc e α as Q
noncomputable def JP(n:Nat):W->W
 | .own k=>if k<n then .own k else .junk
 | w=>w
noncomputable def JQ(n:Nat)(ks:List Ac)(l:An):An:=ks.map λx=>(x,match l.lookup x with
 | some w=>JP n w
 | none=>.junk)
noncomputable def AiZ(n:Nat):AO->AO
 | .ins C as=>.ins C (as.map λp=>(p.1,JP n p.2))
 | o=>o
noncomputable def Ep(n:Nat)(h:AH):AH:=(h.take n).map (AiZ n)
set_option tactic.hygienic true in
noncomputable def BX(B:T->An->AH->List Al->(BS->An->AH->List Al->Prop)->Prop)(n:Nat)(ks:List Ac):List T->An->AH->An->AH->Prop
 | [],l,a,l',a'=>l=l'/\a=a'
 | t::ts,l,a,l',a'=>∃as l1 a1,B t l a as (λfl l2 a2 z=>fl=.next/\JQ n ks l2=l1/\Ep n a2=a1/\n<=a2.length)/\BX B n ks ts l1 a1 l' a'
set_option tactic.hygienic true in
noncomputable def ME(B:T->An->AH->List Al->(BS->An->AH->List Al->Prop)->Prop):List T->An->AH->List Al->(BS->An->AH->List Al->Prop)->Prop
 | [],l,a,as,Q=>Q .next l a as
 | t::ts,l,a,as,Q=>B t l a as λfl l a as=>match fl with
  | .next=>ME B ts l a as Q
  | .ret v=>Q (.ret v) l a as
set_option tactic.hygienic true in
noncomputable def HR(g:An->AH->List Al->Kq Bool->Prop)(B:An->AH->List Al->(BS->An->AH->List Al->Prop)->Prop):Nat->An->AH->An->AH->Prop
 | 0,_,_,_,_=>False
 | n+1,l,a,l',a'=>∃as q a1,g l a as (λq' a2 z=>q'=q/\a2=a1)/\match q with
  | false=>l=l'/\a1=a'
  | true=>∃as l2 a2,B l a1 as (λfl l3 a3 z=>fl=.next/\l3=l2/\a3=a2)/\HR g B n l2 a2 l' a'
noncomputable def Sf:T->Option CV
 | .none=>some .none
 | .bool b=>some (.bool b)
 | .int i=>some (.int i)
 | .str x=>some (.str x)
 | _=>none
noncomputable def OW:List V->Option (List CV)
 | []=>some []
 | v::r=>ob (RH v) λt=>ob (Sf t) λc=>ob (OW r) λcs=>some (c::cs)
def Sg(E:CX->Prop)(f:EA)(ks:AD)(cn:Ac)(es:List Expr)(loc:An)(α:AH)(as:List Al):Prop:=Cf (noStar es && EP ks cn) (match FW.lookup cn with
 | some (.ref C)=>(match Hj.lookup C with
  | some names=>D4 f ks loc es α as λvs α as=>Bq (OW vs) λcs=>Cf (EE cs.length names.length) (E ⟨C,names.zip cs⟩)
  | none=>False)
 | _=>False)
set_option tactic.hygienic true in
noncomputable def K7(E:CX->Prop)(H:Hs)(f f':EA)(g:TA)(ks:AD)(X:XA)(st:AL)(loc:An)(α:AH)(as:List Al)(Q:BS->An->AH->List Al->Prop):Prop:=match st with
 | .Expr e _=>Cf (KN e) (BU f ks loc e α as λz α as=>Q .next loc α as)
 | .Pass _=>Q .next loc α as
 | .Return (some e) _=>BU f ks loc e α as λv α as=>Q (.ret v) loc α as
 | .Return none _=>Q (.ret (Vf .none)) loc α as
 | .Assign [t] value _=>(match HM ks value t with
  | true=>(match value,t with
   | .ListComp elt gens scope _,.Name x _=>R6 H f g ks loc elt gens scope α as λr α as=>Sd r α λv α=>JO ks x v loc λl=>Q .next l α as
   | _,_=>False)
  | false=>Cf (Oz value) (Se f f' ks loc t value α as λv α as=>Sb f ks t value v loc α as λl α as=>Q .next l α as))
 | .Raise (some (.Call (.Name cn _) es [] _)) none _=>Sg E f ks cn es loc α as
 | .If t a b _=>g ks loc t α as λq α as=>match q with
  | true=>X a loc α as Q
  | false=>X b loc α as Q
 | .While t b [] _=>(match as with
  | .st l h::as=>HR (λl=>g ks l t) (X b) 1000 loc α l h/\Q .next l h as
  | _=>False)
 | .For target iter b [] _=>Cf (Hg iter) (OQ f ks loc target iter α as λts α as=>match as with
  | .st l h::as=>BX (λt l a as Q=>IH f ks target (Vf t) l a as λl a as=>X b l a as Q) α.length (loc.map (·.1)) ts loc α l h/\Q .next l h as
  | as=>ME (λt l a as Q=>IH f ks target (Vf t) l a as λl a as=>X b l a as Q) ts loc α as Q)
 | _=>False
set_option tactic.hygienic true in
noncomputable def Sh(S:AL->An->AH->List Al->(BS->An->AH->List Al->Prop)->Prop):XA
 | [],loc,α,as,Q=>Q .next loc α as
 | s::r,loc,α,as,Q=>S s loc α as λfl loc α as=>match fl with
  | .next=>Sh S r loc α as Q
  | .ret v=>Q (.ret v) loc α as
noncomputable def II(E:CX->Prop)(H:Hs)(N:Nat)(ks:AD):Nat->XA
 | 0=>λz z z z z=>False
 | n+1=>Sh (K7 E H (DP H (N+1)).1 (DP H N).1 (DP H (N+1)).2 ks (II E H N ks n))
def VF(k:Nat)(f:Af)(ts:List T)(r:T):Prop:=∀K,BW K->∀(X:Nat->Prop) σ vs,(∀a,X a->a<σ.length)->AA X σ vs ts->∃v σ',C9 (BO K NL k) f vs σ=.ok v σ'/\(∀(a:Nat) o,σ[a]? = some o->σ'[a]? = some o)/\TR X σ' v r
def VC(k:Nat)(C:Af)(ts:List T)(r:T):Prop:=∀K,BW K->∀(X:Nat->Prop) σ vs,(∀a,X a->a<σ.length)->AA X σ vs ts->∃v σ',newC (BO K NL k) C vs σ=.ok v σ'/\(∀(a:Nat) o,σ[a]? = some o->σ'[a]? = some o)/\TR X σ' v r
noncomputable def MF(f:Af):Option C0:=(HC.lookup f).bind (Il pw)
set_option tactic.hygienic true in
noncomputable def K8(E:CX->Prop)(H:Hs)(f:Af)(vs:List V)(α:AH)(as:List Al)(Q:Kq V):Prop:=Bq (MF f) λD=>Bq (K4 vs) λws=>Cf (HN D && EE (D.params.args.map (·.arg)).length ws.length)
 (II E H 39 D.scope.names NL D.body ((D.params.args.map (·.arg)).zip ws) α as λfl z α as=>match fl with
  | .next=>Q (Vf .none) α as
  | .ret v=>Q v α as)
noncomputable def K9(E:CX->Prop)(qt:Bool):Nat->(Af->List V->AH->List Al->Kq V->Prop)×(Af->List V->AH->List Al->Kq V->Prop)
 | 0=>(λz z z z z=>False,λz z z z z=>False)
 | k+1=>(λf vs α as Q=>match as with
   | .t r::as=>Bq (Ga α vs) λp=>VF (k+1) f p.1 r/\Q (Vf r) p.2 as
   | .go::as=>K8 E ⟨(K9 E qt k).1,(K9 E qt k).2,qt⟩ f vs α as Q
   | _=>False,
  λC vs α as Q=>match as with
   | .t r::as=>Bq (Ga α vs) λp=>VC (k+1) C p.1 r/\Q (Vf r) p.2 as
   | .go::as=>Bq (Gp.lookup C) λf=>K8 (λz=>False) ⟨(K9 (λz=>False) true k).1,(K9 (λz=>False) true k).2,true⟩ f (.w (.own α.length)::vs) (α++[.ins C []]) as λv α' as=>(match v with
    | .w (.fz .none)=>Q (.w (.own α.length)) α' as
    | _=>False)
   | _=>False)
noncomputable def Fb(E:CX->Prop)(qt:Bool)(k:Nat):Hs:=⟨(K9 E qt k).1,(K9 E qt k).2,qt⟩
section
theorem BE{x:Option A}{Q:A->Prop}(h:Bq x Q):∃y,x=some y/\Q y:=by
 rcases x with _ | y
 ·exact h.elim
 ·exact⟨y,rfl,h⟩
theorem Ge{dec:Al->Option A}{x:Option A}{as:List Al}{Q:A->List Al->Prop}(h:DZ dec x as Q):∃y as',x=some y/\Q y as':=by
 unfold DZ at h
 split at h
 ·refine Ah (BE h) ?_;rintro y e q;exact⟨y,_,e,q⟩
 ·split at h
  ·exact⟨_,_,h.1,h.2⟩
  ·split at h
   ·refine Ah (BE h) ?_;rintro y e q;exact⟨y,_,e,q⟩
   ·refine Ah (BE h) ?_;rintro y e q;exact⟨y,_,e,q⟩
theorem Ai0{as:List Al}{Q:Rv->List Al->Prop}(h:Xa r as Q):∃as',Q r as':=by
 rcases as with _ | ⟨a,as⟩
 ·exact⟨_,h⟩
 ·rcases a with _ | _ | _ | _ | _ | _ | _ | _<;>first | exact⟨_,h⟩ | exact⟨_,h.1▸h.2⟩
theorem Cx{P:Prop}(h:Cf b P):b=true/\P:=by
 rcases b with _ | _
 ·exact h.elim
 ·exact⟨rfl,h⟩
theorem JR{g:Bool}{as:List Al}{Q:List Al->Prop}(h:ID g as Q):g=true/\∃as',Q as':=by
 refine Ba (Ge h) ?_;rintro y as' e q;injection e with za;subst za
 exact⟨(Cx q).1,_,(Cx q).2⟩
abbrev Xp(X:Nat->Prop)(a:Nat):Nat->Prop:=λb=>X b\/b=a
section
variable {β γ:Type}{E:CX->Prop}{X Z:Nat->Prop}{ρ ρ':List Nat}{α α':AH}{σ σ':CH}
theorem Sm.re{x:CM β}{P Q:β->List Nat->AH->CH->Prop}(h:Sm E ρ α σ x P)(k:∀b ρ' α' σ',AT ρ α σ ρ' α' σ'->P b ρ' α' σ'->∃ρ2 α2,AT ρ α σ ρ2 α2 σ'/\Q b ρ2 α2 σ'):Sm E ρ α σ x Q:=by
 unfold Sm at h ⊢
 split at h
 ·refine Ba h ?_;clear h;rintro ρ1 α1 s hp;exact k _ _ _ _ s hp
 ·exact h
 ·exact h
theorem Sm.pre{x:CM β}{P:β->List Nat->AH->CH->Prop}(s:AT ρ α σ ρ' α' σ)(h:Sm E ρ' α' σ x P):Sm E ρ α σ x P:=by
 unfold Sm at h ⊢
 split at h
 ·refine Ba h ?_;clear h;rintro ρ1 α1 t hp;exact⟨ρ1,α1,s.trans t,hp⟩
 ·refine⟨λa o e n=>h.1 a o e λq => ?_,h.2⟩;rcases s.live a q with q | q
  ·exact n q
  ·exact absurd (Hk e) (DA.mpr q)
 ·exact h
theorem Si{k:Nat}(h:DY ρ (α.set k ao) a):DY ρ α a\/(ρ[k]? = some a/\k<α.length/\ao≠.dead):=by
 refine Bm h ?_;clear h;rintro j o h1 h2 h3
 by_cases e:k=j
 ·subst e;rw[Qd]at h2;rcases q:α[k]? with _ | o'
  ·rw[q]at h2;(exfalso;injection h2)
  ·rw[q]at h2;(injection h2 with za;subst za);exact .inr ⟨h1,(DK.mp q).1,h3⟩
 ·rw[GR e]at h2;exact .inl ⟨j,o,h1,h2,h3⟩
theorem OX{k:Nat}(h:DY ρ (α.set k .dead) a):DY ρ α a:=by
 rcases Si h with h | ⟨_,_,h⟩
 ·exact h
 ·exact absurd rfl h
theorem AT.dead{k:Nat}:AT ρ α σ ρ (α.set k .dead) σ:=⟨AK _,λz z h z=>h,λz z h=>h,λz h=>.inl (OX h)⟩
theorem Sj(s:Au X ρ α σ){k a:Nat}(h:ρ[k]? = some a):¬Zx X ρ (α.set k .dead) a:=by
 rintro(q | ⟨j,o,h1,h2,h3⟩)
 ·exact s.nx a (FU h) q
 ·have e:j=k:=by
   have hj:=(DK.mp h1).1;have hk:=(DK.mp h).1;exact(Aa1 hj s.nd).mp (h1.trans h.symm)
  subst e;rw[Qd]at h2;rcases q:α[j]? with _ | o'
  ·rw[q]at h2;(exfalso;injection h2)
  ·rw[q]at h2;(injection h2 with za;subst za);exact h3 rfl
theorem Au.dead(s:Au X ρ α σ){k:Nat}:Au X ρ (α.set k .dead) σ:=by
 refine⟨by rw[GS];exact s.len,s.nd,s.lt,s.nx,s.xlt,λj a o h1 h2 => ?_⟩
 by_cases e:k=j
 ·subst e;rw[Qd]at h2;rcases q:α[k]? with _ | o'
  ·rw[q]at h2;(exfalso;injection h2)
  ·rw[q]at h2;(injection h2 with za;subst za);trivial
 ·rw[GR e]at h2;exact(s.ob j a o h1 h2).mono (λb ob hb n=>⟨hb,λq=>n (q.imp id OX)⟩) (λz z h=>h) λz=>rfl
theorem Ai1(s:Au X ρ α σ){k a:Nat}{ts:List T}(h:ρ[k]? = some a)(ha:α[k]? = some (.lst ts)):TR (Zx X ρ (α.set k .dead)) σ (.ref a) (.node .lst ts):=by
 refine AE (s.ob k a _ h ha) ?_;rintro vs h1 h2 h3;exact .ofList (Sj s h) h1 h2 (h3.mono λb ob hb n=>⟨hb,λq=>n (q.imp id OX)⟩)
theorem Ai2(s:Au X ρ α σ){k a:Nat}{es:List (Int×T)}(h:ρ[k]? = some a)(ha:α[k]? = some (.dct es)):TR (Zx X ρ (α.set k .dead)) σ (.ref a) (.node (.dct (es.map (·.1))) (es.map (·.2))):=by
 refine AE (s.ob k a _ h ha) ?_;rintro cs h1 h2 h3;rw[h2];exact .ofDict (Sj s h) h1 (h3.mono λb ob hb n=>⟨hb,λq=>n (q.imp id OX)⟩)
theorem OY{w:W}{t:T}{v:CV}(h:KZ α w=some (t,α'))(s:Au X ρ α σ)(r:WR (Zx X ρ α) ρ σ v w):Au X ρ α' σ/\AT ρ α σ ρ α' σ/\TR (Zx X ρ α') σ v t:=by
 unfold KZ at h;rcases w with k | t' | _
 ·refine Ah r ?_;clear r;rintro a h1 rfl;dsimp only at h;rcases q:α[k]? with _ | (ts | es | _ | _)
  case some.lst =>
   rw[q]at h;injection h with za;injection za with za zb;subst za;subst zb
   exact⟨s.dead,AT.dead,Ai1 s h1 q⟩
  case some.dct =>
   rw[q]at h;injection h with za;injection za with za zb;subst za;subst zb
   exact⟨s.dead,AT.dead,Ai2 s h1 q⟩
  all_goals (rw[q]at h;exact(Aw h).elim)
 ·injection h with za;injection za with za zb;subst za;subst zb;exact⟨s,AT.refl,r⟩
 ·exact(Aw h).elim
set_option tactic.hygienic true in
theorem Ai3:∀{ws:List W} {vs:List CV} {α α':AH} {ts:List T},K2 α ws=some (ts,α')->Au X ρ α σ->Dj (Zx X ρ α) ρ σ vs ws->Au X ρ α' σ/\AT ρ α σ ρ α' σ/\AA (Zx X ρ α') σ vs ts:=by
 intro z1
 induction z1 with
 | nil =>
  intro z2;rcases z2 with _ | ⟨z3,z4⟩
  ·intro α α' ts h s r;injection h with za;injection za with za zb;subst za;subst zb;exact⟨s,AT.refl,.nil⟩
  ·intro α α' ts h s r;exact r.elim
 | cons w ws ih =>
  intro z5;rcases z5 with _ | ⟨v,vs⟩
  ·intro α α' ts h s r;exact r.elim
  ·intro α α' ts h s r;rw[AiP]at h
   split at h
   ·rename_i t α1 e
    split at h
    ·rename_i us α2 e2;injection h with za;injection za with za zb;subst za;subst zb
     refine CZ (OY e s r.1) ?_;rintro s1 p1 t1;refine CZ (ih e2 s1 (r.2.mono (λz z h n=>p1.tr h n) p1.pre)) ?_;rintro s2 p2 t2;exact⟨s2,p1.trans p2,.cons (t1.mono λz z h n=>p2.tr h n) t2⟩
    ·exfalso;injection h
   ·exfalso;injection h
theorem OZ{w:V}{t:T}{v:CV}(h:IE α w=some (t,α'))(s:Au X ρ α σ)(r:UR (Zx X ρ α) ρ σ v w):Au X ρ α' σ/\AT ρ α σ ρ α' σ/\TR (Zx X ρ α') σ v t:=by
 unfold IE at h;rcases w with(k | _ | _) | _
 ·dsimp only at h;rcases q:α[k]? with _ | (_ | _ | ⟨C,as⟩ | _)
  case some.ins =>
   rw[q]at h;dsimp only at h;rcases e:K2 (α.set k .dead) (as.map (·.2))with _ | ⟨ts,α1⟩
   ·rw[e]at h;exact(Aw h).elim
   ·rw[e]at h;injection h with za;injection za with za zb;subst za;subst zb
    refine Ah r ?_;clear r;rintro a h1 rfl;refine AE (s.ob k a _ h1 q) ?_;rintro cs g1 g2 g3;have d:AT ρ α σ ρ (α.set k .dead) σ:=AT.dead;refine CZ (Ai3 e s.dead (g3.mono (λz z h n=>d.tr h n) d.pre)) ?_;rintro s2 p2 t2;refine⟨s2,d.trans p2,?_⟩;rw[g2];exact .ofInst (p2.tr g1 (Sj s h1)).2 g1 t2
  all_goals (rw[q]at h;exact OY h s r)
 ·exact OY h s r
 ·exact OY h s r
 ·exact(Aw h).elim
set_option tactic.hygienic true in
theorem Sk:∀{ws:List V} {vs:List CV} {α α':AH} {ts:List T},Ga α ws=some (ts,α')->Au X ρ α σ->Bv (Zx X ρ α) ρ σ vs ws->Au X ρ α' σ/\AT ρ α σ ρ α' σ/\AA (Zx X ρ α') σ vs ts:=by
 intro z1
 induction z1 with
 | nil =>
  intro z2;rcases z2 with _ | ⟨z3,z4⟩
  ·intro α α' ts h s r;injection h with za;injection za with za zb;subst za;subst zb;exact⟨s,AT.refl,.nil⟩
  ·intro α α' ts h s r;exact r.elim
 | cons w ws ih =>
  intro z5;rcases z5 with _ | ⟨v,vs⟩
  ·intro α α' ts h s r;exact r.elim
  ·intro α α' ts h s r;rw[AiQ]at h
   split at h
   ·rename_i t α1 e
    split at h
    ·rename_i us α2 e2;injection h with za;injection za with za zb;subst za;subst zb
     refine CZ (OZ e s r.1) ?_;rintro s1 p1 t1;refine CZ (ih e2 s1 (r.2.mono (λz z h n=>p1.tr h n) p1.pre)) ?_;rintro s2 p2 t2;exact⟨s2,p1.trans p2,.cons (t1.mono λz z h n=>p2.tr h n) t2⟩
    ·exfalso;injection h
   ·exfalso;injection h
theorem O0(s:Au X ρ α σ){k a:Nat}{ao ao':AO}(o':CO)(hk:ρ[k]? = some a)(ha:α[k]? = some ao)(hl:ao≠.dead){b:Nat}{o:CO}(hb:σ[b]? = some o)(n:¬Zx X ρ α b):(σ.set a o')[b]? = some o/\¬Zx X ρ (α.set k ao') b:=by
 have hne:b≠a:=λe=>n (.inr ⟨k,ao,e▸hk,ha,hl⟩);refine⟨by rw[GR (EF hne)];exact hb,λq=>n (q.imp id λq => ?_)⟩
 rcases Si q with q | ⟨q,_,_⟩
 ·exact q
 ·rw[hk]at q;injection q with za;subst za
  exact absurd rfl hne
theorem Au.put(s:Au X ρ α σ){k a:Nat}{ao ao':AO}(o':CO)(hk:ρ[k]? = some a)(ha:α[k]? = some ao)(hl:ao≠.dead)(hr:KW (Zx X ρ (α.set k ao')) ρ (σ.set a o') a ao'):Au X ρ (α.set k ao') (σ.set a o'):=by
 refine⟨by rw[GS];exact s.len,s.nd,λb hb=>by rw[GS];exact s.lt b hb,s.nx,λb hb=>by rw[GS];exact s.xlt b hb,λj b o h1 h2 => ?_⟩
 by_cases e:k=j
 ·subst e;rw[Qd,ha]at h2;injection h2 with za;subst za
  rw[hk]at h1;injection h1 with za;subst za
  exact hr
 ·rw[GR e]at h2;refine(s.ob j b o h1 h2).mono (λc oc hc n=>O0 s o' hk ha hl hc n) (λz z h=>h) λz => ?_;refine GR λq=>e ?_;subst q;exact(Aa1 (DK.mp hk).1 s.nd).mp (hk.trans h1.symm)
theorem AT.put(s:Au X ρ α σ){k a:Nat}{ao ao':AO}(o':CO)(hk:ρ[k]? = some a)(ha:α[k]? = some ao)(hl:ao≠.dead):AT ρ α σ ρ (α.set k ao') (σ.set a o'):=by
 refine⟨by rw[GS];exact AK _,λb o hb n => ?_,λz z h=>h,λb q=>.inl ?_⟩
 ·rw[GR (λe:a=b=>n ⟨k,ao,e▸hk,ha,hl⟩)];exact hb
 ·rcases Si q with q | ⟨q,_,_⟩
  ·exact q
  ·exact⟨k,ao,q,ha,hl⟩
theorem O1{o o':CO}(h:σ[a]? = some o):(σ.set a o')[a]? = some o':=by
 rw[Qd,h];rfl
theorem O2(s:Au X ρ α σ)(o':CO){b:Nat}{o:CO}(hb:σ[b]? = some o)(n:¬Zx X ρ α b):(σ++[o'])[b]? = some o/\¬Zx (Xp X σ.length) ρ α b:=by
 refine⟨by rw[Gm (Hk hb)];exact hb,?_⟩
 rintro((q | q) | q)
 ·exact n (.inl q)
 ·exact absurd (Hk hb) (by rw[q];exact BP _)
 ·exact n (.inr q)
theorem O3(o':CO):(σ++[o'])[σ.length]? = some o':=by
 rw[IY (AK _),Lo];rfl
theorem Au.lay(s:Au X ρ α σ)(o':CO):Au (Xp X σ.length) ρ α (σ++[o']):=by
 have hl:(σ++[o']).length=σ.length+1:=by rw[Bg];rfl
 refine⟨s.len,s.nd,λb hb=>by rw[hl];exact NH (s.lt b hb),λb hb => ?_,λb hb => ?_,λj b o h1 h2 => ?_⟩
 ·rintro(q | q)
  ·exact s.nx b hb q
  ·exact absurd (s.lt b hb) (by rw[q];exact BP _)
 ·rw[hl];rcases hb with q | q
  ·exact NH (s.xlt b q)
  ·rw[q];exact Je _
 ·exact(s.ob j b o h1 h2).mono (λc oc hc n=>O2 s o' hc n) (λz z h=>h) λz=>Gm (s.lt b (FU h1))
theorem AT.lay(o':CO):AT ρ α σ ρ α (σ++[o']) :=
 ⟨by rw[Bg];exact GQ _ _,λb o hb n=>by rw[Gm (Hk hb)];exact hb,λz z h=>h,λb q=>.inl q⟩
theorem Au.free(s:Au (Xp X a) ρ α σ):Au X ρ α σ :=
 ⟨s.len,s.nd,s.lt,λb hb q=>s.nx b hb (.inl q),λb hb=>s.xlt b (.inl hb),λj b o h1 h2=>(s.ob j b o h1 h2).mono (λc oc hc n=>⟨hc,λq=>n (q.imp .inl id)⟩) (λz z h=>h) λz=>rfl⟩
theorem Xy{b:Nat}(hlen:ρ.length=α.length)(h:DY (ρ++[a]) (α++[ao]) b):DY ρ α b\/b=a:=by
 refine Bm h ?_;clear h;rintro j o h1 h2 h3;rcases TF j ρ.length with q | q | q
 ·rw[Gm q]at h1;rw[Gm (hlen▸q)]at h2;exact .inl ⟨j,o,h1,h2,h3⟩
 ·subst q;rw[IY (AK _),Lo]at h1;injection h1 with za;subst za
  exact .inr rfl
 ·rw[Gn (by rw[Bg];exact q)]at h1
  exfalso;injection h1
theorem Sl(s:Au (Xp X a) ρ α σ){b:Nat}{o:CO}(hb:σ[b]? = some o)(n:¬Zx (Xp X a) ρ α b):σ[b]? = some o/\¬Zx X (ρ++[a]) (α++[ao]) b:=by
 refine⟨hb,?_⟩;rintro(q | q)
 ·exact n (.inl (.inl q))
 ·rcases Xy s.len q with q | q
  ·exact n (.inr q)
  ·exact n (.inl (.inr q))
theorem Xz(j b:Nat)(h:ρ[j]? = some b):(ρ++[a])[j]? = some b:=by
 rw[Gm (DK.mp h).1];exact h
theorem Au.own(s:Au (Xp X a) ρ α σ)(hX:¬X a)(hr:KW (Zx X (ρ++[a]) (α++[ao])) (ρ++[a]) σ a ao):Au X (ρ++[a]) (α++[ao]) σ:=by
 have hna:a∉ρ:=λh=>s.nx a h (.inr rfl);refine⟨by rw[Bg,Bg,s.len];rfl,?_,λb hb => ?_,λb hb q => ?_,λb hb=>s.xlt b (.inl hb),λj b o h1 h2 => ?_⟩
 ·refine FL.mpr ⟨s.nd,Dm.mpr ⟨nofun,G1⟩,λb hb c hc => ?_⟩
  rw[Cr]at hc;rintro rfl;exact hna (hc▸hb)
 ·rcases BF.mp hb with hb | hb
  ·exact s.lt b hb
  ·rw[Cr]at hb;rw[hb];exact s.xlt a (.inr rfl)
 ·rcases BF.mp hb with hb | hb
  ·exact s.nx b hb (.inl q)
  ·rw[Cr]at hb;exact hX (hb▸q)
 ·rcases TF j ρ.length with q | q | q
  ·rw[Gm q]at h1;rw[Gm (s.len▸q)]at h2;exact(s.ob j b o h1 h2).mono (λc oc hc n=>Sl s hc n) Xz λz=>rfl
  ·subst q;rw[IY (AK _),Lo]at h1;rw[s.len,IY (AK _),Lo]at h2;injection h1 with za;subst za
   injection h2 with za;subst za
   exact hr
  ·rw[Gn (by rw[Bg];exact q)]at h1
   exfalso;injection h1
def Er(X:Nat->Prop)(n:Nat)(ρ:List Nat)(α:AH)(σ:CH)(b:CV):Rv->Prop
 | .v x=>Au X ρ α σ/\UR (Zx X ρ α) ρ σ b x
 | .l ts=>∃a vs,b=.ref a/\n<=a/\¬X a/\σ[a]? = some (.list vs)/\small vs.length=true/\Au (Xp X a) ρ α σ/\AA (Zx (Xp X a) ρ α) σ vs ts
 | .d es=>∃(a:Nat) (cs:List (Int×CV)),b=.ref a/\n<=a/\¬X a/\σ[a]? = some (.dict cs)/\es.map (·.1)=cs.map (·.1)/\Au (Xp X a) ρ α σ/\AA (Zx (Xp X a) ρ α) σ (cs.map (·.2)) (es.map (·.2))
theorem XB(s:Au (Xp X a) ρ α σ)(hX:¬X a):¬Zx X ρ α a:=by
 rintro(q | ⟨j,o,h1,_⟩)
 ·exact hX q
 ·exact s.nx a (FU h1) (.inr rfl)
theorem Er.frz{b:CV}(h:Er X n ρ α σ b r):Au X ρ α σ/\UR (Zx X ρ α) ρ σ b (frz r):=by
 rcases r with x | ts | es
 ·exact h
 ·refine Kj h ?_;clear h;rintro a vs rfl h1 hX h2 h3 s h4;exact⟨s.free,TR.ofList (XB s hX) h2 h3 (h4.mono λc oc hc n=>⟨hc,λq=>n (q.imp .inl id)⟩)⟩
 ·refine Kj h ?_;clear h;rintro a cs rfl h1 hX h2 h3 s h4;refine⟨s.free,?_⟩;show TR _ σ (.ref a) (.node (.dct (es.map (·.1))) (es.map (·.2)));rw[h3];exact TR.ofDict (XB s hX) h2 (h4.mono λc oc hc n=>⟨hc,λq=>n (q.imp .inl id)⟩)
theorem Sn(h:ρ.length=α.length)(a:Nat):(ρ++[a])[α.length]? = some a:=by
 rw[<- h,IY (AK _),Lo];rfl
theorem AT.own(p:AT ρ0 α0 σ0 ρ α σ)(hlen:ρ.length=α.length)(h:σ0.length<=a):AT ρ0 α0 σ0 (ρ++[a]) (α++[ao]) σ :=
 ⟨p.len,p.keep,λk b e=>Xz k b (p.pre k b e),λb q=>(Xy hlen q).elim (λq=>p.live b q) λq=>.inr (q▸h)⟩
theorem Er.own{b:CV}{K:V->AH->Prop}(p:AT ρ0 α0 σ0 ρ α σ)(h:Er X σ0.length ρ α σ b r)(k:Sd r α K):∃ρ' α' v,AT ρ0 α0 σ0 ρ' α' σ/\Au X ρ' α' σ/\UR (Zx X ρ' α') ρ' σ b v/\K v α':=by
 rcases r with x | ts | es
 ·exact⟨ρ,α,x,p,h.1,h.2,k⟩
 ·refine Kj h ?_;clear h;rintro a vs rfl h1 hX h2 h3 s h4;exact⟨ρ++[a],α++[AO.lst ts],.w (.own α.length),p.own s.len h1,s.own (ao:=.lst ts) hX ⟨vs,h2,h3,h4.mono λc oc hc n=>Sl s hc n⟩,⟨a,Sn s.len a,rfl⟩,k⟩
 ·refine Kj h ?_;clear h;rintro a cs rfl h1 hX h2 h3 s h4;exact⟨ρ++[a],α++[AO.dct es],.w (.own α.length),p.own s.len h1,s.own (ao:=.dct es) hX ⟨cs,h2,h3,h4.mono λc oc hc n=>Sl s hc n⟩,⟨a,Sn s.len a,rfl⟩,k⟩
theorem Er.newList(s:Au X ρ α σ){vs:List CV}{ts:List T}(h:AA (Zx X ρ α) σ vs ts)(z:small vs.length=true){n:Nat}(hn:n<=σ.length):Er X n ρ α (σ++[.list vs]) (.ref σ.length) (.l ts) :=
 ⟨σ.length,vs,rfl,hn,λq=>BP _ (s.xlt _ q),O3 _,z,s.lay _,h.mono λx x hc n=>O2 s _ hc n⟩
theorem Er.newDict(s:Au X ρ α σ){cs:List (Int×CV)}{es:List (Int×T)}(e:es.map (·.1)=cs.map (·.1))(h:AA (Zx X ρ α) σ (cs.map (·.2)) (es.map (·.2))){n:Nat}(hn:n<=σ.length):Er X n ρ α (σ++[.dict cs]) (.ref σ.length) (.d es) :=
 ⟨σ.length,cs,rfl,hn,λq=>BP _ (s.xlt _ q),O3 _,e,s.lay _,h.mono λz z hc n=>O2 s _ hc n⟩
theorem Er.le{m:Nat}{b:CV}(h:Er X n ρ α σ b r)(e:m<=n):Er X m ρ α σ b r:=by
 rcases r with x | ts | es
 ·exact h
 ·refine Bm h ?_;clear h;rintro a vs h0 h1 h;exact⟨a,vs,h0,AC e h1,h⟩
 ·refine Bm h ?_;clear h;rintro a vs h0 h1 h;exact⟨a,vs,h0,AC e h1,h⟩
end
end
section
abbrev DQ:Nat->Prop:=λz=>False
section
variable {E:CX->Prop}{X Z:Nat->Prop}{ρ ρ':List Nat}{α α':AH}{σ σ':CH}
theorem TR.any{v:CV}{t:T}(h:TR Z σ v t):TR DQ σ v t:=h.mono λz z e z=>⟨e,id⟩
theorem AA.any{v:List CV}{t:List T}(h:AA Z σ v t):AA DQ σ v t:=h.mono λz z e z=>⟨e,id⟩
theorem Dk{vs:List CV}(e:σ[a]? = some (.list vs))(z:small vs.length=true):listC a σ=.ok vs σ:=by
 unfold listC;rw[e];exact if_pos z
theorem O4{vs:List CV}(e:σ[a]? = some (.list vs)):G7 a σ=true:=by unfold G7;rw[e]
theorem O5{cs:List (Int×CV)}(e:σ[a]? = some (.dict cs)):G7 a σ=false:=by unfold G7;rw[e]
theorem O6{cs:List (Int×CV)}(e:σ[a]? = some (.dict cs)):Ft a σ=.ok cs σ:=by unfold Ft;rw[e]
theorem XC{cs:List (Ac×CV)}(e:σ[a]? = some (.inst C cs)):Gy a σ=.ok (C,cs) σ:=by unfold Gy;rw[e]
theorem So(s:Au X ρ α σ){k:Nat}{ts:List T}{v:CV}(h:α[k]? = some (.lst ts))(r:WR (Zx X ρ α) ρ σ v (.own k)):∃a vs,v=.ref a/\ρ[k]? = some a/\σ[a]? = some (.list vs)/\small vs.length=true/\AA (Zx X ρ α) σ vs ts:=by
 refine Ah r ?_;clear r;rintro a h1 rfl;refine AE (s.ob k a _ h1 h) ?_;rintro vs h2 h3 h4;exact⟨a,vs,rfl,h1,h2,h3,h4⟩
theorem Sp(s:Au X ρ α σ){k:Nat}{es:List (Int×T)}{v:CV}(h:α[k]? = some (.dct es))(r:WR (Zx X ρ α) ρ σ v (.own k)):∃(a:Nat) (cs:List (Int×CV)),v=.ref a/\ρ[k]? = some a/\σ[a]? = some (.dict cs)/\es.map (·.1)=cs.map (·.1)/\AA (Zx X ρ α) σ (cs.map (·.2)) (es.map (·.2)):=by
 refine Ah r ?_;clear r;rintro a h1 rfl;refine AE (s.ob k a _ h1 h) ?_;rintro vs h2 h3 h4;exact⟨a,vs,rfl,h1,h2,h3,h4⟩
theorem FD(s:Au X ρ α σ){v:V}{ts:List T}{cv:CV}(h:Dv α v=some ts)(r:UR (Zx X ρ α) ρ σ cv v):∃a vs,cv=.ref a/\σ[a]? = some (.list vs)/\small vs.length=true/\AA (Zx X ρ α) σ vs ts:=by
 rcases v with p | _
 ·rcases p with k | t | _
  ·have h:(match α[k]? with | some (.lst ts)=>some ts | _=>none)=some ts:=h
   rcases e:α[k]? with _ | o
   ·rw[e]at h;(exfalso;injection h)
   ·rw[e]at h;rcases o with us | _ | _ | _
    case lst =>
     injection h with za;subst za
     refine Bm (So s e r) ?_;rintro a vs h1 _ h2;exact⟨a,vs,h1,h2⟩
    all_goals (exfalso;injection h)
  ·rcases t with _ | _ | _ | _ | ⟨k,us⟩
   case node =>
    rcases k with _ | _ | _ | _
    case lst =>
     obtain rfl:=(Ay h).symm;have r':TR (Zx X ρ α) σ cv (.node .lst ts):=r;refine AI r'.lst_ref ?_;rintro a rfl;rcases r'.list with⟨_,vs,h1,h2,h3⟩
     exact⟨a,vs,rfl,h1,h2,h3⟩
    all_goals (exfalso;injection h)
   all_goals (exfalso;injection h)
  ·exfalso;injection h
 ·exfalso;injection h
theorem Sq{ks:List Int}{ts:List T}(h:ks.length=ts.length):(ks.zip ts).map (·.1)=ks:=List.map_fst_zip (Lm h)
theorem Sr{ks:List Int}{ts:List T}(h:ks.length=ts.length):(ks.zip ts).map (·.2)=ts:=List.map_snd_zip (Lm h.symm)
theorem O7(s:Au X ρ α σ){v:V}{es:List (Int×T)}{cv:CV}(h:K3 α v=some es)(r:UR (Zx X ρ α) ρ σ cv v):∃(a:Nat) (cs:List (Int×CV)),cv=.ref a/\σ[a]? = some (.dict cs)/\es.map (·.1)=cs.map (·.1)/\AA (Zx X ρ α) σ (cs.map (·.2)) (es.map (·.2)):=by
 rcases v with p | _
 ·rcases p with k | t | _
  ·have h:(match α[k]? with | some (.dct es)=>some es | _=>none)=some es:=h
   rcases e:α[k]? with _ | o
   ·rw[e]at h;(exfalso;injection h)
   ·rw[e]at h;rcases o with _ | us | _ | _
    case dct =>
     injection h with za;subst za
     refine Bm (Sp s e r) ?_;rintro a vs h1 _ h2;exact⟨a,vs,h1,h2⟩
    all_goals (exfalso;injection h)
  ·rcases t with _ | _ | _ | _ | ⟨k,ts⟩
   case node =>
    rcases k with _ | _ | ks | _
    case dct =>
     injection h with za;subst za
     have r':TR (Zx X ρ α) σ cv (.node (.dct ks) ts):=r;refine AI r'.dct_ref ?_;rintro a rfl;rcases r'.dict with⟨_,cs,h1,h2,h3⟩
     have hl:ks.length=ts.length:=by rw[h2,<- h3.len,AG,AG]
     exact⟨a,cs,rfl,h1,by rw[Sq hl,h2],by rw[Sr hl];exact h3⟩
    all_goals (exfalso;injection h)
   all_goals (exfalso;injection h)
  ·exfalso;injection h
 ·exfalso;injection h
theorem MG(s:Au X ρ α σ){v:V}{t:T}{cv:CV}(h:Hl α v=some t)(r:UR (Zx X ρ α) ρ σ cv v):TR DQ σ cv t:=by
 unfold Hl at h;rcases v with(k | _ | _) | _
 ·dsimp only at h;rcases e:α[k]? with _ | (_ | _ | _ | _)
  case some.lst =>
   rw[e]at h;injection h with za;subst za
   refine Ji (So s e r) ?_;rintro a vs rfl _ h2 h3 h4;exact .ofList id h2 h3 h4.any
  case some.dct =>
   rw[e]at h;injection h with za;subst za
   refine Ji (Sp s e r) ?_;rintro a vs rfl _ h2 h3 h4;rw[h3];exact .ofDict id h2 h4.any
  all_goals (rw[e]at h;exact(Aw h).elim)
 ·injection h with za;subst za
  exact TR.any r
 ·exact(Aw h).elim
 ·exact(Aw h).elim
theorem Ai4{f:T->T->Option Bool}{t u:T}{ts us:List T}(h:Eo f (t::ts) (u::us)=some b):∃x y,f t u=some x/\Eo f ts us=some y/\b=(x && y):=by
 have h:(match f t u,Eo f ts us with | some a,some b=>some (a && b) | _,_=>none)=some b:=h
 rcases e1:f t u with _ | x
 ·rw[e1]at h;(exfalso;injection h)
 ·rcases e2:Eo f ts us with _ | y
  ·rw[e1,e2]at h;(exfalso;injection h)
  ·rw[e1,e2]at h;exact⟨x,y,rfl,rfl,(Ay h).symm⟩
theorem XD{f:T->T->Option Bool}{g:CV->CV->Option Bool}(hf:∀{v w:CV} {t u:T} {b:Bool},TR DQ σ v t->TR DQ σ w u->f t u=some b->g v w=some b):∀{vs ws:List CV} {ts us:List T} {b:Bool},AA DQ σ vs ts->AA DQ σ ws us->Eo f ts us=some b->G6 g vs ws=some b:=by
 intro vs ws ts us b h1
 induction ts generalizing vs ws us b with
 | nil =>
  rw[h1.nil_inv];intro h2 h;rcases us with _ | ⟨_,_⟩
  ·rw[h2.nil_inv];exact h
  ·refine Bm h2.cons_inv ?_;rintro _ _ e _ _;rw[e];exact h
 | cons t ts ih =>
  refine Bm h1.cons_inv ?_;rintro v vs e a r;rw[e];intro h2 h;rcases us with _ | ⟨u,us⟩
  ·rw[h2.nil_inv];exact h
  ·refine Bm h2.cons_inv ?_;rintro w ws e a' r';refine Bm (Ai4 h) ?_;rintro x y e1 e2 e3;rw[e,e3,QH,hf a a' e1,ih r r' e2]
theorem Ss:∀{es:List (Int×T)} {cs:List (Int×CV)} {k:Int},es.map (·.1)=cs.map (·.1)->AA Z σ (cs.map (·.2)) (es.map (·.2))->match Ct es k with
  | none=>EL cs k=none
  | some t=>∃v,EL cs k=some v/\TR Z σ v t:=by
 intro z1
 induction z1 with
 | nil =>
  intro z3;rcases z3 with _ | ⟨z4,z5⟩
  ·intro k e r;exact rfl
  ·intro k e r;exfalso;injection e
 | cons z2 es ih =>
  rcases z2 with⟨j,t⟩
  intro z6;rcases z6 with _ | ⟨z7,cs⟩
  ·intro k e r;exfalso;injection e
  ·rcases z7 with⟨j',v⟩
   intro k e r;rw[Bj,Bj,Jg]at e;refine At e ?_;clear e;rintro e1 e2;subst e1;rcases r with _ | ⟨a,r⟩
   ·rw[AiR,QI]
    by_cases q:j=k
    ·rw[if_pos q,if_pos q];exact⟨_,rfl,a⟩
    ·rw[if_neg q,if_neg q];exact ih e2 r
set_option tactic.hygienic true in
theorem Ai5{f:T->T->Option Bool}{g:CV->CV->Option Bool}(hf:∀{v w:CV} {t u:T} {b:Bool},TR DQ σ v t->TR DQ σ w u->f t u=some b->g v w=some b){fs:List (Int×T)}{gs:List (Int×CV)}(e0:fs.map (·.1)=gs.map (·.1))(r0:AA DQ σ (gs.map (·.2)) (fs.map (·.2))) :
  ∀{es:List (Int×T)} {cs:List (Int×CV)} {b:Bool},es.map (·.1)=cs.map (·.1)->AA DQ σ (cs.map (·.2)) (es.map (·.2))->HP f fs es=some b->Gs g gs cs=some b:=by
 intro es
 induction es with
 | nil =>
  intro cs b e r h;rcases cs with _ | _
  ·exact h
  ·exfalso;injection e
 | cons p es ih =>
  rcases p with⟨j,t⟩
  intro cs b e r h;rcases cs with _ | ⟨⟨j',v⟩,cs⟩
  ·exfalso;injection e
  ·rw[Bj,Bj,Jg]at e;refine At e ?_;clear e;rintro e1 e2;subst e1;refine Bm r.cons_inv ?_;rintro v' ws e9 a r;refine At (List.cons.inj e9) ?_;rintro rfl rfl;have z:=Ss (k:=j) e0 r0;rw[AiS]at h;rw[QJ];rcases q:Ct fs j with _ | u
   ·rw[q]at z h;rw[z];exact h
   ·rw[q]at z h;refine Ah z ?_;clear z;rintro w hw hr;rw[hw];dsimp only at h ⊢
    split at h
    ·rename_i x y h1 h2;rw[hf a hr h1,ih e2 r h2];exact h
    ·exfalso;injection h
inductive IJ(f:T->T->Option Bool):T->T->Bool->Prop
 | none:IJ f .none .none true
 | bool (x y:Bool):IJ f (.bool x) (.bool y) (x == y)
 | int (x y:Int):IJ f (.int x) (.int y) (x == y)
 | str (x y:Ac):IJ f (.str x) (.str y) (x == y)
 | tup {xs ys:List T} {b:Bool} (h:Eo f xs ys=some b):IJ f (.node .tup xs) (.node .tup ys) b
 | lst {xs ys:List T} {b:Bool} (h:(if xs.length=ys.length then Eo f xs ys else some false)=some b):IJ f (.node .lst xs) (.node .lst ys) b
 | dct {ks js:List Int} {xs ys:List T} {b:Bool} (h:(if xs.length=ys.length then HP f (js.zip ys) (ks.zip xs)else some false)=some b):IJ f (.node (.dct ks) xs) (.node (.dct js) ys) b
theorem Ai6{t u:T}(h:Br (n+1) t u=some b):IJ (Br n) t u b:=by
 rcases t with _ | x | x | x | ⟨k,xs⟩
 ·rcases u with _ | _ | _ | _ | ⟨_,_⟩
  case none=>obtain rfl:=Ay h;exact .none
  all_goals exact(Aw h).elim
 ·rcases u with _ | y | _ | _ | ⟨_,_⟩
  case bool=>obtain rfl:=Ay h;exact .bool x y
  all_goals exact(Aw h).elim
 ·rcases u with _ | _ | y | _ | ⟨_,_⟩
  case int=>obtain rfl:=Ay h;exact .int x y
  all_goals exact(Aw h).elim
 ·rcases u with _ | _ | _ | y | ⟨_,_⟩
  case str=>obtain rfl:=Ay h;exact .str x y
  all_goals exact(Aw h).elim
 ·rcases k with _ | _ | ks | ⟨C,zs⟩
  ·rcases u with _ | _ | _ | _ | ⟨_ | _ | _ | ⟨_,_⟩,ys⟩
   case node.tup=>exact .tup h
   all_goals exact(Aw h).elim
  ·rcases u with _ | _ | _ | _ | ⟨_ | _ | _ | ⟨_,_⟩,ys⟩
   case node.lst=>exact .lst h
   all_goals exact(Aw h).elim
  ·rcases u with _ | _ | _ | _ | ⟨_ | _ | js | ⟨_,_⟩,ys⟩
   case node.dct=>exact .dct h
   all_goals exact(Aw h).elim
  ·exact(Aw h).elim
theorem TR.none_inv{v:CV}(h:TR X σ v .none):v=.none:=by
 rcases h with _ | _ | _ | _ | _ | _
 rfl
theorem TR.bool_inv{v:CV}{x:Bool}(h:TR X σ v (.bool x)):v=.bool x:=by
 rcases h with _ | _ | _ | _ | _ | _
 rfl
theorem TR.str_inv{v:CV}(h:TR X σ v (.str x)):v=.str x:=by
 rcases h with _ | _ | _ | _ | _ | _
 rfl
set_option tactic.hygienic true in
theorem Su:∀(n:Nat) {v w:CV} {t u:T} {b:Bool},TR DQ σ v t->TR DQ σ w u->Br n t u=some b->Cd σ n v w=some b:=by
 intro n
 induction n with
 | zero=>intro v w t u b _ _ h;exact(Aw h).elim
 | succ n ih =>
  intro v w t u b hv hw h;have q:=Ai6 h;clear h;rcases q with _ | ⟨x,y⟩ | ⟨x,y⟩ | ⟨x,y⟩ | h | h | h
  ·rw[hv.none_inv,hw.none_inv];rfl
  ·rw[hv.bool_inv,hw.bool_inv];rfl
  ·rw[hv.int_inv,hw.int_inv];rfl
  ·rw[hv.str_inv,hw.str_inv];rfl
  ·refine AE hv.tup_inv ?_;rintro vs e1 _ r1;refine AE hw.tup_inv ?_;rintro ws e2 _ r2;rw[e1,e2];exact XD ih r1 r2 h
  ·refine AI hv.lst_ref ?_;rintro a rfl;refine AI hw.lst_ref ?_;rintro a' rfl;rcases hv.list with⟨_,vs,h1,_,r1⟩
   rcases hw.list with⟨_,ws,h2,_,r2⟩
   show Jm (Cd σ n) σ[a]? σ[a']? = some b;unfold Jm;rw[h1,h2];dsimp only;rw[r1.len,r2.len]
   split at h
   ·rename_i q;rw[if_pos q];exact XD ih r1 r2 h
   ·rename_i q;rw[if_neg q];exact h
  ·rename_i ks js xs ys;refine AI hv.dct_ref ?_;rintro a rfl;refine AI hw.dct_ref ?_;rintro a' rfl;rcases hv.dict with⟨_,cs,h1,e1,r1⟩
   rcases hw.dict with⟨_,ds,h2,e2,r2⟩
   have l1:xs.length=cs.length:=by rw[<- r1.len,AG]
   have l2:ys.length=ds.length:=by rw[<- r2.len,AG]
   have k1:ks.length=xs.length:=by rw[e1,AG,l1]
   have k2:js.length=ys.length:=by rw[e2,AG,l2]
   show Jm (Cd σ n) σ[a]? σ[a']? = some b;unfold Jm;rw[h1,h2];dsimp only;rw[<- l1,<- l2]
   split at h
   ·rename_i q;rw[if_pos q];exact Ai5 ih ((Sq k2).trans e2) (by rw[Sr k2];exact r2) ((Sq k1).trans e1) (by rw[Sr k1];exact r1) h
   ·rename_i q;rw[if_neg q];exact h
set_option tactic.hygienic true in
theorem Sv{v:CV}{t:T}(hv:TR DQ σ v t){vs:List CV}{ts:List T}{b:Bool}(r:AA DQ σ vs ts)(h:D3 (Br n) t ts=some b):Ef (Cd σ n) v vs=some b:=by
 revert b;refine AA.ind (P:=λvs ts=>∀{b},D3 (Br n) t ts=some b->Ef (Cd σ n) v vs=some b) (λh=>h) (λa r ih b h => ?_) r;rw[Xe]at h
 split at h
 ·rename_i x y e1 e2;rw[VD];rw[Su n a hv e1,ih e2];exact h
 ·exfalso;injection h
theorem XE{t:T}{ts:List T}(h:RG t=some ts):t=.node .tup ts:=by
 rcases t with _ | _ | _ | _ | ⟨_ | _ | _ | _,us⟩
 case node.tup=>obtain rfl:=Ay h;rfl
 all_goals exact(Aw h).elim
theorem La{v:V}{ts:List T}(h:FA v=some ts):v=.w (.fz (.node .tup ts)):=by
 rcases v with(_ | t | _) | _
 case w.fz=>rw[XE h]
 all_goals exact(Aw h).elim
theorem Ai7{v:V}{t:T}(h:RH v=some t):v=.w (.fz t):=by
 rcases v with(_ | t | _) | _
 case w.fz=>obtain rfl:=Ay h;rfl
 all_goals exact(Aw h).elim
theorem XF{v:V}(h:Mw v=some u):v=.w (.fz .none):=by
 rcases v with(_ | (_ | _ | _ | _ | _) | _) | _
 case w.fz.none=>rfl
 all_goals exact(Aw h).elim
theorem Ai8{t:T}{i:Int}(h:Xb t=some i):t=.int i:=by
 rcases t with _ | _ | _ | _ | _
 case int=>obtain rfl:=Ay h;rfl
 all_goals exact(Aw h).elim
theorem JS{vs:List V}{P:V->Prop}(h:Gb vs P):∃v,vs=[v]/\P v:=by
 unfold Gb at h;rcases q:Fs vs with _ | v
 ·rw[q]at h;exact h.elim
 ·rw[q]at h;exact⟨v,Jk q,h⟩
theorem XG(s:Au X ρ α σ){b:V}{cb ca:CV}{t:T}{q:Bool}(h:JJ α t b=some q)(ra:TR DQ σ ca t)(r:UR (Zx X ρ α) ρ σ cb b):Gu σ ca cb=some q:=by
 unfold JJ at h;rcases e0:FA b with _ | ys
 ·rw[e0]at h;dsimp only at h;rcases e:Dv α b with _ | ys
  ·rw[e]at h;refine AN h λes e h'=>AN h' λk ek hk => ?_;clear h h';obtain rfl:=Ai8 ek;obtain rfl:=ra.int_inv;refine Cj (O7 s e r) ?_;rintro a cs rfl h1 h2 h3;unfold Gu;dsimp only;rw[h1];have z:=Ss (k:=k) h2 h3;rcases q2:Ct es k with _ | u
   ·rw[q2]at z hk;dsimp only;rw[z];exact hk
   ·rw[q2]at z hk;refine Ah z ?_;clear z;rintro w hw _;dsimp only;rw[hw];exact hk
  ·rw[e]at h;refine Cj (FD s e r) ?_;rintro a vs rfl h1 h2 h3;unfold Gu;dsimp only;rw[h1];exact Sv ra h3.any h
 ·rw[e0]at h;obtain rfl:=La e0;refine AE (TR.tup_inv r) ?_;rintro vs rfl _ r1;exact Sv ra r1.any h
theorem XH{v:V}(h:K5 v=some b)(r:UR Z ρ σ cv v):isNone cv=b:=by
 rcases v with(_ | t | _) | _
 ·refine Ah r ?_;clear r;rintro a _ rfl;exact Ay h
 ·have r':TR Z σ cv t:=r;rcases r' with _ | _ | _ | _ | _ | _<;>exact Ay h
 ·exact(Aw h).elim
 ·exact(Aw h).elim
theorem DR{v:V}{i:Int}(h:Cm v=some i)(r:UR Z ρ σ cv v):cv=.int i:=by
 rcases v with(_ | (_ | _ | _ | _ | _) | _) | _
 case w.fz.int =>
  obtain rfl:=Ay h;exact TR.int_inv r
 all_goals exact(Aw h).elim
theorem XI(s:Au X ρ α σ){a b:V}{ca cb:CV}{q:Bool}(h:Mv α a b=some q)(ra:UR (Zx X ρ α) ρ σ ca a)(rb:UR (Zx X ρ α) ρ σ cb b):Cd σ 20 ca cb=some q :=
 AN h λz e1 h=>AN h λz e2 h=>Su 20 (MG s e1 ra) (MG s e2 rb) h
theorem Sw(s:Au X ρ α σ){op:Fl}{a b:V}{ca cb:CV}{q:Bool}(h:JK op α a b=some q)(ra:UR (Zx X ρ α) ρ σ ca a)(rb:UR (Zx X ρ α) ρ σ cb b):Eg op ca cb σ=.ok q σ:=by
 have neg:∀{o:Option Bool},o.map (!·)=some q->∃q',o=some q'/\(!q')=q:=λ{o} h=>by
  rcases o with _ | q'
  ·exact(Aw h).elim
  ·exact⟨q',rfl,Ay h⟩
 rcases op with _ | _ | _ | _ | _ | _ | _ | _ | _ | _
 ·have h:Mv α a b=some q:=h;show HD (Cd σ 20 ca cb) σ=_;rw[XI s h ra rb];rfl
 ·refine Ah (neg (o:=Mv α a b) h) ?_;rintro q' h e;show HD ((Cd σ 20 ca cb).map (!·)) σ=_;rw[XI s h ra rb,<- e];rfl
 ·have h:ob (Cm a) (λx=>ob (Cm b) λy=>some (decide (x<y)))=some q:=h;refine AN h λx e1 h=>AN h λy e2 h => ?_;obtain rfl:=DR e1 ra;obtain rfl:=DR e2 rb;obtain rfl:=Ay h;rfl
 ·have h:ob (Cm a) (λx=>ob (Cm b) λy=>some (decide (x<=y)))=some q:=h;refine AN h λx e1 h=>AN h λy e2 h => ?_;obtain rfl:=DR e1 ra;obtain rfl:=DR e2 rb;obtain rfl:=Ay h;rfl
 ·have h:ob (Cm a) (λx=>ob (Cm b) λy=>some (decide (y<x)))=some q:=h;refine AN h λx e1 h=>AN h λy e2 h => ?_;obtain rfl:=DR e1 ra;obtain rfl:=DR e2 rb;obtain rfl:=Ay h;rfl
 ·have h:ob (Cm a) (λx=>ob (Cm b) λy=>some (decide (y<=x)))=some q:=h;refine AN h λx e1 h=>AN h λy e2 h => ?_;obtain rfl:=DR e1 ra;obtain rfl:=DR e2 rb;obtain rfl:=Ay h;rfl
 ·have h:ob (Mw b) (λz=>K5 a)=some q:=h;refine AN h λz e0 h => ?_;obtain rfl:=XF e0;obtain rfl:=TR.none_inv (rb:TR (Zx X ρ α) σ cb .none);show ret (isNone ca) σ=_;rw[XH h ra];rfl
 ·have h:ob (Mw b) (λz=>(K5 a).map (!·))=some q:=h;refine AN h λz e0 h => ?_;obtain rfl:=XF e0;obtain rfl:=TR.none_inv (rb:TR (Zx X ρ α) σ cb .none);refine Ah (neg (o:=K5 a) h) ?_;rintro q' h e;show ret (!isNone ca) σ=_;rw[XH h ra,e];rfl
 ·have h:ob (Hl α a) (λt=>JJ α t b)=some q:=h;refine AN h λt e h => ?_;show HD (Gu σ ca cb) σ=_;rw[XG s h (MG s e ra) rb];rfl
 ·have h:ob (Hl α a) (λt=>(JJ α t b).map (!·))=some q:=h;refine AN h λt e h => ?_;refine Ah (neg (o:=JJ α t b) h) ?_;rintro q' h e2;show HD ((Gu σ ca cb).map (!·)) σ=_;rw[XG s h (MG s e ra) rb,<- e2];rfl
theorem Ai9{t:T}(r:TR Z σ cv t):RJ (.w (.fz t))=some b->Gx cv σ=.ok b σ:=by
 rcases r with⟨⟩<;>intro q<;>first | exact(Aw q).elim | (rw[<- Ay q];rfl)
theorem Sx(s:Au X ρ α σ){v:V}{cv:CV}{b:Bool}(h:JI α v=some b)(r:UR (Zx X ρ α) ρ σ cv v):Gx cv σ=.ok b σ:=by
 unfold JI at h;rcases q:RJ v with _ | b'
 ·rw[q]at h;refine AN h λts e h => ?_;obtain rfl:=Ay h;refine Cj (FD s e r) ?_;rintro a vs rfl h1 h2 h3;unfold Gx;dsimp only;unfold bnd;rw[Dk h1 h2];have:vs.isEmpty=ts.isEmpty:=by
   rcases h3 with _ | _<;>rfl
  show B2.ok (!vs.isEmpty) σ=_;rw[this]
 ·rw[q]at h;obtain rfl:=Ay h;rcases v with(_ | t | _) | _
  case w.fz =>
   exact Ai9 r q
  all_goals exact(Aw q).elim
end
end
section
def PR(X:Nat->Prop)(n:Nat)(α₁:AH)(r:Rv):CV->List Nat->AH->CH->Prop:=λb ρ' α' σ'=>α'=α₁/\Er X n ρ' α' σ' b r
section
variable {E:CX->Prop}{X Z:Nat->Prop}{ρ ρ':List Nat}{α α':AH}{σ σ':CH}{n:Nat}
theorem GF{x:CM CV}{b:CV}{t:T}(s:Au X ρ α σ)(e:x σ=.ok b σ)(h:TR (Zx X ρ α) σ b t):Sm E ρ α σ x (PR X n α (.v (Vf t))):=Sm.ok e AT.refl ⟨rfl,s,h⟩
theorem HS{x:CM CV}{vs:List CV}{ts:List T}(s:Au X ρ α σ)(e:x σ=BV vs σ)(h:AA (Zx X ρ α) σ vs ts)(z:small ts.length=true)(hn:n<=σ.length):Sm E ρ α σ x (PR X n α (.l ts)):=by
 have z':small vs.length=true:=by rw[h.len];exact z
 refine Sm.ok (e.trans (if_pos z')) (AT.lay _) ⟨rfl,Er.newList s h z' hn⟩
theorem HT{ts:List T}{vs:List CV}(h:AA Z σ vs ts)(z:small vs.length=true):small ts.length=true:=by rw[<- h.len];exact z
theorem Aja{a b:CV}{xs ys:List CV}{j:Nat}(ei:σ[i]? = some (.list xs))(zi:small xs.length=true)(ej:σ[j]? = some (.list ys))(zj:small ys.length=true):FY .Add (.ref i) (.ref j) σ=BV (xs++ys) σ:=by
 show bnd (listC i) _ σ=_;unfold bnd;rw[Dk ei zi];show bnd (listC j) _ σ=_;unfold bnd;rw[Dk ej zj]
theorem AA.rep{vs:List CV}{ts:List T}(h:AA Z σ vs ts):∀n,AA Z σ (DW n vs).flatten (DW n ts).flatten:=by
 intro z1
 induction z1 with
 | zero =>
  exact .nil
 | succ n ih =>
  rw[TH,TH,TI,TI];exact h.app (ih)
theorem Ajb{op:Hx}{x y z:Int}{g:Bool}(h:Xd op x y=some (g,z))(hg:g=true):FY op (.int x) (.int y) σ=.ok (.int z) σ:=by
 subst hg;rcases op with _ | _ | _ | _ | _ | _ | _ | _ | _ | _ | _ | _ | _
 case Add=>(refine At (DV (Ay h)) ?_;rintro _ rfl);rfl
 case Sub=>(refine At (DV (Ay h)) ?_;rintro _ rfl);rfl
 case Mult =>
  refine At (DV (Ay h)) ?_;rintro h1 rfl;exact congrFun (if_pos (of_decide_eq_true h1):FY .Mult (.int x) (.int y)=ret _) σ
 case Mod =>
  refine At (DV (Ay h)) ?_;rintro h1 rfl;exact congrFun (if_pos (of_decide_eq_true h1):FY .Mod (.int x) (.int y)=ret _) σ
 case FloorDiv =>
  refine At (DV (Ay h)) ?_;rintro h1 rfl;exact congrFun (if_pos (of_decide_eq_true h1):FY .FloorDiv (.int x) (.int y)=ret _) σ
 all_goals exact(Aw h).elim
theorem XJ{op:Hx}(h:RK op=some u):op=.Add:=by
 rcases op with _ | _ | _ | _ | _ | _ | _ | _ | _ | _ | _ | _ | _
 case Add=>rfl
 all_goals exact(Aw h).elim
theorem XK{v:V}(h:Mt v=some x)(r:UR Z ρ σ cv v):cv=.str x:=by
 rcases v with(_ | (_ | _ | _ | _ | _) | _) | _
 case w.fz.str =>
  obtain rfl:=Ay h;have r':TR Z σ cv (.str _):=r;rcases r' with _ | _ | _ | _ | _ | _
  rfl
 all_goals exact(Aw h).elim
theorem O8(s:Au X ρ α σ){op:Hx}{a b:V}{ca cb:CV}{r:Rv}(h:Mu op α a b=some (true,r))(ra:UR (Zx X ρ α) ρ σ ca a)(rb:UR (Zx X ρ α) ρ σ cb b)(hn:n<=σ.length):Sm E ρ α σ (FY op ca cb) (PR X n α r):=by
 rcases op with _ | _ | _ | _ | _ | _ | _ | _ | _ | _ | _ | _ | _
 case Add =>
  refine AN h λxs e1 h=>AN h λys e2 h => ?_;refine At (DV (Ay h)) ?_;rintro h1 h2;refine Cj (FD s e1 ra) ?_;rintro i vs f1 a1 a2 a3;refine Cj (FD s e2 rb) ?_;rintro j ws f2 b1 b2 b3;rw[<- h2,f1,f2];exact HS s (Aja (a:=.none) (b:=.none) a1 a2 b1 b2) (a3.app b3) (by rw[Bg];exact h1) hn
 case Mult =>
  refine AN h λxs e1 h=>AN h λn' e2 h => ?_;refine At (DV (Ay h)) ?_;rintro h1 h2;refine Cj (FD s e1 ra) ?_;rintro i vs f1 a1 a2 a3;rw[<- h2,f1,DR e2 rb];rw[A9,decide_eq_true_eq,<- a3.len]at h1;refine HS s ?_ (a3.rep _) h1.2 hn;show bnd (listC i) _ σ=_;unfold bnd;rw[Dk a1 a2];exact congrFun (if_pos h1.1) σ
 all_goals exact(Aw h).elim
theorem Ajc(s:Au X ρ α σ){op:Hx}{a b:V}{ca cb:CV}{g:Bool}{r:Rv}(h:RL op α a b=some (g,r))(hg:g=true)(ra:UR (Zx X ρ α) ρ σ ca a)(rb:UR (Zx X ρ α) ρ σ cb b)(hn:n<=σ.length):Sm E ρ α σ (FY op ca cb) (PR X n α r):=by
 rw[hg]at h;unfold RL at h;rcases e1:Cm a with _ | x
 ·rw[e1]at h;dsimp only at h;rcases e2:Mt a with _ | x
  ·rw[e2]at h;dsimp only at h;rcases e3:FA a with _ | xs
   ·rw[e3]at h;exact O8 s h ra rb hn
   ·rw[e3]at h;dsimp only at h;rcases e4:FA b with _ | ys
    ·rw[e4]at h;exact O8 s h ra rb hn
    ·rw[e4]at h;refine AN h λj e h' => ?_;refine At (DV (Ay h')) ?_;rintro h1 h2;rw[La e3]at ra;rw[La e4]at rb;refine AE (TR.tup_inv ra) ?_;rintro vs f1 z1 r1;refine AE (TR.tup_inv rb) ?_;rintro ws f2 z2 r2;rw[XJ e,<- h2,f1,f2];have z:small (vs.length+ws.length)=true:=by rw[r1.len,r2.len];exact h1
     exact GF s (congrFun (if_pos z:FY .Add (.tup vs) (.tup ws)=ret _) σ) (.tup (by rw[Bg];exact z) (r1.app r2))
  ·rw[e2]at h;dsimp only at h;rcases e4:Mt b with _ | y
   ·rw[e4]at h;exact O8 s h ra rb hn
   ·rw[e4]at h;refine AN h λj e h' => ?_;refine At (DV (Ay h')) ?_;rintro h1 h2;rw[XJ e,<- h2,XK e2 ra,XK e4 rb];exact GF s (congrFun (if_pos h1:FY .Add (.str x) (.str y)=ret _) σ) (.str _)
 ·rw[e1]at h;dsimp only at h;rcases e4:Cm b with _ | y
  ·rw[e4]at h;exact O8 s h ra rb hn
  ·rw[e4]at h;refine AN h λq e h' => ?_;refine At (DV (Ay h')) ?_;rintro h1 h2;rw[<- h2,DR e1 ra,DR e4 rb];rcases q with⟨g,z⟩
   exact GF s (Ajb e h1) (.int _)
set_option tactic.hygienic true in
theorem XL{ts:List T}{vs:List CV}{k:Int}{t:T}(h:ER ts k=some t)(r:AA Z σ vs ts):∃v,Kv vs k σ=.ok v σ/\TR Z σ v t:=by
 unfold ER at h
 split at h
 ·rename_i q;unfold Kv;rw[if_pos q,r.len];rcases e:Np k ts.length with _ | j
  ·rw[e]at h;(exfalso;injection h)
  ·rw[e]at h;refine Ah (r.at (i:=j) h) ?_;rintro v h1 h2;refine⟨v,?_,h2⟩;rw[AaW,h1];rfl
 ·exfalso;injection h
theorem Ajd(s:Au X ρ α σ){o i:V}{co ci:CV}{t:T}(h:OM α o i=some t)(ro:UR (Zx X ρ α) ρ σ co o)(ri:UR (Zx X ρ α) ρ σ ci i):∃v,HE co ci σ=.ok v σ/\TR (Zx X ρ α) σ v t:=by
 refine AN h λk e h => ?_;obtain rfl:=DR e ri;rcases e0:FA o with _ | ts
 ·rw[e0]at h;dsimp only at h;rcases e:Dv α o with _ | ts
  ·rw[e]at h;refine AN h λes e h => ?_;refine Cj (O7 s e ro) ?_;rintro a cs rfl h1 h2 h3;have z:=Ss (k:=k) h2 h3;rw[h]at z;refine Ah z ?_;clear z;rintro v g1 g2;refine⟨v,?_,g2⟩;unfold HE;dsimp only;rw[if_neg (by rw[O5 h1];exact Cw)]
   unfold bnd;rw[O6 h1];dsimp only;rw[g1];rfl
  ·rw[e]at h;refine Cj (FD s e ro) ?_;rintro a vs rfl h1 h2 h3;refine Ah (XL h h3) ?_;rintro v g1 g2;refine⟨v,?_,g2⟩;unfold HE;dsimp only;rw[if_pos (O4 h1)];unfold bnd;rw[Dk h1 h2];exact g1
 ·rw[e0]at h;obtain rfl:=La e0;refine AE (TR.tup_inv ro) ?_;rintro vs rfl _ r1;exact XL h r1
theorem Aje(s:Au X ρ α σ){o i:V}{co ci:CV}{t:T}(h:OM α o i=some t)(ro:UR (Zx X ρ α) ρ σ co o)(ri:UR (Zx X ρ α) ρ σ ci i):Sm E ρ α σ (HE co ci) (PR X n α (.v (Vf t))):=by
 refine Ah (Ajd s h ro ri) ?_;rintro v h1 h2;exact GF s h1 h2
theorem XM{Y:Nat->Prop}:∀{as:List (Ac×W)} {cs:List (Ac×CV)} {x:Ac} {w:W},as.map (·.1)=cs.map (·.1)->Dj Y ρ σ (cs.map (·.2)) (as.map (·.2))->as.lookup x=some w->∃v,cs.lookup x=some v/\WR Y ρ σ v w:=by
 intro z1
 induction z1 with
 | nil =>
  intro z3;rcases z3 with _ | ⟨z4,z5⟩
  ·intro x w e r h;exfalso;injection h
  ·intro x w e r h;exfalso;injection e
 | cons z2 as ih =>
  rcases z2 with⟨y,w'⟩
  intro z6;rcases z6 with _ | ⟨z7,cs⟩
  ·intro x w e r h;exfalso;injection e
  ·rcases z7 with⟨y',v⟩
   intro x w e r h;rw[Bj,Bj,Jg]at e;refine At e ?_;clear e;rintro e1 e2;subst e1;rw[BC]at h ⊢;rcases q:x == y with _ | _
   ·rw[q]at h;exact ih e2 r.2 h
   ·rw[q]at h;injection h with za;subst za
    exact⟨v,rfl,r.1⟩
theorem Ajf{Y:Nat->Prop}:∀{xs:List Ac} {ts:List T} {cs:List (Ac×CV)} {x:Ac} {t:T},xs=cs.map (·.1)->AA Y σ (cs.map (·.2)) ts->(xs.zip ts).lookup x=some t->∃v,cs.lookup x=some v/\TR Y σ v t:=by
 intro z1
 induction z1 with
 | nil =>
  intro ts z2;rcases z2 with _ | ⟨z3,z4⟩
  ·intro x t e r h;exfalso;injection h
  ·intro x t e r h;exfalso;injection e
 | cons y xs ih =>
  intro ts z5;rcases z5 with _ | ⟨z6,cs⟩
  ·intro x t e r h;exfalso;injection e
  ·rcases z6 with⟨y',v⟩
   intro x t e r h;rw[Bj,Jg]at e;refine At e ?_;clear e;rintro e1 e2;subst e1;rcases r with _ | ⟨a,r⟩
   ·rw[Hz,BC]at h;rw[BC];rcases q:x == y with _ | _
    ·rw[q]at h;exact ih e2 r h
    ·rw[q]at h;injection h with za;subst za
     exact⟨v,rfl,a⟩
structure GT(Γ:AM):Prop where
 top:Γ.top=FW
 bins:Γ.bins=EI
 attrs:Γ.attrs=Kl
 meths:Γ.meths=HB
 inits:Γ.inits=Gp
 clsfn:Γ.clsfn=Km
 excs:Γ.excs=Hj
theorem MH(K:Bf)(N k:Nat):GT (BO K N k):=⟨AhB _ _ _,AhC _ _ _,AhD _ _ _,AhE _ _ _,WU _ _ _,AhF _ _ _,by rcases k with⟨⟩<;>rfl⟩
theorem GT.has(g:GT Γ){C:Af}{x:Ac}:Fu Γ C x=Fu G0 C x:=by unfold Fu;rw[g.attrs];rfl
theorem Ajg(g:GT Γ)(s:Au X ρ α σ){v:V}{cv:CV}{x:Ac}{w:W}(h:RM α v x=some w)(r:UR (Zx X ρ α) ρ σ cv v):∃c,HF Γ cv x σ=.ok c σ/\WR (Zx X ρ α) ρ σ c w:=by
 have key:∀{a:Nat} {C:Af} {cs:List (Ac×CV)} {c:CV},σ[a]? = some (.inst C cs)->Fu G0 C x=true->cs.lookup x=some c->HF Γ (.ref a) x σ=.ok c σ:=λ{a C cs c} e1 e2 e3=>by
  unfold HF;dsimp only;unfold bnd;rw[XC e1];dsimp only;rw[g.has,if_pos e2,e3];rfl
 unfold RM at h;rcases v with(k | t | _) | _
 ·dsimp only at h;rcases e:α[k]? with _ | (_ | _ | ⟨C,as⟩ | _)
  case some.ins =>
   rw[e]at h;dsimp only at h;refine Ah r ?_;clear r;rintro a h1 rfl;refine AE (s.ob _ a _ h1 e) ?_;rintro cs h2 h3 h4;rcases hh:Fu G0 C x with _ | _
   ·rw[hh]at h;exact(Aw h).elim
   ·rw[hh]at h;refine Ah (XM h3 h4 h) ?_;rintro c h5 h6;exact⟨c,key h2 hh h5,h6⟩
  all_goals (rw[e]at h;exact(Aw h).elim)
 ·rcases t with _ | _ | _ | _ | ⟨_ | _ | _ | ⟨C,xs⟩,ts⟩
  case node.ins =>
   dsimp only at h;have r':TR (Zx X ρ α) σ cv (.node (.ins C xs) ts):=r;refine AI r'.ins_ref ?_;rintro a rfl;rcases r'.inst with⟨_,cs,h2,h3,h4⟩
   rcases hh:Fu G0 C x with _ | _
   ·rw[hh]at h;exact(Aw h).elim
   ·rw[hh]at h;dsimp only at h;rcases q:(xs.zip ts).lookup x with _ | t
    ·rw[q]at h;exact(Aw h).elim
    ·rw[q]at h;injection h with za;subst za
     refine Ah (Ajf h3 h4 q) ?_;rintro c h5 h6;exact⟨c,key h2 hh h5,h6⟩
  all_goals exact(Aw h).elim
 ·exact(Aw h).elim
 ·exact(Aw h).elim
theorem XN{v:V}{o:Option Int}(h:RN v=some o)(r:UR Z ρ σ cv v):Kw cv=some o:=by
 rcases v with(_ | t | _) | _
 case w.fz =>
  have r':TR Z σ cv t:=r;rcases r' with _ | _ | _ | _ | _ | _<;>first | exact(Aw h).elim | (obtain rfl:=Ay h;rfl)
 all_goals exact(Aw h).elim
theorem Ajh(n m:Nat)(ts:List T):((ts.drop n).take m).length<=ts.length:=by
 rw[Nt,PZ];exact om4
theorem Sy{m:Nat}(h:small n=true)(e:m<=n):small m=true:=by
 unfold small at *;rw[decide_eq_true_eq]at *;exact AC e h
theorem Aji(s:Au X ρ α σ){o a b:V}{co ca cb:CV}{ts:List T}(h:RO α o a b=some ts)(ro:UR (Zx X ρ α) ρ σ co o)(ra:UR (Zx X ρ α) ρ σ ca a)(rb:UR (Zx X ρ α) ρ σ cb b)(hn:n<=σ.length):Sm E ρ α σ (LP co ca cb) (PR X n α (.l ts)):=by
 refine AN h λus e1 h=>AN h λlo e2 h=>AN h λhi e3 h => ?_;obtain rfl:=Ay h;refine Cj (FD s e1 ro) ?_;rintro i vs rfl h1 h2 h3;refine HS (vs:=Im vs lo hi) s ?_ ?_ (Sy (HT h3 h2) (Ajh _ _ _)) hn
 ·unfold LP;rw[XN e2 ra,XN e3 rb];dsimp only;unfold Mine.Internal.bnd;rw[Dk h1 h2]
 ·unfold Im Mx;rw[h3.len];exact(h3.drop _).take _
end
end
section
section
variable {E:CX->Prop}{X Z:Nat->Prop}{ρ ρ':List Nat}{α α':AH}{σ σ':CH}{n:Nat}
theorem Ch{x:CM β}{f:β->CM γ}{b:β}(e:x σ=.ok b σ'):bnd x f σ=f b σ':=by
 unfold bnd;rw[e]
theorem JT{vs:List CV}{v:V}(r:Bv Z ρ σ vs [v]):∃c,vs=[c]/\UR Z ρ σ c v:=by
 match vs,r with
 | [c],r=>exact⟨c,rfl,r.1⟩
theorem Ajj{vs:List CV}{v w:V}(r:Bv Z ρ σ vs [v,w]):∃c d,vs=[c,d]/\UR Z ρ σ c v/\UR Z ρ σ d w:=by
 match vs,r with
 | [c,d],r=>exact⟨c,d,rfl,r.1,r.2.1⟩
theorem Ajk{vs:List CV}(r:Bv Z ρ σ vs []):vs=[]:=by
 match vs,r with
 | [],r=>rfl
theorem Ajl:∀{ts:List T} {vs:List CV} {is:List Int},HQ ts=some is->AA Z σ vs ts->E3 vs=some is:=by
 intro z1
 induction z1 with
 | nil =>
  intro z2 is h z3;obtain rfl:=z3.nil_inv;exact h
 | cons t ts ih =>
  intro z4 is h z5;refine Bm z5.cons_inv ?_;rintro z6 z7 rfl a r;rcases t with _ | _ | i | _ | _
  case int =>
   have h:(match HQ ts with | some is=>some (i::is) | none=>none)=some is:=h
   obtain rfl:=a.int_inv;rcases e2:HQ ts with _ | js
   ·rw[e2]at h;exact(Aw h).elim
   ·rw[e2]at h;obtain rfl:=Ay h;show(match E3 z7 with | some is=>some (i::is) | none=>none)=_
    rw[ih e2 r]
  all_goals exact(Aw h).elim
theorem Ajm(es:List (Int×CV)):AA Z σ (es.map λp=>CV.int p.1) ((es.map (·.1)).map T.int):=by
 induction es with
 | nil=>exact .nil
 | cons p r ih=>exact .cons (.int _) ih
theorem Ajn(is:List Int):(EM is).length=is.length:=by
 have ins:∀(x:Int) (l:List Int),(G9 x l).length=l.length+1:=by
  intro x l
  induction l with
  | nil=>rfl
  | cons y r ih =>
   rw[QR]
   split
   ·rfl
   ·rw[BH,ih];rfl
 induction is with
 | nil=>rfl
 | cons x r ih =>
  show(G9 x (EM r)).length=_;rw[ins,ih];rfl
theorem Ajo(s:Au X ρ α σ){v:V}{cv:CV}{ts:List T}(h:RQ α v=some ts)(r:UR (Zx X ρ α) ρ σ cv v)(hn:n<=σ.length):Sm E ρ α σ (Jp cv) (PR X n α (.l ts)):=by
 unfold RQ at h;rcases q:RP α v with _ | is
 ·rw[q]at h;(exfalso;injection h)
 ·rw[q]at h;dsimp only at h
  by_cases hl:is.length<64
  ·rw[if_pos hl]at h;injection h with za;subst za
   refine HS (vs:=(EM is).map .int) s ?_ (AA.ints _) ?_ hn
   ·have fin:Ky is σ=BV ((EM is).map .int) σ:=by unfold Ky;rw[if_pos hl]
    unfold RP at q;rcases ql:Dv α v with _ | us
    ·rw[ql]at q;rcases qd:K3 α v with _ | es
     ·rw[qd]at q;(exfalso;injection q)
     ·rw[qd]at q;injection q with za;subst za
      refine Cj (O7 s qd r) ?_;rintro a cs rfl h1 h2 h3;unfold Jp;dsimp only;rw[if_neg (by rw[O5 h1];exact Cw),Ch (O6 h1),show cs.map (·.1)=es.map λp=>p.1 from h2.symm]
      exact fin
    ·rw[ql]at q;refine Cj (FD s ql r) ?_;rintro a vs rfl h1 h2 h3;unfold Jp;dsimp only;rw[if_pos (O4 h1),Ch (Dk h1 h2),Ajl q h3];exact fin
   ·unfold small;rw[decide_eq_true_eq,AG,Ajn];exact om6 hl
  ·rw[if_neg hl]at h;exfalso;injection h
theorem Ajp(s:Au X ρ α σ){x y:Int}:Sm E ρ α σ (LT (.int x) (.int y)) (PR X n α (.v (Vf (.int (if y<x then y else x))))):=GF s rfl (.int _)
abbrev BQ(X:Nat->Prop)(n:Nat)(α:AH)(Q:Rv->List Al->Prop):CV->List Nat->AH->CH->Prop:=λb ρ' α' σ'=>∃rv as',PR X n α rv b ρ' α' σ'/\Q rv as'
theorem Ajq(s:Au X ρ α σ){vs:List V}{cvs:List CV}{as:List Al}{Q:Rv->List Al->Prop}(h:Xf α vs as Q)(r:Bv (Zx X ρ α) ρ σ cvs vs)(hn:n<=σ.length):Sm E ρ α σ (DB Kx cvs) (BQ X n α Q):=by
 refine Ah (JS h) ?_;rintro w rfl h;refine Ah (JT r) ?_;rintro c rfl q;rcases e0:FA w with _ | ts
 ·rw[e0]at h;refine Ah (BE h) ?_;rintro ts e h;refine Cj (FD s e q) ?_;rintro a us rfl h1 h2 h3;rw[<- h3.len]at h;have e2:DB Kx [.ref a] σ=.ok (.int us.length) σ:=by
   show bnd (listC a) _ σ=_;rw[Ch (Dk h1 h2)];rfl
  exact(GF s e2 (.int _)).mono λx x x x x p=>⟨_,_,p,h⟩
 ·rw[e0]at h;obtain rfl:=La e0;refine AE (TR.tup_inv q) ?_;rintro us rfl z r1;dsimp only at h;rw[<- r1.len]at h;exact(GF s (congrFun (if_pos z:Kx (.tup us)=ret _) σ) (.int _)).mono λx x x x x p=>⟨_,_,p,h⟩
theorem Ajr(s:Au X ρ α σ){vs:List V}{cvs:List CV}{as:List Al}{Q:Rv->List Al->Prop}(h:Xg α vs as Q)(r:Bv (Zx X ρ α) ρ σ cvs vs)(hn:n<=σ.length):Sm E ρ α σ (DB Io cvs) (BQ X n α Q):=by
 refine Ah (JS h) ?_;rintro w rfl h
 ·refine Ah (JT r) ?_;rintro c rfl q;rcases e:Dv α w with _ | ts
  case some =>
   rw[e]at h;refine Cj (FD s e q) ?_;rintro a us rfl h1 h2 h3;refine(HS s (vs:=us) ?_ h3 (HT h3 h2) hn).mono λz z z z z p=>⟨_,_,p,h⟩;show Io (.ref a) σ=_;unfold Io;dsimp only;rw[if_pos (O4 h1),Ch (Dk h1 h2)]
  ·rw[e]at h;refine Ah (BE h) ?_;rintro es e h;rcases JR h with⟨g,as',h⟩
   refine Cj (O7 s e q) ?_;rintro a cs rfl h1 h2 h3;have e2:es.map (λp=>T.int p.1)=(cs.map (·.1)).map T.int:=by rw[<- h2,CY];rfl
   rw[e2]at h;refine(HS s (vs:=cs.map λp=>.int p.1) ?_ (Ajm cs) ?_ hn).mono λz z z z z p=>⟨_,_,p,h⟩
   ·show Io (.ref a) σ=_;unfold Io;dsimp only;rw[if_neg (by rw[O5 h1];exact Cw),Ch (O6 h1)]
   ·have:=congrArg Ib h2;rw[AG,AG]at this;rw[AG,AG,<- this];exact g
theorem Ajs(s:Au X ρ α σ){vs:List V}{cvs:List CV}{as:List Al}{Q:Rv->List Al->Prop}(h:Xh α vs as Q)(r:Bv (Zx X ρ α) ρ σ cvs vs)(hn:n<=σ.length):Sm E ρ α σ (DB Oj cvs) (BQ X n α Q):=by
 refine Ah (JS h) ?_;rintro w rfl h;refine Ah (JT r) ?_;rintro c rfl q;rcases e0:FA w with _ | ts
 case some =>
  rw[e0]at h;obtain rfl:=La e0;refine AE (TR.tup_inv q) ?_;rintro us rfl z r1;exact(GF s rfl (.tup z r1)).mono λx x x x x p=>⟨_,_,p,h⟩
 ·rw[e0]at h;refine Ah (BE h) ?_;rintro ts e h;refine Cj (FD s e q) ?_;rintro a us rfl h1 h2 h3;refine(GF s (b:=.tup us) ?_ (.tup h2 h3)).mono λx x x x x p=>⟨_,_,p,h⟩;show bnd (listC a) EK σ=_;rw[Ch (Dk h1 h2)];exact congrFun (if_pos h2) σ
theorem Ajt(s:Au X ρ α σ){vs:List V}{cvs:List CV}{as:List Al}{Q:Rv->List Al->Prop}(h:Xi α vs as Q)(r:Bv (Zx X ρ α) ρ σ cvs vs)(hn:n<=σ.length):Sm E ρ α σ (DB Jp cvs) (BQ X n α Q):=by
 refine Ah (JS h) ?_;rintro w rfl h;refine Ah (JT r) ?_;rintro c rfl q;refine Ba (Ge h) ?_;rintro ts as' e h;exact(Ajo s e q hn).mono λz z z z z p=>⟨_,_,p,h⟩
theorem Aju(s:Au X ρ α σ){vs:List V}{cvs:List CV}{as:List Al}{Q:Rv->List Al->Prop}(h:Xj α vs as Q)(r:Bv (Zx X ρ α) ρ σ cvs vs)(hn:n<=σ.length):Sm E ρ α σ (VY LT cvs) (BQ X n α Q):=by
 rcases vs with _ | ⟨_,_ | ⟨_,_ | ⟨_,_⟩⟩⟩
 ·exact h.elim
 ·exact h.elim
 ·refine Bm (Ajj r) ?_;rintro c d rfl r1 r2;refine Ah (BE h) ?_;rintro x e1 h;refine Ah (BE h) ?_;rintro y e2 h;rcases DR e1 r1 with rfl
  rcases DR e2 r2 with rfl
  exact(Ajp s).mono λz z z z z p=>⟨_,_,p,h⟩
 ·exact h.elim
theorem Ajv(s:Au X ρ α σ){vs:List V}{cvs:List CV}{as:List Al}{Q:Rv->List Al->Prop}(h:Xk α vs as Q)(r:Bv (Zx X ρ α) ρ σ cvs vs)(hn:n<=σ.length):Sm E ρ α σ (DB LU cvs) (BQ X n α Q):=by
 refine Ah (JS h) ?_;rintro w rfl h
 ·refine Ah (JT r) ?_;rintro c rfl q;refine Ah (BE h) ?_;rintro x e1 h;rcases JR h with⟨g,as',h⟩
  rcases DR e1 q with rfl
  rw[decide_eq_true_eq]at g;exact(GF s (congrFun (if_pos g:LU (.int x)=ret _) σ) (.str _)).mono λz z z z z p=>⟨_,_,p,h⟩
theorem Ajw(s:Au X ρ α σ){x:Ac}{v:Ad}(hv:EI.lookup x=some v){vs:List V}{cvs:List CV}{as:List Al}{Q:Rv->List Al->Prop}(h:RU x α vs as Q)(r:Bv (Zx X ρ α) ρ σ cvs vs)(hn:n<=σ.length) :
  Sm E ρ α σ (On v cvs) (BQ X n α Q):=by
 unfold RU at h
 by_cases e:x=Ab "len"
 ·rw[if_pos e]at h;subst e;obtain rfl:FJ "len" = v:=Ay ((by kernel_rfl:some (FJ "len")=EI.lookup (Ab "len")).trans hv)
  exact Ajq s h r hn
 rw[if_neg e]at h
 by_cases e:x=Ab "list"
 ·rw[if_pos e]at h;subst e;obtain rfl:EC "list" = v:=Ay ((by kernel_rfl:some (EC "list")=EI.lookup (Ab "list")).trans hv)
  exact Ajr s h r hn
 rw[if_neg e]at h
 by_cases e:x=Ab "tuple"
 ·rw[if_pos e]at h;subst e;obtain rfl:EC "tuple" = v:=Ay ((by kernel_rfl:some (EC "tuple")=EI.lookup (Ab "tuple")).trans hv)
  exact Ajs s h r hn
 rw[if_neg e]at h
 by_cases e:x=Ab "sorted"
 ·rw[if_pos e]at h;subst e;obtain rfl:FJ "sorted" = v:=Ay ((by kernel_rfl:some (FJ "sorted")=EI.lookup (Ab "sorted")).trans hv)
  exact Ajt s h r hn
 rw[if_neg e]at h
 by_cases e:x=Ab "min"
 ·rw[if_pos e]at h;subst e;obtain rfl:FJ "min" = v:=Ay ((by kernel_rfl:some (FJ "min")=EI.lookup (Ab "min")).trans hv)
  exact Aju s h r hn
 rw[if_neg e]at h
 by_cases e:x=Ab "str"
 ·rw[if_pos e]at h;subst e;obtain rfl:EC "str" = v:=Ay ((by kernel_rfl:some (EC "str")=EI.lookup (Ab "str")).trans hv)
  exact Ajv s h r hn
 rw[if_neg e]at h;exact h.elim
theorem XO(a c:Int)(n:Nat):(DM a c n).length=n:=by
 unfold DM;rw[AG,BR]
theorem Ajx:∀{vs:List V} {cvs:List CV} {is:List Int},JL vs=some is->Bv Z ρ σ cvs vs->cvs=is.map .int:=by
 intro z1
 induction z1 with
 | nil =>
  intro z2;rcases z2 with _ | ⟨z3,z4⟩
  ·intro is h z5;injection h with za;subst za;rfl
  ·intro z6 z7 r;exact r.elim
 | cons v vs ih =>
  intro z8;rcases z8 with _ | ⟨c,cs⟩
  ·intro z9 z10 r;exact r.elim
  ·intro is h r;have h:(match Cm v,JL vs with | some i,some is=>some (i::is) | _,_=>none)=some is:=h
   rcases e1:Cm v with _ | i
   ·rw[e1]at h;(exfalso;injection h)
   ·rcases e2:JL vs with _ | js
    ·rw[e1,e2]at h;(exfalso;injection h)
    ·rw[e1,e2]at h;injection h with za;subst za
     rw[DR e1 r.1,ih e2 r.2];rfl
theorem XQ{a c:Int}{m:Nat}(h:Fx is=some (a,c,m)):L7 (is.map .int)=some (a,c,m)/\m<=4000:=by
 refine⟨by unfold L7;rw[VM];exact h,?_⟩
 rcases is with _ | ⟨x,_ | ⟨y,_ | ⟨z,_ | ⟨u,r⟩⟩⟩⟩
 ·exact(Aw h).elim
 ·by_cases q:Ei x=true/\x.toNat<=4000
  ·have z0:_=_:=(if_pos q).symm.trans h;injection z0 with za;injection za with za zb;subst za;injection zb with za zb;subst za;subst zb
   exact q.2
  ·have z0:_=_:=(if_neg q).symm.trans h;exfalso;injection z0
 ·by_cases q:Ei x=true/\Ei y=true/\(y-x).toNat<=4000
  ·have z0:_=_:=(if_pos q).symm.trans h;injection z0 with za;injection za with za zb;subst za;injection zb with za zb;subst za;subst zb
   exact q.2.2
  ·have z0:_=_:=(if_neg q).symm.trans h;exfalso;injection z0
 ·by_cases q:z = -1/\Ei x=true/\Ei y=true/\(x-y).toNat<=4000
  ·have z0:_=_:=(if_pos q).symm.trans h;injection z0 with za;injection za with za zb;subst za;injection zb with za zb;subst za;subst zb
   exact q.2.2.2
  ·have z0:_=_:=(if_neg q).symm.trans h;exfalso;injection z0
 ·exact(Aw h).elim
theorem XR{vs:List V}{ts:List T}(h:GE vs=some ts)(r:Bv Z ρ σ cvs vs):∃a c m,L7 cvs=some (a,c,m)/\m<=4000/\ts=(DM a c m).map .int:=by
 unfold GE at h;rcases e1:JL vs with _ | is
 ·rw[e1]at h;(exfalso;injection h)
 ·rw[e1]at h;have h:(match Fx is with | some (a,c,n)=>some ((DM a c n).map T.int) | none=>none)=some ts:=h
  rcases e2:Fx is with _ | p
  ·rw[e2]at h;(exfalso;injection h)
  ·rcases p with⟨a,c,m⟩
   rw[e2]at h;injection h with za;subst za
   rcases Ajx e1 r with rfl
   exact⟨a,c,m,(XQ e2).1,(XQ e2).2,rfl⟩
theorem XU{t:T}{ts:List T}{l:List Nat}(h:FB (t::ts)=some l):∃i l',t=.int i/\(0<=i/\i<7)/\FB ts=some l'/\l=i.toNat::l':=by
 rcases t with _ | _ | i | _ | _
 case int =>
  by_cases q:0<=i/\i<7
  ·have h:=(if_pos q).symm.trans h;rcases e:FB ts with _ | l'
   ·rw[e]at h;exact(Aw h).elim
   ·rw[e]at h;obtain rfl:=Ay h;exact⟨i,l',rfl,q,rfl,rfl⟩
  ·exact(Aw ((if_neg q).symm.trans h)).elim
 all_goals exact(Aw h).elim
theorem Ajy:∀{ts:List T} {vs:List CV} {l:List Nat},FB ts=some l->AA Z σ vs ts->HK vs=some l:=by
 intro z1
 induction z1 with
 | nil =>
  intro z2 l h z3;obtain rfl:=z3.nil_inv;exact h
 | cons t ts ih =>
  intro z4 l h z5;refine Bm z5.cons_inv ?_;rintro z6 z7 rfl a r;refine Cj (XU h) ?_;rintro i l' rfl q e2 rfl;obtain rfl:=a.int_inv;rw[Agn];rw[if_pos q,ih e2 r]
theorem Ajz(l:List Nat):AA Z σ (l.map λn:Nat=>CV.int (n:Int)) (l.map λn:Nat=>T.int (n:Int)):=by
 induction l with
 | nil=>exact .nil
 | cons n r ih=>exact .cons (.int _) ih
theorem AjA(v:Nat)(l:List Nat):(F3 v l).length<=l.length+1:=by
 have ins:∀l:List Nat,(CT v l).length=l.length+1:=by
  intro l
  induction l with
  | nil=>rfl
  | cons y r ih =>
   rw[Oq]
   split
   ·rfl
   ·rw[BH,ih];rfl
 unfold F3
 split
 ·exact Hw _
 ·rw[ins];exact AK _
theorem AjB(l:List Nat):(Hd l).length<=l.length:=by
 have:∀(f:Nat->Nat) (n:Nat),(F4 f n).length<=n:=by
  intro f n
  induction n with
  | zero=>exact AK _
  | succ n ih=>exact AC (AjA _ _) (Fm ih)
 exact this _ _
theorem AjC:∀{ts:List T} {l:List Nat},FB ts=some l->l.length=ts.length:=by
 intro z1
 induction z1 with
 | nil =>
  intro l h;injection h with za;subst za;rfl
 | cons t ts ih =>
  intro l h;refine Cj (XU h) ?_;rintro i l' rfl q e2 rfl;rw[BH,BH,ih e2]
theorem AjD(s:Au X ρ α σ){v:V}{cv:CV}{ts:List T}(h:RS α v=some ts)(r:UR (Zx X ρ α) ρ σ cv v)(hn:n<=σ.length):Sm E ρ α σ (bnd (Jt cv) Mc) (PR X n α (.l ts)):=by
 unfold RS at h;rcases q:Dv α v with _ | us
 ·rw[q]at h;(exfalso;injection h)
 ·rw[q]at h;dsimp only at h;rcases q2:FB us with _ | l
  ·rw[q2]at h;(exfalso;injection h)
  ·rw[q2]at h;injection h with za;subst za
   refine Cj (FD s q r) ?_;rintro a vs rfl h1 h2 h3;refine HS s (vs:=(Hd l).map λn:Nat=>CV.int (n:Int)) ?_ (Ajz _) ?_ hn
   ·have e:Jt (.ref a) σ=.ok (Hd l) σ:=by
     show Mine.Internal.bnd (listC a) _ σ=_;rw[Ch (Dk h1 h2),Ajy q2 h3];rfl
    rw[Ch e];rfl
   ·refine Sy (HT h3 h2) ?_;rw[AG];exact AC (AjB _) (Lm (AjC q2))
theorem XV{es:List (Int×T)}{cs:List (Int×CV)}{k:Int}{v:CV}{t:T}(e:es.map (·.1)=cs.map (·.1))(r:AA Z σ (cs.map (·.2)) (es.map (·.2)))(a:TR Z σ v t) :
  (Cg es k t).map (·.1)=(EN cs k v).map (·.1)/\AA Z σ ((EN cs k v).map (·.2)) ((Cg es k t).map (·.2)):=by
 have any:∀{es:List (Int×T)} {cs:List (Int×CV)},es.map (·.1)=cs.map (·.1)->(es.any λp=>decide (p.1=k))=cs.any λp=>decide (p.1=k):=by
  intro es
  induction es with
  | nil=>intro cs e;cases cs with | nil=>rfl | cons _ _=>(exfalso;injection e)
  | cons p es ih =>
   intro cs e;rcases cs with _ | ⟨q,cs⟩
   ·exfalso;injection e
   ·rw[Bj,Bj,Jg]at e;rw[Nn,Nn,ih e.2,e.1]
 have rep:∀{es:List (Int×T)} {cs:List (Int×CV)},es.map (·.1)=cs.map (·.1)->AA Z σ (cs.map (·.2)) (es.map (·.2)) ->
   (es.map λp=>if p.1=k then(p.1,t)else p).map (·.1)=(cs.map λp=>if p.1=k then(p.1,v)else p).map (·.1)/\AA Z σ ((cs.map λp=>if p.1=k then(p.1,v)else p).map (·.2)) ((es.map λp=>if p.1=k then(p.1,t)else p).map (·.2)):=by
  intro es
  induction es with
  | nil=>intro cs e r;cases cs with | nil=>exact⟨rfl,.nil⟩ | cons _ _=>(exfalso;injection e)
  | cons p es ih =>
   intro cs e r;rcases cs with _ | ⟨q,cs⟩
   ·exfalso;injection e
   ·rw[Bj,Bj,Jg]at e;rcases r with _ | ⟨a',r⟩
    ·refine At (ih e.2 r) ?_;rintro i1 i2;rw[Bj,Bj,Bj,Bj,Bj,Bj,i1,e.1]
     by_cases h:q.1=k
     ·rw[if_pos h,if_pos h];exact⟨rfl,.cons a i2⟩
     ·rw[if_neg h,if_neg h];exact⟨by rw[e.1],.cons a' i2⟩
 unfold Cg EN;rw[any e]
 split
 ·exact rep e r
 ·rw[BJ,BJ,BJ,BJ,e];exact⟨rfl,r.app (.cons a .nil)⟩
set_option tactic.hygienic true in
theorem AjE{t v:T}{k:Int}(h:My t=some (k,v)):t=.node .tup [.int k,v]:=by
 rcases t with⟨⟩<;>try exact(Aw h).elim
 rename_i kd ts;rcases kd with⟨⟩<;>try exact(Aw h).elim
 rcases ts with _ | ⟨a,r⟩
 ·exact(Aw h).elim
 ·rcases a with⟨⟩<;>try exact(Aw h).elim
  rcases r with _ | ⟨b,r⟩
  ·exact(Aw h).elim
  ·rcases r with _ | ⟨_,_⟩
   ·refine At (DV (Ay h)) ?_;rintro rfl rfl;rfl
   ·exact(Aw h).elim
theorem AjF{t:T}{ts:List T}{ps:List (Int×T)}(h:Fa (t::ts)=some ps):∃k u us,My t=some (k,u)/\Fa ts=some us/\ps=(k,u)::us:=by
 have h:(match My t with
  | some p=>(match Fa ts with
   | some ps=>some (p::ps)
   | none=>none)
  | none=>none)=some ps:=h
 rcases q:My t with _ | p
 ·rw[q]at h;exact(Aw h).elim
 ·rw[q]at h;rcases q2:Fa ts with _ | us
  ·rw[q2]at h;exact(Aw h).elim
  ·rw[q2]at h;exact⟨p.1,p.2,us,rfl,rfl,(Ay h).symm⟩
theorem AjG{k:Int}{v:CV}{vs:List CV}{qs:List (Int×CV)}(h:F5 vs=some qs):F5 (.tup [.int k,v]::vs)=some ((k,v)::qs):=by
 show(match F5 _ with | some ps=>some ((k,v)::ps) | none=>none)=_
 rw[h]
theorem AjH{ts:List T}{vs:List CV}{ps:List (Int×T)}(h:Fa ts=some ps)(r:AA Z σ vs ts):∃qs,F5 vs=some qs/\ps.map (·.1)=qs.map (·.1)/\AA Z σ (qs.map (·.2)) (ps.map (·.2)):=by
 induction ts generalizing vs ps with
 | nil =>
  obtain rfl:=Ay h;obtain rfl:=r.nil_inv;exact⟨[],rfl,rfl,.nil⟩
 | cons t ts ih =>
  refine CG (AjF h) ?_;rintro k u us q q2 rfl;clear h;refine Bm r.cons_inv ?_;rintro v ws rfl a r;refine AE (ih q2 r) ?_;rintro qs g1 g2 g3;clear ih q2 r;rw[AjE q]at a;refine AE a.tup_inv ?_;rintro xs rfl _ r1;refine Bm r1.cons_inv ?_;rintro v1 ys rfl b1 r1;refine Bm r1.cons_inv ?_;rintro v2 zs rfl b2 r1;obtain rfl:=r1.nil_inv;obtain rfl:=b1.int_inv;exact⟨(k,v2)::qs,AjG g1,congrArg (k::·) g2,.cons b2 g3⟩
theorem AjI:∀{ps:List (Int×T)} {qs:List (Int×CV)} {es:List (Int×T)} {cs:List (Int×CV)},ps.map (·.1)=qs.map (·.1)->AA Z σ (qs.map (·.2)) (ps.map (·.2))->es.map (·.1)=cs.map (·.1)->AA Z σ (cs.map (·.2)) (es.map (·.2)) ->
  (ps.foldl (λes p=>Cg es p.1 p.2) es).map (·.1)=(qs.foldl (λes p=>EN es p.1 p.2) cs).map (·.1)/\AA Z σ ((qs.foldl (λes p=>EN es p.1 p.2) cs).map (·.2)) ((ps.foldl (λes p=>Cg es p.1 p.2) es).map (·.2)):=by
 intro z1
 induction z1 with
 | nil =>
  intro z2;rcases z2 with _ | ⟨z3,z4⟩
  ·intro es cs z5 z6 e r;exact⟨e,r⟩
  ·intro es cs h z7 e r;exfalso;injection h
 | cons p ps ih =>
  intro z8;rcases z8 with _ | ⟨q,qs⟩
  ·intro es cs h z9 e r;exfalso;injection h
  ·intro es cs h hr e r;rw[Bj,Bj,Jg]at h;rcases hr with _ | ⟨a,hr⟩
   ·refine At (XV (k:=p.1) e r a) ?_;rintro h1 h2;rw[PI,PI,<- h.1];exact ih h.2 hr h1 h2
theorem AjJ(s:Au X ρ α σ){v:V}{cv:CV}{es:List (Int×T)}(h:RT α v=some es)(r:UR (Zx X ρ α) ρ σ cv v)(hn:n<=σ.length):Sm E ρ α σ (Ow cv) (PR X n α (.d es)):=by
 unfold RT at h;rcases q:Dv α v with _ | us
 ·rw[q]at h;(exfalso;injection h)
 ·rw[q]at h;dsimp only at h;rcases q2:Fa us with _ | ps
  ·rw[q2]at h;(exfalso;injection h)
  ·rw[q2]at h;dsimp only at h
   by_cases hl:ps.length<=1000
   ·rw[if_pos hl]at h;injection h with za;subst za
    refine Cj (FD s q r) ?_;rintro a vs rfl h1 h2 h3;refine AE (AjH q2 h3) ?_;rintro qs g1 g2 g3;refine At (AjI (es:=[]) (cs:=[]) g2 g3 rfl .nil) ?_;rintro f1 f2;have hl':qs.length<=1000:=by
     have:=congrArg Ib g2;rw[AG,AG]at this;exact om5 hl this
    refine Sm.ok ?_ (AT.lay _) ⟨rfl,Er.newDict s (cs:=Rb qs) f1 f2 hn⟩;show Mine.Internal.bnd (listC a) _ σ=_;rw[Ch (Dk h1 h2),g1];dsimp only;rw[if_pos hl']
   ·rw[if_neg hl]at h;exfalso;injection h
set_option tactic.hygienic true in
theorem AjK{v:CV}{t:T}(hv:TR DQ σ v t){vs:List CV}{ts:List T}{b:Bool}(r:AA DQ σ vs ts)(h:D3 (Br n) t ts=some b):HH (Cd σ n) v vs=Hm (Br n) t ts:=by
 revert b;refine AA.ind (P:=λvs ts=>∀{b},D3 (Br n) t ts=some b->HH (Cd σ n) v vs=Hm (Br n) t ts) (λh=>rfl) (λa r ih b h => ?_) r;rw[Xe]at h
 split at h
 ·rename_i x y e1 e2;rw[VX,AiT];rw[Su n a hv e1,e1,ih e2]
 ·exfalso;injection h
theorem AjL(s:Au X ρ α σ){ts:List T}{vs:List CV}{a:Nat}{v:V}{cv:CV}{t r:T}(hr:Hl α v=some t)(h:JM ts t=some r)(h1:σ[a]? = some (.list vs))(h2:small vs.length=true)(h3:AA (Zx X ρ α) σ vs ts)(rv:UR (Zx X ρ α) ρ σ cv v):Sm E ρ α σ (Jq a cv) (PR X n α (.v (Vf r))):=by
 unfold JM at h
 by_cases q:D3 (Br 20) t ts=some true
 ·rw[if_pos q]at h;injection h with za;subst za
  have ht:=MG s hr rv;refine GF s (b:=.int (HH (Cd σ 20) cv vs)) ?_ (by rw[AjK ht h3.any q];exact .int _)
  unfold Jq;rw[Ch (Dk h1 h2),if_pos (Sv ht h3.any q)]
 ·rw[if_neg q]at h;exfalso;injection h
end
end
section
noncomputable abbrev SA(β:Type):=β->List Nat->AH->CH->Prop
inductive PQ(X:Nat->Prop)(n:Nat)(Q:Kq Rv)(b:CV)(ρ':List Nat)(α':AH)(σ':CH):Prop
 | mk (r:Rv) (as':List Al) (h:Er X n ρ' α' σ' b r) (q:Q r α' as'):PQ X n Q b ρ' α' σ'
inductive PV(X:Nat->Prop)(Q:Kq V)(b:CV)(ρ':List Nat)(α':AH)(σ':CH):Prop
 | mk (v:V) (as':List Al) (s:Au X ρ' α' σ') (r:UR (Zx X ρ' α') ρ' σ' b v) (q:Q v α' as'):PV X Q b ρ' α' σ'
inductive SC(X:Nat->Prop)(Q:Kq (List V))(b:List CV)(ρ':List Nat)(α':AH)(σ':CH):Prop
 | mk (v:List V) (as':List Al) (s:Au X ρ' α' σ') (r:Bv (Zx X ρ' α') ρ' σ' b v) (q:Q v α' as'):SC X Q b ρ' α' σ'
inductive PB(X:Nat->Prop)(Q:Kq Bool)(b:Bool)(ρ':List Nat)(α':AH)(σ':CH):Prop
 | mk (as':List Al) (s:Au X ρ' α' σ') (q:Q b α' as'):PB X Q b ρ' α' σ'
def B3(E:CX->Prop)(f:EA)(fc:BM):Prop:=∀ks loc e α as Q,f ks loc e α as Q->∀X ρ σ cloc,Au X ρ α σ->AW (Zx X ρ α) ρ σ cloc loc->Sm E ρ α σ (fc ks cloc e) (PQ X σ.length Q)
def FE(E:CX->Prop)(g:TA)(gc:CU):Prop:=∀ks loc e α as Q,g ks loc e α as Q->∀X ρ σ cloc,Au X ρ α σ->AW (Zx X ρ α) ρ σ cloc loc->Sm E ρ α σ (gc ks cloc e) (PB X Q)
structure ES(E:CX->Prop)(H:Hs)(Γ:AM):Prop where
 quiet:H.quiet=true->∀x,¬E x
 gt:GT Γ
 fn:∀f vs α as Q,H.fn f vs α as Q->∀X ρ σ cvs,Au X ρ α σ->Bv (Zx X ρ α) ρ σ cvs vs->Sm E ρ α σ (C9 Γ f cvs) (PV X Q)
 cls:∀C vs α as Q,H.cls C vs α as Q->∀X ρ σ cvs,Au X ρ α σ->Bv (Zx X ρ α) ρ σ cvs vs->Sm E ρ α σ (newC Γ C cvs) (PV X Q)
section
variable {E:CX->Prop}{X:Nat->Prop}{ρ:List Nat}{α:AH}{σ:CH}{n:Nat}{f:EA}{g:TA}{fc:BM}{gc:CU}{H:Hs}{Γ:AM}{ks:AD}{loc:An}{cloc:Ao}{as:List Al}
theorem Cy(hf:B3 E f fc){e:Expr}{Q:Kq V}(h:BU f ks loc e α as Q)(s:Au X ρ α σ)(l:AW (Zx X ρ α) ρ σ cloc loc):Sm E ρ α σ (fc ks cloc e) (PV X Q) :=
 (hf ks loc e α as _ h X ρ σ cloc s l).mono λb ρ' α' σ' _ ⟨r,as',h1,h2⟩=>⟨_,as',h1.frz.1,h1.frz.2,h2⟩
theorem Gf(hf:B3 E f fc):∀{es:List Expr} {α:AH} {as:List Al} {ρ:List Nat} {σ:CH} {Q:Kq (List V)},D4 f ks loc es α as Q->Au X ρ α σ->AW (Zx X ρ α) ρ σ cloc loc->Sm E ρ α σ (Bx (fc ks cloc) es) (SC X Q):=by
 intro z1
 induction z1 with
 | nil =>
  intro α as ρ σ Q h s l;exact .ret ⟨[],as,s,trivial,h⟩
 | cons e es ih =>
  intro α as ρ σ Q h s l;rw[AiU]at h;rcases hs:C8 e with _ | _
  ·rw[hs]at h;rw[QP];rw[if_neg (by rw[hs];exact Cw)]
   refine(Cy hf h s l).bnd λc ρ1 α1 σ1 p zz => ?_;rcases zz with⟨v,as1,s1,r1,h1⟩
   refine(ih h1 s1 (l.stp p)).bnd λcs ρ2 α2 σ2 p2 zz => ?_;rcases zz with⟨vs,as2,s2,r2,h2⟩
   exact .ret ⟨v::vs,as2,s2,⟨r1.stp p2,r2⟩,h2⟩
  ·rw[hs]at h;exact h.elim
theorem HU{x:CM CV}{Q:Kq Rv}{m:Nat}(h:Sm E ρ α σ x (PR X m α r))(q:Q r α as)(e:n<=m):Sm E ρ α σ x (PQ X n Q):=h.mono λb ρ' α' σ' _ ⟨e1,h1⟩=>by subst e1;exact⟨r,as,h1.le e,q⟩
theorem MI{x:CM CV}{Q:Kq Rv}(h:Sm E ρ α σ x (PV X λv α as=>Q (.v v) α as)):Sm E ρ α σ x (PQ X n Q):=h.mono λb ρ' α' σ' _ ⟨v,as',s,r,q⟩=>⟨.v v,as',⟨s,r⟩,q⟩
theorem PQ.le{m:Nat}{x:CM CV}{Q:Kq Rv}(h:Sm E ρ α σ x (PQ X m Q))(e:n<=m):Sm E ρ α σ x (PQ X n Q):=h.mono λb ρ' α' σ' _ ⟨r,as',h1,q⟩=>⟨r,as',h1.le e,q⟩
theorem AjM{k:Const}{t:T}(h:Xc k=some t){Z:Nat->Prop}:∃c,Og k=ret c/\TR Z σ c t:=by
 rcases k with⟨⟩<;>first | (first | (exfalso;injection h;done) | (injection h with za;subst za)) | skip
 ·exact⟨_,rfl,.none⟩
 ·exact⟨_,rfl,.bool _⟩
 ·exact⟨_,rfl,.int _⟩
 ·exact⟨_,rfl,.str _⟩
theorem AjN(g:GT Γ){Z:Nat->Prop}{x:Ac}{w:W}(h:RI ks loc x=some w)(l:AW Z ρ σ cloc loc):∃c,Gw Γ ks cloc x=ret c/\WR Z ρ σ c w:=by
 have lo:(match loc.lookup x with | some .junk=>none | o=>o)=some w->∃c,(match cloc.lookup x with | some v=>ret v | none=>Ar)=ret c/\WR Z ρ σ c w:=λh=>by
  rcases q:loc.lookup x with _ | w'
  ·rw[q]at h;(exfalso;injection h)
  ·rw[q]at h;have e:w'=w/\w'≠.junk:=by rcases w' with⟨⟩<;>first | ((first | (exfalso;injection h;done) | (injection h with za;subst za));exact⟨rfl,λz=>nomatch z⟩) | (exfalso;injection h)
   refine Ah (l x w' q e.2) ?_;rintro c h1 h2;rw[h1];exact⟨c,rfl,e.1▸h2⟩
 unfold RI at h;unfold Gw;rcases hg:C7 x with _ | _
 ·rw[hg]at h;(exfalso;injection h)
 ·rw[hg]at h;rw[if_pos rfl];rcases hk:ks.lookup x with _ | k
  ·rw[hk]at h;(exfalso;injection h)
  ·rw[hk]at h;rcases k with⟨⟩<;>first | exact lo h | (exfalso;injection h) | skip
   dsimp only at h ⊢;rw[g.top];rcases ht:FW.lookup x with _ | v
   ·rw[ht]at h;(exfalso;injection h)
   ·rw[ht]at h;rcases v with i | a
    ·injection h with za;subst za;exact⟨_,rfl,.int _⟩
    ·exfalso;injection h
theorem AjO(hf:B3 E f fc){op:BoolOp}:∀{es:List Expr} {α:AH} {as:List Al} {ρ:List Nat} {σ:CH} {Q:Kq V},OU f ks loc op es α as Q->Au X ρ α σ->AW (Zx X ρ α) ρ σ cloc loc->Sm E ρ α σ (LY (fc ks cloc) op es) (PV X Q):=by
 intro es
 induction es with
 | nil=>intro α as ρ σ Q h s l;exact h.elim
 | cons e es ih =>
  intro α as ρ σ Q h s l;rcases es with _ | ⟨e',es⟩
  ·exact Cy hf h s l
  ·have h:BU f ks loc e α as (λv α as=>Bq (JI α v) λt=>match (generalizing:=false) op,t with
     | .And,false=>Q v α as
     | .Or,true=>Q v α as
     | _,_=>OU f ks loc op (e'::es) α as Q):=h
   refine(Cy hf h s l).bnd λc ρ1 α1 σ1 p zz => ?_;rcases zz with⟨v,as1,s1,r1,h1⟩
   refine Ah (BE h1) ?_;rintro t ht h1;refine Sm.eq (Ch (Sx s1 ht r1)) ?_;have go:=λh=>ih (α:=α1) (as:=as1) (Q:=Q) h s1 (l.stp p);rcases op with⟨⟩<;>rcases t with⟨⟩
   ·exact .ret ⟨v,as1,s1,r1,h1⟩
   ·exact go h1
   ·exact go h1
   ·exact .ret ⟨v,as1,s1,r1,h1⟩
theorem AjP{a b:V}{ca cb:CV}{t:Bool}{Q:Kq Bool}(s:Au X ρ α σ)(h:JK op α a b=some t)(ra:UR (Zx X ρ α) ρ σ ca a)(rb:UR (Zx X ρ α) ρ σ cb b)(q:Q t α as):Sm E ρ α σ (Eg op ca cb) (PB X Q):=.ok (Sw s h ra rb) AT.refl ⟨as,s,q⟩
theorem XW(hf:B3 E f fc):∀{ops:List Fl} {es:List Expr} {a:V} {ca:CV} {α:AH} {as:List Al} {ρ:List Nat} {σ:CH} {Q:Kq Bool},K6 f ks loc a ops es α as Q->Au X ρ α σ->AW (Zx X ρ α) ρ σ cloc loc->UR (Zx X ρ α) ρ σ ca a->Sm E ρ α σ (Fv (fc ks cloc) ca ops es) (PB X Q):=by
 intro ops
 induction ops with
 | nil =>
  intro es a ca α as ρ σ Q h s l ra;rcases es with _ | ⟨_,_⟩
  ·exact h.elim
  ·exact h.elim
 | cons op ops ih =>
  intro es a ca α as ρ σ Q h s l ra;rcases es with _ | ⟨e,es⟩
  ·rcases ops with _ | ⟨op',ops⟩
   ·exact h.elim
   ·exact h.elim
  ·rcases ops with _ | ⟨op',ops⟩
   ·rcases es with _ | ⟨e',es⟩
    ·refine(Cy hf (Q:=λb α as=>DZ KY (JK op α a b) as λt as=>Q t α as) h s l).bnd λc ρ1 α1 σ1 p zz => ?_;rcases zz with⟨v,as1,s1,r1,h1⟩
     refine Ba (Ge h1) ?_;rintro t as2 ht h1;exact AjP s1 ht (ra.stp p) r1 h1
    ·refine(Cy hf (Q:=λb α as=>DZ KY (JK op α a b) as λt as=>match t with
      | true=>K6 f ks loc b [] (e'::es) α as Q
      | false=>Q false α as) h s l).bnd λc ρ1 α1 σ1 p zz => ?_
     rcases zz with⟨v,as1,s1,r1,h1⟩
     refine Ba (Ge h1) ?_;rintro t as2 ht h1;refine Sm.eq (x:=if t=true then Fv (fc ks cloc) c [] (e'::es)else ret t) (Ch (Sw s1 ht (ra.stp p) r1)) ?_;rcases t with _ | _
     ·exact .ret ⟨as2,s1,h1⟩
     ·exact ih (ca:=c) h1 s1 (l.stp p) r1
   ·refine(Cy hf (Q:=λb α as=>DZ KY (JK op α a b) as λt as=>match t with
     | true=>K6 f ks loc b (op'::ops) es α as Q
     | false=>Q false α as) h s l).bnd λc ρ1 α1 σ1 p zz => ?_
    rcases zz with⟨v,as1,s1,r1,h1⟩
    refine Ba (Ge h1) ?_;rintro t as2 ht h1;refine Sm.eq (x:=if t=true then Fv (fc ks cloc) c (op'::ops) es else ret t) (Ch (Sw s1 ht (ra.stp p) r1)) ?_;rcases t with _ | _
    ·exact .ret ⟨as2,s1,h1⟩
    ·exact ih (ca:=c) h1 s1 (l.stp p) r1
theorem AjQ{fe:Expr->CM CV}:∀{ops:List Fl} {es:List Expr} {a:CV},Hb fe a ops es=bnd (Fv fe a ops es) λt=>ret (.bool t):=by
 intro ops
 induction ops with
 | nil =>
  intro es a;rcases es with _ | ⟨_,_⟩
  ·rfl
  ·rfl
 | cons op ops ih =>
  intro es a;rcases es with _ | ⟨e,es⟩
  ·rcases ops with _ | ⟨op',ops⟩
   ·rfl
   ·rfl
  ·rcases ops with _ | ⟨op',ops⟩
   ·rcases es with _ | ⟨e',es⟩
    ·exact(El _ _ _).symm
    ·show bnd (fe e) (λb=>bnd (Eg op a b) λt=>if t=true then Hb fe b [] (e'::es)else ret (.bool t))=bnd (bnd (fe e) λb=>bnd (Eg op a b) λt=>if t=true then Fv fe b [] (e'::es)else ret t) _;rw[El];refine KJ λb => ?_;rw[El];refine KJ λt => ?_;rcases t with⟨⟩
     ·rfl
     ·exact ih (es:=e'::es) (a:=b)
   ·show bnd (fe e) (λb=>bnd (Eg op a b) λt=>if t=true then Hb fe b (op'::ops) es else ret (.bool t))=bnd (bnd (fe e) λb=>bnd (Eg op a b) λt=>if t=true then Fv fe b (op'::ops) es else ret t) _;rw[El];refine KJ λb => ?_;rw[El];refine KJ λt => ?_;rcases t with⟨⟩
    ·rfl
    ·exact ih (es:=es) (a:=b)
theorem AjR(hg:FE E g gc){op:BoolOp}:∀{es:List Expr} {α:AH} {as:List Al} {ρ:List Nat} {σ:CH} {Q:Kq Bool},Mz g ks loc op es α as Q->Au X ρ α σ->AW (Zx X ρ α) ρ σ cloc loc->Sm E ρ α σ (KA (gc ks cloc) op es) (PB X Q):=by
 intro z1
 induction z1 with
 | nil =>
  intro α as ρ σ Q h s l;exact .ret ⟨as,s,h⟩
 | cons e es ih =>
  intro α as ρ σ Q h s l;rw[AiX]at h;rw[VQ];refine(hg ks loc e α as _ h X ρ σ cloc s l).bnd λt ρ1 α1 σ1 p zz => ?_;rcases zz with⟨as1,s1,h1⟩
  have go:=λh=>ih (α:=α1) (as:=as1) (Q:=Q) h s1 (l.stp p);rcases op with⟨⟩<;>rcases t with⟨⟩
  ·exact .ret ⟨as1,s1,h1⟩
  ·exact go h1
  ·exact go h1
  ·exact .ret ⟨as1,s1,h1⟩
theorem XX(hf:B3 E f fc){o:Option Expr}{Q:Kq V}(h:MA f ks loc o α as Q)(s:Au X ρ α σ)(l:AW (Zx X ρ α) ρ σ cloc loc):Sm E ρ α σ (Om (fc ks cloc) o) (PV X Q):=by
 rcases o with _ | e
 ·exact .ret ⟨Vf .none,as,s,TR.none,h⟩
 ·exact Cy hf h s l
theorem AjS(hf:B3 E f fc){o i:Expr}{Q:Kq Rv}(h:R7 f ks loc o i α as Q)(s:Au X ρ α σ)(l:AW (Zx X ρ α) ρ σ cloc loc):Sm E ρ α σ (LZ (fc ks cloc) o i) (PQ X σ.length Q):=by
 have plain:(BU f ks loc o α as λv α as=>BU f ks loc i α as λk α as=>DZ OK (OM α v k) as λt as=>Q (.v (Vf t)) α as)->Sm E ρ α σ (bnd (fc ks cloc o) λv=>bnd (fc ks cloc i) λk=>HE v k) (PQ X σ.length Q):=λh=>by
  refine(Cy hf h s l).bnd λc ρ1 α1 σ1 p zz => ?_;rcases zz with⟨v,as1,s1,r1,h1⟩
  refine(Cy hf h1 s1 (l.stp p)).bnd λd ρ2 α2 σ2 p2 zz => ?_;rcases zz with⟨w,as2,s2,r2,h2⟩
  refine Ba (Ge h2) ?_;rintro t as3 ht h2;exact HU (m:=σ.length) (Aje s2 ht (r1.stp p2) r2) h2 (AK _)
 unfold R7 at h;unfold LZ;rcases hq:Kt i with _ | ⟨a,b,st,pos⟩
 ·rw[hq]at h;exact plain h
 ·rw[hq]at h;clear plain;dsimp only at h ⊢;rcases st with _ | st
  ·refine(Cy hf (Q:=λv α as=>MA f ks loc a α as λx α as=>MA f ks loc b α as λy α as=>Bq (RO α v x y) λts=>Q (.l ts) α as) h s l).bnd λc ρ1 α1 σ1 p zz => ?_;rcases zz with⟨v,as1,s1,r1,h1⟩
   refine(XX hf h1 s1 (l.stp p)).bnd λd ρ2 α2 σ2 p2 zz => ?_;rcases zz with⟨x,as2,s2,r2,h2⟩
   refine(XX hf h2 s2 (l.stp (p.trans p2))).bnd λd3 ρ3 α3 σ3 p3 zz => ?_;rcases zz with⟨y,as3,s3,r3,h3⟩
   refine Ah (BE h3) ?_;rintro ts ht h3;have hn:=(p.trans (p2.trans p3)).len;exact HU (Aji s3 ht (r1.stp (p2.trans p3)) (r2.stp p3) r3 hn) h3 (AK _)
  ·exact h.elim
end
end
section
section
variable {E:CX->Prop}{X:Nat->Prop}{ρ:List Nat}{α:AH}{σ:CH}{n:Nat}{f:EA}{g:TA}{fc:BM}{gc:CU}{H:Hs}{Γ:AM}{ks:AD}{loc:An}{cloc:Ao}{as:List Al}
theorem XY(s:Au X ρ α σ){k a:Nat}{ao:AO}{vs:List CV}{ts:List T}(hk:ρ[k]? = some a)(ha:α[k]? = some ao)(hl:ao≠.dead){o:CO}(ho:σ[a]? = some o)(r:AA (Zx X ρ α) σ vs ts)(z:small ts.length=true) :
  Au X ρ (α.set k (.lst ts)) (σ.set a (.list vs))/\AT ρ α σ ρ (α.set k (.lst ts)) (σ.set a (.list vs)) :=
 ⟨s.put _ hk ha hl ⟨vs,O1 ho,by rw[r.len];exact z,r.mono λb o hb n=>O0 s _ hk ha hl hb n⟩,.put s _ hk ha hl⟩
theorem O9{x:CM CV}{b:CV}{t:T}(s:Au X ρ α σ){k a:Nat}{ao:AO}{vs:List CV}{ts:List T}(hk:ρ[k]? = some a)(ha:α[k]? = some ao)(hl:ao≠.dead){o:CO}(ho:σ[a]? = some o)(r:AA (Zx X ρ α) σ vs ts)(z:small ts.length=true)
  (e:x σ=.ok b (σ.set a (.list vs))) (rb:TR (Zx X ρ α) σ b t) {Q:Kq Rv} (q:Q (.v (Vf t)) (α.set k (.lst ts)) as):Sm E ρ α σ x (PQ X n Q):=by
 refine At (XY s hk ha hl ho r z) ?_;rintro s' p;exact .ok e p ⟨.v (Vf t),as,⟨s',TR.mono (λy y h n=>p.tr h n) rb⟩,q⟩
theorem AjT{vs:List CV}{ts:List T}(h:AA Z σ vs ts):AA Z σ vs.dropLast ts.dropLast:=by
 rw[AoZ,AoZ,h.len];exact h.take _
theorem AjU{vs:List CV}{ts:List T}{t:T}(h:AA Z σ vs ts)(e:ts.getLast? = some t):∃v,vs.getLast? = some v/\TR Z σ v t:=by
 rw[List.getLast?_eq_getElem?]at e ⊢;rw[h.len];exact h.at e
theorem JU{o:Option AO}{F:List T->Prop}(h:IG o F):∃ts,o=some (.lst ts)/\F ts:=by
 rcases o with _ | (ts | _ | _ | _)<;>first | exact h.elim | exact⟨_,rfl,h⟩
theorem AjV{vs:List V}{P:Prop}(h:OP vs P):vs=[]/\P:=by
 rcases vs with _ | _
 ·exact⟨rfl,h⟩
 ·exact h.elim
theorem AjW(s:Au X ρ α σ){k a:Nat}{v:V}{c:CV}{Q:Kq Rv}(h:Xm k α as Q v)(hk:ρ[k]? = some a)(rv:UR (Zx X ρ α) ρ σ c v):Sm E ρ α σ (Ha a c) (PQ X n Q):=by
 refine Ah (BE h) ?_;rintro⟨t,α1⟩ e h;refine CZ (OZ e s rv) ?_;rintro s1 p1 t1;refine Sm.pre p1 ?_;refine Ah (JU h) ?_;rintro ts q h;rcases JR h with⟨g,as',h⟩
 refine AE (s1.ob k a _ hk q) ?_;rintro us e2 e3 e4;refine O9 s1 hk q (λz=>nomatch z) e2 (e4.app (.cons t1 .nil)) (by rw[Bg];exact g) (b:=.none) ?_ .none h
 show bnd (listC a) _ σ=_;rw[Ch (Dk e2 e3)];rfl
theorem XZ(s:Au X ρ α σ){k a b:Nat}{ws:List CV}{ts us:List T}{Q:Kq Rv}(hk:ρ[k]? = some a)(hα:α[k]? = some (.lst ts))(hne:a≠b)(hb:σ[b]? = some (.list ws))(zb:small ws.length=true)(rb:AA (Zx X ρ α) σ ws us)(h:RV k α as Q ts us) :
  Sm E ρ α σ (Kz a (.ref b)) (PQ X n Q):=by
 rcases JR h with⟨g,as',h⟩
 refine AE (s.ob k a _ hk hα) ?_;rintro xs e2 e3 e4;refine O9 s hk hα (λz=>nomatch z) e2 (e4.app rb) (by rw[Bg];exact g) (b:=.none) ?_ .none h
 show(if a=b then Ar else _) σ=_;rw[if_neg hne,Ch (Dk e2 e3),Ch (Dk hb zb)];rfl
theorem AjX(s:Au X ρ α σ){k a:Nat}{v:V}{c:CV}{Q:Kq Rv}(h:Xn k α as Q v)(hk:ρ[k]? = some a)(rv:UR (Zx X ρ α) ρ σ c v):Sm E ρ α σ (Kz a c) (PQ X n Q):=by
 rcases v with(j | (_ | _ | _ | _ | ⟨_ | _ | _ | _,us⟩) | _) | _
 case w.own =>
  refine Ah rv ?_;clear rv;rintro b hb rfl;refine Ah (JU h) ?_;rintro ts q1 h;refine Ah (JU h) ?_;rintro us q2 h;refine At (Cx h) ?_;rintro g1 h;refine AE (s.ob j b _ hb q2) ?_;rintro ws e2 e3 e4;refine XZ s hk q1 (λe => ?_) e2 e3 e4 h;rw[<- e]at hb;rw[(Aa1 (DK.mp hk).1 s.nd).mp (hk.trans hb.symm),Nat.beq_refl]at g1;exfalso;injection g1
 case w.fz.node.lst =>
  have rv':TR (Zx X ρ α) σ c (.node .lst us):=rv;refine AI rv'.lst_ref ?_;rintro b rfl;rcases rv'.list with⟨n1,ws,e2,e3,e4⟩
  refine Ah (JU h) ?_;rintro ts q1 h;exact XZ s hk q1 (λe=>n1 (.inr ⟨k,_,e▸hk,q1,λz=>nomatch z⟩)) e2 e3 e4 h
 all_goals exact(h:False).elim
theorem AjY(s:Au X ρ α σ){k a:Nat}{Q:Kq Rv}(h:Xo k α as Q)(hk:ρ[k]? = some a):Sm E ρ α σ (LV a) (PQ X n Q):=by
 refine Ah (JU h) ?_;rintro ts q h;refine Ba (Ge h) ?_;rintro t as' e h;refine AE (s.ob k a _ hk q) ?_;rintro us e2 e3 e4;refine Ah (AjU e4 e) ?_;rintro v g1 g2;refine O9 s hk q (λz=>nomatch z) e2 (AjT e4) (Sy (HT e4 e3) (by rw[List.length_dropLast];exact Ni _ _)) (b:=v) ?_ g2 h
 show bnd (listC a) _ σ=_;rw[Ch (Dk e2 e3),g1];rfl
theorem AjZ(s:Au X ρ α σ){k a:Nat}{Q:Kq Rv}(h:Xq k α as Q)(hk:ρ[k]? = some a):Sm E ρ α σ (LX a) (PQ X n Q):=by
 refine Ah (JU h) ?_;rintro ts q h;refine AE (s.ob k a _ hk q) ?_;rintro us e2 e3 e4;refine O9 s hk q (λz=>nomatch z) e2 e4.rev (by rw[List.length_reverse];exact HT e4 e3) (b:=.none) ?_ .none h
 show bnd (listC a) _ σ=_;rw[Ch (Dk e2 e3)];rfl
theorem X0(s:Au X ρ α σ){a:Nat}{v:V}{c:CV}{ts:List T}{us:List CV}{Q:Kq Rv}(h:RW α as Q ts v)(rv:UR (Zx X ρ α) ρ σ c v)(e2:σ[a]? = some (.list us))(e3:small us.length=true)(e4:AA (Zx X ρ α) σ us ts):Sm E ρ α σ (Jq a c) (PQ X n Q):=by
 refine Ah (BE h) ?_;rintro t g1 h;refine Ba (Ge h) ?_;rintro rr as2 g2 h;exact HU (m:=n) (AjL s g1 g2 e2 e3 e4 rv) h (AK _)
theorem Aj0(s:Au X ρ α σ){k a:Nat}{x:Ac}{vs:List V}{cvs:List CV}{Q:Kq Rv}(h:RX k x vs α as Q)(hk:ρ[k]? = some a)(r:Bv (Zx X ρ α) ρ σ cvs vs):Sm E ρ α σ (Fw a x cvs) (PQ X n Q):=by
 have one:∀{P:V->Prop} {f:CV->CM CV},Gb vs P->(∀v c,P v->UR (Zx X ρ α) ρ σ c v->Sm E ρ α σ (f c) (PQ X n Q))->Sm E ρ α σ (DB f cvs) (PQ X n Q):=λ{P f} h k=>by
  refine Ah (JS h) ?_;rintro v e h;rw[e]at r;refine Ah (JT r) ?_;rintro c e rv;rw[e];exact k v c h rv
 have non:∀{P:Prop} {f:CM CV},OP vs P->(P->Sm E ρ α σ f (PQ X n Q))->Sm E ρ α σ (KC f cvs) (PQ X n Q):=λ{P f} h k=>by
  refine At (AjV h) ?_;rintro e h;rw[e]at r;rw[Ajk r];exact k h
 clear r;unfold RX at h;unfold Fw
 by_cases e:x=Ab "append"
 ·rw[if_pos e]at h ⊢;exact one h λv c h rv=>AjW s h hk rv
 rw[if_neg e]at h ⊢;clear e
 by_cases e:x=Ab "extend"
 ·rw[if_pos e]at h ⊢;exact one h λv c h rv=>AjX s h hk rv
 rw[if_neg e]at h ⊢;clear e
 by_cases e:x=Ab "pop"
 ·rw[if_pos e]at h ⊢;exact non h λh=>AjY s h hk
 rw[if_neg e]at h ⊢;clear e
 by_cases e:x=Ab "reverse"
 ·rw[if_pos e]at h ⊢;exact non h λh=>AjZ s h hk
 rw[if_neg e]at h ⊢;clear e
 by_cases e:x=Ab "index"
 ·rw[if_pos e]at h ⊢;refine one h λv c h rv => ?_;refine Ah (JU h) ?_;rintro ts q h;refine AE (s.ob k a _ hk q) ?_;rintro us e2 e3 e4;exact X0 s h rv e2 e3 e4
 rw[if_neg e]at h;exact h.elim
theorem SD(g:GT Γ){x:Ac}{v:Ad}:CS Γ ks x v=CS G0 ks x v:=by unfold CS;rw[g.top,g.bins];rfl
theorem Aj1(g:GT Γ){c x:Ac}:HJ Γ ks c x=HJ G0 ks c x:=by unfold HJ;rw[g.top,g.clsfn];rfl
theorem Aj2(g:GT Γ){x:Ac}{es:List Expr}:Jx Γ ks x es=ON ks x es:=by
 unfold ON Jx;simp only[SD g]
theorem Aj3(g:GT Γ)(hf:B3 E f fc){k:Jw}{Q:Kq Rv}(h:OO f ks loc k α as Q)(s:Au X ρ α σ)(l:AW (Zx X ρ α) ρ σ cloc loc):Sm E ρ α σ (Ws (fc ks cloc) k) (PQ X σ.length Q):=by
 rcases k with rs | e | e
 ·refine Sm.eq (x:=bnd (Bx (fc ks cloc) rs) λvs=>bnd (HI vs) λr=>BV ((DM r.1 r.2.1 r.2.2).map .int)) (congrFun (El _ _ _) _) ?_;refine(Gf hf h s l).bnd λcs ρ1 α1 σ1 p zz => ?_;rcases zz with⟨vs,as1,s1,r1,h1⟩
  refine Ba (Ge h1) ?_;rintro ts as2 e h1;refine CG (XR e r1) ?_;rintro a c m e1 e2 rfl;refine Sm.eq (x:=BV ((DM a c m).map .int)) ?_ (HU (HS s1 rfl (AA.ints _) ?_ p.len) h1 (AK _))
  ·unfold HI;rw[e1];rfl
  ·rw[AG,XO];exact decide_eq_true e2
 ·dsimp only[OO]at h;refine Sm.eq (x:=bnd (fc ks cloc e) λv=>bnd (Jt v) Mc) (congrFun (El _ _ _) _) ?_;refine(Cy hf h s l).bnd λc ρ1 α1 σ1 p zz => ?_;rcases zz with⟨v,as1,s1,r1,h1⟩
  refine Ba (Ge h1) ?_;rintro ts as2 e h1;exact HU (AjD s1 e r1 p.len) h1 (AK _)
 ·dsimp only[OO]at h;refine(Cy hf h s l).bnd λc ρ1 α1 σ1 p zz => ?_;rcases zz with⟨v,as1,s1,r1,h1⟩
  refine Ba (Ge h1) ?_;rintro ts as2 e h1;exact HU (AjJ s1 e r1 p.len) h1 (AK _)
theorem Aj4(hH:ES E H Γ)(hf:B3 E f fc){x:Ac}{es:List Expr}{Q:Kq Rv}(h:Xl H f ks loc x es α as Q)(s:Au X ρ α σ)(l:AW (Zx X ρ α) ρ σ cloc loc):Sm E ρ α σ (L8 (fc ks cloc) Γ ks x es) (PQ X σ.length Q):=by
 refine At (Cx h) ?_;rintro e h;rw[A9]at e;unfold L8;rw[if_pos e,hH.gt.top,hH.gt.inits,hH.gt.bins];rcases q:FW.lookup x with _ | v
 ·rw[q]at h;dsimp only at h ⊢;rcases q2:EI.lookup x with _ | v
  ·rw[q2]at h;exact h.elim
  ·rw[q2]at h;refine(Gf hf h s l).bnd λcs ρ1 α1 σ1 p zz => ?_;rcases zz with⟨vs,as1,s1,r1,h1⟩
   refine(Ajw s1 q2 h1 r1 p.len).mono λb ρ' α' σ' z zz => ?_;refine Ba zz ?_;clear zz;rintro rv as' e1 h2;exact⟨rv,as',e1.2,by rw[e1.1];exact h2⟩
 ·rw[q]at h;rcases v with i | a
  ·exact h.elim
  ·dsimp only at h ⊢;rcases q3:Gp.lookup a with _ | v
   ·rw[q3]at h;refine(Gf hf h s l).bnd λcs ρ1 α1 σ1 p zz => ?_;rcases zz with⟨vs,as1,s1,r1,h1⟩
    exact MI (hH.fn _ _ _ _ _ h1 X ρ1 σ1 cs s1 r1)
   ·rw[q3]at h;refine(Gf hf h s l).bnd λcs ρ1 α1 σ1 p zz => ?_;rcases zz with⟨vs,as1,s1,r1,h1⟩
    exact MI (hH.cls _ _ _ _ _ h1 X ρ1 σ1 cs s1 r1)
theorem X2:∀{as:List (Ac×W)} {cs:List (Ac×CV)} {x:Ac},as.map (·.1)=cs.map (·.1)->as.lookup x=none->cs.lookup x=none:=by
 intro z1
 induction z1 with
 | nil =>
  intro z3;rcases z3 with _ | ⟨z4,z5⟩
  ·intro x e h;exact rfl
  ·intro x e h;exfalso;injection e
 | cons z2 as ih =>
  rcases z2 with⟨y,w'⟩
  intro z6;rcases z6 with _ | ⟨z7,cs⟩
  ·intro x e h;exfalso;injection e
  ·rcases z7 with⟨y',v⟩
   intro x e h;rw[Bj,Bj,Jg]at e;refine At e ?_;clear e;rintro e1 e2;subst e1;rw[BC]at h ⊢;rcases q:x == y with _ | _
   ·rw[q]at h;exact ih e2 h
   ·rw[q]at h;(exfalso;injection h)
theorem Aj5:∀{cs:List (Ac×CV)} {x:Ac},(cs.map (·.1)).contains x=false->cs.lookup x=none:=by
 intro z1
 induction z1 with
 | nil =>
  intro x h;exact rfl
 | cons z2 cs ih =>
  rcases z2 with⟨y,v⟩
  intro x h;rw[Bj,AoV,Bool.or_eq_false_iff]at h;rw[BC,h.1];exact ih h.2
theorem X3(hH:ES E H Γ)(hf:B3 E f fc){ov:V}{x:Ac}{es:List Expr}{Q:Kq Rv}{a:Nat}{C:Af}{g:Af}{cs:List (Ac×CV)}(s:Au X ρ α σ)(l:AW (Zx X ρ α) ρ σ cloc loc)(r:UR (Zx X ρ α) ρ σ (.ref a) ov)(e1:σ[a]? = some (.inst C cs))(e2:(HB.lookup C).bind (·.lookup x)=some g)(e3:cs.lookup x=none)
  (h:RY H f ks loc ov es α as Q g):Sm E ρ α σ (E5 (fc ks cloc) Γ a x es) (PQ X n Q):=by
 refine Sm.eq (x:=bnd (Bx (fc ks cloc) es) λvs=>C9 Γ g (.ref a::vs)) ?_ ?_
 ·unfold E5;rw[e1];dsimp only;rw[hH.gt.meths,e2,e3]
 ·refine(Gf hf h s l).bnd λcs ρ1 α1 σ1 p zz => ?_;rcases zz with⟨vs,as1,s1,r1,h1⟩
  exact MI (hH.fn _ _ _ _ _ h1 X ρ1 σ1 _ s1 ⟨r.stp p,r1⟩)
theorem X4{f:Expr->CM CV}{vs:List CV}(h2:σ[a]? = some (.list vs))(hl:KD x=true):E5 f Γ a x es σ=bnd (Bx f es) (λvs=>Fw a x vs) σ:=by
 unfold E5;rw[h2];exact if_pos hl
theorem Aj6(hH:ES E H Γ)(hf:B3 E f fc){k a:Nat}{x:Ac}{es:List Expr}{Q:Kq Rv}(h:Xr H f ks loc k x es α as Q α[k]?)(s:Au X ρ α σ)(l:AW (Zx X ρ α) ρ σ cloc loc)(hk:ρ[k]? = some a):Sm E ρ α σ (E5 (fc ks cloc) Γ a x es) (PQ X n Q):=by
 rcases q:α[k]? with _ | (ts | _ | ⟨C,as'⟩ | _)
 all_goals rw[q]at h
 case some.ins =>
  refine AE (s.ob k a _ hk q) ?_;rintro cs h2 h3 h4;refine Ah (BE h) ?_;rintro g q1 h;refine At (Cx h) ?_;rintro q2 h;exact X3 (ov:=.w (.own k)) hH hf s l ⟨a,hk,rfl⟩ h2 q1 (X2 h3 (AoO.mp q2)) h
 case some.lst =>
  refine At (Cx h) ?_;rintro hl h;refine AE (s.ob k a _ hk q) ?_;rintro vs h2 h3 h4;refine Sm.eq (X4 h2 hl) ?_;refine(Gf hf h s l).bnd λcs ρ1 α1 σ1 p zz => ?_;rcases zz with⟨vs,as1,s1,r1,h1⟩
  exact Aj0 s1 h1 (p.pre k a hk) r1
 all_goals exact h.elim
theorem Aj7(hH:ES E H Γ)(hf:B3 E f fc){ov:V}{c:CV}{x:Ac}{es:List Expr}{Q:Kq Rv}(h:RZ H f ks loc ov x es α as Q)(s:Au X ρ α σ)(l:AW (Zx X ρ α) ρ σ cloc loc)(r:UR (Zx X ρ α) ρ σ c ov) :
  Sm E ρ α σ (match c with | .ref n=>E5 (fc ks cloc) Γ n x es | _=>Ar) (PQ X n Q):=by
 rcases ov with(k | (_ | _ | _ | _ | ⟨_ | _ | _ | ⟨C,xs⟩,ts⟩) | _) | _
 case w.own =>
  refine Ah r ?_;clear r;rintro a hk e;rw[e];exact Aj6 hH hf h s l hk
 case w.fz.node.ins =>
  have r':TR (Zx X ρ α) σ c (.node (.ins C xs) ts):=r;refine AI r'.ins_ref ?_;rintro a rfl;rcases r'.inst with⟨_,cs,h2,h3,h4⟩
  refine Ah (BE h) ?_;rintro g q1 h;refine At (Cx h) ?_;rintro q2 h;exact X3 hH hf s l r h2 q1 (Aj5 (h3▸(EY _).mp q2)) h
 case w.fz.node.lst =>
  have r':TR (Zx X ρ α) σ c (.node .lst ts):=r;refine AI r'.lst_ref ?_;rintro a rfl;rcases r'.list with⟨_,vs,h2,h3,h4⟩
  refine At (Cx h) ?_;rintro e h;rw[of_decide_eq_true e];refine Sm.eq (X4 h2 (by kernel_rfl)) ?_
  refine(Gf hf h s l).bnd λcs ρ1 α1 σ1 p zz => ?_;rcases zz with⟨vs,as1,s1,r1,h1⟩
  refine Ah (JS h1) ?_;rintro v e h1;rw[e]at r1;refine Ah (JT r1) ?_;rintro c e rv;rw[e];have r2:TR (Zx X ρ1 α1) σ1 (.ref a) (.node .lst ts):=TR.mono (λz z h n=>p.tr h n) r';rcases r2.list with⟨_,us,h5,h6,h7⟩
  exact X0 s1 h1 rv h5 h6 h7
 all_goals exact(h:False).elim
theorem Aj8(hH:ES E H Γ)(hf:B3 E f fc){fe:Expr}{es:List Expr}{pos:Pos}{Q:Kq Rv}(h:R0 H f ks loc fe es pos α as Q)(s:Au X ρ α σ)(l:AW (Zx X ρ α) ρ σ cloc loc):Sm E ρ α σ (Mj (fc ks cloc) Γ ks fe es pos) (PQ X σ.length Q):=by
 have meth:∀{o:Expr} {x:Ac} {apos:Pos},Cf (E4 es apos pos && Ir o) (BU f ks loc o α as λov α as=>RZ H f ks loc ov x es α as Q)->Sm E ρ α σ (KE (fc ks cloc) Γ o x apos es pos) (PQ X σ.length Q):=λ{o x apos} h=>by
  refine At (Cx h) ?_;rintro e h;rw[A9]at e;unfold KE;rw[if_pos e];refine(Cy hf h s l).bnd λc ρ1 α1 σ1 p zz => ?_;rcases zz with⟨v,as1,s1,r1,h1⟩
  exact Aj7 hH hf h1 s1 (l.stp p) r1
 unfold R0 at h;unfold Mj;rcases hq:B7 fe with _ | ⟨x,p⟩
 ·rw[hq]at h;rcases ha:E2 fe with _ | ⟨o,x,apos⟩
  ·rw[ha]at h;exact h.elim
  rw[ha]at h;dsimp only at h ⊢;rcases hw:B7 o with _ | ⟨cn,p⟩
  ·rw[hw]at h;exact meth h
  ·rw[hw]at h;dsimp only at h ⊢;rw[Aj1 hH.gt];rcases q:HJ G0 ks cn x with _ | g
   ·rw[q]at h;exact meth h
   ·rw[q]at h;refine At (Cx h) ?_;rintro e h;dsimp only;unfold Op;rw[if_pos e];refine(Gf hf h s l).bnd λcs ρ1 α1 σ1 p zz => ?_;rcases zz with⟨vs,as1,s1,r1,h1⟩
    exact MI (hH.fn _ _ _ _ _ h1 X ρ1 σ1 cs s1 r1)
 ·rw[hq]at h;dsimp only at h ⊢;rw[Aj2 hH.gt];rcases q:ON ks x es with _ | k
  ·rw[q]at h;exact Aj4 hH hf h s l
  ·rw[q]at h;exact Aj3 hH.gt hf h s l
end
end
section
def Es(Z:Nat->Prop)(σ:CH)(ts:List T):Ck->Prop
 | .lst n=>TR Z σ (.ref n) (.node .lst ts)
 | .tup vs=>small vs.length=true/\AA Z σ vs ts
 | .rng a c n=>n<=4000/\ts=(DM a c n).map .int
 | .enm n=>∃us,TR Z σ (.ref n) (.node .lst us)/\ts=Gc us
section
variable {E:CX->Prop}{X Z Z':Nat->Prop}{ρ:List Nat}{α:AH}{σ σ':CH}{n:Nat}{f:EA}{g:TA}{fc:BM}{gc:CU}{H:Hs}{Γ:AM}{ks:AD}{loc:An}{cloc:Ao}{as:List Al}
theorem Es.mono(h:∀a o,σ[a]? = some o->¬Z a->σ'[a]? = some o/\¬Z' a){ts:List T}{src:Ck}(q:Es Z σ ts src):Es Z' σ' ts src:=by
 rcases src with n | vs | ⟨a,c,n⟩ | n
 ·exact TR.mono h q
 ·exact⟨q.1,q.2.mono h⟩
 ·exact q
 ·refine Ah q ?_;clear q;rintro us q1 q2;exact⟨us,q1.mono h,q2⟩
theorem SE(h:small n=true):n<=4000:=of_decide_eq_true h
theorem Aj9(ts:List T):(Gc ts).length=ts.length:=by
 unfold Gc;rw[AG,Ao0]
theorem Es.le{ts:List T}(q:Es Z σ ts src):ts.length<=4000:=by
 rcases src with n | vs | ⟨a,c,n⟩ | n
 ·rcases TR.list q with⟨_,vs,_,h2,h3⟩;exact SE (HT h3 h2)
 ·exact SE (HT q.2 q.1)
 ·rw[q.2,AG,XO];exact q.1
 ·refine Ah q ?_;clear q;rintro us q1 q2;rcases q1.list with⟨_,vs,_,h2,h3⟩
  rw[q2,Aj9];exact SE (HT h3 h2)
theorem X5{vs:List CV}(e:σ[a]? = some (.list vs))(z:small vs.length=true):listAt σ a=some vs:=by
 unfold listAt;rw[e];exact if_pos z
theorem AA.at_none{vs:List CV}{ts:List T}(h:AA Z σ vs ts){i:Nat}(e:ts[i]? = none):vs[i]? = none:=by
 rw[Qa]at e ⊢;rw[h.len];exact e
theorem Es.item{ts:List T}(q:Es Z σ ts src)(i:Nat):(ts[i]? = none->B9 σ i src=some none)/\∀t,ts[i]? = some t->∃v,B9 σ i src=some (some v)/\TR Z σ v t:=by
 rcases src with n | vs | ⟨a,c,n⟩ | n
 ·rcases TR.list q with⟨_,vs,h1,h2,h3⟩
  unfold B9;dsimp only;rw[X5 h1 h2];refine⟨λe=>by rw[Qc,h3.at_none e],λt e => ?_⟩
  refine Ah (h3.at e) ?_;rintro v g1 g2;exact⟨v,by rw[Qc,g1],g2⟩
 ·unfold B9;dsimp only;rw[if_pos q.1];refine⟨λe=>by rw[q.2.at_none e],λt e => ?_⟩
  refine Ah (q.2.at e) ?_;rintro v g1 g2;exact⟨v,by rw[g1],g2⟩
 ·refine At q ?_;clear q;rintro _ rfl;unfold B9 DM;dsimp only;rw[CY,G2]
  by_cases h:i<n
  ·rw[if_pos h,Qe h];refine⟨λe=>(nomatch e),λt e => ?_⟩
   injection e with za;subst za
   exact⟨_,rfl,.int _⟩
  ·rw[if_neg h,Gn (by rw[BR];exact Qq h)]
   exact⟨λz=>rfl,λt e=>(nomatch e)⟩
 ·refine Ah q ?_;clear q;rintro us q1 rfl;rcases q1.list with⟨_,vs,h1,h2,h3⟩
  unfold B9 Gc;dsimp only;rw[X5 h1 h2,G2,Ao1,Qc];rcases e:us[i]? with _ | u
  ·exact⟨λz=>by rw[h3.at_none e];rfl,λt e=>by(exfalso;injection e)⟩
  ·refine Ah (h3.at e) ?_;rintro v g1 g2;refine⟨λe=>(nomatch e),λt e => ?_⟩
   injection e with za;subst za
   rw[g1];refine⟨_,rfl,.tup rfl (.cons ?_ (.cons g2 .nil))⟩;rw[J5];exact .int _
inductive PS(X:Nat->Prop)(target:Expr)(Q:Kq (List T))(src:Ck)(ρ':List Nat)(α':AH)(σ':CH):Prop
 | mk (ts:List T) (as':List Al) (s:Au X ρ' α' σ') (r:Es (Zx X ρ' α') σ' ts src) (e:He target src=true) (q:Q ts α' as'):PS X target Q src ρ' α' σ'
theorem Aka{v:V}{ts:List T}(h:R3 v=some ts):v=.w (.fz (.node .lst ts))\/v=.w (.fz (.node .tup ts)):=by
 rcases v with(_ | (_ | _ | _ | _ | ⟨_ | _ | _ | _,us⟩) | _) | _
 all_goals first | exact(Aw h).elim | (obtain rfl:=Ay h;first | exact .inl rfl | exact .inr rfl)
theorem Akb(v:V):(∃ts,v=.w (.fz (.node .lst ts)))\/∀{P:List T->Prop},(match v with | .w (.fz (.node .lst ts))=>P ts | _=>False)->False:=by
 rcases v with(_ | (_ | _ | _ | _ | ⟨_ | _ | _ | _,us⟩) | _) | _
 case w.fz.node.lst=>exact .inl ⟨_,rfl⟩
 all_goals exact .inr id
theorem X6(hg:GT Γ)(hf:B3 E f fc){target e:Expr}{Q:Kq (List T)}(h:OQ f ks loc target e α as Q)(s:Au X ρ α σ)(l:AW (Zx X ρ α) ρ σ cloc loc):Sm E ρ α σ (GB (fc ks cloc) Γ ks e) (PS X target Q):=by
 have plain:∀{e:Expr},(BU f ks loc e α as λv α as=>Bq (R3 v) λts=>Q ts α as)->Sm E ρ α σ (Mg (fc ks cloc e)) (PS X target Q):=λ{e} h=>by
  refine(Cy hf h s l).bnd λc ρ1 α1 σ1 p zz => ?_;rcases zz with⟨v,as1,s1,r1,h1⟩
  refine Ah (BE h1) ?_;rintro ts e h1;rcases Aka e with rfl | rfl
  ·have r:TR (Zx X ρ1 α1) σ1 c (.node .lst ts):=r1;refine AI r.lst_ref ?_;rintro a rfl;rcases r.list with⟨_,vs,g1,g2,g3⟩
   exact .ok (Ch (Dk g1 g2)) AT.refl ⟨ts,as1,s1,(r:Es _ _ ts (.lst a)),rfl,h1⟩
  ·refine AE (TR.tup_inv r1) ?_;rintro vs rfl g1 g2;exact .ret ⟨ts,as1,s1,(⟨g1,g2⟩:Es _ _ ts (.tup vs)),rfl,h1⟩
 unfold OQ at h;unfold GB;rcases hq:Jl e with _ | ⟨x,p,rs,pos⟩
 ·rw[hq]at h;exact plain h
 ·rw[hq]at h;dsimp only at h ⊢
  by_cases ex:x=Ab "range"
  ·rw[if_pos ex]at h;rw[if_pos ex];refine At (Cx h) ?_;rintro e h;rw[A9]at e;rw[if_pos ⟨(SD hg).trans e.1,e.2⟩];refine Sm.eq (x:=bnd (Bx (fc ks cloc) rs) λvs=>bnd (HI vs) λr=>ret (.rng r.1 r.2.1 r.2.2)) (congrFun (El _ _ _) _) ?_;refine(Gf hf h s l).bnd λcs ρ1 α1 σ1 p zz => ?_;rcases zz with⟨vs,as1,s1,r1,h1⟩
   refine Ba (Ge h1) ?_;rintro ts as2 e h1;refine CG (XR e r1) ?_;rintro a c m e1 e2 rfl;refine .ok (b:=Ck.rng a c m) ?_ AT.refl ⟨_,as2,s1,(⟨e2,rfl⟩:Es _ _ _ (.rng a c m)),rfl,h1⟩;unfold HI;rw[e1];rfl
  ·rw[if_neg ex]at h;rw[if_neg ex]
   by_cases ey:x=Ab "enumerate"
   ·rw[if_pos ey]at h;rw[if_pos ey];rcases ho:Fs rs with _ | a
    ·rw[ho]at h;exact h.elim
    ·rw[ho]at h;dsimp only at h ⊢;refine At (Cx h) ?_;rintro e h;rw[A9,A9]at e;rw[if_pos ⟨(SD hg).trans e.1.1,by simpa using e.1.2⟩]
     refine Sm.eq (x:=bnd (fc ks cloc a) λv=>bnd (Oy v) λn=>ret (.enm n)) (congrFun (El _ _ _) _) ?_;refine(Cy hf h s l).bnd λc ρ1 α1 σ1 p zz => ?_;rcases zz with⟨v,as1,s1,r1,h1⟩
     rcases Akb v with⟨ts,rfl⟩ | hn
     ·have r:TR (Zx X ρ1 α1) σ1 c (.node .lst ts):=r1;refine AI r.lst_ref ?_;rintro a' rfl;rcases r.list with⟨_,vs,g1,g2,g3⟩
      refine .ok (b:=Ck.enm a') ?_ AT.refl ⟨_,as1,s1,(⟨ts,r,rfl⟩:Es _ _ (Gc ts) (.enm a')),e.2,h1⟩;rw[Ch (b:=a') (σ':=σ1) ?_]
      ·rfl
      ·exact Ch (Dk g1 g2)
     ·exact(hn h1).elim
   ·rw[if_neg ey]at h;rw[if_neg ey];exact plain h
theorem Akc{cv:Ao}{vs:An}(e:vs.map (·.1)=cv.map (·.1))(r:Dj Z ρ σ (cv.map (·.2)) (vs.map (·.2)))(l:AW Z ρ σ cloc loc):AW Z ρ σ (cv++cloc) (vs++loc):=by
 intro x w h hn;rw[AaQ]at h ⊢;rcases q:vs.lookup x with _ | w'
 ·rw[q]at h;rw[X2 e q];exact l x w h hn
 ·rw[q]at h;injection h with za;subst za
  refine Ah (XM e r q) ?_;rintro v h1 h2;rw[h1];exact⟨v,rfl,h2⟩
theorem Akd(p:Ac->Bool):∀(l:List (Ac×β)) (x:Ac),(l.filter λq=>p q.1).lookup x=if p x=true then l.lookup x else none:=by
 intro z1
 induction z1 with
 | nil =>
  intro x
  split<;>rfl
 | cons z2 r ih =>
  rcases z2 with⟨y,v⟩
  intro x;rw[AaF,BC];rcases q:x == y with _ | _
  ·by_cases h:p y=true
   ·rw[if_pos h,BC,q];exact ih x
   ·rw[if_neg h];exact ih x
  ·have e:=Kf q;subst e
   by_cases h:p x=true
   ·rw[if_pos h,if_pos h,BC,q]
   ·rw[if_neg h,if_neg h,ih x,if_neg h]
theorem Ake(p:Ac->Bool)(l:AW Z ρ σ cloc loc):AW Z ρ σ (cloc.filter λq=>p q.1) (loc.filter λq=>p q.1):=by
 intro x w h hn;rw[Akd]at h ⊢
 by_cases q:p x=true
 ·rw[if_pos q]at h ⊢;exact l x w h hn
 ·rw[if_neg q]at h;exfalso;injection h
theorem Akf:∀{es:List Expr} {ts:List T} {vs:List CV} {vars:An},OS es ts=some vars->AA Z σ vs ts->∃cv,HL es vs=some cv/\vars.map (·.1)=cv.map (·.1)/\Dj Z ρ σ (cv.map (·.2)) (vars.map (·.2)):=by
 intro z1
 induction z1 with
 | nil =>
  intro z2;rcases z2 with _ | ⟨z3,z4⟩
  ·intro vs vars h r;rcases r with⟨⟩;(injection h with za;subst za);exact⟨[],rfl,rfl,trivial⟩
  ·intro vs vars h r;exfalso;injection h
 | cons e es ih =>
  intro z5;rcases z5 with _ | ⟨t,ts⟩
  ·intro vs vars h r;exact(Aw h).elim
  ·intro vs vars h r;refine Bm r.cons_inv ?_;rintro v ws rfl a r;have h:ob (B7 e) (λq=>ob (OS es ts) λr=>some ((q.1,W.fz t)::r))=some vars:=h;refine AN h λq hq h=>AN h λvr q2 h => ?_;obtain rfl:=Ay h;refine AE (ih q2 r) ?_;rintro cv h1 h2 h3;refine⟨(q.1,v)::cv,?_,by rw[Bj,Bj,h2],a,h3⟩
   show ob (B7 e) (λq=>ob (HL es ws) λr=>some ((q.1,v)::r))=_;rw[hq,h1]
theorem Akg{t:T}{v:CV}{vars:An}(h:OT target t=some vars)(r:TR Z σ v t):∃cv,Jv target v=some cv/\vars.map (·.1)=cv.map (·.1)/\Dj Z ρ σ (cv.map (·.2)) (vars.map (·.2)):=by
 unfold OT at h;unfold Jv;rcases hq:B7 target with _ | q
 ·rw[hq]at h;refine AN h λq hq2 h=>AN h λts ht h => ?_;obtain rfl:=XE ht;refine AE (TR.tup_inv r) ?_;rintro vs rfl _ r1;refine Ah (Akf (ρ:=ρ) h r1) ?_;rintro cv h1 h2;refine⟨cv,?_,h2⟩;rw[hq2];exact h1
 ·rw[hq]at h;obtain rfl:=Ay h;exact⟨[(q.1,v)],rfl,rfl,r,trivial⟩
theorem Akh{vars:An}{cv:Ao}(e:vars.map (·.1)=cv.map (·.1)):Me names cv=R4 names vars:=by
 have key:∀{β:Type} (l:List (Ac×β)),(l.all λp=>names.lookup p.1 == some NameKind.local)=(l.map (·.1)).all λx=>names.lookup x == some NameKind.local:=λl=>by rw[List.all_map];rfl
 unfold Me R4;rw[key,key,e]
theorem Aki(hg:FE E g gc){es:List Expr}{Q:Kq Bool}(h:Xv g ks loc es α as Q)(s:Au X ρ α σ)(l:AW (Zx X ρ α) ρ σ cloc loc):Sm E ρ α σ (Mf (gc ks cloc) es) (PB X Q):=by
 match es,h with
 | [],h=>exact .ret ⟨as,s,h⟩
 | [e],h=>exact hg ks loc e α as Q h X ρ σ cloc s l
theorem X7{x:CM β}{P:SA β}(hE:∀x,¬E x)(h:Sm E ρ α σ x P):Sm E ρ α σ (Ju x) P:=by
 unfold Sm at h;unfold Sm Ju;rcases e:x σ with _ | ⟨b,σ1⟩ | ⟨y,σ1⟩
 ·rw[e]at h;exact h
 ·rw[e]at h;exact h
 ·rw[e]at h;exact(hE _ h.2).elim
theorem Akj(hE:∀x,¬E x)(hf:B3 E f fc)(hg:FE E g gc){names:AD}{base:An}{cbase:Ao}{target elt:Expr}{ifs:List Expr}{t:T}{v:CV}{K:Option T->Prop}(h:JN f g names base target elt ifs α t as K)(s:Au X ρ α σ)(l:AW (Zx X ρ α) ρ σ cbase base)(r:TR (Zx X ρ α) σ v t) :
  Sm E ρ α σ (GA (fc names) (gc names) cbase names target elt ifs v) (λo ρ' α' σ'=>α'=α/\Au X ρ' α' σ'/\∃yo,K yo/\match o,yo with
   | some y,some t=>TR (Zx X ρ' α') σ' y t
   | none,none=>True
   | _,_=>False):=by
 unfold JN at h;rcases q:OT target t with _ | vars
 ·rw[q]at h;exact h.elim
 ·rw[q]at h;refine At (Cx h) ?_;rintro e1 h;refine AE (Akg (ρ:=ρ) q r) ?_;rintro cv h1 h2 h3;unfold GA;rw[h1];dsimp only;rw[if_pos ((Akh h2).trans e1)];have l':=Akc h2 h3 l;refine(X7 hE (Aki hg h s l')).bnd λok ρ1 α1 σ1 p zz => ?_;rcases zz with⟨as1,s1,h1⟩
  rcases ok with _ | _
  ·refine At h1 ?_;clear h1;rintro h1 h4;exact .ret ⟨h1,s1,none,h4,trivial⟩
  ·refine(X7 hE (Cy hf h1 s1 (l'.stp p))).bnd λy ρ2 α2 σ2 p2 zz => ?_;rcases zz with⟨v2,as2,s2,r2,h2⟩
   try dsimp only at h2
   rcases v2 with(_ | t2 | _) | _
   case w.fz=>exact .ret ⟨h2.1,s2,some t2,h2.2,r2⟩
   all_goals exact h2.elim
theorem Akk(s:Au X ρ α σ){ρ':List Nat}{X':Nat->Prop}{σ':CH}(s':Au X' ρ' α σ')(p:∀(k a:Nat),ρ[k]? = some a->ρ'[k]? = some a):ρ'=ρ:=by
 refine Aa2 λk => ?_;rcases q:ρ[k]? with _ | a
 ·rw[Qa]at q ⊢;rw[s'.len,<- s.len];exact q
 ·exact p k a q
theorem X8(hX:X a)(o':CO){b:Nat}{o:CO}(hb:σ[b]? = some o)(n:¬Zx X ρ α b):(σ.set a o')[b]? = some o/\¬Zx X ρ α b:=⟨by rw[GR (λe:a=b=>n (.inl (e▸hX)))];exact hb,n⟩
theorem Au.xset(s:Au X ρ α σ){a:Nat}(hX:X a)(o':CO):Au X ρ α (σ.set a o'):=by
 refine⟨s.len,s.nd,λb hb=>by rw[GS];exact s.lt b hb,s.nx,λb hb=>by rw[GS];exact s.xlt b hb,λj b o h1 h2 => ?_⟩
 refine(s.ob j b o h1 h2).mono (λc oc hc n=>X8 hX o' hc n) (λz z h=>h) λz => ?_;exact GR λe:a=b=>s.nx b (FU h1) (e▸hX)
def Pa(X:Nat->Prop)(ρ:List Nat)(α:AH)(acc:Nat)(σ:CH)(qs:List T)(b:Nat)(r:B2 CV):Prop:=∃σ' vs',r=.ok (.ref acc) σ'/\Au X ρ α σ'/\σ'[acc]? = some (.list vs')/\AA (Zx X ρ α) σ' vs' qs/\qs.length<=b/\σ.length<=σ'.length/\∀a o,σ[a]? = some o->a≠acc->¬DY ρ α a->σ'[a]? = some o
theorem Pa.pre{σ1:CH}{qs:List T}{b b':Nat}{r r':B2 CV}(h:Pa X ρ α acc σ1 qs b r)(e:r'=r)(hb:b<=b')(hl:σ.length<=σ1.length)(hk:∀a o,σ[a]? = some o->a≠acc->¬DY ρ α a->σ1[a]? = some o):Pa X ρ α acc σ qs b' r':=by
 refine Kj h ?_;clear h;rintro σ2 vs2 k1 k2 k3 k4 k5 k6 k7;exact⟨σ2,vs2,e.trans k1,k2,k3,k4,AC k5 hb,AC hl k6,λa o ho hne hnl=>k7 a o (hk a o ho hne hnl) hne hnl⟩
theorem Akl{body:CV->CM (Option CV)}{m:Nat}(hi:B9 σ i src=some none):EQ src body acc (m+1) i σ=.ok (.ref acc) σ:=by
 rw[Wj];dsimp only;rw[hi]
theorem Akm{body:CV->CM (Option CV)}{m:Nat}{v:CV}{o:Option CV}{σ1:CH}(hi:B9 σ i src=some (some v))(eb:body v σ=.ok o σ1):EQ src body acc (m+1) i σ=KI acc (EQ src body acc m (i+1)) o σ1:=by
 rw[Wj];dsimp only;rw[hi];exact Ch eb
def Akn(Z:Nat->Prop)(σ1:CH)(co:Option CV):Option T->Prop
 | some t=>∃y,co=some y/\TR Z σ1 y t
 | none=>co=none
theorem Ako(hE:∀x,¬E x)(hf:B3 E f fc)(hg:FE E g gc){names:AD}{base:An}{cbase:Ao}{target elt:Expr}{ifs:List Expr}{t:T}{v:CV}{o:Option T}(h:JN f g names base target elt ifs α t as λo'=>o'=o)(s:Au X ρ α σ)(l:AW (Zx X ρ α) ρ σ cbase base)(r:TR (Zx X ρ α) σ v t) :
  ∃co σ1,GA (fc names) (gc names) cbase names target elt ifs v σ=.ok co σ1/\AT ρ α σ ρ α σ1/\Au X ρ α σ1/\Akn (Zx X ρ α) σ1 co o:=by
 have body:=Akj hE hf hg h s l r;unfold Sm at body;rcases eb:GA (fc names) (gc names) cbase names target elt ifs v σ with _ | ⟨co,σ1⟩ | ⟨y,σ1⟩
 ·rw[eb]at body;exact body.elim
 ·rw[eb]at body;rcases body with⟨ρ1,α1,p,e1,s1,yo,e2,hm2⟩
  rw[e1]at p s1 hm2;have er:=Akk s s1 p.pre;rw[er]at p s1 hm2;refine⟨co,σ1,rfl,p,s1,?_⟩;rw[<- e2];rcases yo with _ | y<;>rcases co with _ | cy
  ·rfl
  ·exact hm2.elim
  ·exact hm2.elim
  ·exact⟨_,rfl,hm2⟩
 ·rw[eb]at body;exact(hE _ body.2).elim
theorem Akp(hE:∀x,¬E x)(hf:B3 E f fc)(hg:FE E g gc){names:AD}{base:An}{cbase:Ao}{target elt:Expr}{ifs:List Expr}{acc:Nat}{src:Ck}{ts:List T}:∀(us rs:List T),Cu (JN f g names base target elt ifs α) us rs->∀(i m:Nat) (σ:CH) (vs:List CV) (qs:List T),us.length<m->ts.drop i=us->qs.length<=i ->
  Au X ρ α σ->AW (Zx X ρ α) ρ σ cbase base->Es (Zx X ρ α) σ ts src->X acc->σ[acc]? = some (.list vs)->AA (Zx X ρ α) σ vs qs ->
  Pa X ρ α acc σ (qs++rs) (i+us.length) (EQ src (GA (fc names) (gc names) cbase names target elt ifs) acc m i σ):=by
 intro us
 induction us with
 | nil =>
  intro rs h i m σ vs qs hm hd hq s l sr hX ha hr;have hi:ts[i]? = none:=Gn (by have:=congrArg Ib hd;rw[PZ]at this;exact Ao2 this)
  rw[show rs=[]from h,Dn];rcases m with _ | m
  ·exact absurd hm (Nx _)
  ·exact⟨σ,vs,Akl ((sr.item i).1 hi),s,ha,hr,hq,AK _,λa o h q q=>h⟩
 | cons u us ih =>
  intro rs h i m σ vs qs hm hd hq s l sr hX ha hr;refine Ba h ?_;clear h;rintro as o hb h;rcases m with _ | m
  ·exact absurd hm (Nx _)
  have hm:=PT hm;have hi:ts[i]? = some u:=by
   have:=congrArg (·[0]?) hd;rw[Aa3]at this;exact this
  have hd':ts.drop (i+1)=us:=by rw[<- Ao3,hd];rfl
  have hlen:=sr.le;have hil:i<ts.length:=(DK.mp hi).1;refine Ah ((sr.item i).2 u hi) ?_;rintro v g1 g2;clear hi hd;refine Cj (Ako hE hf hg hb s l g2) ?_;rintro co σ1 eb p s1 ho;have e:=Akm (acc:=acc) (m:=m) g1 eb;clear hb g1 g2 eb;have hk:∀a o,σ[a]? = some o->a≠acc->¬DY ρ α a->σ1[a]? = some o:=λa o h q hn=>p.keep a o h hn;have ha1:=p.keep acc _ ha λ⟨j,_,h1,_⟩=>s.nx acc (FU h1) hX;have l1:=l.stp p;have sr1:Es (Zx X ρ α) σ1 ts src:=sr.mono λa o h n=>p.tr h n;have hr1:AA (Zx X ρ α) σ1 vs qs:=hr.mono λa o h n=>p.tr h n;have pl:=p.len;have hz:small vs.length=true:=decide_eq_true (by rw[hr.len];exact Aby hq hlen hil)
  clear ha l sr hr p s hlen hil;have hb:=Lm (Tt i 1 us.length);rcases o with _ | y
  ·rw[show co=none from ho]at e;exact(ih rs h (i+1) m σ1 vs qs hm hd' (Abz hq) s1 l1 sr1 hX ha1 hr1).pre e hb pl hk
  ·refine Ah ho ?_;clear ho;rintro cy rfl hy;refine Ah h ?_;clear h;rintro rs' rfl h;have happ:Ha acc cy σ1=.ok .none (σ1.set acc (.list (vs++[cy]))):=(Ch (Dk ha1 hz)).trans rfl;have mono2:∀(a:Nat) o,σ1[a]? = some o->¬Zx X ρ α a->(σ1.set acc (.list (vs++[cy])))[a]? = some o/\¬Zx X ρ α a:=λa o h n=>X8 hX _ h n;have z:=ih rs' h (i+1) m (σ1.set acc (.list (vs++[cy]))) (vs++[cy]) (qs++[y]) hm hd' (by rw[Bg];exact Fm hq) (s1.xset hX _)
    (λx w hx hn=>by(refine Ah (l1 x w hx hn) ?_;rintro c c1 c2);exact⟨c,c1,c2.mono mono2 λq q h=>h⟩) (sr1.mono mono2) hX (O1 ha1) ((hr1.mono mono2).app (.cons (hy.mono mono2) .nil))
   rw[FQ]at z;exact z.pre (e.trans (Ch happ)) hb (by rw[GS];exact pl) λa o h hne hn=>(GR (EF hne)).trans (hk a o h hne hn)
theorem Akq(h:R5 ks loc scope=true)(l:AW Z ρ σ cloc loc):Ix ks cloc scope=true:=by
 unfold R5 at h;unfold Ix;rw[A9]at h ⊢;refine⟨h.1,B0.mpr λp hp => ?_⟩;have z:=B0.mp h.2 p hp;rw[A9,TX,A9,A9]at z ⊢;refine⟨z.1,z.2.imp id λz=>⟨?_,z.2⟩⟩;have z:=z.1;unfold Xu at z;rcases q:loc.lookup p.1 with _ | w
 ·rw[q]at z;(exfalso;injection z)
 ·rw[q]at z;refine Ah (l p.1 w q (λe=>by subst e;(exfalso;injection z))) ?_;rintro v e _
  rw[e];rfl
theorem Akr{f:Expr->CM CV}{fv:BM}{ft:CU}{loc:Ao}:DN Γ f fv ft ks loc elt [⟨target,iter,ifs,0⟩] scope=if Ix ks loc scope=true/\Hg iter=true then bnd (GB f Γ ks iter) (Mh fv ft ks loc elt target ifs scope)else Ar:=rfl
theorem X9(hH:ES E H Γ)(hf:B3 E f fc)(hg:FE E g gc){elt:Expr}{gens:List GU}{scope:Scope}{Q:Kq Rv}(h:R6 H f g ks loc elt gens scope α as Q)(s:Au X ρ α σ)(l:AW (Zx X ρ α) ρ σ cloc loc):Sm E ρ α σ (DN Γ (fc ks cloc) fc gc ks cloc elt gens scope) (PQ X σ.length Q):=by
 refine Ah (BE h) ?_;rintro⟨target,iter,ifs⟩ eg h;rw[Vq eg];refine At (Cx h) ?_;rintro e h;rw[A9,A9]at e;have hE:=hH.quiet e.2;rw[Akr,if_pos ⟨Akq e.1.1 l,e.1.2⟩];refine(X6 hH.gt hf h s l).bnd λsrc ρ1 α1 σ1 p zz => ?_;rcases zz with⟨ts,as1,s1,sr,hfit,h1⟩
 unfold Mh;rw[if_pos hfit];refine AE (BE h1) ?_;rintro⟨rs,as2⟩ _ hc hQ;have hx:BV [] σ1=.ok (.ref σ1.length) (σ1++[.list []]):=rfl;have s2:=s1.lay (.list []);have mono:∀(a:Nat) o,σ1[a]? = some o->¬Zx X ρ1 α1 a->(σ1++[CO.list []])[a]? = some o/\¬Zx (Xp X σ1.length) ρ1 α1 a:=λa o h n=>O2 s1 _ h n;refine Kj (Akp hE hf hg (acc:=σ1.length) (src:=src) ts rs hc 0 Gz (σ1++[.list []]) [] [] (by have:=sr.le;unfold Gz;exact UO this) rfl (AK _) s2
  (λx w hx hn=>by
   have hx':(loc.filter λq=>(Db ks scope.names).lookup q.1 == some Uc || (Db ks scope.names).lookup q.1 == some EG).lookup x=some w:=hx;refine Ah (Ake (λy=>(Db ks scope.names).lookup y == some Uc || (Db ks scope.names).lookup y == some EG) (l.stp p) x w hx' hn) ?_;rintro c c1 c2;exact⟨c,c1,c2.mono mono λz z h=>h⟩) (sr.mono mono) (.inr rfl) (O3 _) .nil) ?_;rintro σ2 vs k1 k2 k3 k4 k5 k6 k7
 have hle:=sr.le;refine .ok (b:=.ref σ1.length) (ρ':=ρ1) (α':=α1) (σ':=σ2) ?_ ⟨by rw[Bg]at k6;exact AC (GQ _ _) k6,λa o ha hn=>k7 a o (by rw[Gm (Hk ha)];exact ha) (λe=>BP _ (e▸Hk ha)) hn,λz z h=>h,λa h=>.inl h⟩ ⟨.l rs,as2,⟨σ1.length,vs,rfl,p.len,λq=>BP _ (s1.xlt _ q),k3,decide_eq_true (by rw[k4.len];exact AC k5 (om7 hle)),k2,k4⟩,hQ⟩
 rw[Ch hx];exact k1
end
end
section
section
variable {E:CX->Prop}{X Z Z':Nat->Prop}{ρ:List Nat}{α:AH}{σ σ':CH}{n:Nat}{f:EA}{g:TA}{fc:BM}{gc:CU}{H:Hs}{Γ:AM}{ks:AD}{loc:An}{cloc:Ao}{as:List Al}
theorem Yb(h:(!b)=true):¬b=true:=by
 rcases b with⟨⟩
 ·exact Cw
 ·exfalso;injection h
theorem Aks(hf:B3 E f fc){es:List Expr}{Q:Kq Rv}(h:D4 f ks loc es α as λvs α as=>Bq (Ga α vs) λp=>Cf (small p.1.length) (Q (.v (Vf (.node .tup p.1))) p.2 as))(s:Au X ρ α σ)(l:AW (Zx X ρ α) ρ σ cloc loc):Sm E ρ α σ (bnd (Bx (fc ks cloc) es) EK) (PQ X n Q):=by
 refine(Gf hf h s l).bnd λcs ρ1 α1 σ1 p zz => ?_;rcases zz with⟨vs,as1,s1,r1,h1⟩
 refine Ah (BE h1) ?_;rintro⟨ts,α2⟩ e h1;refine At (Cx h1) ?_;rintro z h1;refine CZ (Sk e s1 r1) ?_;rintro s2 p2 t2;have z':small cs.length=true:=by rw[t2.len];exact z
 exact .ok (congrFun (if_pos z':EK cs=ret (.tup cs)) σ1) p2 ⟨.v (Vf (.node .tup ts)),as1,⟨s2,TR.tup z' t2⟩,h1⟩
theorem Akt(hf:B3 E f fc){es:List Expr}{Q:Kq Rv}(h:D4 f ks loc es α as λvs α as=>Bq (Ga α vs) λp=>Cf (small p.1.length) (Q (.l p.1) p.2 as))(s:Au X ρ α σ)(l:AW (Zx X ρ α) ρ σ cloc loc)(hn:n<=σ.length):Sm E ρ α σ (bnd (Bx (fc ks cloc) es) BV) (PQ X n Q):=by
 refine(Gf hf h s l).bnd λcs ρ1 α1 σ1 p zz => ?_;rcases zz with⟨vs,as1,s1,r1,h1⟩
 refine Ah (BE h1) ?_;rintro⟨ts,α2⟩ e h1;refine At (Cx h1) ?_;rintro z h1;refine CZ (Sk e s1 r1) ?_;rintro s2 p2 t2;exact Sm.pre p2 (HU (HS s2 rfl t2 z (AC hn p.len)) h1 (AK _))
theorem SG(hg:FE E g gc){β:Type}{P:SA β}{t:Expr}{A B:AH->List Al->Prop}{ca cb:CM β}(h:g ks loc t α as λq α as=>match q with | true=>A α as | false=>B α as)(s:Au X ρ α σ)(l:AW (Zx X ρ α) ρ σ cloc loc)
  (ha:∀ρ' α' σ' as',AT ρ α σ ρ' α' σ'->Au X ρ' α' σ'->AW (Zx X ρ' α') ρ' σ' cloc loc->A α' as'->Sm E ρ' α' σ' ca P)
  (hb:∀ρ' α' σ' as',AT ρ α σ ρ' α' σ'->Au X ρ' α' σ'->AW (Zx X ρ' α') ρ' σ' cloc loc->B α' as'->Sm E ρ' α' σ' cb P):Sm E ρ α σ (bnd (gc ks cloc t) λq=>if q=true then ca else cb) P:=by
 refine(hg ks loc t α as _ h X ρ σ cloc s l).bnd λq ρ1 α1 σ1 p zz => ?_;rcases zz with⟨as1,s1,h1⟩
 rcases q with _ | _
 ·exact hb ρ1 α1 σ1 as1 p s1 (l.stp p) h1
 ·exact ha ρ1 α1 σ1 as1 p s1 (l.stp p) h1
theorem Aku(hH:ES E H Γ)(hf:B3 E f fc)(hg:FE E g gc):B3 E (MB H f g) (Ri Γ fc gc):=by
 intro ks loc e α as Q h X ρ σ cloc s l;rcases e with⟨op,es,p⟩ | _ | ⟨a,op,b,p⟩ | ⟨op,a,p⟩ | _ | ⟨t,a,b,p⟩ | ⟨ks',vs,p⟩ | _ | ⟨elt,gens,scope,p⟩ | _ | _ | _ | _ | _ | _ | ⟨a,ops,es,p⟩ | ⟨fe,es,kw,p⟩ | _ | _ | ⟨k,m,p⟩ | ⟨o,x,p⟩ | ⟨o,i,p⟩ | _ | ⟨x,p⟩ | ⟨es,p⟩ | ⟨es,m,p⟩ | _
 case Constant =>
  refine Ah (BE h) ?_;rintro t e h;rcases AjM (Z:=Zx X ρ α) e with⟨c,e2,r⟩
  show Sm E ρ α σ (Og k) _;rw[e2];exact .ret ⟨.v (Vf t),as,⟨s,r⟩,h⟩
 case Name =>
  refine Ah (BE h) ?_;rintro w e h;refine Ah (AjN hH.gt e l) ?_;rintro c e2 r;show Sm E ρ α σ (Gw Γ ks cloc x) _;rw[e2];exact .ret ⟨.v (.w w),as,⟨s,r⟩,h⟩
 case UnaryOp =>
  rcases op with _ | _ | _ | _
  case USub =>
   dsimp only[MB]at h;refine Sm.bnd (Cy hf h s l) λc ρ1 α1 σ1 p zz => ?_;rcases zz with⟨v,as1,s1,r1,h1⟩
   refine Ah (BE h1) ?_;rintro i e h1;rcases DR e r1 with rfl
   exact .ret ⟨.v (Vf (.int (-i))),as1,⟨s1,TR.int _⟩,h1⟩
  case Not =>
   dsimp only[MB]at h;refine Sm.bnd (Cy hf h s l) λc ρ1 α1 σ1 p zz => ?_;rcases zz with⟨v,as1,s1,r1,h1⟩
   refine Ah (BE h1) ?_;rintro b e h1;exact .ok (Ch (Sx s1 e r1)) AT.refl ⟨.v (Vf (.bool !b)),as1,⟨s1,TR.bool _⟩,h1⟩
  all_goals exact h.elim
 case BinOp =>
  dsimp only[MB]at h;refine Sm.bnd (Cy hf h s l) λc ρ1 α1 σ1 p1 zz => ?_;rcases zz with⟨v,as1,s1,r1,h1⟩
  refine Sm.bnd (Cy hf h1 s1 (l.stp p1)) λd ρ2 α2 σ2 p2 zz => ?_;rcases zz with⟨w,as2,s2,r2,h2⟩
  refine Ah (BE h2) ?_;rintro⟨gd,r⟩ e h2;rcases JR h2 with⟨hgd,as3,h2⟩
  refine AI (Ai0 h2) ?_;rintro as4 h2;exact HU (Ajc s2 e hgd (r1.stp p2) r2 (p1.trans p2).len) h2 (AK _)
 case BoolOp=>exact MI (AjO hf h s l)
 case Compare =>
  refine At (Cx h) ?_;rintro e h;refine Sm.eq (x:=bnd (fc ks cloc a) λv=>Hb (fc ks cloc) v ops es) (congrFun (if_neg (Yb e)) σ) ?_;refine Sm.bnd (Cy hf h s l) λc ρ1 α1 σ1 p1 zz => ?_;rcases zz with⟨v,as1,s1,r1,h1⟩
  rw[AjQ];refine Sm.bnd (XW hf h1 s1 (l.stp p1) r1) λt ρ2 α2 σ2 p2 zz => ?_;rcases zz with⟨as2,s2,h2⟩
  exact .ret ⟨.v (Vf (.bool t)),as2,⟨s2,TR.bool _⟩,h2⟩
 case IfExp=>exact SG hg h s l (λρ' α' σ' as' p s' l' h=>PQ.le (hf ks loc a α' as' Q h X ρ' σ' cloc s' l') p.len) λρ' α' σ' as' p s' l' h=>PQ.le (hf ks loc b α' as' Q h X ρ' σ' cloc s' l') p.len
 case Tuple=>exact Aks hf h s l
 case List=>exact Akt hf h s l (AK _)
 case Dict =>
  match ks',vs,h with
  | [],[],h=>exact HU (r:=.d []) (m:=σ.length) (.ok rfl (AT.lay _) ⟨rfl,Er.newDict s (cs:=[]) (es:=[]) rfl .nil (AK _)⟩) h (AK _)
 case Attribute =>
  refine At (Cx h) ?_;rintro e h;refine Sm.eq (x:=bnd (fc ks cloc o) λv=>HF Γ v x) (congrFun (if_pos e) σ) ?_;refine Sm.bnd (Cy hf h s l) λc ρ1 α1 σ1 p1 zz => ?_;rcases zz with⟨v,as1,s1,r1,h1⟩
  refine Ah (BE h1) ?_;rintro w e h1;refine Ah (Ajg hH.gt s1 e r1) ?_;rintro d e2 r;exact .ok e2 AT.refl ⟨.v (.w w),as1,⟨s1,r⟩,h1⟩
 case Subscript=>exact AjS hf h s l
 case Call =>
  match kw,h with
  | [],h=>exact Aj8 hH hf h s l
 case ListComp=>exact X9 hH hf hg h s l
 all_goals exact h.elim
theorem Akv(hf:B3 E f fc)(hg:FE E g gc):FE E (Xw f g) (Rj fc gc):=by
 intro ks loc e α as Q h X ρ σ cloc s l;have plain:(BU f ks loc e α as λv α as=>Bq (JI α v) λb=>Q b α as)->Sm E ρ α σ (bnd (fc ks cloc e) Gx) (PB X Q):=λh=>by
  refine Sm.bnd (Cy hf h s l) λc ρ1 α1 σ1 p zz => ?_;rcases zz with⟨v,as1,s1,r1,h1⟩
  refine Ah (BE h1) ?_;rintro b e h1;exact .ok (Sx s1 e r1) AT.refl ⟨as1,s1,h1⟩
 rcases e with⟨op,es,p⟩ | _ | _ | ⟨op,a,p⟩ | _ | ⟨t,a,b,p⟩ | _ | _ | _ | _ | _ | _ | _ | _ | _ | ⟨a,ops,es,p⟩ | _ | _ | _ | _ | _ | _ | _ | _ | _ | _ | _
 case UnaryOp =>
  rcases op with _ | _ | _ | _
  case Not=>exact Sm.bnd (hg ks loc a α as _ h X ρ σ cloc s l) λq ρ1 α1 σ1 p ⟨as1,s1,h1⟩=>.ret ⟨as1,s1,h1⟩
  all_goals exact plain h
 case BoolOp=>exact AjR hg h s l
 case IfExp=>exact SG hg h s l (λρ' α' σ' as' p s' l' h=>hg ks loc a α' as' Q h X ρ' σ' cloc s' l') λρ' α' σ' as' p s' l' h=>hg ks loc b α' as' Q h X ρ' σ' cloc s' l'
 case Compare =>
  refine At (Cx h) ?_;rintro e h;refine Sm.eq (x:=bnd (fc ks cloc a) λv=>Fv (fc ks cloc) v ops es) (congrFun (if_neg (Yb e)) σ) ?_;refine Sm.bnd (Cy hf h s l) λc ρ1 α1 σ1 p1 zz => ?_;rcases zz with⟨v,as1,s1,r1,h1⟩
  exact XW hf h1 s1 (l.stp p1) r1
 all_goals exact plain h
theorem MJ(hH:ES E H Γ):∀n,B3 E (DP H n).1 (Bp Γ n).1/\FE E (DP H n).2 (Bp Γ n).2:=by
 intro z1
 induction z1 with
 | zero =>
  exact⟨λz z z z z z h=>h.elim,λz z z z z z h=>h.elim⟩
 | succ n ih =>
  exact⟨Aku hH (ih).1 (ih).2,Akv (ih).1 (ih).2⟩
end
end
section
set_option tactic.hygienic true in
noncomputable def FlR(Z:Nat->Prop)(ρ:List Nat)(σ:CH):Bk->BS->Prop
 | .next,.next=>True
 | .ret v,.ret w=>UR Z ρ σ v w
 | _,_=>False
inductive PF(X:Nat->Prop)(Q:BS->An->AH->List Al->Prop)(p:Bk×Ao)(ρ':List Nat)(α':AH)(σ':CH):Prop
 | mk (fl:BS) (loc':An) (as':List Al) (s:Au X ρ' α' σ') (r:FlR (Zx X ρ' α') ρ' σ' p.1 fl) (l:AW (Zx X ρ' α') ρ' σ' p.2 loc') (q:Q fl loc' α' as'):PF X Q p ρ' α' σ'
inductive PL(X:Nat->Prop)(Q:Kq An)(p:Unit×Ao)(ρ':List Nat)(α':AH)(σ':CH):Prop
 | mk (loc':An) (as':List Al) (s:Au X ρ' α' σ') (l:AW (Zx X ρ' α') ρ' σ' p.2 loc') (q:Q loc' α' as'):PL X Q p ρ' α' σ'
def Pb(E:CX->Prop)(x:XA)(xc:XT):Prop:=∀body loc α as Q,x body loc α as Q->∀X ρ σ cloc,Au X ρ α σ->AW (Zx X ρ α) ρ σ cloc loc->Sm E ρ α σ (xc body cloc) (PF X Q)
section
variable {E:CX->Prop}{X Z Z':Nat->Prop}{ρ:List Nat}{α:AH}{σ σ':CH}{n:Nat}{f:EA}{g:TA}{fc:BM}{gc:CU}{H:Hs}{Γ:AM}{ks:AD}{loc:An}{cloc:Ao}{as:List Al}
theorem Akw(x:Ac)(v:CV):∀(l:Ao) (y:Ac),(CI x v l).lookup y=if y=x then some v else l.lookup y:=by
 intro z1
 induction z1 with
 | nil =>
  intro y;show AaE y [(x,v)]=_;rw[BC]
  by_cases e:y=x
  ·rw[if_pos e,e,beq_self_eq_true]
  ·rw[if_neg e,beq_eq_false_iff_ne.mpr e]
 | cons z2 r ih =>
  rcases z2 with⟨z,w⟩
  intro y;rw[L5]
  by_cases e:z=x
  ·rw[if_pos e,BC,BC];subst e
   by_cases e2:y=z
   ·rw[if_pos e2,e2,beq_self_eq_true]
   ·rw[if_neg e2,beq_eq_false_iff_ne.mpr e2]
  ·rw[if_neg e,BC,BC,ih y]
   by_cases e2:y=z
   ·rw[e2,beq_self_eq_true];dsimp only;rw[if_neg e]
   ·rw[beq_eq_false_iff_ne.mpr e2]
theorem Akx(x:Ac)(v:W):∀(l:An) (y:Ac),(Gd x v l).lookup y=if y=x then some v else l.lookup y:=by
 intro z1
 induction z1 with
 | nil =>
  intro y;show AaE y [(x,v)]=_;rw[BC]
  by_cases e:y=x
  ·rw[if_pos e,e,beq_self_eq_true]
  ·rw[if_neg e,beq_eq_false_iff_ne.mpr e]
 | cons z2 r ih =>
  rcases z2 with⟨z,w⟩
  intro y;rw[Xx]
  by_cases e:z=x
  ·rw[if_pos e,BC,BC];subst e
   by_cases e2:y=z
   ·rw[if_pos e2,e2,beq_self_eq_true]
   ·rw[if_neg e2,beq_eq_false_iff_ne.mpr e2]
  ·rw[if_neg e,BC,BC,ih y]
   by_cases e2:y=z
   ·rw[e2,beq_self_eq_true];dsimp only;rw[if_neg e]
   ·rw[beq_eq_false_iff_ne.mpr e2]
theorem Aky{v:CV}{w:W}(r:WR Z ρ σ v w)(l:AW Z ρ σ cloc loc):AW Z ρ σ (CI x v cloc) (Gd x w loc):=by
 intro y u h hn;rw[Akx]at h;rw[Akw]
 by_cases e:y=x
 ·rw[if_pos e]at h ⊢;injection h with za;subst za
  exact⟨v,rfl,r⟩
 ·rw[if_neg e]at h ⊢;exact l y u h hn
theorem Akz{v:CV}{w:W}(r:WR Z ρ σ v w):∀{as:List (Ac×W)} {cs:List (Ac×CV)},as.map (·.1)=cs.map (·.1)->Dj Z ρ σ (cs.map (·.2)) (as.map (·.2))->(Gd x w as).map (·.1)=(CI x v cs).map (·.1)/\Dj Z ρ σ ((CI x v cs).map (·.2)) ((Gd x w as).map (·.2)):=by
 intro z1
 induction z1 with
 | nil =>
  intro z3;rcases z3 with _ | ⟨z4,z5⟩
  ·intro z6 z7;exact⟨rfl,r,trivial⟩
  ·intro e z8;exfalso;injection e
 | cons z2 as ih =>
  rcases z2 with⟨y,u⟩
  intro z9;rcases z9 with _ | ⟨z10,cs⟩
  ·intro e z11;exfalso;injection e
  ·rcases z10 with⟨y',c⟩
   intro e q;rw[Bj,Bj,Jg]at e;refine At e ?_;clear e;rintro e1 e2;subst e1;rw[Xx,L5]
   by_cases h:y=x
   ·rw[if_pos h,if_pos h];exact⟨by rw[Bj,Bj,e2],r,q.2⟩
   ·rw[if_neg h,if_neg h];refine At (ih e2 q.2) ?_;rintro i1 i2;exact⟨by rw[Bj,Bj,i1],q.1,i2⟩
theorem SH{v:V}{c:CV}{K:An->Prop}(h:JO ks x v loc K)(r:UR Z ρ σ c v)(l:AW Z ρ σ cloc loc):E8 ks x c cloc=ret ((),CI x c cloc)/\∃loc',AW Z ρ σ (CI x c cloc) loc'/\K loc':=by
 unfold JO at h;unfold E8;rcases v with w | _
 ·dsimp only at h;rcases q:ks.lookup x with _ | k
  ·rw[q]at h;exact h.elim
  ·rw[q]at h;rcases k with⟨⟩<;>first | exact⟨rfl,_,Aky r l,h⟩ | exact h.elim
 ·exact h.elim
theorem Yc{as:List (β×γ)}{cs:List (β×δ)}(e:as.map (·.1)=cs.map (·.1)):as.length=cs.length:=by
 have:=congrArg Ib e
 rwa [AG,AG]at this
theorem Yd(hG:GT Γ)(hf:B3 E f fc){t:Expr}{v:V}{c:CV}{Q:Kq An}(h:OV f ks t v loc α as Q)(s:Au X ρ α σ)(l:AW (Zx X ρ α) ρ σ cloc loc)(r:UR (Zx X ρ α) ρ σ c v):Sm E ρ α σ (Jz Γ fc ks t c cloc) (PL X Q):=by
 unfold OV at h;unfold Jz;rcases hq:B7 t with _ | ⟨x,p⟩
 ·rw[hq]at h;dsimp only at h ⊢;rcases ha:E2 t with _ | ⟨o,x,p⟩
  ·rw[ha]at h;dsimp only at h ⊢;rcases hs:Ks t with _ | ⟨o,i,p⟩
   ·rw[hs]at h;exact h.elim
   ·rw[hs]at h;dsimp only at h ⊢;refine Sm.eq (x:=bnd (fc ks cloc o) λov=>bnd (fc ks cloc i) λiv=>bnd (Iq ov iv c) λy=>ret ((),cloc)) ?_ ?_
    ·show Mk cloc _ σ=_;unfold Mk;rw[El];refine congrFun (KJ λov => ?_) σ;rw[El];refine KJ λiv => ?_;rw[El];rfl
    refine Sm.bnd (Cy hf h s l) λoc ρ1 α1 σ1 p1 zz => ?_;rcases zz with⟨ov,as1,s1,r1,h1⟩
    refine Sm.bnd (Cy hf h1 s1 (l.stp p1)) λic ρ2 α2 σ2 p2 zz => ?_;rcases zz with⟨iv,as2,s2,r2,h2⟩
    refine Ah (BE h2) ?_;rintro j ej h2;rcases DR ej r2 with rfl
    rcases ov with ow | _
    ·rcases ow with k | _ | _
     ·refine Ah r1 ?_;clear r1;rintro a hk rfl;refine Ah (BE h2) ?_;rintro⟨t,α3⟩ eg h2;refine CZ (OZ eg s2 (r.stp (p1.trans p2))) ?_;rintro s3 p3 rt;have hk2:=p2.pre k a hk;refine Sm.pre p3 ?_;dsimp only at h2;have fin:∀{σ3:CH} {α4:AH},Iq (.ref a) (.int j) c σ2=.ok .none σ3->AT ρ2 α3 σ2 ρ2 α4 σ3->Au X ρ2 α4 σ3->(∃as,Q loc α4 as)->Sm E ρ2 α3 σ2 (bnd (Iq (.ref a) (.int j) c) λy=>ret ((),cloc)) (PL X Q):=λ{σ3 α4} e p4 s4 ⟨as,hq⟩ =>
       .ok (Ch e) p4 ⟨loc,as,s4,(((l.stp p1).stp p2).stp p3).stp p4,hq⟩
      rcases q:α3[k]? with _ | o
      ·rw[q]at h2;exact h2.elim
      ·rw[q]at h2;rcases o with ts | es | _ | _
       case lst =>
        rcases JR h2 with⟨hg,as3,h2⟩
        rw[decide_eq_true_eq]at hg;refine Ji (So (v:=.ref a) s3 q ⟨a,hk2,rfl⟩) ?_;rintro _ us e0 e1 e2 e3 e4;injection e0 with za;subst za
        rw[hk2]at e1;injection e1 with za;rcases za with⟨⟩
        refine At (XY s3 hk2 q (λz=>nomatch z) e2 (e4.set rt j.toNat) (by rw[GS];exact HT e4 e3)) ?_;rintro s4 p4
        refine fin ?_ p4 s4 ⟨as3,h2⟩;unfold Iq;dsimp only;rw[if_pos (O4 e2),Ch (Dk e2 e3),if_pos (by rw[e4.len];exact hg)]
        rfl
       case dct =>
        rcases JR h2 with⟨hg,as3,h2⟩
        refine Ji (Sp (v:=.ref a) s3 q ⟨a,hk2,rfl⟩) ?_;rintro _ us e0 e1 e2 e3 e4;injection e0 with za;subst za
        rw[hk2]at e1;injection e1 with za;rcases za with⟨⟩
        refine At (XV (k:=j) e3 e4 rt) ?_;rintro i1 i2;have tr:=λ(b:Nat) o (hb:σ2[b]? = some o) (n:¬Zx X ρ2 α3 b)=>O0 s3 (.dict (EN us j c)) hk2 q (ao':=.dct (Cg es j t)) (λz=>nomatch z) hb n
        refine fin ?_ (AT.put s3 (.dict (EN us j c)) hk2 q (ao':=.dct (Cg es j t)) (λz=>nomatch z)) (s3.put (.dict (EN us j c)) hk2 q (ao':=.dct (Cg es j t)) (λz=>nomatch z) ⟨EN us j c,O1 e2,i1,i2.mono tr⟩) ⟨as3,h2⟩
        unfold Iq;dsimp only;rw[if_neg (by rw[O5 e2];exact Cw),Ch (O6 e2),if_pos (by rw[<- Yc e3];exact hg)]
        rfl
       all_goals exact h2.elim
     ·exact h2.elim
     ·exact h2.elim
    ·exact h2.elim
  ·rw[ha]at h;dsimp only at h ⊢;refine Sm.eq (x:=bnd (fc ks cloc o) λov=>bnd (bnd (L6 Γ ov x c) λy=>ret ()) λb=>ret (b,cloc)) (congrFun (El _ _ _) σ) ?_;refine Sm.bnd (Cy hf h s l) λoc ρ1 α1 σ1 p1 zz => ?_;rcases zz with⟨ov,as1,s1,r1,h1⟩
   rcases ov with(k | _ | _) | _
   case w.own =>
    rcases v with w | _
    case tup=>exact h1.elim
    dsimp only at h1;refine Ah r1 ?_;clear r1;rintro a hk rfl;rcases q:α1[k]? with _ | o
    ·rw[q]at h1;exact h1.elim
    ·rw[q]at h1;rcases o with _ | _ | ⟨C,cs⟩ | _
     case ins =>
      refine At (Cx h1) ?_;rintro e h1;rw[A9,decide_eq_true_eq]at e;refine AE (s1.ob k a _ hk q) ?_;rintro ds g1 g2 g3;have rv:WR (Zx X ρ1 α1) ρ1 σ1 c w:=(r.stp p1:UR _ _ _ _ (.w w));refine At (Akz (x:=x) rv g2 g3) ?_;rintro i1 i2;have tr:=λ(b:Nat) o (hb:σ1[b]? = some o) (n:¬Zx X ρ1 α1 b)=>O0 s1 (.inst C (CI x c ds)) hk q (ao':=.ins C (Gd x w cs)) (λz=>nomatch z) hb n
      have s2:=s1.put (.inst C (CI x c ds)) hk q (ao':=.ins C (Gd x w cs)) (λz=>nomatch z) ⟨CI x c ds,O1 g1,i1,i2.mono tr λy y h=>h⟩
      have p2:=AT.put s1 (.inst C (CI x c ds)) hk q (ao':=.ins C (Gd x w cs)) (λz=>nomatch z)
      refine .ok (b:=((),cloc)) ?_ p2 ⟨loc,as1,s2,(l.stp p1).stp p2,h1⟩;have e3:L6 Γ (.ref a) x c σ1=.ok .none (σ1.set a (.inst C (CI x c ds))):=by
       show bnd (Gy a) _ σ1=_;rw[Ch (XC g1)];dsimp only;rw[hG.has,if_pos ⟨e.1,by rw[<- Yc g2];exact e.2⟩]
       rfl
      rw[Ch (b:=()) (σ':=σ1.set a (.inst C (CI x c ds))) (by rw[Ch e3];rfl)]
      rfl
     all_goals exact h1.elim
   all_goals exact h1.elim
 ·rw[hq]at h;dsimp only at h;rcases SH h r l with⟨e,loc',l',h⟩
  dsimp only;rw[e];exact .ret ⟨loc',as,s,l',h⟩
theorem AkA(hG:GT Γ)(hf:B3 E f fc):∀{ts:List Expr} {vs:List V} {cs:List CV} {loc:An} {cloc:Ao} {α:AH} {as:List Al} {ρ:List Nat} {σ:CH} {Q:Kq An},R8 f ks ts vs loc α as Q->Au X ρ α σ->AW (Zx X ρ α) ρ σ cloc loc->Bv (Zx X ρ α) ρ σ cs vs->Sm E ρ α σ (KL Γ fc ks ts cs cloc) (PL X Q):=by
 intro z1
 induction z1 with
 | nil =>
  intro z2;rcases z2 with _ | ⟨z3,z4⟩
  ·intro z5;rcases z5 with _ | ⟨z6,z7⟩
   ·intro loc cloc α as ρ σ Q h s l r;exact .ret ⟨loc,as,s,l,h⟩
   ·intro loc cloc α as ρ σ Q h s l r;exact r.elim
  ·intro z8 loc cloc α as ρ σ Q h s l r;exact h.elim
 | cons t ts ih =>
  intro z9;rcases z9 with _ | ⟨v,vs⟩
  ·intro z10 loc cloc α as ρ σ Q h s l r;exact h.elim
  ·intro z11;rcases z11 with _ | ⟨c,cs⟩
   ·intro loc cloc α as ρ σ Q h s l r;exact r.elim
   ·intro loc cloc α as ρ σ Q h s l r;refine Sm.bnd (Yd hG hf h s l r.1) λp ρ1 α1 σ1 p1 zz => ?_;rcases zz with⟨Et,as1,s1,l1,h1⟩
    exact ih h1 s1 l1 (r.2.stp p1)
theorem Ye{v:V}{c:CV}{vs:List V}(h:R9 v=some vs)(r:UR Z ρ σ c v):∃cs,c=.tup cs/\Bv Z ρ σ cs vs:=by
 have one:∀{ws:List W} {cs:List CV},Dj Z ρ σ cs ws->Bv Z ρ σ cs (ws.map .w):=λ{ws}=>by
  induction ws with
  | nil=>intro cs r;cases cs with | nil=>trivial | cons _ _=>exact r.elim
  | cons w ws ih=>intro cs r;cases cs with | nil=>exact r.elim | cons c cs=>exact⟨r.1,ih r.2⟩
 have two:∀{ts:List T} {cs:List CV},AA Z σ cs ts->Bv Z ρ σ cs (ts.map Vf):=λ{ts}=>by
  induction ts with
  | nil=>intro cs r;rcases r with⟨⟩;trivial
  | cons t ts ih=>intro cs r;cases r with | cons a r=>exact⟨a,ih r⟩
 rcases v with(_ | (_ | _ | _ | _ | ⟨_ | _ | _ | _,ts⟩) | _) | ws
 case w.fz.node.tup =>
  injection h with za;subst za
  refine AE (TR.tup_inv r) ?_;rintro cs e _ r;exact⟨cs,e,two r⟩
 case tup =>
  injection h with za;subst za
  refine AE r ?_;clear r;rintro cs e _ r;exact⟨cs,e,one r⟩
 all_goals exact(Aw h).elim
theorem Bv.len:∀{cs:List CV} {vs:List V},Bv Z ρ σ cs vs->cs.length=vs.length:=by
 intro z1
 induction z1 with
 | nil =>
  intro z4;rcases z4 with _ | ⟨z5,z6⟩
  ·intro z7;exact rfl
  ·intro r;exact r.elim
 | cons z2 z3 ih =>
  intro z8;rcases z8 with _ | ⟨z9,z10⟩
  ·intro r;exact r.elim
  ·intro r;exact congrArg (· + 1) (ih r.2)
theorem Bv.app:∀{cs ds:List CV} {vs ws:List V},Bv Z ρ σ cs vs->Bv Z ρ σ ds ws->Bv Z ρ σ (cs++ds) (vs++ws):=by
 intro z1
 induction z1 with
 | nil =>
  intro z4 z5;rcases z5 with _ | ⟨z6,z7⟩
  ·intro z8 z9 q;exact q
  ·intro z10 r z11;exact r.elim
 | cons z2 z3 ih =>
  intro z12 z13;rcases z13 with _ | ⟨z14,z15⟩
  ·intro z16 r z17;exact r.elim
  ·intro z18 r q;exact⟨r.1,ih r.2 q⟩
theorem Bv.rev:∀{cs:List CV} {vs:List V},Bv Z ρ σ cs vs->Bv Z ρ σ cs.reverse vs.reverse:=by
 intro z1
 induction z1 with
 | nil =>
  intro z4;rcases z4 with _ | ⟨z5,z6⟩
  ·intro z7;exact trivial
  ·intro r;exact r.elim
 | cons z2 z3 ih =>
  intro z8;rcases z8 with _ | ⟨z9,z10⟩
  ·intro r;exact r.elim
  ·intro r;rw[Nv,Nv];exact(ih r.2).app ⟨r.1,trivial⟩
theorem Yg(hG:GT Γ)(hf:B3 E f fc){t:Expr}{v:V}{c:CV}{Q:Kq An}(h:IH f ks t v loc α as Q)(s:Au X ρ α σ)(l:AW (Zx X ρ α) ρ σ cloc loc)(r:UR (Zx X ρ α) ρ σ c v):Sm E ρ α σ (GC Γ fc ks t c cloc) (PL X Q):=by
 unfold IH at h;unfold GC;rcases hq:Fq t with _ | ⟨ts,m,p⟩
 ·rw[hq]at h;exact Yd hG hf h s l r
 ·rw[hq]at h;refine Ah (BE h) ?_;rintro vs e h;refine At (Cx h) ?_;rintro e2 h;rw[A9]at e2;refine Ah (Ye e r) ?_;rintro cs rfl q;refine Sm.eq (x:=KL Γ fc ks ts cs cloc) (congrFun (if_pos ⟨by rw[q.len];exact NS e2.1,e2.2⟩) σ) ?_
  exact AkA hG hf h s l q
theorem AkB:∀{xs:List Ac} {vs:List V} {cs:List CV} {loc:An} {cloc:Ao} {K:An->Prop},Sa ks xs vs loc K->AW Z ρ σ cloc loc->Bv Z ρ σ cs vs->∃cloc',KO ks xs cs cloc=ret ((),cloc')/\∃loc',AW Z ρ σ cloc' loc'/\K loc':=by
 intro z1
 induction z1 with
 | nil =>
  intro z2;rcases z2 with _ | ⟨z3,z4⟩
  ·intro z5;rcases z5 with _ | ⟨z6,z7⟩
   ·intro loc cloc K h l r;exact⟨cloc,rfl,loc,l,h⟩
   ·intro loc cloc K h l r;exact r.elim
  ·intro z8 loc cloc K h l r;exact h.elim
 | cons x xs ih =>
  intro z9;rcases z9 with _ | ⟨v,vs⟩
  ·intro z10 loc cloc K h l r;exact h.elim
  ·intro z11;rcases z11 with _ | ⟨c,cs⟩
   ·intro loc cloc K h l r;exact r.elim
   ·intro loc cloc K h l r;rcases SH h r.1 l with⟨e,loc',l',h⟩
    refine Ah (ih h l' r.2) ?_;rintro cl e2 h2;refine⟨cl,?_,h2⟩;show bnd (E8 _ _ _ _) _=_;rw[e];exact e2
theorem AkC(hG:GT Γ)(hf:B3 E f fc){t value:Expr}{v:V}{c:CV}{Q:Kq An}(h:Sb f ks t value v loc α as Q)(s:Au X ρ α σ)(l:AW (Zx X ρ α) ρ σ cloc loc)(r:UR (Zx X ρ α) ρ σ c v):Sm E ρ α σ (JA Γ fc ks t value c cloc) (PL X Q):=by
 unfold Sb at h;unfold JA;rcases q:KM ks [t] value with _ | o
 ·rw[q]at h;exact h.elim
 ·rw[q]at h;rcases o with _ | names
  ·exact Yg hG hf h s l r
  ·refine Ah (BE h) ?_;rintro vs e h;refine At (Cx h) ?_;rintro e2 h;refine Ah (Ye e r) ?_;rintro cs rfl q;dsimp only;rw[if_pos (by rw[q.len];exact NS e2)]
   rcases AkB h l q.rev with⟨cl,e3,loc',l',h⟩
   rw[e3];exact .ret ⟨loc',as,s,l',h⟩
theorem SI(hf:B3 E f fc){e:Expr}{Q:Kq V}(h:MC f ks loc e α as Q)(s:Au X ρ α σ)(l:AW (Zx X ρ α) ρ σ cloc loc):Sm E ρ α σ (fc ks cloc e) (PV X Q) :=
 (hf ks loc e α as _ h X ρ σ cloc s l).re λb ρ' α' σ' p ⟨r,as',h1,h2⟩=>by
  refine EZ (h1.own p h2) ?_;rintro ρ2 α2 v p2 s2 r2 q;exact⟨ρ2,α2,p2,v,as',s2,r2,q⟩
theorem AkD(hf:B3 E f fc):∀{es:List Expr} {α:AH} {as:List Al} {ρ:List Nat} {σ:CH} {Q:Kq (List V)},MD f ks loc es α as Q->Au X ρ α σ->AW (Zx X ρ α) ρ σ cloc loc->Sm E ρ α σ (Bx (fc ks cloc) es) (SC X Q):=by
 intro z1
 induction z1 with
 | nil =>
  intro α as ρ σ Q h s l;exact .ret ⟨[],as,s,trivial,h⟩
 | cons e es ih =>
  intro α as ρ σ Q h s l;rw[AiY]at h;rcases hs:C8 e with _ | _
  ·rw[hs]at h;rw[QP];rw[if_neg (by rw[hs];exact Cw)]
   refine(SI hf h s l).bnd λc ρ1 α1 σ1 p zz => ?_;rcases zz with⟨v,as1,s1,r1,h1⟩
   refine(ih h1 s1 (l.stp p)).bnd λcs ρ2 α2 σ2 p2 zz => ?_;rcases zz with⟨vs,as2,s2,r2,h2⟩
   exact .ret ⟨v::vs,as2,s2,⟨r1.stp p2,r2⟩,h2⟩
  ·rw[hs]at h;exact h.elim
theorem Yh:∀{vs:List V} {ws:List W} {cs:List CV},K4 vs=some ws->Bv Z ρ σ cs vs->Dj Z ρ σ cs ws/\cs.length=ws.length:=by
 intro z1
 induction z1 with
 | nil =>
  intro ws z2;rcases z2 with _ | ⟨z3,z4⟩
  ·intro h r;injection h with za;subst za;exact⟨trivial,rfl⟩
  ·intro h r;exact r.elim
 | cons v vs ih =>
  intro ws z5;rcases z5 with _ | ⟨c,cs⟩
  ·intro h r;exact r.elim
  ·intro h r;rcases v with x | _
   ·have h:(match K4 vs with | some us=>some (x::us) | none=>none)=some ws:=h
    rcases q:K4 vs with _ | us
    ·rw[q]at h;(exfalso;injection h)
    ·rw[q]at h;injection h with za;subst za
     refine At (ih q r.2) ?_;rintro i1 i2;exact⟨⟨r.1,i1⟩,congrArg (· + 1) i2⟩
   ·exfalso;injection h
theorem AkE(hf:B3 E f fc){f':EA}{fc':BM}(hf':B3 E f' fc')(ht:∀ks cloc es m p,fc ks cloc (.Tuple es m p)=bnd (Bx (fc' ks cloc) es) EK){t e:Expr}{Q:Kq V}(h:Se f f' ks loc t e α as Q)(s:Au X ρ α σ)(l:AW (Zx X ρ α) ρ σ cloc loc):Sm E ρ α σ (fc ks cloc e) (PV X Q):=by
 unfold Se at h;rcases ht2:Ox t with _ | _
 ·rw[ht2]at h;exact SI hf h s l
 ·rw[ht2]at h;dsimp only at h;rcases hq:Fq e with _ | q
  ·rw[hq]at h;exact SI hf h s l
  ·rw[hq]at h;obtain rfl:=LM hq;rw[ht];refine Sm.bnd (AkD hf' h s l) λcs ρ1 α1 σ1 p zz => ?_;rcases zz with⟨vs,as1,s1,r1,h1⟩
   refine Ah (BE h1) ?_;rintro ws e h1;refine At (Cx h1) ?_;rintro z h1;refine At (Yh e r1) ?_;rintro r2 e2;have z':small cs.length=true:=by rw[e2];exact z
   exact .ok (congrFun (if_pos z':EK cs=ret (.tup cs)) σ1) AT.refl ⟨.tup ws,as1,s1,⟨cs,rfl,z',r2⟩,h1⟩
end
end
section
section
variable {E:CX->Prop}{X Z Z':Nat->Prop}{ρ:List Nat}{α:AH}{σ σ':CH}{n:Nat}{f f':EA}{g:TA}{fc fc':BM}{gc:CU}{H:Hs}{Γ:AM}{ks:AD}{loc:An}{cloc:Ao}{as:List Al}
theorem Yi{m:Nat}(h:DY (ρ.take m) (Ep m α) a):DY ρ α a:=by
 refine Bm h ?_;clear h;rintro k o h1 h2 h3;unfold Ep at h2;rw[G2]at h2
 by_cases hk:k<m
 ·rw[Uq hk]at h1 h2;rcases q:α[k]? with _ | o'
  ·rw[q]at h2;(exfalso;injection h2)
  ·rw[q]at h2;injection h2 with za;subst za
   exact⟨k,o',h1,q,λe=>h3 (by rw[e];rfl)⟩
 ·rw[Ao4 (PU hk)]at h1;exfalso;injection h1
theorem Yj{m:Nat}{v:CV}{w:W}(h:WR Z ρ σ v w):WR Z (ρ.take m) σ v (JP m w):=by
 rcases w with k | t | _
 ·unfold JP;dsimp only
  by_cases hk:k<m
  ·rw[if_pos hk];refine Ah h ?_;clear h;rintro a h1 h2;exact⟨a,by rw[Uq hk];exact h1,h2⟩
  ·rw[if_neg hk];trivial
 ·exact h
 ·trivial
theorem AkF{m:Nat}:∀{vs:List CV} {ws:List W},Dj Z ρ σ vs ws->Dj Z (ρ.take m) σ vs (ws.map (JP m)):=by
 intro z1
 induction z1 with
 | nil =>
  intro z4;rcases z4 with _ | ⟨z5,z6⟩
  ·intro z7;exact trivial
  ·intro r;exact r.elim
 | cons z2 z3 ih =>
  intro z8;rcases z8 with _ | ⟨z9,z10⟩
  ·intro r;exact r.elim
  ·intro r;exact⟨Yj r.1,ih r.2⟩
theorem Pc{m:Nat}{b:Nat}{o:CO}(hb:σ[b]? = some o)(h:¬Zx X ρ α b):σ[b]? = some o/\¬Zx X (ρ.take m) (Ep m α) b:=⟨hb,λq=>h (q.imp id Yi)⟩
theorem Dj.z(h:∀(a:Nat) o,σ[a]? = some o->¬Z a->σ[a]? = some o/\¬Z' a):∀{vs:List CV} {ws:List W},Dj Z ρ σ vs ws->Dj Z' ρ σ vs ws:=λr=>r.mono h λq q h=>h
theorem Au.cut(s:Au X ρ α σ){m:Nat}(hm:m<=α.length):Au X (ρ.take m) (Ep m α) σ:=by
 have hρ:∀a∈ρ.take m,a∈ρ:=λa h=>Aol h;refine⟨by unfold Ep;rw[Nt,AG,Nt,s.len],s.nd.sublist (List.take_sublist _ _),λa h=>s.lt a (hρ a h),λa h=>s.nx a (hρ a h),s.xlt,λk a o h1 h2 => ?_⟩
 unfold Ep at h2;rw[G2]at h2
 by_cases hk:k<m
 ·rw[Uq hk]at h1 h2;rcases q:α[k]? with _ | o'
  ·rw[q]at h2;(exfalso;injection h2)
  ·rw[q]at h2;injection h2 with za;subst za
   have z:=s.ob k a o' h1 q;rcases o' with ts | es | ⟨C,as⟩ | _
   ·refine AE z ?_;clear z;rintro vs g1 g2 g3;exact⟨vs,g1,g2,g3.mono λx x h n=>Pc h n⟩
   ·refine AE z ?_;clear z;rintro vs g1 g2 g3;exact⟨vs,g1,g2,g3.mono λx x h n=>Pc h n⟩
   ·refine AE z ?_;clear z;rintro cs g1 g2 g3;refine⟨cs,g1,by rw[CY];exact g2,?_⟩
    have:=AkF (m:=m) (Dj.z (λx x h n=>Pc (m:=m) h n) g3);rw[CY]at this ⊢;exact this
   ·trivial
 ·rw[Ao4 (PU hk)]at h1;exfalso;injection h1
theorem AT.cut(p:AT ρ0 α0 σ0 ρ α σ){m:Nat}(h:ρ0.length<=m):AT ρ0 α0 σ0 (ρ.take m) (Ep m α) σ :=
 ⟨p.len,p.keep,λk a e=>by rw[Uq (EX (DK.mp e).1 h)];exact p.pre k a e,λa q=>p.live a (Yi q)⟩
theorem AkG{m:Nat}(l:AW (Zx X ρ α) ρ σ cloc loc):AW (Zx X (ρ.take m) (Ep m α)) (ρ.take m) σ cloc (JQ m xs loc):=by
 intro x w h hn;have key:∀ys:List Ac,(ys.map λy=>(y,match loc.lookup y with | some w=>JP m w | none=>.junk)).lookup x=some w->w=(match loc.lookup x with | some w=>JP m w | none=>.junk):=λys=>by
  induction ys with
  | nil=>intro h;(exfalso;injection h)
  | cons y ys ih =>
   intro h;rw[Bj,BC]at h;rcases q:x == y with _ | _
   ·rw[q]at h;exact ih h
   ·rw[q]at h;injection h with za;subst za
    rw[Kf q]
 have e:=key xs h;rcases q:loc.lookup x with _ | u
 ·rw[q]at e;exact absurd e hn
 ·rw[q]at e;dsimp only at e;have hu:u≠.junk:=λz=>hn (by rw[e,z];rfl)
  refine Ah (l x u q hu) ?_;rintro v h1 h2;exact⟨v,h1,e▸(Yj h2).mono (λj j h n=>Pc h n) λj j h=>h⟩
def SJ(E:CX->Prop)(X:Nat->Prop)(B:T->An->AH->List Al->(BS->An->AH->List Al->Prop)->Prop)(Bc:CV->Ao->CM (Bk×Ao)):Prop:=∀t v l a as Q ρ σ cl,B t l a as Q->Au X ρ a σ->AW (Zx X ρ a) ρ σ cl l->TR (Zx X ρ a) σ v t->Sm E ρ a σ (Bc v cl) (PF X Q)
set_option tactic.hygienic true in
theorem Yk{m:Nat}{v:CV}(h:B9 σ i src=some (some v)):F8 Bc src (m+1) i cloc σ=bnd (Bc v cloc) (λq=>match q.1 with
  | .next=>F8 Bc src m (i+1) q.2
  | .ret v=>ret (.ret v,q.2)) σ:=by
 rw[show F8 Bc src (m+1) i cloc σ=(match B9 σ i src with
  | none=>.stuck
  | some none=>.ok (.next,cloc) σ
  | some (some v)=>bnd (Bc v cloc) (λq=>match q.1 with
   | .next=>F8 Bc src m (i+1) q.2
   | .ret v=>ret (.ret v,q.2)) σ)from rfl,h]
theorem Yl{m:Nat}(h:B9 σ i src=some none):F8 Bc src (m+1) i cloc σ=.ok (.next,cloc) σ:=by
 rw[Ahc];dsimp only;rw[h]
theorem Ym{ts us:List T}{u:T}(hd:ts.drop i=u::us):ts[i]? = some u/\ts.drop (i+1)=us:=by
 constructor
 ·have:=congrArg (·[0]?) hd;rw[Aa3]at this;exact this
 ·rw[<- Ao3,hd];rfl
theorem Yn{ts:List T}(hd:ts.drop i=[]):ts[i]? = none:=Gn (by have:=congrArg Ib hd;rw[PZ]at this;exact Ao2 this)
set_option tactic.hygienic true in
theorem AkH{B:T->An->AH->List Al->(BS->An->AH->List Al->Prop)->Prop}(hB:SJ E X B Bc){nn:Nat}{xs:List Ac}{ts:List T}{src:Ck}:∀(us:List T) (l:An) (a:AH) (l':An) (a':AH),BX B nn xs us l a l' a'->∀(i m:Nat) (ρ:List Nat) (σ:CH) (cl:Ao),us.length<m->ts.drop i=us->a.length=nn ->
  Au X ρ a σ->AW (Zx X ρ a) ρ σ cl l->Es (Zx X ρ a) σ ts src->Sm E ρ a σ (F8 Bc src m i cl) (λp ρ' α' σ'=>α'=a'/\Au X ρ' α' σ'/\p.1=.next/\AW (Zx X ρ' α') ρ' σ' p.2 l'):=by
 intro us
 induction us with
 | nil =>
  intro l a l' a' h i m ρ σ cl hm hd hn s lr sr;refine At h ?_;clear h;rintro rfl rfl;obtain⟨m,rfl⟩:∃k,m=k+1:=⟨m-1,(N5 hm)⟩;exact .ok (Yl ((sr.item i).1 (Yn hd))) AT.refl ⟨rfl,s,rfl,lr⟩
 | cons u us ih =>
  intro l a l' a' h i m ρ σ cl hm hd hn s lr sr;refine Ee h ?_;clear h;rintro as l1 a1 hb h;obtain⟨m,rfl⟩:∃k,m=k+1:=⟨m-1,(N5 hm)⟩;refine At (Ym hd) ?_;rintro hi hd';refine Ah ((sr.item i).2 u hi) ?_;rintro v g1 g2;refine Sm.eq (Yk g1) ?_;have body:=(hB u v l a as _ ρ σ cl hb s lr g2).re (Q:=λp ρ' α' σ'=>α'=a1/\a1.length=nn/\Au X ρ' α' σ'/\p.1=.next/\AW (Zx X ρ' α') ρ' σ' p.2 l1) λp ρ2 α2 σ2 st ⟨fl,l2,as2,s2,r2,lr2,e1,e2,e3,e4⟩=>by
   subst e1 e2 e3;refine⟨ρ2.take nn,Ep nn α2,st.cut (by rw[s.len,hn];exact AK _),rfl,by unfold Ep;rw[AG,Nt];exact om3 e4,s2.cut e4,?_,AkG lr2⟩
   rcases p with⟨fc,cl2⟩
   rcases fc with _ | v
   ·rfl
   ·exact r2.elim
  refine body.bnd λp ρ1 α1 σ1 st zz => ?_;refine Uv zz ?_;clear zz;rintro e1 e2 s1 e3 lr1;subst e1;rcases p with⟨fl,cl1⟩
  subst e3;exact ih l1 α1 l' a' h (i+1) m ρ1 σ1 cl1 (by simp only[BH]at hm;exact Qp hm) hd' e2 s1 lr1 (sr.mono λz z h n=>st.tr h n)
theorem AkI{B:T->An->AH->List Al->(BS->An->AH->List Al->Prop)->Prop}(hB:SJ E X B Bc){ts:List T}{src:Ck}{Q:BS->An->AH->List Al->Prop}:∀(us:List T) (l:An) (a:AH) (as:List Al),ME B us l a as Q->∀(i m:Nat) (ρ:List Nat) (σ:CH) (cl:Ao),us.length<m->ts.drop i=us ->
  Au X ρ a σ->AW (Zx X ρ a) ρ σ cl l->Es (Zx X ρ a) σ ts src->Sm E ρ a σ (F8 Bc src m i cl) (PF X Q):=by
 intro us
 induction us with
 | nil =>
  intro l a as h i m ρ σ cl hm hd s lr sr;obtain⟨m,rfl⟩:∃k,m=k+1:=⟨m-1,(N5 hm)⟩;exact .ok (Yl ((sr.item i).1 (Yn hd))) AT.refl ⟨.next,l,as,s,trivial,lr,h⟩
 | cons u us ih =>
  intro l a as h i m ρ σ cl hm hd s lr sr;obtain⟨m,rfl⟩:∃k,m=k+1:=⟨m-1,(N5 hm)⟩;refine At (Ym hd) ?_;rintro hi hd';refine Ah ((sr.item i).2 u hi) ?_;rintro v g1 g2;refine Sm.eq (Yk g1) ?_;refine(hB u v l a as _ ρ σ cl h s lr g2).bnd λp ρ1 α1 σ1 st zz => ?_;rcases zz with⟨fl,l1,as1,s1,r1,lr1,h1⟩
  rcases p with⟨fc,cl1⟩
  rcases fl with _ | w
  ·rcases fc with _ | _
   ·exact ih l1 α1 as1 h1 (i+1) m ρ1 σ1 cl1 (by simp only[BH]at hm;exact Qp hm) hd' s1 lr1 (sr.mono λz z h n=>st.tr h n)
   ·exact r1.elim
  ·rcases fc with _ | c
   ·exact r1.elim
   ·exact .ret ⟨.ret w,l1,as1,s1,r1,lr1,h1⟩
set_option tactic.hygienic true in
theorem AkJ(hg:FE E g gc){x:XA}{xc:XT}(hX:Pb E x xc){t:Expr}{b:List AL}:∀(m:Nat) (l:An) (a:AH) (l':An) (a':AH),HR (λl=>g ks l t) (x b) m l a l' a'->∀(ρ:List Nat) (σ:CH) (cl:Ao),
  Au X ρ a σ->AW (Zx X ρ a) ρ σ cl l->Sm E ρ a σ (Iy gc xc ks t b m cl) (λp ρ' α' σ'=>α'=a'/\Au X ρ' α' σ'/\p.1=.next/\AW (Zx X ρ' α') ρ' σ' p.2 l'):=by
 intro m
 induction m with
 | zero=>intro l a l' a' h;exact h.elim
 | succ m ih =>
  intro l a l' a' h ρ σ cl s lr;refine Ee h ?_;clear h;rintro as q a1 h1 h;rw[Wy];refine(hg ks l t a as _ h1 X ρ σ cl s lr).bnd λq' ρ1 α1 σ1 p zz => ?_;rcases zz with⟨as1,s1,e1,e2⟩
  subst e1 e2;rcases q' with _ | _
  ·refine At h ?_;clear h;rintro rfl rfl;exact .ret ⟨rfl,s1,rfl,lr.stp p⟩
  ·refine Ee h ?_;clear h;rintro as2 l2 a2 h2 h;rw[if_pos rfl];refine(hX b l α1 as2 _ h2 X ρ1 σ1 cl s1 (lr.stp p)).bnd λr ρ2 α2 σ2 p2 zz => ?_;rcases zz with⟨fl,l3,as3,s2,r2,lr2,e1,e2,e3⟩
   subst e1 e2 e3;rcases r with⟨fc,cl2⟩
   rcases fc with _ | _
   ·exact ih l3 α2 l' a' h ρ2 σ2 cl2 s2 lr2
   ·exact r2.elim
theorem AkK{t:T}{c v:CV}(h:Sf t=some c)(r:TR Z σ v t):v=c:=by
 rcases r with⟨⟩<;>first | exact Ay h | exact(Aw h).elim
theorem AkL:∀{vs:List V} {cs ds:List CV},OW vs=some cs->Bv Z ρ σ ds vs->ds=cs:=by
 intro z1
 induction z1 with
 | nil =>
  intro cs z2;rcases z2 with _ | ⟨z3,z4⟩
  ·intro h r;rcases h with⟨⟩;rfl
  ·intro h r;exact r.elim
 | cons v vs ih =>
  intro cs z5;rcases z5 with _ | ⟨d,ds⟩
  ·intro h r;exact r.elim
  ·intro h r;have h:ob (RH v) (λt=>ob (Sf t) λc=>ob (OW vs) λcs=>some (c::cs))=some cs:=h;refine AN h λt q0 h=>AN h λc q1 h=>AN h λcs' q2 h => ?_;obtain rfl:=Ay h;obtain rfl:=Ai7 q0;rw[AkK q1 r.1,ih q2 r.2]
theorem AkM(hG:GT Γ)(hf:B3 E f fc){cn:Ac}{es:List Expr}{P:SA (Bk×Ao)}(h:Sg E f ks cn es loc α as)(s:Au X ρ α σ)(l:AW (Zx X ρ α) ρ σ cloc loc):Sm E ρ α σ (Mm Γ fc ks cn es cloc) P:=by
 refine At (Cx h) ?_;rintro e h;rw[A9]at e;unfold Mm;rw[if_pos e,hG.top,hG.excs];rcases q:FW.lookup cn with _ | v
 ·rw[q]at h;exact h.elim
 ·rw[q]at h;rcases v with _ | C
  ·exact h.elim
  ·dsimp only at h ⊢;rcases q2:Hj.lookup C with _ | names
   ·rw[q2]at h;exact h.elim
   ·rw[q2]at h;dsimp only at h ⊢;refine(Gf hf h s l).bnd λcs ρ1 α1 σ1 p zz => ?_;rcases zz with⟨vs,as1,s1,r1,h1⟩
    refine Ah (BE h1) ?_;rintro ds e1 h1;refine At (Cx h1) ?_;rintro e2 h1;rcases AkL e1 r1 with rfl
    rw[if_pos (NS e2)];exact⟨λa o h z=>h,h1⟩
set_option tactic.hygienic true in
theorem AkN{v:V}{c:CV}{Q:BS->An->AH->List Al->Prop}(h:JO ks x v loc λl=>Q .next l α as)(s:Au X ρ α σ)(l:AW (Zx X ρ α) ρ σ cloc loc)(r:UR (Zx X ρ α) ρ σ c v):Sm E ρ α σ (bnd (E8 ks x c cloc) λp=>ret (.next,p.2)) (PF X Q):=by
 rcases SH h r l with⟨e,loc',l',h⟩
 rw[e];exact .ret ⟨.next,loc',as,s,trivial,l',h⟩
set_option tactic.hygienic true in
theorem AkO{E:CX->Prop}{H:Hs}{f f':EA}{g:TA}{x:XA}{e c:Option Expr}{p:Pos}{loc:An}{α:AH}{as:List Al}{Q:BS->An->AH->List Al->Prop}(h:K7 E H f f' g ks x (.Raise e c p) loc α as Q):∃cn q1 es q2,e=some (.Call (.Name cn q1) es [] q2)/\c=none/\Sg E f ks cn es loc α as:=by
 rcases e with _ | e
 ·exact(h:False).elim
 ·rcases e with⟨⟩<;>try exact(h:False).elim
  rename_i fn es kw q2;rcases fn with⟨⟩<;>try exact(h:False).elim
  rename_i cn q1;rcases kw with⟨⟩<;>try exact(h:False).elim
  rcases c with⟨⟩<;>try exact(h:False).elim
  exact⟨cn,q1,es,q2,rfl,rfl,h⟩
set_option tactic.hygienic true in
theorem AkP{E:CX->Prop}{H:Hs}{f f':EA}{g:TA}{x:XA}{t:Expr}{b e:List AL}{p:Pos}{loc:An}{α:AH}{as:List Al}{Q:BS->An->AH->List Al->Prop}(h:K7 E H f f' g ks x (.While t b e p) loc α as Q):e=[]/\∃l1 h1 as',HR (λl=>g ks l t) (x b) 1000 loc α l1 h1/\Q .next l1 h1 as':=by
 rcases e with⟨⟩<;>try exact(h:False).elim
 rcases as with⟨⟩<;>try exact(h:False).elim
 rename_i a as;rcases a with⟨⟩<;>try exact(h:False).elim
 exact⟨rfl,_,_,_,h⟩
set_option tactic.hygienic true in
theorem AkQ{B:T->An->AH->List Al->(BS->An->AH->List Al->Prop)->Prop}{ks:List Ac}{ts:List T}{loc:An}{α:AH}{as:List Al}{Q:BS->An->AH->List Al->Prop}(h:(match as with
   | .st l h::as=>BX B n ks ts loc α l h/\Q .next l h as
   | as=>ME B ts loc α as Q)):(∃l h as',BX B n ks ts loc α l h/\Q .next l h as')\/∃as',ME B ts loc α as' Q:=by
 rcases as with _ | ⟨a,as⟩
 ·exact .inr ⟨_,h⟩
 ·rcases a with⟨⟩<;>first | exact .inl ⟨_,_,_,h⟩ | exact .inr ⟨_,h⟩
set_option tactic.hygienic true in
theorem AkR(hH:ES E H Γ)(hf:B3 E f fc)(hf':B3 E f' fc')(hg:FE E g gc)(ht:∀ks cloc es m p,fc ks cloc (.Tuple es m p)=bnd (Bx (fc' ks cloc) es) EK){x:XA}{xc:XT}(hX:Pb E x xc){st:AL}{Q:BS->An->AH->List Al->Prop}(h:K7 E H f f' g ks x st loc α as Q)(s:Au X ρ α σ)(l:AW (Zx X ρ α) ρ σ cloc loc) :
  Sm E ρ α σ (Rt Γ fc gc ks xc st cloc) (PF X Q):=by
 rcases st with _ | _ | _ | ⟨e,p⟩ | _ | ⟨ts,value,p⟩ | _ | _ | _ | ⟨target,iter,b,e,p⟩ | _ | ⟨t,b,e,p⟩ | ⟨t,a,b,p⟩ | _ | _ | _ | ⟨e,c,p⟩ | _ | _ | _ | _ | _ | _ | _ | ⟨e,p⟩ | p | _ | _
 case Expr =>
  refine At (Cx h) ?_;rintro e1 h;refine Sm.eq (x:=bnd (fc ks cloc e) λz=>ret (Bk.next,cloc)) (congrFun (if_pos e1) σ) ?_
  refine(Cy hf h s l).bnd λc ρ1 α1 σ1 p zz => ?_;rcases zz with⟨v,as1,s1,r1,h1⟩
  exact .ret ⟨.next,loc,as1,s1,trivial,l.stp p,h1⟩
 case Pass=>exact .ret ⟨.next,loc,as,s,trivial,l,h⟩
 case Return =>
  rcases e with _ | e
  ·exact .ret ⟨.ret (Vf .none),loc,as,s,(TR.none:TR _ _ _ _),l,h⟩
  ·dsimp only[K7]at h;refine Sm.bnd (Cy hf h s l) λc ρ1 α1 σ1 p zz => ?_;rcases zz with⟨v,as1,s1,r1,h1⟩
   exact .ret ⟨.ret v,loc,as1,s1,r1,l.stp p,h1⟩
 case Assign =>
  rcases ts with _ | ⟨t,r⟩
  ·exact(h:False).elim
  ·rcases r with _ | ⟨_,_⟩
   ·dsimp only[K7]at h;show Sm E ρ α σ (Mn Γ fc gc ks t value cloc) _;unfold Mn;rcases q:HM ks value t with _ | _
    ·rw[q]at h;refine At (Cx h) ?_;rintro e1 h;rw[if_neg Cw,if_pos e1];refine Sm.bnd (AkE hf hf' ht h s l) λc ρ1 α1 σ1 p zz => ?_;rcases zz with⟨v,as1,s1,r1,h1⟩
     refine Sm.bnd (AkC hH.gt hf h1 s1 (l.stp p) r1) λu ρ2 α2 σ2 p2 zz => ?_;rcases zz with⟨loc2,as2,s2,l2,h2⟩
     exact .ret ⟨.next,loc2,as2,s2,trivial,l2,h2⟩
    ·rw[q]at h;refine UC (WC q) ?_;rintro elt gens scope vp x p rfl rfl;rw[if_pos rfl];have c:=(X9 hH hf hg h s l).re (Q:=PV X λv α as=>JO ks x v loc λl=>Q .next l α as) λb ρ' α' σ' p ⟨r,as',h1,h2⟩=>by
      refine EZ (h1.own p h2) ?_;rintro ρ2 α2 v p2 s2 r2 q;exact⟨ρ2,α2,p2,v,as',s2,r2,q⟩
     refine Sm.bnd c λc ρ1 α1 σ1 p zz => ?_;rcases zz with⟨v,as1,s1,r1,h1⟩
     exact AkN h1 s1 (l.stp p) r1
   ·exact(h:False).elim
 case Raise =>
  refine Uz (AkO h) ?_;rintro cn q1 es q2 rfl rfl h;exact AkM hH.gt hf h s l
 case If=>exact SG hg h s l (λρ' α' σ' as' p s' l' h=>hX a loc α' as' Q h X ρ' σ' cloc s' l') λρ' α' σ' as' p s' l' h=>hX b loc α' as' Q h X ρ' σ' cloc s' l'
 case While =>
  rcases AkP h with⟨rfl,l1,h1,as',h,hq⟩
  exact(AkJ hg hX 1000 loc α l1 h1 h ρ σ cloc s l).mono λr ρ' α' σ' p ⟨e1,s1,e2,l'⟩=>by
   subst e1;rcases r with⟨fl,cl⟩
   subst e2;exact⟨.next,l1,as',s1,trivial,l',hq⟩
 case For =>
  rcases e with _ | ⟨_,_⟩
  ·refine At (Cx h) ?_;rintro e1 h;refine Sm.eq (x:=bnd (GB (fc ks cloc) Γ ks iter) λsrc=>if He target src=true then Iz Γ fc xc ks target b src Gz 0 cloc else Ar) (congrFun (if_pos e1) σ) ?_;refine Sm.bnd (X6 hH.gt hf h s l) λsrc ρ1 α1 σ1 p zz => ?_;rcases zz with⟨ts,as1,s1,sr,hfit,h1⟩
   rw[if_pos hfit];have hB:SJ E X (λt l a as Q=>IH f ks target (Vf t) l a as λl a as=>x b l a as Q) (λv loc=>bnd (GC Γ fc ks target v loc) λp=>xc b p.2):=λt v l a as Q ρ σ cl h s lr r =>
    Sm.bnd (Yg hH.gt hf h s lr r) λu ρ2 α2 σ2 p2 ⟨loc2,as2,s2,l2,h2⟩=>hX b loc2 α2 as2 Q h2 X ρ2 σ2 u.2 s2 l2
   have hl:=sr.le;have hb:ts.length<Gz:=by unfold Gz;exact UO hl
   rcases AkQ h1 with⟨l2,h2,as2,h1,hq⟩ | ⟨as2,h1⟩
   ·exact(AkH hB ts loc α1 l2 h2 h1 0 Gz ρ1 σ1 cloc hb rfl rfl s1 (l.stp p) sr).mono λr ρ' α' σ' p ⟨e1,s1,e2,l'⟩=>by
     subst e1;rcases r with⟨fl,cl⟩
     subst e2;exact⟨.next,l2,as2,s1,trivial,l',hq⟩
   ·exact AkI hB ts loc α1 _ h1 0 Gz ρ1 σ1 cloc hb rfl s1 (l.stp p) sr
  ·exact(h:False).elim
 all_goals exact h.elim
theorem AkS{S:AL->An->AH->List Al->(BS->An->AH->List Al->Prop)->Prop}{Sc:AL->Ao->CM (Bk×Ao)}(hS:∀st loc α as Q,S st loc α as Q->∀X ρ σ cloc,Au X ρ α σ->AW (Zx X ρ α) ρ σ cloc loc->Sm E ρ α σ (Sc st cloc) (PF X Q)):Pb E (Sh S) (KP Sc):=by
 intro body
 induction body with
 | nil=>intro loc α as Q h X ρ σ cloc s l;exact .ret ⟨.next,loc,as,s,trivial,l,h⟩
 | cons st r ih =>
  intro loc α as Q h X ρ σ cloc s l;refine Sm.bnd (hS st loc α as _ h X ρ σ cloc s l) λp ρ1 α1 σ1 st zz => ?_;rcases zz with⟨fl,l1,as1,s1,r1,lr1,h1⟩
  rcases p with⟨fc,cl1⟩
  rcases fl with _ | w
  ·rcases fc with _ | _
   ·exact ih l1 α1 as1 Q h1 X ρ1 σ1 cl1 s1 lr1
   ·exact r1.elim
  ·rcases fc with _ | c
   ·exact r1.elim
   ·exact .ret ⟨.ret w,l1,as1,s1,r1,lr1,h1⟩
theorem Yo(hH:ES E H Γ){N:Nat}:∀n,Pb E (II E H N ks n) (GD Γ (Bp Γ (N+1)).1 (Bp Γ (N+1)).2 ks n):=by
 intro z1
 induction z1 with
 | zero =>
  exact λz z z z z h=>h.elim
 | succ n ih =>
  exact AkS λst loc α as Q h X ρ σ cloc s l=>AkR hH (MJ hH (N+1)).1 (MJ hH N).1 (MJ hH (N+1)).2 (λz z z z z=>rfl) (ih) h s l
end
end
section
section
variable {E:CX->Prop}{X Z Z':Nat->Prop}{ρ:List Nat}{α:AH}{σ σ':CH}{n:Nat}{H:Hs}{Γ:AM}{ks:AD}{loc:An}{cloc:Ao}{as:List Al}
theorem Pd:∀{xs:List Ac} {vs:List CV} {ws:List W},Dj Z ρ σ vs ws->AW Z ρ σ (xs.zip vs) (xs.zip ws):=by
 intro z1
 induction z1 with
 | nil =>
  intro vs ws r;exact λx w h=>by rw[List.zip_nil_left]at h;(exfalso;injection h)
 | cons x xs ih =>
  intro z2;rcases z2 with _ | ⟨v,vs⟩
  ·intro z3;rcases z3 with _ | ⟨z4,z5⟩
   ·intro r;exact λy w h=>by rw[AoP]at h;(exfalso;injection h)
   ·intro r;exact r.elim
  ·intro z6;rcases z6 with _ | ⟨w,ws⟩
   ·intro r;exact r.elim
   ·intro r;exact λy u h hn=>by
      rw[Hz,BC]at h ⊢;rcases q:y == x with _ | _
      ·rw[q]at h;exact ih r.2 y u h hn
      ·rw[q]at h;(injection h with za;subst za);exact⟨v,rfl,r.1⟩
theorem AkT(F:BW K){f:Af}{D:C0}(h:MF f=some D):EJ K f=some D:=by
 unfold MF at h;rcases q:HC.lookup f with _ | p
 ·rw[q]at h;(exfalso;injection h)
 ·rw[q]at h;exact(F.def (F9 q)).trans h
theorem Pe(F:BW K){k:Nat}(hH:ES E H (BO K NL k)){f:Af}{vs:List V}{cs:List CV}{Q:Kq V}(h:K8 E H f vs α as Q)(s:Au X ρ α σ)(r:Bv (Zx X ρ α) ρ σ cs vs):Sm E ρ α σ (C9 (BO K NL (k+1)) f cs) (PV X Q):=by
 refine Ah (BE h) ?_;rintro D e h;refine Ah (BE h) ?_;rintro ws e2 h;refine At (Cx h) ?_;rintro e3 h;rw[A9]at e3;refine At (Yh e2 r) ?_;rintro rw_ hl;rw[AhG K NL k f cs (AkT F e)];unfold JD;rw[if_pos ⟨e3.1,by rw[hl];exact NS e3.2⟩]
 refine(Yo hH NL D.body _ α as _ h X ρ σ _ s (Pd rw_)).bnd λp ρ1 α1 σ1 st zz => ?_;rcases zz with⟨fl,l1,as1,s1,r1,lr1,h1⟩
 rcases p with⟨fc,cl1⟩
 rcases fl with _ | w
 ·rcases fc with _ | _
  ·exact .ret ⟨Vf .none,as1,s1,(TR.none:TR _ _ _ _),h1⟩
  ·exact r1.elim
 ·rcases fc with _ | c
  ·exact r1.elim
  ·exact .ret ⟨w,as1,s1,r1,h1⟩
theorem MK{x:CM CV}{vs:List V}{ts:List T}{r:T}{α':AH}{Q:Kq V}(hv:∀(Y:Nat->Prop) σ cs,(∀a,Y a->a<σ.length)->AA Y σ cs ts->True)(s:Au X ρ α σ)(e:Ga α vs=some (ts,α'))(hr:Bv (Zx X ρ α) ρ σ cs vs)
  (h:AA (Zx X ρ α') σ cs ts->(∀a,Zx X ρ α' a->a<σ.length)->∃v σ',x σ=.ok v σ'/\(∀(a:Nat) o,σ[a]? = some o->σ'[a]? = some o)/\TR (Zx X ρ α') σ' v r) (q:Q (Vf r) α' as):Sm E ρ α σ x (PV X Q):=by
 refine CZ (Sk e s hr) ?_;rintro s1 p t;have zlt:∀a,Zx X ρ α' a->a<σ.length:=λa z=>z.elim (s1.xlt a) λ⟨k,o,h1,_⟩=>s1.lt a (FU h1);refine Bm (h t zlt) ?_;rintro v σ' e1 kp tv;have hlen:σ.length<=σ'.length:=by
  refine PU λhlt => ?_;have e:σ[σ'.length]? = some σ[σ'.length]:=Cc hlt;exact BP _ (Hk (kp _ _ e))
 have p2:AT ρ α' σ ρ α' σ':=⟨hlen,λa o h y=>kp a o h,λy y h=>h,λy h=>.inl h⟩;refine .ok e1 (p.trans p2) ⟨Vf r,as,?_,tv,q⟩;exact⟨s1.len,s1.nd,λa h=>EX (s1.lt a h) hlen,s1.nx,λa h=>EX (s1.xlt a h) hlen,λk a o h1 h2=>(s1.ob k a o h1 h2).mono (λb ob hb n=>⟨kp b ob hb,n⟩) (λy y h=>h) λy=>by
  have hlt:=s1.lt a (FU h1);have e:σ[a]? = some σ[a]:=Cc hlt;rw[e];exact kp _ _ e⟩
theorem SK(F:BW K){k:Nat}(hH:ES (λz=>False) H (BO K NL k)){C:Af}{vs:List V}{cs:List CV}{Q:Kq V}(h:Bq (Gp.lookup C) λf=>K8 (λz=>False) H f (.w (.own α.length)::vs) (α++[.ins C []]) as λv α' as=>(match v with
    | .w (.fz .none)=>Q (.w (.own α.length)) α' as
    | _=>False)) (s:Au X ρ α σ) (r:Bv (Zx X ρ α) ρ σ cs vs):Sm E ρ α σ (newC (BO K NL (k+1)) C cs) (PV X Q):=by
 refine Ah (BE h) ?_;rintro f e h;have s1:=(s.lay (.inst C [])).own (ao:=.ins C []) (λq=>BP _ (s.xlt _ q)) ⟨[],O3 _,rfl,trivial⟩;have p1:AT ρ α σ (ρ++[σ.length]) (α++[.ins C []]) (σ++[.inst C []]):=(AT.lay _).own s.len (AK _);have ra:UR (Zx X (ρ++[σ.length]) (α++[.ins C []])) (ρ++[σ.length]) (σ++[.inst C []]) (.ref σ.length) (.w (.own α.length)):=⟨σ.length,Sn s.len _,rfl⟩;rcases(Pe F hH (cs:=.ref σ.length::cs) h s1 ⟨ra,r.stp p1⟩).out with⟨c,σ2,ρ2,α2,e2,p2,v,as2,s2,r2,h2⟩
 split at h2
 ·have r3:TR (Zx X ρ2 α2) σ2 c .none:=r2;rcases r3 with⟨⟩
  refine .ok (b:=.ref σ.length) ?_ (p1.trans p2) ⟨_,as2,s2,ra.stp p2,h2⟩;unfold newC;rw[WU,e];dsimp only;rw[e2]
 ·exact h2.elim
theorem ML(F:BW K){qt:Bool}(hE:qt=true->∀x,¬E x):∀k,ES E (Fb E qt k) (BO K NL k):=by
 have q:∀k,ES (λy=>False) (Fb (λy=>False) true k) (BO K NL k):=by
  intro k
  induction k with
  | zero=>exact⟨λy y h=>h,MH _ _ _,λy y y y y h=>h.elim,λy y y y y h=>h.elim⟩
  | succ k ih =>
   refine⟨λy y h=>h,MH _ _ _,λf vs α as Q h X ρ σ cs s r => ?_,λC vs α as Q h X ρ σ cs s r => ?_⟩
   ·match as,h with
    | .t t::as,h =>
     refine AE (BE h) ?_;rintro⟨ts,α'⟩ e h1 h2;exact MK (λy y y y y=>trivial) s e r (λt z=>h1 K F _ σ cs z t) h2
    | .go::as,h=>exact Pe F ih h s r
   ·match as,h with
    | .t t::as,h =>
     refine AE (BE h) ?_;rintro⟨ts,α'⟩ e h1 h2;exact MK (λy y y y y=>trivial) s e r (λt z=>h1 K F _ σ cs z t) h2
    | .go::as,h=>exact SK F ih h s r
 intro k
 induction k with
 | zero=>exact⟨hE,MH _ _ _,λy y y y y h=>h.elim,λy y y y y h=>h.elim⟩
 | succ k ih =>
  refine⟨hE,MH _ _ _,λf vs α as Q h X ρ σ cs s r => ?_,λC vs α as Q h X ρ σ cs s r => ?_⟩
  ·match as,h with
   | .t t::as,h =>
    refine AE (BE h) ?_;rintro⟨ts,α'⟩ e h1 h2;exact MK (λy y y y y=>trivial) s e r (λt z=>h1 K F _ σ cs z t) h2
   | .go::as,h=>exact Pe F ih h s r
  ·match as,h with
   | .t t::as,h =>
    refine AE (BE h) ?_;rintro⟨ts,α'⟩ e h1 h2;exact MK (λy y y y y=>trivial) s e r (λt z=>h1 K F _ σ cs z t) h2
   | .go::as,h=>exact SK F (q k) h s r
abbrev Dq:CX->Prop:=λz=>False
noncomputable def Fin(r:T):Kq V:=λv α z=>match IE α v with
 | some p=>p.1=r
 | none=>False
theorem kc{A B:Prop}(a:A)(h:A=B):B:=h▸a
theorem JV(hX:∀a,X a->a<σ.length):Au X [] [] σ:=⟨rfl,G1,nofun,nofun,hX,nofun⟩
theorem Pf:¬DY [] [] a:=λ⟨k,o,h,_⟩=>by(exfalso;injection h)
theorem zx0(h:Zx X [] [] a):X a:=h.elim id λh=>(Pf h).elim
theorem MM{ts:List T}(h:AA X σ cs ts):Bv (Zx X [] []) [] σ cs (ts.map Vf) :=
 AA.ind (P:=λcs ts=>Bv (Zx X [] []) [] σ cs (ts.map Vf)) trivial (λa z ih=>⟨TR.mono (λb o h n=>⟨h,λq=>n (zx0 q)⟩) a,ih⟩) h
theorem Yp{x:CM CV}{r:T}(hX:∀a,X a->a<σ.length)(h:Sm Dq [] [] σ x (PV X (Fin r))):∃v σ',x σ=.ok v σ'/\(∀(a:Nat) o,σ[a]? = some o->σ'[a]? = some o)/\TR X σ' v r:=by
 rcases h.out with⟨c,σ2,ρ2,α2,e2,p2,v,as2,s2,r2,h2⟩
 unfold Fin at h2;cases q:IE α2 v with
 | none=>rw[q]at h2;exact h2.elim
 | some p =>
 rw[q]at h2;rcases p with⟨t,α3⟩
 subst h2;refine CZ (OZ q s2 r2) ?_;rintro s3 p3 t;exact⟨c,σ2,e2,λa o h=>p2.keep a o h Pf,t.mono λb o h n=>⟨h,λq=>n (.inl q)⟩⟩
theorem Bs{k:Nat}{f:Af}{ts:List T}{r:T}(as:List Al)(h:K8 Dq (Fb Dq true k) f (ts.map Vf) [] as (Fin r)):VF (k+1) f ts r:=λK F X σ cs hX t=>Yp hX (Pe F (ML F (λz z h=>h) k) h (JV hX) (MM t))
theorem Lb{k:Nat}{ts:List T}{r:T}(as:List Al)(h:Bq (Gp.lookup C) λf=>K8 Dq (Fb Dq true k) f (.w (.own 0)::ts.map Vf) [.ins C []] as λv α' as=>(match v with
    | .w (.fz .none)=>Fin r (.w (.own 0)) α' as
    | _=>False)):VC (k+1) C ts r:=λK F X σ cs hX t=>Yp hX (SK (α:=[]) F (ML F (λz z h=>h) k) h (JV hX) (MM t))
end
end
theorem Pg(h:n<2):n=0\/n=1:=US h
theorem Lc(h:n<3):n=0\/n=1\/n=2:=UQ h
theorem Yq(h:n<4):n=0\/n=1\/n=2\/n=3:=AbC h
theorem lt5(h:n<5):n=0\/n=1\/n=2\/n=3\/n=4:=AbB h
noncomputable def p0:Pos:=⟨0,0,0,0⟩
noncomputable def xE:Expr:=.Name (Ab "") p0
noncomputable def atE(es:List Expr)(i:Nat):Expr:=match es[i]? with
 | some e=>e
 | none=>xE
noncomputable def AkU(e:Expr):List Expr:=if h:e.ctorIdx=16 then ZK (motive_1:=λz=>List Expr) e h λg es z z=>g::es else if h:e.ctorIdx=25 then ZL (motive_1:=λz=>List Expr) e h λes z z=>es else if h:e.ctorIdx=24 then Expr.List.elim (motive_1:=λz=>List Expr) e h λes z=>es else if h:e.ctorIdx=2 then Expr.BinOp.elim (motive_1:=λz=>List Expr) e h λa z b z=>[a,b]else if h:e.ctorIdx=15 then Expr.Compare.elim (motive_1:=λz=>List Expr) e h λa z es z=>a::es else if h:e.ctorIdx=5 then Expr.IfExp.elim (motive_1:=λz=>List Expr) e h λa b c z=>[a,b,c]else if h:e.ctorIdx=0 then Expr.BoolOp.elim (motive_1:=λz=>List Expr) e h λz es z=>es else[]
noncomputable def DE(e:Expr)(i:Nat):Expr:=if h:e.ctorIdx=8 then ZP (motive_1:=λz=>Expr) e h λe z z z=>e else atE (AkU e) i
noncomputable def BY(s:AL):Expr:=if h:s.ctorIdx=3 then ZN (motive_2:=λz=>Expr) s h λo z=>o.getD xE else if h:s.ctorIdx=5 then ZO (motive_2:=λz=>Expr) s h λz e z=>e else if h:s.ctorIdx=24 then ZM (motive_2:=λz=>Expr) s h λe z=>e else if h:s.ctorIdx=9 then Aa4 (motive_2:=λz=>Expr) s h λz e z z z=>e else if h:s.ctorIdx=12 then Stmt.If.elim (motive_2:=λz=>Expr) s h λe z z z=>e else if h:s.ctorIdx=11 then Aa5 (motive_2:=λz=>Expr) s h λe z z z=>e else xE
noncomputable def DS(s:AL):List AL:=if h:s.ctorIdx=9 then Aa4 (motive_2:=λz=>List AL) s h λz z b z z=>b else if h:s.ctorIdx=12 then Stmt.If.elim (motive_2:=λz=>List AL) s h λz b z z=>b else if h:s.ctorIdx=11 then Aa5 (motive_2:=λz=>List AL) s h λz b z z=>b else[]
noncomputable def SL(s:AL):Expr:=if h:s.ctorIdx=9 then Aa4 (motive_2:=λz=>Expr) s h λt z z z z=>t else if h:s.ctorIdx=11 then Aa5 (motive_2:=λz=>Expr) s h λt z z z=>t else xE
noncomputable def D5(b:List AL)(i:Nat):AL:=match b[i]? with
 | some s=>s
 | none=>.Pass p0
noncomputable def AP(f:Af)(i:Nat):AL:=match MF f with
 | some D=>D5 D.body i
 | none=>.Pass p0
noncomputable def MN(f:Af):AD:=match MF f with
 | some D=>D.scope.names
 | none=>[]
def cB(k n:Nat)(f:Af)(base:An)(α:AH)(e:Expr):T->List Al->(Option T->Prop)->Prop:=match e with
 | .ListComp elt [⟨target,iter,ifs,0⟩] scope _=>JN (DP (Fb Dq true k) n).1 (DP (Fb Dq true k) n).2 (Db (MN f) scope.names) base target elt ifs α
 | _=>λz z z=>False
def fB(k n:Nat)(f:Af)(s:AL)(t:T)(l:An)(a:AH)(as:List Al)(Q:BS->An->AH->List Al->Prop):Prop :=
 IH (DP (Fb Dq true k) 40).1 (MN f) (SL s) (Vf t) l a as λl a as=>II Dq (Fb Dq true k) 39 (MN f) n (DS s) l a as Q
theorem tr(α:A)(o:B):α=α/\o=o:=⟨rfl,rfl⟩
theorem HV{B:T->List Al->(Option T->Prop)->Prop}(en:A->T)(G:A->Option T):∀(xs:List A),(∀a,a∈xs->∃as,B (en a) as (λo=>o=G a))->Cu B (xs.map en) (xs.filterMap G):=by
 intro z1
 induction z1 with
 | nil =>
  intro z2;exact rfl
 | cons x xs ih =>
  intro h;refine AI (h x Dh) ?_;rintro as q;have r:=ih λa m=>h a (FO _ m);refine⟨as,G x,q,?_⟩;rw[AaR];rcases G x with _ | y
  ·exact r
  ·exact⟨_,rfl,r⟩
theorem C5{B:T->List Al->(Option T->Prop)->Prop}(en:A->T)(G:A->T):∀(xs:List A),(∀a,a∈xs->∃as,B (en a) as (λo=>o=some (G a)))->Cu B (xs.map en) (xs.map G):=by
 intro z1
 induction z1 with
 | nil =>
  intro z2;exact rfl
 | cons x xs ih =>
  intro h;refine AI (h x Dh) ?_;rintro as q;exact⟨as,some (G x),q,_,rfl,ih λa m=>h a (FO _ m)⟩
set_option tactic.hygienic true in
theorem De{B:T->An->AH->List Al->(BS->An->AH->List Al->Prop)->Prop}{ks:List Ac}(en:A->T)(L:List A->An)(S:List A->AH)(xs w:List A)
  (h:∀ys a zs,ys++a::zs=xs->∃as,B (en a) (L ys) (S ys) as (λfl l2 a2 z=>fl=.next/\JQ n ks l2=L (ys++[a])/\Ep n a2=S (ys++[a])/\n<=a2.length)) :
  ∀ys zs,ys++zs=xs->BX B n ks (zs.map en) (L ys) (S ys) (L xs) (S xs):=by
 intro ys zs
 induction zs generalizing ys with
 | nil =>
  intro e;rw[Dn]at e;subst e;exact⟨rfl,rfl⟩
 | cons a zs ih =>
  intro e;refine AI (h ys a zs e) ?_;rintro as q;exact⟨as,_,_,q,ih (ys++[a]) (by rw[FQ];exact e)⟩
noncomputable def nm(xs:List String):List Ac:=xs.map Ab
noncomputable def Et(xs:List String)(ts:List T):An:=(nm xs).zip (ts.map .fz)
inductive AX where
 | call (t:Bool) (n:Nat)
 | rf (n:Nat)
 | drop
 | con (n:Nat)
 | nul
 | fin
noncomputable abbrev Ax(ts:List T):T:=.node .tup ts
noncomputable abbrev Ak(ts:List T):T:=.node .lst ts
noncomputable abbrev Ag(n:Nat):T:=.int n
noncomputable abbrev Ai(xs:List Nat):List T:=xs.map Ag
noncomputable def sT(x:String):T:=.str (Ab x)
noncomputable def Bt:AX->T
 | .call true n=>Ax [.int 18,Ag n]
 | .call false n=>Ax [.int 16,Ag n]
 | .rf n=>Ax [.int 210,Ag n]
 | .drop=>Ax [.int 26]
 | .con n=>Ax [.int 65,Ag n]
 | .nul=>Ax [.int 208,.int (-16)]
 | .fin=>Ax [.int 11]
noncomputable def AU(b:List AX):T:=Ak (b.map Bt)
inductive Df where
 | f (k:Nat)
 | g
structure CP where
 kind:Nat
 body:List AX
structure CQ where
 mu:Nat
 body:List AX
inductive MO where
 | m0 | m1 | m2
structure Cn where
 mode:MO
 inits:List (List AX)
inductive Cz where
 | f (x:Ac) (i:Nat)
 | m (x:Ac)
structure Mod where
 kinds:List Bool
 imports:List Df
 funcs:List CP
 globs:List CQ
 exps:List Cz
 start:Option Nat
 elems:List Cn
variable {m:Mod}
noncomputable def Ph(ts:List T):T:=.node (.ins 563 (nm ["place","name","sort","about"])) ts
noncomputable def IK(ts:List T):T:=.node (.ins 591 (nm ["kind","locals","body"])) ts
noncomputable def MP(ts:List T):T:=.node (.ins 619 (nm ["kind","mutable","body"])) ts
noncomputable def SM(ts:List T):T:=.node (.ins 645 (nm ["mode","table","offset","kind","inits"])) ts
noncomputable def AkV(ts:List T):T:=.node (.ins 810 (nm ["kinds","imports","funcs","tables","memories","globals","exports","start","elems","datas","customs"])) ts
noncomputable def MQ(ts:List T):T:=.node (.ins 411 (nm ["kinds","funcs","tables","memories","globals","elems","datas","declared"])) ts
noncomputable def Hn:T:=Ax [.int (-16),.int 0]
noncomputable def Bw:Df->T
 | .f k=>Ph [sT "h",sT "f",.int 0,Ag k]
 | .g=>Ph [sT "h",sT "g",.int 3,Hn]
noncomputable def Bi(f:CP):T:=IK [Ag f.kind,Ax [],AU f.body]
noncomputable def BI(g:CQ):T:=MP [.int (-16),Ag g.mu,AU g.body]
noncomputable def MR:MO->T
 | .m0=>.int 0
 | .m1=>.int 1
 | .m2=>.int 2
noncomputable def ET:MO->T
 | .m1=>AU [.con 3,.fin]
 | _=>.none
noncomputable def Be(e:Cn):T:=SM [MR e.mode,.int 0,ET e.mode,.int (-16),Ak (e.inits.map AU)]
noncomputable def Ci:Cz->T
 | .f x i=>Ax [.str x,.int 0,Ag i]
 | .m x=>Ax [.str x,.int 2,.int 0]
noncomputable def A8:Bool->T
 | false=>Ax [Ax [],Ax []]
 | true=>Ax [Ax [.int (-1)],Ax [.int (-1)]]
noncomputable def DT:Option Nat->T
 | none=>.none
 | some n=>Ag n
noncomputable def D6:T:=Ax [.int (-16),.int 9,.none]
noncomputable def D7:T:=Ax [.int 1,.none]
noncomputable def BZ(m:Mod):T:=AkV [Ak (m.kinds.map A8),Ak (m.imports.map Bw),Ak (m.funcs.map Bi),Ak [D6],Ak [D7],Ak (m.globs.map BI),Ak (m.exps.map Ci),DT m.start,Ak (m.elems.map Be),Ak [],Ak []]
theorem Ld(k:Nat)(a b c d:T):VC (k+1) 563 [a,b,c,d] (Ph [a,b,c,d]):=Lb [] (kc (Bd (Ph [a,b,c,d])) (by kernel_rfl))
theorem Pi(k:Nat)(a b c:T):VC (k+1) 591 [a,b,c] (IK [a,b,c]):=Lb [] (kc (Bd (IK [a,b,c])) (by kernel_rfl))
theorem Pj(k:Nat)(a b c:T):VC (k+1) 619 [a,b,c] (MP [a,b,c]):=Lb [] (kc (Bd (MP [a,b,c])) (by kernel_rfl))
theorem SN(k:Nat)(a b c d e:T):VC (k+1) 645 [a,b,c,d,e] (SM [a,b,c,d,e]):=Lb [] (kc (Bd (SM [a,b,c,d,e])) (by kernel_rfl))
theorem AkW(k:Nat)(a b c d e f g h:T):VC (k+1) 411 [a,b,c,d,e,f,g,h] (MQ [a,b,c,d,e,f,g,h]):=Lb [] (kc (Bd (MQ [a,b,c,d,e,f,g,h])) (by kernel_rfl))
noncomputable def Df.k:Df->Option Nat
 | .f j=>some j
 | .g=>none
noncomputable def Df.gl:Df->Option T
 | .f _=>none
 | .g=>some Hn
noncomputable def Mod.ik(m:Mod):List T:=m.imports.filterMap λi=>i.k.map Ag
noncomputable def Mod.iks(m:Mod):List Nat:=m.imports.filterMap Df.k
theorem Mod.ik_eq(m:Mod):m.ik=Ai m.iks:=Ur.symm
noncomputable def Mod.ig(m:Mod):List T:=m.imports.filterMap Df.gl
theorem Yr(k:Nat)(m:Mod):VF (k+1) 731 [BZ m,.int 0] (Ak m.ik) :=
 Bs [.l m.ik] (kc (Ae (HV (B:=cB k 39 731 (Et ["sort"] [.int 0]) [] (BY (AP 731 0))) Bw (λi=>i.k.map Ag) m.imports λa z=>by
  rcases a with j | _
  ·exact⟨[],kc (tr ([]:AH) (some (Ag j))) (by kernel_rfl)⟩
  ·exact⟨[],kc (tr ([]:AH) (none:Option T)) (by kernel_rfl)⟩) (Bd (Ak m.ik))) (by kernel_rfl))
theorem Ys(k:Nat)(m:Mod)(s:Int)(hs:s=1\/s=2):VF (k+1) 731 [BZ m,.int s] (Ak []):=by
 have e:m.imports.filterMap (λz=>(none:Option T))=[]:=by induction m.imports with
  | nil=>rfl
  | cons a r ih=>exact ih
 rcases hs with rfl | rfl
 ·exact Bs [.l (m.imports.filterMap λz=>none)] (kc (Ae (HV (B:=cB k 39 731 (Et ["sort"] [.int 1]) [] (BY (AP 731 0))) Bw (λz=>none) m.imports λa z=>by rcases a with⟨⟩<;>exact⟨[],kc (tr ([]:AH) (none:Option T)) (by kernel_rfl)⟩) (congrArg Ak e)) (by kernel_rfl))
 ·exact Bs [.l (m.imports.filterMap λz=>none)] (kc (Ae (HV (B:=cB k 39 731 (Et ["sort"] [.int 2]) [] (BY (AP 731 0))) Bw (λz=>none) m.imports λa z=>by rcases a with⟨⟩<;>exact⟨[],kc (tr ([]:AH) (none:Option T)) (by kernel_rfl)⟩) (congrArg Ak e)) (by kernel_rfl))
theorem AkX(k:Nat)(m:Mod):VF (k+1) 731 [BZ m,.int 3] (Ak m.ig) :=
 Bs [.l m.ig] (kc (Ae (HV (B:=cB k 39 731 (Et ["sort"] [.int 3]) [] (BY (AP 731 0))) Bw Df.gl m.imports λa z=>by
  rcases a with j | _
  ·exact⟨[],kc (tr ([]:AH) (none:Option T)) (by kernel_rfl)⟩
  ·exact⟨[],kc (tr ([]:AH) (some Hn)) (by kernel_rfl)⟩) (Bd (Ak m.ig))) (by kernel_rfl))
noncomputable def Fc(b:List AX):T:=Ax (b.map Bt)
noncomputable def Gg:Df->T
 | .f k=>Ax [sT "h",sT "f",.int 0,Ag k]
 | .g=>Ax [sT "h",sT "g",.int 3,Hn]
noncomputable def HW(f:CP):T:=Ax [Ag f.kind,Ax [],Fc f.body]
noncomputable def HX(g:CQ):T:=Ax [.int (-16),Ag g.mu,Fc g.body]
noncomputable def Yt:MO->T
 | .m1=>Fc [.con 3,.fin]
 | _=>.none
noncomputable def GG(e:Cn):T:=Ax [MR e.mode,.int 0,Yt e.mode,.int (-16),Ax (e.inits.map Fc)]
theorem AkY(k:Nat)(i:Df):VF (k+1) 560 [Bw i] (Gg i):=by
 rcases i with j | _
 ·exact Bs [] (kc (Bd (Gg (.f j))) (by kernel_rfl))
 ·exact Bs [] (kc (Bd (Gg .g)) (by kernel_rfl))
theorem AkZ(k:Nat)(f:CP):VF (k+1) 588 [Bi f] (HW f):=Bs [] (kc (Bd (HW f)) (by kernel_rfl))
theorem Ak0(k:Nat)(f:CQ):VF (k+1) 616 [BI f] (HX f):=Bs [] (kc (Bd (HX f)) (by kernel_rfl))
theorem Ak1(k:Nat)(e:Cn):VF (k+1) 642 [Be e] (GG e):=by
 rcases e with⟨mo,bs⟩
 have c:=C5 (B:=cB k 37 642 [] [] (DE (DE (BY (AP 642 1)) 4) 1)) AU Fc bs λa z=>⟨[],kc (tr ([]:AH) (some (Fc a))) (by kernel_rfl)⟩
 rcases mo with _ | _ | _
 ·exact Bs [.a,.l (bs.map Fc)] (kc (Ae c (Bd (GG ⟨.m0,bs⟩))) (by kernel_rfl))
 ·exact Bs [.a,.l (bs.map Fc)] (kc (Ae c (Bd (GG ⟨.m1,bs⟩))) (by kernel_rfl))
 ·exact Bs [.a,.l (bs.map Fc)] (kc (Ae c (Bd (GG ⟨.m2,bs⟩))) (by kernel_rfl))
theorem MS(k:Nat)(en pl:A->T)(xs:List A)(h:∀a,a∈xs->∃as,cB (k+1) 38 819 [] [] (DE (BY (AP 819 0)) 1) (en a) as (λo=>o=some (pl a))):VF (k+2) 819 [Ak (xs.map en)] (Ax (xs.map pl)) :=
 Bs [.l (xs.map pl)] (kc (Ae (C5 en pl xs h) (Bd (Ax (xs.map pl)))) (by kernel_rfl))
theorem Ak2(k:Nat)(xs:List Df):VF (k+2) 819 [Ak (xs.map Bw)] (Ax (xs.map Gg)):=MS k _ _ _ λa z=>by
 have v:=AkY k a;rcases a with j | _
 ·exact⟨[.t (Gg (.f j))],kc (Ae v (tr ([]:AH) (some (Gg (.f j))))) (by kernel_rfl)⟩
 ·exact⟨[.t (Gg .g)],kc (Ae v (tr ([]:AH) (some (Gg .g)))) (by kernel_rfl)⟩
theorem Ak3(k:Nat)(xs:List CP):VF (k+2) 819 [Ak (xs.map Bi)] (Ax (xs.map HW)):=MS k _ _ _ λa z=>⟨[.t (HW a)],kc (Ae (AkZ k a) (tr ([]:AH) (some (HW a)))) (by kernel_rfl)⟩
theorem Ak4(k:Nat)(xs:List CQ):VF (k+2) 819 [Ak (xs.map BI)] (Ax (xs.map HX)):=MS k _ _ _ λa z=>⟨[.t (HX a)],kc (Ae (Ak0 k a) (tr ([]:AH) (some (HX a)))) (by kernel_rfl)⟩
theorem Ak5(k:Nat)(xs:List Cn):VF (k+2) 819 [Ak (xs.map Be)] (Ax (xs.map GG)):=MS k _ _ _ λa z=>⟨[.t (GG a)],kc (Ae (Ak1 k a) (tr ([]:AH) (some (GG a)))) (by kernel_rfl)⟩
theorem Yu(k:Nat):VF (k+2) 819 [Ak []] (Ax []):=MS k id id [] λz h=>nomatch h
noncomputable def IL(m:Mod):T:=Ax [Ax (m.kinds.map A8),Ax (m.imports.map Gg),Ax (m.funcs.map HW),Ax [D6],Ax [D7],Ax (m.globs.map HX),Ax (m.exps.map Ci),DT m.start,Ax (m.elems.map GG),Ax [],Ax []]
theorem Yv(k:Nat)(m:Mod):VF (k+3) 790 [BZ m] (IL m) :=
 Bs [.t (Ax (m.imports.map Gg)),.t (Ax (m.funcs.map HW)),.t (Ax (m.globs.map HX)),.t (Ax (m.elems.map GG)),.t (Ax []),.t (Ax [])]
  (kc (Ae (Ak2 k m.imports) (Ae (Ak3 k m.funcs) (Ae (Ak4 k m.globs) (Ae (Ak5 k m.elems) (Ae (Yu k) (Ae (Yu k) (Bd (IL m)))))))) (by kernel_rfl))
structure Mod.Sz(m:Mod):Prop where
 kinds:m.kinds.length<=3
 imps:m.imports.length<=3
 funcs:m.funcs.length<=4
 globs:m.globs.length<=3
 exps:m.exps.length<=3
 elems:m.elems.length<=3
 gb:∀g,g∈m.globs->g.body.length<=2
 ei:∀e,e∈m.elems->e.inits.length<=3
 eb:∀e,e∈m.elems->∀b,b∈e.inits->b.length<=2
 fb:∀f,f∈m.funcs->f.body.length<=7
theorem B4(h:n<=4000):some (small n)=some true:=congrArg some (decide_eq_true h)
theorem Pk(f:A->Option B):∀xs:List A,(xs.filterMap f).length<=xs.length:=List.length_filterMap_le f
theorem Mod.ik_len(m:Mod):m.ik.length<=m.imports.length:=Pk _ _
theorem Mod.ig_len(m:Mod):m.ig.length<=m.imports.length:=Pk _ _
theorem Yw(k:Nat)(m:Mod):VF (k+2) 726 [BZ m,.int 0] (Ag m.ik.length):=Bs [.t (Ak m.ik)] (kc (Ae (Yr k m) (Bd (Ag m.ik.length))) (by kernel_rfl))
noncomputable def Mod.fk(m:Mod):List T:=m.funcs.map λf=>Ag f.kind
noncomputable def Mod.gk(m:Mod):List T:=m.globs.map λg=>Ax [.int (-16),Ag g.mu]
theorem Ak6(k:Nat)(m:Mod)(z:m.Sz):VF (k+2) 736 [BZ m] (Ak (m.ik++m.fk)) :=
 Bs [.t (Ak m.ik),.l m.fk,.b true] (kc (Ae (Yr k m) (Ae (C5 (B:=cB (k+1) 38 736 [] [] (DE (BY (AP 736 0)) 1)) Bi (λf=>Ag f.kind) m.funcs λa q=>⟨[],kc (tr ([]:AH) (some (Ag a.kind))) (by kernel_rfl)⟩) (Ae (B4 (n:=m.ik.length+m.fk.length) (by
  have:=m.ik_len;have:=z.imps;have:=z.funcs;unfold Mod.fk;rw[AG];omega)) (Bd (Ak (m.ik++m.fk)))))) (by kernel_rfl))
theorem Ak7(k:Nat)(m:Mod):VF (k+2) 743 [BZ m] (Ak [D6]):=Bs [.t (Ak [])] (kc (Ae (Ys k m 1 (.inl rfl)) (Bd (Ak [D6]))) (by kernel_rfl))
theorem Ak8(k:Nat)(m:Mod):VF (k+2) 750 [BZ m] (Ak [D7]):=Bs [.t (Ak [])] (kc (Ae (Ys k m 2 (.inr rfl)) (Bd (Ak [D7]))) (by kernel_rfl))
theorem Ak9(k:Nat)(m:Mod)(z:m.Sz):VF (k+2) 755 [BZ m] (Ak (m.ig++m.gk)) :=
 Bs [.t (Ak m.ig),.l m.gk,.b true] (kc (Ae (AkX k m) (Ae (C5 (B:=cB (k+1) 38 755 [] [] (DE (BY (AP 755 0)) 1)) BI (λg=>Ax [.int (-16),Ag g.mu]) m.globs λa q=>⟨[],kc (tr ([]:AH) (some (Ax [.int (-16),Ag a.mu]))) (by kernel_rfl)⟩) (Ae (B4 (n:=m.ig.length+m.gk.length) (by
  have:=m.ig_len;have:=z.imps;have:=z.globs;unfold Mod.gk;rw[AG];omega)) (Bd (Ak (m.ig++m.gk)))))) (by kernel_rfl))
noncomputable def AX.rfs:AX->List Nat
 | .rf n=>[n]
 | _=>[]
noncomputable def AX.fns:AX->Option Nat
 | .call _ n=>some n
 | .rf n=>some n
 | _=>none
noncomputable def Ca(b:List AX):List Nat:=b.flatMap AX.rfs
noncomputable def Bb(b:List AX):List Nat:=b.filterMap AX.fns
noncomputable def Cz.idx:Cz->List Nat
 | .f _ i=>[i]
 | .m _=>[]
noncomputable def note(es:List (Int×T))(ns:List Nat):List (Int×T):=ns.foldl (λ(es:List (Int×T)) (n:Nat)=>Cg es (n:Int) (.bool true)) es
theorem IM(es:List (Int×T))(a b:List Nat):note es (a++b)=note (note es a) b:=NK
theorem Pl(k:Nat)(b:List AX):VF (k+1) 855 [AU b] (Ak ((Bb b).map Ag)):=by
 have e:(Bb b).map Ag=b.filterMap (λi=>i.fns.map Ag):=Ur;rw[e];exact Bs [.l (b.filterMap λi=>i.fns.map Ag)] (kc (Ae (HV (B:=cB k 39 855 [] [] (BY (AP 855 0))) Bt (λi=>i.fns.map Ag) b λa z=>by
  rcases a with⟨t,n⟩ | n | _ | n | _ | _
  ·rcases t with⟨⟩<;>exact⟨[],kc (tr ([]:AH) (some (Ag n))) (by kernel_rfl)⟩
  ·exact⟨[],kc (tr ([]:AH) (some (Ag n))) (by kernel_rfl)⟩
  ·exact⟨[],kc (tr ([]:AH) (none:Option T)) (by kernel_rfl)⟩
  ·exact⟨[],kc (tr ([]:AH) (none:Option T)) (by kernel_rfl)⟩
  ·exact⟨[],kc (tr ([]:AH) (none:Option T)) (by kernel_rfl)⟩
  ·exact⟨[],kc (tr ([]:AH) (none:Option T)) (by kernel_rfl)⟩) (Bd (Ak (b.filterMap λi=>i.fns.map Ag)))) (by kernel_rfl))
set_option tactic.hygienic true in
theorem f4{L:An}{S S':AH}(n:Nat)(h:S=S')(hn:n<=S.length):BS.next=.next/\L=L/\S=S'/\n<=S.length:=⟨rfl,rfl,h,hn⟩
theorem Ala(es:List (Int×T))(k:Int)(v:T):(Cg es k v).length<=es.length+1:=by
 unfold Cg
 split
 ·rw[AG];exact U6
 ·rw[Bg];exact AK _
theorem JW:∀(ns:List Nat) (es:List (Int×T)),(note es ns).length<=es.length+ns.length:=by
 intro z1
 induction z1 with
 | nil =>
  intro es;exact AK _
 | cons n ns ih =>
  intro es;exact AC (ih (Cg es n (.bool true))) (by
    have:=Ala es n (.bool true);rw[BH];exact U5 this)
theorem IN:∀b:List AX,(Ca b).length<=b.length:=by
 intro z1
 induction z1 with
 | nil =>
  exact AK _
 | cons i b ih =>
  have:=ih;unfold Ca at this ⊢;rw[NT,Bg,BH];rcases i with⟨⟩<;>simp only[AX.rfs,DL,BH]<;>omega
theorem Yx(a b:List AX):Ca (a++b)=Ca a++Ca b:=Qf
noncomputable abbrev Gh(b:List AX):An:=[(Ab "found",.own 0),(Ab "body",.fz (AU b))]
theorem Yy(k:Nat)(es:List (Int×T))(b:List AX)(hs:es.length+b.length<=4000):BX (fB k 39 838 (AP 838 0)) 1 (nm ["found","body"]) (b.map Bt) (Gh b) [.dct es] (Gh b) [.dct (note es (Ca b))] :=
 De Bt (λz=>Gh b) (λys=>[.dct (note es (Ca ys))]) b b (λys a zs e=>by
  have st:∀n,note es (Ca (ys++[AX.rf n]))=Cg (note es (Ca ys)) n (.bool true):=λn=>by rw[Yx,IM];rfl
  have nst:∀i:AX,i.rfs=[]->note es (Ca (ys++[i]))=note es (Ca ys):=λi h=>by
   rw[Yx,IM];unfold Ca;rw[NT,h];rfl
  have no:∀i:AX,i.rfs=[]->[AO.dct (note es (Ca ys))]=[AO.dct (note es (Ca (ys++[i])))]:=λi h=>by rw[nst i h]
  rcases a with⟨t,n⟩ | n | _ | n | _ | _
  ·rcases t with _ | _
   ·exact⟨[],kc (f4 (L:=Gh b) 1 (no (.call false n) rfl) (AK 1)) (by kernel_rfl)⟩
   ·exact⟨[],kc (f4 (L:=Gh b) 1 (no (.call true n) rfl) (AK 1)) (by kernel_rfl)⟩
  ·have hl:(note es (Ca ys)).length<=4000:=by
    have h1:=JW (Ca ys) es;have h2:=IN ys;have h3:=congrArg Ib e;rw[Bg]at h3;exact AcO hs h1 h2 h3
   exact⟨[.a,.a,.b true],kc (Ae (B4 hl) (f4 (L:=Gh b) 1 (congrArg (λd=>[AO.dct d]) (st n).symm) (AK 1))) (by kernel_rfl)⟩
  ·exact⟨[],kc (f4 (L:=Gh b) 1 (no .drop rfl) (AK 1)) (by kernel_rfl)⟩
  ·exact⟨[],kc (f4 (L:=Gh b) 1 (no (.con n) rfl) (AK 1)) (by kernel_rfl)⟩
  ·exact⟨[],kc (f4 (L:=Gh b) 1 (no .nul rfl) (AK 1)) (by kernel_rfl)⟩
  ·exact⟨[],kc (f4 (L:=Gh b) 1 (no .fin rfl) (AK 1)) (by kernel_rfl)⟩) [] b rfl
theorem Dw(f:A->List B)(c:Nat):∀xs:List A,(∀x,x∈xs->(f x).length<=c)->(xs.flatMap f).length<=c*xs.length:=by
 intro z1
 induction z1 with
 | nil =>
  intro z2;exact AK _
 | cons x xs ih =>
  intro h;have h1:=ih λy m=>h y (FO _ m);have h2:=h x Dh;rw[NT,Bg,BH,Nat.mul_succ];exact AcN h1 h2
noncomputable def AV(xs:List Cz):List Nat:=xs.flatMap Cz.idx
noncomputable def By(gs:List CQ):List Nat:=gs.flatMap λg=>Ca g.body
noncomputable def C3(bs:List (List AX)):List Nat:=bs.flatMap Ca
noncomputable def BN(es:List Cn):List Nat:=es.flatMap λe=>C3 e.inits
noncomputable def Mod.decl(m:Mod):List Nat:=AV m.exps++By m.globs++BN m.elems
noncomputable def Fd(m:Mod):List (Int×T):=note [] m.decl
theorem Le(xs:List Cz):(AV xs).length<=1*xs.length:=Dw _ 1 xs λx z=>by rcases x with⟨⟩<;>simp[Cz.idx]
theorem GH(f:A->List B)(xs:List A)(a:A):(xs++[a]).flatMap f=xs.flatMap f++f a:=by
 rw[Qf,NT,List.flatMap_nil,Dn]
theorem Eu{ys zs xs:List A}{a:A}(e:ys++a::zs=xs):ys.length<xs.length:=by
 rw[<- e,Bg,BH];exact AcM
theorem D8{ys zs xs:List A}{a:A}(e:ys++a::zs=xs):a∈xs:=e▸Cv _ Dh
theorem IO{ys zs xs:List A}(e:ys++zs=xs){a:A}(h:a∈ys):a∈xs:=e▸Cb _ h
noncomputable abbrev Ev(m:Mod):An:=[(Ab "module",.fz (BZ m)),(Ab "found",.own 0)]
noncomputable abbrev SO:List Ac:=nm ["module","found"]
theorem Alb(k:Nat)(m:Mod)(z:m.Sz):BX (fB (k+1) 39 845 (AP 845 1)) 1 SO (m.exps.map Ci) (Ev m) [.dct []] (Ev m) [.dct (note [] (AV m.exps))] :=
 De Ci (λq=>Ev m) (λys=>[.dct (note [] (AV ys))]) m.exps m.exps (λys a zs e=>by
  have st:note [] (AV (ys++[a]))=note (note [] (AV ys)) a.idx:=by unfold AV;rw[GH,IM]
  rcases a with⟨x,i⟩ | x
  ·have hl:(note [] (AV ys)).length<=4000:=by
    have h1:=JW (AV ys) [];have h2:=Le ys;have h3:=Eu e;have h4:=z.exps;simp only[DL]at h1;exact AcL h1 h2 h3 h4
   exact⟨[.a,.b true],kc (Ae (B4 hl) (f4 (L:=Ev m) 1 (congrArg (λd=>[AO.dct d]) st.symm) (AK 1))) (by kernel_rfl)⟩
  ·exact⟨[],kc (f4 (L:=Ev m) 1 (congrArg (λd=>[AO.dct d]) st.symm) (AK 1)) (by kernel_rfl)⟩) [] m.exps rfl
theorem Alc(k:Nat)(m:Mod)(z:m.Sz)(es:List (Int×T))(hs:es.length<=100):BX (fB (k+1) 39 845 (AP 845 2)) 1 SO (m.globs.map BI) (Ev m) [.dct es] (Ev m) [.dct (note es (By m.globs))] :=
 De BI (λq=>Ev m) (λys=>[.dct (note es (By ys))]) m.globs m.globs (λys a zs e=>by
  have st:note es (By (ys++[a]))=note (note es (By ys)) (Ca a.body):=by unfold By;rw[GH,IM]
  have hl:(note es (By ys)).length+a.body.length<=4000:=by
   have h1:=JW (By ys) es;have h2:(By ys).length<=2*ys.length:=Dw _ 2 ys λg h=>AC (IN _) (z.gb g (IO e h));have h3:=Eu e;have h4:=z.globs;have h5:=z.gb a (D8 e);exact AcK hs h1 h2 h3 h4 h5
  exact⟨[.go,.st (Gh a.body) [.dct (note (note es (By ys)) (Ca a.body))]],kc (Ae (Yy k _ a.body hl) (f4 (L:=Ev m) 1 (congrArg (λd=>[AO.dct d]) st.symm) (AK 1))) (by kernel_rfl)⟩) [] m.globs rfl
noncomputable abbrev JX(m:Mod)(e:Cn):An:=[(Ab "module",.fz (BZ m)),(Ab "found",.own 0),(Ab "elem",.fz (Be e))]
noncomputable abbrev Ald:List Ac:=nm ["module","found","elem"]
theorem Ale(k:Nat)(m:Mod)(mo:Cn)(bs:List (List AX))(es:List (Int×T))(hs:es.length<=1000)(h3:bs.length<=3)(h2:∀b,b∈bs->b.length<=2) :
  BX (fB (k+1) 38 845 (D5 (DS (AP 845 3)) 0)) 1 Ald (bs.map AU) (JX m mo) [.dct es] (JX m mo) [.dct (note es (C3 bs))] :=
 De AU (λz=>JX m mo) (λys=>[.dct (note es (C3 ys))]) bs bs (λys a zs e=>by
  have st:note es (C3 (ys++[a]))=note (note es (C3 ys)) (Ca a):=by unfold C3;rw[GH,IM]
  have hl:(note es (C3 ys)).length+a.length<=4000:=by
   have g1:=JW (C3 ys) es;have g2:(C3 ys).length<=2*ys.length:=Dw _ 2 ys λg h=>AC (IN _) (h2 g (IO e h));have g3:=Eu e;have g5:=h2 a (D8 e);exact AcJ hs h3 g1 g2 g3 g5
  exact⟨[.go,.st (Gh a) [.dct (note (note es (C3 ys)) (Ca a))]],kc (Ae (Yy k _ a hl) (f4 (L:=JX m mo) 1 (congrArg (λd=>[AO.dct d]) st.symm) (AK 1))) (by kernel_rfl)⟩) [] bs rfl
theorem Alf(k:Nat)(m:Mod)(z:m.Sz)(es:List (Int×T))(hs:es.length<=100):BX (fB (k+1) 39 845 (AP 845 3)) 1 SO (m.elems.map Be) (Ev m) [.dct es] (Ev m) [.dct (note es (BN m.elems))] :=
 De Be (λx=>Ev m) (λys=>[.dct (note es (BN ys))]) m.elems m.elems (λys a zs e=>by
  have st:note es (BN (ys++[a]))=note (note es (BN ys)) (C3 a.inits):=by unfold BN;rw[GH,IM]
  have hl:(note es (BN ys)).length<=1000:=by
   have h1:=JW (BN ys) es;have h2:(BN ys).length<=6*ys.length:=Dw _ 6 ys λg h=>by
    have q:(C3 g.inits).length<=2*g.inits.length:=Dw _ 2 g.inits λb hb=>AC (IN _) (z.eb g (IO e h) b hb);have q2:=z.ei g (IO e h);exact N6 q q2
   have h3:=Eu e;have h4:=z.elems;exact AcI hs h1 h2 h3 h4
  have c:=Ale k m a a.inits _ hl (z.ei a (D8 e)) (z.eb a (D8 e));rcases a with⟨mo,bs⟩
  have fin:=f4 (L:=Ev m) 1 (congrArg (λd=>[AO.dct d]) st.symm) (AK 1);rcases mo with _ | _ | _
  ·exact⟨[.st (JX m ⟨.m0,bs⟩) [.dct (note (note es (BN ys)) (C3 bs))]],kc (Ae c fin) (by kernel_rfl)⟩
  ·exact⟨[.st (JX m ⟨.m1,bs⟩) [.dct (note (note es (BN ys)) (C3 bs))],.a,.go],kc (Ae c fin) (by kernel_rfl)⟩
  ·exact⟨[.st (JX m ⟨.m2,bs⟩) [.dct (note (note es (BN ys)) (C3 bs))]],kc (Ae c fin) (by kernel_rfl)⟩) [] m.elems rfl
noncomputable def Dx(es:List (Int×T)):T:=.node (.dct (es.map (·.1))) (es.map (·.2))
theorem Alg(k:Nat)(m:Mod)(z:m.Sz):VF (k+2) 845 [BZ m] (Dx (Fd m)):=by
 have h1:=JW (AV m.exps) [];have h2:=Le m.exps;have h3:=JW (By m.globs) (note [] (AV m.exps));have h4:(By m.globs).length<=2*m.globs.length:=Dw _ 2 m.globs λg h=>AC (IN _) (z.gb g h);have h5:=z.exps;have h6:=z.globs;simp only[DL]at h1;have e:note (note (note [] (AV m.exps)) (By m.globs)) (BN m.elems)=Fd m:=by
  unfold Fd Mod.decl;rw[IM,IM]
 exact Bs [.st (Ev m) [.dct (note [] (AV m.exps))],.st (Ev m) [.dct (note (note [] (AV m.exps)) (By m.globs))],.st (Ev m) [.dct (note (note (note [] (AV m.exps)) (By m.globs)) (BN m.elems))]]
  (kc (Ae (Alb k m z) (Ae (Alc k m z (note [] (AV m.exps)) (AcH h1 h2 h5)) (Ae (Alf k m z (note (note [] (AV m.exps)) (By m.globs)) (AcG h1 h2 h3 h4 h5 h6)) (congrArg Dx e)))) (by kernel_rfl))
noncomputable def HY(m:Mod):T:=MQ [Ak (m.kinds.map A8),Ak (m.ik++m.fk),Ak [D6],Ak [D7],Ak (m.ig++m.gk),Ak (m.elems.map λz=>.int (-16)),.int 0,Dx (Fd m)]
theorem Yz(k:Nat)(m:Mod)(z:m.Sz):VF (k+3) 850 [BZ m] (HY m) :=
 Bs [.t (Ak (m.ik++m.fk)),.t (Ak [D6]),.t (Ak [D7]),.t (Ak (m.ig++m.gk)),.l (m.elems.map λq=>.int (-16)),.t (Dx (Fd m)),.t (HY m)]
  (kc (Ae (Ak6 k m z) (Ae (Ak7 k m) (Ae (Ak8 k m) (Ae (Ak9 k m z) (Ae (C5 (B:=cB (k+2) 38 850 [] [] (DE (BY (AP 850 0)) 6)) Be (λq=>.int (-16)) m.elems λa q=>⟨[],kc (tr ([]:AH) (some (T.int (-16)))) (by kernel_rfl)⟩)
   (Ae (Alg k m z) (Ae (AkW (k+1) (Ak (m.kinds.map A8)) (Ak (m.ik++m.fk)) (Ak [D6]) (Ak [D7]) (Ak (m.ig++m.gk)) (Ak (m.elems.map λq=>.int (-16))) (.int 0) (Dx (Fd m))) (Bd (HY m))))))))) (by kernel_rfl))
inductive CB(nx:Nat->List Nat)(roots:List Nat):Nat->Prop
 | root {i:Nat}:i∈roots->CB nx roots i
 | step {i j:Nat}:CB nx roots i->j∈nx i->CB nx roots j
theorem Alh{nx:Nat->List Nat}{roots:List Nat}(h1:∀i,i∈roots->i∈fs)(h2:∀i,i∈fs->∀j,j∈nx i->j∈fs)(h3:∀i,i∈fs->CB nx roots i)(i:Nat):i∈fs↔CB nx roots i :=
 ⟨h3 i,λh=>by
  induction h with
  | root m=>exact h1 _ m
  | step _ m ih=>exact h2 _ ih _ m⟩
noncomputable def Mod.N(m:Mod):Nat:=m.ik.length+m.funcs.length
noncomputable def Mod.nx(m:Mod)(i:Nat):List Nat:=if i<m.ik.length then[]else match m.funcs[i-m.ik.length]? with
 | some f=>Bb f.body
 | none=>[]
noncomputable def DF(gs:List CQ):List Nat:=gs.flatMap λg=>Bb g.body
noncomputable def Fe(bs:List (List AX)):List Nat:=bs.flatMap Bb
noncomputable def Ew(es:List Cn):List Nat:=es.flatMap λe=>Fe e.inits
noncomputable def Mod.roots(m:Mod):List Nat:=As m.ik.length++AV m.exps++m.start.toList++DF m.globs++Ew m.elems
structure Mod.Wf(m:Mod):Prop extends m.Sz where
 rts:∀i,i∈m.roots->i<m.N
 nxt:∀f,f∈m.funcs->∀j,j∈Bb f.body->j<m.N
 kfn:∀f,f∈m.funcs->f.kind<m.kinds.length
 kim:∀i,i∈m.iks->i<m.kinds.length
noncomputable def Mod.used(m:Mod):List Nat:=(As m.N).filter λi=>@decide (CB m.nx m.roots i) (NU _)
set_option tactic.hygienic true in
theorem Mod.Wf.nx_lt(z:m.Wf){i j:Nat}(h:j∈m.nx i):j<m.N:=by
 unfold Mod.nx at h
 split at h
 ·rcases h with⟨⟩
 ·split at h
  ·rename_i f e;exact z.nxt f (FU e) j h
  ·rcases h with⟨⟩
theorem Mod.Wf.reach_lt(z:m.Wf){i:Nat}(h:CB m.nx m.roots i):i<m.N:=by
 rcases h with q | ⟨_,q⟩
 ·exact z.rts _ q
 ·exact z.nx_lt q
theorem Ff(z:m.Wf){i:Nat}:i∈m.used↔CB m.nx m.roots i:=by
 unfold Mod.used;rw[GY,Do];exact⟨λh=>@of_decide_eq_true _ (NU _) h.2,λh=>⟨z.reach_lt h,@decide_eq_true _ (NU _) h⟩⟩
theorem YA(h:n<=4000):Ei (n:Int)=true:=decide_eq_true (AcR h)
theorem YB{vs:List V}{a c:Int}(h1:JL vs=some is)(h2:Fx is=some (a,c,n)):GE vs=some ((DM a c n).map T.int):=by
 unfold GE;rw[h1];dsimp only;rw[h2]
theorem JY(h:n<=4000):GE [Vf (Ag n)]=some ((As n).map Ag):=by
 have e1:Fx [(n:Int)]=some (0,1,n):=by
  have h':(n:Int).toNat<=4000:=by rw[P6];exact h
  unfold Fx;dsimp only;rw[if_pos ⟨YA h,h'⟩,P6]
 have e2:(DM 0 1 n).map T.int=(As n).map Ag:=by
  unfold DM;rw[CY];refine Lz λi z => ?_;show T.int (0+(i:Int)*1)=T.int i;rw[Int.zero_add,Int.mul_one]
 rw[<- e2];exact YB rfl e1
theorem HZ(en:A->T)(xs:List A){k:Int}{n:Nat}{a:A}(hk:k=n)(hn:n<=4000)(e:xs[n]? = some a):ER (xs.map en) k=some (en a):=by
 subst hk;have hlt:n<xs.length:=(DK.mp e).1;have e1:QM (n:Int)=true:=decide_eq_true (AcQ hn);have e2:Np (n:Int) (xs.map en).length=some n:=by
  unfold Np;rw[AG];have h1:¬((n:Int)<0):=U7;have h2:(decide ((0:Int)<=n) && decide ((n:Int)<(xs.length:Nat)))=true:=by
   rw[A9];exact⟨decide_eq_true (AcP),decide_eq_true (Qt hlt)⟩
  simp only[if_neg h1];rw[if_pos h2];rfl
 unfold ER;rw[if_pos e1,e2];show(xs.map en)[n]? = _;rw[G2,e];rfl
noncomputable def eF(fs:List Nat):List (Int×T):=fs.map λ(n:Nat)=>((n:Int),T.bool true)
theorem MT(fs:List Nat)(i:Nat):(Ct (eF fs) i).isSome=decide (i∈fs):=by
 induction fs with
 | nil=>rfl
 | cons n fs ih =>
  show(if((n:Int)=i)then some (T.bool true)else Ct (eF fs) i).isSome=_
  by_cases h:n=i
  ·subst h;simp
  ·rw[if_neg (Qx h),ih]
   congr 1
   apply propext;rw[AS];exact⟨.inr,λq=>q.elim (λq=>absurd q.symm h) id⟩
theorem YC(fs:List Nat)(i:Nat):((eF fs).any λp=>decide (p.1=(i:Int)))=decide (i∈fs):=by
 induction fs with
 | nil=>rfl
 | cons n fs ih =>
  show(decide ((n:Int)=i) || (eF fs).any _)=_;rw[ih,<- Bool.decide_or]
  congr 1
  apply propext;rw[AS];exact⟨λq=>q.imp (λq=>(UY q)) id,λq=>q.imp (λq=>(UX q)) id⟩
theorem SP(h:i∉fs):Cg (eF fs) i (.bool true)=eF (fs++[i]):=by
 unfold Cg;rw[YC,if_neg (by simp[h])]
 unfold eF;rw[BJ];rfl
theorem Ali(h:i∈fs):Cg (eF fs) i (.bool true)=eF fs:=by
 unfold Cg;rw[YC,if_pos (by simp[h])]
 unfold eF;rw[CY];refine Lz λn z => ?_;dsimp only[Function.comp]
 split<;>rfl
theorem Ho{N:Nat}(h:fs.Nodup)(b:∀i,i∈fs->i<N):fs.length<=N:=by
 have q:fs.Perm ((As N).filter λi=>decide (i∈fs)):=(Us h (Ki _ Ao5)).mpr λi=>by
  rw[GY,Do,decide_eq_true_iff];exact⟨λm=>⟨b i m,m⟩,λm=>m.2⟩
 have e:=Aa6 (λi=>decide (i∈fs)) (As N);rw[<- q.length_eq,BR]at e;exact e
theorem Alj{N:Nat}{p:Nat->Bool}(h:fs.Nodup)(e:∀i,i∈fs↔i<N/\p i=true):EM (fs.map λ(n:Nat)=>(n:Int))=((As N).filter p).map λ(n:Nat)=>(n:Int):=by
 refine(Ol ?_ ?_).symm
 ·refine Ao6 _ ((Us (Ki _ Ao5) h).mpr λi => ?_);rw[GY,Do];exact(e i).symm
 ·refine Qg.mpr (List.Pairwise.imp (λ{a b} q => ?_) (Ki p LB));exact Ia.mpr (Dz q)
theorem Alk(us:List Nat):HQ (us.map Ag)=some (us.map λ(n:Nat)=>(n:Int)):=by
 induction us with
 | nil=>rfl
 | cons u us ih =>
  show(match HQ (us.map Ag)with | some is=>some ((u:Int)::is) | none=>none)=_
  rw[ih];rfl
def wG(k:Nat)(f:Af)(s:AL)(l:An):AH->List Al->Kq Bool->Prop:=(DP (Fb Dq true k) 40).2 (MN f) l (SL s)
def wB(k n:Nat)(f:Af)(s:AL):An->AH->List Al->(BS->An->AH->List Al->Prop)->Prop:=II Dq (Fb Dq true k) 39 (MN f) n (DS s)
theorem Alm(k:Nat)(b:List AX):VF (k+1) 867 [AU b] (Ak []):=by
 have c:BX (fB k 39 867 (AP 867 1)) 1 (nm ["body","found"]) (b.map Bt) [(Ab "body",.fz (AU b)),(Ab "found",.own 0)] [.lst []] [(Ab "body",.fz (AU b)),(Ab "found",.own 0)] [.lst []] :=
  De Bt (λz=>[(Ab "body",.fz (AU b)),(Ab "found",.own 0)]) (λz=>[.lst []]) b b (λys a zs e=>by
   have fin:=f4 (L:=[(Ab "body",.fz (AU b)),(Ab "found",.own 0)]) 1 (Bd [AO.lst []]) (AK 1);rcases a with⟨t,n⟩ | _ | _ | _ | _ | _
   case call=>rcases t with⟨⟩<;>exact⟨[],kc fin (by kernel_rfl)⟩
   all_goals exact⟨[],kc fin (by kernel_rfl)⟩) [] b rfl
 exact Bs [.st [(Ab "body",.fz (AU b)),(Ab "found",.own 0)] [.lst []]] (kc (Ae c (Bd (Ak []))) (by kernel_rfl))
noncomputable abbrev Fg(m:Mod):An:=[(Ab "module",.fz (BZ m)),(Ab "many",.fz (Ag m.ik.length)),(Ab "waiting",.own 0)]
noncomputable abbrev Pm:List Ac:=nm ["module","many","waiting"]
theorem D9(a b:List Nat):Ai a++Ai b=Ai (a++b):=BJ.symm
theorem Co(a:List Nat):(Ai a).length=a.length:=AG _
theorem GI(b:List AX):(Bb b).length<=b.length:=Pk _ _
theorem Aln(k:Nat)(m:Mod)(z:m.Sz)(ws:List Nat)(hs:ws.length<=100):BX (fB (k+1) 39 860 (AP 860 3)) 1 Pm (m.globs.map BI) (Fg m) [.lst (Ai ws)] (Fg m) [.lst (Ai (ws++DF m.globs))]:=by
 have e0:Ai ws=Ai (ws++DF []):=by rw[show DF []=[]from rfl,Dn]
 rw[e0];exact De BI (λq=>Fg m) (λys=>[.lst (Ai (ws++DF ys))]) m.globs m.globs (λys a zs e=>by
  have st:Ai (ws++DF ys)++Ai (Bb a.body)=Ai (ws++DF (ys++[a])):=by unfold DF;rw[GH,D9,FQ]
  have hl:(Ai (ws++DF ys)).length+(Ai (Bb a.body)).length<=4000:=by
   have h2:(DF ys).length<=2*ys.length:=Dw _ 2 ys λg h=>AC (GI _) (z.gb g (IO e h));have h3:=Eu e;have h4:=z.globs;have h5:=z.gb a (D8 e);have h6:=GI a.body;rw[Co,Co,Bg];exact AcZ hs h2 h3 h4 h5 h6
  exact⟨[.t (Ak (Ai (Bb a.body))),.b true],kc (Ae (Pl k a.body) (Ae (B4 hl) (f4 (L:=Fg m) 1 (congrArg (λd=>[AO.lst d]) st) (AK 1)))) (by kernel_rfl)⟩) [] m.globs rfl
noncomputable abbrev MU(m:Mod)(e:Cn):An:=[(Ab "module",.fz (BZ m)),(Ab "many",.fz (Ag m.ik.length)),(Ab "waiting",.own 0),(Ab "elem",.fz (Be e))]
noncomputable abbrev Alo:List Ac:=nm ["module","many","waiting","elem"]
theorem Alp(k:Nat)(m:Mod)(mo:Cn)(bs:List (List AX))(ws:List Nat)(hs:ws.length<=1000)(h3:bs.length<=3)(h2:∀b,b∈bs->b.length<=2):BX (fB (k+1) 38 860 (D5 (DS (AP 860 4)) 0)) 1 Alo (bs.map AU) (MU m mo) [.lst (Ai ws)] (MU m mo) [.lst (Ai (ws++Fe bs))]:=by
 have e0:Ai ws=Ai (ws++Fe []):=by rw[show Fe []=[]from rfl,Dn]
 rw[e0];exact De AU (λz=>MU m mo) (λys=>[.lst (Ai (ws++Fe ys))]) bs bs (λys a zs e=>by
  have st:Ai (ws++Fe ys)++Ai (Bb a)=Ai (ws++Fe (ys++[a])):=by unfold Fe;rw[GH,D9,FQ]
  have hl:(Ai (ws++Fe ys)).length+(Ai (Bb a)).length<=4000:=by
   have g2:(Fe ys).length<=2*ys.length:=Dw _ 2 ys λg h=>AC (GI _) (h2 g (IO e h));have g3:=Eu e;have g5:=h2 a (D8 e);have h6:=GI a;rw[Co,Co,Bg];exact AcY hs h3 g2 g3 g5 h6
  exact⟨[.t (Ak (Ai (Bb a))),.b true],kc (Ae (Pl k a) (Ae (B4 hl) (f4 (L:=MU m mo) 1 (congrArg (λd=>[AO.lst d]) st) (AK 1)))) (by kernel_rfl)⟩) [] bs rfl
theorem Alq(k:Nat)(m:Mod)(z:m.Sz)(ws:List Nat)(hs:ws.length<=100):BX (fB (k+1) 39 860 (AP 860 4)) 1 Pm (m.elems.map Be) (Fg m) [.lst (Ai ws)] (Fg m) [.lst (Ai (ws++Ew m.elems))]:=by
 have e0:Ai ws=Ai (ws++Ew []):=by rw[show Ew []=[]from rfl,Dn]
 rw[e0];exact De Be (λx=>Fg m) (λys=>[.lst (Ai (ws++Ew ys))]) m.elems m.elems (λys a zs e=>by
  have st:Ai ((ws++Ew ys)++Fe a.inits)=Ai (ws++Ew (ys++[a])):=by unfold Ew;rw[GH,FQ]
  have hl:(ws++Ew ys).length<=1000:=by
   have h2:(Ew ys).length<=6*ys.length:=Dw _ 6 ys λg h=>by
    have q:(Fe g.inits).length<=2*g.inits.length:=Dw _ 2 g.inits λb hb=>AC (GI _) (z.eb g (IO e h) b hb);have q2:=z.ei g (IO e h);exact N6 q q2
   have h3:=Eu e;have h4:=z.elems;rw[Bg];exact AcX hs h2 h3 h4
  exact⟨[.st (MU m a) [.lst (Ai ((ws++Ew ys)++Fe a.inits))]],kc (Ae (Alp k m a a.inits _ hl (z.ei a (D8 e)) (z.eb a (D8 e))) (f4 (L:=Fg m) 1 (congrArg (λd=>[AO.lst d]) st) (AK 1))) (by kernel_rfl)⟩) [] m.elems rfl
noncomputable def lW(m:Mod):Option Nat->An
 | none=>[(Ab "module",.fz (BZ m)),(Ab "many",.fz (Ag m.ik.length)),(Ab "waiting",.own 0),(Ab "found",.own 1)]
 | some i=>[(Ab "module",.fz (BZ m)),(Ab "many",.fz (Ag m.ik.length)),(Ab "waiting",.own 0),(Ab "found",.own 1),(Ab "index",.fz (Ag i))]
noncomputable abbrev sW(ws fs:List Nat):AH:=[.lst (Ai ws),.dct (eF fs)]
theorem t3{C:Type}(a:A)(b:B){c c':C}(h:c=c'):a=a/\b=b/\c=c':=⟨rfl,rfl,h⟩
theorem Alr(k:Nat)(m:Mod)(ix:Option Nat)(fs:List Nat):wG (k+1) 860 (AP 860 6) (lW m ix) (sW [] fs) [] (λq' a2 z=>q'=false/\a2=sW [] fs):=by
 rcases ix with _ | j
 ·exact kc (tr false (sW [] fs)) (by kernel_rfl)
 ·exact kc (tr false (sW [] fs)) (by kernel_rfl)
theorem SQ(k:Nat)(m:Mod)(ix:Option Nat)(ws:List Nat)(i:Nat)(fs:List Nat):wG (k+1) 860 (AP 860 6) (lW m ix) (sW (ws++[i]) fs) [.b true] (λq' a2 z=>q'=true/\a2=sW (ws++[i]) fs):=by
 have e:(Br 20 (.node .lst (Ai (ws++[i]))) (.node .lst [])).map (!·)=some true:=by
  have q:¬(Ai (ws++[i])).length=([]:List T).length:=by rw[Co,Bg];exact Ao7 _
  show(if(Ai (ws++[i])).length=([]:List T).length then _ else some false).map (!·)=some true;rw[if_neg q];rfl
 rcases ix with _ | j
 ·exact kc (Ae e (tr true (sW (ws++[i]) fs))) (by kernel_rfl)
 ·exact kc (Ae e (tr true (sW (ws++[i]) fs))) (by kernel_rfl)
theorem Lf(ws:List Nat)(i:Nat):(Ai (ws++[i])).getLast? = some (Ag i):=by rw[<- D9];exact List.getLast?_concat
theorem Pn(ws:List Nat)(i:Nat):(Ai (ws++[i])).dropLast=Ai ws:=by rw[<- D9];exact List.dropLast_concat
set_option tactic.hygienic true in
theorem Als(k:Nat)(m:Mod)(ix:Option Nat)(ws:List Nat)(i:Nat)(fs:List Nat)(h:i∈fs):wB (k+1) 39 860 (AP 860 6) (lW m ix) (sW (ws++[i]) fs) [.t (Ag i),.b false] (λfl l3 a3 z=>fl=.next/\l3=lW m (some i)/\a3=sW ws fs):=by
 have e:(some (Ct (eF fs) i).isSome).map (!·)=some false:=by rw[MT,decide_eq_true h];rfl
 have s:=congrArg (λd=>[AO.lst d,.dct (eF fs)]) (Pn ws i);rcases ix with _ | j
 ·exact kc (Ae (Lf ws i) (Ae e (t3 BS.next (lW m (some i)) s))) (by kernel_rfl)
 ·exact kc (Ae (Lf ws i) (Ae e (t3 BS.next (lW m (some i)) s))) (by kernel_rfl)
set_option tactic.hygienic true in
theorem Alt(k:Nat)(m:Mod)(ix:Option Nat)(ws:List Nat)(i:Nat)(fs:List Nat)(h:i∉fs)(hs:fs.length<=4000)(hi:i<m.ik.length):wB (k+1) 39 860 (AP 860 6) (lW m ix) (sW (ws++[i]) fs) [.t (Ag i),.b true,.b true,.b false] (λfl l3 a3 z=>fl=.next/\l3=lW m (some i)/\a3=sW ws (fs++[i])):=by
 have e:(some (Ct (eF fs) i).isSome).map (!·)=some true:=by rw[MT,decide_eq_false h];rfl
 have g:some (small (eF fs).length)=some true:=B4 (by unfold eF;rwa [AG])
 have c:some (decide ((m.ik.length:Int)<=(i:Int)))=some false:=congrArg some (decide_eq_false (AcW hi));have s:[AO.lst (Ai (ws++[i])).dropLast,.dct (Cg (eF fs) i (.bool true))]=sW ws (fs++[i]):=by rw[Pn,SP h]
 rcases ix with _ | j
 ·exact kc (Ae (Lf ws i) (Ae e (Ae g (Ae c (t3 BS.next (lW m (some i)) s))))) (by kernel_rfl)
 ·exact kc (Ae (Lf ws i) (Ae e (Ae g (Ae c (t3 BS.next (lW m (some i)) s))))) (by kernel_rfl)
set_option tactic.hygienic true in
theorem Alu(k:Nat)(m:Mod)(ix:Option Nat)(ws:List Nat)(i:Nat)(fs:List Nat)(f:CP)(h:i∉fs)(hs:fs.length<=4000)(hi:¬i<m.ik.length)(h4:i<=4000)(ef:m.funcs[i-m.ik.length]? = some f)(hl:ws.length+f.body.length<=4000) :
  wB (k+1) 39 860 (AP 860 6) (lW m ix) (sW (ws++[i]) fs) [.t (Ag i),.b true,.b true,.b true,.t (Bi f),.t (Ak (Ai (Bb f.body))),.b true] (λfl l3 a3 z=>fl=.next/\l3=lW m (some i)/\a3=sW (ws++Bb f.body) (fs++[i])):=by
 have e:(some (Ct (eF fs) i).isSome).map (!·)=some true:=by rw[MT,decide_eq_false h];rfl
 have g:some (small (eF fs).length)=some true:=B4 (by unfold eF;rwa [AG])
 have c:some (decide ((m.ik.length:Int)<=(i:Int)))=some true:=congrArg some (decide_eq_true (AcV hi));have p:ER (m.funcs.map Bi) ((i:Int)-(m.ik.length:Int))=some (Bi f):=HZ Bi m.funcs (n:=i-m.ik.length) (AcU hi) (AcT h4) ef;have x:some (small ((Ai (ws++[i])).dropLast.length+(Ai (Bb f.body)).length))=some true:=B4 (by
  have:=GI f.body;rw[Pn,Co,Co];exact AcS hl this)
 have s:[AO.lst ((Ai (ws++[i])).dropLast++Ai (Bb f.body)),.dct (Cg (eF fs) i (.bool true))]=sW (ws++Bb f.body) (fs++[i]):=by rw[Pn,SP h,D9]
 rcases ix with _ | j
 ·exact kc (Ae (Lf ws i) (Ae e (Ae g (Ae c (Ae p (Ae (Pl k f.body) (Ae x (t3 BS.next (lW m (some i)) s)))))))) (by kernel_rfl)
 ·exact kc (Ae (Lf ws i) (Ae e (Ae g (Ae c (Ae p (Ae (Pl k f.body) (Ae x (t3 BS.next (lW m (some i)) s)))))))) (by kernel_rfl)
theorem Mod.Wf.n_le(z:m.Wf):m.N<=7:=by
 unfold Mod.N;exact A' (T' m.ik_len z.imps) z.funcs
theorem Alv{g:An->AH->List Al->Kq Bool->Prop}{B:An->AH->List Al->(BS->An->AH->List Al->Prop)->Prop}{l:An}{a a1:AH}(as:List Al)(h:g l a as (λq' a2 z=>q'=false/\a2=a1)):HR g B (n+1) l a l a1:=Jh as (Jh false (Jh a1 (Ae h (Ae rfl rfl))))
set_option tactic.hygienic true in
theorem SR{g:An->AH->List Al->Kq Bool->Prop}{B:An->AH->List Al->(BS->An->AH->List Al->Prop)->Prop}{l l2 l':An}{a a1 a2 a':AH}(as as2:List Al)(h:g l a as (λq' a2 z=>q'=true/\a2=a1))(h2:B l a1 as2 (λfl l3 a3 z=>fl=.next/\l3=l2/\a3=a2))(r:HR g B n l2 a2 l' a'):HR g B (n+1) l a l' a':=Jh as (Jh true (Jh a1 (Ae h (Jh as2 (Jh l2 (Jh a2 (Ae h2 r)))))))
theorem Alw(k:Nat)(m:Mod)(z:m.Wf):∀(n:Nat) (ix:Option Nat) (ws fs:List Nat),fs.Nodup->(∀i,i∈fs->CB m.nx m.roots i)->(∀i,i∈ws->CB m.nx m.roots i)->(∀i,i∈fs->∀j,j∈m.nx i->j∈fs\/j∈ws)->(∀i,i∈m.roots->i∈fs\/i∈ws) ->
  ws.length+7*(m.N-fs.length)<n->n<=1000->∃ix' fs',HR (wG (k+1) 860 (AP 860 6)) (wB (k+1) 39 860 (AP 860 6)) n (lW m ix) (sW ws fs) (lW m ix') (sW [] fs')/\fs'.Nodup/\∀i,i∈fs'↔CB m.nx m.roots i:=by
 intro z1
 induction z1 with
 | zero =>
  intro z2 z3 z4 z5 z6 z7 z8 z9 hn z10;exact absurd hn (Nx _)
 | succ n ih =>
  intro ix ws fs nd hf hw cl rt hn hb;rcases ws.eq_nil_or_concat with rfl | ⟨ws0,i,ew⟩
  ·exact⟨ix,fs,Alv _ (Alr k m ix fs),nd,Alh (λi h=>(rt i h).elim id λh=>nomatch h) (λi h j q=>(cl i h j q).elim id λh=>nomatch h) hf⟩
  ·rw[List.concat_eq_append]at ew;subst ew
   generalize ws0=ws at *
   rw[Bg,BH,DL]at hn;have hN:=z.n_le;have hl:=Ho nd (N:=m.N) λi h=>z.reach_lt (hf i h);have ri:CB m.nx m.roots i:=hw i (Cv _ Dh);have hi:=z.reach_lt ri;have hw':∀j,j∈ws->CB m.nx m.roots j:=λj h=>hw j (Cb _ h)
   by_cases q:i∈fs
   ·have sub:∀j,j∈fs\/j∈ws++[i]->j∈fs\/j∈ws:=λj h=>h.elim .inl λh=>(BF.mp h).elim .inr λh=>.inl (Cr.mp h▸q);refine Ba (ih (some i) ws fs nd hf hw' (λa h j p=>sub j (cl a h j p)) (λa h=>sub a (rt a h)) (Ade hn) (Qy hb)) ?_;rintro ix' fs' h1 h2;exact⟨ix',fs',SR _ _ (SQ k m ix ws i fs) (Als k m ix ws i fs q) h1,h2⟩
   ·have nd':(fs++[i]).Nodup:=FL.mpr ⟨nd,Dm.mpr ⟨(λh=>nomatch h),G1⟩,λa ha b hb=>by rintro rfl;exact q (Cr.mp hb▸ha)⟩
    have hf':∀j,j∈fs++[i]->CB m.nx m.roots j:=λj h=>(BF.mp h).elim (hf j) λh=>Cr.mp h▸ri;have hl':=Ho nd' (N:=m.N) λi h=>z.reach_lt (hf' i h);rw[Bg,BH,DL]at hl';have mv:∀(us:List Nat) (j:Nat),j∈fs\/j∈ws++[i]->j∈fs++[i]\/j∈ws++us:=λus j h=>h.elim (λh=>.inl (Cb _ h)) λh=>(BF.mp h).elim (λh=>.inr (Cb _ h)) λh=>.inl (Cv _ h)
    by_cases c:i<m.ik.length
    ·have e:m.nx i=[]:=if_pos c;have mv0:∀(j:Nat),j∈fs\/j∈ws++[i]->j∈fs++[i]\/j∈ws:=λj h=>(mv [] j h).imp id λh=>by rwa [Dn]at h
     refine Ba (ih (some i) ws (fs++[i]) nd' hf' hw' (λa h j p=>(BF.mp h).elim (λh=>mv0 j (cl a h j p)) λh=>by
      rw[Cr.mp h,e]at p;rcases p with⟨⟩) (λa h=>mv0 a (rt a h)) (by rw[Bg,BH,DL];exact Adc hn) (Qy hb)) ?_;rintro ix' fs' h1 h2
     exact⟨ix',fs',SR _ _ (SQ k m ix ws i fs) (Alt k m ix ws i fs q (U8 hN hl') c) h1,h2⟩
    ·have lt:i-m.ik.length<m.funcs.length:=by unfold Mod.N at hi;exact Adb hi c
     have ef:m.funcs[i-m.ik.length]? = some m.funcs[i-m.ik.length]:=Cc lt
     generalize m.funcs[i-m.ik.length]=f at ef
     have e:m.nx i=Bb f.body:=by unfold Mod.nx;rw[if_neg c,ef]
     have b7:f.body.length<=7:=z.fb f (FU ef);have b8:=GI f.body;refine Ba (ih (some i) (ws++Bb f.body) (fs++[i]) nd' hf' (λj h=>(BF.mp h).elim (hw' j) λh=>.step ri (e▸h))
      (λa h j p=>(BF.mp h).elim (λh=>mv _ j (cl a h j p)) λh=>by
       rw[Cr.mp h,e]at p;exact .inr (Cv _ p)) (λa h=>mv _ a (rt a h)) (by rw[Bg,Bg,BH,DL];exact Ada hn hl' b7 b8) (Qy hb)) ?_;rintro ix' fs' h1 h2
     exact⟨ix',fs',SR _ _ (SQ k m ix ws i fs) (Alu k m ix ws i fs f q (U8 hN hl') c (Ac9 hN hi) ef (Ac8 hb hn b7)) h1,h2⟩
theorem Alx(xs:List Cz):xs.filterMap (λx=>match x with | .f _ i=>some (Ag i) | .m _=>none)=Ai (AV xs):=by
 induction xs with
 | nil=>rfl
 | cons x xs ih =>
  rcases x with⟨s,i⟩ | s
  ·exact congrArg (Ag i::·) ih
  ·exact ih
theorem Aly(z:m.Wf){fs:List Nat}(nd:fs.Nodup)(h:∀i,i∈fs↔CB m.nx m.roots i):(match HQ ((eF fs).map λp=>T.int p.1)with
  | some is=>if is.length<64 then some ((EM is).map T.int)else none
  | none=>none)=some (Ai m.used):=by
 have e:(eF fs).map (λp=>T.int p.1)=fs.map Ag:=by unfold eF;rw[CY];rfl
 have hl:=Ho nd (N:=m.N) λi q=>z.reach_lt ((h i).mp q);have hN:=z.n_le;rw[e,Alk];dsimp only;rw[AG,if_pos (Ac7 hl hN),Alj (N:=m.N) (p:=λi=>@decide (CB m.nx m.roots i) (NU _)) nd λi=>⟨λq=>⟨z.reach_lt ((h i).mp q),@decide_eq_true _ (NU _) ((h i).mp q)⟩,λq=>(h i).mpr (@of_decide_eq_true _ (NU _) q.2)⟩];unfold Ai Mod.used;rw[CY];rfl
theorem YD{o:Option Nat}{R:Prop}{G:Nat->Prop}(hR:R)(hG:∀s,o=some s->G s):(match (generalizing:=false) o with
  | none=>R
  | some s=>G s/\R):=by
 rcases o with _ | s
 ·exact hR
 ·exact⟨hG s rfl,hR⟩
theorem SS(k:Nat)(m:Mod)(z:m.Wf):VF (k+3) 860 [BZ m] (Ak (Ai m.used)):=by
 have hM:m.ik.length<=3:=AC m.ik_len z.imps;have hE:(AV m.exps).length<=3:=T' (Le m.exps) (T' (M' 1 z.exps) (D' rfl));have e0:Ai (As m.ik.length)++Ai (AV m.exps)=Ai (As m.ik.length++AV m.exps):=D9 _ _;have g0:some (small ((Ai (As m.ik.length)).length+(Ai (AV m.exps)).length))=some true:=B4 (by rw[Co,Co,BR];exact Ac6 hM hE)
 have cE:Cu (cB (k+2) 38 860 [] [] (DE (BY (AP 860 1)) 1)) (m.exps.map Ci) (Ai (AV m.exps)):=by
  rw[<- Alx];exact HV Ci (λx=>match x with | .f _ i=>some (Ag i) | .m _=>none) m.exps λa y=>by
   rcases a with⟨x,i⟩ | x
   ·exact⟨[],kc (tr ([]:AH) (some (Ag i))) (by kernel_rfl)⟩
   ·exact⟨[],kc (tr ([]:AH) (none:Option T)) (by kernel_rfl)⟩
 have rest:∀(st:List Nat) (ts:List T),m.start.toList=st->ts=Ai (As m.ik.length++AV m.exps++st)->∃ix fs,BX (fB (k+2) 39 860 (AP 860 3)) 1 Pm (m.globs.map BI) (Fg m) [.lst ts] (Fg m) [.lst (Ai (As m.ik.length++AV m.exps++st++DF m.globs))] /\
   BX (fB (k+2) 39 860 (AP 860 4)) 1 Pm (m.elems.map Be) (Fg m) [.lst (Ai (As m.ik.length++AV m.exps++st++DF m.globs))] (Fg m) [.lst (Ai m.roots)] /\
   HR (wG (k+2) 860 (AP 860 6)) (wB (k+2) 39 860 (AP 860 6)) 1000 (lW m none) (sW m.roots []) (lW m ix) (sW [] fs)/\some (small (eF fs).length)=some true/\(match HQ ((eF fs).map λp=>T.int p.1)with
    | some is=>if is.length<64 then some ((EM is).map T.int)else none
    | none=>none)=some (Ai m.used):=λst ts hst ets=>by
  subst ets;have hS:st.length<=1:=by rw[<- hst];rcases m.start with⟨⟩<;>simp
  have hG:(DF m.globs).length<=2*m.globs.length:=Dw _ 2 _ λg h=>AC (GI _) (z.gb g h);have hG2:=z.globs;have hEl:(Ew m.elems).length<=6*m.elems.length:=Dw _ 6 _ λg h=>by
   have q:(Fe g.inits).length<=2*g.inits.length:=Dw _ 2 g.inits λb hb=>AC (GI _) (z.eb g h b hb);have q2:=z.ei g h;exact N6 q q2
  have hEl2:=z.elems;have hN:=z.n_le;have er:As m.ik.length++AV m.exps++st++DF m.globs++Ew m.elems=m.roots:=by unfold Mod.roots;rw[hst]
  have hr:m.roots.length<=100:=by rw[<- er];simp only[Bg,BR];exact Ac5 hM hE hS hG hG2 hEl hEl2
  refine Bm (Alw (k+1) m z 1000 none m.roots [] G1 (λy h=>nomatch h) (λi h=>.root h) (λy h=>nomatch h) (λi h=>.inr h) (by rw[DL];exact Ac4 hN hr) (AK _)) ?_;rintro ix fs h1 h2 h3
  refine⟨ix,fs,Aln (k+1) m z.toSz _ (by simp only[Bg,BR];exact Ac3 hM hE hS),?_,h1,?_,Aly z h2 h3⟩
  ·have:=Alq (k+1) m z.toSz (As m.ik.length++AV m.exps++st++DF m.globs) (by simp only[Bg,BR];exact Ac2 hM hE hS hG hG2)
   rw[er]at this;exact this
  ·exact B4 (by
    have:=Ho h2 (N:=m.N) λi q=>z.reach_lt ((h3 i).mp q);unfold eF;rw[AG];exact Ac1 hN this)
 refine Ji (rest m.start.toList (match m.start with
  | none=>Ai (As m.ik.length)++Ai (AV m.exps)
  | some s=>Ai (As m.ik.length)++Ai (AV m.exps)++[Ag s]) rfl (by
   rcases m.start with _ | s
   ·show Ai (As m.ik.length)++Ai (AV m.exps)=Ai (As m.ik.length++AV m.exps++[]);rw[Dn,D9]
   ·show Ai (As m.ik.length)++Ai (AV m.exps)++[Ag s]=Ai (As m.ik.length++AV m.exps++[s]);rw[D9,show[Ag s]=Ai [s]from rfl,D9])) ?_;rintro ix fs h1 h2 h3 h4 h5
 have hr:=JY (n:=m.ik.length) (Qw hM);have v:=Yw k m;have g1:some (small ((Ai (As m.ik.length)++Ai (AV m.exps)).length+1))=some true:=B4 (by rw[Bg,Co,Co,BR];exact Ac0 hM hE)
 have tl:=YD (o:=m.start) (G:=λy=>some (small ((Ai (As m.ik.length)++Ai (AV m.exps)).length+1))=some true) (Ae h1 (Ae h2 (Ae h3 (Ae h4 (Ae h5 (Bd (Ak (Ai m.used)))))))) λy y=>g1;refine Bs (k:=k+2) (f:=860) (ts:=[BZ m]) (r:=Ak (Ai m.used)) ([.t (Ag m.ik.length),.l (Ai (As m.ik.length)),.l (Ai (AV m.exps)),.b true]++(match m.start with
  | none=>[]
  | some _=>[.a,.b true])++[.st (Fg m) [.lst (Ai (As m.ik.length++AV m.exps++m.start.toList++DF m.globs))],.st (Fg m) [.lst (Ai m.roots)],.st (lW m ix) (sW [] fs),.b true,.l (Ai m.used)]) (kc (Ae v (Ae hr (Ae cE (Ae g0 tl)))) ?_)
 clear tl h1 h2 h3 h4 h5 g1 rest v hr cE g0 e0 hE hM z;rcases m with⟨ki,im,fu,gl,ex,start,el⟩
 rcases start with _ | s
 ·rcases ix with _ | i
  ·kernel_rfl
  ·kernel_rfl
 ·rcases ix with _ | i
  ·kernel_rfl
  ·kernel_rfl
theorem MV:∀{a b:List Nat},a.Pairwise (· < ·)->b.Pairwise (· < ·)->(∀i,i∈a↔i∈b)->a=b:=by
 intro z1
 induction z1 with
 | nil =>
  intro z2;rcases z2 with _ | ⟨y,ys⟩
  ·intro z3 z4 z5;exact rfl
  ·intro z6 z7 h;exact nomatch (h y).mpr Dh
 | cons x xs ih =>
  intro z8;rcases z8 with _ | ⟨y,ys⟩
  ·intro z9 z10 h;exact nomatch (h x).mp Dh
  ·intro ha hb h;have ha':=Id.mp ha;have hb':=Id.mp hb;have e:x=y:=by
    rcases AS.mp ((h x).mp Dh)with e | m
    ·exact e
    ·rcases AS.mp ((h y).mpr Dh)with e | n
     ·exact e.symm
     ·exact absurd (ha'.1 y n) (DA.mpr (Dz (hb'.1 x m)))
   subst e;refine congrArg (x::·) (ih ha'.2 hb'.2 λi=>⟨λm => ?_,λm => ?_⟩)
   ·exact(AS.mp ((h i).mp (FO _ m))).elim (λe=>absurd (ha'.1 i m) (e▸BP _)) id
   ·exact(AS.mp ((h i).mpr (FO _ m))).elim (λe=>absurd (hb'.1 i m) (e▸BP _)) id
theorem Hp{a:List Nat}(h:a.Pairwise (· < ·)):a.Nodup:=h.imp λ{a b} q=>B6 q
noncomputable def IP(N:Nat)(l:List Nat):List Nat:=(As N).filter λi=>decide (i∈l)
theorem ST{N:Nat}{l:List Nat}(h:∀i,i∈l->i<N){i:Nat}:i∈IP N l↔i∈l:=by
 unfold IP;rw[GY,Do,decide_eq_true_iff];exact⟨λq=>q.2,λq=>⟨h i q,q⟩⟩
theorem H1(N:Nat)(l:List Nat):(IP N l).Pairwise (· < ·):=Ki _ LB
theorem YE(v:Nat):∀(l:List Nat) (i:Nat),i∈CT v l↔i=v\/i∈l:=by
 intro z1
 induction z1 with
 | nil =>
  intro i;exact AS
 | cons x r ih =>
  intro i;rw[Oq]
  split
  ·exact AS
  ·rw[AS,ih i,AS];exact⟨λh=>h.elim (λh=>.inr (.inl h)) λh=>h.elim .inl λh=>.inr (.inr h),λh=>h.elim (λh=>.inr (.inl h)) λh=>h.elim .inl λh=>.inr (.inr h)⟩
set_option tactic.hygienic true in
theorem Alz(v:Nat):∀(l:List Nat),l.Pairwise (· < ·)->v∉l->(CT v l).Pairwise (· < ·):=by
 intro z1
 induction z1 with
 | nil =>
  intro z2 z3;exact Id.mpr ⟨(λz h=>nomatch h),.nil⟩
 | cons x r ih =>
  intro h hv;rw[Oq];have h':=Id.mp h;have hx:v≠x:=λe=>hv (e▸Dh)
  split
  ·rename_i q;have q':v<x:=Nat.lt_of_le_of_ne q hx;exact Id.mpr ⟨λi m=>(AS.mp m).elim (λe=>e▸q') λm=>Lw q' (h'.1 i m),h⟩
  ·rename_i q;exact Id.mpr ⟨λi m=>((YE v r i).mp m).elim (λe=>e▸Nat.not_le.mp q) (h'.1 i),ih h'.2 λm=>hv (FO _ m)⟩
set_option tactic.hygienic true in
theorem AlA(f:Nat->Nat):∀n,(F4 f n).Pairwise (· < ·)/\∀i,i∈F4 f n↔∃j,j<n/\f j=i:=by
 intro z1
 induction z1 with
 | zero =>
  exact⟨.nil,λi=>⟨(λh=>nomatch h),λ⟨j,h,_⟩=>absurd h (Nx _)⟩⟩
 | succ n ih =>
  refine At ih ?_;clear ih;rintro h1 h2;have e:F4 f (n+1)=F3 (f n) (F4 f n):=rfl;rw[e];unfold F3;have key:∀i,(i=f n\/i∈F4 f n)↔∃j,j<n+1/\f j=i:=λi=>by
   rw[h2 i];exact⟨λh=>h.elim (λh=>⟨n,Je _,h.symm⟩) λ⟨j,h,e⟩=>⟨j,NH h,e⟩,λ⟨j,h,e⟩=>(Nat.lt_succ_iff_lt_or_eq.mp h).elim (λh=>.inr ⟨j,h,e⟩) λh=>.inl (h▸e.symm)⟩
  split
  ·rename_i c;refine⟨h1,λi => ?_⟩;rw[<- key i];exact⟨.inr,λh=>h.elim (λe=>e▸T2.mp c) id⟩
  ·rename_i c;refine⟨Alz _ _ h1 λm=>c (T2.mpr m),λi => ?_⟩;rw[YE];exact key i
theorem YF{N:Nat}{l:List Nat}(h:∀i,i∈l->i<N):Hd l=IP N l:=by
 refine At (AlA (λi=>l.getD i 0) l.length) ?_;rintro h1 h2;refine MV h1 (H1 N l) λi => ?_;rw[ST h];refine(h2 i).trans ⟨λ⟨j,hj,e⟩ => ?_,λm => ?_⟩
 ·rw[EH,Cc hj]at e;exact e▸Qh hj
 ·rcases Aa7 m with⟨j,hj,e⟩
  exact⟨j,hj,by rw[EH,Cc hj];exact e⟩
theorem YG:∀{l:List Nat},(∀i,i∈l->i<7)->FB (Ai l)=some l:=by
 intro z1
 induction z1 with
 | nil =>
  intro z2;exact rfl
 | cons x l ih =>
  intro h;have hx:=h x Dh;show(if 0<=(x:Int)/\(x:Int)<7 then(match FB (Ai l)with | some l=>some ((x:Int).toNat::l) | none=>none)else none)=_
  rw[if_pos ⟨ZF x,(Adh hx)⟩,ih λi m=>h i (FO _ m)];rfl
theorem AlB{N:Nat}{l:List Nat}(h:∀i,i∈l->i<N)(hN:N<=7):(match FB (Ai l)with
  | some l=>some ((Hd l).map λ(n:Nat)=>T.int (n:Int))
  | none=>none)=some (Ai (IP N l)):=by
 rw[YG λi m=>EX (h i m) hN];dsimp only;rw[YF h]
theorem YH:∀(ps es:List (Int×T)),((es++ps).map (·.1)).Nodup->ps.foldl (λes p=>Cg es p.1 p.2) es=es++ps:=by
 intro z1
 induction z1 with
 | nil =>
  intro es z2;exact(Dn _).symm
 | cons p ps ih =>
  intro es h;have q:(es.any λr=>decide (r.1=p.1))=false:=by
   rw[Ao8];intro r hr e;rw[BJ]at h;exact(FL.mp h).2.2 r.1 (Dl hr) p.1 Dh (of_decide_eq_true e)
  have e:Cg es p.1 p.2=es++[p]:=by
   unfold Cg;rw[q];exact if_neg (λh=>nomatch h)
  show ps.foldl _ (Cg es p.1 p.2)=_;rw[e,ih (es++[p]) (by rw[FQ];exact h),FQ]
  rfl
theorem AlC:∀(us:List Nat) (k:Nat),Fa ((us.zipIdx k).map λp=>Ax [Ag p.1,Ag p.2])=some ((us.zipIdx k).map λp=>((p.1:Int),Ag p.2)):=by
 intro z1
 induction z1 with
 | nil =>
  intro z2;exact rfl
 | cons u us ih =>
  intro k;show(match Fa ((us.zipIdx (k+1)).map λp=>Ax [Ag p.1,Ag p.2])with | some ps=>some (((u:Int),Ag k)::ps) | none=>none)=_
  rw[ih (k+1)];rfl
noncomputable def Fh(us:List Nat):List (Int×T):=us.zipIdx.map λp=>((p.1:Int),Ag p.2)
theorem AlD(us:List Nat):(Fh us).map (·.1)=us.map λ(n:Nat)=>(n:Int):=by
 have:∀(us:List Nat) (k:Nat),((us.zipIdx k).map λp=>((p.1:Int),Ag p.2)).map (·.1)=us.map λ(n:Nat)=>(n:Int):=λus=>by
  induction us with
  | nil=>exact λz=>rfl
  | cons u us ih=>exact λk=>congrArg ((u:Int)::·) (ih (k+1))
 exact this us 0
theorem YI(h:us.Nodup):(us.map λ(n:Nat)=>(n:Int)).Nodup:=Qg.mpr (h.imp λ{a b} q e=>q (TB e))
theorem AlE(h:us.Nodup)(hl:us.length<=1000):(match Fa (us.zipIdx.map λp=>Ax [Ag p.1,Ag p.2])with
  | some ps=>if ps.length<=1000 then some (ps.foldl (λes p=>Cg es p.1 p.2) [])else none
  | none=>none)=some (Fh us):=by
 rw[AlC];dsimp only;rw[AG,Ao0,if_pos hl];refine congrArg some ((YH _ [] ?_).trans rfl);rw[Ao9];show((Fh us).map (·.1)).Nodup;rw[AlD];exact YI h
theorem AlF(h:n∈us):Ct (Fh us) n=some (Ag (us.idxOf n)):=by
 have:∀(us:List Nat) (k:Nat),n∈us->Ct ((us.zipIdx k).map λp=>((p.1:Int),Ag p.2)) n=some (Ag (k+us.idxOf n)):=λus=>by
  induction us with
  | nil=>exact λz h=>nomatch h
  | cons u us ih =>
   intro k h;show(if(u:Int)=n then some (Ag k)else Ct ((us.zipIdx (k+1)).map λp=>((p.1:Int),Ag p.2)) n)=_
   by_cases e:u=n
   ·subst e;rw[if_pos rfl,List.idxOf_cons_self];rfl
   ·rw[if_neg (Qx e),ih (k+1) ((AS.mp h).elim (λq=>absurd q.symm e) id),Aa8,beq_eq_false_iff_ne.mpr e];dsimp only[cond];rw[show k+1+us.idxOf n=k+(us.idxOf n+1)from Adg]
 have q:=this us 0 h
 rwa [J5]at q
theorem H2(m:Mod):m.used.Pairwise (· < ·):=Ki _ LB
noncomputable def Mod.own(m:Mod):List Nat:=m.used.filter λi=>decide (m.ik.length<=i)
theorem Mod.Wf.used_app(z:m.Wf):m.used=As m.ik.length++m.own:=by
 refine MV (H2 m) (List.pairwise_append.mpr ⟨LB,Ki _ (H2 m),λa ha b hb => ?_⟩) λi => ?_
 ·exact EX (Do.mp ha) (of_decide_eq_true (GY.mp hb).2)
 ·rw[BF,Do];unfold Mod.own;rw[GY,decide_eq_true_iff];refine⟨λh=>(ZH i m.ik.length).imp id λq=>⟨h,q⟩,λh=>h.elim (λq=>(Ff z).mpr (.root ?_)) λq=>q.1⟩;unfold Mod.roots;exact Cb _ (Cb _ (Cb _ (Cb _ (Do.mpr q))))
theorem Mod.Wf.used_drop(z:m.Wf):m.used.drop m.ik.length=m.own:=by
 rw[z.used_app,List.drop_left' BR]
theorem YJ(h:n<=us.length):Mx (Ai us) (some (n:Int)) none=Ai (us.drop n):=by
 have e:Nr (some (n:Int)) (Ai us).length=n:=by
  show(if(n:Int)<0 then(Ai us).length-(-(n:Int)).toNat else min (n:Int).toNat (Ai us).length)=n;rw[if_neg (U7),Co];exact Nat.min_eq_left h
 unfold Mx;rw[e];show((Ai us).drop n).take ((Ai us).length-n)=_;rw[T4 (by rw[PZ];exact AK _)]
 exact Aaf.symm
theorem Mod.Wf.len_used(z:m.Wf):m.ik.length<=m.used.length:=by
 rw[z.used_app,Bg,BR];exact Adf
theorem Mod.Wf.used_le(z:m.Wf):m.used.length<=7:=AC (Ho (Hp (H2 m)) λi h=>z.reach_lt ((Ff z).mp h)) z.n_le
noncomputable def Mod.fn(m:Mod)(i:Nat):CP:=m.funcs.getD (i-m.ik.length) ⟨0,[]⟩
noncomputable def Mod.kf(m:Mod):List CP:=m.own.map m.fn
noncomputable def Mod.ku(m:Mod):List Nat:=m.iks++m.kf.map (·.kind)
noncomputable def Mod.S(m:Mod):List Nat:=IP m.kinds.length m.ku
noncomputable def DU(kinds:List Bool)(rows:List Bool)(i:Nat):List Bool:=if kinds.getD i false∈rows then rows else rows++[kinds.getD i false]
noncomputable def Cp(kinds:List Bool)(S:List Nat):List Bool:=S.foldl (DU kinds) []
noncomputable def Mod.rows(m:Mod):List Bool:=Cp m.kinds m.S
noncomputable def Fi(kinds rows:List Bool)(ys:List Nat):List (Int×T):=ys.map λ(i:Nat)=>((i:Int),Ag (rows.idxOf (kinds.getD i false)))
noncomputable def GJ(m:Mod):T:=.node (.ins 908 (nm ["many","kept","funcs","kinds","rows"])) [Ag m.ik.length,Ak (Ai m.used),Dx (Fh m.used),Dx (Fi m.kinds m.rows m.S),Ak (m.rows.map A8)]
theorem Hq(z:m.Wf){i:Nat}(h:i∈m.own):m.funcs[i-m.ik.length]? = some (m.fn i)/\m.ik.length<=i/\i<m.N:=by
 have h1:=GY.mp h;have h2:=of_decide_eq_true h1.2;have h3:=z.reach_lt ((Ff z).mp h1.1);have h4:i-m.ik.length<m.funcs.length:=by unfold Mod.N at h3;exact Adp h2 h3
 refine⟨?_,h2,h3⟩;unfold Mod.fn;rw[EH,Cc h4];rfl
theorem MW(z:m.Wf)(i:Nat)(h:i∈m.ku):i<m.kinds.length:=by
 rcases BF.mp h with h | h
 ·exact z.kim i h
 ·refine Ah (BB.mp h) ?_;rintro f hf rfl;refine Ah (BB.mp hf) ?_;rintro j hj rfl;exact z.kfn _ (FU (Hq z hj).1)
theorem H3(z:m.Wf){i:Nat}:i∈m.S↔i∈m.ku:=ST (MW z)
theorem YK(a b:Bool)(n:Nat):Br (n+4) (A8 a) (A8 b)=some (a == b):=by rcases a with⟨⟩<;>rcases b with⟨⟩<;>rfl
theorem SU(b:Bool):∀rows:List Bool,D3 (Br 20) (A8 b) (rows.map A8)=some (decide (b∈rows)):=by
 intro z1
 induction z1 with
 | nil =>
  exact rfl
 | cons a rows ih =>
  show(match Br 20 (A8 a) (A8 b),D3 (Br 20) (A8 b) (rows.map A8)with | some a,some b=>some (a || b) | _,_=>none)=_
  rw[YK a b 16,ih];dsimp only
  congr 1
  rcases a with⟨⟩<;>rcases b with⟨⟩<;>simp
theorem AlG(b:Bool):∀rows:List Bool,Hm (Br 20) (A8 b) (rows.map A8)=rows.idxOf b:=by
 intro z1
 induction z1 with
 | nil =>
  exact rfl
 | cons a rows ih =>
  show(if Br 20 (A8 a) (A8 b)=some true then 0 else Hm (Br 20) (A8 b) (rows.map A8)+1)=_;rw[YK a b 16,ih,Aa8];rcases a with⟨⟩<;>rcases b with⟨⟩<;>rfl
theorem YL{rows:List Bool}(h:b∈rows):JM (rows.map A8) (A8 b)=some (Ag (rows.idxOf b)):=by
 unfold JM;rw[SU,AlG,if_pos (by rw[decide_eq_true h])]
theorem AlH{kinds rows:List Bool}(h:b∈rows):b∈DU kinds rows i/\(DU kinds rows i).idxOf b=rows.idxOf b:=by
 unfold DU
 split
 ·exact⟨h,rfl⟩
 ·refine⟨Cb _ h,?_⟩;rw[Aa9,if_pos h]
theorem Po(kinds:List Bool)(S:List Nat)(i:Nat):Cp kinds (S++[i])=DU kinds (Cp kinds S) i:=NK
set_option tactic.hygienic true in
theorem SV(kinds:List Bool):∀(S:List Nat) (rows:List Bool) (b:Bool),b∈S.foldl (DU kinds) rows↔b∈rows\/∃i,i∈S/\kinds.getD i false=b:=by
 intro z1
 induction z1 with
 | nil =>
  intro rows b;exact⟨.inl,λh=>h.elim id λ⟨_,h,_⟩=>nomatch h⟩
 | cons x S ih =>
  intro rows b;refine(ih (DU kinds rows x) b).trans ?_;have e:b∈DU kinds rows x↔b∈rows\/kinds.getD x false=b:=by
   unfold DU
   split
   ·rename_i q;exact⟨.inl,λh=>h.elim id λe=>e▸q⟩
   ·rw[BF,Cr];exact or_congr Iff.rfl eq_comm
  rw[e];exact⟨λh=>h.elim (λh=>h.imp id λh=>⟨x,Dh,h⟩) λ⟨i,h,e⟩=>.inr ⟨i,FO _ h,e⟩,λh=>h.elim (λh=>.inl (.inl h)) λ⟨i,h,e⟩=>(AS.mp h).elim (λq=>.inl (.inr (q▸e))) λh=>.inr ⟨i,h,e⟩⟩
theorem AlI(h:i∈m.S):m.kinds.getD i false∈m.rows:=(SV _ _ _ _).mpr (.inr ⟨i,h,rfl⟩)
theorem AlJ{kinds:List Bool}(h:i∉ys):Cg (Fi kinds (Cp kinds ys) ys) i (Ag ((Cp kinds (ys++[i])).idxOf (kinds.getD i false)))=Fi kinds (Cp kinds (ys++[i])) (ys++[i]):=by
 have q:((Fi kinds (Cp kinds ys) ys).any λp=>decide (p.1=(i:Int)))=false:=by
  rw[Ao8];intro p hp e;refine Ah (BB.mp hp) ?_;rintro j hj rfl;exact h (TB (of_decide_eq_true e)▸hj)
 unfold Cg;rw[q,if_neg (λh=>nomatch h)]
 unfold Fi;rw[BJ]
 congr 1
 refine Lz λj hj => ?_;rw[Po];exact congrArg (λ(x:Nat)=>((j:Int),Ag x)) (AlH (kinds:=kinds) (rows:=Cp kinds ys) (i:=i) ((SV kinds ys [] (kinds.getD j false)).mpr (.inr ⟨j,hj,rfl⟩))).2.symm
theorem YM(kinds:List Bool):∀(S:List Nat) (rows:List Bool),(S.foldl (DU kinds) rows).length<=rows.length+S.length:=by
 intro z1
 induction z1 with
 | nil =>
  intro z2;exact AK _
 | cons x S ih =>
  intro rows;exact AC (ih (DU kinds rows x)) (by
    have:(DU kinds rows x).length<=rows.length+1:=by
     unfold DU
     split
     ·exact U6
     ·rw[Bg];exact AK _
    rw[BH];exact U5 this)
noncomputable abbrev GK(m:Mod):An:=[(Ab "self",.own 0),(Ab "module",.fz (BZ m)),(Ab "used",.own 2)]
noncomputable abbrev YN:List Ac:=nm ["self","module","used"]
noncomputable abbrev Lg(m:Mod):List (Ac×W):=[(Ab "many",.fz (Ag m.ik.length)),(Ab "kept",.fz (Ak (Ai m.used))),(Ab "funcs",.own 1)]
noncomputable abbrev Hr(m:Mod)(ks:List Nat):AH:=[.ins 908 (Lg m),.dct (Fh m.used),.lst (Ai ks)]
theorem AlK(z:m.Wf):m.ku.length<=10:=by
 unfold Mod.ku Mod.kf;rw[Bg,AG,AG];have h1:=Aa6 (λi=>decide (m.ik.length<=i)) m.used;have h2:=z.used_le;have h3:=Pk Df.k m.imports;have h4:=z.imps;have h5:m.own.length<=m.used.length:=h1;have h6:m.iks.length<=m.imports.length:=h3;exact Ado h2 h4 h5 h6
theorem AlL(k:Nat)(m:Mod)(z:m.Wf):BX (fB (k+3) 39 879 (AP 879 4)) 3 YN (m.own.map Ag) (GK m) (Hr m m.iks) (GK m) (Hr m m.ku):=by
 have e0:Hr m m.iks=Hr m (m.iks++(([]:List Nat).map m.fn).map (·.kind)):=by rw[List.map_nil,List.map_nil,Dn]
 rw[e0];exact De Ag (λq=>GK m) (λys=>Hr m (m.iks++(ys.map m.fn).map (·.kind))) m.own m.own (λys i zs e=>by
  refine CZ (Hq z (D8 e)) ?_;rintro h1 h2 h3;have hN:=z.n_le;have p:ER (m.funcs.map Bi) ((i:Int)-(m.ik.length:Int))=some (Bi (m.fn i)):=HZ Bi m.funcs (n:=i-m.ik.length) (Qr h2) (UU h3 hN) h1;have hl:(m.iks++(ys.map m.fn).map (·.kind)).length<=100:=by
   have g:=congrArg Ib e;have g2:=AlK z;unfold Mod.ku Mod.kf at g2;rw[Bg,BH]at g;rw[Bg,AG,AG]at g2 ⊢;exact Adn g g2
  have g1:some (small ((Ai (m.iks++(ys.map m.fn).map (·.kind))).length+1))=some true:=B4 (by rw[Co];exact Ko hl)
  have g2:some (small ((Ai (m.iks++(ys.map m.fn).map (·.kind))++[Ag (m.fn i).kind]).length+([]:List T).length))=some true:=B4 (by rw[Bg,Co];simp only[BH,DL];exact Adm hl)
  have st:Hr m (m.iks++((ys++[i]).map m.fn).map (·.kind))=[.ins 908 (Lg m),.dct (Fh m.used),.lst (Ai (m.iks++(ys.map m.fn).map (·.kind))++[Ag (m.fn i).kind]++[])]:=by
   have e1:m.iks++((ys++[i]).map m.fn).map (·.kind)=(m.iks++(ys.map m.fn).map (·.kind))++[(m.fn i).kind]:=by rw[BJ,BJ,FQ];rfl
   rw[Dn,e1];exact congrArg (λd=>[AO.ins 908 (Lg m),.dct (Fh m.used),.lst d]) (D9 _ [(m.fn i).kind]).symm
  exact⟨[.t (Bi (m.fn i)),.b true,.t (Ak []),.b true],kc (Ae p (Ae g1 (Ae (Alm (k+2) (m.fn i).body) (Ae g2 (f4 (L:=GK m) 3 st.symm (AK 3)))))) (by kernel_rfl)⟩) [] m.own rfl
noncomputable abbrev IQ(m:Mod)(ys:List Nat):AH:=[.ins 908 (Lg m++[(Ab "kinds",.own 3),(Ab "rows",.own 4)]),.dct (Fh m.used),.lst (Ai m.ku),.dct (Fi m.kinds (Cp m.kinds ys) ys),.lst ((Cp m.kinds ys).map A8)]
theorem AlM(k:Nat)(m:Mod)(z:m.Wf):BX (fB (k+3) 39 879 (AP 879 6)) 5 YN (m.S.map Ag) (GK m) (IQ m []) (GK m) (IQ m m.S) :=
 De Ag (λy=>GK m) (λys=>IQ m ys) m.S m.S (λys i zs e=>by
  have hi:i<m.kinds.length:=MW z i ((H3 z).mp (D8 e));have hk:=z.kinds;have hS:m.S.length<=3:=AC (Ho (Hp (H1 _ _)) λj h=>MW z j ((H3 z).mp h)) hk;have hy:=Eu e;have hni:i∉ys:=λh=>by
   have nd:m.S.Nodup:=Hp (H1 _ _);rw[<- e]at nd;exact(FL.mp nd).2.2 i h i Dh rfl
  have p:ER (m.kinds.map A8) (i:Int)=some (A8 (m.kinds.getD i false)):=HZ A8 m.kinds rfl (Adl hi hk) (by rw[EH,Cc hi];rfl)
  have hr:=YM m.kinds ys [];have g2:some (small (Fi m.kinds (Cp m.kinds ys) ys).length)=some true:=B4 (by unfold Fi;rw[AG];exact Adk hS hy)
  have ek:=AlJ (kinds:=m.kinds) hni
  by_cases q:m.kinds.getD i false∈Cp m.kinds ys
  ·have er:Cp m.kinds (ys++[i])=Cp m.kinds ys:=by rw[Po];unfold DU;rw[if_pos q]
   rw[er]at ek;have c:(D3 (Br 20) (A8 (m.kinds.getD i false)) ((Cp m.kinds ys).map A8)).map (!·)=some false:=by rw[SU,decide_eq_true q];rfl
   have x:=YL q;have st:[.ins 908 (Lg m++[(Ab "kinds",.own 3),(Ab "rows",.own 4)]),.dct (Fh m.used),.lst (Ai m.ku),.dct (Cg (Fi m.kinds (Cp m.kinds ys) ys) i (Ag ((Cp m.kinds ys).idxOf (m.kinds.getD i false)))),.lst ((Cp m.kinds ys).map A8)]=IQ m (ys++[i]):=by
    rw[ek];unfold IQ;rw[er]
   exact⟨[.t (A8 (m.kinds.getD i false)),.b false,.t (Ag ((Cp m.kinds ys).idxOf (m.kinds.getD i false))),.b true],kc (Ae p (Ae c (Ae x (Ae g2 (f4 (L:=GK m) 5 st (AK 5)))))) (by kernel_rfl)⟩
  ·have er:Cp m.kinds (ys++[i])=Cp m.kinds ys++[m.kinds.getD i false]:=by rw[Po];unfold DU;rw[if_neg q]
   rw[er]at ek;have c:(D3 (Br 20) (A8 (m.kinds.getD i false)) ((Cp m.kinds ys).map A8)).map (!·)=some true:=by rw[SU,decide_eq_false q];rfl
   have x:=YL (b:=m.kinds.getD i false) (rows:=Cp m.kinds ys++[m.kinds.getD i false]) (Cv _ Dh);rw[BJ]at x;have g1:some (small (((Cp m.kinds ys).map A8).length+1))=some true:=B4 (by
    rw[AG];have:(Cp m.kinds ys).length<=([]:List Bool).length+ys.length:=hr;rw[DL]at this;exact Adj hS hy this)
   have st:[.ins 908 (Lg m++[(Ab "kinds",.own 3),(Ab "rows",.own 4)]),.dct (Fh m.used),.lst (Ai m.ku),.dct (Cg (Fi m.kinds (Cp m.kinds ys) ys) i (Ag ((Cp m.kinds ys++[m.kinds.getD i false]).idxOf (m.kinds.getD i false)))),.lst ((Cp m.kinds ys).map A8++[A8 (m.kinds.getD i false)])]=IQ m (ys++[i]):=by
    rw[ek];unfold IQ;rw[er,BJ];rfl
   exact⟨[.t (A8 (m.kinds.getD i false)),.b true,.b true,.t (Ag ((Cp m.kinds ys++[m.kinds.getD i false]).idxOf (m.kinds.getD i false))),.b true],kc (Ae p (Ae c (Ae g1 (Ae x (Ae g2 (f4 (L:=GK m) 5 st (AK 5))))))) (by kernel_rfl)⟩) [] m.S rfl
theorem AlN(us:List Nat):Gc (Ai us)=us.zipIdx.map λp=>Ax [Ag p.2,Ag p.1]:=by
 unfold Gc Ai;rw[Apa,CY];rfl
theorem AlO(k:Nat)(m:Mod)(z:m.Wf):VC (k+4) 908 [BZ m] (GJ m):=by
 have h1:Cu (cB (k+3) 38 879 [] [.ins 908 [(Ab "many",.fz (Ag m.ik.length)),(Ab "kept",.fz (Ak (Ai m.used)))]] (DE (BY (AP 879 2)) 1)) (Gc (Ai m.used)) (m.used.zipIdx.map λp=>Ax [Ag p.1,Ag p.2]):=by
  rw[AlN];exact C5 (λp:Nat×Nat=>Ax [Ag p.2,Ag p.1]) (λp=>Ax [Ag p.1,Ag p.2]) m.used.zipIdx λp q=>⟨[],kc (tr [AO.ins 908 [(Ab "many",.fz (Ag m.ik.length)),(Ab "kept",.fz (Ak (Ai m.used)))]] (some (Ax [Ag p.1,Ag p.2]))) (by kernel_rfl)⟩
 have h2:=AlE (Hp (H2 m)) (AC z.used_le (U4));have h3:Cu (cB (k+3) 40 879 [] (Hr m []).dropLast (BY (AP 879 3))) (m.imports.map Bw) (Ai m.iks):=by
  rw[<- m.ik_eq];exact HV Bw (λi=>i.k.map Ag) m.imports λa q=>by
   rcases a with j | _
   ·exact⟨[],kc (tr (Hr m []).dropLast (some (Ag j))) (by kernel_rfl)⟩
   ·exact⟨[],kc (tr (Hr m []).dropLast (none:Option T)) (by kernel_rfl)⟩
 have h4:=AlL k m z;rw[<- z.used_drop,show(m.used.drop m.ik.length).map Ag=Ai (m.used.drop m.ik.length)from rfl,<- YJ z.len_used]at h4;have h5:=AlB (N:=m.kinds.length) (MW z) (AC z.kinds (Adi));exact Lb [.t (Ag m.ik.length),.t (Ak (Ai m.used)),.l (m.used.zipIdx.map λp=>Ax [Ag p.1,Ag p.2]),.d (Fh m.used),.l (Ai m.iks),.st (GK m) (Hr m m.ku),.l (Ai m.S),.st (GK m) (IQ m m.S)]
  (kc (Ae (Yw (k+1) m) (Ae (SS k m z) (Ae h1 (Ae h2 (Ae h3 (Ae h4 (Ae h5 (Ae (AlM k m z) (Bd (GJ m)))))))))) (by kernel_rfl))
noncomputable def Mod.fi(m:Mod)(n:Nat):Nat:=m.used.idxOf n
noncomputable def Mod.ki(m:Mod)(i:Nat):Nat:=m.rows.idxOf (m.kinds.getD i false)
noncomputable def Pp(m:Mod):AX->AX
 | .call t n=>.call t (m.fi n)
 | .rf n=>.rf (m.fi n)
 | i=>i
noncomputable def Bl(m:Mod)(b:List AX):List AX:=b.map (Pp m)
noncomputable def DG(m:Mod):Df->Df
 | .f k=>.f (m.ki k)
 | .g=>.g
noncomputable def C6(m:Mod)(f:CP):CP:=⟨m.ki f.kind,Bl m f.body⟩
noncomputable def FH(m:Mod)(g:CQ):CQ:=⟨g.mu,Bl m g.body⟩
noncomputable def Gi(m:Mod):Cz->Cz
 | .f x i=>.f x (m.fi i)
 | .m x=>.m x
noncomputable def Ex(m:Mod)(e:Cn):Cn:=⟨e.mode,e.inits.map (Bl m)⟩
noncomputable def Mod.less(m:Mod):Mod:=⟨m.rows,m.imports.map (DG m),m.kf.map (C6 m),m.globs.map (FH m),m.exps.map (Gi m),m.start.map m.fi,m.elems.map (Ex m)⟩
theorem Lh:∀es:List (A×B),(es.map (·.1)).zip (es.map (·.2))=es:=by
 intro z1
 induction z1 with
 | nil =>
  exact rfl
 | cons p es ih =>
  exact congrArg (p::·) (ih)
theorem MX(h:n∈m.used):Ct (((Fh m.used).map (·.1)).zip ((Fh m.used).map (·.2))) n=some (Ag (m.fi n)):=by
 rw[Lh];exact AlF h
theorem AlP(kinds rows:List Bool):∀{S:List Nat} {i:Nat},i∈S->Ct (Fi kinds rows S) i=some (Ag (rows.idxOf (kinds.getD i false))):=by
 intro z1
 induction z1 with
 | nil=>intros;contradiction
 | cons j S ih =>
  intro i h;show(if(j:Int)=i then some (Ag (rows.idxOf (kinds.getD j false)))else Ct (Fi kinds rows S) i)=_
  by_cases e:j=i
  ·subst e;rw[if_pos rfl]
  ·rw[if_neg (Qx e)];exact ih ((AS.mp h).elim (λq=>absurd q.symm e) id)
theorem YO(h:i∈m.S):Ct (((Fi m.kinds m.rows m.S).map (·.1)).zip ((Fi m.kinds m.rows m.S).map (·.2))) i=some (Ag (m.ki i)):=by
 rw[Lh];exact AlP _ _ h
noncomputable abbrev MY(m:Mod)(b:List AX):An:=[(Ab "self",.fz (GJ m)),(Ab "body",.fz (AU b)),(Ab "found",.own 0)]
theorem AlQ(a b:List AX):a.map Bt++b.map Bt=(a++b).map Bt:=BJ.symm
theorem SW(k:Nat)(m:Mod)(b:List AX)(h:∀n,n∈Bb b->n∈m.used)(hl:b.length<=7):VF (k+1) 886 [GJ m,AU b] (AU (Bl m b)):=by
 have c:BX (fB k 39 886 (AP 886 1)) 1 (nm ["self","body","found"]) (b.map Bt) (MY m b) [.lst []] (MY m b) [.lst ((Bl m b).map Bt)] :=
  De Bt (λz=>MY m b) (λys=>[.lst ((Bl m ys).map Bt)]) b b (λys a zs e=>by
   have g:some (small (((Bl m ys).map Bt).length+1))=some true:=B4 (by
    have:=Eu e;unfold Bl;rw[AG,AG];exact Adq hl this)
   have st:[AO.lst ((Bl m ys).map Bt++[Bt (Pp m a)])]=[.lst ((Bl m (ys++[a])).map Bt)]:=by
    unfold Bl;rw[BJ,BJ];rfl
   have fin:=f4 (L:=MY m b) 1 st (AK 1);have hn:∀n,a.fns=some n->n∈m.used:=λn q=>h n (Ie.mpr ⟨a,D8 e,q⟩);rcases a with⟨t,n⟩ | n | _ | _ | _ | _
   case call =>
    rcases t with _ | _
    ·exact⟨[.a,.a,.a,.a,.t (Ag (m.fi n)),.b true],kc (Ae (MX (hn n rfl)) (Ae g fin)) (by kernel_rfl)⟩
    ·exact⟨[.a,.a,.a,.a,.t (Ag (m.fi n)),.b true],kc (Ae (MX (hn n rfl)) (Ae g fin)) (by kernel_rfl)⟩
   case rf=>exact⟨[.a,.a,.a,.a,.t (Ag (m.fi n)),.b true],kc (Ae (MX (hn n rfl)) (Ae g fin)) (by kernel_rfl)⟩
   all_goals exact⟨[.a,.a,.a,.a,.a,.a,.b true],kc (Ae g fin) (by kernel_rfl)⟩) [] b rfl
 exact Bs [.st (MY m b) [.lst ((Bl m b).map Bt)]] (kc (Ae c (Bd (AU (Bl m b)))) (by kernel_rfl))
theorem AlR(k:Nat)(m:Mod)(i:Df)(h:∀j,i.k=some j->j∈m.S):VF (k+2) 893 [GJ m,Bw i] (Bw (DG m i)):=by
 rcases i with j | _
 ·exact Bs [.t (Ag (m.ki j)),.t (Bw (DG m (.f j)))] (kc (Ae (YO (h j rfl)) (Ae (Ld k (sT "h") (sT "f") (.int 0) (Ag (m.ki j))) (Bd (Bw (DG m (.f j)))))) (by kernel_rfl))
 ·exact Bs [] (kc (Bd (Bw .g)) (by kernel_rfl))
theorem AlS(k:Nat)(m:Mod)(x:Cz)(h:∀j,j∈x.idx->j∈m.used):VF (k+1) 905 [GJ m,Ci x] (Ci (Gi m x)):=by
 rcases x with⟨x,i⟩ | x
 ·exact Bs [.t (Ag (m.fi i))] (kc (Ae (MX (h i Dh)) (Bd (Ci (.f x (m.fi i))))) (by kernel_rfl))
 ·exact Bs [] (kc (Bd (Ci (.m x))) (by kernel_rfl))
theorem AlT(k:Nat)(m:Mod)(e:Cn)(h:∀b,b∈e.inits->(∀n,n∈Bb b->n∈m.used)/\b.length<=7):VF (k+2) 898 [GJ m,Be e] (Be (Ex m e)):=by
 rcases e with⟨mo,bs⟩
 have c:Cu (cB (k+1) 40 898 [(Ab "self",.fz (GJ m))] [] (BY (AP 898 0))) (bs.map AU) (bs.map λb=>AU (Bl m b)):=C5 AU (λb=>AU (Bl m b)) bs λb hb=>⟨[.t (AU (Bl m b))],kc (Ae (SW k m b (h b hb).1 (h b hb).2) (tr ([]:AH) (some (AU (Bl m b))))) (by kernel_rfl)⟩
 have e2:(bs.map λb=>AU (Bl m b))=(bs.map (Bl m)).map AU:=by rw[CY];rfl
 rw[e2]at c;have v:=SN k (MR mo) (.int 0) (ET mo) (.int (-16)) (Ak ((bs.map (Bl m)).map AU));rcases mo with _ | _ | _
 ·exact Bs [.l ((bs.map (Bl m)).map AU),.t (Be (Ex m ⟨.m0,bs⟩))] (kc (Ae c (Ae v (Bd (Be (Ex m ⟨.m0,bs⟩))))) (by kernel_rfl))
 ·exact Bs [.l ((bs.map (Bl m)).map AU),.t (Be (Ex m ⟨.m1,bs⟩))] (kc (Ae c (Ae v (Bd (Be (Ex m ⟨.m1,bs⟩))))) (by kernel_rfl))
 ·exact Bs [.l ((bs.map (Bl m)).map AU),.t (Be (Ex m ⟨.m2,bs⟩))] (kc (Ae c (Ae v (Bd (Be (Ex m ⟨.m2,bs⟩))))) (by kernel_rfl))
theorem AlU(k:Nat)(e:Cn):VF (k+2) 831 [Be e] (Be e):=by
 rcases e with⟨mo,bs⟩
 have c:Cu (cB (k+1) 38 831 [] [] (DE (BY (AP 831 0)) 5)) (bs.map AU) (bs.map AU):=C5 AU AU bs λb hb=>⟨[],kc (tr ([]:AH) (some (AU b))) (by kernel_rfl)⟩
 have v:=SN k (MR mo) (.int 0) (ET mo) (.int (-16)) (Ak (bs.map AU));rcases mo with _ | _ | _
 ·exact Bs [.t (ET .m0),.l (bs.map AU),.t (Be ⟨.m0,bs⟩)] (kc (Ae (Bs (k:=k) (f:=826) (ts:=[ET .m0]) (r:=ET .m0) [] (kc (Bd (ET .m0)) (by kernel_rfl))) (Ae c (Ae v (Bd (Be ⟨.m0,bs⟩))))) (by kernel_rfl))
 ·exact Bs [.t (ET .m1),.l (bs.map AU),.t (Be ⟨.m1,bs⟩)] (kc (Ae (Bs (k:=k) (f:=826) (ts:=[ET .m1]) (r:=ET .m1) [] (kc (Bd (ET .m1)) (by kernel_rfl))) (Ae c (Ae v (Bd (Be ⟨.m1,bs⟩))))) (by kernel_rfl))
 ·exact Bs [.t (ET .m2),.l (bs.map AU),.t (Be ⟨.m2,bs⟩)] (kc (Ae (Bs (k:=k) (f:=826) (ts:=[ET .m2]) (r:=ET .m2) [] (kc (Bd (ET .m2)) (by kernel_rfl))) (Ae c (Ae v (Bd (Be ⟨.m2,bs⟩))))) (by kernel_rfl))
noncomputable def SX:List Ac:=nm ["kinds","imports","funcs","tables","memories","globals","exports","start","elems","datas","customs"]
noncomputable def hM(m:Mod)(kw:W)(i f g x e d c:Nat)(st:T)(rest:AH):AH:=.ins 810 (SX.zip [kw,.own i,.own f,.own 13,.own 14,.own g,.own x,.fz st,.own e,.own d,.own c])::(DW 10 (.lst [])++[.lst (m.kinds.map A8),.lst (m.exps.map Ci),.lst [D6],.lst [D7]]++rest)
noncomputable abbrev iL(m:Mod):AO:=.lst (m.imports.map Bw)
noncomputable abbrev fL(m:Mod):AO:=.lst (m.funcs.map Bi)
noncomputable abbrev gL(m:Mod):AO:=.lst (m.globs.map BI)
noncomputable abbrev eL(m:Mod):AO:=.lst (m.elems.map Be)
noncomputable abbrev nB(m:Mod):An:=[(Ab "numbers",.fz (GJ m))]
theorem Pq(z:m.Wf){b:List AX}(h:∀n,n∈Bb b->CB m.nx m.roots n)(n:Nat)(q:n∈Bb b):n∈m.used:=(Ff z).mpr (h n q)
theorem YQ{g:CQ}(h:g∈m.globs)(n:Nat)(q:n∈Bb g.body):CB m.nx m.roots n:=.root (by
 unfold Mod.roots;exact Cb _ (Cv _ (CF.mpr ⟨g,h,q⟩)))
theorem YR{e:Cn}(h:e∈m.elems){b:List AX}(hb:b∈e.inits)(n:Nat)(q:n∈Bb b):CB m.nx m.roots n:=.root (by
 unfold Mod.roots;exact Cv _ (CF.mpr ⟨e,h,CF.mpr ⟨b,hb,q⟩⟩))
theorem YS{x:Cz}(h:x∈m.exps)(n:Nat)(q:n∈x.idx):CB m.nx m.roots n:=.root (by
 unfold Mod.roots;exact Cb _ (Cb _ (Cb _ (Cv _ (CF.mpr ⟨x,h,q⟩)))))
theorem YT{s:Nat}(h:m.start=some s):CB m.nx m.roots s:=.root (by
 unfold Mod.roots;rw[h];exact Cb _ (Cb _ (Cv _ Dh)))
theorem SY(z:m.Wf){i:Nat}(h:i∈m.own)(n:Nat)(q:n∈Bb (m.fn i).body):CB m.nx m.roots n:=by
 refine CZ (Hq z h) ?_;rintro h1 h2 h3;refine .step ((Ff z).mp (GY.mp h).1) (j:=n) ?_;unfold Mod.nx;rw[if_neg (AbF h2),h1];exact q
theorem YU(z:m.Wf){i:Nat}(h:i∈m.own):(m.fn i).kind∈m.S:=(H3 z).mpr (Cv _ (Dl (Dl h)))
theorem AlV(z:m.Wf){i:Df}(h:i∈m.imports)(j:Nat)(q:i.k=some j):j∈m.S:=(H3 z).mpr (Cb _ (Ie.mpr ⟨i,h,q⟩))
theorem mm(f:A->A)(g:A->B)(xs:List A):xs.map (λx=>g (f x))=(xs.map f).map g:=by rw[CY];rfl
noncomputable abbrev MZ(m:Mod):An:=[(Ab "module",.fz (BZ m)),(Ab "numbers",.fz (GJ m)),(Ab "found",.own 0)]
noncomputable abbrev IR(m:Mod)(st:T)(fs:List CP):AH:=hM m (.fz (Ak (m.rows.map A8))) 21 22 17 12 18 19 20 st [iL m,fL m,gL m,eL m,.lst [],.lst [],.lst ((m.imports.map (DG m)).map Bw),.lst (fs.map Bi)]
theorem AlW(k:Nat)(m:Mod)(z:m.Wf)(st:T):BX (fB (k+4) 39 917 (AP 917 4)) 23 (nm ["module","numbers","found"]) (Mx (Ai m.used) (some (m.ik.length:Int)) none) (MZ m) (IR m st []) (MZ m) (IR m st (m.kf.map (C6 m))):=by
 rw[YJ z.len_used,z.used_drop];have e0:m.kf.map (C6 m)=m.own.map (λi=>C6 m (m.fn i)):=by unfold Mod.kf;rw[CY];rfl
 rw[e0];exact De Ag (λq=>MZ m) (λys=>IR m st (ys.map λi=>C6 m (m.fn i))) m.own m.own (λys i zs e=>by
  refine CZ (Hq z (D8 e)) ?_;rintro h1 h2 h3;have hN:=z.n_le;have p:ER (m.funcs.map Bi) ((i:Int)-(m.ik.length:Int))=some (Bi (m.fn i)):=HZ Bi m.funcs (n:=i-m.ik.length) (Qr h2) (UU h3 hN) h1;have hl:ys.length<=7:=by
   have g:=Eu e;have g1:=Aa6 (λi=>decide (m.ik.length<=i)) m.used;have g2:m.own.length<=m.used.length:=g1;have g3:=z.used_le;exact AbE g g2 g3
  have g1:some (small (((ys.map λi=>C6 m (m.fn i)).map Bi).length+1))=some true:=B4 (by rw[AG,AG];exact AbD hl)
  have v:=SW (k+3) m (m.fn i).body (Pq z (SY z (D8 e))) (z.fb _ (FU h1));have st2:hM m (.fz (Ak (m.rows.map A8))) 21 22 17 12 18 19 20 st [iL m,fL m,gL m,eL m,.lst [],.lst [],.lst ((m.imports.map (DG m)).map Bw),.lst ((ys.map λi=>C6 m (m.fn i)).map Bi++[Bi (C6 m (m.fn i))])]=IR m st ((ys++[i]).map λi=>C6 m (m.fn i)):=by
   unfold IR;rw[BJ,BJ];rfl
  exact⟨[.t (Bi (m.fn i)),.t (Ag (m.ki (m.fn i).kind)),.t (AU (Bl m (m.fn i).body)),.t (Bi (C6 m (m.fn i))),.b true],kc (Ae p (Ae (YO (YU z (D8 e))) (Ae v (Ae (Pi (k+3) (Ag (m.ki (m.fn i).kind)) (Ax []) (AU (Bl m (m.fn i).body))) (Ae g1 (f4 (L:=MZ m) 23 st2 (Nh rfl))))))) (by kernel_rfl)⟩) [] m.own rfl
theorem YV(k:Nat)(m:Mod)(z:m.Wf):VF (k+5) 917 [BZ m] (BZ m.less):=by
 have hst:m.less.start=m.start.map m.fi:=rfl;have all:=λ(st:T) (P:Prop) (tl:P) =>
  have c1:Cu (cB (k+3) 39 807 [] (hM m (.own 11) 2 3 6 12 8 9 10 st []) (BY (AP 807 3))) (m.imports.map Bw) (m.imports.map Bw):=C5 Bw Bw m.imports λa x=>by
   rcases a with j | _
   ·exact⟨[.t (Bw (.f j))],kc (Ae (Ld (k+2) (sT "h") (sT "f") (.int 0) (Ag j)) (tr (hM m (.own 11) 2 3 6 12 8 9 10 st []) (some (Bw (.f j))))) (by kernel_rfl)⟩
   ·exact⟨[.t (Bw .g)],kc (Ae (Ld (k+2) (sT "h") (sT "g") (.int 3) Hn) (tr (hM m (.own 11) 2 3 6 12 8 9 10 st []) (some (Bw .g)))) (by kernel_rfl)⟩
  have c2:Cu (cB (k+3) 39 807 [] (hM m (.own 11) 15 3 6 12 8 9 10 st [iL m]) (BY (AP 807 4))) (m.funcs.map Bi) (m.funcs.map Bi):=C5 Bi Bi m.funcs λa x=>⟨[.t (Bi a)],kc (Ae (Pi (k+2) (Ag a.kind) (Ax []) (AU a.body)) (tr (hM m (.own 11) 15 3 6 12 8 9 10 st [iL m]) (some (Bi a)))) (by kernel_rfl)⟩
  have c3:Cu (cB (k+3) 39 807 [] (hM m (.own 11) 15 16 6 12 8 9 10 st [iL m,fL m]) (BY (AP 807 5))) (m.globs.map BI) (m.globs.map BI):=C5 BI BI m.globs λa x=>⟨[.t (BI a)],kc (Ae (Pj (k+2) (.int (-16)) (Ag a.mu) (AU a.body)) (tr (hM m (.own 11) 15 16 6 12 8 9 10 st [iL m,fL m]) (some (BI a)))) (by kernel_rfl)⟩
  have c4:Cu (cB (k+3) 39 807 [] (hM m (.own 11) 15 16 17 12 8 9 10 st [iL m,fL m,gL m]) (BY (AP 807 6))) (m.elems.map Be) (m.elems.map Be):=C5 Be Be m.elems λa x=>⟨[.t (Be a)],kc (Ae (AlU (k+1) a) (tr (hM m (.own 11) 15 16 17 12 8 9 10 st [iL m,fL m,gL m]) (some (Be a)))) (by kernel_rfl)⟩
  have c5:Cu (cB (k+4) 39 917 (nB m) (hM m (.fz (Ak (m.rows.map A8))) 15 16 17 12 18 19 20 st [iL m,fL m,gL m,eL m,.lst [],.lst []]) (BY (AP 917 2))) (m.imports.map Bw) ((m.imports.map (DG m)).map Bw):=by
   rw[<- mm (DG m) Bw m.imports];exact C5 Bw (λa=>Bw (DG m a)) m.imports λa ha=>⟨[.t (Bw (DG m a))],kc (Ae (AlR (k+2) m a (AlV z ha)) (tr (hM m (.fz (Ak (m.rows.map A8))) 15 16 17 12 18 19 20 st [iL m,fL m,gL m,eL m,.lst [],.lst []]) (some (Bw (DG m a))))) (by kernel_rfl)⟩
  have c6:Cu (cB (k+4) 39 917 (nB m) (IR m st (m.kf.map (C6 m))) (BY (AP 917 5))) (m.globs.map BI) ((m.globs.map (FH m)).map BI):=by
   rw[<- mm (FH m) BI m.globs];exact C5 BI (λa=>BI (FH m a)) m.globs λa ha=>⟨[.t (AU (Bl m a.body)),.t (BI (FH m a))],kc (Ae (SW (k+3) m a.body (Pq z (YQ ha)) (AC (z.gb a ha) (UT))) (Ae (Pj (k+3) (.int (-16)) (Ag a.mu) (AU (Bl m a.body))) (tr (IR m st (m.kf.map (C6 m))) (some (BI (FH m a)))))) (by kernel_rfl)⟩
  have c7:Cu (cB (k+4) 39 917 (nB m) (hM m (.fz (Ak (m.rows.map A8))) 21 22 23 12 18 19 20 st [iL m,fL m,gL m,eL m,.lst [],.lst [],.lst ((m.imports.map (DG m)).map Bw),.lst ((m.kf.map (C6 m)).map Bi),.lst ((m.globs.map (FH m)).map BI)]) (BY (AP 917 6))) (m.exps.map Ci) ((m.exps.map (Gi m)).map Ci):=by
   rw[<- mm (Gi m) Ci m.exps];exact C5 Ci (λa=>Ci (Gi m a)) m.exps λa ha=>⟨[.t (Ci (Gi m a))],kc (Ae (AlS (k+3) m a λj q=>(Ff z).mpr (YS ha j q)) (tr (hM m (.fz (Ak (m.rows.map A8))) 21 22 23 12 18 19 20 st [iL m,fL m,gL m,eL m,.lst [],.lst [],.lst ((m.imports.map (DG m)).map Bw),.lst ((m.kf.map (C6 m)).map Bi),.lst ((m.globs.map (FH m)).map BI)]) (some (Ci (Gi m a))))) (by kernel_rfl)⟩
  have c8:Cu (cB (k+4) 39 917 (nB m) (hM m (.fz (Ak (m.rows.map A8))) 21 22 23 24 18 19 20 st [iL m,fL m,gL m,eL m,.lst [],.lst [],.lst ((m.imports.map (DG m)).map Bw),.lst ((m.kf.map (C6 m)).map Bi),.lst ((m.globs.map (FH m)).map BI),.lst ((m.exps.map (Gi m)).map Ci)]) (BY (AP 917 7))) (m.elems.map Be) ((m.elems.map (Ex m)).map Be):=by
   rw[<- mm (Ex m) Be m.elems];exact C5 Be (λa=>Be (Ex m a)) m.elems λa ha=>⟨[.t (Be (Ex m a))],kc (Ae (AlT (k+2) m a λb hb=>⟨Pq z (YR ha hb),AC (z.eb a ha b hb) (UT)⟩) (tr (hM m (.fz (Ak (m.rows.map A8))) 21 22 23 24 18 19 20 st [iL m,fL m,gL m,eL m,.lst [],.lst [],.lst ((m.imports.map (DG m)).map Bw),.lst ((m.kf.map (C6 m)).map Bi),.lst ((m.globs.map (FH m)).map BI),.lst ((m.exps.map (Gi m)).map Ci)]) (some (Be (Ex m a))))) (by kernel_rfl)⟩
  Ae (AlO k m z) (Ae c1 (Ae c2 (Ae c3 (Ae c4 (Ae (Bd ([]:List T)) (Ae (Bd ([]:List T)) (Ae c5 (Ae (AlW k m z st) (Ae c6 (Ae c7 (Ae c8 tl)))))))))))
 have sr:=λs (h:m.start=some s)=>MX ((Ff z).mpr (YT h));have tl:=YD (Bd (BZ m.less)) sr;refine Bs (k:=k+4) (f:=917) (ts:=[BZ m]) (r:=BZ m.less) (.t (GJ m)::.go::.go::.l (m.imports.map Bw)::.l (m.funcs.map Bi)::.l (m.globs.map BI)::.l (m.elems.map Be)::.l []::.l []::.l ((m.imports.map (DG m)).map Bw)::.st (MZ m) (IR m (DT m.start) (m.kf.map (C6 m)))::.l ((m.globs.map (FH m)).map BI)::.l ((m.exps.map (Gi m)).map Ci)::.l ((m.elems.map (Ex m)).map Be)::(match m.start with
  | none=>[]
  | some s=>[.t (Ag (m.fi s))])) (kc (all (DT m.start) _ tl) ?_)
 clear tl all sr hst z;rcases m with⟨ki,im,fu,gl,ex,start,el⟩
 rcases start with _ | s
 ·kernel_rfl
 ·kernel_rfl
noncomputable def Bo(z:Int)(n:Nat):Nat:=(z.fmod n).toNat
noncomputable def Av(z:Int)(n:Nat):Int:=z.fdiv n
theorem YW(z:Int){n:Nat}(h:0<n):z.fmod n=(Bo z n:Int):=(AoA (Int.fmod_nonneg_of_pos z (UW h))).symm
theorem Dr(z:Int){n:Nat}(h:0<n):Bo z n<n:=by
 have h1:=Int.fmod_lt_of_pos z (b:=n) (UW h);have h2:=YW z h;exact AbL h1 h2
theorem qd{z:Int}(h0:0<n)(h:Bo z n=d):Rv.v (Vf (.int (z.fmod n)))=Rv.v (Vf (Ag d)):=by rw[YW z h0,h]
theorem gm{N:Nat}(h:0<N):some (decide ((N:Int)≠0))=some true:=congrArg some (decide_eq_true (AbK h))
theorem gd{N:Nat}(h:0<N)(h2:N<=100):some (decide ((N:Int)≠0/\(N:Int).natAbs<1073741824))=some true:=congrArg some (decide_eq_true (AbJ h h2))
noncomputable def dA(n:Nat):List Al:=[.go,.q (Ag n),.a,.a,.a]
noncomputable def dN(n:Nat):List Al:=[.go,.b true,.q (Ag n),.a,.b true,.a]
noncomputable def JZ:Nat->List Df
 | 0=>[]
 | 1=>[.f 0,.g]
 | _=>[.f 0,.g,.f 1]
noncomputable def Ey(M:Nat)(fs:List CP):List T:=(As M).map (λz=>Ak [])++fs.map λf=>Ak (Ai (Bb f.body))
noncomputable def hR(z:Int)(st:T)(M:Nat)(fl nl xl gl el dl:List T)(rest:AH):AH :=
 [.lst [.int z],.ins 810 (SX.zip [.own 14,.own 3,.own 4,.own 15,.own 16,.own 7,.own 8,.fz st,.own 9,.own 10,.own 11]),.lst [],.lst ((JZ M).map Bw),.lst fl,.lst [],.lst [],.lst gl,.lst xl,.lst el,.lst [],.lst [],.lst dl,.lst nl,.lst ([false,true,false].map A8),.lst [D6],.lst [D7]]++rest
noncomputable def hL(z:Int)(st:T)(M:Nat)(fs:List CP)(xs:List Cz)(gs:List CQ)(es:List Cn)(rest:AH):AH :=
 hR z st M (fs.map Bi) (Ey M fs) (xs.map Ci) (gs.map BI) (es.map Be) (Ai (AV xs++By gs++BN es)) rest
noncomputable def lB(sc:List T)(w:W)(own M N:Nat)(r:An):An:=[(Ab "script",.fz (Ak sc)),(Ab "declared",.own 12),(Ab "module",.own 1),(Ab "bag",w),(Ab "own",.fz (Ag own)),(Ab "ahead",.fz (Ag M)),(Ab "named",.own 13),(Ab "many",.fz (Ag N))]++r
noncomputable abbrev kB:List String:=["script","declared","module","bag","own","ahead","named","many"]
noncomputable def EU(N:Nat)(z:Int):List AX:=match Bo z 5 with
 | 0=>[.rf (Bo (Av z 5) N),.drop]
 | 1=>[.call false (Bo (Av z 5) N)]
 | 2=>[.call true (Bo (Av z 5) N)]
 | 3=>[.con (Bo (Av z 5) N),.drop]
 | _=>[.nul,.drop]
noncomputable def Pr(N:Nat)(z:Int):Int:=Av (Av z 5) N
noncomputable def H4(N:Nat)(z:Int):Nat->Int
 | 0=>z
 | j+1=>Pr N (H4 N z j)
noncomputable def GL(N:Nat)(z:Int):Nat->List AX
 | 0=>[]
 | j+1=>GL N z j++EU N (H4 N z j)
noncomputable abbrev lD(sc:List T)(own M N a kd:Nat):An:=lB sc (.own 17) own M N [(Ab "at",.fz (Ag a)),(Ab "names",.own 19),(Ab "body",.own 18),(Ab "kind",.fz (Ag kd))]
noncomputable abbrev kD:List Ac:=nm (kB++["at","names","body","kind"])
noncomputable abbrev sD(z:Int)(b:List AX):AH:=[.lst [.int z],.lst (b.map Bt),.lst (Ai (Bb b))]
theorem M0(a b:List AX):Bb (a++b)=Bb a++Bb b:=List.filterMap_append
theorem AlX(N:Nat)(z:Int):(EU N z).length<=2:=by
 unfold EU
 split<;>simp
theorem SZ(N:Nat)(z:Int):∀j,(GL N z j).length<=2*j:=by
 intro z1
 induction z1 with
 | zero =>
  exact AK _
 | succ j ih =>
  have h1:=ih;have h2:=AlX N (H4 N z j);show(GL N z j++EU N (H4 N z j)).length<=_;rw[Bg];exact AbI h1 h2
set_option tactic.hygienic true in
theorem AlY(k:Nat)(sc:List T)(z0:Int)(st:T)(own M N a kd:Nat)(fs:List CP)(xs:List Cz)(gs:List CQ)(es:List Cn)(hN:0<N)(hN2:N<=100)(z:Int)(b:List AX)(hb:b.length<=100)(t:Nat) :
  ∃as,fB (k+2) 38 957 (D5 (DS (AP 957 6)) 2) (Ag t) (lD sc own M N a kd) (hL z0 st M fs xs gs es (sD z b)) as (λfl l2 a2 x=>fl=.next/\JQ 20 kD l2=lD sc own M N a kd/\Ep 20 a2=hL z0 st M fs xs gs es (sD (Pr N z) (b++EU N z))/\20<=a2.length):=by
 have hw:=Dr z (n:=5) (by decide)
 generalize hd:Bo z 5=way at hw
 generalize hn:Bo (Av z 5) N=n
 have hfb:=GI b;have q2:=qd (z:=Av z 5) hN hn;have g:∀c:Nat,c<=2->some (small ((b.map Bt).length+c))=some true:=λc hc=>B4 (by rw[AG];exact AbH hb hc)
 have g2:∀c:Nat,c<=2->some (small ((Ai (Bb b)).length+c))=some true:=λc hc=>B4 (by rw[Co];exact AbG hb hfb hc)
 have fin:=λ(d:List AX) (hdd:EU N z=d)=>f4 (L:=lD sc own M N a kd) (S:=hL z0 st M fs xs gs es [.lst [.int (Pr N z)],.lst (b.map Bt++d.map Bt),.lst (Ai (Bb b)++Ai (Bb d))]) (S':=hL z0 st M fs xs gs es (sD (Pr N z) (b++EU N z))) 20 (by rw[hdd,AlQ,D9,<- M0]) (Nh rfl)
 have q:=qd (z:=z) (n:=5) (by decide) hd
 have all:=λ(P:Prop) (tl:P)=>Ae q (Ae (gm hN) (Ae q2 (Ae (gd hN hN2) tl)));rcases lt5 hw with rfl | rfl | rfl | rfl | rfl
 ·exact⟨.go::(dA 0++dN n++[.a,.b true,.a,.b true]),kc (all _ (Ae (g 2 (Qs)) (Ae (g2 1 (LI)) (fin [.rf n,.drop] (by unfold EU;simp only[hd,hn]))))) (by kernel_rfl)⟩
 ·exact⟨.go::(dA 1++dN n++[.a,.a,.a,.a,.a,.b true,.a,.b true]),kc (all _ (Ae (g 1 (LI)) (Ae (g2 1 (LI)) (fin [.call false n] (by unfold EU;simp only[hd,hn]))))) (by kernel_rfl)⟩
 ·exact⟨.go::(dA 2++dN n++[.a,.a,.a,.a,.a,.b true,.a,.b true]),kc (all _ (Ae (g 1 (LI)) (Ae (g2 1 (LI)) (fin [.call true n] (by unfold EU;simp only[hd,hn]))))) (by kernel_rfl)⟩
 ·exact⟨.go::(dA 3++dN n++[.a,.a,.a,.b true,.a,.b true]),kc (all _ (Ae (g 2 (Qs)) (Ae (g2 0 (UV)) (fin [.con n,.drop] (by unfold EU;simp only[hd,hn]))))) (by kernel_rfl)⟩
 ·exact⟨.go::(dA 4++dN n++[.a,.a,.a,.b true,.a,.b true]),kc (all _ (Ae (g 2 (Qs)) (Ae (g2 0 (UV)) (fin [.nul,.drop] (by unfold EU;simp only[hd]))))) (by kernel_rfl)⟩
section
noncomputable def cell(is:List Int)(a:Nat):Int:=is.getD a 0
noncomputable def CW(is:List Int):List T:=is.map .int
theorem M1(k:Nat)(is:List Int)(hl:is.length<=63)(a:Nat):VF (k+1) 924 [Ak (CW is),Ag a] (.int (cell is a)):=by
 by_cases h:a<is.length
 ·have c:some (decide ((a:Int)<((CW is).length:Int)))=some true:=congrArg some (decide_eq_true (by unfold CW;rw[AG];exact Qt h))
  have p:ER (CW is) (a:Int)=some (.int (cell is a)):=HZ T.int is rfl (AbR hl h) (by unfold cell;rw[EH,Cc h];rfl)
  exact Bs [.b true,.t (.int (cell is a))] (kc (Ae c (Ae p (Bd (T.int (cell is a))))) (by kernel_rfl))
 ·have c:some (decide ((a:Int)<((CW is).length:Int)))=some false:=congrArg some (decide_eq_false (by unfold CW;rw[AG];exact AbQ h))
  have e:T.int 0=.int (cell is a):=by unfold cell;rw[EH,Gn (Qq h)];rfl
  exact Bs [.b false] (kc (Ae c e) (by kernel_rfl))
noncomputable def H5(N:Nat)(z:Int):CP:=⟨Bo z 3,GL N (Av (Av z 3) 4) (Bo (Av z 3) 4)++[.fin]⟩
set_option tactic.hygienic true in
theorem f5{L:An}{S S':AH}(n m:Nat)(h:S=S')(hn:PN n m=true):BS.next=.next/\L=L/\S=S'/\n<=m:=⟨rfl,rfl,h,Nh hn⟩
section
variable (k:Nat)(is:List Int)(hl:is.length<=63)(z0:Int)(st:T)(own M N:Nat)(hN:0<N)(hN2:N<=100)(fs:List CP)(xs:List Cz)(gs:List CQ)(es:List Cn)
set_option tactic.hygienic true in
include hl hN hN2 in
theorem AlZ(hf:fs.length<=100)(hM:M<=100)(w:W)(a:Nat) :
  ∃as,fB (k+2) 39 957 (AP 957 6) (Ag a) (lB (CW is) w own M N []) (hL z0 st M fs xs gs es []) as (λfl l2 a2 q=>fl=.next/\JQ 17 (nm kB) l2=lB (CW is) .junk own M N []/\Ep 17 a2=hL z0 st M (fs++[H5 N (cell is (1+a))]) xs gs es []/\17<=a2.length):=by
 generalize hz:cell is (1+a)=z
 have v:=M1 (k+1) is hl (1+a);rw[hz]at v
 generalize hkd:Bo z 3=kd
 generalize hd:Bo (Av z 3) 4=d
 have q1:=qd (z:=z) (n:=3) (by decide) hkd
 have q2:=qd (z:=Av z 3) (n:=4) (by decide) hd
 have d4:d<4:=hd▸Dr (Av z 3) (by decide)
 generalize hz2:Av (Av z 3) 4=z2
 have loop:BX (fB (k+2) 38 957 (D5 (DS (AP 957 6)) 2)) 20 kD ((As d).map Ag) (lD (CW is) own M N a kd) (hL z0 st M fs xs gs es (sD z2 [])) (lD (CW is) own M N a kd) (hL z0 st M fs xs gs es (sD (H4 N z2 d) (GL N z2 d))):=by
  have:=De (B:=fB (k+2) 38 957 (D5 (DS (AP 957 6)) 2)) (n:=20) (ks:=kD) Ag (λq=>lD (CW is) own M N a kd) (λys:List Nat=>hL z0 st M fs xs gs es (sD (H4 N z2 ys.length) (GL N z2 ys.length))) (As d) (As d) (λys t zs e=>by
   have hy:=Eu e;rw[BR]at hy;have:=SZ N z2 ys.length;have:=AlY k (CW is) z0 st own M N a kd fs xs gs es hN hN2 (H4 N z2 ys.length) (GL N z2 ys.length) (AbP d4 hy this) t;rw[Bg];exact this) [] (As d) rfl
  rw[BR]at this;exact this
 have db:=SZ N z2 d
 generalize hb:GL N z2 d=b at loop db
 generalize H4 N z2 d=z3 at loop
 have hfb:=GI b;have rg:=JY (n:=d) (AbO d4);have g1:some (small ((b.map Bt).length + [Bt .fin].length))=some true:=B4 (by rw[AG];simp only[BH,DL];exact AbN d4 db)
 have c:=Pi (k+1) (Ag kd) (Ax []) (Ak (b.map Bt++[Bt .fin]));have g2:some (small ((fs.map Bi).length+1))=some true:=B4 (by rw[AG];exact Ko hf)
 have g3:some (small ((Ey M fs).length+1))=some true:=B4 (by unfold Ey;rw[Bg,AG,AG,BR];exact AbM hf hM)
 have ef:H5 N z=⟨kd,b++[.fin]⟩:=by unfold H5;rw[hkd,hd,hz2,hb]
 have e1:(fs++[H5 N z]).map Bi=fs.map Bi++[IK [Ag kd,Ax [],Ak (b.map Bt++[Bt .fin])]]:=by
  rw[ef,BJ];show fs.map Bi++[IK [Ag kd,Ax [],Ak ((b++[AX.fin]).map Bt)]]=_;rw[BJ];rfl
 have e2:Ey M (fs++[H5 N z])=Ey M fs++[Ak (Ai (Bb b))]:=by
  unfold Ey;rw[ef,BJ,FQ];show _++(_++[Ak (Ai (Bb (b++[AX.fin])))])=_;rw[M0,show Bb [AX.fin]=[]from rfl,Dn]
 have s:hR z0 st M (fs.map Bi++[IK [Ag kd,Ax [],Ak (b.map Bt++[Bt .fin])]]) (Ey M fs++[Ak (Ai (Bb b))]) (xs.map Ci) (gs.map BI) (es.map Be) (Ai (AV xs++By gs++BN es)) []=hL z0 st M (fs++[H5 N z]) xs gs es []:=by
  unfold hL;rw[e1,e2]
 subst hz2;exact⟨.t (.int z)::(dA kd++dA d++[.l (Ai (As d)),.st (lD (CW is) own M N a kd) (hL z0 st M fs xs gs es (sD z3 b)),.b true,.t (IK [Ag kd,Ax [],Ak (b.map Bt++[Bt .fin])]),.b true,.b true]),
  kc (Ae v (Ae q1 (Ae q2 (Ae rg (Ae loop (Ae g1 (Ae c (Ae g2 (Ae g3 (f5 (L:=lB (CW is) .junk own M N []) 17 20 s rfl)))))))))) (by kernel_rfl)⟩
end
end
section
noncomputable def Ps(a:Nat):Ac:=Ab "e" ++ Ab (toString (a:Int))
noncomputable def FI(N:Nat)(z:Int)(a:Nat):List Cz:=match Bo z 2 with
 | 1=>(match Bo (Av z 2) 2 with
  | 0=>[.f (Ps a) (Bo (Av (Av z 2) 2) N)]
  | _=>[.m (Ps a)])
 | _=>[]
noncomputable def C4(N:Nat)(z:Int):AX:=match Bo z 4 with
 | 3=>.nul
 | _=>.rf (Bo (Av z 4) N)
noncomputable def Ez(N:Nat)(z:Int):Int:=match Bo z 4 with
 | 3=>Av z 4
 | _=>Av (Av z 4) N
noncomputable def Ea(N:Nat)(z:Int):List CQ:=match Bo z 2 with
 | 1=>[⟨Bo (Ez N (Av z 2)) 2,[C4 N (Av z 2),.fin]⟩]
 | _=>[]
noncomputable def J0(N:Nat)(z:Int):Nat->Int
 | 0=>z
 | j+1=>Ez N (J0 N z j)
noncomputable def Fj(N:Nat)(z:Int):Nat->List (List AX)
 | 0=>[]
 | j+1=>Fj N z j++[[C4 N (J0 N z j),.fin]]
noncomputable def Pt:Nat->MO
 | 0=>.m0
 | 1=>.m1
 | _=>.m2
noncomputable def Fk(N:Nat)(z:Int):List Cn:=match Bo z 2 with
 | 1=>[⟨Pt (Bo (Av z 2) 3),Fj N (Av (Av (Av z 2) 3) 3) (1+Bo (Av (Av z 2) 3) 3)⟩]
 | _=>[]
theorem YX(h:a<3):some (small ((Ab "e").length+(Ab (toString (a:Int))).length))=some true:=by
 rcases Lc h with rfl | rfl | rfl
 ·kernel_rfl
 ·kernel_rfl
 ·kernel_rfl
theorem Al0(a b:List Cz):AV (a++b)=AV a++AV b:=Qf
theorem Al1(a b:List CQ):By (a++b)=By a++By b:=Qf
theorem Al2(a b:List Cn):BN (a++b)=BN a++BN b:=Qf
section
variable (k:Nat)(is:List Int)(hl:is.length<=63)(z0:Int)(st:T)(own M N:Nat)(hN:0<N)(hN2:N<=100)(fs:List CP)(xs:List Cz)(gs:List CQ)(es:List Cn)
noncomputable abbrev lJ(is:List Int)(own M N:Nat):An:=lB (CW is) .junk own M N []
set_option tactic.hygienic true in
noncomputable def M2(k i:Nat)(is:List Int)(own M N a:Nat)(H H':AH):Prop:=∃as,fB (k+2) 39 957 (AP 957 i) (Ag a) (lJ is own M N) H as (λfl l2 a2 z=>fl=.next/\JQ 17 (nm kB) l2=lJ is own M N/\Ep 17 a2=H'/\17<=a2.length)
include hl hN hN2 in
theorem Al3(hx:xs.length<=100)(a:Nat)(ha:a<3) :
  M2 k 7 is own M N a (hL z0 st M fs xs [] [] []) (hL z0 st M fs (xs++FI N (cell is (5+a)) a) [] [] []):=by
 generalize hz:cell is (5+a)=z
 have v:=M1 (k+1) is hl (5+a);rw[hz]at v;have h2:=Dr z (n:=2) (by decide)
 generalize hd:Bo z 2=d at h2
 have q1:=qd (z:=z) (n:=2) (by decide) hd
 have hxl:(AV xs).length<=1*xs.length:=Le xs;have g1:some (decide ((a:Int).natAbs<9223372036854775808))=some true:=congrArg some (decide_eq_true (AbU ha));have g3:some (small ((xs.map Ci).length+1))=some true:=B4 (by rw[AG];exact Ko hx)
 have g4:∀c:Nat,c<=1->some (small ((Ai (AV xs++By []++BN [])).length+c))=some true:=λc hc=>B4 (by
  rw[Co,Bg,Bg];show(AV xs).length+0+0+c<=4000;exact AbT hx hxl hc)
 have fin:=λ(m:Nat) (e:List Cz) (d:List Nat) (he:FI N z a=e) (hd:AV e=d) (hm:PN 17 m=true)=>f5 (L:=lJ is own M N) (S:=hR z0 st M (fs.map Bi) (Ey M fs) (xs.map Ci++e.map Ci) [] [] (Ai (AV xs++By []++BN [])++Ai d) []) (S':=hL z0 st M fs (xs++FI N z a) [] [] []) 17 m (by
  unfold hL;rw[he,BJ,Al0,hd,D9]
  congr 2
  show AV xs++[]++[]++d=AV xs++d++[]++[];simp only[Dn]) hm
 rcases Pg h2 with rfl | rfl
 ·have e:FI N z a=[]:=by unfold FI;simp only[hd]
  exact⟨.t (.int z)::(dA 0++[.a]),kc (Ae v (Ae q1 (f5 (L:=lJ is own M N) (S:=hL z0 st M fs xs [] [] []) (S':=hL z0 st M fs (xs++FI N z a) [] [] []) 17 18 (by rw[e,Dn]) rfl))) (by kernel_rfl)⟩
 ·have h3:=Dr (Av z 2) (n:=2) (by decide)
  generalize hs:Bo (Av z 2) 2=s at h3
  have q2:=qd (z:=Av z 2) (n:=2) (by decide) hs
  rcases Pg h3 with rfl | rfl
  ·generalize hn:Bo (Av (Av z 2) 2) N=n
   have q3:=qd (z:=Av (Av z 2) 2) hN hn;exact⟨.t (.int z)::(dA 1++[.a]++dA 0++[.a,.a]++dN n++[.b true,.b true,.b true,.a,.b true]),
    kc (Ae v (Ae q1 (Ae q2 (Ae (gm hN) (Ae q3 (Ae (gd hN hN2) (Ae g1 (Ae (YX ha) (Ae g3 (Ae (g4 1 (AK _)) (fin 18 [.f (Ps a) n] [n] (by unfold FI;simp only[hd,hs,hn]) rfl rfl))))))))))) (by kernel_rfl)⟩
  ·exact⟨.t (.int z)::(dA 1++[.a]++dA 1++[.a,.a,.b true,.b true,.b true,.a,.b true]),
    kc (Ae v (Ae q1 (Ae q2 (Ae g1 (Ae (YX ha) (Ae g3 (Ae (g4 0 (Gl _)) (fin 18 [.m (Ps a)] [] (by unfold FI;simp only[hd,hs]) rfl rfl)))))))) (by kernel_rfl)⟩
include hl hN hN2 in
theorem Al4(hx:xs.length<=100)(hg:gs.length<=100)(hgb:(By gs).length<=300)(a:Nat) :
  M2 k 8 is own M N a (hL z0 st M fs xs gs [] []) (hL z0 st M fs xs (gs++Ea N (cell is (8+a))) [] []):=by
 generalize hz:cell is (8+a)=z
 have v:=M1 (k+1) is hl (8+a);rw[hz]at v;have h2:=Dr z (n:=2) (by decide)
 generalize hd:Bo z 2=d at h2
 have q1:=qd (z:=z) (n:=2) (by decide) hd
 have hxl:(AV xs).length<=1*xs.length:=Le xs;have g3:some (small ((gs.map BI).length+1))=some true:=B4 (by rw[AG];exact Ko hg)
 have g4:∀c:Nat,c<=1->some (small ((Ai (AV xs++By gs++BN [])).length+c))=some true:=λc hc=>B4 (by
  rw[Co,Bg,Bg];show(AV xs).length+(By gs).length+0+c<=4000;exact AbS hx hgb hxl hc)
 have fin:=λ(m:Nat) (e:List CQ) (d:List Nat) (he:Ea N z=e) (hd:By e=d) (hm:PN 17 m=true)=>f5 (L:=lJ is own M N) (S:=hR z0 st M (fs.map Bi) (Ey M fs) (xs.map Ci) (gs.map BI++e.map BI) [] (Ai (AV xs++By gs++BN [])++Ai d) []) (S':=hL z0 st M fs xs (gs++Ea N z) [] []) 17 m (by
  unfold hL;rw[he,BJ,Al1,hd,D9]
  congr 2
  show AV xs++By gs++[]++d=AV xs++(By gs++d)++[];simp only[Dn,FQ]) hm
 rcases Pg h2 with rfl | rfl
 ·have e:Ea N z=[]:=by unfold Ea;simp only[hd]
  exact⟨.t (.int z)::(dA 0++[.a]),kc (Ae v (Ae q1 (f5 (L:=lJ is own M N) (S:=hL z0 st M fs xs gs [] []) (S':=hL z0 st M fs xs (gs++Ea N z) [] []) 17 18 (by rw[e,Dn]) rfl))) (by kernel_rfl)⟩
 ·have h3:=Dr (Av z 2) (n:=4) (by decide)
  generalize hs:Bo (Av z 2) 4=s at h3
  have q2:=qd (z:=Av z 2) (n:=4) (by decide) hs
  have nul:s=3->M2 k 8 is own M N a (hL z0 st M fs xs gs [] []) (hL z0 st M fs xs (gs++Ea N z) [] []):=λh=>by
   subst h
   generalize hm:Bo (Av (Av z 2) 4) 2=mu
   have q3:=qd (z:=Av (Av z 2) 4) (n:=2) (by decide) hm
   exact⟨(.t (.int z)::(dA 1++[.a,.go]++dA 3++[.a]++dA mu++[.t (MP [.int (-16),Ag mu,AU [.nul,.fin]]),.b true,.a,.b true])),kc (Ae v (Ae q1 (Ae q2 (Ae q3 (Ae (Pj (k+1) (.int (-16)) (Ag mu) (AU [.nul,.fin])) (Ae g3 (Ae (g4 0 (Gl _)) (fin 18 [⟨mu,[.nul,.fin]⟩] [] (by unfold Ea;simp only[hd];unfold Ez C4;simp only[hs,hm]) rfl rfl)))))))) (by kernel_rfl)⟩
  have ref:C4 N (Av z 2)=.rf (Bo (Av (Av z 2) 4) N)->Ez N (Av z 2)=Av (Av (Av z 2) 4) N->(Br 20 (Ag s) (.int 3))=some false->M2 k 8 is own M N a (hL z0 st M fs xs gs [] []) (hL z0 st M fs xs (gs++Ea N z) [] []):=λhr hrz hc=>by
   generalize hn:Bo (Av (Av z 2) 4) N=n at hr
   have q3:=qd (z:=Av (Av z 2) 4) hN hn
   generalize hm:Bo (Av (Av (Av z 2) 4) N) 2=mu
   have q4:=qd (z:=Av (Av (Av z 2) 4) N) (n:=2) (by decide) hm
   exact⟨(.t (.int z)::(dA 1++[.a,.go]++dA s++[.b false]++dN n++dA mu++[.t (MP [.int (-16),Ag mu,AU [.rf n,.fin]]),.b true,.a,.b true])),kc (Ae v (Ae q1 (Ae q2 (Ae hc (Ae (gm hN) (Ae q3 (Ae (gd hN hN2) (Ae q4 (Ae (Pj (k+1) (.int (-16)) (Ag mu) (AU [.rf n,.fin])) (Ae g3 (Ae (g4 1 (AK _)) (fin 18 [⟨mu,[.rf n,.fin]⟩] [n] (by unfold Ea;simp only[hd];rw[hr,hrz,hm]) rfl rfl)))))))))))) (by kernel_rfl)⟩
  rcases Yq h3 with rfl | rfl | rfl | rfl
  ·exact ref (by unfold C4;simp only[hs]) (by unfold Ez;simp only[hs]) rfl
  ·exact ref (by unfold C4;simp only[hs]) (by unfold Ez;simp only[hs]) rfl
  ·exact ref (by unfold C4;simp only[hs]) (by unfold Ez;simp only[hs]) rfl
  ·exact nul rfl
end
end
section
section
variable (k:Nat)(is:List Int)(hl:is.length<=63)(z0:Int)(st:T)(own M N:Nat)(hN:0<N)(hN2:N<=100)(fs:List CP)(xs:List Cz)(gs:List CQ)(es:List Cn)
noncomputable abbrev lE(is:List Int)(own M N a mo:Nat):An:=lB (CW is) (.own 17) own M N [(Ab "at",.fz (Ag a)),(Ab "inits",.own 18),(Ab "mode",.fz (Ag mo))]
noncomputable abbrev kE:List Ac:=nm (kB++["at","inits","mode"])
noncomputable abbrev hE(z0:Int)(st:T)(M:Nat)(fs:List CP)(xs:List Cz)(gs:List CQ)(es:List Cn)(z:Int)(bs:List (List AX)):AH:=hR z0 st M (fs.map Bi) (Ey M fs) (xs.map Ci) (gs.map BI) (es.map Be) (Ai (AV xs++By gs++BN es++C3 bs)) [.lst [.int z],.lst (bs.map AU)]
set_option tactic.hygienic true in
noncomputable def YY(k:Nat)(is:List Int)(own M N a mo t:Nat)(H H':AH):Prop:=∃as,fB (k+2) 37 957 (D5 (DS (D5 (DS (AP 957 9)) 1)) 1) (Ag t) (lE is own M N a mo) H as (λfl l2 a2 z=>fl=.next/\JQ 19 kE l2=lE is own M N a mo/\Ep 19 a2=H'/\19<=a2.length)
include hN hN2 in
theorem Al5(a mo:Nat)(z:Int)(bs:List (List AX))(hb:bs.length<=100)(hD:(AV xs++By gs++BN es++C3 bs).length<=1000)(t:Nat) :
  YY k is own M N a mo t (hE z0 st M fs xs gs es z bs) (hE z0 st M fs xs gs es (Ez N z) (bs++[[C4 N z,.fin]])):=by
 have h3:=Dr z (n:=4) (by decide)
 generalize hs:Bo z 4=s at h3
 have q2:=qd (z:=z) (n:=4) (by decide) hs
 have g3:some (small ((bs.map AU).length+1))=some true:=B4 (by rw[AG];exact Ko hb)
 have g4:∀c:Nat,c<=1->some (small ((Ai (AV xs++By gs++BN es++C3 bs)).length+c))=some true:=λc hc=>B4 (by rw[Co];exact AbY hD hc)
 have fin:=λ(i:AX) (z':Int) (he:C4 N z=i) (hz:Ez N z=z')=>f4 (L:=lE is own M N a mo) (S:=hR z0 st M (fs.map Bi) (Ey M fs) (xs.map Ci) (gs.map BI) (es.map Be) (Ai (AV xs++By gs++BN es++C3 bs)++Ai (Ca [i,.fin])) [.lst [.int z'],.lst (bs.map AU++[AU [i,.fin]])]) (S':=hE z0 st M fs xs gs es (Ez N z) (bs++[[C4 N z,.fin]])) 19 (by
  unfold hE;rw[he,hz,BJ,D9]
  congr 2
  rw[FQ]
  congr 1
  unfold C3;rw[GH]) (Nh rfl)
 have ref:C4 N z=.rf (Bo (Av z 4) N)->Ez N z=Av (Av z 4) N->(Br 20 (Ag s) (.int 3))=some false->YY k is own M N a mo t (hE z0 st M fs xs gs es z bs) (hE z0 st M fs xs gs es (Ez N z) (bs++[[C4 N z,.fin]])):=λhr hrz hc=>by
  generalize hn:Bo (Av z 4) N=n at hr
  have q3:=qd (z:=Av z 4) hN hn;exact⟨(.go::(dA s++[.b false]++dN n++[.b true,.a,.b true])),kc (Ae q2 (Ae hc (Ae (gm hN) (Ae q3 (Ae (gd hN hN2) (Ae g3 (Ae (g4 1 (AK _)) (fin (.rf n) _ hr hrz)))))))) (by kernel_rfl)⟩
 rcases Yq h3 with rfl | rfl | rfl | rfl
 ·exact ref (by unfold C4;simp only[hs]) (by unfold Ez;simp only[hs]) rfl
 ·exact ref (by unfold C4;simp only[hs]) (by unfold Ez;simp only[hs]) rfl
 ·exact ref (by unfold C4;simp only[hs]) (by unfold Ez;simp only[hs]) rfl
 ·exact⟨(.go::(dA 3++[.a]++[.b true,.a,.b true])),kc (Ae q2 (Ae g3 (Ae (g4 0 (Gl _)) (fin .nul (Av z 4) (by unfold C4;simp only[hs]) (by unfold Ez;simp only[hs]))))) (by kernel_rfl)⟩
theorem S0(z:Int):∀j,(Fj N z j).length=j:=by
 intro z1
 induction z1 with
 | zero =>
  exact rfl
 | succ j ih =>
  show(Fj N z j++[[C4 N (J0 N z j),.fin]]).length=_;rw[Bg,ih];rfl
theorem YZ(z:Int):∀j b,b∈Fj N z j->b.length<=2:=by
 intro z1
 induction z1 with
 | zero =>
  intro z2 h;exact nomatch h
 | succ j ih =>
  intro b h;exact(BF.mp h).elim (ih b) λh=>by rw[Cr.mp h];exact AK _
theorem Al6(z:Int)(j:Nat):(C3 (Fj N z j)).length<=2*j:=by
 have:=Dw Ca 2 (Fj N z j) λb hb=>AC (IN _) (YZ N z j b hb);rw[S0]at this;exact this
include hl hN hN2 in
theorem Al7(he:es.length<=100)(hD:(AV xs++By gs++BN es).length<=900)(a:Nat) :
  M2 k 9 is own M N a (hL z0 st M fs xs gs es []) (hL z0 st M fs xs gs (es++Fk N (cell is (11+a))) []):=by
 generalize hz:cell is (11+a)=z
 have v:=M1 (k+1) is hl (11+a);rw[hz]at v;have h2:=Dr z (n:=2) (by decide)
 generalize hd:Bo z 2=d at h2
 have q1:=qd (z:=z) (n:=2) (by decide) hd
 have g3:some (small ((es.map Be).length+1))=some true:=B4 (by rw[AG];exact Ko he)
 rcases Pg h2 with rfl | rfl
 ·have e:Fk N z=[]:=by unfold Fk;simp only[hd]
  exact⟨.t (.int z)::(dA 0++[.a]),kc (Ae v (Ae q1 (f5 (L:=lJ is own M N) (S:=hL z0 st M fs xs gs es []) (S':=hL z0 st M fs xs gs (es++Fk N z) []) 17 18 (by rw[e,Dn]) rfl))) (by kernel_rfl)⟩
 ·have h3:=Dr (Av z 2) (n:=3) (by decide)
  generalize hs:Bo (Av z 2) 3=mo at h3
  have q2:=qd (z:=Av z 2) (n:=3) (by decide) hs
  have h4:=Dr (Av (Av z 2) 3) (n:=3) (by decide)
  generalize hc:Bo (Av (Av z 2) 3) 3=c at h4
  have q3:=qd (z:=Av (Av z 2) 3) (n:=3) (by decide) hc
  have rg:=JY (n:=1+c) (AbX h4);have loop:BX (fB (k+2) 37 957 (D5 (DS (D5 (DS (AP 957 9)) 1)) 1)) 19 kE ((As (1+c)).map Ag) (lE is own M N a mo) (hE z0 st M fs xs gs es (Av (Av (Av z 2) 3) 3) []) (lE is own M N a mo) (hE z0 st M fs xs gs es (J0 N (Av (Av (Av z 2) 3) 3) (1+c)) (Fj N (Av (Av (Av z 2) 3) 3) (1+c))):=by
   have:=De (B:=fB (k+2) 37 957 (D5 (DS (D5 (DS (AP 957 9)) 1)) 1)) (n:=19) (ks:=kE) Ag (λx=>lE is own M N a mo) (λys:List Nat=>hE z0 st M fs xs gs es (J0 N (Av (Av (Av z 2) 3) 3) ys.length) (Fj N (Av (Av (Av z 2) 3) 3) ys.length)) (As (1+c)) (As (1+c)) (λys t zs e=>by
    have hy:=Eu e;rw[BR]at hy;have h6:=Al6 N (Av (Av (Av z 2) 3) 3) ys.length;have:=Al5 k is z0 st own M N hN hN2 fs xs gs es a mo (J0 N (Av (Av (Av z 2) 3) 3) ys.length) (Fj N (Av (Av (Av z 2) 3) 3) ys.length) (by rw[S0];exact AbW h4 hy) (by rw[Bg];exact AbV hD h4 hy h6) t
    rw[Bg];exact this) [] (As (1+c)) rfl
   rw[BR]at this;exact this
  have ee:Fk N z=[⟨Pt mo,Fj N (Av (Av (Av z 2) 3) 3) (1+c)⟩]:=by unfold Fk;simp only[hd];rw[hs,hc]
  generalize J0 N (Av (Av (Av z 2) 3) 3) (1+c)=z' at loop
  generalize Fj N (Av (Av (Av z 2) 3) 3) (1+c)=bs at loop ee
  have e0:hE z0 st M fs xs gs es (Av (Av (Av z 2) 3) 3) []=hL z0 st M fs xs gs es [.lst [.int (Av (Av (Av z 2) 3) 3)],.lst []]:=by
   unfold hE hL;rw[show C3 []=[]from rfl,Dn];rfl
  rw[e0]at loop;have fin:=f5 (L:=lJ is own M N) (S:=hR z0 st M (fs.map Bi) (Ey M fs) (xs.map Ci) (gs.map BI) (es.map Be++[Be ⟨Pt mo,bs⟩]) (Ai (AV xs++By gs++BN es++C3 bs)) []) (S':=hL z0 st M fs xs gs (es++Fk N z) []) 17 19 (by
   have q:BN (es++[⟨Pt mo,bs⟩])=BN es++C3 bs:=(Al2 es _).trans (congrArg (BN es++·) (Dn _));unfold hL;rw[ee,BJ,q,FQ (AV xs++By gs)];rfl) rfl
  have all:=λ(P:Prop) (tl:P)=>Ae v (Ae q1 (Ae q2 (Ae q3 (Ae rg (Ae loop (Ae tl (Ae g3 fin)))))));have vc:=λ(off:T)=>SN (k+1) (Ag mo) (.int 0) off (.int (-16)) (Ak (bs.map AU));rcases Lc h3 with rfl | rfl | rfl
  ·exact⟨.t (.int z)::(dA 1++[.a]++dA 0++dA c++[.a,.l (Ai (As (1+c))),.st (lE is own M N a 0) (hE z0 st M fs xs gs es z' bs),.a,.t (Be ⟨.m0,bs⟩),.b true]),kc (all _ (vc .none)) (by kernel_rfl)⟩
  ·exact⟨.t (.int z)::(dA 1++[.a]++dA 1++dA c++[.a,.l (Ai (As (1+c))),.st (lE is own M N a 1) (hE z0 st M fs xs gs es z' bs),.a,.t (Be ⟨.m1,bs⟩),.b true]),kc (all _ (vc (AU [.con 3,.fin]))) (by kernel_rfl)⟩
  ·exact⟨.t (.int z)::(dA 1++[.a]++dA 2++dA c++[.a,.l (Ai (As (1+c))),.st (lE is own M N a 2) (hE z0 st M fs xs gs es z' bs),.a,.t (Be ⟨.m2,bs⟩),.b true]),kc (all _ (vc .none)) (by kernel_rfl)⟩
end
end
section
noncomputable def H6(is:List Int)(N:Nat)(ys:List Nat):List CP:=ys.map λa=>H5 N (cell is (1+a))
noncomputable def H7(is:List Int)(N:Nat)(ys:List Nat):List Cz:=ys.flatMap λa=>FI N (cell is (5+a)) a
noncomputable def GM(is:List Int)(N:Nat)(ys:List Nat):List CQ:=ys.flatMap λa=>Ea N (cell is (8+a))
noncomputable def Ht(is:List Int)(N:Nat)(ys:List Nat):List Cn:=ys.flatMap λa=>Fk N (cell is (11+a))
noncomputable def DH(is:List Int):Nat:=Bo (cell is 0) 3
noncomputable def EB(is:List Int):Nat:=1+Bo (Av (cell is 0) 3) 4
noncomputable def Cq(is:List Int):Nat:=DH is+EB is
noncomputable def zS(is:List Int):Int:=Av (Av (cell is 0) 3) 4
noncomputable def S1(is:List Int):Option Nat:=match Bo (Av (zS is) (Cq is)) 2 with
 | 0=>none
 | _=>some (Bo (zS is) (Cq is))
noncomputable def Gj(is:List Int):Mod:=⟨[false,true,false],JZ (DH is),H6 is (Cq is) (As (EB is)),GM is (Cq is) (As 3),H7 is (Cq is) (As 3),S1 is,Ht is (Cq is) (As 3)⟩
theorem Al8(N:Nat)(z:Int)(a:Nat):(FI N z a).length<=1:=by
 unfold FI
 split
 ·split<;>exact AK _
 ·exact Gl _
theorem Al9(N:Nat)(z:Int):(Ea N z).length<=1:=by
 unfold Ea
 split
 ·exact AK _
 ·exact Gl _
theorem Ama(N:Nat)(z:Int):(Fk N z).length<=1:=by
 unfold Fk
 split
 ·exact AK _
 ·exact Gl _
theorem Amb{N:Nat}{z:Int}{g:CQ}(h:g∈Ea N z):g.body.length<=2:=by
 unfold Ea at h
 split at h
 ·rw[Cr.mp h];exact AK _
 ·rcases h with⟨⟩
theorem Amc{N:Nat}{z:Int}{e:Cn}(h:e∈Fk N z):e.inits.length<=3/\∀b,b∈e.inits->b.length<=2:=by
 unfold Fk at h
 split at h
 ·rw[Cr.mp h];have:=Dr (Av (Av z 2) 3) (n:=3) (by decide)
  exact⟨by rw[S0];exact Ab5 this,YZ N _ _⟩
 ·rcases h with⟨⟩
theorem S3(is:List Int)(N:Nat)(ys:List Nat):(H7 is N ys).length<=1*ys.length:=Dw _ 1 ys λa z=>Al8 _ _ _
theorem S4(is:List Int)(N:Nat)(ys:List Nat):(GM is N ys).length<=1*ys.length:=Dw _ 1 ys λa z=>Al9 _ _
theorem S5(is:List Int)(N:Nat)(ys:List Nat):(Ht is N ys).length<=1*ys.length:=Dw _ 1 ys λa z=>Ama _ _
theorem Y0{N:Nat}(g:CQ)(h:g∈GM is N ys):g.body.length<=2:=by
 refine Ah (CF.mp h) ?_;rintro a _ ha;exact Amb ha
theorem Pu{N:Nat}(e:Cn)(h:e∈Ht is N ys):e.inits.length<=3/\∀b,b∈e.inits->b.length<=2:=by
 refine Ah (CF.mp h) ?_;rintro a _ ha;exact Amc ha
theorem Y1(is:List Int)(N:Nat)(ys:List Nat):(By (GM is N ys)).length<=2*ys.length:=by
 have h1:(By (GM is N ys)).length<=2*(GM is N ys).length:=Dw _ 2 _ λg h=>AC (IN _) (Y0 g h);have h2:=S4 is N ys;exact Ab4 h1 h2
theorem Amd(is:List Int)(N:Nat)(ys:List Nat):(BN (Ht is N ys)).length<=6*ys.length:=by
 have h1:(BN (Ht is N ys)).length<=6*(Ht is N ys).length:=Dw _ 6 _ λe h=>by
  have q:(C3 e.inits).length<=2*e.inits.length:=Dw _ 2 e.inits λb hb=>AC (IN _) ((Pu e h).2 b hb);have:=(Pu e h).1;exact N6 q this
 have h2:=S5 is N ys;exact Ab3 h1 h2
noncomputable def jk(ys:List Nat):W:=if ys.length=0 then .own 0 else .junk
theorem Ame(ys:List Nat)(a:Nat):jk (ys++[a])=.junk:=if_neg (by rw[Bg];exact Ao7 _)
section
variable (k:Nat)(is:List Int)(hl:is.length<=63)(z0:Int)(st:T)(own M N:Nat)(hN:0<N)(hN2:N<=100)(hM:M<=100)(h4:own<=4)
include hl hN hN2 hM h4
theorem Amf(h1:0<own):BX (fB (k+2) 39 957 (AP 957 6)) 17 (nm kB) ((As own).map Ag) (lB (CW is) (.own 0) own M N []) (hL z0 st M [] [] [] [] []) (lJ is own M N) (hL z0 st M (H6 is N (As own)) [] [] [] []):=by
 have:=De (B:=fB (k+2) 39 957 (AP 957 6)) (n:=17) (ks:=nm kB) Ag (λys=>lB (CW is) (jk ys) own M N []) (λys=>hL z0 st M (H6 is N ys) [] [] [] []) (As own) (As own) (λys a zs e=>by
  have hy:=Eu e;rw[BR]at hy;have:=AlZ k is hl z0 st own M N hN hN2 (H6 is N ys) [] [] [] (by unfold H6;rw[AG];exact Ab2 h4 hy) hM (jk ys) a
  rw[Ame];unfold H6 at this ⊢;rw[BJ];exact this) [] (As own) rfl
 rw[show jk (As own)=.junk from if_neg (by rw[BR];exact Ab1 h1)]at this
 exact this
theorem Amg(fs:List CP):BX (fB (k+2) 39 957 (AP 957 7)) 17 (nm kB) ((As 3).map Ag) (lJ is own M N) (hL z0 st M fs [] [] [] []) (lJ is own M N) (hL z0 st M fs (H7 is N (As 3)) [] [] []) :=
 De (B:=fB (k+2) 39 957 (AP 957 7)) (n:=17) (ks:=nm kB) Ag (λys=>lJ is own M N) (λys=>hL z0 st M fs (H7 is N ys) [] [] []) (As 3) (As 3) (λys a zs e=>by
  have hy:=Eu e;rw[BR]at hy;have h:=S3 is N ys;have:=Al3 k is hl z0 st own M N hN hN2 fs (H7 is N ys) (Qu hy h) a (Do.mp (D8 e));unfold H7 at this ⊢;rw[GH];exact this) [] (As 3) rfl
theorem Amh(fs:List CP)(xs:List Cz)(hx:xs.length<=100):BX (fB (k+2) 39 957 (AP 957 8)) 17 (nm kB) ((As 3).map Ag) (lJ is own M N) (hL z0 st M fs xs [] [] []) (lJ is own M N) (hL z0 st M fs xs (GM is N (As 3)) [] []) :=
 De (B:=fB (k+2) 39 957 (AP 957 8)) (n:=17) (ks:=nm kB) Ag (λys=>lJ is own M N) (λys=>hL z0 st M fs xs (GM is N ys) [] []) (As 3) (As 3) (λys a zs e=>by
  have hy:=Eu e;rw[BR]at hy;have h:=S4 is N ys;have h2:=Y1 is N ys;have:=Al4 k is hl z0 st own M N hN hN2 fs xs (GM is N ys) hx (Qu hy h) (Ab0 hy h2) a;unfold GM at this ⊢;rw[GH];exact this) [] (As 3) rfl
theorem Ami(fs:List CP)(xs:List Cz)(gs:List CQ)(hx:(AV xs++By gs).length<=100):BX (fB (k+2) 39 957 (AP 957 9)) 17 (nm kB) ((As 3).map Ag) (lJ is own M N) (hL z0 st M fs xs gs [] []) (lJ is own M N) (hL z0 st M fs xs gs (Ht is N (As 3)) []) :=
 De (B:=fB (k+2) 39 957 (AP 957 9)) (n:=17) (ks:=nm kB) Ag (λys=>lJ is own M N) (λys=>hL z0 st M fs xs gs (Ht is N ys) []) (As 3) (As 3) (λys a zs e=>by
  have hy:=Eu e;rw[BR]at hy;have h:=S5 is N ys;have h2:=Amd is N ys;have:=Al7 k is hl z0 st own M N hN hN2 fs xs gs (Ht is N ys) (Qu hy h) (by rw[Bg];exact AbZ hx hy h2) a
  unfold Ht at this ⊢;rw[GH];exact this) [] (As 3) rfl
end
theorem S6(N:Nat)(hN:0<N):(∀z a,∀i,i∈AV (FI N z a)->i<N)/\(∀z,∀i,i∈Bb [C4 N z]->i<N)/\(∀z,∀i,i∈Bb (EU N z)->i<N):=by
 refine⟨λz a i h => ?_,λz i h => ?_,λz i h => ?_⟩
 ·unfold FI at h
  split at h
  ·split at h
   ·rw[Cr.mp h];exact Dr _ hN
   ·rcases h with⟨⟩
  ·rcases h with⟨⟩
 ·unfold C4 at h
  split at h
  ·rcases h with⟨⟩
  ·rw[Cr.mp h];exact Dr _ hN
 ·unfold EU at h
  split at h<;>first | (rw[Cr.mp h];exact Dr _ hN) | rcases h with⟨⟩
end
theorem Amj{M:Nat}(h:M<3):(JZ M).filterMap Df.k=As M:=by
 rcases Lc h with rfl | rfl | rfl
 ·rfl
 ·rfl
 ·rfl
theorem S7(is:List Int):(Gj is).iks=As (DH is):=Amj (Dr _ (by decide))
theorem Li(is:List Int):(Gj is).ik.length=DH is:=by rw[Mod.ik_eq,S7,Co,BR]
theorem Y2(is:List Int):(Gj is).funcs.length=EB is:=by
 show(GX _ _).length=_;rw[AG,BR]
theorem Y3(is:List Int):(Gj is).N=Cq is:=by unfold Mod.N Cq;rw[Li,Y2]
theorem S8(is:List Int):0<Cq is:=by unfold Cq EB;exact Acc
theorem M3(is:List Int):DH is<3:=Dr _ (by decide)
theorem Y4(is:List Int):0<EB is/\EB is<=4:=by
 have:=Dr (Av (cell is 0) 3) (n:=4) (by decide)
 unfold EB;exact Acb this
theorem Y5{N:Nat}(hN:0<N){z:Int}(i:Nat)(h:i∈Bb [C4 N z,.fin]):i<N:=by
 rw[show[C4 N z,AX.fin]=[C4 N z]++[AX.fin]from rfl,M0]at h;exact(BF.mp h).elim ((S6 N hN).2.1 z i) λh=>nomatch h
theorem Amk{N:Nat}(hN:0<N){z:Int}:∀(j:Nat) (b:List AX),b∈Fj N z j->∀i,i∈Bb b->i<N:=by
 intro z1
 induction z1 with
 | zero =>
  intro z2 h;exact nomatch h
 | succ j ih =>
  intro b h;exact(BF.mp h).elim (ih b) λh=>by rw[Cr.mp h];exact Y5 hN
theorem Aml{N:Nat}(hN:0<N){z:Int}:∀(j i:Nat),i∈Bb (GL N z j)->i<N:=by
 intro z1
 induction z1 with
 | zero =>
  intro z2 h;exact nomatch h
 | succ j ih =>
  intro i h;rw[show GL N z (j+1)=GL N z j++EU N (H4 N z j)from rfl,M0]at h;exact(BF.mp h).elim (ih i) ((S6 N hN).2.2 _ i)
theorem Y6(is:List Int):(Gj is).Wf where
 kinds:=AK 3
 imps:=by
  show(JZ (DH is)).length<=3;have:=M3 is
  generalize DH is=M at this
  rcases Lc this with rfl | rfl | rfl
  ·exact Gl _
  ·exact Nh rfl
  ·exact AK _
 funcs:=by rw[Y2];exact(Y4 is).2
 globs:=S4 is _ (As 3)
 exps:=S3 is _ (As 3)
 elems:=S5 is _ (As 3)
 gb:=Y0
 ei:=λe h=>(Pu e h).1
 eb:=λe h=>(Pu e h).2
 fb:=λf h=>by
  refine Ah (BB.mp h) ?_;rintro a _ rfl;unfold H5;have h1:=SZ (Cq is) (Av (Av (cell is (1+a)) 3) 4) (Bo (Av (cell is (1+a)) 3) 4);have h2:=Dr (Av (cell is (1+a)) 3) (n:=4) (by decide)
  simp only[Bg,BH,DL];exact Aca h1 h2
 rts:=λi h=>by
  rw[Y3];have hN:=S8 is;unfold Mod.roots at h;rcases BF.mp h with h | h
  ·rcases BF.mp h with h | h
   ·rcases BF.mp h with h | h
    ·rcases BF.mp h with h | h
     ·rw[Li]at h;have:=Do.mp h;unfold Cq;exact Ab9 this
     ·refine Ah (CF.mp h) ?_;rintro x hx hi;refine Ah (CF.mp hx) ?_;rintro a _ ha;exact(S6 _ hN).1 _ _ i (CF.mpr ⟨x,ha,hi⟩)
    ·have e:(Gj is).start=S1 is:=rfl;rw[e]at h;unfold S1 at h
     split at h
     ·rcases h with⟨⟩
     ·rw[Cr.mp h];exact Dr _ hN
   ·refine Ah (CF.mp h) ?_;rintro g hg hi;refine Ah (CF.mp hg) ?_;rintro a _ ha;unfold Ea at ha
    split at ha
    ·rw[Cr.mp ha]at hi;exact Y5 hN i hi
    ·rcases ha with⟨⟩
  ·refine Ah (CF.mp h) ?_;rintro e he hi;refine Ah (CF.mp hi) ?_;rintro b hb hi;refine Ah (CF.mp he) ?_;rintro a _ ha;unfold Fk at ha
   split at ha
   ·rw[Cr.mp ha]at hb;exact Amk hN _ b hb i hi
   ·rcases ha with⟨⟩
 nxt:=λf h j q=>by
  rw[Y3];refine Ah (BB.mp h) ?_;rintro a _ rfl;unfold H5 at q;rw[M0]at q;exact(BF.mp q).elim (Aml (S8 is) _ j) λh=>nomatch h
 kfn:=λf h=>by
  refine Ah (BB.mp h) ?_;rintro a _ rfl;exact Dr _ (by decide)
 kim:=λi h=>by
  rw[S7]at h;exact Lw (Do.mp h) (M3 is)
theorem Pv(z:m.Wf)(i:Nat)(h:i∈m.decl):i<m.N:=by
 refine z.rts i ?_;have sub:∀(b:List AX) (i:Nat),i∈Ca b->i∈Bb b:=λb i h=>by
  refine Ah (CF.mp h) ?_;rintro x hx hi;refine Ie.mpr ⟨x,hx,?_⟩;rcases x with _ | n | _ | _ | _ | _
  case rf=>rw[Cr.mp hi];rfl
  all_goals rcases hi with⟨⟩
 unfold Mod.decl at h;unfold Mod.roots;rcases BF.mp h with h | h
 ·rcases BF.mp h with h | h
  ·exact Cb _ (Cb _ (Cb _ (Cv _ h)))
  ·refine Ah (CF.mp h) ?_;rintro g hg hi;exact Cb _ (Cv _ (CF.mpr ⟨g,hg,sub _ _ hi⟩))
 ·refine Ah (CF.mp h) ?_;rintro e he hi;refine Ah (CF.mp hi) ?_;rintro b hb hi;exact Cv _ (CF.mpr ⟨e,he,CF.mpr ⟨b,hb,sub _ _ hi⟩⟩)
noncomputable def Mod.dset(m:Mod):List Nat:=IP m.N m.decl
noncomputable def hC(z:Int)(M:Nat):AH:=[.lst [.int z],.ins 810 (SX.zip [.own 2,.own 3,.own 4,.own 5,.own 6,.own 7,.own 8,.fz .none,.own 9,.own 10,.own 11]),.lst [],.lst ((JZ M).map Bw)]++DW 9 (.lst [])
noncomputable def Y7(is:List Int):T:=Ax [BZ (Gj is),Ak (Ai (Gj is).dset),Ak (Ey (DH is) (Gj is).funcs)]
theorem Amm{N:Nat}{l:List Nat}(h:∀i,i∈l->i<N)(hN:N<=7):(ob (FB (Ai l)) λl=>some ((Hd l).map λ(n:Nat)=>T.int (n:Int)))=some (Ai (IP N l)):=by
 rw[YG λi m=>EX (h i m) hN,<- YF h]
noncomputable def z5(c0:Int)(M d:Nat):Int:=Av (Av (Av (Av c0 3) 4) (M+(1+d))) 2
noncomputable def Pw(M:Nat)(D:List Nat)(fs:List CP)(gs:List CQ)(xs:List Cz)(es:List Cn)(st:Option Nat):T:=Ax [BZ ⟨[false,true,false],JZ M,fs,gs,xs,st,es⟩,Ak (Ai D),Ak (Ey M fs)]
def Amn(k:Nat)(M b s d:Nat)(c0:Int)(sc:List T)(D:List Nat)(fs:List CP)(gs:List CQ)(xs:List Cz)(es:List Cn)(st:Option Nat):Prop :=
 Rv.v (Vf (.int ((Av c0 3).fmod ((4:Nat):Int))))=Rv.v (Vf (Ag d)) /\
 Cu (cB (k+2) 38 957 [] (hC (Av (Av c0 3) 4) M) (DE (BY (AP 957 2)) 1)) (GX Ag (As M)) (GX (λz=>Ak []) (As M)) /\
 some (decide (((M+(1+d):Nat):Int)≠0))=some true /\
 Rv.v (Vf (.int ((Av (Av c0 3) 4).fmod ((M+(1+d):Nat):Int))))=Rv.v (Vf (Ag s)) /\
 some (decide (((M+(1+d):Nat):Int)≠0/\((M+(1+d):Nat):Int).natAbs<1073741824))=some true /\
 Rv.v (Vf (.int ((Av (Av (Av c0 3) 4) (M+(1+d))).fmod ((2:Nat):Int))))=Rv.v (Vf (Ag b)) /\
 GE [Vf (Ag (1+d))]=some (GX Ag (As (1+d))) /\
 BX (fB (k+2) 39 957 (AP 957 6)) 17 (nm kB) (GX Ag (As (1+d))) (lB sc (.own 0) (1+d) M (M+(1+d)) []) (hL (z5 c0 M d) (DT st) M [] [] [] [] []) (lB sc .junk (1+d) M (M+(1+d)) []) (hL (z5 c0 M d) (DT st) M fs [] [] [] []) /\
 BX (fB (k+2) 39 957 (AP 957 7)) 17 (nm kB) (GX Ag (As 3)) (lB sc .junk (1+d) M (M+(1+d)) []) (hL (z5 c0 M d) (DT st) M fs [] [] [] []) (lB sc .junk (1+d) M (M+(1+d)) []) (hL (z5 c0 M d) (DT st) M fs xs [] [] []) /\
 BX (fB (k+2) 39 957 (AP 957 8)) 17 (nm kB) (GX Ag (As 3)) (lB sc .junk (1+d) M (M+(1+d)) []) (hL (z5 c0 M d) (DT st) M fs xs [] [] []) (lB sc .junk (1+d) M (M+(1+d)) []) (hL (z5 c0 M d) (DT st) M fs xs gs [] []) /\
 BX (fB (k+2) 39 957 (AP 957 9)) 17 (nm kB) (GX Ag (As 3)) (lB sc .junk (1+d) M (M+(1+d)) []) (hL (z5 c0 M d) (DT st) M fs xs gs [] []) (lB sc .junk (1+d) M (M+(1+d)) []) (hL (z5 c0 M d) (DT st) M fs xs gs es []) /\
 (ob (FB (Ai (AV xs++By gs++BN es))) λl=>some (GX (λ(n:Nat)=>T.int (n:Int)) (Hd l)))=some (Ai D) /\
 Pw M D fs gs xs es st=Pw M D fs gs xs es st
noncomputable def Amo(b s:Nat):Option Nat:=match b with
 | 0=>none
 | _=>some s
theorem Amp(k:Nat){M b s d:Nat}{c0:Int}{sc:List T}{D:List Nat}{fs:List CP}{gs:List CQ}{xs:List Cz}{es:List Cn}(hM':M=0\/M=1\/M=2)(hb':b=0\/b=1)(v:VF (k+1+1) 924 [Ak sc,Ag 0] (.int c0))(q1:Rv.v (Vf (.int (c0.fmod ((3:Nat):Int))))=Rv.v (Vf (Ag M)))(h:∀st,Amn k M b s d c0 sc D fs gs xs es st) :
  VF (k+3) 957 [Ak sc] (Pw M D fs gs xs es (Amo b s)):=by
 have main:=λ(M b:Nat) (st:Option Nat) (vs:List Al) (P:Prop) (all:P)=>(λq=>Bs (k:=k+2) (f:=957) (ts:=[Ak sc]) (r:=Pw M D fs gs xs es st) ([Al.t (.int c0),.go,.go]++dA M++vs++dA d++[.a,.a,.a,.l ((As M).map λz=>Ak [])]++dN s++dA b++[.l (Ai (As (1+d))),.st (lB sc .junk (1+d) M (M+(1+d)) []) (hL (z5 c0 M d) (DT st) M fs [] [] [] []),.st (lB sc .junk (1+d) M (M+(1+d)) []) (hL (z5 c0 M d) (DT st) M fs xs [] [] []),.st (lB sc .junk (1+d) M (M+(1+d)) []) (hL (z5 c0 M d) (DT st) M fs xs gs [] []),.st (lB sc .junk (1+d) M (M+(1+d)) []) (hL (z5 c0 M d) (DT st) M fs xs gs es []),.l (Ai D)]) (kc all q));have i0:=Ld k (sT "h") (sT "f") (.int 0) (Ag 0);have i1:=Ld k (sT "h") (sT "f") (.int 0) (Ag 1);have ig:=Ld k (sT "h") (sT "g") (.int 3) Hn;rcases hM' with rfl | rfl | rfl
 ·rcases hb' with rfl | rfl
  ·exact main 0 0 none [] _ (Ae v (Ae q1 (h none))) (by kernel_rfl)
  ·exact main 0 1 (some s) [] _ (Ae v (Ae q1 (h (some s)))) (by kernel_rfl)
 ·have main:=λb st (H:Prop) (h:H)=>main 1 b st [.t (Bw (.f 0)),.t (Bw .g)] _ (Ae v (Ae q1 (Ae i0 (Ae ig h))));rcases hb' with rfl | rfl
  ·exact main 0 none _ (h none) (by kernel_rfl)
  ·exact main 1 (some s) _ (h (some s)) (by kernel_rfl)
 ·have main:=λb st (H:Prop) (h:H)=>main 2 b st [.t (Bw (.f 0)),.t (Bw .g),.t (Bw (.f 1))] _ (Ae v (Ae q1 (Ae i0 (Ae ig (Ae i1 h)))));rcases hb' with rfl | rfl
  ·exact main 0 none _ (h none) (by kernel_rfl)
  ·exact main 1 (some s) _ (h (some s)) (by kernel_rfl)
theorem Amq(k:Nat)(is:List Int)(hl:is.length<=63):VF (k+3) 957 [Ak (CW is)] (Y7 is):=by
 have hM:=M3 is;have hO:=Y4 is;have hN:=S8 is;have hNe:Cq is=DH is+EB is:=rfl;have q1:=qd (z:=cell is 0) (n:=3) (d:=DH is) (by decide) rfl
 have q2:=qd (z:=Av (cell is 0) 3) (n:=4) (by decide) (rfl:Bo _ _=Bo (Av (cell is 0) 3) 4)
 have q3:=qd (z:=zS is) hN (rfl:Bo _ _=Bo (zS is) (Cq is));have hb:=Dr (Av (zS is) (Cq is)) (n:=2) (by decide)
 have q4:=λb (h:Bo (Av (zS is) (Cq is)) 2=b)=>qd (z:=Av (zS is) (Cq is)) (n:=2) (by decide) h
 have wf:=Y6 is;have set:=Amm (N:=(Gj is).N) (Pv wf) wf.n_le;have v:=M1 (k+1) is hl 0;have rg:=JY (n:=EB is) (Ab8 hO);have hx:=S3 is (Cq is) (As 3);have hg:=Y1 is (Cq is) (As 3);rw[BR]at hx hg;have hx2:=Le (H7 is (Cq is) (As 3));have lX:=λz0 st=>Amg k is hl z0 st (EB is) (DH is) (Cq is) hN (LJ hM hO hNe) (N7 hM) hO.2 (H6 is (Cq is) (As (EB is)));have lG:=λz0 st=>Amh k is hl z0 st (EB is) (DH is) (Cq is) hN (LJ hM hO hNe) (N7 hM) hO.2 (H6 is (Cq is) (As (EB is))) (H7 is (Cq is) (As 3)) (Ab7 hx);have lE:=λz0 st=>Ami k is hl z0 st (EB is) (DH is) (Cq is) hN (LJ hM hO hNe) (N7 hM) hO.2 (H6 is (Cq is) (As (EB is))) (H7 is (Cq is) (As 3)) (GM is (Cq is) (As 3)) (by rw[Bg];exact Ab6 hx hg hx2)
 have lF:=λz0 st=>Amf k is hl z0 st (EB is) (DH is) (Cq is) hN (LJ hM hO hNe) (N7 hM) hO.2 hO.1;have cC:=C5 (B:=cB (k+2) 38 957 [] (hC (zS is) (DH is)) (DE (BY (AP 957 2)) 1)) Ag (λq=>Ak []) (As (DH is)) λa q=>⟨[],kc (tr (hC (zS is) (DH is)) (some (Ak []))) (by kernel_rfl)⟩
 exact Amp k (UQ hM) (US hb) v q1 λst=>⟨q2,cC,gm hN,q3,gd hN (N:=Cq is) (LJ hM hO hNe),q4 _ rfl,rg,lF _ _,lX _ _,lG _ _,lE _ _,set,rfl⟩
noncomputable def EV:Expr×Ac×Ac×List Expr×List AL:=match KU Em.1.body with
 | some x=>x
 | none=>(xE,Ab "",Ab "",[],[])
theorem Amr:KU Em.1.body=some EV:=by kernel_rfl
def VT(ts:List T)(r:T):Prop:=∀K,BW K->∀(X:Nat->Prop) σ vs,(∀a,X a->a<σ.length)->AA X σ vs ts->∃v σ',IC (BO K NL 18) NL Em.1 vs σ=.ok v σ'/\(∀(a:Nat) o,σ[a]? = some o->σ'[a]? = some o)/\TR X σ' v r
noncomputable def Px(a b:T):An:=[(Ab "scope",.fz a),(Ab "number",.fz b)]
theorem Ams(K:Bf)(fn:Af->Option (List CV->CM CV))(why:Ac)(σ:CH):JH { HO K with fn:=fn } EV.2.1 EV.2.2.1 EV.2.2.2.1 ⟨152,[(Ab "why",.str why),(Ab "function",.int 6),(Ab "at",.int 1)]⟩ σ=.ok (.tup [.str why,.int 6,.int 1]) σ:=by kernel_rfl
theorem Amt(Γ:AM)(ks:AD)(loc:Ao)(σ:CH):GD Γ (Bp Γ NL).1 (Bp Γ NL).2 ks NL EV.2.2.2.2 loc σ=.ok (.ret .none,loc) σ:=by kernel_rfl
set_option tactic.hygienic true in
theorem Y8(Γ:AM)(a b:CV)(σ:CH):IC Γ NL Em.1 [a,b] σ=(match (Bp Γ NL).1 Em.1.scope.names ([Ab "scope",Ab "number"].zip [a,b]) EV.1 σ with
   | .ok _ σ1=>bnd (GD Γ (Bp Γ NL).1 (Bp Γ NL).2 Em.1.scope.names NL EV.2.2.2.2 ([Ab "scope",Ab "number"].zip [a,b])) (λp=>match p.1 with
    | .next=>ret .none
    | .ret v=>ret v) σ1
   | .exc x σ1=>JH Γ EV.2.1 EV.2.2.1 EV.2.2.2.1 x σ1
   | .stuck=>.stuck):=by
 unfold IC;rw[Amr];exact congrFun (if_pos ⟨by kernel_rfl,by kernel_rfl,by kernel_rfl,by kernel_rfl,by kernel_rfl,by kernel_rfl⟩) σ
theorem Amu{a b:T}(as:List Al)(h:(DP (Fb Dq true 18) 40).1 Em.1.scope.names (Px a b) EV.1 [] as (λz z z=>True)):VT [a,b] .none:=λK F X σ cs hX t=>by
 have hU:=MM t
 match cs,t,hU with
 | [c,d],t,hU =>
  have lc:AW (Zx X [] []) [] σ ([Ab "scope",Ab "number"].zip [c,d]) (Px a b):=Pd (xs:=[Ab "scope",Ab "number"]) (ws:=[.fz a,.fz b]) ⟨hU.1,hU.2.1,trivial⟩;refine Uz (((MJ (ML F (qt:=true) (λz z h=>h) 18) 40).1 _ _ _ _ _ _ h X [] σ _ (JV hX) lc).out) ?_;rintro v σ1 ρ1 α1 e p _;refine⟨.none,σ1,?_,λa o h=>p.keep a o h Pf,.none⟩;rw[Y8];have e':(Bp (BO K NL 18) NL).1 Em.1.scope.names ([Ab "scope",Ab "number"].zip [c,d]) EV.1 σ=.ok v σ1:=e;rw[e'];show bnd _ _ σ1=_;unfold bnd;rw[Amt];rfl
theorem S9{a b:T}(why:Ac)(as:List Al)(h:(DP (Fb (λx=>x=⟨152,[(Ab "why",.str why),(Ab "function",.int 6),(Ab "at",.int 1)]⟩) false 18) 40).1 Em.1.scope.names (Px a b) EV.1 [] as (λz z z=>False)):VT [a,b] (Ax [.str why,.int 6,.int 1]):=λK F X σ cs hX t=>by
 have hU:=MM t
 match cs,t,hU with
 | [c,d],t,hU =>
  have lc:AW (Zx X [] []) [] σ ([Ab "scope",Ab "number"].zip [c,d]) (Px a b):=Pd (xs:=[Ab "scope",Ab "number"]) (ws:=[.fz a,.fz b]) ⟨hU.1,hU.2.1,trivial⟩;have r:=(MJ (ML F (qt:=false) (λh=>nomatch h) 18) 40).1 _ _ _ _ _ _ h X [] σ _ (JV hX) lc
  unfold Sm at r;rw[Y8];rcases e:(Bp (BO K NL 18) 40).1 Em.1.scope.names ([Ab "scope",Ab "number"].zip [c,d]) EV.1 σ with _ | ⟨v,σ1⟩ | ⟨x,σ1⟩
  ·rw[e]at r;exact r.elim
  ·rw[e]at r;rcases r with⟨ρ1,α1,_,r1,as1,_,q⟩
   exact q.elim
  ·rw[e]at r;refine At r ?_;clear r;rintro r1 r2;subst r2;have e':(Bp (BO K NL 18) NL).1 Em.1.scope.names ([Ab "scope",Ab "number"].zip [c,d]) EV.1 σ=.exc ⟨152,[(Ab "why",.str why),(Ab "function",.int 6),(Ab "at",.int 1)]⟩ σ1:=e;rw[e'];refine AI (IA K NL 18) ?_;rintro fn el;refine⟨.tup [.str why,.int 6,.int 1],σ1,?_,λa o h=>r1 a o h Pf,.tup rfl (.cons (.str _) (.cons (.int _) (.cons (.int _) .nil)))⟩;show JH (BO K NL 18) _ _ _ _ σ1=_;rw[el];exact Ams K fn why σ1
section
noncomputable def M4(fs ns:List Nat):List Nat:=ns.foldl (λfs n=>if n∈fs then fs else fs++[n]) fs
theorem Amv:∀(ns fs:List Nat),note (eF fs) ns=eF (M4 fs ns):=by
 intro z1
 induction z1 with
 | nil =>
  intro z2;exact rfl
 | cons n ns ih =>
  intro fs;show note (Cg (eF fs) n (.bool true)) ns=eF (M4 (if n∈fs then fs else fs++[n]) ns)
  by_cases h:n∈fs
  ·rw[if_pos h,Ali h];exact ih fs
  ·rw[if_neg h,SP h];exact ih _
theorem Amw:∀(ns fs:List Nat) (i:Nat),i∈M4 fs ns↔i∈fs\/i∈ns:=by
 intro z1
 induction z1 with
 | nil =>
  intro z2 z3;exact⟨.inl,λh=>h.elim id λh=>nomatch h⟩
 | cons n ns ih =>
  intro fs i;refine(ih (if n∈fs then fs else fs++[n]) i).trans ?_;rw[AS]
  by_cases h:n∈fs
  ·rw[if_pos h];exact⟨λq=>q.imp id .inr,λq=>q.elim .inl λq=>q.elim (λe=>.inl (e▸h)) .inr⟩
  ·rw[if_neg h,BF,Cr,or_assoc]
theorem Ta:∀(ns fs:List Nat),fs.Nodup->(M4 fs ns).Nodup:=by
 intro z1
 induction z1 with
 | nil =>
  intro z2 h;exact h
 | cons n ns ih =>
  intro fs h;refine ih (if n∈fs then fs else fs++[n]) ?_
  by_cases q:n∈fs
  ·rw[if_pos q];exact h
  ·rw[if_neg q];exact FL.mpr ⟨h,Dm.mpr ⟨(λh=>nomatch h),G1⟩,λa ha b hb=>by rintro rfl;exact q (Cr.mp hb▸ha)⟩
noncomputable def Mod.dl(m:Mod):List Nat:=M4 [] m.decl
theorem Tb(m:Mod):Fd m=eF m.dl:=Amv m.decl []
theorem M5:i∈m.dl↔i∈m.decl:=by
 unfold Mod.dl;rw[Amw];exact⟨λh=>h.elim (λh=>nomatch h) id,.inr⟩
theorem IS(z:m.Wf){i:Nat}:i∈m.dset↔i∈m.decl:=ST (Pv z)
noncomputable def Mod.allK(m:Mod):List Nat:=m.iks++m.funcs.map (·.kind)
theorem Y9(m:Mod):m.ik++m.fk=Ai m.allK:=by
 rw[Mod.ik_eq,show m.fk=Ai (m.funcs.map (·.kind))from by unfold Mod.fk Ai;rw[CY];rfl,D9]
 rfl
theorem Za(m:Mod):m.allK.length=m.N:=by
 unfold Mod.allK Mod.N;rw[Bg,AG,Mod.ik_eq,Co]
theorem Amx(z:m.Wf)(i:Nat)(h:i∈m.allK):i<m.kinds.length:=by
 rcases BF.mp h with h | h
 ·exact z.kim i h
 ·refine Ah (BB.mp h) ?_;rintro f hf rfl;exact z.kfn f hf
noncomputable def Zb(z:Int):T:=IK [.int 0,Ax [],Ak [Ax [.int 1],Ax [.int 210,.int z],Ax [.int 26],Ax [.int 11]]]
noncomputable def H8:Ac:=Ab "unknown function"
noncomputable def M6:Ac:=Ab "undeclared function reference"
noncomputable def IT(N:Nat)(ds:List Nat)(z:Int):T:=if 0<=z/\z<N then(if z.toNat∈ds then .none else Ax [.str M6,.int 6,.int 1])else Ax [.str H8,.int 6,.int 1]
noncomputable def Lj(fu gl el de:T):T:=MQ [Ak ([false,true,false].map A8),fu,Ak [D6],Ak [D7],gl,el,.int 0,de]
theorem c6(z:Int):VC 18 591 [.int 0,Ax [],Ak [Ax [.int 1],Ax [.int 210,.int z],Ax [.int 26],Ax [.int 11]]] (Zb z):=Pi 17 _ _ _
noncomputable def a6(z:Int)(r:List Al):List Al:=.t (Zb z)::(DW 13 .go++r)
theorem Amy(fu:List T)(gl el:T)(es:List (Int×T))(z:Int)(h:¬0<=z):VT [Lj (Ak fu) gl el (Dx es),.int z] (Ax [.str H8,.int 6,.int 1]) :=
 S9 H8 (a6 z [.b false,.go]) (kc (Ae (c6 z) (Ae (congrArg some (decide_eq_false h)) (Bd (⟨152,[(Ab "why",.str H8),(Ab "function",.int 6),(Ab "at",.int 1)]⟩:CX)))) (by kernel_rfl))
theorem Amz(fu:List T)(gl el:T)(es:List (Int×T))(z:Int)(h0:0<=z)(h:¬z<(fu.length:Int)):VT [Lj (Ak fu) gl el (Dx es),.int z] (Ax [.str H8,.int 6,.int 1]) :=
 S9 H8 (a6 z [.b true,.b false,.go]) (kc (Ae (c6 z) (Ae (congrArg some (decide_eq_true h0)) (Ae (congrArg some (decide_eq_false h)) (Bd (⟨152,[(Ab "why",.str H8),(Ab "function",.int 6),(Ab "at",.int 1)]⟩:CX))))) (by kernel_rfl))
section
variable (fu:List T)(gl el:T)(es:List (Int×T))(z:Int)(kd:Nat)(kt:Bool)(h0:0<=z)(h:z<(fu.length:Int))(p:ER fu z=some (Ag kd))(hk:kd<3)(p2:ER ([false,true,false].map A8) (kd:Int)=some (A8 kt))
include h0 h p hk p2
theorem AmA(d:(Ct ((es.map (·.1)).zip (es.map (·.2))) z).isSome=false):VT [Lj (Ak fu) gl el (Dx es),.int z] (Ax [.str M6,.int 6,.int 1]) :=
 S9 M6 (a6 z [.b true,.b true,.t (Ag kd),.go,.b true,.b true,.t (A8 kt),.b true,.go])
  (kc (Ae (c6 z) (Ae (congrArg some (decide_eq_true h0)) (Ae (congrArg some (decide_eq_true h)) (Ae p (Ae (Bd (some true)) (Ae (show some (decide ((kd:Int)<(([false,true,false].map A8).length:Nat)))=some true from congrArg some (decide_eq_true (Ln.mpr hk))) (Ae p2 (Ae (congrArg (λb=>some (!b)) d) (Bd (⟨152,[(Ab "why",.str M6),(Ab "function",.int 6),(Ab "at",.int 1)]⟩:CX)))))))))) (by kernel_rfl))
theorem AmB(d:(Ct ((es.map (·.1)).zip (es.map (·.2))) z).isSome=true):VT [Lj (Ak fu) gl el (Dx es),.int z] .none :=
 Amu (a6 z ([.b true,.b true,.t (Ag kd),.go,.b true,.b true,.t (A8 kt),.b false]++DW 20 .go))
  (kc (Ae (c6 z) (Ae (congrArg some (decide_eq_true h0)) (Ae (congrArg some (decide_eq_true h)) (Ae p (Ae (Bd (some true)) (Ae (show some (decide ((kd:Int)<(([false,true,false].map A8).length:Nat)))=some true from congrArg some (decide_eq_true (Ln.mpr hk))) (Ae p2 (Ae (congrArg (λb=>some (!b)) d) True.intro)))))))) (by kernel_rfl))
end
theorem AmC(m:Mod)(z:m.Wf)(hk:m.kinds=[false,true,false])(i:Int):VT [HY m,.int i] (IT m.N m.dset i):=by
 have e:HY m=Lj (Ak (Ai m.allK)) (Ak (m.ig++m.gk)) (Ak (m.elems.map λx=>.int (-16))) (Dx (eF m.dl)):=by
  unfold HY Lj;rw[hk,Y9,Tb]
 rw[e];have hN:=z.n_le;unfold IT
 by_cases h0:0<=i
 ·by_cases h:i<m.N
  ·rw[if_pos ⟨h0,h⟩];refine AI (Apb h0) ?_;rintro n rfl;have hn:n<m.allK.length:=by rw[Za];exact Acf h
   have e1:m.allK[n]? = some m.allK[n]:=Cc hn;have hlt:=Amx z _ (FU e1)
   generalize m.allK[n]=kd at e1 hlt
   rw[hk]at hlt;have p:=HZ Ag m.allK (k:=(n:Int)) rfl (Ace hN h) e1;have e2:[false,true,false][kd]? = some [false,true,false][kd]:=Cc hlt;have p2:=HZ A8 [false,true,false] (k:=(kd:Int)) rfl (by have:kd<3:=hlt;exact UZ this) e2
   have hl:(n:Int)<((Ai m.allK).length:Int):=by rw[Co];exact Qt hn
   rw[show(n:Int).toNat=n from rfl];have d:(Ct (((eF m.dl).map (·.1)).zip ((eF m.dl).map (·.2))) n).isSome=decide (n∈m.dl):=by rw[Lh,MT]
   by_cases q:n∈m.dset
   ·rw[if_pos q];rw[decide_eq_true (M5.mpr ((IS z).mp q))]at d;exact AmB _ _ _ _ _ kd _ h0 hl p hlt p2 d
   ·rw[if_neg q];rw[decide_eq_false (λh=>q ((IS z).mpr (M5.mp h)))]at d;exact AmA _ _ _ _ _ kd _ h0 hl p hlt p2 d
  ·rw[if_neg λq=>h q.2];exact Amz _ _ _ _ i h0 (by rw[Co,Za];exact h)
 ·rw[if_neg λq=>h0 q.1];exact Amy _ _ _ _ i h0
theorem Tc(n:Nat):∀ds:List Nat,D3 (Br 20) (.int n) (Ai ds)=some (decide (n∈ds)):=by
 intro z1
 induction z1 with
 | nil =>
  exact rfl
 | cons x ds ih =>
  show(match Br 20 (Ag x) (.int n),D3 (Br 20) (.int n) (Ai ds)with | some a,some b=>some (a || b) | _,_=>none)=_
  rw[ih];show some (((x:Int) == (n:Int)) || decide (n∈ds))=_
  congr 1
  rw[Aae,TX,beq_iff_eq,decide_eq_true_iff,decide_eq_true_iff,AS];exact or_congr ⟨λh=>(UY h),λh=>(UX h)⟩ Iff.rfl
theorem AmD(k:Nat)(i:Int)(N:Nat)(ds:List Nat):VF (k+1) 981 [.int i,Ag N,Ak (Ai ds)] (IT N ds i):=by
 unfold IT
 by_cases h0:0<=i
 ·by_cases h:i<N
  ·rw[if_pos ⟨h0,h⟩];refine AI (Apb h0) ?_;rintro n rfl;have a:=Tc n ds;rw[show(n:Int).toNat=n from rfl]
   by_cases q:n∈ds
   ·rw[if_pos q];rw[decide_eq_true q]at a;exact Bs [.b true,.b true,.b true] (kc (Ae (congrArg some (decide_eq_true h0)) (Ae (congrArg some (decide_eq_true h)) (Ae a (Bd T.none)))) (by kernel_rfl))
   ·rw[if_neg q];rw[decide_eq_false q]at a;exact Bs [.b true,.b true,.b false] (kc (Ae (congrArg some (decide_eq_true h0)) (Ae (congrArg some (decide_eq_true h)) (Ae a (Bd (Ax [.str M6,.int 6,.int 1]))))) (by kernel_rfl))
  ·rw[if_neg λq=>h q.2];exact Bs [.b true,.b false] (kc (Ae (congrArg some (decide_eq_true h0)) (Ae (congrArg some (decide_eq_false h)) (Bd (Ax [.str H8,.int 6,.int 1])))) (by kernel_rfl))
 ·rw[if_neg λq=>h0 q.1];exact Bs [.b false] (kc (Ae (congrArg some (decide_eq_false h0)) (Bd (Ax [.str H8,.int 6,.int 1]))) (by kernel_rfl))
theorem AmE(k:Nat)(a b c d e f g h:T):VF (k+1) 988 [MQ [a,b,c,d,e,f,g,h]] (Ax [a,b,c,d,e,f,g,h]):=Bs [] (kc (Bd (Ax [a,b,c,d,e,f,g,h])) (by kernel_rfl))
theorem Py(h:n∈us):JM (Ai us) (Ag n)=some (Ag (us.idxOf n)):=by
 have e:∀x:Nat,Br 20 (Ag x) (Ag n)=some (x == n):=λx=>by
  show some ((x:Int) == (n:Int))=_
  congr 1
  rw[Aae,beq_iff_eq,beq_iff_eq];exact Acd
 have fi:∀us:List Nat,Hm (Br 20) (Ag n) (Ai us)=us.idxOf n:=λds=>by
  induction ds with
  | nil=>rfl
  | cons x ds ih =>
   show(if Br 20 (Ag x) (Ag n)=some true then 0 else Hm (Br 20) (Ag n) (Ai ds)+1)=_;rw[ih,e,Aa8];cases (x == n)<;>rfl
 unfold JM;rw[Tc,fi,if_pos (by rw[decide_eq_true h])]
theorem AmF(k:Nat)(m:Mod)(b:List AX)(h:∀n,n∈Bb b->n∈m.used):VF (k+1) 967 [AU b,Ak (Ai m.used)] (AU (Bl m b)):=by
 have c:Cu (cB k 39 967 [(Ab "used",.fz (Ak (Ai m.used)))] [] (BY (AP 967 0))) (b.map Bt) ((Bl m b).map Bt):=by
  unfold Bl;rw[<- mm (Pp m) Bt b];exact C5 Bt (λa=>Bt (Pp m a)) b λa ha=>by
   have hn:∀n,a.fns=some n->n∈m.used:=λn q=>h n (Ie.mpr ⟨a,ha,q⟩);rcases a with⟨t,n⟩ | n | _ | n | _ | _
   ·rcases t with _ | _
    ·exact⟨[.a,.a,.a,.a,.t (Ag (m.fi n))],kc (Ae (Py (hn n rfl)) (tr ([]:AH) (some (Bt (.call false (m.fi n)))))) (by kernel_rfl)⟩
    ·exact⟨[.a,.a,.a,.a,.t (Ag (m.fi n))],kc (Ae (Py (hn n rfl)) (tr ([]:AH) (some (Bt (.call true (m.fi n)))))) (by kernel_rfl)⟩
   ·exact⟨[.a,.a,.a,.a,.t (Ag (m.fi n))],kc (Ae (Py (hn n rfl)) (tr ([]:AH) (some (Bt (.rf (m.fi n)))))) (by kernel_rfl)⟩
   ·exact⟨[],kc (tr ([]:AH) (some (Bt .drop))) (by kernel_rfl)⟩
   ·exact⟨[],kc (tr ([]:AH) (some (Bt (.con n)))) (by kernel_rfl)⟩
   ·exact⟨[],kc (tr ([]:AH) (some (Bt .nul))) (by kernel_rfl)⟩
   ·exact⟨[],kc (tr ([]:AH) (some (Bt .fin))) (by kernel_rfl)⟩
 exact Bs [.l ((Bl m b).map Bt)] (kc (Ae c (Bd (AU (Bl m b)))) (by kernel_rfl))
end
section
noncomputable def DI(m:Mod):List (List Nat):=(As m.ik.length).map (λz=>[])++m.funcs.map λf=>Bb f.body
noncomputable def Ds(nm:List (List Nat)):List T:=nm.map λl=>Ak (Ai l)
theorem AmG(m:Mod):Ey m.ik.length m.funcs=Ds (DI m):=by
 unfold Ey Ds DI;rw[BJ,CY,CY];rfl
noncomputable abbrev CJ(f:List Bool):List T:=f.map .bool
noncomputable def Gk(f:List Bool)(js:List Nat):List Bool:=js.foldl (λf j=>f.set j true) f
noncomputable def DJ(nm:List (List Nat))(f:List Bool)(i:Nat):List Bool:=if f.getD i false=true then Gk f (nm.getD i [])else f
noncomputable def IU(nm:List (List Nat))(f:List Bool):List Bool:=(As nm.length).foldl (DJ nm) f
noncomputable def CK(nm:List (List Nat))(f:List Bool):Nat->List Bool
 | 0=>f
 | t+1=>IU nm (CK nm f t)
theorem Zc:∀(js:List Nat) (f:List Bool),(Gk f js).length=f.length:=by
 intro z1
 induction z1 with
 | nil =>
  intro z2;exact rfl
 | cons j js ih =>
  intro f;exact(ih (f.set j true)).trans GS
theorem AmH(nm:List (List Nat))(f:List Bool)(i:Nat):(DJ nm f i).length=f.length:=by
 unfold DJ
 split
 ·exact Zc _ _
 ·rfl
theorem Td(nm:List (List Nat)):∀(is:List Nat) (f:List Bool),(is.foldl (DJ nm) f).length=f.length:=by
 intro z1
 induction z1 with
 | nil =>
  intro z2;exact rfl
 | cons i is ih =>
  intro f;exact(ih (DJ nm f i)).trans (AmH nm f i)
theorem M7(nm:List (List Nat))(f:List Bool):∀t,(CK nm f t).length=f.length:=by
 intro z1
 induction z1 with
 | zero =>
  exact rfl
 | succ t ih =>
  exact(Td nm _ (CK nm f t)).trans (ih)
theorem AmI(d:A)(xs:List A):xs.zipIdx=(As xs.length).map λi=>(xs.getD i d,i):=by
 refine Aa2 λi => ?_;rw[Ao1,G2]
 by_cases h:i<xs.length
 ·rw[Qe h,Cc h];show some (xs[i],0+i)=some (xs.getD i d,i);rw[EH,Cc h,J5];rfl
 ·rw[Gn (DA.mp h),Gn (by rw[BR];exact DA.mp h)]
  rfl
theorem Zd(p:A->Bool)(g:A->B):∀xs:List A,(xs.filter p).map g=xs.filterMap λi=>if p i=true then some (g i)else none:=by
 intro z1
 induction z1 with
 | nil =>
  exact rfl
 | cons x xs ih =>
  rw[AaF,AaR]
  by_cases h:p x=true
  ·rw[if_pos h,if_pos h];exact congrArg (g x::·) (ih)
  ·rw[if_neg h,if_neg h];exact ih
noncomputable def Ze(nm:List (List Nat))(i:Nat):T:=Ax [Ag i,Ak (Ai (nm.getD i []))]
theorem AmJ(nm:List (List Nat)):Gc (Ds nm)=(As nm.length).map (Ze nm):=by
 unfold Gc Ds;rw[Apa,AmI [] nm,CY,CY];rfl
noncomputable abbrev EW(rs:List T)(nm:List (List Nat))(r:An):An:=[(Ab "roots",.fz (Ak rs)),(Ab "named",.fz (Ak (Ds nm))),(Ab "found",.own 0)]++r
section
variable (k:Nat)(rs:List T)(nm:List (List Nat))(hn:nm.length<=100)(hj:∀l,l∈nm->∀j,j∈l->j<nm.length)
include hn in
theorem AmK(l:List Nat)(hl:∀j,j∈l->j<nm.length)(t i:Nat)(f:List Bool)(hf:f.length=nm.length) :
  BX (fB k 36 962 (D5 (DS (D5 (DS (D5 (DS (AP 962 1)) 0)) 0)) 0)) 1 (Mine.Internal.nm ["roots","named","found","turn","number","names"]) (Ai l) (EW rs nm [(Ab "turn",.fz (Ag t)),(Ab "number",.fz (Ag i)),(Ab "names",.fz (Ak (Ai l)))]) [.lst (CJ f)] (EW rs nm [(Ab "turn",.fz (Ag t)),(Ab "number",.fz (Ag i)),(Ab "names",.fz (Ak (Ai l)))]) [.lst (CJ (Gk f l))] :=
 De Ag (λz=>EW rs nm [(Ab "turn",.fz (Ag t)),(Ab "number",.fz (Ag i)),(Ab "names",.fz (Ak (Ai l)))]) (λys=>[.lst (CJ (Gk f ys))]) l l (λys j zs e=>by
  have hj:=hl j (D8 e);have g:some (decide (0<=(j:Int)/\(j:Int)<((CJ (Gk f ys)).length:Int)))=some true:=congrArg some (decide_eq_true (by
   have:(CJ (Gk f ys)).length=nm.length:=by unfold CJ;rw[AG,Zc,hf]
   exact Ack hj this))
  have s:[AO.lst ((CJ (Gk f ys)).set j (.bool true))]=[.lst (CJ (Gk f (ys++[j])))]:=by
   unfold Gk;rw[NK,<- List.map_set];rfl
  exact⟨[.b true],kc (Ae g (f4 (L:=EW rs nm [(Ab "turn",.fz (Ag t)),(Ab "number",.fz (Ag i)),(Ab "names",.fz (Ak (Ai l)))]) 1 s (AK 1))) (by kernel_rfl)⟩) [] l rfl
theorem Zf{f:List Bool}(h:i<f.length)(h2:f.length<=100):ER (CJ f) (i:Int)=some (.bool (f.getD i false)):=HZ T.bool f rfl (Acj h h2) (by rw[EH,Cc h];rfl)
theorem AmL{xs:List (List A)}{j:A}(h:j∈xs.getD i []):xs.getD i []∈xs:=by
 rw[EH]at h ⊢;rcases e:xs[i]? with _ | x
 ·rw[e]at h;rcases h with⟨⟩
 ·exact FU e
include hn hj in
theorem AmM(t:Nat)(f:List Bool)(hf:f.length=nm.length) :
  BX (fB k 38 962 (D5 (DS (AP 962 1)) 0)) 1 (Mine.Internal.nm ["roots","named","found","turn"]) (Gc (Ds nm)) (EW rs nm [(Ab "turn",.fz (Ag t))]) [.lst (CJ f)] (EW rs nm [(Ab "turn",.fz (Ag t))]) [.lst (CJ (IU nm f))]:=by
 rw[AmJ];exact De (Ze nm) (λz=>EW rs nm [(Ab "turn",.fz (Ag t))]) (λys=>[.lst (CJ (ys.foldl (DJ nm) f))]) (As nm.length) (As nm.length) (λys i zs e=>by
  have hi:=Do.mp (D8 e);have hlen:(ys.foldl (DJ nm) f).length=nm.length:=by rw[Td,hf]
  generalize hg:ys.foldl (DJ nm) f=g at hlen
  have p:=Zf (f:=g) (i:=i) (Aci hi hlen) (U0 hn hlen);have s:[AO.lst (CJ (DJ nm g i))]=[.lst (CJ ((ys++[i]).foldl (DJ nm) f))]:=by rw[NK,hg];rfl
  have fin:=f4 (L:=EW rs nm [(Ab "turn",.fz (Ag t))]) 1 s (AK 1);rcases q:g.getD i false with _ | _
  ·rw[q]at p;have e:DJ nm g i=g:=if_neg (by rw[q];exact λh=>nomatch h)
   rw[e]at fin;exact⟨[.t (.bool false)],kc (Ae p fin) (by kernel_rfl)⟩
  ·rw[q]at p;have e:DJ nm g i=Gk g (nm.getD i []):=if_pos q;rw[e]at fin;have c:=AmK k rs nm hn (nm.getD i []) (λj h=>hj _ (AmL h) j h) t i g hlen;exact⟨[.t (.bool true),.st (EW rs nm [(Ab "turn",.fz (Ag t)),(Ab "number",.fz (Ag i)),(Ab "names",.fz (Ak (Ai (nm.getD i []))))]) [.lst (CJ (Gk g (nm.getD i [])))]],kc (Ae p (Ae c fin)) (by kernel_rfl)⟩) [] (As nm.length) rfl
include hn hj in
theorem AmN(f:List Bool)(hf:f.length=nm.length) :
  BX (fB k 39 962 (AP 962 1)) 1 (Mine.Internal.nm ["roots","named","found"]) (Ai (As nm.length)) (EW rs nm []) [.lst (CJ f)] (EW rs nm []) [.lst (CJ (CK nm f nm.length))]:=by
 have:=De (B:=fB k 39 962 (AP 962 1)) (n:=1) (ks:=Mine.Internal.nm ["roots","named","found"]) Ag (λz=>EW rs nm []) (λys:List Nat=>[.lst (CJ (CK nm f ys.length))]) (As nm.length) (As nm.length) (λys t zs e=>by
  have hlen:=(M7 nm f ys.length).trans hf;have s:[AO.lst (CJ (IU nm (CK nm f ys.length)))]=[.lst (CJ (CK nm f (ys++[t]).length))]:=by rw[Bg];rfl
  exact⟨[.st (EW rs nm [(Ab "turn",.fz (Ag t))]) [.lst (CJ (IU nm (CK nm f ys.length)))]],kc (Ae (AmM k rs nm hn hj t _ hlen) (f4 (L:=EW rs nm []) 1 s (AK 1))) (by kernel_rfl)⟩) [] (As nm.length) rfl
 rw[BR]at this;exact this
end
noncomputable def M8(rts:List Nat)(nm:List (List Nat)):List Nat:=(As nm.length).filter λi=>(CK nm ((As nm.length).map λi=>decide (i∈rts)) nm.length).getD i false
theorem AmO(k:Nat)(rts:List Nat)(nm:List (List Nat))(hn:nm.length<=100)(hj:∀l,l∈nm->∀j,j∈l->j<nm.length):VF (k+1) 962 [Ak (Ai rts),Ak (Ds nm)] (Ak (Ai (M8 rts nm))):=by
 have hl:(Ds nm).length=nm.length:=by unfold Ds;rw[AG]
 have rg:GE [Vf (Ag (Ds nm).length)]=some ((As nm.length).map Ag):=by rw[hl];exact JY (Ach hn)
 have c1:Cu (cB k 39 962 [(Ab "roots",.fz (Ak (Ai rts)))] [] (BY (AP 962 0))) (Ai (As nm.length)) (CJ ((As nm.length).map λi=>decide (i∈rts))):=by
  unfold CJ;rw[CY];exact C5 Ag (λi=>.bool (decide (i∈rts))) (As nm.length) λi z=>⟨[.b (decide (i∈rts))],kc (Ae (Tc i rts) (tr ([]:AH) (some (T.bool (decide (i∈rts)))))) (by kernel_rfl)⟩
 have hf:((As nm.length).map λi=>decide (i∈rts)).length=nm.length:=by rw[AG,BR]
 have c2:=AmN k (Ai rts) nm hn hj _ hf;have hlen:=(M7 nm ((As nm.length).map λi=>decide (i∈rts)) nm.length).trans hf;unfold M8
 generalize CK nm ((As nm.length).map λi=>decide (i∈rts)) nm.length=f at c2 hlen
 have c3:Cu (cB k 39 962 [(Ab "found",.own 0)] [.lst (CJ f)] (BY (AP 962 2))) (Ai (As nm.length)) (Ai ((As nm.length).filter λi=>f.getD i false)):=by
  have e:=Zd (λi=>f.getD i false) Ag (As nm.length);show Cu _ _ (GX Ag ((As nm.length).filter λi=>f.getD i false));rw[e];exact HV Ag (λi=>if f.getD i false=true then some (Ag i)else none) (As nm.length) λi hi=>by
   have p:=Zf (f:=f) (i:=i) (by have:=Do.mp hi;exact Acg hlen this) (U0 hn hlen)
   rcases q:f.getD i false with _ | _
   ·rw[q]at p;exact⟨[.t (.bool false)],kc (Ae p (tr [AO.lst (CJ f)] (none:Option T))) (by kernel_rfl)⟩
   ·rw[q]at p;exact⟨[.t (.bool true)],kc (Ae p (tr [AO.lst (CJ f)] (some (Ag i)))) (by kernel_rfl)⟩
 exact Bs [.l (Ai (As nm.length)),.l (CJ ((As nm.length).map λi=>decide (i∈rts))),.l (Ai (As nm.length)),.st (EW (Ai rts) nm []) [.lst (CJ f)],.l (Ai (As nm.length)),.l (Ai ((As nm.length).filter λi=>f.getD i false))]
  (kc (Ae rg (Ae c1 (Ae rg (Ae c2 (Ae rg (Ae c3 (Bd (Ak (Ai ((As nm.length).filter λi=>f.getD i false)))))))))) (by kernel_rfl))
end
def Te(f g:List Bool):Prop:=∀i,f.getD i false=true->g.getD i false=true
theorem AmP(f:List Bool)(j i:Nat):(f.set j true).getD i false=true↔f.getD i false=true\/(i=j/\j<f.length):=by
 rw[EH,EH,List.getElem?_set]
 by_cases h:j=i
 ·subst h;rw[if_pos rfl]
  by_cases h2:j<f.length
  ·rw[if_pos h2];exact⟨λz=>.inr ⟨rfl,h2⟩,λz=>rfl⟩
  ·rw[if_neg h2,Gn (DA.mp h2)];exact⟨(λh=>nomatch h),λh=>h.elim (λh=>nomatch h) λh=>absurd h.2 h2⟩
 ·rw[if_neg h];exact⟨.inl,λq=>q.elim id λq=>absurd q.1.symm h⟩
theorem AmQ:∀(js:List Nat) (f:List Bool) (i:Nat),(Gk f js).getD i false=true↔f.getD i false=true\/(i∈js/\i<f.length):=by
 intro z1
 induction z1 with
 | nil =>
  intro z2 z3;exact⟨.inl,λh=>h.elim id λh=>nomatch h.1⟩
 | cons j js ih =>
  intro f i;refine(ih (f.set j true) i).trans ?_;rw[AmP,GS,AS];exact⟨λh=>h.elim (λh=>h.imp id λ⟨e,q⟩=>⟨.inl e,e▸q⟩) λ⟨m,q⟩=>.inr ⟨.inr m,q⟩,λh=>h.elim (λh=>.inl (.inl h)) λ⟨m,q⟩=>m.elim (λe=>.inl (.inr ⟨e,e▸q⟩)) λm=>.inr ⟨m,q⟩⟩
theorem Tf(nm:List (List Nat))(f:List Bool)(i j:Nat):(DJ nm f i).getD j false=true↔f.getD j false=true\/(f.getD i false=true/\j∈nm.getD i []/\j<f.length):=by
 unfold DJ
 by_cases h:f.getD i false=true
 ·rw[if_pos h,AmQ];exact⟨λq=>q.imp id λq=>⟨h,q⟩,λq=>q.imp id λq=>q.2⟩
 ·rw[if_neg h];exact⟨.inl,λq=>q.elim id λq=>absurd q.1 h⟩
theorem Pz(nm:List (List Nat)):∀(is:List Nat) (f:List Bool),Te f (is.foldl (DJ nm) f):=by
 intro z1
 induction z1 with
 | nil =>
  intro z2;exact λz h=>h
 | cons i is ih =>
  intro f;exact λj h=>ih (DJ nm f i) j ((Tf nm f i j).mpr (.inl h))
theorem AmR:∀(f g:List Bool),f.length=g.length->Te f g->f=g\/f.count true<g.count true:=by
 intro f
 induction f with
 | nil =>
  intro g hl _;rcases g with _ | ⟨b,g⟩
  ·exact .inl rfl
  ·exfalso;injection hl
 | cons a f ih =>
  intro g hl h;rcases g with _ | ⟨b,g⟩
  ·exfalso;injection hl
  ·have h0:a=true->b=true:=h 0;have h1:=ih g (Aag hl) λi=>h (i+1);have h2:f.count true<=g.count true:=h1.elim (λe=>by rw[e];exact AK _) Dz
   rcases a with⟨⟩<;>rcases b with⟨⟩
   ·rw[LC,LC];exact h1.imp (λe=>by rw[e]) λq=>by simpa using q
   ·refine .inr ?_;rw[LC,LC];simp;exact Acn h2
   ·exact absurd (h0 rfl) (λh=>nomatch h)
   ·rw[LC,LC];exact h1.imp (λe=>by rw[e]) λq=>by simpa using q
theorem AmS:∀(f:List Bool),f.length<=f.count true->∀i,i<f.length->f.getD i false=true:=by
 intro z1
 induction z1 with
 | nil =>
  intro z2 z3 h;exact absurd h (Nx _)
 | cons a f ih =>
  intro hc i hi;have hle:f.count true<=f.length:=List.count_le_length;rw[LC,BH]at hc;rcases a with _ | _
  ·simp at hc;omega
  ·rcases i with _ | i
   ·rfl
   ·exact ih (by simp at hc;exact Acm hc) i (PT hi)
def Zg(nm:List (List Nat))(f:List Bool):Prop:=∀i,i<f.length->f.getD i false=true->∀j,j∈nm.getD i []->j<f.length->f.getD j false=true
theorem AmT{nm:List (List Nat)}{f:List Bool}(hl:f.length=nm.length)(e:f=IU nm f):Zg nm f:=by
 intro i hi h j hj hjl;refine HA (ZS (Do.mpr (hl▸hi))) ?_;rintro s t est;unfold IU at e;rw[est,NK,PI]at e;have h1:=Pz nm s f i h;have l1:=Td nm s f;have h2:=(Tf nm (s.foldl (DJ nm) f) i j).mpr (.inr ⟨h1,hj,by rw[l1];exact hjl⟩)
 have h3:=Pz nm t _ j h2;rw[<- e]at h3;exact h3
theorem AmU{nm:List (List Nat)}{f:List Bool}(hl:f.length=nm.length):∀t,CK nm f t=CK nm f (t+1)\/t<=(CK nm f t).count true:=by
 intro z1
 induction z1 with
 | zero =>
  exact .inr (Gl _)
 | succ t ih =>
  have hlen:(CK nm f t).length=(CK nm f (t+1)).length:=by rw[M7,M7]
  rcases ih with e | h
  ·left
   show CK nm f (t+1)=IU nm (CK nm f (t+1));rw[<- e];exact e
  ·rcases AmR _ _ hlen (Pz nm (As nm.length) (CK nm f t))with e | q
   ·left
    show CK nm f (t+1)=IU nm (CK nm f (t+1));have e':CK nm f t=CK nm f (t+1):=e;rw[<- e'];exact e'
   ·right
    have q':(CK nm f t).count true<(CK nm f (t+1)).count true:=q;exact Acl h q'
theorem AmV{nm:List (List Nat)}{f:List Bool}{nx:Nat->List Nat}{roots:List Nat}(hl0:f.length=nm.length)(g0:∀i,f.getD i false=true↔i∈roots)(hx:∀i,i<nm.length->nm.getD i []=nx i)(hrl:∀i,i∈roots->i<nm.length)(hxl:∀i j,j∈nx i->j<nm.length)(i:Nat) :
  (CK nm f nm.length).getD i false=true↔CB nx roots i:=by
 have row:∀(is:List Nat),(∀j,j∈is->j<nm.length)->∀g:List Bool,(∀i,g.getD i false=true->CB nx roots i)->∀i,(is.foldl (DJ nm) g).getD i false=true->CB nx roots i:=λis=>by
  induction is with
  | nil=>exact λz g h=>h
  | cons j is ih =>
   intro hj g h;refine ih (λj m=>hj j (FO _ m)) (DJ nm g j) λi q => ?_;rcases(Tf nm g j i).mp q with q | ⟨q1,q2,_⟩
   ·exact h i q
   ·rw[hx j (hj j Dh)]at q2;exact .step (h j q1) q2
 have sound:∀t i,(CK nm f t).getD i false=true->CB nx roots i:=λt=>by
  induction t with
  | zero=>exact λi h=>.root ((g0 i).mp h)
  | succ t ih=>exact row _ (λj m=>Do.mp m) _ ih
 have up:∀t,Te f (CK nm f t):=λt=>by
  induction t with
  | zero=>exact λz h=>h
  | succ t ih=>exact λi h=>Pz nm _ _ i (ih i h)
 have hlen:=(M7 nm f nm.length).trans hl0;have fx:Zg nm (CK nm f nm.length):=by
  rcases AmU hl0 nm.length with e | h
  ·exact AmT hlen e
  ·intro i _ _ j _ hj;exact AmS _ (by rw[hlen];exact h) j hj
 refine⟨sound _ i,λh => ?_⟩
 induction h with
 | root q=>exact up _ _ ((g0 _).mpr q)
 | @step a b r q ih =>
  have hb:=hxl _ _ q;have ha:a<nm.length:=by
   rcases r with q | ⟨_,q⟩
   ·exact hrl _ q
   ·exact hxl _ _ q
  rw[<- hx a ha]at q;exact fx a (by rw[hlen];exact ha) ih b q (by rw[hlen];exact hb)
theorem AmW{nm:List (List Nat)}{rts:List Nat}{nx:Nat->List Nat}{roots:List Nat}(hr:∀i,i∈rts↔i∈roots)(hrl:∀i,i∈roots->i<nm.length)(hx:∀i,i<nm.length->nm.getD i []=nx i)(hxl:∀i j,j∈nx i->j<nm.length)(i:Nat) :
  i∈M8 rts nm↔CB nx roots i:=by
 have hl0:((As nm.length).map λi=>decide (i∈rts)).length=nm.length:=by rw[AG,BR]
 have g0:∀i,((As nm.length).map λi=>decide (i∈rts)).getD i false=true↔i∈roots:=λi=>by
  rw[EH,G2]
  by_cases h:i<nm.length
  ·rw[Qe h];show decide (i∈rts)=true↔_;rw[decide_eq_true_iff];exact hr i
  ·rw[Gn (by rw[BR];exact DA.mp h)]
   exact⟨(λh=>nomatch h),λq=>absurd (hrl i q) h⟩
 unfold M8;rw[GY,Do];have core:=AmV hl0 g0 hx hrl hxl i;refine⟨λh=>core.mp h.2,λh=>⟨?_,core.mpr h⟩⟩;rcases h with q | ⟨_,q⟩
 ·exact hrl _ q
 ·exact hxl _ _ q
structure Mod.Pure(m:Mod):Prop where
 g:∀g,g∈m.globs->Bb g.body=Ca g.body
 e:∀e,e∈m.elems->∀b,b∈e.inits->Bb b=Ca b
theorem Tg{f g:A->List B}:∀{xs:List A},(∀x,x∈xs->f x=g x)->xs.flatMap f=xs.flatMap g:=by
 intro z1
 induction z1 with
 | nil =>
  intro z2;exact rfl
 | cons x xs ih =>
  intro h;rw[NT,NT,h x Dh,ih λy m=>h y (FO _ m)]
noncomputable def Mod.lr(m:Mod):List Nat:=As m.ik.length++m.dset++m.start.toList
theorem AmX(z:m.Wf)(p:m.Pure)(i:Nat):i∈m.lr↔i∈m.roots:=by
 have e1:DF m.globs=By m.globs:=Tg p.g;have e2:Ew m.elems=BN m.elems:=Tg λe h=>Tg (p.e e h);unfold Mod.lr Mod.roots;rw[e1,e2];simp only[BF,IS z];unfold Mod.decl;simp only[BF];constructor
 ·rintro((h | (h | h) | h) | h)<;>simp[h]
 ·rintro((((h | h) | h) | h) | h)<;>simp[h]
theorem J1(m:Mod):(DI m).length=m.N:=by
 unfold DI Mod.N;rw[Bg,AG,AG,BR]
theorem Zh(m:Mod)(i:Nat)(h:i<m.N):(DI m).getD i []=m.nx i:=by
 unfold DI Mod.nx;rw[EH]
 by_cases c:i<m.ik.length
 ·rw[if_pos c,Gm (by rw[AG,BR];exact c),G2,Qe c]
  rfl
 ·rw[if_neg c,IY (by rw[AG,BR];exact Qq c),AG,BR,G2]
  cases (m.funcs[i-m.ik.length]?)<;>rfl
theorem AmY(z:m.Wf)(p:m.Pure):M8 m.lr (DI m)=m.used:=by
 refine MV (Ki _ LB) (H2 m) λi => ?_;rw[Ff z];exact AmW (AmX z p) (λi h=>by rw[J1];exact z.rts i h) (λi h=>Zh m i (by rw[<- J1];exact h)) (λi j h=>by rw[J1];exact z.nx_lt h) i
section
section
variable {m:Mod}(z:m.Wf)
theorem Th(h:n∈m.used):m.used[m.fi n]? = some n:=by
 have h1:=LD h;rw[show m.fi n=m.used.idxOf n from rfl,Cc h1,Qi h1]
theorem IV(h:n∈m.used):m.fi n<m.used.length:=LD h
include z in
theorem AmZ:m.used.length=m.ik.length+m.own.length:=by rw[z.used_app,Bg,BR]
theorem Zi{M:Nat}(h:n<M):(As M).idxOf n=n:=by
 have h1:=LD (Do.mpr h);have h2:=Qi h1
 rwa [List.getElem_range]at h2
include z in
theorem Am0(h:n<m.ik.length):m.fi n=n:=by
 unfold Mod.fi;rw[z.used_app,Aa9,if_pos (Do.mpr h),Zi h]
include z in
theorem Zj(h:n∈m.own):m.fi n=m.ik.length+m.own.idxOf n:=by
 refine CZ (Hq z h) ?_;rintro _ h2 _;unfold Mod.fi;rw[z.used_app,Aa9,if_neg (λq=>DA.mpr h2 (Do.mp q)),BR,PP]
set_option tactic.hygienic true in
theorem PA(m:Mod)(b:List AX):Bb (Bl m b)=(Bb b).map m.fi:=by
 unfold Bb Bl;rw[Apc,Ur]
 congr 1
 funext i
 rcases i with⟨⟩<;>rfl
set_option tactic.hygienic true in
theorem Zk(m:Mod)(b:List AX):Ca (Bl m b)=(Ca b).map m.fi:=by
 unfold Ca Bl;rw[Apd,Ape]
 congr 1
 funext i
 rcases i with⟨⟩<;>rfl
set_option tactic.hygienic true in
theorem J2(f:A->List Nat)(g:B->A)(f':B->List Nat)(r:Nat->Nat)(xs:List B)(h:∀x,f (g x)=(f' x).map r):(xs.map g).flatMap f=(xs.flatMap f').map r:=by
 rw[Apd,Ape]
 congr 1
 funext x
 exact h x
set_option tactic.hygienic true in
theorem Ti(m:Mod):m.less.iks=m.iks.map m.ki:=by
 show(m.imports.map (DG m)).filterMap Df.k=(m.imports.filterMap Df.k).map m.ki;rw[Apc,Ur]
 congr 1
 funext i
 rcases i with⟨⟩<;>rfl
theorem Tj(m:Mod):m.less.ik.length=m.ik.length:=by rw[Mod.ik_eq,Mod.ik_eq,Co,Co,Ti,AG]
theorem Zl(m:Mod):m.less.funcs.length=m.own.length:=by
 show((m.own.map m.fn).map (C6 m)).length=_;rw[AG,AG]
include z in
theorem M9:m.less.N=m.used.length:=by unfold Mod.N;rw[Tj,Zl,AmZ z]
theorem Zm(m:Mod):AV m.less.exps=(AV m.exps).map m.fi:=J2 _ _ _ _ _ λx=>by rcases x with⟨⟩<;>rfl
theorem Am1(m:Mod):DF m.less.globs=(DF m.globs).map m.fi:=J2 _ _ _ _ _ λx=>PA m x.body
theorem Am2(m:Mod):Ew m.less.elems=(Ew m.elems).map m.fi:=J2 _ _ _ _ _ λx=>J2 _ _ _ _ _ λb=>PA m b
theorem Am3(m:Mod):By m.less.globs=(By m.globs).map m.fi:=J2 _ _ _ _ _ λx=>Zk m x.body
theorem Am4(m:Mod):BN m.less.elems=(BN m.elems).map m.fi:=J2 _ _ _ _ _ λx=>J2 _ _ _ _ _ λb=>Zk m b
theorem Am5(m:Mod):m.less.start.toList=m.start.toList.map m.fi:=by
 show(m.start.map m.fi).toList=_;rcases m.start with⟨⟩<;>rfl
theorem Am6(m:Mod):m.less.decl=m.decl.map m.fi:=by
 unfold Mod.decl;rw[Zm,Am3,Am4,BJ,BJ]
include z in
theorem Zn:m.less.roots=m.roots.map m.fi:=by
 unfold Mod.roots;rw[Tj,Zm,Am5,Am1,Am2];simp only[BJ]
 congr 4
 refine(Aba _).symm.trans (Lz λi h=>(Am0 z (Do.mp h)).symm)
theorem Am7(kinds:List Bool):∀(S:List Nat) (rows:List Bool),rows.Nodup->(S.foldl (DU kinds) rows).Nodup:=by
 intro z1
 induction z1 with
 | nil =>
  intro z2 h;exact h
 | cons i S ih =>
  intro rows h;refine ih _ ?_;unfold DU
  by_cases q:kinds.getD i false∈rows
  ·rw[if_pos q];exact h
  ·rw[if_neg q];exact FL.mpr ⟨h,Dm.mpr ⟨(λh=>nomatch h),G1⟩,λa ha b hb=>by rintro rfl;exact q (Cr.mp hb▸ha)⟩
theorem Tk(m:Mod):m.rows.Nodup:=Am7 _ _ _ G1
theorem Tl(h:i∈m.S):m.ki i<m.rows.length:=LD (AlI h)
include z in
theorem Am8:m.S.length<=3:=AC (Ho (Hp (H1 _ _)) λj h=>MW z j ((H3 z).mp h)) z.kinds
include z in
theorem Lk:m.less.Wf where
 kinds:=AC (YM m.kinds m.S []) (by rw[DL,J5];exact Am8 z)
 imps:=by show(m.imports.map _).length<=3;rw[AG];exact z.imps
 funcs:=by
  rw[Zl];have h1:=Ho (fs:=m.own.map (· - m.ik.length)) (N:=m.funcs.length) (Qg.mpr ((Ki _ (H2 m)).imp_of_mem λ{a b} ha hb q e=>by
   exact B6 (Nat.sub_lt_sub_right (Hq z ha).2.1 q) e)) λi h=>by
   refine Ah (BB.mp h) ?_;rintro a ha rfl;exact(DK.mp (Hq z ha).1).1
  rw[AG]at h1;exact AC h1 z.funcs
 globs:=by show(m.globs.map _).length<=3;rw[AG];exact z.globs
 exps:=by show(m.exps.map _).length<=3;rw[AG];exact z.exps
 elems:=by show(m.elems.map _).length<=3;rw[AG];exact z.elems
 gb:=λg h=>by
  refine Ah (BB.mp h) ?_;rintro a ha rfl;show(Bl m a.body).length<=2;unfold Bl;rw[AG];exact z.gb a ha
 ei:=λe h=>by
  refine Ah (BB.mp h) ?_;rintro a ha rfl;show(a.inits.map _).length<=3;rw[AG];exact z.ei a ha
 eb:=λe h b hb=>by
  refine Ah (BB.mp h) ?_;rintro a ha rfl;refine Ah (BB.mp hb) ?_;rintro c hc rfl;unfold Bl;rw[AG];exact z.eb a ha c hc
 fb:=λf h=>by
  refine Ah (BB.mp h) ?_;rintro a ha rfl;refine Ah (BB.mp ha) ?_;rintro i hi rfl;show(Bl m _).length<=7;unfold Bl;rw[AG];exact z.fb _ (FU (Hq z hi).1)
 rts:=λi h=>by
  rw[Zn z]at h;refine Ah (BB.mp h) ?_;rintro n hn rfl;rw[M9 z];exact IV ((Ff z).mpr (.root hn))
 nxt:=λf h j q=>by
  refine Ah (BB.mp h) ?_;rintro a ha rfl;refine Ah (BB.mp ha) ?_;rintro i hi rfl;have q':j∈Bb (Bl m (m.fn i).body):=q;rw[PA]at q';refine Ah (BB.mp q') ?_;rintro n hn rfl;rw[M9 z];exact IV ((Ff z).mpr (SY z hi n hn))
 kfn:=λf h=>by
  refine Ah (BB.mp h) ?_;rintro a ha rfl;refine Ah (BB.mp ha) ?_;rintro i hi rfl;exact Tl (YU z hi)
 kim:=λi h=>by
  rw[Ti]at h;refine Ah (BB.mp h) ?_;rintro j hj rfl;exact Tl ((H3 z).mpr (Cb _ hj))
include z in
theorem Am9(h:a∈m.own):m.less.funcs[m.fi a-m.ik.length]? = some (C6 m (m.fn a)):=by
 have h1:=LD h;rw[Zj z h,Apf];show((m.own.map m.fn).map (C6 m))[_]? = _;rw[G2,G2,Cc h1,Qi h1];rfl
include z in
theorem Ana(h:CB m.nx m.roots n):CB m.less.nx m.less.roots (m.fi n):=by
 induction h with
 | root q=>exact .root (by rw[Zn z];exact Dl q)
 | @step a b r q ih =>
  refine .step ih ?_;have hu:=(Ff z).mpr r;have hM:¬a<m.ik.length:=λc=>by
   unfold Mod.nx at q;rw[if_pos c]at q;rcases q with⟨⟩
  have ho:a∈m.own:=GY.mpr ⟨hu,decide_eq_true (DA.mp hM)⟩;unfold Mod.nx at q ⊢;rw[if_neg hM,(Hq z ho).1]at q;rw[Tj,if_neg (by rw[Zj z ho];exact Aco),Am9 z ho]
  show m.fi b∈Bb (Bl m (m.fn a).body);rw[PA];exact Dl q
include z in
theorem Tm:m.less.used=As m.used.length:=by
 refine MV (H2 _) LB λi => ?_;rw[Ff (Lk z),Do];refine⟨λh=>M9 z▸(Lk z).reach_lt h,λh => ?_⟩;have h1:m.used[i]∈m.used:=Qh h;have h2:m.fi m.used[i]=i:=by
  have nd:=Hp (H2 m);exact(Ut (h₀:=IV h1) (h₁:=h) nd).mp (Ay ((Cc (IV h1)).symm.trans (Th h1)))
 rw[<- h2];exact Ana z ((Ff z).mp h1)
end
end
section
section
variable {m:Mod}(z:m.Wf)
include z in
theorem Tn(h:n<m.less.N):m.less.fi n=n:=by
 unfold Mod.fi;rw[Tm z];exact Zi (by rw[<- M9 z];exact h)
include z in
theorem Zo:m.less.kf=m.less.funcs:=by
 have z':=Lk z;unfold Mod.kf;rw[<- z'.used_drop,Tm z];refine Aa2 λj => ?_;rw[G2,Aa3];have hN:m.less.ik.length+m.less.funcs.length=m.used.length:=M9 z
 by_cases h:j<m.less.funcs.length
 ·rw[Qe (Acq hN h),Cc h];show some (m.less.funcs.getD (m.less.ik.length+j-m.less.ik.length) ⟨0,[]⟩)=_;rw[Apf,EH,Cc h];rfl
 ·rw[Gn (by rw[BR];exact Acp hN h),Gn (DA.mp h)]
  rfl
theorem Anb(m:Mod):m.less.iks++m.less.funcs.map (·.kind)=m.ku.map m.ki:=by
 rw[Ti];unfold Mod.ku;rw[BJ]
 congr 1
 show((m.kf.map (C6 m)).map (·.kind))=_;rw[CY,CY];rfl
theorem Anc(rows:List Bool)(nd:rows.Nodup):∀k,k<=rows.length->Cp rows (As k)=rows.take k:=by
 intro z1
 induction z1 with
 | zero =>
  intro z2;exact rfl
 | succ k ih =>
  intro h;rw[List.range_succ,Po,ih (Ty h)];have e:rows.getD k false=rows[k]:=by rw[EH,Cc h];rfl
  unfold DU;rw[e,if_neg,AoH h];intro q;rcases Aa7 q with⟨j,hj,ej⟩
  rw[List.getElem_take]at ej;rw[Nt]at hj;rw[(Ut nd).mp ej]at hj;exact BP _ (EX hj (Nat.min_le_left _ _))
include z in
theorem Ane:m.less.S=As m.rows.length:=by
 have z':=Lk z;refine MV (H1 _ _) LB λi => ?_;rw[H3 z',Do];unfold Mod.ku;rw[Zo z,Anb];refine⟨λh => ?_,λh => ?_⟩
 ·refine Ah (BB.mp h) ?_;rintro j hj rfl;exact Tl ((H3 z).mpr hj)
 ·refine Ah (((SV m.kinds m.S [] m.rows[i]).mp (Qh h)).elim (λh=>nomatch h) id) ?_;rintro j hj e
  refine BB.mpr ⟨j,(H3 z).mp hj,?_⟩;unfold Mod.ki;rw[e];have h1:=LD (Qh h);exact(Ut (h₀:=h1) (h₁:=h) (Tk m)).mp (Qi h1)
include z in
theorem Zp:m.less.rows=m.rows:=by
 show Cp m.rows m.less.S=_;rw[Ane z,Anc _ (Tk m) _ (AK _),Aay]
include z in
theorem Zq(h:i<m.rows.length):m.less.ki i=i:=by
 show m.less.rows.idxOf (m.rows.getD i false)=i;rw[Zp z,EH,Cc h];have h1:=LD (Qh h);exact(Ut (h₀:=h1) (h₁:=h) (Tk m)).mp (Qi h1)
include z in
theorem To{b:List AX}(h:∀n,n∈Bb b->n<m.less.N):Bl m.less b=b:=by
 refine(Lz λi hi => ?_).trans (Aba _);have hf:∀n,i.fns=some n->m.less.fi n=n:=λn q=>Tn z (h n (Ie.mpr ⟨i,hi,q⟩));rcases i with⟨t,n⟩ | n | _ | _ | _ | _
 case call=>exact congrArg (AX.call t) (hf n rfl)
 case rf=>exact congrArg AX.rf (hf n rfl)
 all_goals rfl
theorem Ll{f:A->A}{xs:List A}(h:∀x,x∈xs->f x=x):xs.map f=xs:=(Lz h).trans (Aba _)
include z in
theorem Anf:m.less.less=m.less:=by
 have z':=Lk z;have e1:m.less.imports.map (DG m.less)=m.less.imports:=Ll λi hi=>by
  rcases i with k | _
  ·exact congrArg Df.f (Zq z (z'.kim k (Ie.mpr ⟨_,hi,rfl⟩)))
  ·rfl
 have e2:m.less.kf.map (C6 m.less)=m.less.funcs:=by
  rw[Zo z];refine Ll λf hf => ?_;have a:=Zq z (z'.kfn f hf);have b:=To z (b:=f.body) λn hn=>z'.nxt f hf n hn;show(⟨m.less.ki f.kind,Bl m.less f.body⟩:CP)=f;rw[a,b]
 have e3:m.less.globs.map (FH m.less)=m.less.globs:=Ll λg hg=>by
  show(⟨g.mu,Bl m.less g.body⟩:CQ)=g;rw[To z λn hn=>z'.reach_lt (YQ hg n hn)]
 have e4:m.less.exps.map (Gi m.less)=m.less.exps:=Ll λx hx=>by
  rcases x with⟨s,i⟩ | s
  ·exact congrArg (Cz.f s) (Tn z (z'.reach_lt (YS hx i Dh)))
  ·rfl
 have e5:m.less.start.map m.less.fi=m.less.start:=by
  rcases h:m.less.start with _ | s
  ·rfl
  ·exact congrArg some (Tn z (z'.reach_lt (YT h)))
 have e6:m.less.elems.map (Ex m.less)=m.less.elems:=Ll λe he=>by
  show(⟨e.mode,e.inits.map (Bl m.less)⟩:Cn)=e;rw[Ll λb hb=>To z λn hn=>z'.reach_lt (YR he hb n hn)]
 show(⟨m.less.rows,m.less.imports.map (DG m.less),m.less.kf.map (C6 m.less),m.less.globs.map (FH m.less),m.less.exps.map (Gi m.less),m.less.start.map m.less.fi,m.less.elems.map (Ex m.less)⟩:Mod)=m.less;rw[e1,e2,e3,e4,e5,e6,Zp z];rfl
include z in
theorem Ang{b:Nat}(ha:a∈m.used)(hb:b∈m.used)(h:a<b):m.fi a<m.fi b:=by
 have h1:=Th ha;have h2:=Th hb;rcases TF (m.fi a) (m.fi b)with q | q | q
 ·exact q
 ·rw[q,h2]at h1;injection h1 with za;subst za
  exact absurd h (BP _)
 ·have:=List.pairwise_iff_getElem.mp (H2 m) (m.fi b) (m.fi a) (IV hb) (IV ha) q;rw[Cc (IV ha)]at h1;rw[Cc (IV hb)]at h2;rw[Ay h1,Ay h2]at this
  omega
include z in
theorem Anh(h:n∈m.decl):n∈m.used:=by
 refine(Ff z).mpr (.root ?_);have sub:∀(b:List AX) (i:Nat),i∈Ca b->i∈Bb b:=λb i h=>by
  refine Ah (CF.mp h) ?_;rintro x hx hi;refine Ie.mpr ⟨x,hx,?_⟩;rcases x with _ | n | _ | _ | _ | _
  case rf=>rw[Cr.mp hi];rfl
  all_goals rcases hi with⟨⟩
 unfold Mod.decl at h;unfold Mod.roots;rcases BF.mp h with h | h
 ·rcases BF.mp h with h | h
  ·exact Cb _ (Cb _ (Cb _ (Cv _ h)))
  ·refine Ah (CF.mp h) ?_;rintro g hg hi;exact Cb _ (Cv _ (CF.mpr ⟨g,hg,sub _ _ hi⟩))
 ·refine Ah (CF.mp h) ?_;rintro e he hi;refine Ah (CF.mp hi) ?_;rintro b hb hi;exact Cv _ (CF.mpr ⟨e,he,CF.mpr ⟨b,hb,sub _ _ hi⟩⟩)
include z in
theorem Tp(h:n∈m.dset):n∈m.used:=Anh z ((IS z).mp h)
include z in
theorem Ani:EM (m.less.dl.map λ(n:Nat)=>(n:Int))=(m.dset.map m.fi).map λ(n:Nat)=>(n:Int):=by
 have hp:(m.dset.map m.fi).Pairwise (· < ·):=Qg.mpr ((H1 m.N m.decl).imp_of_mem λ{a b} ha hb q=>Ang z (Tp z ha) (Tp z hb) q);refine(Ol ?_ ?_).symm
 ·refine Ao6 _ ((Us (Hp hp) (Ta _ _ G1)).mpr λi => ?_);have e:i∈m.less.dl↔i∈m.decl.map m.fi:=by rw[M5,Am6]
  refine Iff.trans ?_ e.symm;rw[BB,BB];exact⟨λ⟨n,h,q⟩=>⟨n,(IS z).mp h,q⟩,λ⟨n,h,q⟩=>⟨n,(IS z).mpr h,q⟩⟩
 ·exact Qg.mpr (hp.imp λ{a b} q=>Ia.mpr (Dz q))
end
end
def PC(vs:List V)(α:AH)(as:List Al)(Q:Kq V):Prop:=match as with
 | .t r::as=>Bq (Ga α vs) λp=>VT p.1 r/\Q (Vf r) p.2 as
 | _=>False
def Zr(b:Bool)(A B:Prop):Prop:=match b with
 | true=>A
 | false=>B
noncomputable def J3:Hs:=⟨λf vs α as Q=>Zr (EE f 974) (PC vs α as Q) ((Fb Dq true 20).fn f vs α as Q),λz z z z z=>False,true⟩
theorem Anj(F:BW K):ES Dq J3 (CN K):=by
 have l:=ML F (E:=Dq) (qt:=true) (λx x h=>h) 20;have g:GT (CN K):=by
  have:=MH K NL 20;exact⟨this.1,this.2,this.3,this.4,this.5,this.6,this.7⟩
 refine⟨λx x h=>h,g,λf vs α as Q h X ρ σ cs s r => ?_,λx x x x x h=>h.elim⟩;have h':Zr (EE f 974) (PC vs α as Q) ((Fb Dq true 20).fn f vs α as Q):=h;rcases q:EE f 974 with _ | _
 ·rw[q]at h';have ef:C9 (CN K) f cs=C9 (BO K NL 20) f cs:=by
   unfold C9 CN;dsimp only;rw[if_neg λe=>by rw[e,Nat.beq_refl]at q;(exfalso;injection q)]
  rw[ef];exact l.fn f vs α as Q h' X ρ σ cs s r
 ·rw[q]at h';have h2:PC vs α as Q:=h';have q':=NS q;have ef:C9 (CN K) f cs=IC (BO K NL 18) NL Em.1 cs:=by
   unfold C9 CN;dsimp only;rw[if_pos q']
  rw[ef];unfold PC at h2
  split at h2
  ·refine AE (BE h2) ?_;rintro⟨ts,α'⟩ e h1 h2;exact MK (λx x x x x=>trivial) s e r (λt z=>h1 K F _ σ cs z t) h2
  ·exact h2.elim
theorem Ank(F:BW K){is:List Int}(hl:is.length<=63)(as:List Al)
  (h:II Dq J3 39 BA.1.scope.names 40 BA.1.body.tail [(Ab "script",.fz (Ak (CW is)))] [] as (λfl z z z=>fl=.ret (Vf (.bool true)))):OI K is:=by
 have t:TR (λz=>False) [CO.list (is.map .int)] (.ref 0) (Ak (CW is)):=TR.ofList (λh=>h) rfl (decide_eq_true (by rw[AG];exact Qv hl)) (AA.ints is)
 have u:=MM (X:=λz=>False) (σ:=[CO.list (is.map .int)]) (.cons t .nil);have lc:AW (Zx (λz=>False) [] []) [] [CO.list (is.map .int)] [(Ab "script",CV.ref 0)] [(Ab "script",.fz (Ak (CW is)))]:=Pd (xs:=[Ab "script"]) (vs:=[CV.ref 0]) (ws:=[.fz (Ak (CW is))]) ⟨u.1,trivial⟩;rcases(Yo (Anj F) (N:=39) 40 _ _ _ _ _ h (λz=>False) [] _ _ (JV (λz h=>h.elim)) lc).out with⟨⟨fl,loc⟩,σ1,ρ1,α1,e,p,fl',loc',as',s1,r1,lr1,h1⟩
 subst h1;rcases fl with _ | c
 ·exact r1.elim
 ·have r2:TR (Zx (λz=>False) ρ1 α1) σ1 c (.bool true):=r1;rcases r2 with⟨⟩
  exact⟨loc,σ1,e⟩
noncomputable def flat:Nat->T->Bool
 | 0,_=>false
 | n+1,t=>match t with
  | .node .tup ts=>ts.all (flat n)
  | .node .lst ts=>ts.all (flat n)
  | .node _ _=>false
  | _=>true
theorem Zs(f:T->T->Option Bool):∀ts:List T,(∀t,t∈ts->f t t=some true)->Eo f ts ts=some true:=by
 intro z1
 induction z1 with
 | nil =>
  intro z2;exact rfl
 | cons t ts ih =>
  intro h;show(match f t t,Eo f ts ts with | some a,some b=>some (a && b) | _,_=>none)=_
  rw[h t Dh,ih λu m=>h u (FO _ m)];rfl
theorem J4:∀(n:Nat) (t:T),flat n t=true->Br n t t=some true:=by
 intro z1
 induction z1 with
 | zero =>
  intro z2 h;exact nomatch h
 | succ n ih =>
  intro t h;rcases t with _ | b | i | x | ⟨k,ts⟩
  ·rfl
  ·exact congrArg some (beq_self_eq_true b)
  ·exact congrArg some (beq_self_eq_true i)
  ·exact congrArg some (beq_self_eq_true x)
  ·rcases k with _ | _ | ks | ⟨C,xs⟩
   ·exact Zs _ ts λt m=>ih t (B0.mp h t m)
   ·show(if ts.length=ts.length then Eo (Br n) ts ts else some false)=_;rw[if_pos rfl];exact Zs _ ts λt m=>ih t (B0.mp h t m)
   ·exfalso;injection h
   ·exfalso;injection h
theorem all_map{f:A->T}{p:T->Bool}{xs:List A}(h:∀x,x∈xs->p (f x)=true):(xs.map f).all p=true:=B0.mpr λt m=>by
 refine Ah (BB.mp m) ?_;rintro x hx rfl;exact h x hx
theorem PD(n:Nat)(us:List Nat):flat (n+2) (Ak (Ai us))=true:=all_map (p:=flat (n+1)) λz z=>rfl
theorem Zt(n:Nat)(i:AX):flat (n+2) (Bt i)=true:=by
 rcases i with⟨t,k⟩ | _ | _ | _ | _ | _
 case call=>rcases t with⟨⟩<;>rfl
 all_goals rfl
theorem Anl(n:Nat)(b:List AX):flat (n+3) (AU b)=true:=all_map (p:=flat (n+2)) λi z=>Zt n i
theorem Tq(n:Nat)(b:List AX):flat (n+3) (Fc b)=true:=all_map (p:=flat (n+2)) λi z=>Zt n i
theorem Zu(m:Mod):flat 20 (IL m)=true:=by
 have k:flat 19 (Ax (m.kinds.map A8))=true:=all_map (p:=flat 18) λb z=>by rcases b with⟨⟩<;>rfl
 have i:flat 19 (Ax (m.imports.map Gg))=true:=all_map (p:=flat 18) λb z=>by rcases b with⟨⟩<;>rfl
 have f:flat 19 (Ax (m.funcs.map HW))=true:=all_map (p:=flat 18) λb z=>by
  show(flat 17 (Ag b.kind) && (flat 17 (Ax []) && (flat 17 (Fc b.body) && true)))=true;rw[Tq 14];rfl
 have g:flat 19 (Ax (m.globs.map HX))=true:=all_map (p:=flat 18) λb z=>by
  show(flat 17 (.int (-16)) && (flat 17 (Ag b.mu) && (flat 17 (Fc b.body) && true)))=true;rw[Tq 14];rfl
 have x:flat 19 (Ax (m.exps.map Ci))=true:=all_map (p:=flat 18) λb z=>by rcases b with⟨⟩<;>rfl
 have e:flat 19 (Ax (m.elems.map GG))=true:=all_map (p:=flat 18) λb z=>by
  have q:flat 17 (Ax (b.inits.map Fc))=true:=all_map (p:=flat 16) λc z=>Tq 13 c;rcases b with⟨mo,bs⟩
  show(flat 17 (MR mo) && (flat 17 (.int 0) && (flat 17 (Yt mo) && (flat 17 (.int (-16)) && (flat 17 (Ax (bs.map Fc)) && true)))))=true;rw[q];rcases mo with⟨⟩<;>rfl
 have s:flat 19 (DT m.start)=true:=by rcases m.start with⟨⟩<;>rfl
 show(flat 19 (Ax (m.kinds.map A8)) && (flat 19 (Ax (m.imports.map Gg)) && (flat 19 (Ax (m.funcs.map HW)) && (flat 19 (Ax [D6]) && (flat 19 (Ax [D7]) && (flat 19 (Ax (m.globs.map HX)) && (flat 19 (Ax (m.exps.map Ci)) && (flat 19 (DT m.start) && (flat 19 (Ax (m.elems.map GG)) && (flat 19 (Ax []) && (flat 19 (Ax []) && true)))))))))))=true;rw[k,i,f,g,x,e,s];rfl
theorem IW{f:T->T->Option Bool}{x y:T}{xs ys:List T}(h:f x y=some true)(r:Eo f xs ys=some true):Eo f (x::xs) (y::ys)=some true:=by
 show(match f x y,Eo f xs ys with | some a,some b=>some (a && b) | _,_=>none)=_
 rw[h,r];rfl
theorem Anm(n:Nat)(b:List Nat):∀a:List Nat,(∀i,i∈a->i∈b)->HP (Br (n+1)) (eF b) (eF a)=some true:=by
 intro z1
 induction z1 with
 | nil =>
  intro z2;exact rfl
 | cons i a ih0 =>
  intro h;have e:Ct (eF b) i=some (.bool true):=by
   have q:=MT b i;rw[decide_eq_true (h i Dh)]at q;have w:∀(b:List Nat) (t:T),Ct (eF b) i=some t->t=.bool true:=λb=>by
    induction b with
    | nil=>exact λt h=>nomatch h
    | cons x b ih =>
     intro t h;have h':(if(x:Int)=i then some (T.bool true)else Ct (eF b) i)=some t:=h
     split at h'
     ·exact(Ay h').symm
     ·exact ih t h'
   rcases r:Ct (eF b) i with _ | t
   ·rw[r]at q;(exfalso;injection q)
   ·rw[w b t r]
  show(match Ct (eF b) i with
   | none=>some false
   | some y=>match Br (n+1) (.bool true) y,HP (Br (n+1)) (eF b) (eF a)with
    | some a,some b=>some (a && b)
    | _,_=>none)=_
  rw[e,ih0 λi m=>h i (FO _ m)];rfl
theorem Ann(n:Nat){a b:List Nat}(ha:a.Nodup)(hb:b.Nodup)(h:∀i,i∈a↔i∈b):Br (n+2) (Dx (eF a)) (Dx (eF b))=some true:=by
 have hl:((eF a).map (·.2)).length=((eF b).map (·.2)).length:=by
  unfold eF;rw[AG,AG,AG,AG];exact((Us ha hb).mpr h).length_eq
 show(if((eF a).map (·.2)).length=((eF b).map (·.2)).length then HP (Br (n+1)) (((eF b).map (·.1)).zip ((eF b).map (·.2))) (((eF a).map (·.1)).zip ((eF a).map (·.2)))else some false)=_;rw[if_pos hl,Lh,Lh];exact Anm n b a λi m=>(h i).mp m
theorem Ano{ds:List Nat}(h:ds.Nodup)(hl:ds.length<=1000):(match Fa (ds.map λn=>Ax [Ag n,.bool true])with
  | some ps=>if ps.length<=1000 then some (ps.foldl (λes p=>Cg es p.1 p.2) [])else none
  | none=>none)=some (eF ds):=by
 have p:∀ds:List Nat,Fa (ds.map λn=>Ax [Ag n,.bool true])=some (eF ds):=λds=>by
  induction ds with
  | nil=>rfl
  | cons d ds ih =>
   show(match Fa (ds.map λn=>Ax [Ag n,.bool true])with | some ps=>some (((d:Int),T.bool true)::ps) | none=>none)=_
   rw[ih];rfl
 rw[p];dsimp only;have k:(eF ds).map (·.1)=ds.map λ(n:Nat)=>(n:Int):=by unfold eF;rw[CY];rfl
 rw[show(eF ds).length=ds.length from AG _,if_pos hl];refine congrArg some ((YH _ [] ?_).trans rfl);rw[Ao9,k];exact YI h
theorem Anp(N:Nat)(ds:List Nat)(z:Int):flat 20 (IT N ds z)=true:=by
 unfold IT
 split
 ·split<;>rfl
 ·rfl
noncomputable def IX(i:Nat):AL:=D5 BA.1.body.tail i
def cL(n:Nat)(base:An)(α:AH)(e:Expr):T->List Al->(Option T->Prop)->Prop:=match e with
 | .ListComp elt [⟨target,iter,ifs,0⟩] scope _=>JN (DP J3 n).1 (DP J3 n).2 (Db BA.1.scope.names scope.names) base target elt ifs α
 | _=>λz z z=>False
def fW(n:Nat)(s:AL)(t:T)(l:An)(a:AH)(as:List Al)(Q:BS->An->AH->List Al->Prop):Prop :=
 IH (DP J3 40).1 BA.1.scope.names (SL s) (Vf t) l a as λl a as=>II Dq J3 39 BA.1.scope.names n (DS s) l a as Q
structure Mod.Law(m:Mod):Prop extends m.Wf,m.Pure where
 hk:m.kinds=[false,true,false]
 hi:m.iks=As m.ik.length
 hM:m.ik.length<3
 hg:m.ig=DW (min m.ik.length 1) Hn
noncomputable def mn(M:Nat):Int:=if(1:Int)<(M:Int)then 1 else(M:Int)
noncomputable def cells(m:Mod):List T:=(DW (mn m.ik.length).toNat [Hn]).flatten
theorem Zv(h:m.Law):cells m=m.ig:=by
 rw[h.hg];unfold cells mn;have:=h.hM
 generalize m.ik.length=M at this
 rcases Lc this with rfl | rfl | rfl
 ·rfl
 ·rfl
 ·rfl
noncomputable def Na(m:Mod):List T:=(DW ((m.elems.map Be).length:Int).toNat [T.int (-16)]).flatten
theorem Zw(m:Mod):Na m=m.elems.map λz=>.int (-16):=by
 unfold Na;rw[AG,show((m.elems.length:Nat):Int).toNat=m.elems.length from rfl]
 induction m.elems with
 | nil=>rfl
 | cons e es ih=>exact congrArg (T.int (-16)::·) ih
theorem Anq(h:m.Law):m.ik=Ai (As m.ik.length):=by
 rw[<- h.hi];exact m.ik_eq
noncomputable def Tr(m:Mod):List T:=[Ak (m.kinds.map A8),Ak (Ai (As m.ik.length)++m.fk),Ak [D6],Ak [D7],Ak (cells m++m.gk),Ak (Na m),.int 0]
theorem Anr(h:m.Law):(Br 20 (Ax [Ak (m.kinds.map A8),Ak (m.ik++m.fk),Ak [D6],Ak [D7],Ak (m.ig++m.gk),Ak (m.elems.map λz=>.int (-16)),.int 0,Dx (Fd m)]) (Ax (Tr m++[Dx (eF m.dset)]))).map (!·)=some false:=by
 unfold Tr;rw[Zv h,Zw,<- Anq h,Tb];have k:flat 19 (Ak (m.kinds.map A8))=true:=all_map (p:=flat 18) λb z=>by rcases b with⟨⟩<;>rfl
 have i:flat 19 (Ak (m.ik++m.fk))=true:=by rw[Y9];exact PD 17 _
 have g:flat 19 (Ak (m.ig++m.gk))=true:=by
  show(m.ig++m.gk).all (flat 18)=true;rw[List.all_append,h.hg];have a1:m.gk.all (flat 18)=true:=all_map (p:=flat 18) λb z=>rfl;rw[a1];have a2:(DW (min m.ik.length 1) Hn).all (flat 18)=true:=B0.mpr λt m=>by rw[(List.mem_replicate.mp m).2];rfl
  rw[a2];rfl
 have e:flat 19 (Ak (m.elems.map λz=>.int (-16)))=true:=all_map (p:=flat 18) λb z=>rfl;have nd:m.dl.Nodup:=Ta _ _ G1;have d:=Ann 17 nd (Hp (H1 m.N m.decl)) λi=>M5.trans (IS h.toWf).symm;have all:Br 20 (Ax [Ak (m.kinds.map A8),Ak (m.ik++m.fk),Ak [D6],Ak [D7],Ak (m.ig++m.gk),Ak (m.elems.map λz=>.int (-16)),.int 0,Dx (eF m.dl)]) (Ax ([Ak (m.kinds.map A8),Ak (m.ik++m.fk),Ak [D6],Ak [D7],Ak (m.ig++m.gk),Ak (m.elems.map λz=>.int (-16)),.int 0]++[Dx (eF m.dset)]))=some true :=
  IW (J4 _ _ k) (IW (J4 _ _ i) (IW rfl (IW rfl (IW (J4 _ _ g) (IW (J4 _ _ e) (IW rfl (IW d rfl)))))))
 rw[all];rfl
theorem Nb{t:T}(h:flat 20 t=true):(Br 20 t t).map (!·)=some false:=by rw[J4 _ _ h];rfl
noncomputable def Nc(is:List Int)(m:Mod)(st:T):An:=[(Ab "script",.fz (Ak (CW is))),(Ab "module",.fz (BZ m)),(Ab "declared",.fz (Ak (Ai m.dset))),(Ab "named",.fz (Ak (Ds (DI m)))),(Ab "many",.fz (Ag (Ds (DI m)).length)),(Ab "scope",.fz (HY m)),(Ab "before",.fz (IL m)),(Ab "ahead",.fz (Ag m.ik.length)),(Ab "kinds",.own 0),(Ab "cells",.own 1),(Ab "due",.fz (Ax (Tr m)))]
theorem PE(m:Mod):(Ds (DI m)).length=m.N:=by
 unfold Ds;rw[AG,J1]
theorem Ant(is:List Int)(m:Mod)(h:m.Law)(st:T):BX (fW 39 (IX 7)) 2 (nm ["script","module","declared","named","many","scope","before","ahead","kinds","cells","due"]) ((DM (-1) 1 (m.N+3)).map T.int) (Nc is m st) [.dead,.dead] (Nc is m st) [.dead,.dead] :=
 De T.int (λq=>Nc is m st) (λq=>[.dead,.dead]) (DM (-1) 1 (m.N+3)) (DM (-1) 1 (m.N+3)) (λys z zs e=>by
  have v:=AmD 19 z (Ds (DI m)).length m.dset;have t:=AmC m h.toWf h.hk z;have d:=Nb (Anp m.N m.dset z);rw[PE]at v;have e:Ag m.N=Ag (Ds (DI m)).length:=by rw[PE]
  rw[e]at v;exact⟨[.t (IT m.N m.dset z),.t (IT m.N m.dset z),.b false],kc (Ae t (Ae v (Ae d (f4 (L:=Nc is m st) 2 (Bd [AO.dead,AO.dead]) (AK 2))))) (by kernel_rfl)⟩) [] (DM (-1) 1 (m.N+3)) rfl
noncomputable def GN(m:Mod):List T:=m.own.map λi=>AU (Bl m (m.fn i).body)
noncomputable def Anu(m:Mod):T:=Ax [Ak (m.kinds.map A8),Ak (m.ik++m.fk),Ak [D6],Ak [D7],Ak (m.ig++m.gk),Ak (m.elems.map λz=>.int (-16)),.int 0,Dx (Fd m)]
noncomputable def Zy(ds:List Nat):List T:=ds.map λn=>Ax [Ag n,.bool true]
noncomputable def Anv(m:Mod)(LW:An):List Al:=[.t (Ax [BZ m,Ak (Ai m.dset),Ak (Ds (DI m))]),.t (IL m),.t (HY m),.q (Ag m.ik.length),.l (Ai (As m.ik.length)),.l m.fk,.b true,.b true,.l m.gk,.b true,.b true,.t (Anu m),.l (Zy m.dset),.d (eF m.dset),.a,.b false,.l ((DM (-1) 1 (m.N+3)).map T.int),.st LW [.dead,.dead],
 .l (Ai (As m.ik.length)),.b true,.a,.b true,.t (Ak (Ai m.used)),.t (Ak (Ai m.used)),.b false,.t (BZ m.less),.l (Ai (m.dset.map m.fi)),.t (HY m.less),.l (Ai (m.dset.map m.fi)),.b false,.t (Ak (Ai (As m.used.length))),.l (Ai (As m.used.length)),.b false,.l (GN m),.l (GN m),.b false,.t (BZ m.less),.t (IL m.less),.t (IL m.less),.b true,.t (IL m),.b true]
theorem Anw(is:List Int)(hl:is.length<=63)(m:Mod)(h:m.Law)(hv:VF 20 957 [Ak (CW is)] (Ax [BZ m,Ak (Ai m.dset),Ak (Ds (DI m))])) :
  ∃as,II Dq J3 39 BA.1.scope.names 40 BA.1.body.tail [(Ab "script",.fz (Ak (CW is)))] [] as (λfl x x x=>fl=.ret (Vf (.bool true))):=by
 have z:=h.toWf;have z':=Lk z;have hM:=h.hM;have hN:=z.n_le;have hds:m.dset.length<=7:=AC (Ho (Hp (H1 m.N m.decl)) λi q=>Pv z i ((IS z).mp q)) hN;have o2:=Yv 17 m;have o3:=Yz 17 m z.toSz;have o4:Rv.v (Vf (.int (((Ds (DI m)).length:Int)-((m.funcs.map Bi).length:Int))))=Rv.v (Vf (Ag m.ik.length)):=by
  rw[PE,AG];unfold Mod.N;rw[show(((m.ik.length+m.funcs.length:Nat):Int)-(m.funcs.length:Int))=(m.ik.length:Int)from AcF]
 have o5:=JY (n:=m.ik.length) (UZ hM);have o6:Cu (cL 38 [] [] (DE (BY (IX 3)) 1)) (m.funcs.map Bi) m.fk:=C5 Bi (λf=>Ag f.kind) m.funcs λa x=>⟨[],kc (tr ([]:AH) (some (Ag a.kind))) (by kernel_rfl)⟩
 have hfk:m.fk.length<=4:=by unfold Mod.fk;rw[AG];exact z.funcs
 have hgk:m.gk.length<=3:=by unfold Mod.gk;rw[AG];exact z.globs
 have o7:some (small ((Ai (As m.ik.length)).length+m.fk.length))=some true:=B4 (by rw[Co,BR];exact AcE hM hfk)
 have hc:(cells m).length<=3:=by rw[Zv h];exact AC m.ig_len z.imps
 have hmn:0<=mn m.ik.length/\mn m.ik.length<=2:=by unfold mn;split<;>omega
 have o8:some (decide (([Hn]:List T).length*(mn m.ik.length).toNat<=256/\-9223372036854775808<=mn m.ik.length/\mn m.ik.length<9223372036854775808) && small (cells m).length)=some true:=by
  rw[decide_eq_true (by rw[Apg];exact AcD hmn),show small (cells m).length=true from decide_eq_true (Qw hc)]
  rfl
 have o9:Cu (cL 38 [] [.lst (Ai (As m.ik.length)++m.fk)] (DE (BY (IX 4)) 1)) (m.globs.map BI) m.gk:=C5 BI (λg=>Ax [.int (-16),Ag g.mu]) m.globs λa x=>⟨[],kc (tr [AO.lst (Ai (As m.ik.length)++m.fk)] (some (Ax [.int (-16),Ag a.mu]))) (by kernel_rfl)⟩
 have o10:some (small ((cells m).length+m.gk.length))=some true:=B4 (AcC hgk hc);have o11:some (decide (([T.int (-16)]:List T).length*((m.elems.map Be).length:Int).toNat<=256/\-9223372036854775808<=((m.elems.map Be).length:Int)/\((m.elems.map Be).length:Int)<9223372036854775808) && small (Na m).length)=some true:=by
  have:=z.elems;rw[decide_eq_true (by rw[Apg,AG];exact AcB this),show small (Na m).length=true from decide_eq_true (by rw[Zw,AG];exact Qw this)]
  rfl
 have o12:=AmE 19 (Ak (m.kinds.map A8)) (Ak (m.ik++m.fk)) (Ak [D6]) (Ak [D7]) (Ak (m.ig++m.gk)) (Ak (m.elems.map λx=>.int (-16))) (.int 0) (Dx (Fd m));have o13:Cu (cL 35 [] [.dead,.dead] (DE (DE (DE (DE (BY (IX 6)) 1) 1) 0) 1)) (Ai m.dset) (Zy m.dset):=C5 Ag (λn=>Ax [Ag n,.bool true]) m.dset λa x=>⟨[],kc (tr [AO.dead,AO.dead] (some (Ax [Ag a,.bool true]))) (by kernel_rfl)⟩
 have o14:=Ano (Hp (H1 m.N m.decl)) (AC hds (U4));have o16:=Anr h;have o17:GE [Vf (.int (-1)),Vf (.int (((Ds (DI m)).length:Int)+2))]=some ((DM (-1) 1 (m.N+3)).map T.int):=by
  rw[PE];have e:Fx [-1,(m.N:Int)+2]=some (-1,1,m.N+3):=by
   have e3:(((m.N:Int)+2)-(-1)).toNat=m.N+3:=AcA;unfold Fx;dsimp only;rw[e3,if_pos ⟨rfl,YA (n:=m.N+2) (Acz hN),(Acy hN)⟩]
  exact YB rfl e
 have o20:some (small ((Ai (As m.ik.length)).length+(Ai m.dset).length))=some true:=B4 (by rw[Co,Co,BR];exact Acx hM hds)
 have o21:VF 20 962 [Ak ((Ai (As m.ik.length)++Ai m.dset)++Ai m.start.toList),Ak (Ds (DI m))] (Ak (Ai m.used)):=by
  have v:=AmO 19 m.lr (DI m) (by rw[J1];exact Acw hN) (λl hl j hj=>by
   rw[J1];rcases Aa7 hl with⟨i,hi,rfl⟩
   have e:=Zh m i (by rw[<- J1];exact hi)
   rw[EH,Cc hi]at e;have e':(DI m)[i]=m.nx i:=e;rw[e']at hj;exact z.nx_lt hj)
  rw[AmY z h.toPure]at v;rw[D9,D9];exact v
 have o22:=SS 17 m z;have o23:=Nb (PD 18 m.used);have o24:=YV 15 m z;have o25:Cu (cL 40 [(Ab "used",.fz (Ak (Ai m.used)))] [.dead,.dead,.dead] (BY (IX 12))) (Ai m.dset) (Ai (m.dset.map m.fi)):=by
  unfold Ai;rw[<- mm];exact C5 Ag (λn=>Ag (m.fi n)) m.dset λa ha=>⟨[.t (Ag (m.fi a))],kc (Ae (Py (Tp z ha)) (tr [AO.dead,AO.dead,AO.dead] (some (Ag (m.fi a))))) (by kernel_rfl)⟩
 have o26:=Yz 17 m.less z'.toSz;have o27:(if((((Fd m.less).map (·.1)).zip ((Fd m.less).map (·.2))).map λp=>p.1).length<64 then some ((EM ((((Fd m.less).map (·.1)).zip ((Fd m.less).map (·.2))).map λp=>p.1)).map T.int)else none)=some (Ai (m.dset.map m.fi)):=by
  have e:(eF m.less.dl).map (λp=>p.1)=m.less.dl.map λ(n:Nat)=>(n:Int):=by unfold eF;rw[CY];rfl
  have hl2:m.less.dl.length<=7:=AC (Ho (Ta _ _ G1) λi q=>Pv z' i (M5.mp q)) z'.n_le;rw[Lh,Tb,e,AG,if_pos (U3 hl2),Ani z,CY];rfl
 have o28:=Nb (PD 18 (m.dset.map m.fi));have o29:=SS 17 m.less z';rw[Tm z]at o29;have o30:GE [Vf (Ag (Ai m.used).length)]=some (Ai (As m.used.length)):=by
  rw[Co];exact JY (AC z.used_le (Acv))
 have o31:=Nb (PD 18 (As m.used.length));have o32:Cu (cL 40 [(Ab "module",.fz (BZ m)),(Ab "ahead",.fz (Ag m.ik.length)),(Ab "used",.fz (Ak (Ai m.used)))] [.dead,.dead,.dead,.lst (Ai (m.dset.map m.fi))] (BY (IX 14))) (Ai m.used) (GN m):=by
  unfold GN Mod.own;rw[Zd];exact HV Ag (λi=>if decide (m.ik.length<=i)=true then some (AU (Bl m (m.fn i).body))else none) m.used λi hi=>by
   by_cases c:m.ik.length<=i
   ·have ho:i∈m.own:=GY.mpr ⟨hi,decide_eq_true c⟩;refine CZ (Hq z ho) ?_;rintro h1 h2 h3;have p:ER (m.funcs.map Bi) ((i:Int)-(m.ik.length:Int))=some (Bi (m.fn i)):=HZ Bi m.funcs (n:=i-m.ik.length) (Qr h2) (Acu hN h3) h1;have v:=AmF 19 m (m.fn i).body (Pq z (SY z ho));rw[if_pos (decide_eq_true c)];exact⟨[.b true,.t (Bi (m.fn i)),.t (AU (Bl m (m.fn i).body))],kc (Ae (show some (decide ((m.ik.length:Int)<=(i:Int)))=some true from congrArg some (decide_eq_true (Act h2))) (Ae p (Ae v (tr [AO.dead,.dead,.dead,.lst (Ai (m.dset.map m.fi))] (some (AU (Bl m (m.fn i).body))))))) (by kernel_rfl)⟩
   ·rw[if_neg (λq=>c (of_decide_eq_true q))];exact⟨[.b false],kc (Ae (show some (decide ((m.ik.length:Int)<=(i:Int)))=some false from congrArg some (decide_eq_false (Acs c))) (tr [AO.dead,.dead,.dead,.lst (Ai (m.dset.map m.fi))] (none:Option T))) (by kernel_rfl)⟩
 have o33:Cu (cL 38 [] [.dead,.dead,.dead,.lst (Ai (m.dset.map m.fi)),.lst (GN m)] (DE (BY (IX 15)) 0)) (m.less.funcs.map Bi) (GN m):=by
  have e:GN m=m.less.funcs.map λf=>AU f.body:=by
   show _=((m.own.map m.fn).map (C6 m)).map λf=>AU f.body;rw[CY,CY];rfl
  have c:=C5 (B:=cL 38 [] [.dead,.dead,.dead,.lst (Ai (m.dset.map m.fi)),.lst (GN m)] (DE (BY (IX 15)) 0)) Bi (λf=>AU f.body) m.less.funcs λa x=>⟨[],kc (tr [AO.dead,.dead,.dead,.lst (Ai (m.dset.map m.fi)),.lst (GN m)] (some (AU a.body))) (by kernel_rfl)⟩
  rw[<- e]at c;exact c
 have o34:(Br 20 (Ak (GN m)) (Ak (GN m))).map (!·)=some false:=Nb (all_map (p:=flat 19) λi x=>Anl 16 _);have o35:=YV 15 m.less z';rw[Anf z]at o35;have o36:=Yv 17 m.less;have o37:=J4 _ _ (Zu m.less);have o38:=J4 _ _ (Zu m);have loop:=Ant is m h (.none);have o20b:some (small ((Ai (As m.ik.length)++Ai m.dset).length+(Ai m.start.toList).length))=some true:=B4 (by
  have hc:(Ai m.start.toList).length<=1:=by
   rw[Co];rcases m.start with _ | s
   ·exact Gl _
   ·exact AK _
  rw[Bg,Co,Co,BR];exact Acr hM hds hc)
 refine⟨Anv m (Nc is m .none),kc (Ae hv (Ae o2 (Ae o3 (Ae o4 (Ae o5 (Ae o6 (Ae o7 (Ae o8 (Ae o9 (Ae o10 (Ae o11 (Ae o12 (Ae o13 (Ae o14 (Ae o16 (Ae o17 (Ae loop (Ae o5 (Ae o20 (Ae o20b (Ae o21 (Ae o22 (Ae o23 (Ae o24 (Ae o25 (Ae o26 (Ae o27 (Ae o28 (Ae o29 (Ae o30 (Ae o31 (Ae o32 (Ae o33 (Ae o34 (Ae o35 (Ae o36 (Ae o36 (Ae o37 (Ae o2 (Ae o38 (Bd (BS.ret (Vf (.bool true)))))))))))))))))))))))))))))))))))))))))))) ?_⟩;clear o20b loop o38 o37 o36 o35 o34 o33 o32 o31 o30 o29 o28 o27 o26 o25 o24 o23 o22 o21 o20 o17 o16 o14 o13 o12 o11 o10 o9 o8 o7 o6 o5 o4 o3 o2 hmn hc hgk hfk hds hN hM z' z hv h;rcases m with⟨ki,im,fu,gl,ex,start,el⟩
 rcases start with _ | s
 ·kernel_rfl
 ·kernel_rfl
theorem Zz(N:Nat)(z:Int):Bb [C4 N z,.fin]=Ca [C4 N z,.fin]:=by
 unfold C4
 split<;>rfl
theorem Anx(N:Nat)(z:Int):∀(j:Nat) (b:List AX),b∈Fj N z j->Bb b=Ca b:=by
 intro z1
 induction z1 with
 | zero =>
  intro z2 h;exact nomatch h
 | succ j ih =>
  intro b h;exact(BF.mp h).elim (ih b) λh=>by rw[Cr.mp h];exact Zz _ _
theorem Any(is:List Int):(Gj is).Law where
 toWf:=Y6 is
 g:=λg h=>by
  refine Ah (CF.mp h) ?_;rintro a _ ha;unfold Ea at ha
  split at ha
  ·rw[Cr.mp ha];exact Zz _ _
  ·rcases ha with⟨⟩
 e:=λe h b hb=>by
  refine Ah (CF.mp h) ?_;rintro a _ ha;unfold Fk at ha
  split at ha
  ·rw[Cr.mp ha]at hb;exact Anx _ _ _ b hb
  ·rcases ha with⟨⟩
 hk:=rfl
 hi:=by rw[Li,S7]
 hM:=by rw[Li];exact M3 is
 hg:=by
  rw[Li];show(JZ (DH is)).filterMap Df.gl=_;have:=M3 is
  generalize DH is=M at this
  rcases Lc this with rfl | rfl | rfl
  ·rfl
  ·rfl
  ·rfl
theorem lawAll(K:Bf)(F:BW K)(is:List Int)(hl:is.length<=63):OI K is:=by
 have hv:=Amq 17 is hl;unfold Y7 at hv;rw[<- Li is,AmG]at hv;refine AI (Anw is hl (Gj is) (Any is) hv) ?_;rintro as h;exact Ank F hl as h
section
set_option maxHeartbeats 1000000
theorem okR:(chainsOk qv && opensWell PySem.Challenge.rw_pb0609_01.row.prog && (frees PySem.Challenge.rw_pb0609_01.row.toRowW && PySem.Challenge.rw_pb0609_01.row.within.isEmpty))=true:=by kernel_rfl
theorem holds_of(law:∀K,BW K->∀is:List Int,is.length<=63->OI K is):PySem.Challenge.rw_pb0609_01.Holds :=
 holds_law Abx λk1=>holds_open (r:=PySem.Challenge.rw_pb0609_01.row) (q:=qv) (loose:=Ik) (Xt:=λz=>true) (XP:=λz z=>True) (Yf:=LG) (Ya:=LH) (YP:=λz h=>Mr h) (d:=BA.1) (kwd:=BA.2) (N:=7200)
  Abn Aiv Aiw (λz z=>trivial) (λz z z z z=>trivial) Aip Aiq (by rw[W8];exact Air) (λz z=>recFacts_nil rfl) rfl k1 okR ⟨rfl,rfl,rfl,rfl,rfl,by decide +kernel⟩ (by w_witness2) (AiM law)
end
end Mine.Internal
theorem PySem.Challenge.cw_pb0609_01_holds : PySem.Challenge.rw_pb0609_01.Holds := by
  exact Mine.Internal.holds_of Mine.Internal.lawAll
