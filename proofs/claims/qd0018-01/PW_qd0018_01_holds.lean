import PyProof.Rows.All
import Wide.All
import OpenK.AllK
import Wide.FinOn
import Lean
import PySem.Challenge.RW_qd0018_01
open PySem PySem.W PyProof.Rows
set_option Elab.async false
set_option linter.unusedVariables false
set_option maxHeartbeats 0
set_option maxRecDepth 100000
set_option tactic.hygienic false
set_option genInjectivity false
set_option genSizeOf false
open PySem renaming wpAny_bind→aa, wpAny_pure→ai, wpAny→aC, Shared→aD, wpAny_mono→aM, wpAny_holding→aV, fit_le→ba, wpAny_standAt→bw, NameKind→bB, cellsFrom→bU, model→bX, wpAny_newObj_type→ce, wpAny_seqItems→cm, mem_of_lookup→cB, starEach→cJ, wpAny_callSpecial?_slot→cR, wpAny_call_entry→cS, wpAny_field→da, size_pos_of_not_empty→db, wpAny_setState_of→dg, eval→dq, Around→du, codeAny_builtin→dR, rawInt→em, plainId_quiet→eD, World→eQ, wpAny_isInstance→eU, IsTupleKey→eW, codeAny→eY, mainGlobals→eZ, keywordEach→f7, wpAny_setField→f8, assign→fc, letOwnedTupleGo→fj, attributeBase→fG, seqIndex?→fK, wpAny_setField_rec→fS, relabel→gj, backTo→gy, assignEach→gz, pyNext→hH, wpAny_typeOf→il, wpAny_ite_split→iw, wpAny_updateSeq→iz, swappedStores→iC, holding→iG, backToKw→j6, wpAny_tryCatch→j8, SetTable→j9, wpAny_askSetting→jf, Params→jo, Comprehension→jw, Keyword→jB, builtinsNs→jN, strKind→kg, wpAny_truthy_bool→kt, foldedSetIterable→ku, builtinLookup_eq_fast→kZ, pyIter→l4, behindInMarks→la, standAt→lb, assignInOrder→lh, wpAny_attempt→li, wpAny_of_eq→lz, wpAny_letGo→lA, wpAny_typeNameOfWhole_keyiter→lF, pushCells_keeps→lV, IsPair→lX, intKind→n5, swapsWith→ng, pushCells→nj, seqItems?→nm, intItems→nu, newFunctionEnv→nv, stored→ny, wpAny_rule→nz, isSubtype_stop→nB, wpAny_Call_method→oE, wpAny_assign_Name→oF, wpAny_storeSet_of→oP, isTrue→oX, callWith→pz, Scope→pA, Env→pU, sysModules→pZ, wpAt_of_wpAny→qd, codeAny_mono→qf, wpAny_specialOf→qJ, typeLookup_type→qP, intItems_at→rZ, numAt_eq→s6, firstArgMember→s7, wpAny_updateSeq_pair→sa, wpAny_newTuple→sd, isSubtype_type→sA, updateSeq→sO, Fin→tg, methodCallPos→uo, field→uq, wpAny_onRaise→ur, wpAny_newList→uu, setSearchFrom→uw, intKind_is→uF, preSum→uG, wpAny_call→uH, closureFor→uJ, spliced→w6, wpAny_pyIter_list→w8, compTurn→wd, hashInt→xb, ofAClassStatement→xc, wpAny_pyIter_slot→xh, noFill_tuple_add→xS, Sem→xU, arm_assign_Tuple→xX, wpAny_pyIter_zip→y5, wpAny_forIn_list→z4, isSubtype→z9, pickOrder→ze, CmpOp→zW, wpAny_alloc→zX, IsZip→zY, wpAny_execs_nil→Ae, theTreesLotGoes→Ai, Operator→Dg, IntMulOk→Dh, numAt→Di, wpAny_layCells→Dn, Result→Do, methodCallForm→Dq, entryFor→Ek, entryFor_alias→El, wpAny_fieldsOf→Em, Pos→FL, seq_tuple_add→FN, wpAny_comprehension_free→G1, filterMap_getElem?_range→Hh
open _root_.Nat renaming le_trans→ab, le_of_ble_eq_true→ak, le_refl→aq, zero_lt_succ→ax, lt_of_le_of_lt→aB, zero_le→aL, lt_of_lt_of_le→aP, succ_le_succ→aY, le_add_right→b5, one_lt_succ_succ→b6, lt_irrefl→b7, add_le_add_left→bb, le_of_eq→bd, ne_of_lt→bf, le_of_lt→bj, le_of_lt_succ→bF, le_succ_of_le→bP, lt_succ_self→bV, le_of_not_lt→c7, add_le_add→cj, lt_succ_of_lt→cq, lt_trans→cy, eq_of_beq_eq_true→cz, le_antisymm→cC, le_succ→cL, mul_le_mul_left→cZ, ne_of_gt→d8, lt_succ_of_le→d9, beq→dp, add_le_add_right→dO, le_add_left→f6, lt_of_sub_eq_succ→fH, le_of_succ_le→g6, lt_add_one→gx, add_right_comm→gX, sub_self→gZ, add_assoc→i9, add_comm→iM, zero_add→iN, ble→iP, sub_add_cancel→jr, succ_pos→jP, lt_of_add_right_lt→jQ, le_of_sub_eq_zero→kh, min_le_right→kq, add_lt_add_left→l9, eq_of_lt_succ_of_not_lt→lr, succ_le_of_lt→na, zero_lt_of_lt→nb, le_pred_of_lt→nc, add_sub_cancel_left→nO, mod_lt→p7, min_le_left→pa, mul_le_mul_right→pX, le_sub_one_of_lt→qb, lt_of_le_of_ne→se, mul_succ→t7, lt_of_le_pred→te, lt_or_ge→tN, lt_of_succ_lt→ug, not_lt_of_le→uA, succ_lt_succ→uB, min_eq_left→wi, lt_add_of_pos_right→C9, min_add_right_self→Dm, beq_refl→DE, eq_zero_of_le_zero→DO, min_self→EF, add_sub_self_left→Fj, add_right_cancel→G8, pred→GC, eq_sub_of_add_eq→GY, mul_one→HH, mul_add→Ia
open _root_.List renaming mem_cons_self→ae, length_map→af, mem_cons_of_mem→ag, mem_of_getElem?→an, length_append→aw, mem_append_left→az, getElem?_eq_getElem→aJ, getElem?_map→aK, mem_map_of_mem→aO, mem_append_right→aR, map_append→aT, getElem?_append_left→b8, getD_eq_getElem?_getD→bk, range→bl, length_filterMap_le→bp, getElem?_append_right→bt, take_length→bx, take_add_one→bD, not_mem_nil→c6, length_filter_le→c9, mem_cons→cp, getElem?_set_ne→cE, length_range→cH, size_toArray→cQ, drop_eq_getElem_cons→cU, map_map→cV, getElem?_set_self→cW, append_nil→dh, filterMap_cons→dt, append_assoc→dv, length_set→dC, map_cons→e9, getElem?_take_of_lt→eN, getElem?_concat_length→fi, drop_length→fk, getElem?_eq_none→fD, nodup_append→fT, length_take_le'→fU, flatMap_cons→fV, filter_cons→gu, take_zero→gw, getLast?_eq_some_getLast→gJ, filter_append→gQ, zipWith→gR, filterMap_eq_map'→gU, mem_of_mem_take→iB, length_take→iH, getElem_map→iI, length_cons→iK, mem_or_eq_of_mem_set→iS, forIn_cons→je, find?_some→jl, take_of_length_le→jA, ext_getElem?→jI, mem_of_getLast?→kF, flatMap_append→l7, getElem?_range→l8, replicate→lL, exists_cons_of_ne_nil→lN, getElem?_set→mE, length→mL, getLast?_map→mV, lookup_cons→nJ, getElem_mem→nK, cons_ne_nil→nL, toArray→oB, pairwise_lt_range→oN, nodup_cons→oY, find?_cons→oZ, length_nil→p6, forIn_nil→pV, map_congr_left→qK, length_zipWith→qM, length_take_le→qO, zip_cons_cons→rF, getElem_range→rI, map_filterMap→rP, take_sublist→sF, pairwise_map→sG, set_set→sP, flatMap→sT, all_eq_true→um, getElem_inj→un, map_snd_zip→ut, getElem?_replicate_of_lt→uQ, mem_append→ve, nodup_nil→xC, perm_append_singleton→xG, length_eraseIdx_of_lt→xJ, mem_of_find?_eq_some→yo, Perm→Bp, filter_cons_of_neg→BJ, drop_eq_nil_of_le→C2, mem_map→C4, drop_of_length_le→Ca, map_set→Ct, lookup_cons_self→Dl, set_append_right→DX, take_append_drop→E8, dropLast_concat→Fq
open _root_.PySem.Str renaming ofString→am
open _root_.PySem.Heap renaming get?_push_of_some→av, get?_push_size→aH, lt_size→b0, size_push→bz, SameBut→bN, get?_none_of_le→bQ, get?_update_self→bT, get?_update_other→jH, DictOf→uD
open _root_.Bool renaming false_ne_true→aA, and_eq_true→eM, false_eq_true→gP, not_eq_true'→jG, eq_iff_iff→kY, not_eq_true→uv
open _root_.Array renaming length_toList→aF, getElem?_eq_getElem→bq, getElem?_toList→bH, getElem?_eq_none→gL, getD→kb, forIn_toList→lD, toList_push→mx, size_map→pO, toList_setIfInBounds→wj, getElem_mem_toList→z5, getElem?_size→Fn
open _root_.PySem.PyData renaming eqv→aQ, int→aS, canLayAll0→eT, eqvAll→fe, keyHash→ip, str→jd, depth→rO, canLay0→vF, list→Cn, bool→CO
open _root_.Int renaming le_trans→aX, le_refl→bu, toNat_natCast→bG, lt_of_le_of_lt→bW, lt_of_lt_of_le→cw, lt_trans→cN, le_of_eq→dE, le_of_lt→dF, natCast_nonneg→dJ, lt_irrefl→ec, lt_succ→eC, le_add_of_nonneg_right→fw, sub_nonneg_of_le→fY, sub_one_lt_of_le→fZ, toNat_of_nonneg→gr, add_comm→gY, zero_le_ofNat→iv, ofNat_lt→jM, min_le_right→kr, le_of_lt_add_one→kJ, sub_add_cancel→lR, add_assoc→nr, neg_ofNat_le_natCast→nC, le_max_right→nM, max_eq_right→nN, min_le_left→pc, le_sub_one_of_lt→pY, add_lt_add_left→qT, le_min→rY, ne_of_lt→tc, ne_of_gt→tU, min_eq_right→uC, sub_le_self→w5, not_le→xM, not_lt→xN, add_le_of_le_sub_right→xO, max_le→xP, add_lt_of_lt_sub_left→zV, eq_ofNat_of_zero_le→Cb, toNat_lt→De, lt_of_le_sub_one→FC, add_le_add_right→FE, sub_lt_sub_right→FF, add_one_le_of_lt→FH
open _root_.PySem.SetTable renaming below→bC, insertAt→e6, Probe→e7, bits→eI, leap→gK, turns→ic, runEnd→iU, grown→oO, has→xF, insertAt_perm→xH, layClean→Ei, advance→Fs
open _root_.PySem.Heap.SameBut renaming update→bJ
open _root_.PySem.Builtin.SmallTypes renaming nextOf→bL, ownedTupleIsFree→dc, ownedTupleHandOut→lI
open _root_.Option.some renaming inj→bS
open _root_.List.cons renaming inj→cD
open _root_.PySem.NameKind renaming cell→cF, free→dP
open _root_.Ne renaming symm→di
open _root_.Classical renaming byContradiction→dj, propDecidable→mr
open _root_.PySem.Challenge renaming pw_qd0018_01→dn
open _root_.PySem.Obj renaming mapSeq→dw, data_mapFields→lW, mapFields→Bb, isFreed_of_fields→Fm
open _root_.PySem.SeqAt renaming shaped→dA
open _root_.PySem.Around renaming under_plainId→dH
open _root_.PySem.Value renaming ref→dK, none→gF, type→gH, int→ke, isInt→pN, builtin→yz
open PyProof.Rows renaming seqObj→dM, IntsAre→gO, get?_update_seq→lT, unpackItems_tuple→oG, lt_int→w7, fits_data_list→F8
open _root_.PySem.F renaming plain_min_loop→e8, slot_zip_next→fm, slot_tuple_iterator_next→fL, plainAttrs_list→ja, plain_extend_loop→lM, args_tuple_add_2→lS, entry_tuple_add→mD, args_zip_next_1→mM, slot_tuple_add→nt, entry_zip_next→nA, entry_min_loop→nD, args_tuple_iterator_next_1→qh, entry_tuple_iterator_next→qL, args_object_init_3→uL, slot_list_extend→w9, type_list_extend→wa, typeCall_zip_2→y6, slot_dict_keyiterator_next→zk, newCall_zip_2→zZ, entry_zip_new→A0, called_zip→Ds
open _root_.Option renaming map→eH, bind→ir, isSome→q8, isSome_none→Fk, some→IC, none→ID
open _root_.PySem.Builtin renaming divisionGoesByPylong→eS
open _root_.PySem.SetTable.layClean renaming free→fN
open _root_.PySem.SetTable.below renaming go→gl
open _root_.PySem.Builtin.List renaming listExtendWith→gB, listLengthHint→jT, listSameRef→sN
open _root_.PySem.Expr.Name renaming elim→hZ
open _root_.PySem.SetTable.probe renaming go→iJ
open _root_.PySem.Builtin.Int renaming intBits→jS
open _root_.Eq renaming symm→kI, ndrec→ul
open _root_.PySem.Calls renaming spliced_cons→l5, spliced_nil→lu, call_len_list→qa, Constant_str→FM
open _root_.PySem.swapsWith renaming match_1→lm, match_6→Ck
open _root_.List.Pairwise renaming sublist→mj, imp_of_mem→sC, nil→xB
open _root_.PySem.Heap.DictOf renaming new→my
open PySem.W renaming emptyDict→nk, findIn→qe, instObj→sE, dictOf→Df
open _root_.PySem.Expr.Attribute renaming elim→nq
open _root_.PySem.Walks renaming list→nP, tuple→Dk
open _root_.PyProof.Rows.F renaming plain_set_update_loop→p8, entry_set_update_loop→Ft
open _root_.PySem.Builtin.Builtins renaming bindParams→pK
open _root_.PySem.Expr.Tuple renaming elim→rG
open _root_.PySem.Builtin.SmallTypes.calledThroughType renaming match_1→rK
open _root_.PySem.Stmt.FunctionDef renaming elim→rU
open _root_.PySem.Code renaming builtin→sH
open _root_.PySem.Expr.Call renaming elim→tm
open _root_.PySem.Expr.Subscript renaming elim→uN
open _root_.PySem.Builtin.Range renaming small→vg
open _root_.PySem.Expr.ListComp renaming elim→wn
open _root_.PySem.Expr.DictComp renaming elim→wq
open _root_.PySem.Expr.Constant renaming elim→wt
open _root_.PySem.SetTable.Slot renaming live→xe
open _root_.Nat.succ renaming inj→xD
open _root_.PySem.Expr.UnaryOp renaming elim→ya
open _root_.PySem.Expr.Compare renaming elim→yb
open _root_.PySem.Expr renaming Name→Af
open _root_.Prod.mk renaming inj→Al
open _root_.PySem.IsRange renaming new→Ao
open _root_.PySem.Expr.BoolOp renaming elim→Ar
open _root_.PySem.Stmt.Return renaming elim→Au
open _root_.PySem.Stmt.Assign renaming elim→Av
open _root_.PySem.Env renaming blockKind→AI
open _root_.Sum.inl renaming inj→Bq
open _root_.PySem.Shared renaming heap→C8
open _root_.PySem.Expr.BinOp renaming elim→Dw
open _root_.PySem.Expr.IfExp renaming elim→Dx
open _root_.PySem.Expr.Slice renaming elim→Dy
open _root_.PySem.Stmt.While renaming elim→DA
open _root_.ForInStep renaming yield→Fl
open _root_.PySem.Keeper renaming boundFrame→FO
open _root_.PySem.WalksT renaming enumerateD→G7
open _root_.PySem.Expr.Dict renaming elim→G9
open _root_.PySem.Expr.List renaming elim→Ga
open _root_.PySem.Stmt.Expr renaming elim→Gb
namespace QD
noncomputable def bR:Str:=am "__class__"
noncomputable def gtab:List (Str×Value):=[("put_behind",.ref 69),("from_values",.ref 76),("least",.ref 83),("greatest",.ref 90),("size_domains",.ref 95),("next_from",.ref 102),("has_domains",.ref 109),("values",.ref 116),("up_to",.ref 121),("from_on",.ref 126),("without",.ref 133),("meet",.ref 140),("negation",.ref 147),("struck",.ref 154),("said_of",.ref 161),("Store",.ref 311),("lacking",.ref 364),("once_each",.ref 369),("between",.ref 376),("Table",.ref 427),("_law_turn",.ref 436),("_law_keeps",.ref 443),("_law_is_in",.ref 448),("_law_stands",.ref 455),("_law_cut",.ref 460),("_law_bars",.ref 465),("_law_in_all",.ref 470),("_law_whys",.ref 475)]
noncomputable def biS:List (Str×Value):=[("len",.builtin "len"),("sorted",.builtin "sorted"),("tuple",.type "tuple"),("sum",.builtin "sum"),("max",.builtin "max"),("min",.builtin "min"),("range",.type "range"),("list",.type "list"),("dict",.type "dict"),("zip",.type "zip"),("enumerate",.type "enumerate"),("set",.type "set"),("all",.builtin "all"),("int",.type "int"),("super",.type "super")]
noncomputable def w1:Nat:=252
noncomputable def Fu:List (Str×Value):=[("MOST_LISTED",.int 1000000 w1),("LimitFault",.ref 60)]
noncomputable def topS (i:Nat):Stmt:=PySem.Challenge.pw_qd0018_01.main.body.getD i default
noncomputable def clsBody (s:Stmt):List Stmt:=if h:s.ctorIdx=2 then Stmt.ClassDef.elim (motive_2:=λ_=>List Stmt) s h (λ_ _ _ body _ _ _ _ _ _ _=>body)else[]
noncomputable def w2 (i:Nat) (j:Option Nat):Stmt:=match j with
 |none=>topS i
 |some j=>(clsBody (topS i)).getD j default
noncomputable def ftab:List (Addr×Nat×Option Nat):=[(69,6,ID),(76,7,ID),(83,8,ID),(90,9,ID),(95,10,ID),(102,12,ID),(109,13,ID),(116,15,ID),(121,16,ID),(126,17,ID),(133,18,ID),(140,19,ID),(147,20,ID),(154,21,ID),(161,22,ID),(175,24,IC 0),(182,24,IC 1),(189,24,IC 2),(196,24,IC 3),(203,24,IC 4),(210,24,IC 5),(217,24,IC 6),(224,24,IC 7),(245,24,IC 10),(259,24,IC 12),(266,24,IC 13),(273,24,IC 14),(280,24,IC 15),(287,24,IC 16),(294,24,IC 17),(329,25,IC 0),(364,27,ID),(369,28,ID),(376,29,ID),(395,30,IC 1),(414,30,IC 4),(419,30,IC 5),(424,30,IC 6),(436,32,ID),(443,33,ID),(448,34,ID),(455,35,ID),(460,36,ID),(465,37,ID),(470,38,ID),(475,39,ID),(480,40,ID)]
noncomputable def km (P:jo) (x:Str) (t:Nat) (v:Value):DictEntry:=⟨ip P x,.str x t,v⟩
noncomputable def BU (i:Nat):Str:=if i=24 then "Store." else if i=25 then "Propagator." else if i=30 then "Table." else ""
noncomputable def Os (i:Nat):Value:=if i<23 then .str "fdsolve.domains" 250 else if i<26 then .str "fdsolve.store" 384 else if i<31 then .str "fdsolve.tables" 633 else .str "law_qd0018_01" 725
noncomputable def BV (st:Stmt) (pre:Str) (cd:Addr) (pm:Value) (cl:List (Str×Addr)) (ct:Value):FuncData:=if h:st.ctorIdx=0 then rU (motive_2:=λ_=>FuncData) st h (λname args body _ _ _ sc _ _ _=>⟨name,pre++name,args,.stmts body,sc,3,cl,.none,.none,.none,pm,ID,.ref cd,ct,0⟩)else default
noncomputable def Vk (fd:FuncData):Obj:=⟨.type "function",ID,.func fd,#[]⟩
noncomputable def Fv (p:Addr×Nat×Option Nat):Obj:=Vk (BV (w2 p.2.1 p.2.2) (BU p.2.1) (p.1 - 1) (Os p.2.1) [] .none)
noncomputable def Fw:Obj:=Vk (BV (w2 30 (IC 0)) (BU 30) 389 (Os 30) [(bR,380)] (.ref 385))
noncomputable def kdO (n p:Str) (t l a r:Nat) (y z w:Value) (u:Nat):Obj:=⟨.type "code",ID,.fields #[.str n t,.str (p++n) (t+1),.str "/claim/cut.py" (t+2),.int l 0,.int a 0,.int 0 0,.int 0 0,.int 3 0,.ref r,.bool true,.int 181 0,.ref (r+1),.none,y,z,w,.int u 0,.int l 0,.str "/claim/cut.py" (u+1)],#[]⟩
noncomputable def A4 (n p:Str) (t l a r u:Nat):Obj:=kdO n p t l a r .none .none (.ref (r+2)) u
noncomputable def oT (n p:Str) (t l a r u:Nat):Obj:=kdO n p t l a r (.ref (r+2)) (.ref (r+3)) (.ref (r+4)) u
noncomputable def qQ:Str:=""
noncomputable def A7:Str:="Store."
noncomputable def Up:Str:="Table."
noncomputable def kdP:Str:="Propagator."
noncomputable def BW:Obj:=(A4 "__init__" Up 671 212 3 386 675)
noncomputable def Fx (P:jo):Frag:=[(68,(oT "put_behind" qQ 254 17 3 63 260)),(75,(oT "from_values" qQ 263 23 1 70 269)),(82,(oT "least" qQ 272 28 1 77 276)),(89,(oT "greatest" qQ 279 30 1 84 283)),(94,(A4 "size" qQ 286 32 1 91 289)),(101,(oT "next_from" qQ 293 35 2 96 300)),(108,(oT "has" qQ 303 40 2 103 308)),(115,(oT "values" qQ 312 43 1 110 319)),(120,(A4 "up_to" qQ 322 50 2 117 325)),(125,(A4 "from_on" qQ 328 52 2 122 331)),(132,(oT "without" qQ 334 54 2 127 339)),(139,(oT "meet" qQ 342 56 2 134 352)),(146,(oT "negation" qQ 355 67 1 141 362)),(153,(oT "struck" qQ 365 74 2 148 372)),(160,(oT "said_of" qQ 375 81 2 155 381)),(174,(oT "__init__" A7 398 89 1 169 402)),(181,(oT "new_var" A7 405 99 2 176 410)),(188,(oT "size" A7 413 106 1 183 417)),(195,(oT "dom" A7 420 109 2 190 425)),(202,(oT "initial" A7 428 112 2 197 433)),(209,(oT "low" A7 436 115 2 204 441)),(216,(oT "high" A7 444 118 2 211 449)),(223,(oT "has" A7 452 121 3 218 458)),(244,(oT "width" A7 477 130 2 239 482)),(258,(oT "enter" A7 493 136 4 253 503)),(265,(oT "strike" A7 506 149 3 260 512)),(272,(oT "decide" A7 515 152 2 267 520)),(279,(oT "fail" A7 523 155 2 274 528)),(286,(oT "push" A7 531 160 1 281 535)),(293,(oT "pop" A7 538 163 2 288 545)),(328,(oT "__init__" kdP 590 182 3 323 596)),(363,(oT "lacking" qQ 635 196 3 358 641)),(368,(A4 "once_each" qQ 644 204 1 365 647)),(375,(oT "between" qQ 650 206 3 370 656)),(389,BW),(394,(A4 "is_one" Up 678 218 2 391 681)),(413,(A4 "propagate" Up 699 228 2 410 702)),(418,(A4 "is_left" Up 705 242 3 415 708)),(423,(A4 "why_none" Up 711 245 4 420 714)),(435,(oT "_law_turn" qQ 727 253 2 430 733)),(442,(oT "_law_keeps" qQ 736 257 2 437 743)),(447,(A4 "_law_is_in" qQ 746 260 2 444 749)),(454,(oT "_law_stands" qQ 752 262 2 449 759)),(459,(A4 "_law_cut" qQ 762 269 2 456 765)),(464,(A4 "_law_bars" qQ 768 280 3 461 771)),(469,(A4 "_law_in_all" qQ 774 283 3 466 777)),(474,(A4 "_law_whys" qQ 780 285 6 471 783)),(479,(A4 "law" qQ 786 301 1 476 789)),(2,⟨.none,ID,.dict #[km P "type.__subclasses__.Exception.0" 230 (.int 47 0),km P "type.__subclasses__.Exception.n" 231 (.int 1 0)] 2,#[]⟩),(310,⟨.type "dict",ID,.dict #[km P "__module__" 393 (.str "fdsolve.store" 384),km P "__firstlineno__" 397 (.int 87 396),km P "__init__" 404 (.ref 175),km P "new_var" 412 (.ref 182),km P "size" 419 (.ref 189),km P "dom" 427 (.ref 196),km P "initial" 435 (.ref 203),km P "low" 443 (.ref 210),km P "high" 451 (.ref 217),km P "has" 460 (.ref 224),km P "is_fixed" 468 (.ref 231),km P "value" 476 (.ref 238),km P "width" 484 (.ref 245),km P "holds" 492 (.ref 252),km P "enter" 505 (.ref 259),km P "strike" 514 (.ref 266),km P "decide" 522 (.ref 273),km P "fail" 530 (.ref 280),km P "push" 537 (.ref 287),km P "pop" 547 (.ref 294),km P "depth" 554 (.ref 301),km P "changed" 561 (.ref 308),km P "__static_attributes__" 570 (.ref 309),km P "__dict__" 572 (.ref 312),km P "__weakref__" 574 (.ref 313),km P "__doc__" 575 (.none)] 4,#[]⟩),(311,⟨.type "type",ID,.cls {name:="Store",bases:=[.type "object"],mro:=[.ref 311,.type "object"],ns:=310,qualname:="Store",hasDict:=true,slotNames:=[],subclasses:=[],abstract:=false,collection:=ID,hasDel:=false},#[ID,ID,IC (.str "Store" 386),IC (.str "Store" 394),IC (.builtin "object.__new__"),IC (.bool true)]⟩),(352,⟨.type "dict",ID,.dict #[km P "__module__" 585 (.str "fdsolve.store" 384),km P "__firstlineno__" 589 (.int 180 588),km P "__init__" 598 (.ref 329),km P "propagate" 606 (.ref 336),km P "check" 614 (.ref 343),km P "told" 621 (.ref 350),km P "__static_attributes__" 625 (.ref 351),km P "__dict__" 627 (.ref 354),km P "__weakref__" 629 (.ref 355),km P "__doc__" 630 (.none)] 4,#[]⟩),(353,⟨.type "type",ID,.cls {name:="Propagator",bases:=[.type "object"],mro:=[.ref 353,.type "object"],ns:=352,qualname:="Propagator",hasDict:=true,slotNames:=[],subclasses:=[.ref 427],abstract:=false,collection:=ID,hasDel:=false},#[ID,ID,IC (.str "Propagator" 578),IC (.str "Propagator" 586),IC (.builtin "object.__new__"),IC (.bool true)]⟩),(380,⟨.type "cell",ID,.cell (IC (.ref 427)),#[]⟩),(426,⟨.type "dict",ID,.dict #[km P "__module__" 666 (.str "fdsolve.tables" 633),km P "__firstlineno__" 670 (.int 210 669),km P "__init__" 677 (.ref 390),km P "is_one" 683 (.ref 395),km P "told" 690 (.ref 402),km P "check" 698 (.ref 409),km P "propagate" 704 (.ref 414),km P "is_left" 710 (.ref 419),km P "why_none" 716 (.ref 424),km P "__static_attributes__" 720 (.ref 425),km P "__doc__" 722 (.none)] 3,#[]⟩),(427,⟨.type "type",ID,.cls {name:="Table",bases:=[.ref 353],mro:=[.ref 427,.ref 353,.type "object"],ns:=426,qualname:="Table",hasDict:=true,slotNames:=[],subclasses:=[],abstract:=false,collection:=ID,hasDel:=false},#[IC (.ref 377),ID,IC (.str "Table" 659),IC (.str "Table" 667),IC (.builtin "object.__new__"),IC (.bool true)]⟩)]
noncomputable def U2:List Addr:=[68,75,82,89,94,101,108,115,120,125,132,139,146,153,160,174,181,188,195,202,209,216,223,244,258,265,272,279,286,293,328,363,368,375,389,394,413,418,423,435,442,447,454,459,464,469,474,479,2,310,311,352,353,380,426,427]
theorem D6 (P:jo):(389,BW)∈Fx P:=an (i:=34) rfl
theorem D7 (P:jo):(380,(⟨.type "cell",ID,.cell (IC (.ref 427)),#[]⟩:Obj))∈Fx P:=an (i:=53) rfl
noncomputable def iL (P:jo):Frag:=ftab.map (λp=>(p.1,Fv p))++((390,Fw)::Fx P)
noncomputable def theA:List Addr:=ftab.map (·.1)++(390::U2)
theorem BX (P:jo):theA=(iL P).map (·.1):=by
 unfold theA iL;rw[aT,cV];rfl
noncomputable def topN:List (Str×Option Value):=((am "law"),IC (.ref 480))::(gtab++Fu).map (λg=>(g.1,IC g.2))++biS.map λg=>(g.1,ID)
def Says (w:eQ) (h:Heap):Prop:=(iL w.params).In h/\∃m,h.Ns eZ m/\∀p∈topN,m p.1=p.2
noncomputable def hookO (s:aD):List (Option Obj)×Bool×List (Option Value):=(theA.map s.heap.get?,s.heap.isNs eZ,topN.map λp=>s.heap.nsMap eZ p.1)
noncomputable def hookV (w:eQ):List (Option Obj)×Bool×List (Option Value):=((iL w.params).map λp=>IC p.2,true,topN.map (·.2))
noncomputable def UJ:Hook:=⟨List (Option Obj)×Bool×List (Option Value),hookO,hookV,Says,λw s e=>⟨Frag.in_of (BX _) (congrArg (·.1) e),s.heap.nsMap eZ,.of_isNs (congrArg (·.2.1) e),List.map_inj_left.mp (congrArg (·.2.2) e)⟩,λw h h' x k=>⟨x.1.keeps k,let⟨m,a,b⟩:=x.2;⟨m,a.keeps k,b⟩⟩⟩
noncomputable def viewP (p:Program):Program:={p with main:={p.main with body:=((((p.main.body.eraseIdx 31).eraseIdx 26).eraseIdx 23).eraseIdx 4).eraseIdx 1}}
noncomputable def loose:List Str:=[am "size_domains",am "has_domains"]
def goalP (p v:Program) (R:WRecords) (α:Type) (ob:aD->α) (va:eQ->α):Prop:=LeftO p v loose (λs=>xlAt v [] s&&recOk R s) ob va 6080
lay_quick QD.goalP
end QD
theorem QD.Pf:QD.goalP (PySem.Challenge.rw_qd0018_01.row.toRowW.prog) (QD.viewP dn) (RowW.records PySem.Challenge.rw_qd0018_01.row.toRowW) (List (Option Obj)×Bool×List (Option Value)) QD.hookO QD.hookV:=by
 rw[PySem.W.Fast.te1523231151453432985];show∀w,_=_;intro w
 kernel_rfl
namespace QD
section
variable {a b c d e f m n g:Sort _}
theorem bh {A B:Prop} {P:Prop} (h:A/\B) (k:A->B->P):P:=k h.1 h.2
theorem ee {A B C:Prop} {P:Prop} (h:A/\B/\C) (k:A->B->C->P):P:=bh h.2 (k h.1)
theorem kn {A B C D:Prop} {P:Prop} (h:A/\B/\C/\D) (k:A->B->C->D->P):P:=ee h.2 (k h.1)
theorem ux {A B C D E:Prop} {P:Prop} (h:A/\B/\C/\D/\E) (k:A->B->C->D->E->P):P:=kn h.2 (k h.1)
theorem QF {A B C D E G:Prop} {P:Prop} (h:A/\B/\C/\D/\E/\G) (k:A->B->C->D->E->G->P):P:=ux h.2 (k h.1)
theorem D8 {A B C D E G H:Prop} {P:Prop} (h:A/\B/\C/\D/\E/\G/\H) (k:A->B->C->D->E->G->H->P):P:=QF h.2 (k h.1)
theorem bm {A:a->Prop} {P:Prop} (h:∃x,A x) (k:∀x,A x->P):P:=h.elim k
theorem aG {A B:a->Prop} {P:Prop} (h:∃x,A x/\B x) (k:∀x,A x->B x->P):P:=h.elim λx h=>bh h (k x)
theorem cP {A B C:a->Prop} {P:Prop} (h:∃x,A x/\B x/\C x) (k:∀x,A x->B x->C x->P):P:=h.elim λx h=>ee h (k x)
theorem lO {A B C D:a->Prop} {P:Prop} (h:∃x,A x/\B x/\C x/\D x) (k:∀x,A x->B x->C x->D x->P):P:=h.elim λx h=>kn h (k x)
theorem NZ {A B C D E:a->Prop} {P:Prop} (h:∃x,A x/\B x/\C x/\D x/\E x) (k:∀x,A x->B x->C x->D x->E x->P):P:=h.elim λx h=>ux h (k x)
theorem lP {A:a->b->Prop} {P:Prop} (h:∃x y,A x y) (k:∀x y,A x y->P):P:=h.elim λx h=>bm h (k x)
theorem gV {A B:a->b->Prop} {P:Prop} (h:∃x y,A x y/\B x y) (k:∀x y,A x y->B x y->P):P:=h.elim λx h=>aG h (k x)
theorem hU {A B C:a->b->Prop} {P:Prop} (h:∃x y,A x y/\B x y/\C x y) (k:∀x y,A x y->B x y->C x y->P):P:=h.elim λx h=>cP h (k x)
theorem lQ {A B C D:a->b->Prop} {P:Prop} (h:∃x y,A x y/\B x y/\C x y/\D x y) (k:∀x y,A x y->B x y->C x y->D x y->P):P:=h.elim λx h=>lO h (k x)
theorem uy {A B C D E:a->b->Prop} {P:Prop} (h:∃x y,A x y/\B x y/\C x y/\D x y/\E x y) (k:∀x y,A x y->B x y->C x y->D x y->E x y->P):P:=h.elim λx h=>NZ h (k x)
theorem D9 {A B C D E G:a->b->Prop} {P:Prop} (h:∃x y,A x y/\B x y/\C x y/\D x y/\E x y/\G x y) (k:∀x y,A x y->B x y->C x y->D x y->E x y->G x y->P):P:=h.elim λx h=>h.elim λy h=>k x y h.1 h.2.1 h.2.2.1 h.2.2.2.1 h.2.2.2.2.1 h.2.2.2.2.2
theorem Da {A:a->b->c->Prop} {P:Prop} (h:∃x y z,A x y z) (k:∀x y z,A x y z->P):P:=h.elim λx h=>lP h (k x)
theorem pt {A B:a->b->c->Prop} {P:Prop} (h:∃x y z,A x y z/\B x y z) (k:∀x y z,A x y z->B x y z->P):P:=h.elim λx h=>gV h (k x)
theorem A8 {A B C:a->b->c->Prop} {P:Prop} (h:∃x y z,A x y z/\B x y z/\C x y z) (k:∀x y z,A x y z->B x y z->C x y z->P):P:=h.elim λx h=>hU h (k x)
theorem qR {A B C D:a->b->c->Prop} {P:Prop} (h:∃x y z,A x y z/\B x y z/\C x y z/\D x y z) (k:∀x y z,A x y z->B x y z->C x y z->D x y z->P):P:=h.elim λx h=>lQ h (k x)
theorem QE {A B C D E:a->b->c->Prop} {P:Prop} (h:∃x y z,A x y z/\B x y z/\C x y z/\D x y z/\E x y z) (k:∀x y z,A x y z->B x y z->C x y z->D x y z->E x y z->P):P:=h.elim λx h=>uy h (k x)
theorem NY {A B C D E G:a->b->c->Prop} {P:Prop} (h:∃x y z,A x y z/\B x y z/\C x y z/\D x y z/\E x y z/\G x y z) (k:∀x y z,A x y z->B x y z->C x y z->D x y z->E x y z->G x y z->P):P:=h.elim λx h=>D9 h (k x)
theorem TM {A B C D E G H I J:a->b->c->Prop} {P:Prop} (h:∃x y z,A x y z/\B x y z/\C x y z/\D x y z/\E x y z/\G x y z/\H x y z/\I x y z/\J x y z) (k:∀x y z,A x y z->B x y z->C x y z->D x y z->E x y z->G x y z->H x y z->I x y z->J x y z->P):P:=h.elim λx h=>h.elim λy h=>h.elim λz h=>k x y z h.1 h.2.1 h.2.2.1 h.2.2.2.1 h.2.2.2.2.1 h.2.2.2.2.2.1 h.2.2.2.2.2.2.1 h.2.2.2.2.2.2.2.1 h.2.2.2.2.2.2.2.2
theorem TL {A:a->b->c->d->Prop} {P:Prop} (h:∃x y z u,A x y z u) (k:∀x y z u,A x y z u->P):P:=h.elim λx h=>Da h (k x)
theorem rV {A B:a->b->c->d->Prop} {P:Prop} (h:∃x y z u,A x y z u/\B x y z u) (k:∀x y z u,A x y z u->B x y z u->P):P:=h.elim λx h=>pt h (k x)
theorem QC {A B C:a->b->c->d->Prop} {P:Prop} (h:∃x y z u,A x y z u/\B x y z u/\C x y z u) (k:∀x y z u,A x y z u->B x y z u->C x y z u->P):P:=h.elim λx h=>A8 h (k x)
theorem oU {A B C D:a->b->c->d->Prop} {P:Prop} (h:∃x y z u,A x y z u/\B x y z u/\C x y z u/\D x y z u) (k:∀x y z u,A x y z u->B x y z u->C x y z u->D x y z u->P):P:=h.elim λx h=>qR h (k x)
theorem QB {A B C D E:a->b->c->d->Prop} {P:Prop} (h:∃x y z u,A x y z u/\B x y z u/\C x y z u/\D x y z u/\E x y z u) (k:∀x y z u,A x y z u->B x y z u->C x y z u->D x y z u->E x y z u->P):P:=h.elim λx h=>QE h (k x)
theorem TK {A B C D E G:a->b->c->d->Prop} {P:Prop} (h:∃x y z u,A x y z u/\B x y z u/\C x y z u/\D x y z u/\E x y z u/\G x y z u) (k:∀x y z u,A x y z u->B x y z u->C x y z u->D x y z u->E x y z u->G x y z u->P):P:=h.elim λx h=>NY h (k x)
theorem Z1 {A B C D E G H:a->b->c->d->Prop} {P:Prop} (h:∃x y z u,A x y z u/\B x y z u/\C x y z u/\D x y z u/\E x y z u/\G x y z u/\H x y z u) (k:∀x y z u,A x y z u->B x y z u->C x y z u->D x y z u->E x y z u->G x y z u->H x y z u->P):P:=h.elim λx h=>h.elim λy h=>h.elim λz h=>h.elim λu h=>k x y z u h.1 h.2.1 h.2.2.1 h.2.2.2.1 h.2.2.2.2.1 h.2.2.2.2.2.1 h.2.2.2.2.2.2
theorem Fy {A B:a->b->c->d->e->Prop} {P:Prop} (h:∃x y z u v,A x y z u v/\B x y z u v) (k:∀x y z u v,A x y z u v->B x y z u v->P):P:=h.elim λx h=>rV h (k x)
theorem Z0 {A B C:a->b->c->d->e->Prop} {P:Prop} (h:∃x y z u v,A x y z u v/\B x y z u v/\C x y z u v) (k:∀x y z u v,A x y z u v->B x y z u v->C x y z u v->P):P:=h.elim λx h=>QC h (k x)
theorem Fz {A B C D:a->b->c->d->e->Prop} {P:Prop} (h:∃x y z u v,A x y z u v/\B x y z u v/\C x y z u v/\D x y z u v) (k:∀x y z u v,A x y z u v->B x y z u v->C x y z u v->D x y z u v->P):P:=h.elim λx h=>oU h (k x)
theorem TH {A B C D E:a->b->c->d->e->Prop} {P:Prop} (h:∃x y z u v,A x y z u v/\B x y z u v/\C x y z u v/\D x y z u v/\E x y z u v) (k:∀x y z u v,A x y z u v->B x y z u v->C x y z u v->D x y z u v->E x y z u v->P):P:=h.elim λx h=>QB h (k x)
theorem TJ {A B C D E G H I J K:a->b->c->d->e->Prop} {P:Prop} (h:∃x y z u v,A x y z u v/\B x y z u v/\C x y z u v/\D x y z u v/\E x y z u v/\G x y z u v/\H x y z u v/\I x y z u v/\J x y z u v/\K x y z u v) (k:∀x y z u v,A x y z u v->B x y z u v->C x y z u v->D x y z u v->E x y z u v->G x y z u v->H x y z u v->I x y z u v->J x y z u v->K x y z u v->P):P:=h.elim λx h=>h.elim λy h=>h.elim λz h=>h.elim λu h=>h.elim λv h=>k x y z u v h.1 h.2.1 h.2.2.1 h.2.2.2.1 h.2.2.2.2.1 h.2.2.2.2.2.1 h.2.2.2.2.2.2.1 h.2.2.2.2.2.2.2.1 h.2.2.2.2.2.2.2.2.1 h.2.2.2.2.2.2.2.2.2
theorem YZ {A B:a->b->c->d->e->f->Prop} {P:Prop} (h:∃x y z u v w,A x y z u v w/\B x y z u v w) (k:∀x y z u v w,A x y z u v w->B x y z u v w->P):P:=h.elim λx h=>Fy h (k x)
theorem YY {A B C D:a->b->c->d->e->f->Prop} {P:Prop} (h:∃x y z u v w,A x y z u v w/\B x y z u v w/\C x y z u v w/\D x y z u v w) (k:∀x y z u v w,A x y z u v w->B x y z u v w->C x y z u v w->D x y z u v w->P):P:=h.elim λx h=>Fz h (k x)
theorem TG {A B C D E:a->b->c->d->e->f->Prop} {P:Prop} (h:∃x y z u v w,A x y z u v w/\B x y z u v w/\C x y z u v w/\D x y z u v w/\E x y z u v w) (k:∀x y z u v w,A x y z u v w->B x y z u v w->C x y z u v w->D x y z u v w->E x y z u v w->P):P:=h.elim λx h=>TH h (k x)
theorem jp {A B:Prop} (i:A) (j:B):A/\B:=⟨i,j⟩
theorem mB {A B C:Prop} (i:A) (j:B) (k:C):A/\B/\C:=⟨i,j,k⟩
theorem fv {A B C D:Prop} (i:A) (j:B) (k:C) (l:D):A/\B/\C/\D:=⟨i,j,k,l⟩
theorem sY {A B C D E:Prop} (i:A) (j:B) (k:C) (l:D) (m:E):A/\B/\C/\D/\E:=⟨i,j,k,l,m⟩
theorem TF {A B C D E G:Prop} (i:A) (j:B) (k:C) (l:D) (m:E) (n:G):A/\B/\C/\D/\E/\G:=⟨i,j,k,l,m,n⟩
theorem Db {A B C D E G H:Prop} (i:A) (j:B) (k:C) (l:D) (m:E) (n:G) (o:H):A/\B/\C/\D/\E/\G/\H:=⟨i,j,k,l,m,n,o⟩
theorem A9 {A:a->Prop} (x:a) (i:A x):∃x,A x:=⟨x,i⟩
theorem aN {A B:a->Prop} (x:a) (i:A x) (j:B x):∃x,A x/\B x:=⟨x,i,j⟩
theorem bA {A B C:a->Prop} (x:a) (i:A x) (j:B x) (k:C x):∃x,A x/\B x/\C x:=⟨x,i,j,k⟩
theorem qS {A B C D:a->Prop} (x:a) (i:A x) (j:B x) (k:C x) (l:D x):∃x,A x/\B x/\C x/\D x:=⟨x,i,j,k,l⟩
theorem Aa {A B C D E:a->Prop} (x:a) (i:A x) (j:B x) (k:C x) (l:D x) (m:E x):∃x,A x/\B x/\C x/\D x/\E x:=⟨x,i,j,k,l,m⟩
theorem TE {A B C D E G H:a->Prop} (x:a) (i:A x) (j:B x) (k:C x) (l:D x) (m:E x) (n:G x) (o:H x):∃x,A x/\B x/\C x/\D x/\E x/\G x/\H x:=⟨x,i,j,k,l,m,n,o⟩
theorem cY {A:a->b->Prop} (x:a) (y:b) (i:A x y):∃x y,A x y:=⟨x,A9 y i⟩
theorem ie {A B:a->b->Prop} (x:a) (y:b) (i:A x y) (j:B x y):∃x y,A x y/\B x y:=⟨x,aN y i j⟩
theorem eu {A B C:a->b->Prop} (x:a) (y:b) (i:A x y) (j:B x y) (k:C x y):∃x y,A x y/\B x y/\C x y:=⟨x,bA y i j k⟩
theorem pv {A B C D:a->b->Prop} (x:a) (y:b) (i:A x y) (j:B x y) (k:C x y) (l:D x y):∃x y,A x y/\B x y/\C x y/\D x y:=⟨x,qS y i j k l⟩
theorem w3 {A B C D E:a->b->Prop} (x:a) (y:b) (i:A x y) (j:B x y) (k:C x y) (l:D x y) (m:E x y):∃x y,A x y/\B x y/\C x y/\D x y/\E x y:=⟨x,Aa y i j k l m⟩
theorem sZ {A B C D E G:a->b->Prop} (x:a) (y:b) (i:A x y) (j:B x y) (k:C x y) (l:D x y) (m:E x y) (n:G x y):∃x y,A x y/\B x y/\C x y/\D x y/\E x y/\G x y:=⟨x,y,i,j,k,l,m,n⟩
theorem YX {A B C D E G H:a->b->Prop} (x:a) (y:b) (i:A x y) (j:B x y) (k:C x y) (l:D x y) (m:E x y) (n:G x y) (o:H x y):∃x y,A x y/\B x y/\C x y/\D x y/\E x y/\G x y/\H x y:=⟨x,TE y i j k l m n o⟩
theorem YW {A B C D E G H I:a->b->Prop} (x:a) (y:b) (h0:A x y) (h1:B x y) (h2:C x y) (h3:D x y) (h4:E x y) (h5:G x y) (h6:H x y) (h7:I x y):∃x y,A x y/\B x y/\C x y/\D x y/\E x y/\G x y/\H x y/\I x y:=⟨x,y,h0,h1,h2,h3,h4,h5,h6,h7⟩
theorem Ab {A:a->b->c->Prop} (x:a) (y:b) (z:c) (i:A x y z):∃x y z,A x y z:=⟨x,cY y z i⟩
theorem t4 {A B:a->b->c->Prop} (x:a) (y:b) (z:c) (i:A x y z) (j:B x y z):∃x y z,A x y z/\B x y z:=⟨x,ie y z i j⟩
theorem oV {A B C:a->b->c->Prop} (x:a) (y:b) (z:c) (i:A x y z) (j:B x y z) (k:C x y z):∃x y z,A x y z/\B x y z/\C x y z:=⟨x,eu y z i j k⟩
theorem xK {A B C D:a->b->c->Prop} (x:a) (y:b) (z:c) (i:A x y z) (j:B x y z) (k:C x y z) (l:D x y z):∃x y z,A x y z/\B x y z/\C x y z/\D x y z:=⟨x,pv y z i j k l⟩
theorem FA {A B C D E:a->b->c->Prop} (x:a) (y:b) (z:c) (i:A x y z) (j:B x y z) (k:C x y z) (l:D x y z) (m:E x y z):∃x y z,A x y z/\B x y z/\C x y z/\D x y z/\E x y z:=⟨x,w3 y z i j k l m⟩
theorem NX {A B C D E G:a->b->c->Prop} (x:a) (y:b) (z:c) (i:A x y z) (j:B x y z) (k:C x y z) (l:D x y z) (m:E x y z) (n:G x y z):∃x y z,A x y z/\B x y z/\C x y z/\D x y z/\E x y z/\G x y z:=⟨x,sZ y z i j k l m n⟩
theorem YV {A B C D E G H I J:a->b->c->Prop} (x:a) (y:b) (z:c) (h0:A x y z) (h1:B x y z) (h2:C x y z) (h3:D x y z) (h4:E x y z) (h5:G x y z) (h6:H x y z) (h7:I x y z) (h8:J x y z):∃x y z,A x y z/\B x y z/\C x y z/\D x y z/\E x y z/\G x y z/\H x y z/\I x y z/\J x y z:=⟨x,y,z,h0,h1,h2,h3,h4,h5,h6,h7,h8⟩
theorem TD {A:a->b->c->d->Prop} (x:a) (y:b) (z:c) (u:d) (i:A x y z u):∃x y z u,A x y z u:=⟨x,Ab y z u i⟩
theorem rW {A B:a->b->c->d->Prop} (x:a) (y:b) (z:c) (u:d) (i:A x y z u) (j:B x y z u):∃x y z u,A x y z u/\B x y z u:=⟨x,t4 y z u i j⟩
theorem TC {A B C:a->b->c->d->Prop} (x:a) (y:b) (z:c) (u:d) (i:A x y z u) (j:B x y z u) (k:C x y z u):∃x y z u,A x y z u/\B x y z u/\C x y z u:=⟨x,oV y z u i j k⟩
theorem w4 {A B C D:a->b->c->d->Prop} (x:a) (y:b) (z:c) (u:d) (i:A x y z u) (j:B x y z u) (k:C x y z u) (l:D x y z u):∃x y z u,A x y z u/\B x y z u/\C x y z u/\D x y z u:=⟨x,xK y z u i j k l⟩
theorem NW {A B C D E:a->b->c->d->Prop} (x:a) (y:b) (z:c) (u:d) (i:A x y z u) (j:B x y z u) (k:C x y z u) (l:D x y z u) (m:E x y z u):∃x y z u,A x y z u/\B x y z u/\C x y z u/\D x y z u/\E x y z u:=⟨x,FA y z u i j k l m⟩
theorem uz {A B C D E G:a->b->c->d->Prop} (x:a) (y:b) (z:c) (u:d) (i:A x y z u) (j:B x y z u) (k:C x y z u) (l:D x y z u) (m:E x y z u) (n:G x y z u):∃x y z u,A x y z u/\B x y z u/\C x y z u/\D x y z u/\E x y z u/\G x y z u:=⟨x,NX y z u i j k l m n⟩
theorem Dc {A B:a->b->c->d->e->Prop} (x:a) (y:b) (z:c) (u:d) (v:e) (i:A x y z u v) (j:B x y z u v):∃x y z u v,A x y z u v/\B x y z u v:=⟨x,rW y z u v i j⟩
theorem YU {A B C:a->b->c->d->e->Prop} (x:a) (y:b) (z:c) (u:d) (v:e) (i:A x y z u v) (j:B x y z u v) (k:C x y z u v):∃x y z u v,A x y z u v/\B x y z u v/\C x y z u v:=⟨x,TC y z u v i j k⟩
theorem Ac {A B C D:a->b->c->d->e->Prop} (x:a) (y:b) (z:c) (u:d) (v:e) (i:A x y z u v) (j:B x y z u v) (k:C x y z u v) (l:D x y z u v):∃x y z u v,A x y z u v/\B x y z u v/\C x y z u v/\D x y z u v:=⟨x,w4 y z u v i j k l⟩
theorem NV {A B C D E:a->b->c->d->e->Prop} (x:a) (y:b) (z:c) (u:d) (v:e) (i:A x y z u v) (j:B x y z u v) (k:C x y z u v) (l:D x y z u v) (m:E x y z u v):∃x y z u v,A x y z u v/\B x y z u v/\C x y z u v/\D x y z u v/\E x y z u v:=⟨x,NW y z u v i j k l m⟩
theorem TB {A B C D E G:a->b->c->d->e->Prop} (x:a) (y:b) (z:c) (u:d) (v:e) (i:A x y z u v) (j:B x y z u v) (k:C x y z u v) (l:D x y z u v) (m:E x y z u v) (n:G x y z u v):∃x y z u v,A x y z u v/\B x y z u v/\C x y z u v/\D x y z u v/\E x y z u v/\G x y z u v:=⟨x,uz y z u v i j k l m n⟩
theorem NU {A B C D E G H:a->b->c->d->e->Prop} (x:a) (y:b) (z:c) (u:d) (v:e) (i:A x y z u v) (j:B x y z u v) (k:C x y z u v) (l:D x y z u v) (m:E x y z u v) (n:G x y z u v) (o:H x y z u v):∃x y z u v,A x y z u v/\B x y z u v/\C x y z u v/\D x y z u v/\E x y z u v/\G x y z u v/\H x y z u v:=⟨x,y,z,u,v,i,j,k,l,m,n,o⟩
theorem TA {A B C D E G H I:a->b->c->d->e->Prop} (x:a) (y:b) (z:c) (u:d) (v:e) (h0:A x y z u v) (h1:B x y z u v) (h2:C x y z u v) (h3:D x y z u v) (h4:E x y z u v) (h5:G x y z u v) (h6:H x y z u v) (h7:I x y z u v):∃x y z u v,A x y z u v/\B x y z u v/\C x y z u v/\D x y z u v/\E x y z u v/\G x y z u v/\H x y z u v/\I x y z u v:=⟨x,y,z,u,v,h0,h1,h2,h3,h4,h5,h6,h7⟩
theorem YT {A B:a->b->c->d->e->f->Prop} (x:a) (y:b) (z:c) (u:d) (v:e) (w:f) (i:A x y z u v w) (j:B x y z u v w):∃x y z u v w,A x y z u v w/\B x y z u v w:=⟨x,Dc y z u v w i j⟩
theorem Tz {A B C D:a->b->c->d->e->f->Prop} (x:a) (y:b) (z:c) (u:d) (v:e) (w:f) (i:A x y z u v w) (j:B x y z u v w) (k:C x y z u v w) (l:D x y z u v w):∃x y z u v w,A x y z u v w/\B x y z u v w/\C x y z u v w/\D x y z u v w:=⟨x,Ac y z u v w i j k l⟩
theorem QA {A B C D E:a->b->c->d->e->f->Prop} (x:a) (y:b) (z:c) (u:d) (v:e) (w:f) (i:A x y z u v w) (j:B x y z u v w) (k:C x y z u v w) (l:D x y z u v w) (m:E x y z u v w):∃x y z u v w,A x y z u v w/\B x y z u v w/\C x y z u v w/\D x y z u v w/\E x y z u v w:=⟨x,NV y z u v w i j k l m⟩
theorem NT {A B C D E G H:a->b->c->d->e->f->Prop} (x:a) (y:b) (z:c) (u:d) (v:e) (w:f) (i:A x y z u v w) (j:B x y z u v w) (k:C x y z u v w) (l:D x y z u v w) (m:E x y z u v w) (n:G x y z u v w) (o:H x y z u v w):∃x y z u v w,A x y z u v w/\B x y z u v w/\C x y z u v w/\D x y z u v w/\E x y z u v w/\G x y z u v w/\H x y z u v w:=⟨x,NU y z u v w i j k l m n o⟩
theorem Qz {A B C D E:a->b->c->d->e->f->m->Prop} (x:a) (y:b) (z:c) (u:d) (v:e) (w:f) (r:m) (i:A x y z u v w r) (j:B x y z u v w r) (k:C x y z u v w r) (l:D x y z u v w r) (m:E x y z u v w r):∃x y z u v w r,A x y z u v w r/\B x y z u v w r/\C x y z u v w r/\D x y z u v w r/\E x y z u v w r:=⟨x,QA y z u v w r i j k l m⟩
theorem YS {A B C D E G:a->b->c->d->e->f->m->Prop} (x:a) (y:b) (z:c) (u:d) (v:e) (w:f) (r:m) (i:A x y z u v w r) (j:B x y z u v w r) (k:C x y z u v w r) (l:D x y z u v w r) (m:E x y z u v w r) (n:G x y z u v w r):∃x y z u v w r,A x y z u v w r/\B x y z u v w r/\C x y z u v w r/\D x y z u v w r/\E x y z u v w r/\G x y z u v w r:=⟨x,y,z,u,v,w,r,i,j,k,l,m,n⟩
theorem YR {A B C D E G H:a->b->c->d->e->f->m->Prop} (x:a) (y:b) (z:c) (u:d) (v:e) (w:f) (r:m) (i:A x y z u v w r) (j:B x y z u v w r) (k:C x y z u v w r) (l:D x y z u v w r) (m:E x y z u v w r) (n:G x y z u v w r) (o:H x y z u v w r):∃x y z u v w r,A x y z u v w r/\B x y z u v w r/\C x y z u v w r/\D x y z u v w r/\E x y z u v w r/\G x y z u v w r/\H x y z u v w r:=⟨x,NT y z u v w r i j k l m n o⟩
theorem YQ {A:a->b->c->d->e->f->m->n->Prop} (x:a) (y:b) (z:c) (u:d) (v:e) (w:f) (r:m) (s:n) (i:A x y z u v w r s):∃x y z u v w r s,A x y z u v w r s:=⟨x,y,z,u,v,w,r,s,i⟩
@[elab_as_elim] theorem fq {t:g} {A:Prop} {P:g->Prop} (i:g) (h:i=t/\A) (k:A->P (t)):P i:=h.1.symm▸k h.2
@[elab_as_elim] theorem Qy {t:g} {A B:Prop} {P:g->Prop} (i:g) (h:i=t/\A/\B) (k:A->B->P (t)):P i:=fq i h λh=>k h.1 h.2
@[elab_as_elim] theorem gc {t:a->g} {P:g->Prop} (i:g) (h:∃x,i=t x) (k:∀x,P (t x)):P i:=h.elim λx h=>h.symm▸k x
@[elab_as_elim] theorem cX {t:a->g} {A:a->Prop} {P:g->Prop} (i:g) (h:∃x,i=t x/\A x) (k:∀x,A x->P (t x)):P i:=h.elim λx h=>fq i h (k x)
@[elab_as_elim] theorem t5 {t:a->g} {A B:a->Prop} {P:g->Prop} (i:g) (h:∃x,i=t x/\A x/\B x) (k:∀x,A x->B x->P (t x)):P i:=h.elim λx h=>Qy i h (k x)
@[elab_as_elim] theorem NS {t:a->g} {A B C D:a->Prop} {P:g->Prop} (i:g) (h:∃x,i=t x/\A x/\B x/\C x/\D x) (k:∀x,A x->B x->C x->D x->P (t x)):P i:=h.elim λx h=>h.1.symm▸k x h.2.1 h.2.2.1 h.2.2.2.1 h.2.2.2.2
@[elab_as_elim] theorem YL {t:a->g} {A B C D E G:a->Prop} {P:g->Prop} (i:g) (h:∃x,i=t x/\A x/\B x/\C x/\D x/\E x/\G x) (k:∀x,A x->B x->C x->D x->E x->G x->P (t x)):P i:=h.elim λx h=>h.1.symm▸k x h.2.1 h.2.2.1 h.2.2.2.1 h.2.2.2.2.1 h.2.2.2.2.2.1 h.2.2.2.2.2.2
@[elab_as_elim] theorem rX {t:a->b->g} {P:g->Prop} (i:g) (h:∃x y,i=t x y) (k:∀x y,P (t x y)):P i:=h.elim λx h=>gc i h (k x)
@[elab_as_elim] theorem jq {t:a->b->g} {A:a->b->Prop} {P:g->Prop} (i:g) (h:∃x y,i=t x y/\A x y) (k:∀x y,A x y->P (t x y)):P i:=h.elim λx h=>cX i h (k x)
@[elab_as_elim] theorem ko {t:a->b->g} {A B:a->b->Prop} {P:g->Prop} (i:g) (h:∃x y,i=t x y/\A x y/\B x y) (k:∀x y,A x y->B x y->P (t x y)):P i:=h.elim λx h=>t5 i h (k x)
@[elab_as_elim] theorem jU {t:a->b->g} {A B C:a->b->Prop} {P:g->Prop} (i:g) (h:∃x y,i=t x y/\A x y/\B x y/\C x y) (k:∀x y,A x y->B x y->C x y->P (t x y)):P i:=h.elim λx h=>h.elim λy h=>h.1.symm▸k x y h.2.1 h.2.2.1 h.2.2.2
@[elab_as_elim] theorem Ad {t:a->b->g} {A B C D E:a->b->Prop} {P:g->Prop} (i:g) (h:∃x y,i=t x y/\A x y/\B x y/\C x y/\D x y/\E x y) (k:∀x y,A x y->B x y->C x y->D x y->E x y->P (t x y)):P i:=h.elim λx h=>h.elim λy h=>h.1.symm▸k x y h.2.1 h.2.2.1 h.2.2.2.1 h.2.2.2.2.1 h.2.2.2.2.2
@[elab_as_elim] theorem Qx {t:a->b->c->g} {P:g->Prop} (i:g) (h:∃x y z,i=t x y z) (k:∀x y z,P (t x y z)):P i:=h.elim λx h=>rX i h (k x)
@[elab_as_elim] theorem fR {t:a->b->c->g} {A:a->b->c->Prop} {P:g->Prop} (i:g) (h:∃x y z,i=t x y z/\A x y z) (k:∀x y z,A x y z->P (t x y z)):P i:=h.elim λx h=>jq i h (k x)
@[elab_as_elim] theorem Qw {t:a->b->c->g} {A B:a->b->c->Prop} {P:g->Prop} (i:g) (h:∃x y z,i=t x y z/\A x y z/\B x y z) (k:∀x y z,A x y z->B x y z->P (t x y z)):P i:=h.elim λx h=>ko i h (k x)
@[elab_as_elim] theorem Tx {t:a->b->c->g} {A B C:a->b->c->Prop} {P:g->Prop} (i:g) (h:∃x y z,i=t x y z/\A x y z/\B x y z/\C x y z) (k:∀x y z,A x y z->B x y z->C x y z->P (t x y z)):P i:=h.elim λx h=>jU i h (k x)
@[elab_as_elim] theorem Qv {t:a->b->c->g} {A B C D:a->b->c->Prop} {P:g->Prop} (i:g) (h:∃x y z,i=t x y z/\A x y z/\B x y z/\C x y z/\D x y z) (k:∀x y z,A x y z->B x y z->C x y z->D x y z->P (t x y z)):P i:=h.elim λx h=>h.elim λy h=>h.elim λz h=>h.1.symm▸k x y z h.2.1 h.2.2.1 h.2.2.2.1 h.2.2.2.2
@[elab_as_elim] theorem Tw {t:a->b->c->g} {A B C D E:a->b->c->Prop} {P:g->Prop} (i:g) (h:∃x y z,i=t x y z/\A x y z/\B x y z/\C x y z/\D x y z/\E x y z) (k:∀x y z,A x y z->B x y z->C x y z->D x y z->E x y z->P (t x y z)):P i:=h.elim λx h=>Ad i h (k x)
@[elab_as_elim] theorem Tv {t:a->b->c->g} {A B C D E G H I:a->b->c->Prop} {P:g->Prop} (i:g) (h:∃x y z,i=t x y z/\A x y z/\B x y z/\C x y z/\D x y z/\E x y z/\G x y z/\H x y z/\I x y z) (k:∀x y z,A x y z->B x y z->C x y z->D x y z->E x y z->G x y z->H x y z->I x y z->P (t x y z)):P i:=h.elim λx h=>h.elim λy h=>h.elim λz h=>h.1.symm▸k x y z h.2.1 h.2.2.1 h.2.2.2.1 h.2.2.2.2.1 h.2.2.2.2.2.1 h.2.2.2.2.2.2.1 h.2.2.2.2.2.2.2.1 h.2.2.2.2.2.2.2.2
@[elab_as_elim] theorem mC {t:a->b->c->d->g} {A:a->b->c->d->Prop} {P:g->Prop} (i:g) (h:∃x y z u,i=t x y z u/\A x y z u) (k:∀x y z u,A x y z u->P (t x y z u)):P i:=h.elim λx h=>fR i h (k x)
@[elab_as_elim] theorem Dd {t:a->b->c->d->g} {A B C D:a->b->c->d->Prop} {P:g->Prop} (i:g) (h:∃x y z u,i=t x y z u/\A x y z u/\B x y z u/\C x y z u/\D x y z u) (k:∀x y z u,A x y z u->B x y z u->C x y z u->D x y z u->P (t x y z u)):P i:=h.elim λx h=>Qv i h (k x)
@[elab_as_elim] theorem NR {t:a->b->c->d->g} {A B C D E:a->b->c->d->Prop} {P:g->Prop} (i:g) (h:∃x y z u,i=t x y z u/\A x y z u/\B x y z u/\C x y z u/\D x y z u/\E x y z u) (k:∀x y z u,A x y z u->B x y z u->C x y z u->D x y z u->E x y z u->P (t x y z u)):P i:=h.elim λx h=>Tw i h (k x)
@[elab_as_elim] theorem Tu {t:a->b->c->d->e->g} {A:a->b->c->d->e->Prop} {P:g->Prop} (i:g) (h:∃x y z u v,i=t x y z u v/\A x y z u v) (k:∀x y z u v,A x y z u v->P (t x y z u v)):P i:=h.elim λx h=>mC i h (k x)
@[elab_as_elim] theorem YK {t:a->b->c->d->e->g} {A B C D:a->b->c->d->e->Prop} {P:g->Prop} (i:g) (h:∃x y z u v,i=t x y z u v/\A x y z u v/\B x y z u v/\C x y z u v/\D x y z u v) (k:∀x y z u v,A x y z u v->B x y z u v->C x y z u v->D x y z u v->P (t x y z u v)):P i:=h.elim λx h=>Dd i h (k x)
@[elab_as_elim] theorem Tt {t:a->b->c->d->e->g} {A B C D E:a->b->c->d->e->Prop} {P:g->Prop} (i:g) (h:∃x y z u v,i=t x y z u v/\A x y z u v/\B x y z u v/\C x y z u v/\D x y z u v/\E x y z u v) (k:∀x y z u v,A x y z u v->B x y z u v->C x y z u v->D x y z u v->E x y z u v->P (t x y z u v)):P i:=h.elim λx h=>NR i h (k x)
@[elab_as_elim] theorem Ts {t:a->b->c->d->e->g} {A B C D E G:a->b->c->d->e->Prop} {P:g->Prop} (i:g) (h:∃x y z u v,i=t x y z u v/\A x y z u v/\B x y z u v/\C x y z u v/\D x y z u v/\E x y z u v/\G x y z u v) (k:∀x y z u v,A x y z u v->B x y z u v->C x y z u v->D x y z u v->E x y z u v->G x y z u v->P (t x y z u v)):P i:=h.elim λx h=>h.elim λy h=>h.elim λz h=>h.elim λu h=>h.elim λv h=>h.1.symm▸k x y z u v h.2.1 h.2.2.1 h.2.2.2.1 h.2.2.2.2.1 h.2.2.2.2.2.1 h.2.2.2.2.2.2
@[elab_as_elim] theorem Tq {t:a->b->c->d->e->g} {A B C D E G H:a->b->c->d->e->Prop} {P:g->Prop} (i:g) (h:∃x y z u v,i=t x y z u v/\A x y z u v/\B x y z u v/\C x y z u v/\D x y z u v/\E x y z u v/\G x y z u v/\H x y z u v) (k:∀x y z u v,A x y z u v->B x y z u v->C x y z u v->D x y z u v->E x y z u v->G x y z u v->H x y z u v->P (t x y z u v)):P i:=h.elim λx h=>h.elim λy h=>h.elim λz h=>h.elim λu h=>h.elim λv h=>h.1.symm▸k x y z u v h.2.1 h.2.2.1 h.2.2.2.1 h.2.2.2.2.1 h.2.2.2.2.2.1 h.2.2.2.2.2.2.1 h.2.2.2.2.2.2.2
@[elab_as_elim] theorem PD {t:a->b->c->d->e->g} {A B C D E G H I J:a->b->c->d->e->Prop} {P:g->Prop} (i:g) (h:∃x y z u v,i=t x y z u v/\A x y z u v/\B x y z u v/\C x y z u v/\D x y z u v/\E x y z u v/\G x y z u v/\H x y z u v/\I x y z u v/\J x y z u v) (k:∀x y z u v,A x y z u v->B x y z u v->C x y z u v->D x y z u v->E x y z u v->G x y z u v->H x y z u v->I x y z u v->J x y z u v->P (t x y z u v)):P i:=h.elim λx h=>h.elim λy h=>h.elim λz h=>h.elim λu h=>h.elim λv h=>h.1.symm▸k x y z u v h.2.1 h.2.2.1 h.2.2.2.1 h.2.2.2.2.1 h.2.2.2.2.2.1 h.2.2.2.2.2.2.1 h.2.2.2.2.2.2.2.1 h.2.2.2.2.2.2.2.2.1 h.2.2.2.2.2.2.2.2.2
@[elab_as_elim] theorem YI {t:a->b->c->d->e->f->g} {A B C D E G:a->b->c->d->e->f->Prop} {P:g->Prop} (i:g) (h:∃x y z u v w,i=t x y z u v w/\A x y z u v w/\B x y z u v w/\C x y z u v w/\D x y z u v w/\E x y z u v w/\G x y z u v w) (k:∀x y z u v w,A x y z u v w->B x y z u v w->C x y z u v w->D x y z u v w->E x y z u v w->G x y z u v w->P (t x y z u v w)):P i:=h.elim λx h=>Ts i h (k x)
@[elab_as_elim] theorem Tp {t:a->b->c->d->e->f->m->g} {A B C D:a->b->c->d->e->f->m->Prop} {P:g->Prop} (i:g) (h:∃x y z u v w r,i=t x y z u v w r/\A x y z u v w r/\B x y z u v w r/\C x y z u v w r/\D x y z u v w r) (k:∀x y z u v w r,A x y z u v w r->B x y z u v w r->C x y z u v w r->D x y z u v w r->P (t x y z u v w r)):P i:=h.elim λx h=>h.elim λy h=>h.elim λz h=>h.elim λu h=>h.elim λv h=>h.elim λw h=>h.elim λr h=>h.1.symm▸k x y z u v w r h.2.1 h.2.2.1 h.2.2.2.1 h.2.2.2.2
@[elab_as_elim] theorem YO {t:g} {A:Prop} {P:g->Prop} (i:g) (h:t=i/\A) (k:A->P (t)):P i:=h.1▸k h.2
@[elab_as_elim] theorem YN {t:g} {A B:Prop} {P:g->Prop} (i:g) (h:t=i/\A/\B) (k:A->B->P (t)):P i:=h.1▸k h.2.1 h.2.2
@[elab_as_elim] theorem YM {t:g} {A B C:Prop} {P:g->Prop} (i:g) (h:t=i/\A/\B/\C) (k:A->B->C->P (t)):P i:=h.1▸k h.2.1 h.2.2.1 h.2.2.2
@[elab_as_elim] theorem FB {t:a->g} {P:g->Prop} (i:g) (h:∃x,t x=i) (k:∀x,P (t x)):P i:=h.elim λx h=>h▸k x
end
@[elab_as_elim] theorem fX {a0 b:Sort _} {t:a0->b} {A:a0->Prop} {P:b->Prop} (v:b) (h:∃x0,A x0/\v=t x0) (f:∀x0,A x0->P (t x0)):P v:=Exists.elim h λx0 h=>h.2.symm▸f x0 h.1
@[elab_as_elim] theorem ig {a0 b:Sort _} {t:a0->b} {A:a0->Prop} {P:b->Prop} (v:b) (h:∃x0,A x0/\t x0=v) (f:∀x0,A x0->P (t x0)):P v:=Exists.elim h λx0 h=>h.2▸f x0 h.1
@[elab_as_elim] theorem ah {α:Sort _} {b:α} {P:α->Prop} (a:α) (h:a=b) (x:P b):P a:=h▸x
theorem de {α:Type _} {a:α} {P:Prop} (h:a∈([]:List α)):P:=absurd h c6
theorem ft {α:Type _} {a:α} {P:Prop} (h:ID=IC a):P:=nomatch h
theorem v8 {α:Type _} {a:α} {P:Prop} (h:IC a=ID):P:=nomatch h
theorem fP {P:Prop} (h:false=true):P:=nomatch h
theorem SR {P:Prop} (h:true=false):P:=nomatch h
theorem Zb {α:Type _} {a:α} {l:List α} {P:Prop} (h:[]=a::l):P:=nomatch h
theorem Rg {α:Type _} {a:α} {l:List α} {P:Prop} (h:a::l=[]):P:=nomatch h
theorem Rh {n:Nat} {P:Prop} (h:0=n+1):P:=nomatch h
theorem SS {n:Nat} {P:Prop} (h:n+1=0):P:=nomatch h
theorem xA {α β:Type _} {f:α->β} {l:List α} {b:β} {P:Prop} (h:b∈l.map f) (k:∀a,a∈l->f a=b->P):P:=(List.mem_map.mp h).elim λa h=>k a h.1 h.2
section
variable {a b c d e k m n:Nat}
theorem ar6 (h0:a+200<b):a+64<b:=aB (bb (by decide) a) h0
theorem ar8 (h0:a<b):b - (a+1)<b - a:=Nat.sub_succ_lt_self b a h0
theorem ar9 (h0:a<=3) (h1:b=a):b<=1000:=h1▸ab h0 (by decide)
theorem Sy:a<=a+b:=b5 a b
theorem Wq (h0:0<a):¬(↑a:Int)=0:=λe=>d8 h0 (Int.ofNat.inj e)
theorem VP:0<=(↑(a+1):Int) - 1:=by simp
theorem VO:¬(↑a:Int)<0:=Int.not_ofNat_neg a
theorem VN:¬a+1+1+1+1+1+1<6:=uA (f6 6 a)
theorem VI (h0:a+1<b):b=b - 1+1:=(jr (bj (aB (f6 1 a) h0))).symm
theorem VE:a+(b+1)=a+1+b:=gX a b 1
theorem VD:a - b+(1 - 1)<a - b+(1 - 0):=gx (a - b+(1 - 1))
theorem VB (h0:a+20*(b+1)+20<c):a+1+20*b+20<c:=by rw[t7,←i9]at h0;exact aB (dO (ab (bd (gX a 1 (20*b))) (bb (by decide:1<=20) _)) 20) h0
theorem VA (h0:a+20*(b+1)+20<c):a<c:=aB (ab (b5 a _) (b5 _ 20)) h0
theorem Vz (h0:a+200<b) (h1:c<=64):a+1+c<b:=aB (ab (bd (i9 a 1 c)) (bb (ab (bb h1 1) (by decide:1+64<=200)) a)) h0
theorem Vy (h0:a<min b c):a<b:=aP h0 (pa b c)
theorem Vx (h0:a=b) (h1:c=b):a=c:=by subst_vars;exact Nat.add_zero c
theorem Xj (h0:0<a):0<=-1+(↑a:Int)/\-1+(↑a:Int)<(↑a:Int):=⟨by rw[gY];exact fY (Int.ofNat_le.2 h0),by rw[gY];exact fZ (bu _)⟩
theorem Xi (h0:2<=a) (h1:a<=6):a=2∨a=3∨a=4∨a=5∨a=6:=by lia
theorem Xh (h0:a+21<999):a+6<999:=aB (bb (by decide) a) h0
theorem Xg (h0:a+3<1000):a+1<1000:=aB (bb (by decide) a) h0
theorem Xf (h0:a<390):3+(a+1)<=400:=iM (a+1) 3▸ab (dO h0 3) (by decide)
theorem Xe (h0:a=5):a<=31:=by subst_vars;exact ak rfl
theorem Xd (h0:a<=1) (h1:¬(↑a:Int)<1):a=1:=cC h0 (na (Nat.pos_of_ne_zero λe=>h1 (e▸(by decide))))
theorem Xc:((↑(a+1):Int) - 1).toNat=a:=by simp
theorem Xb:(-1+(↑a:Int)).toNat=a - 1:=(congrArg Int.toNat (gY (-1) a)).trans (Int.toNat_sub a 1)
theorem Xa:0<=(↑a:Int):=dJ a
theorem X_:a+1<=a+2:=cL (a+1)
theorem X9:a<a+1:=gx a
theorem X8:a<=a:=aq a
theorem X7:a<=a+1+1+1+1+1:=bP (b5 a 4)
theorem WY (h0:(↑a:Int)<(↑b:Int)):b=b - 1+1:=(jr (bj (aB (na (nb (jM.1 h0))) (bV b)) |>λ_=>nb (jM.1 h0))).symm
theorem WW (h0:a+20<b):a+1+1+1<b:=by lia
theorem WV (h0:a<18):min b a<18:=aB (kq b a) h0
theorem WU (h0:a<b):(a+b)/2<b:=(Nat.div_lt_iff_lt_mul (by decide)).2 (Nat.mul_two b▸Nat.add_lt_add_right h0 b)
theorem WT (h0:a<b):a<=(a+b)/2:=(Nat.le_div_iff_mul_le (by decide)).2 (Nat.mul_two a▸bb (bj h0) a)
theorem WS (h0:a<b):b - (a+1)+(1 - 0)<b - a+(1 - 0):=uB (Nat.sub_lt_sub_left h0 (bV a))
theorem WR (h0:a<=13+b):a<b+15:=aB h0 (iM 13 b▸l9 (by decide) b)
theorem WQ (h0:a<=15):min a b<=15:=ab (pa a b) h0
theorem WP (h0:a<=3) (h1:b<a):1+2*b+2<1000:=aB (dO (bb (cZ 2 (ab (bj h1) h0)) 1) 2) (by decide)
theorem WO (h0:a<=3) (h1:b<a):27+3*b+3<1000:=aB (dO (bb (cZ 3 (ab (bj h1) h0)) 27) 3) (by decide)
theorem WN (h0:a<=3):b+2*a<=b+6:=bb (cZ 2 h0) b
theorem WM (h0:a<=3):b+5*a<=b+15:=bb (cZ 5 h0) b
theorem WL (h0:a<=3):b+a<=b+3:=bb h0 b
theorem WK (h0:a<=6):b+1+3*a<=b+19:=bb (cZ 3 h0) (b+1)
theorem WI (h0:a<=b) (h1:¬(↑a:Int)<(↑b:Int)):a=b:=cC h0 (c7 λh=>h1 (jM.2 h))
theorem WH (h0:a<=b) (h1:¬(↑a:Int)<(↑b:Int)):b=a:=cC (c7 λh=>h1 (jM.2 h)) h0
theorem WG (h0:a<=b):0+a<=b+1:=bP (ab (bd (iN a)) h0)
theorem WF (h0:¬a*3<=(b+1)*5) (h1:a=7):b+1<=4:=by lia
theorem WE:a+5*b+5<=a+5*(b+1):=aq (a+5*b+5)
theorem WD:a+b - a=b:=Fj a b
theorem WC:min a b=a∨min a b=b:=Std.MinEqOr.min_eq_or a b
theorem WB:min a b<=a:=pa a b
theorem WA:min a b<=b:=kq a b
theorem Wx (h0:a+(b+1)<=c+1):a+1+b<=c+1:=ab (bd (gX a 1 b)) h0
theorem Ww (h0:a+(b+1)<=c+1):a<=c:=ab (b5 a b) (Nat.le_of_succ_le_succ h0)
theorem Wv (h0:a+1=b) (h1:c<b):c<=a:=by subst_vars;exact bF h1
theorem Wu (h0:a+15<999) (h1:b<=3) (h2:c<b):a+5*c+5<1000:=aB (cj (cj (aq a) (cZ 5 (nc (aP h2 h1)))) (aq 5)) (cq h0)
theorem Wt (h0:a+19<1000) (h1:b<=6) (h2:c<b):a+1+3*c+3<1000:=aB (cj (cj (aq (a+1)) (cZ 3 (nc (aP h2 h1)))) (aq 3)) h0
theorem Ws (h0:a+200*(b+1)+200<c):a+1+200*b+200<c:=by rw[t7,←i9]at h0;exact aB (dO (ab (bd (gX a 1 (200*b))) (bb (by decide:1<=200) _)) 200) h0
theorem Wr (h0:a+200*(b+1)+200<c):a+3+200*b+200<c:=by rw[t7,←i9]at h0;exact aB (dO (ab (bd (gX a 3 (200*b))) (bb (by decide:3<=200) _)) 200) h0
theorem Wp (h0:a+200*b+200<c):a+20<c:=aB (cj (b5 a _) (by decide)) h0
theorem Wo (h0:a+200*b+200<c):a+200<c:=aB (dO (b5 a _) 200) h0
theorem Wn (h0:a+3<1000) (h1:b<c) (h2:c<=3):a+b<1000:=cy (l9 (aP h1 h2) a) h0
theorem Wm (h0:a+5<1000) (h1:b<=5) (h2:c<b):a+c<1000:=cy (l9 (aP h2 h1) a) h0
theorem Wl (h0:a+6<999) (h1:b<c) (h2:c<=3):a+2*b+1<1000:=aB (cj (cj (aq a) (cZ 2 (nc (aP h1 h2)))) (aq 1)) (aB (cL (a+5)) (cq h0))
theorem Wj (h0:a<2) (h1:b<c) (h2:c<a):False:=b7 1 (aB (na (nb h1)) (aP h2 (bF h0)))
theorem Wh (h0:a<b) (h1:a=b+c):False:=b7 b (aB (ab (b5 b c) (bd h1.symm)) h0)
theorem Wg (h0:a<min b c) (h1:a=b):False:=b7 a (aP h0 (ab (pa b c) (bd h1.symm)))
theorem Wf (h0:a<min b c):a<c:=aP h0 (kq b c)
theorem We (h0:a=b∨a=c) (h1:a<b):a=c:=h0.elim (λe=>absurd h1 (e▸b7 a)) id
theorem Qn (h0:a=b) (h1:c=a):b<=c:=by subst_vars;exact aq c
theorem Wd (h0:a=b) (h1:c=a):c<=b:=by subst_vars;exact aq c
theorem Wc (h0:a=b) (h1:c<=a) (h2:c≥b):b=c:=cC h2 (h0▸h1)
theorem W_ (h0:a<=13+b) (h1:c<=10*a):c<10*(b+15):=aB (ab h1 (cZ 10 h0)) (Nat.mul_lt_mul_of_pos_left (iM 13 b▸l9 (by decide) b) (by decide))
theorem W7 (h0:a+b<=c) (h1:d=a):d<=c:=ab (bd h1) (ab (b5 a b) h0)
theorem W6 (h0:a - b<=c+1) (h1:b<=d):a - (d+1)<=c:=ab (Nat.sub_le_sub_left (aY h1) a) (Nat.pred_le_pred h0)
theorem VZ (h0:a - b<=c+1) (h1:d<a):d - b<=c:=ab (Nat.sub_le_sub_right (nc h1) b) (ab (bd (Nat.sub_right_comm a 1 b)) (Nat.pred_le_pred h0))
theorem VY (h0:a<18) (h1:b=a) (h2:c<=b) (h3:c=d):d<18:=aB (h3▸h2) (h1▸h0)
theorem VX (h0:a<64) (h1:b<=0+c) (h2:d=a) (h3:c<=d):b<=64:=bj (aB (ab h1 (ab (bd (iN c)) (ab h3 (bd h2)))) h0)
theorem VW (h0:a=b) (h1:a<b):c=d:=ul (motive:=λ{a}=>a<b->c=d) (λh1=>False.elim (b7 b h1)) (kI h0) h1
theorem VV (h0:a=b) (h1:b+1<=a):c=d+1:=ul (motive:=λ{a}=>b+1<=a->c=d+1) (λh1=>False.elim (b7 b h1)) (kI h0) h1
theorem VU (h0:a+b<=c) (h1:d=a) (h2:e=b):d+e<=c:=ul (motive:=λ{a}=>a+b<=c->d+e<=c) (λh0=>ul (motive:=λ{b}=>d+b<=c->d+e<=c) (λh0=>h0) h2 h0) h1 h0
theorem VT (h0:a+b<=c) (h1:d=a) (h2:e=b):d+e<=c+1:=ul (motive:=λ{a}=>a+b<=c->d+e<=c+1) (λh0=>ul (motive:=λ{b}=>d+b<=c->d+e<=c+1) (λh0=>bP h0) h2 h0) h1 h0
theorem VS (h0:a=b) (h1:a<c) (h2:d=e) (h3:c<=d):b<e:=aP (h0▸h1) (h2▸h3)
theorem VR (h0:a=b) (h1:b<=c) (h2:c<a):d=e:=absurd (aB h1 h2) (h0▸b7 a)
theorem VQ (h0:a=b) (h1:c<b+1) (h2:a<c):d=e+1:=absurd (aB (bF h1) (h0▸h2)) (b7 c)
theorem VL (h:a<=9) (hk:b<=10*n):a+(1+b)<=10*(n+1):=
 ab (cj h (bb hk 1)) (bd (by rw[←i9,t7,iM]))
theorem VK (hm:m=7/\n<=4∨m=31/\n<=18) (h:m*3<=(n+1)*5) (hn:n<18):n=4:=by
 rcases hm with⟨e,h2⟩|⟨e,h2⟩
 ·subst e;exact(Nat.lt_or_eq_of_le h2).resolve_left λh3=>absurd (ab h (pX 5 (show n+1<=4 from h3))) (by decide)
 ·subst e;exact absurd (ab h (pX 5 (show n+1<=18 from hn))) (by decide)
theorem Ql (hm:m=7/\n<=4∨m=31/\n<=18):n<m:=by
 rcases hm with⟨e,h2⟩|⟨e,h2⟩
 ·exact e▸aB h2 (by decide)
 ·exact e▸aB h2 (by decide)
theorem xL (h:n<2^62):(n:Int)<2^63:=cN (Int.ofNat_lt.mpr h) (by decide)
theorem t8 (h:n<=k) (hk:k<2^62:=by decide):(n:Int)<2^63:=xL (aB h hk)
theorem VH (h:a<=b+c) (k:b<=d+1):a<=d+(c+1):=ab h (ab (dO k c) (bd (by rw[i9,iM 1])))
end
section
variable {a b c d e f p p' p1 p2 q q' r r' t v x y z z1 z2:Int}
theorem WX (h0:a=b) (h1:b<a):False:=ec b (cw h1 (dE h0))
theorem abg (h0:0<=a) (h1:a<3):a=0∨a=1∨a=2:=by lia
theorem abf (h0:0<=a) (h1:a<4):a=0∨a=1∨a=2∨a=3:=by lia
theorem abe (h0:1<=a):(↑((a - 1).toNat+1):Int)=a:=(congrArg (·+1) (gr (fY h0))).trans (lR a 1)
theorem abc:¬a+1<a:=Int.not_lt.mpr (dF (bu (a+1)))
theorem abb:¬a+1=a:=λe=>tc (eC a) e.symm
theorem aba:¬a+1<=a:=Int.not_lt.mpr (kJ (bu (a+1)))
theorem aa_:¬a<=a - 1:=xM.2 (fZ (bu a))
theorem aa9 (h0:0<=a) (h1:a<5):b<=b+a/\b+a<b+5:=⟨fw h0,qT h1 b⟩
theorem aa8 (h0:0<=a):b - a<=b+a:=aX (w5 b h0) (fw h0)
theorem aa7 (h0:a=b - 1) (h1:b<=a):False:=ec b (bW h1 (bW (dE h0) (fZ (bu b))))
theorem aa6 (h0:a<=b):a+(↑(b - a).toNat:Int)=b:=(congrArg (a+·) (gr (fY h0))).trans (by rw[gY,lR])
theorem aa5 (h0:¬a<b) (h1:a≠b):b<a:=Int.lt_iff_le_and_ne.2 ⟨xN.1 h0,λe=>h1 e.symm⟩
theorem aa3:a<=b - 1↔¬b<=a:=⟨λh=>xM.2 (FC h),λh=>pY (xM.1 h)⟩
theorem aa2 (h0:a+1<b) (h1:c<=a):c<b:=bW h1 (cN (eC a) h0)
theorem aa1 (h0:a+1<b):min a c+1<b:=bW (FE (pc a c) 1) h0
theorem aa0 (h0:a+1<=b) (h1:b+1<c):¬c<=a - 1:=λh=>ec a (cw (eC a) (aX h0 (aX (dF (cN (eC b) h1)) (aX h (dF (fZ (bu a)))))))
theorem aaZ (h0:a=b - 1) (h1:c<=b) (h2:a+1<c):False:=ec b (bW (dE ((lR b 1).symm.trans (congrArg (·+1) h0.symm))) (cw h2 h1))
theorem aaY (h0:a<=b - 1) (h1:b+1<=c):a+1<c:=bW (xO h0) (cw (eC b) h1)
theorem aaX (h0:a<=b/\b<a+5) (h1:a<=c/\c<a+5):c - b<1000000:=by lia
theorem aaW (h0:a<=b) (h1:a=max a (c+1)/\min b (c - 1)=b):False:=ec c (cw (eC c) (aX (aX (nM a (c+1)) (dE h1.1.symm)) (aX h0 (aX (aX (dE h1.2.symm) (kr b (c-1))) (dF (fZ (bu c)))))))
theorem aaU (h0:a<=b) (h1:b<c):(b - a).toNat<(c - a).toNat:=(Int.toNat_lt_toNat (Int.sub_pos_of_lt (bW h0 h1))).2 (FF h1 a)
theorem aaT (h0:a<=min b c):a<=b:=aX h0 (pc b c)
theorem aaS (h0:a<=min b c):a<=c:=aX h0 (kr b c)
theorem aaR (h0:max a b<=c):a<=c:=aX (Int.le_max_left a b) h0
theorem aaQ (h0:max a b<=c):b<=c:=aX (nM a b) h0
theorem aaP (h0:max a b<=min c b):a<=b:=aX (aX (Int.le_max_left a b) h0) (kr c b)
theorem aaO (h0:max a b<=min c b):b<=c:=aX (aX (nM a b) h0) (pc c b)
theorem aaN (h0:¬a<=b):¬a<=min c b:=λh=>h0 (aX h (kr c b))
theorem Xy (h0:¬a<=b):¬max c a<=b:=λh=>h0 (aX (nM c a) h)
theorem Xx (h0:¬max a b<=min c b) (h1:¬c<b):¬a<=b:=λh=>h0 (xP.2 ⟨rY.2 ⟨aX h (xN.1 h1),h⟩,rY.2 ⟨xN.1 h1,bu b⟩⟩)
theorem Xw (h0:a=b - 1) (h1:b<=c) (h2:c+1<d) (h3:d<=a):False:=ec b (bW (aX h1 (dF (cN (eC c) h2))) (bW h3 (bW (dE h0) (fZ (bu b)))))
theorem Xv (h0:a<=b) (h1:b+1<c) (h2:c<=d):a<=d:=aX h0 (aX (dF (cN (eC b) h1)) h2)
theorem Xu (h0:a<=b) (h1:¬c<=b+1) (h2:d+1<a):d+1<c:=cN (cw h2 h0) (cN (eC b) (xM.1 h1))
theorem Xs (h0:a+1<b) (h1:b<=c) (h2:max d e=max b e/\a=c):False:=ec a (cN (eC a) (cw h0 (aX h1 (dE h2.2.symm))))
theorem Xr (h0:a<=b) (h1:b+1<c) (h2:a=c/\min b d=min e d):False:=ec b (cw (cN (eC b) h1) (aX (dE h2.1.symm) h0))
theorem Xp (h0:a+1<b) (h1:b<=c) (h2:d=max b e/\min a f=c):False:=ec a (cN (eC a) (cw h0 (aX h1 (aX (dE h2.2.symm) (pc a f)))))
theorem Xq (h0:a<=b) (h1:c<=d) (h2:max a (e+1)=c) (h3:b=min d (e - 1)):b=e - 1/\c=e+1:=
 have k:e - 1<=e+1:=aX (w5 e (by decide)) (fw (by decide));have hc:c=e+1:=h2.symm.trans (nN (aX h0 (aX (h3▸kr ..) k)))
 ⟨h3.trans (uC (aX k (hc▸h1))),hc⟩
theorem FG (h:a<=x) (k:x<=y) (l:y+1<z):a+2<=z:=
 aX (FE (aX h k) 2) (nr y 1 1▸FH l)
theorem Qm (h0:a<=p) (k1:p<=p') (h1:p'+1<q) (k2:q<=q') (h2:q'+1<r) (k3:r<=r') (h3:r'+1<t):¬t<a+6:=by
 have:=FG (FG (FG h0 k1 h1) k2 h2) k3 h3;rw[nr,nr]at this;exact Int.not_lt.mpr this
theorem FI (h:b+1<v) (k:a<=b):a<=v:=aX k (dF (cN (eC b) h))
end
theorem VC {a b:Nat} {c:Int} (h0:a=b) (h1:¬c.toNat<=a):b<=c.toNat:=bj (Nat.lt_of_not_le (h0▸h1))
theorem Xo {a b:Int} {c:Nat} (h0:a<=b):b - a+1+(↑c:Int)=(↑((b+1 - a).toNat+c):Int):=by lia
theorem Xl {a:Int} {b:Nat} (h0:0<=a/\a<(↑b:Int)):a.toNat<b/\(0<=a->a.toNat=a.toNat):=⟨(De h0.1).2 h0.2,λ_=>rfl⟩
theorem Xk {a:Int} {b:Nat} (h0:a<6) (h1:1+a=(↑b:Int)):b<=6:=Int.ofNat_le.1 (h1▸gY a 1▸FH h0)
theorem X6 {a:Nat} {b:Int} (h0:(↑a:Int)<b):-b<=(↑a:Int):=aX (Int.neg_nonpos_of_nonneg (dF (bW (dJ a) h0))) (dJ a)
theorem X5 {a:Nat} {b:Int} (h0:a<6):b - 1<=b+(↑a:Int) - 1/\b+(↑a:Int) - 1<b - 1+6:=by lia
theorem X4 {a:Nat} {b c:Int} (h0:a<(b - c).toNat):c<=c+(↑a:Int)/\c+(↑a:Int)<b:=⟨fw (dJ a),zV (Int.lt_toNat.1 h0)⟩
theorem X3 {a:Nat} {b c:Int}:a+(b - c).toNat - a=(b - c).toNat:=Fj a (b - c).toNat
theorem X2 {a:Nat} {b c:Int}:a<=a+(b - c).toNat:=b5 a (b - c).toNat
theorem X0 {a:Nat} {b c:Int} {d:Nat} (h0:a+(b - c).toNat<d):a+1<=d:=aB (b5 a _) h0
theorem WZ {a:Nat} {b c:Int} {d:Nat} (h0:a+(b - c).toNat<d):a<=d:=bj (aB (b5 a _) h0)
theorem Wz {a b:Nat} {c:Int} (h0:a<b):c+(↑a:Int)<c+(↑b:Int):=qT (jM.2 h0) c
theorem Wy {a b:Nat} {c:Int} (h0:a=b) (h1:0<=c+(↑b:Int)/\c+(↑b:Int)<(↑b:Int)):-(↑a:Int)<=c:=by lia
theorem Xn {a b:Int} {c d:Nat} (h0:a<=b/\b<a+(↑c:Int)) (h1:d<=(a+(↑c:Int) - b - 1).toNat):d+1<=c:=by
 rw[Int.sub_sub]at h1;have h:=xO ((Int.le_toNat (fY h0.2)).mp h1);exact Int.ofNat_le.mp (Int.le_of_add_le_add_right (b:=a) (aX (Int.add_le_add_left h0.1 ((d:Int)+1)) (by rw[nr,gY 1 b,gY (c:Int) a];exact h)))
theorem Xm {a:Int} {b:Nat} (h0:0<=a+(↑b:Int)/\a+(↑b:Int)<(↑b:Int)):(a+(↑b:Int)).toNat<b/\(0<=a->(a+(↑b:Int)).toNat=a.toNat):=
 ⟨(De h0.1).mpr h0.2,λh=>absurd h0.2 (Int.not_lt.mpr (Int.le_add_of_nonneg_left h))⟩
theorem VM {a v w:Int} {m:Nat} (h:v<w) (h3:v<a+m) (h2:w<a+m):v+1<=w/\w<v+1+((a+m - v - 1).toNat:Int):=by
 rw[Int.sub_sub,gr (fY h3),show v+1+(a+m - (v+1))=a+m by rw[gY,lR]];exact⟨h,h2⟩
theorem VJ (a b:Int):(if a<b then b - a else 0)=((b - a).toNat:Int):=by
 split
 ·rename_i h;exact(gr (fY (dF h))).symm
 ·rename_i h;rw[Int.toNat_of_nonpos (Int.sub_nonpos_of_le (Int.not_lt.mp h))];rfl
theorem VG (m i:Nat):(if i+9<=m then i+9 else i) - i<=9:=by
 split
 ·rw[nO];exact aq _
 ·rw[gZ];exact aL _
theorem VF (m i:Nat):0<(if i+9<=m then i+9 else i)+1 - i:=by
 split
 ·exact Nat.sub_pos_of_lt (d9 (b5 ..))
 ·exact Nat.sub_pos_of_lt (bV _)
theorem Np {w:eQ} {cl:Str->Option Addr} {h:Heap} {args:List WData} {vals:List Value} {as:List Addr} (M3:(PySem.Challenge.rw_qd0018_01.row.toRowW).claim.pre args=true) (RN:WData.layableAll args=true)
 (ZE:ReadsAllW (PySem.Challenge.rw_qd0018_01.row.toRowW).records cl h vals args as) (SX:WellAll w.params h vals args) (P7:∀a∈as,(a==pZ)=false):∃a vs xs,vals=[.ref a]/\h.IsList a (oB vs)/\gO vs xs/\xs.length<=63:=by
 have fin:∀{a:Addr} {vs:List Value} {xs:List Int},h.IsList a (oB vs)->gO vs xs->¬((63:Nat):Int)<(xs.length:Int)->∃a' vs xs,[dK a]=[.ref a']/\h.IsList a' (oB vs)/\gO vs xs/\xs.length<=63:=λh1 h2 h3=>(xK _ _ _ rfl h1 h2 (Int.ofNat_le.mp (Int.le_of_not_gt h3)))
 wrow_args M3 RN ZE SX P7
 all_goals exact fin (by assumption) (by assumption) (by assumption)
variable {o:a_} {a:Addr} {A:du} {B:Bs} {env:pU} {e:Expr} {k:Kd} {H:List a_} {μ μ':List Addr} {ds:List PyData} {vs:List Value} {P:List Value->List PyData->Prop} {i n:Nat} {ρ:fF} {s s' LN:aD} {x:Str} {Q Q':V->List a_->Prop} {c v:Value} {R:Value->aD->Prop}
inductive V where
 |dat (d:PyData)
 |loc (i:Nat)
 |inst (C:Nat) (i:Nat)
 |m_ (kvs:List (Int×PyData))
 |Jz (xs:List PyData)
 |raw (v:Value)
 |fz (P:Program->eQ->List Addr->Heap->Value->Prop)
inductive a_ where
 |list (xs:List PyData)
 |m_ (kvs:List (Int×PyData))
 |IJ (kvs:List (Str×PyData))
 |inst (fs:List (Str×V))
mutual
inductive Rp (W:List Addr) (h:Heap):Value->PyData->Prop
 |none:Rp W h .none .none
 |bool (b):Rp W h (.bool b) (.bool b)
 |int (i t):Rp W h (.int i t) (.int i)
 |str (x t):Rp W h (.str x t) (.str x)
 |list {a vs n xs:_}:a∉W->h.get? a=IC {cls:=.type "list",data:=.seq vs n}->n_ W h vs.toList xs->Rp W h (.ref a) (.list xs)
 |tuple {a o vs n xs:_}:a∉W->h.get? a=IC o->o.cls=.type "tuple"->o.data=.seq vs n->n_ W h vs.toList xs->Rp W h (.ref a) (.tuple xs)
inductive n_ (W:List Addr) (h:Heap):List Value->List PyData->Prop
 |nil:n_ W h [] []
 |cons {v vs d ds:_}:Rp W h v d->n_ W h vs ds->n_ W h (v::vs) (d::ds)
end
variable {W W':List Addr} {h h':Heap}
def hV (X:List Addr) (h h':Heap):Prop:=∀b o,b∉X->h.get? b=IC o->h'.get? b=IC o
def v_ (h:Heap) (W W':List Addr):Prop:=∀a,a∈W'->a∉W->h.get? a=ID
theorem v_.out {o:Obj} (f:v_ h W W') (ha:a∉W) (ho:h.get? a=IC o):a∉W':=λhm=>by
 rw[f a hm ha]at ho;exact ft ho
theorem n_.ind (x:n_ W h vs ds) (n:P [] []) (c:∀v vs d ds,Rp W h v d->P vs ds->P (v::vs) (d::ds)):P vs ds:=
 n_.rec (motive_1:=λ_ _ _=>True) (motive_2:=λa b _=>P a b) ⟨⟩ (λ_=>⟨⟩) (λ_ _=>⟨⟩) (λ_ _=>⟨⟩) (λ_ _ _ _=>⟨⟩) (λ_ _ _ _ _ _=>⟨⟩) n (λa _ _ r=>c _ _ _ _ a r) x
theorem Rp.mono (k:hV W h h') (f:v_ h W W') {d:PyData} (x:Rp W h v d):Rp W' h' v d:=
 Rp.rec (motive_1:=λv d _=>Rp W' h' v d) (motive_2:=λa b _=>n_ W' h' a b) .none .bool .int .str (λha ho _ r=>.list (f.out ha ho) (k _ _ ha ho) r) (λha ho hc hd _ r=>.tuple (f.out ha ho) (k _ _ ha ho) hc hd r) .nil (λ_ _ a r=>.cons a r) x
theorem n_.mono (k:hV W h h') (f:v_ h W W') (x:n_ W h vs ds):n_ W' h' vs ds:=
 x.ind .nil λ_ _ _ _ a r=>.cons (a.mono k f) r
theorem n_.length (x:n_ W h vs ds):vs.length=ds.length:=
 x.ind (P:=λvs ds=>vs.length=ds.length) rfl λ_ _ _ _ _ r=>congrArg (·+1) r
theorem n_.get (x:n_ W h vs ds) {d:PyData}:ds[i]?=IC d->∃v,vs[i]?=IC v/\Rp W h v d:=
 x.ind (P:=λvs ds=>∀i,ds[i]?=IC d->∃v,vs[i]?=IC v/\Rp W h v d) (λ_=>ft) (λv _ _ _ a r i=>i.casesOn (λe=>⟨v,rfl,bS e▸a⟩) r) i
theorem n_.nth (x:n_ W h vs ds):vs[i]?=IC v->∃d,ds[i]?=IC d/\Rp W h v d:=
 x.ind (P:=λvs ds=>∀i,vs[i]?=IC v->∃d,ds[i]?=IC d/\Rp W h v d) (λ_=>ft) (λ_ _ d _ a r i=>i.casesOn (λe=>⟨d,rfl,bS e▸a⟩) r) i
def XB (W:List Addr) (h:Heap) (vs:List Value) (ds:List PyData):Prop:=ds.casesOn (vs=[]) λd ds=>∃v QI,vs=v::QI/\Rp W h v d/\n_ W h QI ds
theorem n_.inv (x:n_ W h vs ds):XB W h vs ds:=x.casesOn (motive_2:=λvs ds _=>XB W h vs ds) rfl λa r=>⟨_,_,rfl,a,r⟩
theorem n_.Ld {d:PyData} (x:n_ W h (v::vs) (d::ds)):Rp W h v d/\n_ W h vs ds:=x.inv.elim λ_ x=>x.elim λ_ x=>⟨(cD x.1).1▸x.2.1,(cD x.1).2▸x.2.2⟩
theorem n_.append {QI:List Value} {M_:List PyData} (x:n_ W h vs ds) (y:n_ W h QI M_):n_ W h (vs++QI) (ds++M_):=
 x.ind (P:=λvs ds=>n_ W h (vs++QI) (ds++M_)) y λ_ _ _ _ a r=>.cons a r
theorem n_.snoc {vs ds v d} (r:n_ W h vs ds) (a:Rp W h v d):n_ W h (vs++[v]) (ds++[d]):=r.append (.cons a .nil)
theorem n_.set (x:n_ W h vs ds) {d:PyData} (y:Rp W h v d):n_ W h (vs.set i v) (ds.set i d):=
 (x.ind (P:=λvs ds=>n_ W h vs ds/\∀i,n_ W h (vs.set i v) (ds.set i d)) ⟨.nil,λ_=>.nil⟩ λ_ _ _ _ a r=>⟨.cons a r.1,λi=>i.casesOn (.cons y r.1) λj=>.cons a (r.2 j)⟩).2 i
theorem n_.take (x:n_ W h vs ds) (n:Nat):n_ W h (vs.take n) (ds.take n):=
 x.ind (P:=λvs ds=>∀n,n_ W h (vs.take n) (ds.take n)) (λn=>n.casesOn .nil λ_=>.nil) (λ_ _ _ _ a r n=>n.casesOn .nil λm=>.cons a (r m)) n
theorem n_.drop (x:n_ W h vs ds) (n:Nat):n_ W h (vs.drop n) (ds.drop n):=
 (x.ind (P:=λvs ds=>n_ W h vs ds/\∀n,n_ W h (vs.drop n) (ds.drop n)) ⟨.nil,λn=>n.casesOn .nil λ_=>.nil⟩ λ_ _ _ _ a r=>⟨.cons a r.1,λn=>n.casesOn (.cons a r.1) λm=>r.2 m⟩).2 n
theorem Rp.reads {d:PyData} (x:Rp W h v d):∃as,Reads h v d as:=
 Rp.rec (motive_1:=λv d _=>∃as,Reads h v d as) (motive_2:=λa b _=>∃as,ReadsAll h a b as) ⟨_,.none⟩ (λb=>⟨_,.bool b⟩) (λi t=>⟨_,.int i t⟩) (λx t=>⟨_,.str x t⟩) (λ_ ho _ r=>r.elim λ_ q=>⟨_,.list ho rfl rfl q⟩) (λ_ ho hc hd _ r=>r.elim λ_ q=>⟨_,.tuple ho hc hd q⟩) ⟨_,.nil⟩ (λ_ _ p q=>p.elim λ_ p=>q.elim λ_ q=>⟨_,.cons p q⟩) x
theorem n_.reads (x:n_ W h vs ds):∃as,ReadsAll h vs ds as:=
 x.ind (P:=λvs ds=>∃as,ReadsAll h vs ds as) ⟨_,.nil⟩ λ_ _ _ _ a r=>a.reads.elim λ_ p=>r.elim λ_ q=>⟨_,.cons p q⟩
structure Bs where
 prog:Program
 w:eQ
 K:Frag
 mg:Str->Option Value
 mb:Str->Option Value
 s₁:aD
 KH:K.In s₁.heap
 nolimit:s₁.heap.NoLimit
 g:s₁.heap.Ns eZ mg
 b:s₁.heap.Ns jN mb
variable (B:Bs)
noncomputable abbrev Bs.M:Model:=bX B.prog B.w
def l_ (μ W:List Addr) (h:Heap) (v:V) (c:Value):Prop:=
 match v with
 |.dat d=>Rp W h c d
 |.loc i=>∃a,μ[i]?=IC a/\c=.ref a
 |.inst C i=>∃a dx,c=.ref a/\a∉W/\μ[i]?=IC dx/\h.get? a=IC (sE C dx)
 |.m_ kvs=>∃(a:Addr) (cvs:List (Int×Value)),c=.ref a/\a∉W/\B.s₁.heap.objs.size<=a/\uD (intKind B.prog B.w) h a cvs/\cvs.map (·.1)=kvs.map (·.1)/\n_ W h (cvs.map (·.2)) (kvs.map (·.2))
 |.Jz xs=>∃a items,c=.ref a/\a∉W/\h.IsList a items/\n_ W h items.toList xs
 |.raw x=>c=x
 |.fz P=>∀W' h',hV W h h'->v_ h W W'->P B.prog B.w W' h' c
inductive Jr (μ W:List Addr) (h:Heap):List DictEntry->List (Str×V)->Prop
 |nil:Jr μ W h [] []
 |cons {e es x t v fs:_}:e.key=.str x t->l_ B μ W h v e.val->Jr μ W h es fs->Jr μ W h (e::es) ((x,v)::fs)
def Jq (μ W:List Addr) (h:Heap) (a:Addr) (o:a_):Prop:=
 match o with
 |.list xs=>∃items,h.PlainList a items/\n_ W h items.toList xs
 |.m_ kvs=>∃cvs:List (Int×Value),uD (intKind B.prog B.w) h a cvs/\cvs.map (·.1)=kvs.map (·.1)/\n_ W h (cvs.map (·.2)) (kvs.map (·.2))
 |.IJ kvs=>∃cvs:List (Str×Value),uD (strKind B.prog B.w) h a cvs/\cvs.map (·.1)=kvs.map (·.1)/\n_ W h (cvs.map (·.2)) (kvs.map (·.2))
 |.inst fs=>∃es n,h.get? a=IC (Df es n)/\Jr B μ W h es fs
variable {B}
def Pre (μ μ':List Addr):Prop:=∃ν,μ'=μ++ν
theorem Pre.refl:Pre μ μ:=⟨[],kI (dh μ)⟩
theorem Pre.trans {a b c:List Addr} (x:Pre a b) (y:Pre b c):Pre a c:=by refine bm x λp f_=>?_;obtain rfl:=f_;refine bm y λq k_=>?_;obtain rfl:=k_;exact⟨p++q,dv a p q⟩
theorem Pre.get (x:Pre μ μ') (e:μ[i]?=IC a):μ'[i]?=IC a:=by
 refine gc μ' x λp=>?_;rw[b8];exact e;exact(List.getElem?_eq_some_iff.mp e).1
theorem Pre.mem (x:Pre μ μ') (e:a∈μ):a∈μ':=by refine gc μ' x λp=>?_;exact az _ e
theorem DictOf.at {K:Type} [DecidableEq K] {prog:Program} {w:eQ} {knd:PySem.KeyKind prog w K} {h h':Heap} {kvs:List (K×Value)} (x:h.DictOf knd a kvs) (hk:∀o,h.get? a=IC o->h'.get? a=IC o):h'.DictOf knd a kvs:=x.at hk
theorem l_.mono (k:hV W h h') (f:v_ h W W') (p:Pre μ μ') {v:V} (x:l_ B μ W h v c):l_ B μ' W' h' v c:=by
 cases v with
 |dat d=>exact Rp.mono k f x
 |loc i=>refine aG x λa e r=>?_;exact(aN a (p.get e) r)
 |inst C i=>refine jU c x λa dx ha e o=>?_;exact(pv a dx rfl (f.out ha o) (p.get e) (k _ _ ha o))
 |m_ kvs=>
  exact Ad c x λa cvs ha RM d e r=>aG (Heap.dictOf_iff.mp d:_) λo ho Z=>(sZ a cvs rfl (f.out ha ho) RM (DictOf.at d (λo e=>k _ _ ha e)) e (r.mono k f))
 |Jz xs=>refine jU c x λa items ha l r=>?_;refine aG (id l:_) λo ho Z=>?_;exact(pv a items rfl (f.out ha ho) (l.at λo e=>k _ _ ha e) (r.mono k f))
 |raw y=>exact x
 |fz P=>
  intro W2 h2 k2 f2;refine x W2 h2 (λb o hb e=>k2 b o (f.out hb e) (k b o hb e)) λa h1 h0=>?_
  cases hh:h.get? a with
  |none=>rfl
  |some o=>
   have hn:=f2 a h1 (f.out h0 hh);rw[k a o h0 hh]at hn;exact v8 hn
theorem Jr.mono (k:hV W h h') (f:v_ h W W') (p:Pre μ μ') {es:List DictEntry} {fs:List (Str×V)} (x:Jr B μ W h es fs):Jr B μ' W' h' es fs:=
 x.rec (motive:=λes fs _=>Jr B μ' W' h' es fs) .nil λa b _ r=>.cons a (b.mono k f p) r
theorem Jq.mono (k:hV W h h') (ka:∀o,h.get? a=IC o->h'.get? a=IC o) (f:v_ h W W') (p:Pre μ μ') (x:Jq B μ W h a o):Jq B μ' W' h' a o:=by
 cases o with
 |list xs=>refine aG x λitems l r=>?_;exact(aN items (l.at ka) (r.mono k f))
 |m_ kvs=>refine cP x λcvs d e r=>?_;exact(bA cvs (DictOf.at d ka) e (r.mono k f))
 |IJ kvs=>refine cP x λcvs d e r=>?_;exact(bA cvs (DictOf.at d ka) e (r.mono k f))
 |inst fs=>
  exact gV x λes n o q=>(ie es n (ka _ o) (q.mono k f p))
theorem Jq.some (x:Jq B μ W h a o):∃c,h.get? a=IC c:=by
 cases o with
 |list xs=>refine aG x λitems IY r=>?_;refine bm IY λo e=>?_;exact⟨_,e⟩
 |m_ kvs=>refine cP x λcvs d e r=>?_;refine aG (Heap.dictOf_iff.mp d:_) λo e Z=>?_;exact⟨o,e⟩
 |IJ kvs=>refine cP x λcvs d e r=>?_;refine aG (Heap.dictOf_iff.mp d:_) λo e Z=>?_;exact⟨o,e⟩
 |inst fs=>refine gV x λes n o q=>?_;exact⟨_,o⟩
inductive Kd where
 |loc
 |cell
 |glob
 |sup
noncomputable abbrev fF:=List (Str×Kd×Option V)
def xQ (B:Bs) (x:Str) (c:Value):Prop:=B.mg x=IC c∨(B.mg x=ID/\B.mb x=IC c)
noncomputable def dz (env:pU):List (Str×Addr):=env.cells.filter λc=>decide (c.1≠bR)
theorem uE {α:Type} {k:Str} {a:α} {l:List (Str×α)}:(l.filter λc=>decide (c.1≠k)).lookup x=IC a->l.lookup x=IC a:=by
 induction l with
 |nil=>exact id
 |cons c l ih=>
  refine ah _ (gu ..) (ah _ (nJ ..) ?_)
  split
  ·refine ah _ (nJ ..) ?_
   cases x==c.1 with
   |false=>exact ih
   |true=>exact id
  ·rename_i hy
   intro h
   cases e:x==c.1 with
   |false=>exact ih h
   |true=>
    have hx:x=k:=(beq_iff_eq.mp e).trans (Decidable.not_not.mp λq=>hy (decide_eq_true q));exact absurd (of_decide_eq_true (List.mem_filter.mp (cB (hx▸h))).2) (λq=>q rfl)
theorem lq (h:(dz env).lookup x=IC a):env.cells.lookup x=IC a:=uE h
theorem xR (h:∀a,(bR,a)∉env.cells):dz env=env.cells:=by
 refine List.filter_eq_self.mpr λc hc=>decide_eq_true λe=>h c.2 (e▸hc)
structure FJ (B:Bs) (fd:FuncData):Prop where
 sup:fd.scope.names.lookup (am "super")=IC .globalImplicit
 cls:fd.scope.names.lookup bR=IC .free
 self:∃ar,(fd.params.posonlyargs++fd.params.args).head?=IC ar/\ar.arg=am "self"
 file:∃cc oc vs file tf,fd.code=.ref cc/\B.K.lookup cc=IC oc/\oc.data=.fields vs/\vs[2]?=IC (.str file tf)/\(B.prog.main.file==file)=true
 top:(B.prog.main.scope.names.lookup (am "super")).isSome=false
def FK (B:Bs) (env:pU) (v:Option V):Prop:=∃fa oc od fd MX ca cl Te Td C,v=IC (.raw (.ref C))/\env.func=IC fa/\B.K.lookup fa=IC ⟨oc,od,.func fd,MX⟩/\env.code=fd.code/\env.scope=fd.scope/\FJ B fd/\
 env.cells.lookup bR=IC ca/\B.K.lookup ca=IC ⟨cl,Te,.cell (IC (.ref C)),Td⟩
def JL (B:Bs) (μ W:List Addr) (h:Heap) (env:pU) (x:Str) (e:Kd×Option V):Prop:=
 (e.1=.loc/\env.kindOf x=IC .local/\∀v,e.2=IC v->∃m c,h.Ns env.locals m/\m x=IC c/\l_ B μ W h v c)∨
 (e.1=.cell/\env.kindOf x=IC .cell/\∃a oc,(dz env).lookup x=IC a/\h.IsCell a oc/\∀v,e.2=IC v->∃c,oc=IC c/\l_ B μ W h v c)∨
 (e.1=.glob/\env.kindOf x=IC .globalImplicit/\∃c,e.2=IC (.raw c)/\xQ B x c)∨
 (e.1=.sup/\FK B env e.2)
structure Mp (B:Bs) (μ W:List Addr) (h:Heap) (env:pU):Prop where
 kind:env.scope.kind=.function
 glob:env.globals=eZ
 LR:env.builtins=jN
 loc:∃m,h.Ns env.locals m
 Kg:env.locals∈W
 Jv:env.locals∉μ
 cells:∀n a,(n,a)∈(dz env)->a∈W/\a∉μ/\a≠env.locals/\(∃oc,h.IsCell a oc)
 apart:(dz env).Pairwise λx y=>x.2≠y.2
 above:B.s₁.heap.objs.size<=env.locals
structure Inv (B:Bs) (env:pU) (ρ:fF) (H:List a_) (μ W:List Addr) (s:aD):Prop where
 same:s.gens=B.s₁.gens/\s.os=B.s₁.os
 old:∀b o,B.s₁.heap.get? b=IC o->s.heap.get? b=IC o
 IE:∀a,a∈W->B.s₁.heap.objs.size<=a
 alive:∀a,a∈W->∃o,s.heap.get? a=IC o
 o_:∀a,a∈μ->a∈W
 IM:μ.Nodup
 len:μ.length=H.length
 objs:∀(i:Nat) a o,μ[i]?=IC a->H[i]?=IC o->Jq B μ W s.heap a o
 q_:Mp B μ W s.heap env
 nd:(ρ.map (·.1)).Nodup
 vars:∀x ov,(x,ov)∈ρ->JL B μ W s.heap env x ov
structure Ext (own:List Addr) (μ W:List Addr) (s:aD) (μ' W':List Addr) (s':aD):Prop where
 keep:hV (μ++own) s.heap s'.heap
 pre:Pre μ μ'
 sub:∀a,a∈W->a∈W'
 fresh:v_ s.heap W W'
 IW:∀a,a∈μ'->a∉μ->a∉W/\s.heap.get? a=ID
theorem Ext.refl {own W:List Addr}:Ext own μ W s μ W s:=⟨λZ Z Z e=>e,.refl,λZ e=>e,λZ a b=>absurd a b,λZ a b=>absurd a b⟩
def Good (n:Nat) (A:du):Prop:=A.handled=ID/\A.depth+20*n+20<recursionLimit/\A.units+200*n+200<cLine
def A_ (B:Bs) (env:pU) (ρ:fF) (μ W:List Addr) (s:aD) (Q:V->List a_->Prop) (c:Value) (s':aD):Prop:=
 ∃v H' μ' W',Q v H'/\Inv B env ρ H' μ' W' s'/\Ext [] μ W s μ' W' s'/\l_ B μ' W' s'.heap v c
theorem pE {W:List Addr} {P:Prop} (h:A_ B env ρ μ W s Q c s') (f:∀v H' μ' W',Q v H'->Inv B env ρ H' μ' W' s'->Ext [] μ W s μ' W' s'->l_ B μ' W' s'.heap v c->P):P:=oU h f
theorem pI {W:List Addr} (v:V) (H':List a_) (μ' W':List Addr) (q:Q v H') (I:Inv B env ρ H' μ' W' s') (x:Ext [] μ W s μ' W' s') (r:l_ B μ' W' s'.heap v c):A_ B env ρ μ W s Q c s':=w4 v H' μ' W' q I x r
def Ev (B:Bs) (n:Nat) (e:Expr) (ρ:fF) (H:List a_) (Q:V->List a_->Prop):Prop:=
 ∀A env s μ W,Good n A->Inv B env ρ H μ W s->aC B.M A (dq e env) (A_ B env ρ μ W s Q) (λZ Z=>False) s
theorem Inv.lt {W:List Addr} (I:Inv B env ρ H μ W s):B.s₁.heap.objs.size<s.heap.objs.size:=by
 exact bm I.q_.loc λm hn=>aB I.q_.above hn.lt
theorem Ext.JU {own W W':List Addr} (x:Ext own μ W s μ' W' s') (hm:∀a,a∈μ->a∈W) (ho:∀a,a∈own->a∈W):hV W s.heap s'.heap:=λb o hb e=>x.keep b o (λh=>(List.mem_append.mp h).elim (λq=>hb (hm _ q)) (λq=>hb (ho _ q))) e
theorem Ext.trans {own W W' Kc KT:List Addr} (x:Ext own μ W s μ' W' s') (y:Ext own μ' W' s' Kc KT LN)
 (UP:∀a,a∈μ->a∈W) (N5:∀a,a∈own->a∈W):Ext own μ W s Kc KT LN where
 keep:=λb o hb e=>by
  have ND:b∉μ'++own:=by
   intro h;rcases List.mem_append.mp h with q|q
   ·have hn:b∉μ:=λz=>hb (az _ z);rw[(x.IW b q hn).2]at e;exact ft e
   ·exact hb (aR _ q)
  exact y.keep b o ND (x.keep b o hb e)
 pre:=x.pre.trans y.pre
 sub:=λa h=>y.sub a (x.sub a h)
 fresh:=λa h h'=>by
  by_cases hw:a∈W'
  ·exact x.fresh a hw h'
  ·have e:=y.fresh a h hw
   cases hs:s.heap.get? a with
   |none=>rfl
   |some o=>rw[x.JU UP N5 a o h' hs]at e;exact v8 e
 IW:=λa h h'=>by
  by_cases hw:a∈μ'
  ·exact x.IW a hw h'
  ·refine bh (y.IW a h hw:_) λe1 e=>?_;have e2:a∉W:=λq=>e1 (x.sub a q);refine⟨e2,?_⟩
   cases hs:s.heap.get? a with
   |none=>rfl
   |some o=>rw[x.JU UP N5 a o e2 hs]at e;exact v8 e
theorem Ext.wide {own own' W W':List Addr} (x:Ext own μ W s μ' W' s') (h:∀a,a∈own->a∈own'):Ext own' μ W s μ' W' s':=
 {x with keep:=λb o hb e=>x.keep b o (λq=>hb ((List.mem_append.mp q).elim (az _) (λz=>aR _ (h _ z)))) e}
theorem Mp.mono {W W':List Addr} {h h':Heap} (E:Mp B μ W h env) (sub:∀a,a∈W->a∈W') (IW:∀a,a∈μ'->a∉μ->a∉W)
 (kl:∀o,h.get? env.locals=IC o->h'.get? env.locals=IC o) (kc:∀n a,(n,a)∈(dz env)->∀o,h.get? a=IC o->h'.get? a=IC o):Mp B μ' W' h' env where
 kind:=E.kind
 glob:=E.glob
 LR:=E.LR
 loc:=bm E.loc λm hn=>⟨m,hn.at' kl⟩
 Kg:=sub _ E.Kg
 Jv:=λq=>(IW _ q E.Jv) E.Kg
 cells:=λn a hm=>kn (E.cells n a hm:_) λp q r f_=>gV f_ λoc o ho hd=>(fv (sub _ p) (λz=>IW _ z q p) r (ie oc o (kc n a hm o ho) hd))
 apart:=E.apart
 above:=E.above
theorem JL.mono {W W':List Addr} {h h':Heap} {ov:Kd×Option V} (k:hV W h h') (f:v_ h W W') (p:Pre μ μ')
 (kl:∀o,h.get? env.locals=IC o->h'.get? env.locals=IC o) (kc:∀a,(dz env).lookup x=IC a->∀o,h.get? a=IC o->h'.get? a=IC o)
 (v:JL B μ W h env x ov):JL B μ' W' h' env x ov:=by
 rcases v with⟨f0,a,b⟩|⟨f0,a,b⟩|q
 ·exact .inl ⟨f0,a,λv e=>hU (b v e:_) λm c hn hm r=>(eu m c (hn.at' kl) hm (r.mono k f p))⟩
 ·refine hU b λad oc hl JR hv=>?_;refine aG JR λo ho hd=>?_;exact .inr (.inl (mB f0 a (eu ad oc hl (aN o (kc _ hl o ho) hd) (λv e=>aG (hv v e:_) λc hc r=>(aN c hc (r.mono k f p))))))
 ·exact .inr (.inr q)
theorem Inv.out {W:List Addr} (I:Inv B env ρ H μ W s) (ha:s.heap.objs.size<=a):a∉W:=λh=>by
 refine bm (I.alive a h:_) λo e=>?_;exact absurd (b0 e) (Nat.not_lt.mpr ha)
theorem Inv.go {W W':List Addr} (I:Inv B env ρ H μ W s) (X:List Addr)
 (hs:∃h t,s'={s with heap:=h,toks:=t}) (k:hV X s.heap s'.heap) (hX:∀a,a∈X->a∈W/\a∉μ/\a≠env.locals/\a∉(dz env).map (·.2))
 (sub:∀a,a∈W->a∈W') (f:v_ s.heap W W') (fl:∀a,a∈W'->a∉W->B.s₁.heap.objs.size<=a) (al:∀a,a∈W'->(a∈X∨a∉W)->∃o,s'.heap.get? a=IC o):Inv B env ρ H μ W' s':=by
 have kW:hV W s.heap s'.heap:=λb o hb e=>k b o (λz=>hb (hX b z).1) e;have kl:∀o,s.heap.get? env.locals=IC o->s'.heap.get? env.locals=IC o:=λo e=>k _ o (λz=>(hX _ z).2.2.1 rfl) e;have kc:∀n a,(n,a)∈(dz env)->∀o,s.heap.get? a=IC o->s'.heap.get? a=IC o:=λn a hm o e=>k _ o (λz=>(hX _ z).2.2.2 (aO (f:=(·.2)) hm)) e;exact{
  same:=by refine rX s' hs λh t=>?_;exact I.same
  old:=λb o e=>kW b o (λz=>absurd (b0 e) (Nat.not_lt.mpr (I.IE b z))) (I.old b o e)
  IE:=λa ha=>if h:a∈W then I.IE a h else fl a ha h
  alive:=λa ha=>if h:a∈W then(if hx:a∈X then al a ha (.inl hx)else bm (I.alive a h:_) λo e=>⟨o,k a o hx e⟩)else al a ha (.inr h)
  o_:=λa h=>sub a (I.o_ a h)
  IM:=I.IM
  len:=I.len
  objs:=λi a o h1 h2=>(I.objs i a o h1 h2).mono kW (λo e=>k a o (λz=>(hX a z).2.1 (an h1)) e) f .refl
  q_:=I.q_.mono sub (λa h1 h2=>absurd h1 h2) kl kc
  nd:=I.nd
  vars:=λx ov hm=>(I.vars x ov hm).mono kW f .refl kl λa hl=>kc x a (cB hl)}
theorem Inv.keeps {W:List Addr} (I:Inv B env ρ H μ W s)
 (hs:∃h t,s'={s with heap:=h,toks:=t}) (k:∀b o,s.heap.get? b=IC o->s'.heap.get? b=IC o):Inv B env ρ H μ W s':=
 I.go [] hs (λb o Z e=>k b o e) (λZ h=>de h) (λZ h=>h) (λZ a b=>absurd a b) (λZ a b=>absurd a b) (λZ a b=>b.elim (λq=>de q) (λq=>absurd a q))
theorem Inv.tok {W:List Addr} (I:Inv B env ρ H μ W s) (t:Nat):Inv B env ρ H μ W {s with toks:=t}:=
 I.keeps (cY _ _ rfl) λZ Z e=>e
theorem Ext.keeps {own W:List Addr} (k:∀b o,s.heap.get? b=IC o->s'.heap.get? b=IC o):Ext own μ W s μ W s':=
 {Ext.refl (own:=own) (s:=s)with keep:=λb o Z e=>k b o e,fresh:=λZ a b=>absurd a b,IW:=λZ a b=>absurd a b}
theorem A_.keeps {W:List Addr} {v:V} (I:Inv B env ρ H μ W s)
 (hs:∃h t,s'={s with heap:=h,toks:=t}) (k:∀b o,s.heap.get? b=IC o->s'.heap.get? b=IC o) (r:l_ B μ W s'.heap v c) (q:Q v H):A_ B env ρ μ W s Q c s':=
 (pI v H μ W q (I.keeps hs k) (.keeps k) r)
theorem A_.tok {W:List Addr} {v:V} (I:Inv B env ρ H μ W s) (t:Nat)
 (r:l_ B μ W s.heap v c) (q:Q v H):A_ B env ρ μ W s Q c {s with toks:=t}:=.keeps I (cY _ _ rfl) (λZ Z e=>e) r q
theorem A_.then {W W':List Addr} (I:Inv B env ρ H μ W s)
 (x:Ext [] μ W s μ' W' s') (p:A_ B env ρ μ' W' s' Q c LN):A_ B env ρ μ W s Q c LN:=by
 exact pE p λv H' Kc KT q I' y r=>(pI v H' Kc KT q I' (x.trans y I.o_ (λZ h=>de h)) r)
theorem l_.ext {W W':List Addr} {v:V} (I:Inv B env ρ H μ W s) (x:Ext [] μ W s μ' W' s') (r:l_ B μ W s.heap v c):l_ B μ' W' s'.heap v c:=
 r.mono (x.JU I.o_ λZ h=>de h) x.fresh x.pre
theorem Ev.mono (h:Ev B n e ρ H Q) (hq:∀v H',Q v H'->Q' v H'):Ev B n e ρ H Q':=
 λA env s μ W g I=>aM (h A env s μ W g I) (λZ Z IV=>by refine rV IV λv H' μ' W' q r=>?_;exact(rW v H' μ' W' (hq _ _ q) r)) λZ Z e=>e
theorem Ev.then {W:List Addr} (h:Ev B n e ρ H Q) (g:Good n A) (I:Inv B env ρ H μ W s)
 (k:∀v H' μ' W' c s',Q v H'->Inv B env ρ H' μ' W' s'->Ext [] μ W s μ' W' s'->l_ B μ' W' s'.heap v c->R c s'):aC B.M A (dq e env) R (λZ Z=>False) s:=
  aM (h A env s μ W g I) (λc s' IV=>by refine pE IV λv H' μ' W' q I' x r=>?_;exact k v H' μ' W' c s' q I' x r) λZ Z e=>e
theorem Inv.draw {W:List Addr} (I:Inv B env ρ H μ W s) (d:Drawn):Inv B env ρ H μ W {s with drawn:=d}:=⟨I.same,I.old,I.IE,I.alive,I.o_,I.IM,I.len,I.objs,I.q_,I.nd,I.vars⟩
theorem Ext.draw {own W W':List Addr} (x:Ext own μ W s μ' W' s') (d:Drawn):Ext own μ W s μ' W' {s' with drawn:=d}:=⟨x.keep,x.pre,x.sub,x.fresh,x.IW⟩
theorem A_.draw {W:List Addr} {d:Drawn} (p:A_ B env ρ μ W s Q c {s' with drawn:=s.drawn}):A_ B env ρ μ W s Q c {s' with drawn:=d}:=by
 exact pE p λv H' μ' W' q I x r=>(pI v H' μ' W' q (I.draw d) (x.draw d) r)
theorem qU {W:List Addr} {v:V} (I:Inv B env ρ H μ W s) (LD:k≠.sup) (hx:(x,k,IC v)∈ρ) (q:∀c,l_ B μ W s.heap v c->R c s):aC B.M A (loadName env x) R (λZ Z=>False) s:=by
 rcases I.vars x _ hx with⟨_,hk,hv⟩|⟨_,hk,a,oc,hl,hc,hv⟩|⟨_,hk,c,hc,hg⟩|⟨hk,_⟩
 ·exact hU (hv v rfl:_) λm c hn hm r=>wpAny_loadName_local I.q_.kind hk hn hm (q c r)
 ·refine aG (hv v rfl:_) λc J7 r=>?_;obtain rfl:=J7;exact wpAny_loadName_cell I.q_.kind hk (lq hl) hc (q c r)
 ·cases hc;refine ks_loadName_global I.q_.kind hk ?_;unfold loadGlobal
  (refine ah _ (I.q_.glob ..) ?_;refine ah _ (I.q_.LR ..) ?_)
  refine aa (wpAny_nsGet (B.g.keeps I.old) ?_);rcases hg with hg|⟨hg,hb⟩
  ·refine ah _ hg ?_;exact ai (q c rfl)
  ·refine ah _ hg (aa (wpAny_nsGet (B.b.keeps I.old) ?_));refine ah _ hb ?_;exact ai (q c rfl)
 ·exact absurd hk LD
theorem Ev.name {pos:FL} {v:V} (hd:(x==("__debug__":Str))=false) (LD:k≠.sup) (hx:(x,k,IC v)∈ρ) (q:Q v H):Ev B n (.Name x pos) ρ H Q:=by
 intro A env s μ W g I;refine ah _ (arm_eval_Name ..) (aa (bw ?_));exact ah _ hd (qU I LD hx λc r=>.keeps I (cY _ _ rfl) (λZ Z e=>e) r q)
variable {h h':Heap} {i:Int} {W W':List Addr} {es:List Expr} {xs:List PyData} {cs:List Value} {k t:Nat} {op:Dg} {pos:FL} {P:Value->Value->Prop}
noncomputable abbrev dI (i:Int):V:=.dat (.int i)
noncomputable abbrev dB (b:Bool):V:=.dat (.bool b)
noncomputable abbrev dT (xs:List PyData):V:=.dat (.tuple xs)
noncomputable abbrev dL (xs:List PyData):V:=.dat (.list xs)
noncomputable abbrev dS (x:Str):V:=.dat (.str x)
noncomputable abbrev dN:V:=.dat .none
theorem Ev.int (q:Q (dI i) H):Ev B n (.Constant (.int i) k pos) ρ H Q:=by
 intro A env s μ W g I;exact wpAny_Constant_int (.tok I _ (v:=dI i) (Rp.int _ _) q)
theorem Ev.str (q:Q (dS x) H):Ev B n (.Constant (.str x) k pos) ρ H Q:=by
 intro A env s μ W g I;exact FM (.tok I _ (v:=dS x) (Rp.str _ _) q)
theorem Ev.none (q:Q dN H):Ev B n (.Constant .none k pos) ρ H Q:=by
 intro A env s μ W g I;exact ai (.keeps I (cY _ _ rfl) (λZ Z e=>e) (v:=dN) Rp.none q)
theorem Ev.bool {b:Bool} (q:Q (dB b) H):Ev B n (.Constant (.bool b) k pos) ρ H Q:=by
 intro A env s μ W g I;exact ai (.keeps I (cY _ _ rfl) (λZ Z e=>e) (v:=dB b) (Rp.bool b) q)
inductive Nr:Dg->V->V->V->Prop
 |add {i j:_}:Nr .Add (dI i) (dI j) (dI (i+j))
 |sub {i j:_}:Nr .Sub (dI i) (dI j) (dI (i - j))
 |mul {i j:_}:Dh i j->Nr .Mult (dI i) (dI j) (dI (i*j))
 |mod {i j:Int}:j≠0->Nr .Mod (dI i) (dI j) (dI (i.fmod j))
 |div {i j:Int}:j≠0->eS i j=false->Nr .FloorDiv (dI i) (dI j) (dI (i.fdiv j))
 |pow {i j:Int}:0<=j->(jS i:Int)*j<=2^27->Nr .Pow (dI i) (dI j) (dI (i^j.toNat))
 |tup {xs ys:_}:xs.length+ys.length<=sizeLine->Nr .Add (dT xs) (dT ys) (dT (xs++ys))
def RpI (W:List Addr) (h:Heap) (v:Value) (d:PyData):Prop:=
 match d with
 |.none=>v=.none
 |.bool b=>v=.bool b
 |.int i=>∃t,v=.int i t
 |.str x=>∃t,v=.str x t
 |.list xs=>∃a vs,v=.ref a/\a∉W/\h.PlainList a vs/\n_ W h vs.toList xs
 |.tuple xs=>∃a vs,v=.ref a/\a∉W/\IsTup h a vs/\n_ W h vs.toList xs
 |_=>True
theorem Rp.inv {d:PyData} (r:Rp W h v d):RpI W h v d:=
 r.casesOn (motive_1:=λv d _=>RpI W h v d) rfl (λ_=>rfl) (λ_ t=>⟨t,rfl⟩) (λ_ t=>⟨t,rfl⟩) (λha ho r=>⟨_,_,rfl,ha,⟨_,ho⟩,r⟩) (λha ho hc hd r=>⟨_,_,rfl,ha,⟨_,ho,hc,_,hd⟩,r⟩)
theorem Rp.D_ (r:Rp W h v (.tuple xs)):∃a vs,v=.ref a/\a∉W/\IsTup h a vs/\n_ W h vs.toList xs:=r.inv
theorem Rp.L8 (r:Rp W h v (.list xs)):∃a vs,v=.ref a/\a∉W/\h.PlainList a vs/\n_ W h vs.toList xs:=r.inv
theorem Rp.IF (r:Rp W h v (.list xs)):∃a vs,v=.ref a/\a∉W/\h.IsList a vs/\n_ W h vs.toList xs:=by
 refine lQ r.L8 λa vs e ha p r=>?_;exact(pv a vs e ha p.isList r)
theorem Rp.int_inv (r:Rp W h v (.int i)):∃t,v=.int i t:=r.inv
theorem Rp.str_inv {i:Str} (r:Rp W h v (.str i)):∃t,v=.str i t:=r.inv
theorem Rp.bool_inv {i:Bool} (r:Rp W h v (.bool i)):v=.bool i:=r.inv
theorem Rp.none_inv (r:Rp W h v .none):v=.none:=r.inv
theorem n_.keeps (k:∀b o,h.get? b=IC o->h'.get? b=IC o) (r:n_ W h vs ds):n_ W h' vs ds:=r.mono (λb o Z e=>k b o e) (λZ a b=>absurd a b)
theorem Rp.keeps {d:PyData} (k:∀b o,h.get? b=IC o->h'.get? b=IC o) (r:Rp W h v d):Rp W h' v d:=r.mono (λb o Z e=>k b o e) (λZ a b=>absurd a b)
theorem b9 (o:Obj):∀b x,h.get? b=IC x->(h.push o).get? b=IC x:=λZ Z e=>av _ e
theorem A_.tup (I:Inv B env ρ H μ W s) (r:n_ W s.heap vs ds) (q:Q (dT ds) H):
 A_ B env ρ μ W s Q (.ref s.heap.objs.size) {s with heap:=s.heap.push {cls:=.type "tuple",dict:=ID,data:=.seq vs.toArray k},toks:=t}:=
 .keeps I (cY _ _ rfl) (b9 _) (v:=dT ds) (Rp.tuple (I.out (aq _)) (aH _ rfl) rfl rfl (r.keeps (b9 _))) q
theorem A_.lst (I:Inv B env ρ H μ W s) (r:n_ W s.heap vs ds) (q:Q (dL ds) H):
 A_ B env ρ μ W s Q (.ref s.heap.objs.size) {s with heap:=s.heap.push {cls:=.type "list",dict:=ID,data:=.seq vs.toArray k},toks:=t}:=
 .keeps I (cY _ _ rfl) (b9 _) (v:=dL ds) (Rp.list (I.out (aq _)) (aH _ rfl) (r.keeps (b9 _))) q
theorem Inv.fr (I:Inv B env ρ H μ W s):∃m,Fr B.s₁.heap env.locals s.heap m:=by
 exact bm I.q_.loc λm hn=>⟨m,hn,I.old,I.q_.above⟩
@[elab_as_elim] theorem Rp.Ky {j:Int} (c d:Value) (r:Rp W h c (.int i)) (r2:Rp W h d (.int j)) (f:∀t u,P (.int i t) (.int j u)):P c d:=
 gc c r.int_inv λt=>gc d r2.int_inv λu=>f t u
theorem Nr.sound {a b v:V} {ca cb:Value} (z:Nr op a b v) (I:Inv B env ρ H μ W s) (ra:l_ B μ W s.heap a ca) (rb:l_ B μ W s.heap b cb) (q:Q v H):
 aC B.M A (binaryOp op ca cb) (A_ B env ρ μ W s Q) (λZ Z=>False) s:=by
 revert ra rb q
 induction z with
 |add=>refine λra rb q=>Rp.Ky ca cb ra rb λt u=>?_;exact PyProof.Rows.add_int (.tok I _ (v:=dI _) (Rp.int _ _) q)
 |sub=>refine λra rb q=>Rp.Ky ca cb ra rb λt u=>?_;exact PyProof.Rows.sub_int (.tok I _ (v:=dI _) (Rp.int _ _) q)
 |mul h=>refine λra rb q=>Rp.Ky ca cb ra rb λt u=>?_;exact PyProof.Rows.mul_int (.tok I _ (v:=dI _) (Rp.int _ _) q) h
 |mod h=>refine λra rb q=>Rp.Ky ca cb ra rb λt u=>?_;exact PyProof.Rows.mod_int' h (.tok I _ (v:=dI _) (Rp.int _ _) q)
 |div h h2=>refine λra rb q=>Rp.Ky ca cb ra rb λt u=>?_;exact PyProof.Rows.floordiv_int h (.tok I _ (v:=dI _) (Rp.int _ _) q) (.inl h2)
 |pow h h2=>refine λra rb q=>Rp.Ky ca cb ra rb λt u=>?_;exact PyProof.Rows.pow_int h h2 (.tok I _ (v:=dI _) (Rp.int _ _) q)
 |@tup xs ys hs=>
  intro ra rb q;refine lQ (Rp.D_ ra:_) λa vs JE ha ta Z9=>?_;obtain rfl:=JE;refine lQ (Rp.D_ rb:_) λb ws JX hb tb SO=>?_;obtain rfl:=JX;refine cP ta λJD ho hc KE=>?_;obtain⟨cls,dd,data,sl⟩:=JD;refine bm KE λk1 hd=>?_;refine cP tb λLY NB KN Kp=>?_;obtain⟨cls2,dd2,data2,Z8⟩:=LY;refine bm Kp λk2 hd2=>?_;simp only at hc hd KN hd2;subst hc hd KN hd2;by_cases hv:vs.isEmpty=true
  ·have:xs=[]:=by have:=Z9.length;simp at hv;subst hv;exact List.length_eq_zero_iff.mp this.symm
   subst this;exact concat_meets (aN _ ho rfl) (aN _ NB rfl) xS FN nt mD (lS _ _)
    (tuple_addW0 a b vs ws k1 k2 dd dd2 sl Z8 hv) ⟨ho,NB,.keeps I (cY _ _ rfl) (λZ Z e=>e) (v:=dT ys) rb (by simpa using q)⟩
  ·by_cases hw:ws.isEmpty=true
   ·have:ys=[]:=by have:=SO.length;simp at hw;subst hw;exact List.length_eq_zero_iff.mp this.symm
    subst this;exact concat_meets (aN _ ho rfl) (aN _ NB rfl) xS FN nt mD (lS _ _)
     (tuple_addW1 a b vs ws k1 k2 dd dd2 sl Z8 hv hw) ⟨ho,NB,.keeps I (cY _ _ rfl) (λZ Z e=>e) (v:=dT xs) ra (by simpa using q)⟩
   ·refine concat_meets (aN _ ho rfl) (aN _ NB rfl) xS FN nt mD (lS _ _)
     (tuple_addW2 a b vs ws k1 k2 dd dd2 sl Z8 hv hw (by(refine ah _ (aF ..).symm ?_;refine ah _ (aF ..).symm ?_;refine ah _ (Z9.length ..) ?_;refine ah _ (SO.length ..) ?_);exact hs)) ⟨ho,NB,?_⟩
    have e:vs++ws=(vs.toList++ws.toList).toArray:=by simp
    exact ah _ e (.tup I (Z9.append SO) q)
theorem Ev.bin {l r:Expr} (h:Ev B n l ρ H λa H1=>Ev B n r ρ H1 λb H2=>∃v,Nr op a b v/\Q v H2):Ev B n (.BinOp l op r pos) ρ H Q:=by
 intro A env s μ W g I;refine ah _ (arm_eval_BinOp ..) (aa (h.then g I λa H1 μ1 W1 ca s1 h1 I1 x1 r1=>aa (aV (h1.then g I1 λb H2 μ2 W2 cb s2 h2 I2 x2 r2=>aa (bw (wpAny_operate' ?_))))));exact aG h2 λv z q=>aM (z.sound I2 (r1.ext I1 x2) r2 q) (λc s' p=>.then I x1 (.then I1 x2 p)) λZ Z e=>e
theorem Ev.neg (h:Ev B n e ρ H λa H1=>∃i,a=dI i/\Q (dI (-i)) H1):Ev B n (.UnaryOp .USub e pos) ρ H Q:=by
 intro A env s μ W g I;refine ah _ (arm_eval_UnaryOp ..) (aa (h.then g I λa H1 μ1 W1 ca s1 h1 I1 x1 r1=>aa (bw (aV ?_))));refine aG h1 λi Lc q=>?_;obtain rfl:=Lc;refine bm (Rp.int_inv r1:_) λt MN=>?_;obtain rfl:=MN;exact PyProof.Rows.neg_int (.then I x1 (.tok I1 _ (v:=dI _) (Rp.int _ _) q))
inductive i_ (B:Bs) (μ W:List Addr) (h:Heap):List V->List Value->Prop
 |nil:i_ B μ W h [] []
 |cons {v c vs cs:_}:l_ B μ W h v c->i_ B μ W h vs cs->i_ B μ W h (v::vs) (c::cs)
def Ks (B:Bs) (n:Nat) (es:List Expr) (ρ:fF) (H:List a_) (Q:List V->List a_->Prop):Prop:=
 ∀A env s μ W pos,Good n A->Inv B env ρ H μ W s->aC B.M A (w6 (gy pos (cJ es env))) (λcs s'=>∃vs H' μ' W',Q vs H'/\Inv B env ρ H' μ' W' s'/\Ext [] μ W s μ' W' s'/\i_ B μ' W' s'.heap vs cs) (λZ Z=>False) s
theorem i_.ext (I:Inv B env ρ H μ W s) (x:Ext [] μ W s μ' W' s') {vs:List V} (r:i_ B μ W s.heap vs cs):i_ B μ' W' s'.heap vs cs:=
 r.rec (motive:=λvs cs _=>i_ B μ' W' s'.heap vs cs) .nil λa _ r=>.cons (a.ext I x) r
theorem Ks.nil {Q:List V->List a_->Prop} (q:Q [] H):Ks B n [] ρ H Q:=by
 intro A env s μ W pos g I;exact ai (w4 ([]) H μ W q I .refl .nil)
theorem Ks.cons {Q:List V->List a_->Prop} (h:Ev B n e ρ H λv H1=>Ks B n es ρ H1 λvs H2=>Q (v::vs) H2)
 (hs:∀env,cJ (e::es) env=(false,dq e env)::cJ es env:=by intro _;rfl):Ks B n (e::es) ρ H Q:=by
 intro A env s μ W pos g I;rw[hs];show aC B.M A (w6 ((false,dq e env)::gy pos (cJ es env))) _ _ _;simp only[w6];refine aa (h.then g I λv H1 μ1 W1 c s1 h1 I1 x1 r1=>?_);simp only[gP,if_false];refine aa (ai (aa (aV (aM (h1 A env s1 μ1 W1 pos g I1) (λcs s2 IV=>by refine oU IV λvs H2 μ2 W2 q I2 x2 r2=>?_;exact ai (w4 (v::vs) H2 μ2 W2 q I2 (x1.trans x2 I.o_ (λZ h=>de h)) (.cons (r1.ext I1 x2) r2))) λZ Z e=>e))))
theorem i_.Sj (r:i_ B μ W h (ds.map V.dat) cs):n_ W h cs ds:=
 (r.rec (motive:=λvs cs _=>∀ds:List PyData,vs=ds.map V.dat->n_ W h cs ds) (λds=>ds.casesOn (λ_=>.nil) nofun) λa _ r ds=>ds.casesOn Rg λd ds e=>.cons ((cD e).1▸a:l_ B μ W h (.dat d) _) (r ds (cD e).2)) ds rfl
theorem Ev.tuple (h:Ks B n es ρ H λvs H1=>∃ds:List PyData,vs=ds.map V.dat/\ds.length<=sizeLine/\Q (dT ds) H1):Ev B n (.Tuple es k pos) ρ H Q:=by
 intro A env s μ W g I;refine ah _ (arm_eval_Tuple ..) (aa (bw (aa (aM (h A env s μ W pos g I) (λcs s1 IV=>?_) λZ Z e=>e))));refine oU IV λvs H1 μ1 W1 LX I1 x1 r1=>?_;refine cP LX λds e hs q=>?_;subst e;have rs:=r1.Sj;exact ce (.then I x1 (.tup I1 rs q)) (by show cs.toArray.size<=sizeLine;simp only[cQ,rs.length];exact hs)
theorem Ev.list (h:Ks B n es ρ H λvs H1=>∃ds:List PyData,vs=ds.map V.dat/\ds.length<=sizeLine/\Q (dL ds) H1):Ev B n (.List es pos) ρ H Q:=by
 intro A env s μ W g I;refine ah _ (arm_eval_List ..) (aa (bw (aa (aM (h A env s μ W pos g I) (λcs s1 IV=>?_) λZ Z e=>e))));refine oU IV λvs H1 μ1 W1 KD I1 x1 r1=>?_;refine cP KD λds e hs q=>?_;subst e;have rs:=r1.Sj;exact ce (.then I x1 (.lst I1 rs q)) (by show cs.toArray.size<=sizeLine;simp only[cQ,rs.length];exact hs)
variable {Q':Bool->List a_->Prop} {R:Bool->aD->Prop} {op SQ Rc:zW} {e2 l m r:Expr} {β:Type} {E:Value->aD->Prop}
noncomputable def iq (kvs:List (Int×PyData)) (k:Int):Option PyData:=(kvs.find? λkv=>kv.1=k).map (·.2)
noncomputable def BY (kvs:List (Str×PyData)) (k:Str):Option PyData:=(kvs.find? λkv=>kv.1=k).map (·.2)
theorem xT {K:Type} [DecidableEq K] {k:K} {p:K×β} {l:List (K×β)} (h:p.1=k):((p::l).find? λkv=>kv.1=k).map (·.2)=IC p.2:=congrArg (eH (·.2)) (List.find?_cons_of_pos (p:=λkv:K×β=>decide (kv.1=k)) (decide_eq_true h))
theorem BZ {K:Type} [DecidableEq K] {k:K} {p:K×β} {l:List (K×β)} (h:¬p.1=k):((p::l).find? λkv=>kv.1=k).map (·.2)=(l.find? λkv=>kv.1=k).map (·.2):=congrArg (eH (·.2)) (List.find?_cons_of_neg (p:=λkv:K×β=>decide (kv.1=k)) λq=>h (of_decide_eq_true q))
theorem q6 {K:Type} [DecidableEq K] {k:K} {cvs:List (K×Value)} {kvs:List (K×PyData)} (e:cvs.map (·.1)=kvs.map (·.1)) (r:n_ W h (cvs.map (·.2)) (kvs.map (·.2))):
 (valueAt cvs k=ID/\(kvs.find? λkv=>kv.1=k).map (·.2)=ID)∨∃c d,valueAt cvs k=IC c/\(kvs.find? λkv=>kv.1=k).map (·.2)=IC d/\Rp W h c d:=by
 induction cvs generalizing kvs with
 |nil=>cases kvs with
  |nil=>exact .inl ⟨rfl,rfl⟩
  |cons=>nomatch e
 |cons p cvs ih=>cases kvs with
  |nil=>nomatch e
  |cons q kvs=>
   have e:=cD e;by_cases hk:p.1=k
   ·exact .inr ⟨p.2,q.2,xT hk,xT (e.1.symm.trans hk),r.Ld.1⟩
   ·(rw[valueAt];refine ah _ (BZ hk ..) ?_;refine ah _ (BZ λh=>hk (e.1.trans h) ..) ?_)
    exact ih e.2 r.Ld.2
theorem q7 {K:Type} [DecidableEq K] {k:K} {cvs:List (K×Value)} {kvs:List (K×PyData)} {d:PyData} (e:cvs.map (·.1)=kvs.map (·.1)) (r:n_ W h (cvs.map (·.2)) (kvs.map (·.2))) (hd:(kvs.find? λkv=>kv.1=k).map (·.2)=IC d):∃c,valueAt cvs k=IC c/\Rp W h c d:=
 (q6 e r).elim (λh=>nomatch h.2.symm.trans hd) λh=>hU h λc _ h1 h2 h3=>⟨c,h1,bS (h2.symm.trans hd)▸h3⟩
inductive Kt (H:List a_):zW->V->V->Bool->Prop
 |lt {i j:_}:Kt H .Lt (dI i) (dI j) (decide (i<j))
 |le {i j:_}:Kt H .LtE (dI i) (dI j) (decide (i<=j))
 |gt {i j:_}:Kt H .Gt (dI i) (dI j) (decide (j<i))
 |ge {i j:_}:Kt H .GtE (dI i) (dI j) (decide (j<=i))
 |eqi {i j:_}:Kt H .Eq (dI i) (dI j) (decide (i=j))
 |nei {i j:_}:Kt H .NotEq (dI i) (dI j) (!decide (i=j))
 |eqs {i j:_}:Kt H .Eq (dS i) (dS j) (i==j)
 |eqb {i j:_}:Kt H .Eq (dB i) (dB j) (i==j)
 |neb {i j:_}:Kt H .NotEq (dB i) (dB j) (!(i==j))
 |eq {x y:_}:dA x=true->dA y=true->Kt H .Eq (.dat x) (.dat y) (aQ x y)
 |ne {x y:_}:dA x=true->dA y=true->Kt H .NotEq (.dat x) (.dat y) (!aQ x y)
 |XN {i xs y:_}:H[i]?=IC (.list xs)->dA (.list xs)=true->dA y=true->Kt H .NotEq (.loc i) (.dat y) (!aQ (.list xs) y)
 |inT {x ys:_}:eT ys=true->x.canLay0=true->x.depth<=64->Kt H .In (.dat x) (dT ys) (ys.any λy=>aQ y x)
 |XO {x ys i:_}:H[i]?=IC (.list ys)->eT ys=true->x.canLay0=true->x.depth<=64->Kt H .In (.dat x) (.loc i) (ys.any λy=>aQ y x)
 |PQ {i kvs:_}:Kt H .NotIn (dI i) (.m_ kvs) (!(iq kvs i).isSome)
 |SW:Kt H .Is dN dN true
 |isT {xs:_}:Kt H .Is (dT xs) dN false
theorem C1:pZ<B.s₁.heap.objs.size:=by
 exact aG B.nolimit λmc hn Z=>cy (show pZ<cStatics by decide) hn.lt
theorem Kt.sound {a b:V} {r:Bool} {ca cb:Value} (z:Kt H op a b r) (g:Good n A) (I:Inv B env ρ H μ W s) (ra:l_ B μ W s.heap a ca) (rb:l_ B μ W s.heap b cb)
 {R:Value->aD->Prop} (q:∀t,R (.bool r) {s with toks:=t}):aC B.M A (compareOp op ca cb) R (λZ Z=>False) s:=by
 have hu:A.units+200<cLine:=by have:=g.2.2;exact Wo this
 revert ra rb q
 induction z with
 |lt=>exact λra rb q=>Rp.Ky ca cb ra rb λt u=>w7 (q s.toks)
 |le=>exact λra rb q=>Rp.Ky ca cb ra rb λt u=>PySem.P.le_int (q s.toks)
 |gt=>exact λra rb q=>Rp.Ky ca cb ra rb λt u=>PyProof.Rows.gt_int (q s.toks)
 |ge=>exact λra rb q=>Rp.Ky ca cb ra rb λt u=>PySem.P.ge_int (q s.toks)
 |eqi=>exact λra rb q=>Rp.Ky ca cb ra rb λt u=>PyProof.Rows.eq_int (q s.toks)
 |nei=>exact λra rb q=>Rp.Ky ca cb ra rb λt u=>PyProof.Rows.ne_int (q s.toks)
 |eqs=>exact λra rb q=>gc ca (Rp.str_inv ra) λt=>gc cb (Rp.str_inv rb) λu=>PyProof.Rows.eq_str (q s.toks)
 |eqb=>intro ra rb q;refine ah ca (Rp.bool_inv ra) ?_;refine ah cb (Rp.bool_inv rb) ?_;exact PyProof.Rows.eq_bool (q s.toks)
 |neb=>intro ra rb q;refine ah ca (Rp.bool_inv ra) ?_;refine ah cb (Rp.bool_inv rb) ?_;exact PyProof.Rows.ne_bool (q s.toks)
 |eq hx hy=>
  intro ra rb q;refine bm (Rp.reads ra:_) λZ ra=>?_;refine bm (Rp.reads rb:_) λZ rb=>?_;exact eq_dataH ra rb hx hy (ar6 hu) (q s.toks)
 |ne hx hy=>
  intro ra rb q;refine bm (Rp.reads ra:_) λZ ra=>?_;refine bm (Rp.reads rb:_) λZ rb=>?_;exact ne_dataH ra rb hx hy (ar6 hu) (q s.toks)
 |XN hi hx hy=>
  intro ra rb q;refine fX ca ra λa e=>aG (I.objs _ _ _ e hi:_) λitems l r=>?_;refine cP l.isList λo h1 h2 KE=>?_;refine bm KE λk h3=>?_;exact bm r.reads λZ r=>bm (Rp.reads rb:_) λZ rb=>ne_dataH (.list h1 h2 h3 r) rb hx hy (ar6 hu) (q s.toks)
 |inT h1 h2 h3=>
  intro ra rb q;refine bm (Rp.reads ra:_) λZ ra=>?_;refine bm (Rp.reads rb:_) λZ rb=>?_;exact SeqAt.in_tuple_reads rb ra h1 h2 (aB (bb (kq _ _) _) (Vz hu h3)) (q s.toks)
 |XO hi h1 h2 h3=>
  intro ra rb q;refine fX cb rb λa e=>aG (I.objs _ _ _ e hi:_) λitems l r=>?_;refine cP l.isList λo o1 o2 Kp=>?_;refine bm Kp λk o3=>?_;exact bm r.reads λZ r=>bm (Rp.reads ra:_) λZ ra=>SeqAt.in_list_reads (.list o1 o2 o3 r) ra h1 h2 (aB (bb (kq _ _) _) (Vz hu h3)) (q s.toks)
 |@PQ i kvs=>
  intro ra rb q;refine gc ca (Rp.int_inv ra:_) λt=>Ad cb rb λa cvs ha RM d e rs=>?_;have IQ:(a==pZ)=false:=beq_eq_false_iff_ne.mpr (by rintro rfl;exact absurd (C1 (B:=B)) (Nat.not_lt.mpr RM));refine wpAny_notIn_of (knd:=intKind B.prog B.w) (k:=i) (uF B.prog B.w i t) IQ d.mapOf ?_;have e2:(valueAt cvs i).isSome=(iq kvs i).isSome:=(q6 (k:=i) e rs).elim (λh=>(congrArg q8 h.1).trans (congrArg q8 h.2).symm) λh=>hU h λ_ _ h1 h2 _=>(congrArg q8 h1).trans (congrArg q8 h2).symm;exact ah _ e2 (q _)
 |SW=>intro ra rb q;refine ah ca (Rp.none_inv ra) ?_;refine ah cb (Rp.none_inv rb) ?_;exact wpAny_is_self rfl (q s.toks)
 |isT=>intro ra rb q;refine jq ca (Rp.D_ ra) λa vs Z=>?_;refine ah cb (Rp.none_inv rb) ?_;exact is_ref_none (q s.toks)
theorem Ev.cmp (h:Ev B n l ρ H λa H1=>Ev B n r ρ H1 λb H2=>∃c,Kt H2 op a b c/\Q (dB c) H2)
 (hm:la op r=false:=by with_unfolding_all rfl):Ev B n (.Compare l [op] [r] pos) ρ H Q:=by
 intro A env s μ W g I;refine wpAny_Compare1 (h.then g I λa H1 μ1 W1 ca s1 h1 I1 x1 r1=>h1.then g I1 λb H2 μ2 W2 cb s2 h2 I2 x2 r2=>?_) hm;exact aG h2 λc z q=>z.sound g I2 (r1.ext I1 x2) r2 λt=>.then I x1 (.then I1 x2 (.tok I2 _ (v:=dB c) (Rp.bool c) q))
theorem fJ {M:Model} {b:Bool} (h:R b s):aC M A (truthy (.bool b)) R E s:=kt h
def Tr (B:Bs) (n:Nat) (e:Expr) (ρ:fF) (H:List a_) (Q:Bool->List a_->Prop):Prop:=
 ∀A env s μ W,Good n A->Inv B env ρ H μ W s->aC B.M A (oX e env (dq e env)) (λb s'=>∃H' μ' W',Q b H'/\Inv B env ρ H' μ' W' s'/\Ext [] μ W s μ' W' s') (λZ Z=>False) s
theorem Tr.mono {Q:Bool->List a_->Prop} (h:Tr B n e ρ H Q) (hq:∀v H',Q v H'->Q' v H'):Tr B n e ρ H Q':=
 λA env s μ W g I=>aM (h A env s μ W g I) (λZ Z IV=>by refine pt IV λH' μ' W' q r=>?_;exact(t4 H' μ' W' (hq _ _ q) r)) λZ Z e=>e
theorem Tr.then {Q:Bool->List a_->Prop} (h:Tr B n e ρ H Q) (g:Good n A) (I:Inv B env ρ H μ W s)
 (k:∀b H' μ' W' s',Q b H'->Inv B env ρ H' μ' W' s'->Ext [] μ W s μ' W' s'->R b s'):aC B.M A (oX e env (dq e env)) R (λZ Z=>False) s:=
  aM (h A env s μ W g I) (λc s' IV=>by refine A8 IV λH' μ' W' q I' x=>?_;exact k c H' μ' W' s' q I' x) λZ Z e=>e
theorem Tr.cmp {Q:Bool->List a_->Prop} (h:Ev B n l ρ H λa H1=>Ev B n r ρ H1 λb H2=>∃c,Kt H2 op a b c/\Q c H2)
 (hm:la op r=false:=by with_unfolding_all rfl):Tr B n (.Compare l [op] [r] pos) ρ H Q:=by
 intro A env s μ W g I;refine wpAny_isTrue_Compare1 (h.then g I λa H1 μ1 W1 ca s1 h1 I1 x1 r1=>h1.then g I1 λb H2 μ2 W2 cb s2 h2 I2 x2 r2=>?_) hm;exact aG h2 λc z q=>z.sound g I2 (r1.ext I1 x2) r2 λt=>fJ (oV H2 μ2 W2 q (I2.tok t) ((x1.trans x2 I.o_ (λZ h=>de h)).trans (.keeps λZ Z e=>e) I.o_ (λZ h=>de h)))
theorem Tr.Sq {Q:Bool->List a_->Prop}
 (h:Ev B n l ρ H λa H1=>Ev B n m ρ H1 λb H2=>∃c,Kt H2 SQ a b c/\if c then Ev B n r ρ H2 (λd H3=>∃c',Kt H3 Rc b d c'/\Q c' H3)else Q false H2)
 (hm:lastMarks [SQ,Rc] [m,r]=false:=by with_unfolding_all rfl):Tr B n (.Compare l [SQ,Rc] [m,r] pos) ρ H Q:=by
 intro A env s μ W g I;refine isTrue_chain (h.then g I λa H1 μ1 W1 ca s1 h1 I1 x1 r1=>test_link (h1.then g I1 λb H2 μ2 W2 cb s2 h2 I2 x2 r2=>?_)) hm;refine aG h2 λc z q=>z.sound g I2 (r1.ext I1 x2) r2 λt=>fJ ?_;have I2':=I2.tok t;have x02:=x1.trans x2 I.o_ (λZ h=>de h)
 cases c with
 |false=>exact(oV H2 μ2 W2 q I2' (x02.trans (.keeps λZ Z e=>e) I.o_ (λZ h=>de h)))
 |true=>
  simp only[if_true]at q⊢;refine test_last (q.then g I2' λd H3 μ3 W3 cd s3 h3 I3 x3 r3=>?_);refine aG h3 λc' z' q'=>z'.sound g I3 (l_.ext I2' x3 r2) r3 λt'=>fJ (oV H3 μ3 W3 q' (I3.tok t') ?_);exact(x02.trans ((Ext.keeps (s:=s2) (s':={s2 with toks:=t}) λZ Z e=>e).trans x3 I2.o_ (λZ h=>de h)) I.o_ (λZ h=>de h)).trans (.keeps λZ Z e=>e) I.o_ (λZ h=>de h)
theorem Tr.not {Q:Bool->List a_->Prop} (h:Tr B n e ρ H λb H1=>Q (!b) H1):Tr B n (.UnaryOp .Not e pos) ρ H Q:=by
 intro A env s μ W g I;exact isTrue_not (h.then g I λb H1 μ1 W1 s1 h1 I1 x1=>(oV H1 μ1 W1 h1 I1 x1))
theorem Tr.abj {Q:Bool->List a_->Prop} (q:Q true H):Tr B n (.BoolOp .And [] pos) ρ H Q:=by
 intro A env s μ W g I;exact isTrue_and_nil (oV H μ W q I .refl)
theorem Tr.or0 {Q:Bool->List a_->Prop} (q:Q false H):Tr B n (.BoolOp .Or [] pos) ρ H Q:=by
 intro A env s μ W g I;exact isTrue_or_nil (oV H μ W q I .refl)
theorem pd (op:BoolOp) (es:List Expr) (pos:FL) (env:pU) (w:xU Value):oX (.BoolOp op es pos) env w=oX (.BoolOp op es pos) env (dq (.BoolOp op es pos) env):=rfl
theorem Tr.abi {Q:Bool->List a_->Prop} (h:Tr B n e ρ H λb H1=>if b then Tr B n (.BoolOp .And es pos) ρ H1 Q else Q false H1):Tr B n (.BoolOp .And (e::es) pos) ρ H Q:=by
 intro A env s μ W g I;refine isTrue_and (h.then g I λb H1 μ1 W1 s1 h1 I1 x1=>?_)
 cases b with
 |false=>exact(oV H1 μ1 W1 h1 I1 x1)
 |true=>
  refine ah _ (pd ..) ?_;exact aM (h1 A env s1 μ1 W1 g I1) (λb s2 IV=>by refine A8 IV λH2 μ2 W2 q I2 x2=>?_;exact(oV H2 μ2 W2 q I2 (x1.trans x2 I.o_ (λZ h=>de h)))) λZ Z e=>e
theorem Tr.or1 {Q:Bool->List a_->Prop} (h:Tr B n e ρ H λb H1=>if b then Q true H1 else Tr B n (.BoolOp .Or es pos) ρ H1 Q):Tr B n (.BoolOp .Or (e::es) pos) ρ H Q:=by
 intro A env s μ W g I;refine isTrue_or (h.then g I λb H1 μ1 W1 s1 h1 I1 x1=>?_)
 cases b with
 |true=>exact(oV H1 μ1 W1 h1 I1 x1)
 |false=>
  refine ah _ (pd ..) ?_;exact aM (h1 A env s1 μ1 W1 g I1) (λb s2 IV=>by refine A8 IV λH2 μ2 W2 q I2 x2=>?_;exact(oV H2 μ2 W2 q I2 (x1.trans x2 I.o_ (λZ h=>de h)))) λZ Z e=>e
theorem Tr.val {Q:Bool->List a_->Prop} (h:Ev B n e ρ H λv H1=>∃b,v=dB b/\Q b H1)
 (he:∀env,oX e env (dq e env)=(do let v←dq e env;lb e.pos;iG [v] (truthy v)):=by intro _;rfl):Tr B n e ρ H Q:=by
 intro A env s μ W g I;refine isTrue_plain (h.then g I λv H1 μ1 W1 c s1 h1 I1 x1 r1=>?_) (he env);refine aG h1 λb KD q=>?_;obtain rfl:=KD;cases Rp.bool_inv r1;exact fJ (oV H1 μ1 W1 q I1 x1)
theorem Ev.not (h:Ev B n e ρ H λv H1=>∃b,v=dB b/\Q (dB (!b)) H1):Ev B n (.UnaryOp .Not e pos) ρ H Q:=by
 intro A env s μ W g I;refine ah _ (arm_eval_UnaryOp ..) (aa (h.then g I λv H1 μ1 W1 c s1 h1 I1 x1 r1=>aa (bw (aV ?_))));refine aG h1 λb LW q=>?_;obtain rfl:=LW;cases Rp.bool_inv r1;exact not_of (fJ (.then I x1 (.tok I1 _ (v:=dB !b) (Rp.bool _) q)))
theorem Ev.Us {t a b:Expr} (h:Tr B n t ρ H λc H1=>if c then Ev B n a ρ H1 Q else Ev B n b ρ H1 Q):Ev B n (.IfExp t a b pos) ρ H Q:=by
 intro A env s μ W g I;refine ah _ (arm_eval_IfExp ..) (aa (h.then g I λc H1 μ1 W1 s1 h1 I1 x1=>?_))
 cases c with
 |true=>exact aM (h1 A env s1 μ1 W1 g I1) (λZ Z p=>.then I x1 p) λZ Z e=>e
 |false=>exact aM (h1 A env s1 μ1 W1 g I1) (λZ Z p=>.then I x1 p) λZ Z e=>e
theorem Ev.aaL {op:BoolOp} (h:Ev B n e ρ H Q):Ev B n (.BoolOp op [e] pos) ρ H Q:=by
 intro A env s μ W g I;exact h A env s μ W g I
theorem Ev.and (h:Ev B n e ρ H λv H1=>∃b,v=dB b/\if b then Ev B n (.BoolOp .And (e2::es) pos) ρ H1 Q else Q (dB false) H1):Ev B n (.BoolOp .And (e::e2::es) pos) ρ H Q:=by
 intro A env s μ W g I;show aC B.M A (boolOp pos _ (dq e env::evalEach (e2::es) env)) _ _ s;refine aa (h.then g I λv H1 μ1 W1 c s1 h1 I1 x1 r1=>aa (bw (aa (aV ?_))));refine aG h1 λb MM q=>?_;obtain rfl:=MM;cases Rp.bool_inv r1;refine fJ ?_
 cases b with
 |false=>exact ai (.then I x1 (.tok I1 _ (v:=dB false) (Rp.bool _) q))
 |true=>
  exact aM (q A env s1 μ1 W1 g I1) (λZ Z p=>.then I x1 p) λZ Z e=>e
theorem Ev.or (h:Ev B n e ρ H λv H1=>∃b,v=dB b/\if b then Q (dB true) H1 else Ev B n (.BoolOp .Or (e2::es) pos) ρ H1 Q):Ev B n (.BoolOp .Or (e::e2::es) pos) ρ H Q:=by
 intro A env s μ W g I;show aC B.M A (boolOp pos _ (dq e env::evalEach (e2::es) env)) _ _ s;refine aa (h.then g I λv H1 μ1 W1 c s1 h1 I1 x1 r1=>aa (bw (aa (aV ?_))));refine aG h1 λb LV q=>?_;obtain rfl:=LV;cases Rp.bool_inv r1;refine fJ ?_
 cases b with
 |true=>exact ai (.then I x1 (.tok I1 _ (v:=dB true) (Rp.bool _) q))
 |false=>
  exact aM (q A env s1 μ1 W1 g I1) (λZ Z p=>.then I x1 p) λZ Z e=>e
variable {ao:a_} {value:Expr} {o:Obj} {v:V} {R:Value->aD->Prop}
theorem Inv.new (I:Inv B env ρ H μ W s) (ho:o.isFreed=false) (t:Nat)
 (r:Jq B (μ++[s.heap.objs.size]) (s.heap.objs.size::W) (s.heap.push o) s.heap.objs.size ao):
 Inv B env ρ (H++[ao]) (μ++[s.heap.objs.size]) (s.heap.objs.size::W) {s with heap:=s.heap.push o,toks:=t}/\
 Ext [] μ W s (μ++[s.heap.objs.size]) (s.heap.objs.size::W) {s with heap:=s.heap.push o,toks:=t}:=by
 have Ku:s.heap.get? s.heap.objs.size=none:=by
  cases e:s.heap.get? s.heap.objs.size with
  |none=>rfl
  |some o=>exact absurd (b0 e) (b7 _)
 have J_:s.heap.objs.size∉W:=I.out (aq _);have UI:s.heap.objs.size∉μ:=λz=>J_ (I.o_ _ z);have kp:∀b x,s.heap.get? b=IC x->(s.heap.push o).get? b=IC x:=b9 o;have kW:hV W s.heap (s.heap.push o):=λb x Z e=>kp b x e;have f:v_ s.heap W (s.heap.objs.size::W):=λa ha hn=>(List.mem_cons.mp ha).elim (λe=>e▸Ku) (λz=>absurd z hn);have pre:Pre μ (μ++[s.heap.objs.size]):=⟨_,rfl⟩;have IW:∀a,a∈μ++[s.heap.objs.size]->a∉μ->a∉W:=λa h1 h2=>by
  rcases List.mem_append.mp h1 with z|z
  ·exact absurd z h2
  ·refine ah _ (List.mem_singleton.mp z ..) ?_;exact J_
 refine⟨{same:=?_,old:=λb x e=>kp b x (I.old b x e),IE:=?_,alive:=?_,o_:=?_,IM:=?_,len:=?_,objs:=?_,q_:=?_,nd:=I.nd,vars:=?_},{keep:=λb x Z e=>kp b x e,pre:=pre,sub:=λa h=>ag _ h,fresh:=f,IW:=λa h1 h2=>⟨IW a h1 h2,?_⟩}⟩
 ·exact I.same
 ·intro a ha;rcases List.mem_cons.mp ha with rfl|ha
  ·exact bj I.lt
  ·exact I.IE a ha
 ·intro a ha;rcases List.mem_cons.mp ha with rfl|ha
  ·exact⟨_,aH _ ho⟩
  ·refine bm (I.alive a ha:_) λx e=>?_;exact⟨x,kp _ _ e⟩
 ·intro a ha;rcases List.mem_append.mp ha with z|z
  ·exact ag _ (I.o_ a z)
  ·refine ah _ (List.mem_singleton.mp z ..) ?_;exact ae
 ·rw[fT];exact⟨I.IM,by simp,λa h1 b h2=>by refine ah _ (List.mem_singleton.mp h2 ..) ?_;rintro rfl;exact UI h1⟩
 ·simp[I.len]
 ·intro i a x h1 h2;by_cases hi:i<μ.length
  ·rw[b8 hi]at h1;rw[b8 (by refine ah _ (I.len ..).symm ?_;exact hi)]at h2;exact(I.objs i a x h1 h2).mono kW (λo e=>kp _ _ e) f pre
  ·have LO:i=μ.length:=by
    have:=(List.getElem?_eq_some_iff.mp h1).1;simp at this;exact lr this hi
   subst LO;rw[bt (aq _)]at h1;rw[I.len,bt (aq _)]at h2;simp at h1 h2;subst h1 h2;exact r
 ·exact I.q_.mono (λa h=>ag _ h) IW (λo e=>kp _ _ e) (λZ Z Z o e=>kp _ _ e)
 ·exact λx ov hm=>(I.vars x ov hm).mono kW f pre (λo e=>kp _ _ e) (λZ Z o e=>kp _ _ e)
 ·rcases List.mem_append.mp h1 with z|z
  ·exact absurd z h2
  ·refine ah _ (List.mem_singleton.mp z ..) ?_;exact Ku
theorem A_.new (I:Inv B env ρ H μ W s) (ho:o.isFreed=false) (t:Nat)
 (r:Jq B (μ++[s.heap.objs.size]) (s.heap.objs.size::W) (s.heap.push o) s.heap.objs.size ao) (q:Q (.loc H.length) (H++[ao])):
 A_ B env ρ μ W s Q (.ref s.heap.objs.size) {s with heap:=s.heap.push o,toks:=t}:=by
 refine bh (I.new ho t r:_) λI' x=>?_;exact⟨.loc H.length,H++[ao],_,_,q,I',x,s.heap.objs.size,by refine ah _ (I.len ..).symm ?_;exact fi,rfl⟩
theorem n_.new (I:Inv B env ρ H μ W s) (r:n_ W s.heap vs ds) (o:Obj):n_ (s.heap.objs.size::W) (s.heap.push o) vs ds:=
 r.mono (λb x Z e=>b9 o b x e) (λa ha hn=>by
  rcases List.mem_cons.mp ha with rfl|z
  ·cases e:s.heap.get? s.heap.objs.size with
   |none=>rfl
   |some o=>exact absurd (b0 e) (b7 _)
  ·exact absurd z hn)
theorem A_.U_ (I:Inv B env ρ H μ W s) {vs:Array Value} (r:n_ W s.heap vs.toList ds) (q:Q (.loc H.length) (H++[.list ds])):
 A_ B env ρ μ W s Q (.ref s.heap.objs.size) {s with heap:=s.heap.push {cls:=.type "list",dict:=ID,data:=.seq vs k},toks:=t}:=
 .new (ao:=.list ds) I rfl t (aN _ ⟨_,aH _ rfl⟩ (r.new I _)) q
theorem A_.Zc (I:Inv B env ρ H μ W s) {vs:Array Value} (r:n_ W s.heap vs.toList ds) (q:Q (dL ds) H):
 A_ B env ρ μ W s Q (.ref s.heap.objs.size) {s with heap:=s.heap.push {cls:=.type "list",dict:=ID,data:=.seq vs k},toks:=t}:=by
 have:=A_.lst I (vs:=vs.toList) (k:=k) (t:=t) r q
 simpa using this
theorem Ev.Ly (h:Ks B n es ρ H λvs H1=>∃ds:List PyData,vs=ds.map V.dat/\ds.length<=sizeLine/\Q (.loc H1.length) (H1++[.list ds])):Ev B n (.List es pos) ρ H Q:=by
 intro A env s μ W g I;refine ah _ (arm_eval_List ..) (aa (bw (aa (aM (h A env s μ W pos g I) (λcs s1 IV=>?_) λZ Z e=>e))));refine oU IV λvs H1 μ1 W1 f_ I1 x1 r1=>?_;refine cP f_ λds e hs q=>?_;subst e;have rs:=r1.Sj;exact ce (.then I x1 (.U_ I1 (by simpa using rs) q)) (by show cs.toArray.size<=sizeLine;simp only[cQ,rs.length];exact hs)
inductive Mo (H:List a_):V->List PyData->Prop
 |dat {xs:_}:Mo H (dL xs) xs
 |loc {i xs:_}:H[i]?=IC (.list xs)->Mo H (.loc i) xs
 |base {xs:_}:Mo H (.Jz xs) xs
theorem Mo.list (z:Mo H v xs) (I:Inv B env ρ H μ W s) (r:l_ B μ W s.heap v c):∃a items,c=.ref a/\s.heap.IsList a items/\n_ W s.heap items.toList xs:=by
 induction z with
 |dat=>refine jU c (Rp.IF r:_) λa vs Z l rs=>?_;exact(eu a vs rfl l rs)
 |loc hi=>refine fX c r λa e=>?_;refine aG (I.objs _ _ _ e hi:_) λitems l rs=>?_;exact(eu a items rfl l.isList rs)
 |base=>refine jU c r λa items Z l rs=>?_;exact(eu a items rfl l rs)
inductive Item (H:List a_):V->V->V->Prop
 |tup {xs k j d:_}:-(2^63)<=k->k<2^63->fK k xs.length=IC j->xs[j]?=IC d->Item H (dT xs) (dI k) (.dat d)
 |lst {v xs k j d:_}:Mo H v xs->-(2^63)<=k->k<2^63->fK k xs.length=IC j->xs[j]?=IC d->Item H v (dI k) (.dat d)
 |m_ {kvs k d:_}:iq kvs k=IC d->Item H (.m_ kvs) (dI k) (.dat d)
 |IJ {i kvs x d:_}:H[i]?=IC (.IJ kvs)->BY kvs x=IC d->Item H (.loc i) (dS x) (.dat d)
theorem Item.sound {a b:V} {ca cb:Value} (z:Item H a b v) (I:Inv B env ρ H μ W s) (ra:l_ B μ W s.heap a ca) (rb:l_ B μ W s.heap b cb)
 (q:∀c t,l_ B μ W s.heap v c->R c {s with toks:=t}):SubscriptOn B.M A ca cb R (λZ Z=>False) s:=by
  induction z with
  |@tup xs k j d h1 h2 hj hd=>
   refine jU ca (Rp.D_ ra:_) λt vs Z ht rs=>gc cb (Rp.int_inv rb:_) λu=>aG (rs.get hd:_) λc e r=>?_;exact(eu ("tuple") _ slot_tuple_getitem.lookup ht.typeIs (PyProof.Rows.getItem_tuple ht h1 h2 (by(refine ah _ hj.symm ?_;refine ah _ (rs.length ..).symm ?_);simp) (x:=c) (by simpa using e) (q c s.toks r)))
  |@lst v xs k j d hl h1 h2 hj hd=>
   refine ko ca (hl.list I ra:_) λt vs ht rs=>gc cb (Rp.int_inv rb:_) λu=>aG (rs.get hd:_) λc e r=>?_;have hlen:=rs.length;simp only[aF]at hlen;unfold fK at hj;refine(eu ("list") _ slot_list_getitem.lookup ht.typeIs ?_);by_cases hk:k<0
   ·simp only[hk,if_true]at hj
    split at hj
    ·rename_i hb
     simp only[eM,decide_eq_true_eq]at hb;cases hj;exact wpAny_getItem_list_neg ht hk (Wy hlen hb) h1 (x:=c) (by refine ah _ hlen ?_;simpa using e) (q c s.toks r)
    ·exact ft hj
   ·simp only[hk,if_false]at hj
    split at hj
    ·rename_i hb
     cases hj;exact wpAny_getItem_list ht (Int.not_lt.mp hk) h2 (x:=c) (by simpa using e) (q c s.toks r)
    ·exact ft hj
  |@m_ kvs k d hd=>
   exact Ad ca ra λt cvs Z Z M6 e rs=>gc cb (Rp.int_inv rb:_) λu=>aG (q7 e rs hd) λc e2 r=>(eu ("dict") _ slot_dict_getitem.lookup M6.typeIs (wpAny_getItem_of (knd:=intKind B.prog B.w) (k:=k) (uF B.prog B.w k u) M6.mapOf e2 (q c _ r)))
  |@IJ i kvs x d hi hd=>
   exact fX ca ra λt e0=>cP (I.objs _ _ _ e0 hi:_) λcvs M6 e rs=>gc cb (Rp.str_inv rb:_) λu=>aG (q7 e rs hd) λc e2 r=>(eu ("dict") _ slot_dict_getitem.lookup M6.typeIs (wpAny_getItem_of (knd:=kg B.prog B.w) (k:=x) (strKind_is B.prog B.w x u) M6.mapOf e2 (q c _ r)))
theorem pe {slice:Expr}
 (h:aC B.M A (dq value env) (λo s₁=>aC B.M A (dq slice env) (λi s₂=>SubscriptOn B.M A o i R (λZ Z=>False) s₂) (λZ Z=>False) s₁) (λZ Z=>False) s)
 (hs:∃f:Value->Value->List Value,∀o i,subscripted slice false o i=operate (f o i) (getItem o i)):aC B.M A (dq (.Subscript value slice pos) env) R (λZ Z=>False) s:=by
 refine ah _ (eval_Subscript ..) (aa (aM h (λo s₁ h₁=>aa (aV (aM h₁ (λi s₂ h₂=>aa (bw ?_)) λZ Z x=>x))) λZ Z x=>x));refine hU h₂ λT id hl hT hg=>bm hs λf hf=>aa (ah _ (getitemInPython_of_ne hT.not_modules ..) ?_);refine aa (qJ hT hl ?_);refine ai (aa ?_);rw[hf];exact wpAny_operate' (aM hg (λr s₃ h₃=>aa (wpAny_letTemporaryGo (ai h₃))) λZ Z x=>x)
theorem Ev.sub {slice:Expr} (h:Ev B n value ρ H λa H1=>Ev B n slice ρ H1 λb H2=>∃v,Item H2 a b v/\Q v H2)
 (hs:∃f:Value->Value->List Value,∀o i,subscripted slice false o i=operate (f o i) (getItem o i):=by exact⟨_,λZ Z=>rfl⟩):Ev B n (.Subscript value slice pos) ρ H Q:=by
 intro A env s μ W g I;refine pe (h.then g I λa H1 μ1 W1 ca s1 h1 I1 x1 r1=>h1.then g I1 λb H2 μ2 W2 cb s2 h2 I2 x2 r2=>?_) hs;exact aG h2 λv z q=>z.sound I2 (r1.ext I1 x2) r2 λc t r=>.then I x1 (.then I1 x2 (.tok I2 _ r q))
variable {P:Heap->Prop} {j:Int} {bs:List Bool} {args:List Expr} {ns:List Int} {first:List Value} {g:Nat->Int} {f:Value}
def Ap (B:Bs) (n:Nat) (f:Value) (vs:List V) (H:List a_) (Q:V->List a_->Prop):Prop:=
 ∀A env ρ s μ W cs,Good n A->Inv B env ρ H μ W s->i_ B μ W s.heap vs cs->aC B.M A (call f cs) (A_ B env ρ μ W s Q) (λZ Z=>False) s
def Callee (B:Bs) (f:Value):Prop:=(∃id,f=.builtin id)∨(∃T,f=.type T)∨keepIn B.K f=true
theorem Callee.MZ (z:Callee B f) (h:Heap) (X:B.K.In h):∃k,(k=Keeper.frame∨k=Keeper.machine∨k=FO)/\Looks B.M h (keeperOf f) k:=by
 rcases z with⟨id,rfl⟩|⟨T,rfl⟩|z
 ·exact(aN .machine (.inr (.inl rfl)) .now)
 ·exact(aN .machine (.inr (.inl rfl)) .now)
 ·exact keeps_K z h X
noncomputable def fb (es:List Expr):Bool:=es.all kdsPlain
theorem v9 (pos:FL) (env:pU) (h:fb es=true):(gy pos (cJ es env)).any (·.1)=false:=
 List.any_eq_false.mpr λx hx=>by
  rw[kds_star es h]at hx;obtain⟨y,hy,rfl⟩:=List.mem_map.mp hx;obtain⟨z,_,rfl⟩:=List.mem_map.mp hy;exact aA
theorem td (hf:∀h,P h->∃k,(k=Keeper.frame∨k=Keeper.machine∨k=FO)/\Looks B.M h (keeperOf f) k) (hp:fb args=true)
 (h:aC B.M A (w6 (gy pos (cJ args env))) (λcs s'=>P s'.heap/\aC B.M A (call f (first++cs)) R (λZ Z=>False) s') (λZ Z=>False) s):
 aC B.M A (pz pos f first (gy pos (cJ args env)) []) R (λZ Z=>False) s:=by
 have Kz:=v9 pos env hp;refine callWith_of (P:=P) (by refine ah _ Kz ?_;rfl) hf ?_;generalize gy pos (cJ args env)=l at Kz h
 cases l with
 |nil=>exact aa (aM h (λvs s' h'=>aV (aa (ai (aa (ai (ai h')))))) λZ Z x=>x)
 |cons a l=>
  obtain⟨b,x⟩:=a
  cases b with
  |false=>exact PySem.Calls.evalArgs_plain h
  |true=>exact SR Kz
theorem fy (hf:Callee B f) (hp:fb args=true)
 (h:aC B.M A (w6 (gy pos (cJ args env))) (λcs s'=>B.K.In s'.heap/\aC B.M A (call f (first++cs)) R (λZ Z=>False) s') (λZ Z=>False) s):
 aC B.M A (pz pos f first (gy pos (cJ args env)) []) R (λZ Z=>False) s:=td (P:=B.K.In) hf.MZ hp h
theorem Inv.KH (I:Inv B env ρ H μ W s):B.K.In s.heap:=B.KH.keeps I.old
theorem Ev.call {p:FL} (h:Ev B n (.Name x p) ρ H λf H1=>∃cf,f=.raw cf/\Callee B cf/\Ks B n args ρ H1 λvs H2=>Ap B n cf vs H2 Q)
 (hp:fb args=true:=by rfl):Ev B n (.Call (.Name x p) args [] pos) ρ H Q:=by
 intro A env s μ W g I;show aC B.M A (do pz pos (←dq (.Name x p) env) [] (gy pos (cJ args env)) (j6 pos (f7 [] env))) _ _ s;refine aa (h.then g I λf H1 μ1 W1 c s1 h1 I1 x1 r1=>?_);refine cP h1 λcf f_ hc hE=>?_;obtain rfl:=f_;cases(show c=cf from r1);refine fy hc hp (aM (hE A env s1 μ1 W1 pos g I1) (λcs s2 f_=>oU f_ λvs H2 μ2 W2 q I2 x2 r2=>⟨I2.KH,?_⟩) λZ Z e=>e);exact aM (q A env ρ s2 μ2 W2 cs g I2 r2) (λZ Z p=>.then I x1 (.then I1 x2 p)) λZ Z e=>e
def FS (B:Bs) (μ W:List Addr) (h:Heap) (vs:List V) (cs:List Value):Prop:=
 vs.casesOn (cs=[]) λv vs=>∃c cs',cs=c::cs'/\l_ B μ W h v c/\i_ B μ W h vs cs'
theorem i_.inv {vs:List V} (r:i_ B μ W h vs cs):FS B μ W h vs cs:=
 r.casesOn (motive:=λvs cs _=>FS B μ W h vs cs) rfl λa r=>⟨_,_,rfl,a,r⟩
theorem i_.one (r:i_ B μ W h [v] cs):∃c,cs=[c]/\l_ B μ W h v c:=
 hU r.inv λc _ e a r=>⟨c,e.trans (congrArg (c::·) r.inv),a⟩
theorem i_.two {u:V} (r:i_ B μ W h [v,u] cs):∃c d,cs=[c,d]/\l_ B μ W h v c/\l_ B μ W h u d:=
 hU r.inv λc _ e a r=>r.one.elim λd p=>⟨c,d,e.trans (congrArg (c::·) p.1),a,p.2⟩
theorem oC (r:n_ W h vs (ns.map .int)):gO vs ns:=by
 induction ns generalizing vs with
 |nil=>exact(show vs=[]from r.inv)▸.nil
 |cons i ns ih=>exact ko vs r.inv λv QI a r=>gc v a.int_inv λt=>.cons i t (ih r)
theorem qV (r:gO vs ns):n_ W h vs (ns.map .int):=
 r.rec (motive:=λvs ns _=>n_ W h vs (ns.map .int)) .nil λi t _ _ _ r=>.cons (.int i t) r
theorem rC:(sizeLine:Int)<2^62:=by decide
theorem Ap.Zg (hs:xs.length<=sizeLine) (q:Q (dI xs.length) H):Ap B n (.builtin "len") [dT xs] H Q:=by
 intro A env ρ s μ W cs g I r;refine cX cs r.one λc r1=>jU c (Rp.D_ r1:_) λa vs Z t rs=>?_;have e:vs.size=xs.length:=by have:=rs.length;simpa using this
 have:=rC;refine PyProof.Rows.len_tuple t (e▸xL (aB hs (by decide))) ?_;exact ah _ e (.tok I _ (v:=dI _) (Rp.int _ _) q)
theorem Ap.Zh (hl:Mo H v xs) (hs:xs.length<=sizeLine) (q:Q (dI xs.length) H):Ap B n (.builtin "len") [v] H Q:=by
 intro A env ρ s μ W cs g I r;refine cX cs r.one λc r1=>ko c (hl.list I r1:_) λa vs t rs=>?_;have e:vs.size=xs.length:=by have:=rs.length;simpa using this
 have:=rC;refine qa t (e▸xL (aB hs (by decide))) ?_;exact ah _ e (.tok I _ (v:=dI _) (Rp.int _ _) q)
theorem Ap.max2 (q:Q (dI (max i j)) H):Ap B n (.builtin "max") [dI i,dI j] H Q:=by
 intro A env ρ s μ W cs g I r;refine ko cs r.two λc d r1 r2=>gc c (Rp.int_inv r1:_) λt=>gc d (Rp.int_inv r2:_) λu=>max_two_ints g.1 λh' tk k=>.keeps I (cY _ _ rfl) k (v:=dI (max i j)) ?_ q;have:max i j=if j>i then j else i:=if h:j>i then(nN (dF h)).trans (if_pos h).symm else(Int.max_eq_left (Int.not_lt.mp h)).trans (if_neg h).symm;refine ah _ this ?_
 split
 ·exact Rp.int _ _
 ·exact Rp.int _ _
theorem Ap.min2 (q:Q (dI (min i j)) H):Ap B n (.builtin "min") [dI i,dI j] H Q:=by
 intro A env ρ s μ W cs g I r;refine ko cs r.two λc d r1 r2=>gc c (Rp.int_inv r1:_) λt=>gc d (Rp.int_inv r2:_) λu=>min_two_ints g.1 λh' tk k=>.keeps I (cY _ _ rfl) k (v:=dI (min i j)) ?_ q;have:min i j=if j<i then j else i:=if h:j<i then(uC (dF h)).trans (if_pos h).symm else(Int.min_eq_left (Int.not_lt.mp h)).trans (if_neg h).symm;refine ah _ this ?_
 split
 ·exact Rp.int _ _
 ·exact Rp.int _ _
theorem lc {vs:Array Value} (hi:gO vs.toList ns):∃xs,vs=nu xs/\ns=xs.toList.map (·.1):=by
 refine bm hi.allInts.items λxs e=>(aN xs (by simpa using e) ?_)
 (refine ah _ (hi.numsOf ..).symm ?_;refine ah _ (nums_intItems ..).symm ?_;refine ah _ e.symm rfl)
theorem Ap.Rn (IQ:0<ns.length) (q:∀M,M∈ns->(∀a,a∈ns->a<=M)->Q (dI M) H):Ap B n (.builtin "max") [dL (ns.map .int)] H Q:=by
 intro A env ρ s μ W cs g I r;refine cX cs r.one λc r1=>jU c (Rp.IF r1:_) λa vs Z l rs=>?_;refine aG (lc (oC rs):_) λxs JE K9=>?_;obtain rfl:=JE;have u_:0<xs.size:=by have h3:=IQ;rw[K9,af,aF]at h3;exact h3
 refine max_intList g.1 l u_ λv h' tk hv hk=>gc v (rZ hv:_) λt=>bh (argBest_gt (Di xs) (xs.size - 1):_) λh1 h2=>.keeps I (cY _ _ rfl) hk (v:=dI _) (Rp.int _ _) (q _ ?_ λa ha=>?_)
 ·(refine ah _ K9 ?_;refine ah _ (s6 ..) ?_);exact getD_mem (by(refine ah _ (af ..) ?_;refine ah _ (aF ..) ?_);exact te u_ h1)
 ·rw[K9]at ha;refine ig a (mem_getD ha:_) λj hj=>?_;rw[af,aF]at hj;refine ah _ (s6 ..).symm ?_;exact h2 j (qb hj)
theorem Ap.Rk (IQ:0<ns.length) (q:∀M,M∈ns->(∀a,a∈ns->M<=a)->Q (dI M) H):Ap B n (.builtin "min") [dL (ns.map .int)] H Q:=by
 intro A env ρ s μ W cs g I r;refine cX cs r.one λc r1=>jU c (Rp.IF r1:_) λa vs Z l rs=>?_;refine aG (lc (oC rs):_) λxs Kp K9=>?_;obtain rfl:=Kp;have u_:0<xs.size:=by have h3:=IQ;rw[K9,af,aF]at h3;exact h3
 refine min_intList g.1 l u_ λv h' tk hv hk=>gc v (rZ hv:_) λt=>bh (argBest_lt (Di xs) (xs.size - 1):_) λh1 h2=>.keeps I (cY _ _ rfl) hk (v:=dI _) (Rp.int _ _) (q _ ?_ λa ha=>?_)
 ·(refine ah _ K9 ?_;refine ah _ (s6 ..) ?_);exact getD_mem (by(refine ah _ (af ..) ?_;refine ah _ (aF ..) ?_);exact te u_ h1)
 ·rw[K9]at ha;refine ig a (mem_getD ha:_) λj hj=>?_;rw[af,aF]at hj;refine ah _ (s6 ..).symm ?_;exact h2 j (qb hj)
theorem Ap.Zl (q:Q (dI i) H):Ap B n (.type "int") [dI i] H Q:=by
 intro A env ρ s μ W cs g I r;exact cX cs r.one λc r1=>gc c (Rp.int_inv r1:_) λt=>call_int_int (.keeps I (cY _ _ rfl) (λZ Z e=>e) (v:=dI i) (Rp.int _ _) q)
theorem Ap.Le (q:Q (dT xs) H):Ap B n (.type "tuple") [dT xs] H Q:=by
 intro A env ρ s μ W cs g I r;refine cX cs r.one λc r1=>?_;refine lQ (Rp.D_ r1:_) λa vs MM Z t rs=>?_;obtain rfl:=MM;exact call_tuple_tup t (.keeps I (cY _ _ rfl) (λZ Z e=>e) (v:=dT xs) r1 q)
theorem Ap.Z4 (hl:Mo H v xs) (hs:xs.length<=sizeLine) (q:Q (dT xs) H):Ap B n (.type "tuple") [v] H Q:=by
 intro A env ρ s μ W cs g I r;refine cX cs r.one λc r1=>ko c (hl.list I r1:_) λa vs t rs=>?_;have e:vs.size=xs.length:=by have:=rs.length;simpa using this
 refine call_tuple_list t (λh' k=>?_) (by refine ah _ e ?_;exact hs);have I':=I.keeps (s':={s with heap:=h'}) (cY _ _ rfl) k;have:=A_.tup I' (vs:=vs.toList) (k:=0) (t:=s.toks) (rs.keeps k) q;exact .then I (Ext.keeps (s':={s with heap:=h'}) k) (by simpa using this)
theorem FT (hl:Mo H v xs∨v=dT xs) (I:Inv B env ρ H μ W s) (r:l_ B μ W s.heap v c):
 ∃a o items k T,c=.ref a/\(T="list"∨T="tuple")/\s.heap.get? a=IC o/\o.cls=.type T/\o.data=.seq items k/\n_ W s.heap items.toList xs:=by
 rcases hl with hl|rfl
 ·refine ko c (hl.list I r:_) λa vs ML rs=>?_;refine cP ML λo h1 h2 Qt=>?_;refine bm Qt λk h3=>?_;exact(TB a o vs k ("list") rfl (.inl rfl) h1 h2 h3 rs)
 ·refine jU c (Rp.D_ r:_) λa vs Z YE rs=>?_;refine cP YE λo h1 h2 Qs=>?_;refine bm Qs λk h3=>?_;exact(TB a o vs k ("tuple") rfl (.inr rfl) h1 h2 h3 rs)
theorem A_.Uf (I:Inv B env ρ H μ W s) {vs:Array Value} {c:Nat} (k:∀b o,s.heap.get? b=IC o->h'.get? b=IC o)
 (e:h'.get? s.heap.objs.size=IC {cls:=.type "list",dict:=ID,data:=.seq vs c,slots:=#[]}) (r:n_ W s.heap vs.toList ds) (q:Q (dL ds) H):A_ B env ρ μ W s Q (.ref s.heap.objs.size) {s with heap:=h',toks:=t}:=
 .keeps I (cY _ _ rfl) k (v:=dL ds) (Rp.list (I.out (aq _)) e (r.keeps k)) q
theorem Ap.Ui (hl:Mo H v xs∨v=dT xs) (hs:xs.length<=sizeLine) (q:Q (dL xs) H):Ap B n (.type "list") [v] H Q:=by
 intro A env ρ s μ W cs g I r;refine cX cs r.one λc r1=>Tt c (FT hl I r1:_) λa o vs k T hT ho hc hd rs=>?_;have e:vs.size=xs.length:=by have:=rs.length;simpa using this
 exact call_list_seq a hT ho hc hd (λh' c' k' e'=>.Uf I k' e' rs q) (by refine ah _ e ?_;exact hs)
theorem qc {f:Nat->Int}:∀{k:Nat},(∀i,i<k->f i=g i)->uG f k=uG g k
 |0,_=>rfl
 |k+1,h=>by
  show uG f k+f k=uG g k+g k
  (refine ah _ (qc (k:=k) λi hi=>h i (Nat.lt_add_right 1 hi) ..) ?_;refine ah _ (h k X9 ..) rfl)
theorem rD (l:List Int):∀k,k<=l.length->uG (λi=>l.getD i 0) k=(l.take k).sum
 |0,_=>by simp[uG]
 |k+1,h=>by
  show uG _ k+l.getD k 0=_;have e:l[k]?=IC l[k]:=aJ h;have e3:l.getD k 0=l[k]:=PySem.getD_at h;have e2:List.take (k+1) l=List.take k l++[l[k]]:=by(refine ah _ (bD ..) ?_;refine ah _ e ?_);rfl
  (refine ah _ (rD l k (g6 h) ..) ?_;refine ah _ e2 ?_;refine ah _ (List.sum_append ..) ?_;refine ah _ e3 ?_)
  simp
theorem xV (xs:Array (Int×Tok)):uG (Di xs) xs.size=(xs.toList.map (·.1)).sum:=by
 have:=rD (xs.toList.map (·.1)) xs.size (by simp);rw[jA (by simp)]at this;refine ah _ this.symm (qc λi hi=>?_);exact s6 xs i
theorem Ap.sum (q:Q (dI ns.sum) H):Ap B n (.builtin "sum") [dL (ns.map .int)] H Q:=by
 intro A env ρ s μ W cs g I r;refine aG r.one λc YC r1=>?_;obtain rfl:=YC;refine jU c (Rp.IF r1:_) λa vs Z l rs=>?_;refine aG (lc (oC rs):_) λxs YA K9=>?_;obtain rfl:=YA;refine call_sum_walkG (iter_intList l λs₂ e st N9 Mk=>?_);subst e;refine(YS _ _ _ _ _ _ (Di xs) rfl (nP (A:=A.in1) g.1 _ a Mk (nu xs)) st N9 ((λZ Z=>rZ)) (λh' tk t' hk=>?_));refine .keeps I (cY _ _ rfl) (old_kept hk) (v:=dI ns.sum) ?_ q;have:uG (Di xs) (nu xs).size=ns.sum:=by
  have e1:(nu xs).size=xs.size:=by simp[nu]
  (refine ah _ e1 ?_;refine ah _ K9 ?_)
  exact xV xs
 exact ah _ this (Rp.int _ _)
theorem FU (r:n_ W h vs (bs.map .bool)) (i:Nat) (v:Value) (e:vs[i]?=IC v):v=.bool (bs.getD i false):=
 aG (r.nth e) λd e a=>by
  rw[aK]at e;obtain⟨b,e1,rfl⟩:=Option.map_eq_some_iff.mp e
  (refine ah _ (a.bool_inv ..) ?_;refine ah _ (bk ..) ?_;refine ah _ e1 ?_);rfl
theorem Dj (bs:List Bool):((bl bs.length).all λi=>bs.getD i false)=bs.all id:=by
 rw[kY,um,um]
 constructor
 ·intro h b hb;refine bm (List.mem_iff_getElem.mp hb:_) λi Qr=>?_;refine FB b Qr λhi=>?_;have:=h i (List.mem_range.mpr hi)
  simpa [List.getD,hi]using this
 ·intro h i hi;have hi:=List.mem_range.mp hi;have:=h bs[i] (nK hi)
  simpa [List.getD,hi]using this
theorem qW {l:Addr} {items:Array Value} (hl:s.heap.IsList l items)
 (h:∀s₂:aD,s₂={s with heap:=s.heap.push {cls:=.type "list_iterator",data:=.fields #[.ref l,.int 0 0]}}->
  (s₂.heap.IsListIter s.heap.objs.size l 0/\s₂.heap.IsList l items)->(∀b∈[s.heap.objs.size,l],b<s₂.heap.objs.size)->l≠s.heap.objs.size->R (.ref s.heap.objs.size) s₂):
 aC B.M A (l4 (.ref l)) R E s:=by
 have r_:l<s.heap.objs.size:=by refine aG hl λZ e Z=>?_;exact b0 e
 refine w8 hl (h _ rfl ⟨(bA _ (aH _ rfl) rfl rfl),hl.push _⟩ (λb hb=>?_) (bf r_));show b<(s.heap.push _).objs.size;refine ah _ (bz ..) ?_;rcases List.mem_cons.mp hb with rfl|hb
 ·exact bV _
 ·rcases List.mem_cons.mp hb with rfl|hb
  ·exact cq r_
  ·exact de hb
theorem Ap.all (q:Q (dB (bs.all id)) H):Ap B n (.builtin "all") [dL (bs.map .bool)] H Q:=by
 intro A env ρ s μ W cs g I r;refine cX cs r.one λc r1=>jU c (Rp.IF r1:_) λa vs Z l rs=>call_all_walk (qW l λs₂ e st N9 Mk=>?_);subst e;refine(Qz _ _ _ _ _ _ (λi=>bs.getD i false) rfl (nP (A:=A.in1) g.1 _ a Mk vs) st (λi v s Q E hP hQ=>?_) (λh' tk hk=>?_))
 ·have:=FU rs i v (by simpa using hP);subst this;exact kt hQ
 ·have e:vs.size=bs.length:=by have:=rs.length;simpa using this
  refine .keeps I (cY _ _ rfl) (old_kept hk) (v:=dB (bs.all id)) ?_ q
  (refine ah _ e ?_;refine ah _ (Dj ..) ?_)
  exact Rp.bool _
theorem Ap.sortI (hs:ns.length<64) (q:∀KG:List Int,KG.Perm ns->KG.Pairwise (·<=·)->Q (dL (KG.map .int)) H):Ap B n (.builtin "sorted") [dL (ns.map .int)] H Q:=by
 intro A env ρ s μ W cs g I r;refine cX cs r.one λc r1=>jU c (Rp.IF r1:_) λa vs Z l rs=>?_;have hl:=rs.length;refine sorted_ints (vs:=vs.toList) (by simpa using l) (oC rs) (by refine ah _ hl ?_;simpa using hs) λout KG a1 a2 a3=>?_;refine bm (sortedAll_at s.heap vs.toList out:_) λe he=>.keeps I (cY _ _ rfl) (λZ Z=>sortedAll_old) (v:=dL (KG.map .int)) (Rp.list (I.out (cL _)) he (qV a1)) (q KG a2 a3)
variable {ρ':fF} {m m':Str->Option Value} {R:Unit->aD->Prop}
inductive Lb:fF->Str->V->fF->Prop
 |here {x k o v r:_}:k≠Kd.glob/\k≠Kd.sup->Lb ((x,k,o)::r) x v ((x,k,IC v)::r)
 |there {p r x v r':_}:Lb r x v r'->Lb (p::r) x v (p::r')
theorem xW {w:Kd×Option V} {r:fF} (h:(x,w)∈r):x∈r.map (·.1):=aO (f:=(·.1)) h
theorem Lb.keys (z:Lb ρ x v ρ'):ρ'.map (·.1)=ρ.map (·.1):=by
 induction z with
 |here=>rfl
 |there _ ih=>simp[ih]
theorem Lb.mem (z:Lb ρ x v ρ') (nd:(ρ.map (·.1)).Nodup):∃k o,(x,k,o)∈ρ/\(k≠Kd.glob/\k≠Kd.sup)/\∀y w,(y,w)∈ρ'->(y=x/\w=(k,IC v))∨(y≠x/\(y,w)∈ρ):=by
 induction z with
 |@here x k o v r h=>
  simp only[e9,oY]at nd;refine(eu k o ae h (λy w hm=>?_));rcases List.mem_cons.mp hm with e|KL
  ·cases e;exact .inl ⟨rfl,rfl⟩
  ·refine .inr ⟨?_,ag _ KL⟩;rintro rfl;exact nd.1 (xW KL)
 |there z ih=>
  simp only[e9,oY]at nd;refine hU (ih nd.2:_) λk o h1 h2 h3=>(eu k o (ag _ h1) h2 (λy w hm=>?_));rcases List.mem_cons.mp hm with e|hm
  ·subst e;refine .inr ⟨?_,ae⟩;rintro rfl;exact nd.1 (xW h1)
  ·rcases h3 y w hm with h|⟨h,h'⟩
   ·exact .inl h
   ·exact .inr ⟨h,ag _ h'⟩
noncomputable def own (env:pU):List Addr:=env.locals::(dz env).map (·.2)
theorem Inv.J9 (I:Inv B env ρ H μ W s):∀a,a∈own env->a∈W:=λa ha=>by
 rcases List.mem_cons.mp ha with rfl|ha
 ·exact I.q_.Kg
 ·refine xA ha λf_ hm k_=>?_;obtain⟨n,c⟩:=f_;obtain rfl:=k_;exact(I.q_.cells n c hm).1
theorem OC (x:h.Ns a m) (y:h.Ns a m'):m=m':=by
 refine qR x λo es ep ho hd Z hm=>qR y λo' MB ep' SY T8 Z Mf=>?_;rw[ho]at SY;cases SY;rw[hd]at T8;cases T8;funext k;exact Heap.Ns.agree x y k
theorem nQ (I:Inv B env ρ H μ W s) (z:Lb ρ x v ρ') (r:l_ B μ W s.heap v c)
 (q:∀a s',((env.kindOf x=IC .local/\a=env.locals)∨(env.kindOf x=IC .cell/\(dz env).lookup x=IC a))->Inv B env ρ' H μ W s'->Ext [a] μ W s μ W s'->R () s'):aC B.M A (storeName env x c) R (λZ Z=>False) s:=by
  refine hU (z.mem I.nd:_) λkk o hm hr Jl=>?_;have step:∀(a:Addr) (h':Heap) (t:Nat),a∈own env->bN a s.heap h'->h'.get? a≠ID->(∃m,h'.Ns env.locals m)->(∀n c,(n,c)∈(dz env)->∃oc,h'.IsCell c oc)->
   (∀(y:Str) (w:Kd×Option V),(y,w)∈ρ'->JL B μ W h' env y w)->Inv B env ρ' H μ W {s with heap:=h',toks:=t}/\Ext [a] μ W s μ W {s with heap:=h',toks:=t}:=by
   intro a h' t ha IH N3 K9 hcs hv;have S4:=I.J9 a ha;have haM:a∉μ:=by
    rcases List.mem_cons.mp ha with rfl|ha
    ·exact I.q_.Jv
    ·refine xA ha λj_ hm p_=>?_;obtain⟨n,c⟩:=j_;obtain rfl:=p_;exact(I.q_.cells n c hm).2.1
   have kW:hV W s.heap h':=λb o hb e=>(IH.2 b (λq=>hb (q▸S4))).trans e;have f:v_ s.heap W W:=λZ a b=>absurd a b;refine⟨{same:=?_,old:=?_,IE:=I.IE,alive:=?_,o_:=I.o_,IM:=I.IM,len:=I.len,objs:=?_,q_:=?_,nd:=by refine ah _ (z.keys ..) ?_;exact I.nd,vars:=hv},{keep:=λb o hb e=>(IH.2 b (λq=>hb (aR _ (List.mem_singleton.mpr q)))).trans e,pre:=.refl,sub:=λZ h=>h,fresh:=f,IW:=λZ a b=>absurd a b}⟩
   ·exact I.same
   ·exact λb o e=>kW b o (λz=>absurd (b0 e) (Nat.not_lt.mpr (I.IE b z))) (I.old b o e)
   ·intro b hb;by_cases RZ:b=a
    ·subst RZ;exact Option.ne_none_iff_exists'.mp N3
    ·refine bm (I.alive b hb:_) λo e=>?_;exact⟨o,(IH.2 b RZ).trans e⟩
   ·exact λi b o h1 h2=>(I.objs i b o h1 h2).mono kW (λo e=>(IH.2 b (λq=>haM (q▸an h1))).trans e) f .refl
   ·exact{kind:=I.q_.kind,glob:=I.q_.glob,LR:=I.q_.LR,loc:=K9,Kg:=I.q_.Kg,Jv:=I.q_.Jv,cells:=λn c hm=>kn (I.q_.cells n c hm:_) λp q r Z=>(fv p q r (hcs n c hm)),apart:=I.q_.apart,above:=I.q_.above}
  rcases I.vars x (kk,o) hm with⟨hf,hk,hv⟩|⟨hf,hk,a,oc,hl,hc,hv⟩|⟨hf,hk,c,hc,hg⟩|⟨hf,_⟩
  ·refine bm I.q_.loc λm hn=>?_;refine wpAny_storeName_local hk hn (λh' XW IH=>?_) (by refine ah _ (I.q_.kind ..) ?_;rfl);have hlW:=I.q_.Kg;have kW:hV W s.heap h':=λb o hb e=>(IH.2 b (λq=>hb (q▸hlW))).trans e;refine bh (step env.locals h' (s.toks+1) ae IH (by refine pt XW λo Z Z e Z=>?_;refine ah _ e ?_;exact λq=>v8 q) ⟨_,XW⟩
    (λn c hm=>by
     refine kn (I.q_.cells n c hm:_) λp q r s_=>?_;refine gV s_ λoc o ho hd=>?_;exact(ie oc o ((IH.2 c r).trans ho) hd))
    (λy w hy=>by
     rcases Jl y w hy with⟨rfl,rfl⟩|⟨IQ,hy⟩
     ·refine .inl ⟨hf,hk,λv' e=>?_⟩;cases e;exact(eu _ c XW (if_pos rfl) (r.mono kW (λZ a b=>absurd a b) .refl))
     ·rcases I.vars y w hy with⟨N_,MH,OZ⟩|⟨N_,MH,a2,Za,K4,⟨o2,NB,hd2⟩,OZ⟩|hz
      ·refine .inl ⟨N_,MH,λv' e=>?_⟩;refine hU (OZ v' e:_) λm2 c2 RK KL r2=>?_;have:=OC RK hn;subst this;exact(eu _ c2 XW (by simp only[IQ,if_false];exact KL) (r2.mono kW (λZ a b=>absurd a b) .refl))
      ·refine .inr (.inl (mB N_ MH (eu a2 Za K4 (aN o2 ((IH.2 a2 (I.q_.cells y a2 (cB K4)).2.2.1).trans NB) hd2) (λv' e=>?_))));exact aG (OZ v' e:_) λc2 KN r2=>(aN c2 KN (r2.mono kW (λZ a b=>absurd a b) .refl))
      ·exact .inr (.inr hz)):_) λI' x'=>?_
   exact q _ _ (.inl ⟨hk,rfl⟩) I' x'
  ·refine wpAny_storeName_cell I.q_.kind hk (lq hl) hc (λh' hc' IH=>?_);refine kn (I.q_.cells x a (cB hl):_) λS4 haM haL Z=>?_;have kW:hV W s.heap h':=λb o hb e=>(IH.2 b (λq=>hb (q▸S4))).trans e;refine bh (step a h' s.toks (ag _ (aO (f:=(·.2)) (cB hl))) IH (by refine aG hc' λo e Z=>?_;refine ah _ e ?_;exact λq=>v8 q)
    (by refine bm I.q_.loc λm hn=>?_;exact⟨m,hn.sameBut IH (di haL)⟩)
    (λn2 c2 KL=>by
     by_cases e:c2=a
     ·subst e;exact⟨_,hc'⟩
     ·refine kn (I.q_.cells n2 c2 KL:_) λZ Z Z C_=>?_;refine gV C_ λoc o ho hd=>?_;exact(ie oc o ((IH.2 c2 e).trans ho) hd))
    (λy w hy=>by
     rcases Jl y w hy with⟨rfl,rfl⟩|⟨IQ,hy⟩
     ·refine .inr (.inl (mB hf hk (eu a (IC c) hl hc' (λv' e=>?_))));cases e;exact(aN c rfl (r.mono kW (λZ a b=>absurd a b) .refl))
     ·rcases I.vars y w hy with⟨N_,MH,OZ⟩|⟨N_,MH,a2,Za,K4,⟨o2,NB,hd2⟩,OZ⟩|hz
      ·refine .inl ⟨N_,MH,λv' e=>?_⟩;exact hU (OZ v' e:_) λm2 c2 RK KL r2=>(eu m2 c2 (RK.sameBut IH (di haL)) KL (r2.mono kW (λZ a b=>absurd a b) .refl))
      ·have RJ:a2≠a:=λe=>IQ (name_of_addr I.q_.apart (cB K4) (e▸cB hl));refine .inr (.inl (mB N_ MH (eu a2 Za K4 (aN o2 ((IH.2 a2 RJ).trans NB) hd2) (λv' e=>?_))));exact aG (OZ v' e:_) λc2 KN r2=>(aN c2 KN (r2.mono kW (λZ a b=>absurd a b) .refl))
      ·exact .inr (.inr hz)):_) λI' x'=>?_
   exact q _ _ (.inr ⟨hk,hl⟩) I' x'
  ·exact absurd hf hr.1
  ·exact absurd hf hr.2
theorem lf (I:Inv B env ρ H μ W s) (z:Lb ρ x v ρ') (r:l_ B μ W s.heap v c)
 (q:∀s',Inv B env ρ' H μ W s'->Ext (own env) μ W s μ W s'->R () s'):aC B.M A (storeName env x c) R (λZ Z=>False) s:=
  nQ I z r λa s' h I' x'=>q s' I' (x'.wide λb hb=>by
   cases List.mem_singleton.mp hb;rcases h with⟨_,rfl⟩|⟨_,h⟩
   ·exact ae
   ·exact ag _ (aO (f:=(·.2)) (cB h)))
variable {o:Expr} {i:Nat} {apos:FL}
theorem Inv.TP (I:Inv B env ρ H μ W s) (hi:μ[i]?=IC a) (t:Nat) (IH:∀b o,b≠a->s.heap.get? b=IC o->h'.get? b=IC o) (r:Jq B μ W h' a ao):
 Inv B env ρ (H.set i ao) μ W {s with heap:=h',toks:=t}/\Ext [] μ W s μ W {s with heap:=h',toks:=t}:=by
 have Y8:a∈μ:=an hi;have S4:=I.o_ a Y8;have kW:hV W s.heap h':=λb o hb e=>IH b o (λq=>hb (q▸S4)) e;have f:v_ s.heap W W:=λZ a b=>absurd a b;have hl:env.locals≠a:=λq=>I.q_.Jv (q▸Y8);have hc:∀n c,(n,c)∈(dz env)->c≠a:=λn c hm q=>(I.q_.cells n c hm).2.1 (q▸Y8);refine⟨{same:=?_,old:=?_,IE:=I.IE,alive:=?_,o_:=I.o_,IM:=I.IM,len:=by refine ah _ (dC ..) ?_;exact I.len,objs:=?_,q_:=?_,nd:=I.nd,vars:=?_},{keep:=λb o hb e=>IH b o (λq=>hb (az _ (q▸Y8))) e,pre:=.refl,sub:=λZ h=>h,fresh:=f,IW:=λZ a b=>absurd a b}⟩
 ·exact I.same
 ·exact λb o e=>kW b o (λz=>absurd (b0 e) (Nat.not_lt.mpr (I.IE b z))) (I.old b o e)
 ·intro b hb;by_cases RZ:b=a
  ·subst RZ;exact r.some
  ·refine bm (I.alive b hb:_) λo e=>?_;exact⟨o,IH b o RZ e⟩
 ·intro j b o h1 h2;by_cases Q6:j=i
  ·subst Q6;rw[hi]at h1;cases h1;rw[mE]at h2;have r_:j<H.length:=by refine ah _ (I.len ..).symm ?_;exact(List.getElem?_eq_some_iff.mp hi).1
   simp[r_]at h2;subst h2;exact r
  ·rw[cE (di Q6)]at h2;have RZ:b≠a:=λq=>by
    subst q;have hj:=List.getElem?_eq_some_iff.mp h1;have LO:=List.getElem?_eq_some_iff.mp hi;exact Q6 ((un I.IM).mp (hj.2.trans LO.2.symm))
   exact(I.objs j b o h1 h2).mono kW (λo e=>IH b o RZ e) f .refl
 ·exact I.q_.mono (λZ h=>h) (λZ a b=>absurd a b) (λo e=>IH _ o hl e) (λn c hm o e=>IH _ o (hc n c hm) e)
 ·exact λx ov hm=>(I.vars x ov hm).mono kW f .refl (λo e=>IH _ o hl e) (λc Lv o e=>IH _ o (hc x c (cB Lv)) e)
theorem Inv.upd (I:Inv B env ρ H μ W s) (hi:μ[i]?=IC a) (t:Nat) (IH:bN a s.heap h') (r:Jq B μ W h' a ao):
 Inv B env ρ (H.set i ao) μ W {s with heap:=h',toks:=t}/\Ext [] μ W s μ W {s with heap:=h',toks:=t}:=I.TP hi t (λb o hb e=>(IH.2 b hb).trans e) r
theorem A_.upd (I:Inv B env ρ H μ W s) (hi:μ[i]?=IC a) (t:Nat) (IH:bN a s.heap h') (r:Jq B μ W h' a ao)
 (rv:l_ B μ W s.heap v c) (q:Q v (H.set i ao)):A_ B env ρ μ W s Q c {s with heap:=h',toks:=t}:=by
 exact bh (I.upd hi t IH r:_) λI' x=>(pI v _ _ _ q I' x (rv.ext I x))
theorem n_.at (I:Inv B env ρ H μ W s) (ha:a∈μ) (IH:bN a s.heap h') (r:n_ W s.heap vs ds):n_ W h' vs ds:=
 r.mono (λb o hb e=>(IH.2 b (λq=>hb (q▸I.o_ a ha))).trans e) (λZ a b=>absurd a b)
theorem Rp.at' (I:Inv B env ρ H μ W s) (ha:a∈μ) (IH:bN a s.heap h') {v:Value} {d:PyData} (r:Rp W s.heap v d):Rp W h' v d:=
 r.mono (λb o hb e=>(IH.2 b (λq=>hb (q▸I.o_ a ha))).trans e) (λZ a b=>absurd a b)
theorem mF {items:Array Value} (p:s.heap.PlainList a items):s.TypeIs (.ref a) "list"/\(∀b,dK a=.ref b->∃ob,s.heap.get? b=IC ob/\ob.dict=ID):=by
 refine bm p λn e=>?_;exact⟨(aN _ e rfl),λb q=>by cases q;exact(aN _ e rfl)⟩
theorem Ev.append (h:Ev B n o ρ H λa H1=>∃i xs,a=.loc i/\H1[i]?=IC (.list xs)/\Ev B n e ρ H1 λv H2=>∃d ys,v=.dat d/\H2[i]?=IC (.list ys)/\ys.length<=sizeLine/\Q dN (H2.set i (.list (ys++[d]))))
 (JK:∀env,fG o "append" env (dq o env)=dq o env:=by intro _;rfl) (JI:(apos.endLine==pos.line)=true:=by rfl) (hp:fb [e]=true:=by rfl)
 (Ll:∀env,((gy pos (cJ [e] env)).all (λx=>!x.1)&&(j6 pos (f7 [] env)).all (λx=>x.1.isSome)&&decide ([e].length+([]:List jB).length+(if([]:List jB).isEmpty then 0 else 1)<30))=true:=by intro _;rfl)
 (hs:∀env,cJ [e] env=(false,dq e env)::cJ [] env:=by intro _;rfl):
 Ev B n (.Call (.Attribute o "append" apos) [e] [] pos) ρ H Q:=by
 intro A env s μ W g I;refine oE (JK env) (Ll env) JI ja slot_list_append type_list_append (h.then g I λa H1 μ1 W1 ca s1 h1 I1 x1 r1=>?_);refine hU h1 λi xs f_ hi hE=>?_;obtain rfl:=f_;refine aG r1 λl hl k_=>?_;obtain rfl:=k_;refine aG (I1.objs _ _ _ hl hi:_) λitems p rs=>bh (mF p:_) λt1 t2=>⟨t1,t2,fy (.inl ⟨_,rfl⟩) hp ?_⟩;rw[hs];refine l5 (hE.then g I1 λv H2 μ2 W2 c s2 h2 I2 x2 r2=>lu ⟨I2.KH,?_⟩);refine lQ h2 λd ys j_ Mx u_ q=>?_;obtain rfl:=j_;have K4:=x2.pre.get hl;refine aG (I2.objs _ _ _ K4 Mx:_) λLi p2 MW=>?_;have hlen:=MW.length;simp only[aF]at hlen;refine wpAny_list_append_plain p2 (λh' p' IH=>?_) (by refine ah _ hlen ?_;exact u_);have hm:=an K4;exact .then I x1 (.then I1 x2 (.upd I2 K4 _ IH (ao:=.list (ys++[d])) (aN _ p' (by refine ah _ (mx ..) ?_;exact(MW.at I2 hm IH).snoc (Rp.at' I2 hm IH r2))) (v:=dN) Rp.none q))
theorem Ev.extend (h:Ev B n o ρ H λa H1=>∃i xs,a=.loc i/\H1[i]?=IC (.list xs)/\Ev B n e ρ H1 λv H2=>∃ds ys,v=dL ds/\H2[i]?=IC (.list ys)/\ys.length+ds.length<=sizeLine/\Q dN (H2.set i (.list (ys++ds))))
 (JK:∀env,fG o "extend" env (dq o env)=dq o env:=by intro _;rfl) (JI:(apos.endLine==pos.line)=true:=by rfl) (hp:fb [e]=true:=by rfl)
 (Ll:∀env,((gy pos (cJ [e] env)).all (λx=>!x.1)&&(j6 pos (f7 [] env)).all (λx=>x.1.isSome)&&decide ([e].length+([]:List jB).length+(if([]:List jB).isEmpty then 0 else 1)<30))=true:=by intro _;rfl)
 (hs:∀env,cJ [e] env=(false,dq e env)::cJ [] env:=by intro _;rfl):
 Ev B n (.Call (.Attribute o "extend" apos) [e] [] pos) ρ H Q:=by
 intro A env s μ W g I;refine oE (JK env) (Ll env) JI ja w9 wa (h.then g I λa H1 μ1 W1 ca s1 h1 I1 x1 r1=>?_);refine hU h1 λi xs p_ hi hE=>?_;obtain rfl:=p_;refine aG r1 λl hl s_=>?_;obtain rfl:=s_;refine aG (I1.objs _ _ _ hl hi:_) λitems p rs=>bh (mF p:_) λt1 t2=>⟨t1,t2,?_⟩;rw[hs];refine PySem.P.extend_list (hE.then g I1 λv H2 μ2 W2 c s2 h2 I2 x2 r2=>?_);refine lQ h2 λds ys C_ Mx u_ q=>?_;obtain rfl:=C_;have K4:=x2.pre.get hl;refine aG (I2.objs _ _ _ K4 Mx:_) λLi II MW=>?_;refine bm II λk p2=>?_;refine lQ (Rp.L8 r2:_) λb vs IY hb JR SO=>?_;obtain rfl:=IY;refine bm JR λk2 pb=>?_;have e1:Li.size=ys.length:=by have:=MW.length;simpa using this
 have e2:vs.size=ds.length:=by have:=SO.length;simpa using this
 have hm:=an K4;have IH:bN l s2.heap (s2.heap.update l (dw λxs=>xs++vs)):=.update ..;refine(NU b Li vs k k2 (W7 u_ e1) (VT u_ e1 e2) (extend_door (VU u_ e1 e2)) rfl p2 pb ?_);refine .then I x1 (.then I1 x2 (.upd I2 K4 _ IH (ao:=.list (ys++ds)) (aN (Li++vs) ⟨_,lT p2 λxs=>xs++vs⟩ ?_) (v:=dN) Rp.none q));exact ah _ (Array.toList_append ..) ((MW.at I2 hm IH).append (SO.at I2 hm IH))
theorem Ev.Z_ (h:Ev B n o ρ H λa H1=>∃i xs d,a=.loc i/\H1[i]?=IC (.list (xs++[d]))/\xs.length<sizeLine/\Q (.dat d) (H1.set i (.list xs)))
 (JK:∀env,fG o "pop" env (dq o env)=dq o env:=by intro _;rfl) (JI:(apos.endLine==pos.line)=true:=by rfl)
 (Ll:∀env,((gy pos (cJ [] env)).all (λx=>!x.1)&&(j6 pos (f7 [] env)).all (λx=>x.1.isSome)&&decide (([]:List Expr).length+([]:List jB).length+(if([]:List jB).isEmpty then 0 else 1)<30))=true:=by intro _;rfl):
 Ev B n (.Call (.Attribute o "pop" apos) [] [] pos) ρ H Q:=by
 intro A env s μ W g I;refine oE (JK env) (Ll env) JI ja PySem.F.slot_list_pop PySem.F.type_list_pop (h.then g I λa H1 μ1 W1 ca s1 h1 I1 x1 r1=>?_);refine qR h1 λi xs d Ko hi u_ q=>?_;obtain rfl:=Ko;refine aG r1 λl hl J7=>?_;obtain rfl:=J7;refine aG (I1.objs _ _ _ hl hi:_) λitems p rs=>bh (mF p:_) λt1 t2=>⟨t1,t2,?_⟩;refine bm p λk p=>?_;have e1:items.size=xs.length+1:=by have:=rs.length;simpa using this
 refine aG (rs.get (i:=xs.length) (d:=d) (fi):_) λy hy ry=>?_;have hm:=an hl;have IH:bN l s1.heap (s1.heap.update l (dw λxs=>xs.eraseIdxIfInBounds (items.size - 1))):=.update ..;refine PySem.P.pop_list p (y:=y) (by refine ah _ e1 ?_;simpa using hy) ?_ (le_of_eq_of_le e1 u_);refine .then I x1 (.upd I1 hl _ IH (ao:=.list xs) (aN _ ⟨_,lT p λxs=>xs.eraseIdxIfInBounds (items.size - 1)⟩ ?_) (v:=.dat d) ry q);have e2:(items.eraseIdxIfInBounds (items.size - 1)).toList=items.toList.take xs.length:=by
  refine ah _ e1 ?_;have hlen:=rs.length;rw[Array.eraseIdxIfInBounds];simp only[e1,Nat.add_sub_cancel,bV,dif_pos]
  (refine ah _ (Array.toList_eraseIdx ..) ?_;refine ah _ (List.eraseIdx_eq_take_drop_succ ..) ?_)
  have:items.toList.drop (xs.length+1)=[]:=C2 (by refine ah _ hlen ?_;exact Qn hlen (id (kI e1)))
  (refine ah _ this ?_;refine ah _ (dh ..) rfl)
 refine ah _ e2 ?_;have:=(rs.at I1 hm IH).take xs.length
 simpa using this
variable {Q Q':iY->fF->List a_->Prop} {t:Expr} {f:Flow} {o:List Addr} {ts:List Expr} {xs:List Str} {vs:List V} {P:Prop}
def As (B:Bs) (n:Nat) (t:Expr) (ρ:fF) (H:List a_) (v:V) (Q:fF->List a_->Prop):Prop:=
 ∀A env s μ W c,Good n A->Inv B env ρ H μ W s->l_ B μ W s.heap v c->
  aC B.M A (assign t env c) (λZ s'=>∃ρ' H' μ' W',Q ρ' H'/\Inv B env ρ' H' μ' W' s'/\Ext (own env) μ W s μ' W' s') (λZ Z=>False) s
def Nt (B:Bs) (n:Nat) (ts:List Expr) (ρ:fF) (H:List a_) (vs:List V) (Q:fF->List a_->Prop):Prop:=
 ∀A env s μ W cs,Good n A->Inv B env ρ H μ W s->i_ B μ W s.heap vs cs->
  aC B.M A (lh ((gz ts env).map (·.2)) cs) (λZ s'=>∃ρ' H' μ' W',Q ρ' H'/\Inv B env ρ' H' μ' W' s'/\Ext (own env) μ W s μ' W' s') (λZ Z=>False) s
theorem aE {Q:fF->List a_->Prop} (h:∃ρ' H' μ' W',Q ρ' H'/\Inv B env ρ' H' μ' W' s'/\Ext o μ W s μ' W' s') (f:∀ρ' H' μ' W',Q ρ' H'->Inv B env ρ' H' μ' W' s'->Ext o μ W s μ' W' s'->P):P:=QC h f
theorem aI {Q:fF->List a_->Prop} (ρ':fF) (H':List a_) (μ' W':List Addr) (q:Q ρ' H') (I:Inv B env ρ' H' μ' W' s') (x:Ext o μ W s μ' W' s'):∃ρ' H' μ' W',Q ρ' H'/\Inv B env ρ' H' μ' W' s'/\Ext o μ W s μ' W' s':=TC ρ' H' μ' W' q I x
theorem l_.ext' (I:Inv B env ρ H μ W s) (ho:∀a,a∈o->a∈W) (x:Ext o μ W s μ' W' s') (r:l_ B μ W s.heap v c):l_ B μ' W' s'.heap v c:=
 r.mono (x.JU I.o_ ho) x.fresh x.pre
theorem i_.ext' (I:Inv B env ρ H μ W s) (ho:∀a,a∈o->a∈W) (x:Ext o μ W s μ' W' s') (r:i_ B μ W s.heap vs cs):i_ B μ' W' s'.heap vs cs:=
 r.rec (motive:=λvs cs _=>i_ B μ' W' s'.heap vs cs) .nil λa _ r=>.cons (a.ext' I ho x) r
theorem As.name {Q:fF->List a_->Prop} (z:Lb ρ x v ρ') (q:Q ρ' H):As B n (.Name x pos) ρ H v Q:=by
 intro A env s μ W c g I r;exact oF (lf I z r λs' I' x'=>(aI ρ' H μ W q I' x'))
theorem Nt.nil {Q:fF->List a_->Prop} (q:Q ρ H):Nt B n [] ρ H [] Q:=
 λA env s μ W cs g I r=>(show cs=[]from r.inv)▸ai (aI ρ H μ W q I .refl)
theorem Nt.cons {Q:fF->List a_->Prop} (h:As B n t ρ H v λρ1 H1=>Nt B n ts ρ1 H1 vs Q)
 (hs:∀env,gz (t::ts) env=(false,assign t env)::gz ts env:=by intro _;rfl):Nt B n (t::ts) ρ H (v::vs) Q:=by
 intro A env s μ W cs g I r;refine ko cs r.inv λc cs r1 r2=>?_
 ·rw[hs];show aC B.M A (do iG cs (assign t env c);lh ((gz ts env).map (·.2)) cs) _ _ s;refine aa (aV (aM (h A env s μ W c g I r1) (λZ s1 IV=>?_) λZ Z e=>e));refine aE IV λρ1 H1 μ1 W1 h1 I1 x1=>?_;refine aM (h1 A env s1 μ1 W1 cs g I1 (r2.ext' I I.J9 x1)) (λZ s2 IV=>by refine aE IV λρ2 H2 μ2 W2 q I2 x2=>?_;exact(aI ρ2 H2 μ2 W2 q I2 (x1.trans x2 I.o_ I.J9))) λZ Z e=>e
theorem C3 (h:kdsPlain t=true):gz (t::ts) env=(false,assign t env)::gz ts env:=by
 revert h;cases t<;>first|exact λ_=>rfl|exact λh=>absurd h aA
theorem jv (env:pU):fb ts=true->(gz ts env).findIdx? (·.1)=ID/\(gz ts env).length=ts.length:=by
 induction ts with
 |nil=>exact λ_=>⟨rfl,rfl⟩
 |cons t ts ih=>
  intro h;have h:=Bool.and_eq_true_iff.mp h
  (refine ah _ (C3 h.1 ..) ?_;refine ah _ (List.findIdx?_cons ..) ?_;refine ah _ ((ih h.2).1 ..) ?_)
  exact⟨rfl,congrArg (·+1) (ih h.2).2⟩
theorem mG (e:Heap.ExtBut s.heap.objs.size s.heap h'):∀b o,s.heap.get? b=IC o->h'.get? b=IC o:=λb o q=>e b o (bf (b0 q)) q
theorem i_.PO (r:n_ W h cs ds):i_ B μ W h (ds.map V.dat) cs:=
 r.ind (P:=λcs ds=>i_ B μ W h (ds.map V.dat) cs) .nil λ_ _ _ _ a r=>.cons a r
theorem As.tuple {Q:fF->List a_->Prop} (h:Nt B n ts ρ H (ds.map V.dat) Q) (hl:ts.length=ds.length:=by rfl) (hp:fb ts=true:=by rfl):As B n (.Tuple ts k pos) ρ H (dT ds) Q:=by
 intro A env s μ W c g I r;refine jU c (Rp.D_ r:_) λa vs Z t rs=>bh (jv env hp:_) λe1 e2=>ah _ (xX ..) (aa (bw ?_));unfold unpack
 (refine ah _ e1 ?_;refine ah _ e2 ?_)
 have e3:ts.length=vs.size:=by have:=rs.length;simp at this;exact Vx hl this
 refine ah _ e3 (aa (aV (oG g.1 t λh' he=>?_)));have k:=mG he;have I':=I.keeps (s':={s with heap:=h'}) (cY _ _ rfl) k;exact aM (h A env {s with heap:=h'} μ W vs.toList g I' (.PO (rs.keeps k))) (λZ s2 f_=>aE f_ λρ2 H2 μ2 W2 q I2 x2=>(aI ρ2 H2 μ2 W2 q I2 ((Ext.keeps (s:=s) (s':={s with heap:=h'}) k).trans x2 I.o_ I.J9))) λZ Z e=>e
inductive iY where
 |next
 |ret (v:V)
noncomputable def SG (B:Bs) (μ W:List Addr) (h:Heap):iY->Flow->Prop
 |.next,f=>f=.next
 |.ret v,f=>∃c,f=.ret c/\l_ B μ W h v c
def Jc (B:Bs) (env:pU) (μ W:List Addr) (s:aD) (Q:iY->fF->List a_->Prop) (f:Flow) (s':aD):Prop:=
 ∃fl ρ' H' μ' W',Q fl ρ' H'/\Inv B env ρ' H' μ' W' s'/\Ext (own env) μ W s μ' W' s'/\SG B μ' W' s'.heap fl f
theorem xE (h:Jc B env μ W s Q f s') (k:∀fl ρ' H' μ' W',Q fl ρ' H'->Inv B env ρ' H' μ' W' s'->Ext (own env) μ W s μ' W' s'->SG B μ' W' s'.heap fl f->P):P:=Fz h k
theorem xI (fl:iY) (ρ':fF) (H':List a_) (μ' W':List Addr) (q:Q fl ρ' H') (I:Inv B env ρ' H' μ' W' s') (x:Ext (own env) μ W s μ' W' s') (r:SG B μ' W' s'.heap fl f):Jc B env μ W s Q f s':=Ac fl ρ' H' μ' W' q I x r
def JM (B:Bs) (n:Nat) (st:Stmt) (ρ:fF) (H:List a_) (Q:iY->fF->List a_->Prop):Prop:=
 ∀A env s μ W,Good n A->Inv B env ρ H μ W s->aC B.M A (exec st env) (Jc B env μ W s Q) (λZ Z=>False) s
def Ex (B:Bs) (n:Nat) (ss:List Stmt) (ρ:fF) (H:List a_) (Q:iY->fF->List a_->Prop):Prop:=
 ∀A env s μ W,Good n A->Inv B env ρ H μ W s->aC B.M A (execs ss env) (Jc B env μ W s Q) (λZ Z=>False) s
theorem Ex.mono {ss:List Stmt} (h:Ex B n ss ρ H Q) (hq:∀f ρ' H',Q f ρ' H'->Q' f ρ' H'):Ex B n ss ρ H Q':=
 λA env s μ W g I=>aM (h A env s μ W g I) (λZ Z IV=>by refine Fy IV λfl ρ' H' μ' W' q r=>?_;exact(Dc fl ρ' H' μ' W' (hq _ _ _ q) r)) λZ Z e=>e
theorem Jc.then (I:Inv B env ρ H μ W s) (x:Ext (own env) μ W s μ' W' s') (p:Jc B env μ' W' s' Q f LN):Jc B env μ W s Q f LN:=by
 exact xE p λfl ρ' H' Kc KT q I' y r=>(xI fl ρ' H' Kc KT q I' (x.trans y I.o_ I.J9) r)
theorem Ext.Jw (x:Ext [] μ W s μ' W' s'):Ext (own env) μ W s μ' W' s':=x.wide λZ h=>de h
def Nx (B:Bs) (n:Nat) (rest:List Stmt) (Q:iY->fF->List a_->Prop) (f:iY) (ρ:fF) (H:List a_):Prop:=
 match f with
 |.next=>Ex B n rest ρ H Q
 |.ret v=>Q (.ret v) ρ H
theorem Ex.nil (q:Q .next ρ H):Ex B n [] ρ H Q:=by
 intro A env s μ W g I;exact Ae (xI .next ρ H μ W q I .refl rfl)
theorem Ex.cons {st:Stmt} {rest:List Stmt} (h:JM B n st ρ H (Nx B n rest Q)):Ex B n (st::rest) ρ H Q:=by
 intro A env s μ W g I;refine wpAny_execs_cons (aM (h A env s μ W g I) (λf s1 IV=>?_) λZ Z e=>e);refine xE IV λfl ρ1 H1 μ1 W1 q I1 x1 r1=>?_
 cases fl with
 |next=>
  cases(show f=.next from r1);exact aM (q A env s1 μ1 W1 g I1) (λZ Z p=>.then I x1 p) λZ Z e=>e
 |ret v=>
  exact cX f r1 λc r=>⟨.ret v,ρ1,H1,μ1,W1,q,I1,x1,c,rfl,r⟩
theorem JM.ret (h:Ev B n e ρ H λv H1=>Q (.ret v) ρ H1):JM B n (.Return (IC e) pos) ρ H Q:=by
 intro A env s μ W g I;exact wpAny_Return_some (h.then g I λv H1 μ1 W1 c s1 h1 I1 x1 r1=>⟨.ret v,ρ,H1,μ1,W1,h1,I1,x1.Jw,c,rfl,r1⟩)
theorem JM.QZ (q:Q (.ret dN) ρ H):JM B n (.Return ID pos) ρ H Q:=by
 intro A env s μ W g I;exact wpAny_Return_none ⟨.ret dN,ρ,H,μ,W,q,I,.refl,_,rfl,Rp.none⟩
theorem JM.ife {a b:List Stmt} (h:Tr B n t ρ H λc H1=>if c then Ex B n a ρ H1 Q else Ex B n b ρ H1 Q):JM B n (.If t a b pos) ρ H Q:=by
 intro A env s μ W g I;refine wpAny_If (h.then g I λc H1 μ1 W1 s1 h1 I1 x1=>?_)
 cases c with
 |true=>exact aM (h1 A env s1 μ1 W1 g I1) (λZ Z p=>.then I x1.Jw p) λZ Z e=>e
 |false=>exact aM (h1 A env s1 μ1 W1 g I1) (λZ Z p=>.then I x1.Jw p) λZ Z e=>e
theorem Inv.JG (I:Inv B env ρ H μ W s):interactive env=false:=by
 unfold interactive;refine ah _ (I.q_.kind ..) ?_;rfl
theorem JM.expr (h:Ev B n e ρ H λv H1=>Q .next ρ H1)
 (hs:∀env,ng e ID pos.line env=pure false:=by intro _;rfl):JM B n (.Expr e pos) ρ H Q:=by
 intro A env s μ W g I;exact wpAny_Expr_any (h.then g I λv H1 μ1 W1 c s1 h1 I1 x1 r1=>(xI .next ρ H1 μ1 W1 h1 I1 x1.Jw rfl)) I.JG (hs env)
inductive Je:fF->List Str->List V->fF->Prop
 |nil {r:_}:Je r [] [] r
 |cons {r x v r1 xs vs r':_}:Lb r x v r1->Je r1 xs vs r'->Je r (x::xs) (v::vs) r'
theorem wb (I:Inv B env ρ H μ W s) (z:Je ρ xs vs ρ') (r:i_ B μ W s.heap vs cs)
 (q:∀s',Inv B env ρ' H μ W s'->Ext (own env) μ W s μ W s'->R () s'):aC B.M A (lh (xs.map λn=>bindName env n) cs) R (λZ Z=>False) s:=by
  induction z generalizing cs s with
  |nil=>exact(show cs=[]from r.inv)▸ai (q s I .refl)
  |@cons _ x _ _ xs _ _ z zs ih=>
   refine ko cs r.inv λc cs r1 r2=>?_;show aC B.M A (do iG cs (bindName env x c);lh (xs.map λn=>bindName env n) cs) _ _ s;exact aa (aV (wpAny_bindName (lf I z r1 λs1 I1 x1=>ih I1 (r2.ext' I I.J9 x1) λs2 I2 x2=>q s2 I2 (x1.trans x2 I.o_ I.J9))))
noncomputable def U9 (e:Expr):Option Str:=if h:e.ctorIdx=23 then hZ (motive_1:=λZ=>Option Str) e h (λx Z=>IC x)else ID
theorem Rf (h:U9 e=IC x):∃p,e=.Name x p:=
 if hc:e.ctorIdx=23 then hZ (motive_1:=λe=>U9 e=IC x->∃p,e=.Name x p) e hc (λy p h=>⟨p,congrArg (Af · p) (bS h)⟩) h
 else nomatch (dif_neg hc:U9 e=ID).symm.trans h
noncomputable def gi (es:List Expr):Option (List Str):=es.foldr (λe r=>(U9 e).bind λx=>r.map (x::·)) (IC [])
theorem mH {p:FL} (h:gi es=IC xs):gi (.Name x p::es)=IC (x::xs):=congrArg (eH (x::·)) h
theorem iZ (h:gi es=IC xs):xs.casesOn (motive:=λ_=>Prop) (es=[]) λx xs=>∃p us,es=.Name x p::us/\gi us=IC xs:=by
 cases es with
 |nil=>exact bS h▸rfl
 |cons e es=>
  refine aG (Option.bind_eq_some_iff.mp (show(U9 e).bind (λx=>(gi es).map (x::·))=_ from h)) λx h1 h2=>ig xs (Option.map_eq_some_iff.mp h2) λys h3=>(Rf h1).elim λp h4=>⟨p,es,congrArg (·::es) h4,h3⟩
theorem Nt.names {Q:fF->List a_->Prop} (e:gi ts=IC xs) (z:Je ρ xs vs ρ') (q:Q ρ' H):Nt B n ts ρ H vs Q:=by
 induction z generalizing ts with
 |nil=>exact(show ts=[]from iZ e)▸.nil q
 |cons z _ ih=>exact jq ts (iZ e) λp us e2=>.cons (.name z (ih e2 q)) λ_=>rfl
theorem i_.length (r:i_ B μ W h vs cs):vs.length=cs.length:=
 r.rec (motive:=λvs cs _=>vs.length=cs.length) rfl λ_ _ r=>congrArg (·+1) r
theorem i_.reverse (r:i_ B μ W h vs cs):i_ B μ W h vs.reverse cs.reverse:=by
 have app:∀{vs:List V} {cs:List Value} {us:List V} {ds:List Value},i_ B μ W h vs cs->i_ B μ W h us ds->i_ B μ W h (vs++us) (cs++ds):=by
  intro vs cs us ds r r'
  induction r with
  |nil=>exact r'
  |cons a _ ih=>exact .cons a ih
 induction r with
 |nil=>exact .nil
 |cons a _ ih=>(refine ah _ (List.reverse_cons ..) ?_;refine ah _ (List.reverse_cons ..) ?_);exact app ih (.cons a .nil)
variable {I:Addr} {Q:List PyData->(List a_->Prop)->List a_->Prop} {SA:Nat->Heap->Prop} {o:Obj} {P:xU Unit->Prop}
structure LU (B:Bs) (A:du) (I:Addr) (G:List Addr) (xs:List PyData) (T:Expr->Prop) (Sd:List Addr->Heap->Prop) (St:Nat->List Addr->Heap->Prop) (Kx:Nat->Value->List Addr->Heap->Prop):Prop where
 IX:∀i W h W' h',St i W h->(∀b o,(b∈G∨b∉W)->h.get? b=IC o->h'.get? b=IC o)->v_ h W W'->(∀a,a∈W->a∈W')->St i W' h'
 next:∀i d W (s:aD) (Q:Option Value->aD->Prop),xs[i]?=IC d->(∀a,a∈W->∃o,s.heap.get? a=IC o)->Sd W s.heap->St i W s.heap->
  (∀c h' tk,Rp W h' c d->Kx i c W h'->(∀b o,b∉G->s.heap.get? b=IC o->h'.get? b=IC o)->(∀b,b∈G->∃o,h'.get? b=IC o)->Q (IC c) {s with heap:=h',toks:=tk})->aC B.M A (hH (.ref I)) Q (λZ Z=>False) s
 go:∀i t c W (s:aD) (Q:Unit->aD->Prop),T t->Kx i c W s.heap->
  (∀h',St (i+1) W h'->(∀b o,b∉G->s.heap.get? b=IC o->h'.get? b=IC o)->(∀b,b∈G->∃o,h'.get? b=IC o)->Q () {s with heap:=h'})->aC B.M A (fj t (.ref I) c) Q (λZ Z=>False) s
 done:∀W (s:aD) (Q:Option Value->aD->Prop),Sd W s.heap->St xs.length W s.heap->(∀h' tk,(∀b o,b∉G->s.heap.get? b=IC o->h'.get? b=IC o)->Q ID {s with heap:=h',toks:=tk})->aC B.M A (hH (.ref I)) Q (λZ Z=>False) s
 self:∀i W (s:aD) (Q:Value->aD->Prop),St i W s.heap->Q (.ref I) s->aC B.M A (l4 (.ref I)) Q (λZ Z=>False) s
noncomputable def mI:List String:=["list_iterator","tuple_iterator","range_iterator","longrange_iterator"]
theorem Rv {it:Value} (a:P (pure ())) (b:∀p,P (fj (.List [] p) it c)):P (fj t it c):=by
 cases t<;>first|exact a|exact b ‹FL›
theorem Ru {p:FL} (a:P (pure ())) (b:∀r,P (fj (.List [] p) (.ref I) (.ref r))):P (fj (.List [] p) (.ref I) c):=by
 cases c<;>first|exact b _|exact a
theorem nR {Q:Unit->aD->Prop} {n:String} (ho:s.heap.get? I=IC o) (hc:o.cls=.type n) (hn:n∈mI) (q:Q () s):
 aC B.M A (fj t (.ref I) c) Q (λZ Z=>False) s:=by
 have P5:(["enumerate","zip","dict_itemiterator","dict_reverseitemiterator","odict_iterator","itertools.zip_longest","itertools.pairwise"]:List String).contains n=false:=by
  have:∀n∈mI,(["enumerate","zip","dict_itemiterator","dict_reverseitemiterator","odict_iterator","itertools.zip_longest","itertools.pairwise"]:List String).contains n=false:=by decide
  exact this n hn
 have q:=ai (M:=B.M) (A:=A) (E:=λZ Z=>False) q;refine Rv (P:=λx=>aC B.M A x Q (λZ Z=>False) s) q λp=>Ru (P:=λx=>aC B.M A x Q (λZ Z=>False) s) q λr=>aa (wpAny_load ho ?_);refine ah _ hc ?_;generalize o.data=d
 cases d with
 |fields vs=>show aC B.M A (if(List.contains _ n&&_)=true then _ else pure ()) _ _ _;refine ah _ P5 ?_;exact q
 |_=>exact q
theorem LU.ofWalks {fp:List Addr} {P:Nat->Value->Prop} {xs:List PyData} (w:Walks B.prog B.w A I fp [I] k P SA) (hk:k=xs.length)
 (Mh:∀i h,SA i h->∃o n,h.get? I=IC o/\o.cls=.type n/\n∈mI) (Rel:List Addr->Heap->Prop)
 (Mv:∀W h i c d,Rel W h->P i c->xs[i]?=IC d->Rp W h c d) (LB:∀W h W' h',Rel W h->hV W h h'->v_ h W W'->Rel W' h'):
 LU B A I [I] xs (λZ=>True) (λZ Z=>True) (λi W h=>SA i h/\I∈W/\(∀b,b∈fp->b=I∨(b∉W/\∃o,h.get? b=IC o))/\Rel W h) (λi c W h=>SA (i+1) h/\I∈W/\(∀b,b∈fp->b=I∨(b∉W/\∃o,h.get? b=IC o))/\Rel W h)where
 IX:=by
  intro i W h W' h' f_ k f sub;refine kn f_ λa b c d=>?_;refine(fv (w.frame i h h' a λx hx o e=>k x o ?_ e) (sub _ b) (λx hx=>?_) (LB W h W' h' d (λx o hx e=>k x o (.inr hx) e) f))
  ·rcases c x hx with e|⟨e,_⟩
   ·exact .inl (e▸.head _)
   ·exact .inr e
  ·rcases c x hx with e|⟨e,o,ho⟩
   ·exact .inl e
   ·exact .inr ⟨f.out e ho,o,k x o (.inr e) ho⟩
 next:=by
  intro i d W s Q hd My _ k_ q;refine kn k_ λa b c r=>?_;have hi:i<k:=by refine ah _ hk ?_;exact(List.getElem?_eq_some_iff.mp hd).1
  refine w.item i s Q _ hi a λv h' tk hP Q_ XX=>?_;have kW:hV W s.heap h':=λx o hx e=>XX x o (by simp;rintro rfl;exact hx b) e;have r':=LB W s.heap W h' r kW (λZ a b=>absurd a b);refine q v h' tk (Mv W h' i v d r' hP hd) (fv Q_ b ?_ r') XX λx hx=>?_
  ·intro x hx;rcases c x hx with e|⟨e,o,ho⟩
   ·exact .inl e
   ·exact .inr ⟨e,o,kW x o e ho⟩
  ·simp at hx;subst hx;refine gV (Mh _ _ Q_:_) λo Z e Z=>?_;exact⟨o,e⟩
 go:=by
  intro i t c W s Q _ j_ q;refine kn j_ λa b c' r=>?_;refine hU (Mh _ _ a:_) λo n ho hc hn=>?_;exact nR ho hc hn (q s.heap (fv a b c' r) (λZ Z Z e=>e) λx hx=>by simp at hx;subst hx;exact⟨o,ho⟩)
 done:=by
  intro W s Q _ p_ q;refine kn p_ λa b c r=>?_;rw[←hk]at a;exact w.done s Q _ a λh' tk XX=>q h' tk XX
 self:=by
  intro i W s Q s_ q;refine kn s_ λa b c r=>?_;exact w.self i s Q _ a q
def Lq (B:Bs) (n:Nat) (e:Expr) (ρ:fF) (H:List a_) (T:Expr->Prop) (Q:List PyData->List a_->Prop):Prop:=
 ∀A env s μ W,Good n A->Inv B env ρ H μ W s->aC B.M A (dq e env) (λx s1=>aC B.M A (l4 x) (λit s2=>∃xs H' μ' W' W0,Q xs H'/\Inv B env ρ H' μ' W' s2/\Ext [] μ W s μ' W0 s2/\(∃I G St Kx,it=.ref I/\(∀A,Good n A->LU B A I G xs T (λZ Z=>True) St Kx)/\St 0 W' s2.heap/\
  (∀a,a∈G->a∈W'/\a∉W0/\a∉μ'/\s.heap.get? a=ID)/\(∀a,a∈W'->a∈G∨a∈W0)/\(∀a,a∈W0->a∈W'))) (λZ Z=>False) s1) (λZ Z=>False) s
theorem Inv.ghost (I:Inv B env ρ H μ W s) (ho:o.isFreed=false) (t:Nat):
 Inv B env ρ H μ (s.heap.objs.size::W) {s with heap:=s.heap.push o,toks:=t}:=by
 refine I.go [] (cY _ _ rfl) (λb x Z e=>b9 o b x e) (λZ h=>de h) (λa h=>ag _ h) (λa ha hn=>?_) (λa ha hn=>?_) (λa ha hn=>?_)
 ·rcases List.mem_cons.mp ha with rfl|z
  ·exact bQ (aq _)
  ·exact absurd z hn
 ·rcases List.mem_cons.mp ha with rfl|z
  ·exact bj I.lt
  ·exact absurd z hn
 ·rcases hn with q|hn
  ·exact de q
  ·rcases List.mem_cons.mp ha with rfl|z
   ·exact⟨_,aH _ ho⟩
   ·exact absurd z hn
theorem n_.TV {vs:List Value} (r:n_ W h vs ds) (k:hV W h h') (f:v_ h W W'):n_ W' h' vs ds:=r.mono k f
theorem Lq.val {Q:List PyData->List a_->Prop} (hE:Ev B n e ρ H λv H1=>∃xs,(v=dL xs∨v=.Jz xs∨v=dT xs)/\Q xs H1):Lq B n e ρ H (λZ=>True) Q:=by
 intro A env s μ W g I;refine hE.then g I λv H1 μ1 W1 c s1 h1 I1 x1 r1=>aG h1 λxs hv q=>?_;have J_:s1.heap.objs.size∉W1:=I1.out (aq _);have hold:s.heap.get? s1.heap.objs.size=none:=by
  cases e:s.heap.get? s1.heap.objs.size with
  |none=>rfl
  |some o=>
   by_cases hm:s1.heap.objs.size∈μ
   ·exact absurd (x1.pre.mem hm) (λz=>J_ (I1.o_ _ z))
   ·have:=x1.keep _ o (by simpa using hm) e;exact absurd (b0 this) (b7 _)
 have fin:∀(o:Obj),o.isFreed=false->Ext [] μ W s μ1 W1 {s1 with heap:=s1.heap.push o}:=λo ho=>
  x1.trans (.keeps (b9 o)) I.o_ (λZ h=>de h)
 have lists:∀a (items:Array Value),c=.ref a->a∉W1->s1.heap.IsList a items->n_ W1 s1.heap items.toList xs->
  aC B.M A (l4 c) (λit s2=>∃xs H' μ' W' W0,Q xs H'/\Inv B env ρ H' μ' W' s2/\Ext [] μ W s μ' W0 s2/\(∃I G St Kx,it=.ref I/\(∀A,Good n A->LU B A I G xs (λZ=>True) (λZ Z=>True) St Kx)/\St 0 W' s2.heap/\
   (∀a,a∈G->a∈W'/\a∉W0/\a∉μ'/\s.heap.get? a=ID)/\(∀a,a∈W'->a∈G∨a∈W0)/\(∀a,a∈W0->a∈W'))) (λZ Z=>False) s1:=by
  rintro a items rfl ha l rs;refine qW l λs₂ e st N9 Mk=>?_;subst e;have hk:items.size=xs.length:=by have:=rs.length;simpa using this
  refine(Ac xs H1 μ1 (s1.heap.objs.size::W1) W1 q (I1.ghost rfl s1.toks) (fin _ rfl) (uz s1.heap.objs.size ([s1.heap.objs.size]) _ _ rfl (λA g=>LU.ofWalks (nP g.1 _ a Mk items) hk (λi h st=>?_) (λW h=>n_ W h items.toList xs) (λW h i c d r hP hd=>?_) (λW h W' h' r k f=>r.TV k f)) (fv st ae (λb hb=>?_) (rs.mono (λb x Z e=>b9 _ b x e) (λb hb hn=>?_))) (λb hb=>?_) (λb hb=>?_) (λb hb=>ag _ hb)))
  ·refine bh st λf_ Z=>?_;refine cP f_ λo h1 h2 Z=>?_;exact(eu o _ h1 h2 ae)
  ·refine aG (r.get hd:_) λv e r=>?_;have:v=c:=by
    have hP':items.toList[i]?=IC c:=by simpa using hP
    rw[hP']at e;exact(bS e).symm
   exact this▸r
  ·simp only[cp,c6,or_false]at hb;rcases hb with rfl|rfl
   ·exact .inl rfl
   ·refine .inr ⟨λz=>(List.mem_cons.mp z).elim Mk ha,?_⟩;exact aG l λo ho Z=>⟨o,b9 _ _ _ ho⟩
  ·rcases List.mem_cons.mp hb with rfl|z
   ·exact bQ (aq _)
   ·exact absurd z hn
  ·simp at hb;subst hb;exact(fv ae J_ (λz=>J_ (I1.o_ _ z)) hold)
  ·rcases List.mem_cons.mp hb with rfl|z
   ·exact .inl ae
   ·exact .inr z
 rcases hv with rfl|rfl|rfl
 ·exact lQ (Rp.IF r1:_) λa items e ha l rs=>lists a items e ha l rs
 ·exact lQ r1 λa items e ha l rs=>lists a items e ha l rs
 ·refine jU c (Rp.D_ r1:_) λa items ha l rs=>?_;have Mk:a≠s1.heap.objs.size:=by refine aG l λo ho Z=>?_;exact bf (b0 ho)
  refine wpAny_pyIter_tuple l ?_;have hk:items.size=xs.length:=by have:=rs.length;simpa using this
  refine(Ac xs H1 μ1 (s1.heap.objs.size::W1) W1 q (I1.ghost rfl s1.toks) (fin _ rfl) (uz s1.heap.objs.size ([s1.heap.objs.size]) _ _ rfl (λA g=>LU.ofWalks (Dk g.1 _ a Mk items) hk (λi h st=>?_) (λW h=>n_ W h items.toList xs) (λW h i c d r hP hd=>?_) (λW h W' h' r k f=>r.TV k f)) ((fv (⟨(bA _ (aH _ rfl) rfl rfl),Heap.IsTuple.push l _⟩) ae (λb hb=>?_) (rs.mono (λb x Z e=>b9 _ b x e) (λb hb hn=>?_)))) (λb hb=>?_) (λb hb=>?_) (λb hb=>ag _ hb)))
  ·refine bh st λj_ Z=>?_;refine cP j_ λo h1 h2 Z=>?_;exact(eu o _ h1 h2 (ag _ ae))
  ·refine aG (r.get hd:_) λv e r=>?_;have:v=c:=by
    have hP':items.toList[i]?=IC c:=by simpa using hP
    rw[hP']at e;exact(bS e).symm
   exact this▸r
  ·simp only[cp,c6,or_false]at hb;rcases hb with rfl|rfl
   ·exact .inl rfl
   ·refine .inr ⟨λz=>(List.mem_cons.mp z).elim Mk ha,?_⟩;exact aG l λo ho Z=>⟨o,b9 _ _ _ ho⟩
  ·rcases List.mem_cons.mp hb with rfl|z
   ·exact bQ (aq _)
   ·exact absurd z hn
  ·simp at hb;subst hb;exact(fv ae J_ (λz=>J_ (I1.o_ _ z)) hold)
  ·rcases List.mem_cons.mp hb with rfl|z
   ·exact .inl ae
   ·exact .inr z
def KA (B:Bs) (n:Nat) (e:Expr) (ρ:fF) (H:List a_) (T:Expr->Prop) (Q:List PyData->(List a_->Prop)->List a_->Prop):Prop:=
 ∀A env s μ W,Good n A->Inv B env ρ H μ W s->aC B.M A (dq e env) (λx s1=>aC B.M A (l4 x) (λit s2=>∃xs S H' μ' W' W0,Q xs S H'/\Inv B env ρ H' μ' W' s2/\Ext [] μ W s μ' W0 s2/\(∃I G Sd St Kx,it=.ref I/\(∀A,Good n A->LU B A I G xs T Sd St Kx)/\St 0 W' s2.heap/\
  (∀a,a∈G->a∈W'/\a∉W0/\a∉μ'/\s.heap.get? a=ID)/\(∀a,a∈W'->a∈G∨a∈W0)/\(∀a,a∈W0->a∈W')/\
  (∀(env':pU) ρ' NK Kc KT LN,Pre μ' Kc->Inv B env' ρ' NK Kc KT LN->S NK->Sd KT LN.heap))) (λZ Z=>False) s1) (λZ Z=>False) s
theorem Lq.toS {T:Expr->Prop} (h:Lq B n e ρ H T λxs H1=>Q xs (λZ=>True) H1):KA B n e ρ H T Q:=by
 intro A env s μ W g I;refine aM (h A env s μ W g I) (λx s1 h1=>aM h1 (λit s2 h2=>?_) λZ Z e=>e) λZ Z e=>e;refine Fz h2 λxs H1 μ1 W1 Wb hF I1 x1 p_=>?_;refine NR it p_ λI G St Kx Nj Q_ hG MG Jk=>?_;exact(Tz xs _ H1 μ1 W1 Wb hF I1 x1 (NU I G _ St Kx rfl Nj Q_ hG MG Jk (λZ Z Z Z Z Z Z Z Z=>trivial)))
theorem KA.loc (hE:Ev B n e ρ H λv H1=>∃i xs,v=.loc i/\H1[i]?=IC (.list xs)/\Q xs (λH2=>H2[i]?=IC (.list xs)) H1):KA B n e ρ H (λZ=>True) Q:=by
 intro A env s μ W g I;refine hE.then g I λv H1 μ1 W1 c s1 h1 I1 x1 r1=>?_;refine hU h1 λi xs C_ hi q=>?_;obtain rfl:=C_;refine aG r1 λa ha II=>?_;obtain rfl:=II;refine aG (I1.objs _ _ _ ha hi:_) λitems l rs=>?_;have J_:s1.heap.objs.size∉W1:=I1.out (aq _);have hold:s.heap.get? s1.heap.objs.size=none:=by
  cases e:s.heap.get? s1.heap.objs.size with
  |none=>rfl
  |some o=>
   by_cases hm:s1.heap.objs.size∈μ
   ·exact absurd (x1.pre.mem hm) (λz=>J_ (I1.o_ _ z))
   ·have:=x1.keep _ o (by simpa using hm) e;exact absurd (b0 this) (b7 _)
 have fin:∀(o:Obj),o.isFreed=false->Ext [] μ W s μ1 W1 {s1 with heap:=s1.heap.push o}:=λo ho=>
  x1.trans (.keeps (b9 o)) I.o_ (λZ h=>de h)
 refine qW l.isList λs₂ e st N9 Mk=>?_;subst e;refine(Tz xs _ H1 μ1 (s1.heap.objs.size::W1) W1 q (I1.ghost rfl s1.toks) (fin _ rfl) (NU s1.heap.objs.size ([s1.heap.objs.size]) ((λW h=>∃items,h.PlainList a items/\n_ W h items.toList xs)) ((λi W h=>h.IsListIter s1.heap.objs.size a i/\s1.heap.objs.size∈W)) ((λi c W h=>h.IsListIter s1.heap.objs.size a (i+1)/\s1.heap.objs.size∈W)) rfl (λA g=>?_) ⟨st.1,ae⟩ (λb hb=>?_) (λb hb=>?_) (λb hb=>ag _ hb) (λenv' ρ' NK Kc KT LN p SF hS=>?_)))
 ·exact{
   IX:=λi W h W' h' st k f sub=>⟨st.1.at λo e=>k _ o (.inl ae) e,sub _ st.2⟩
   next:=λi d W s Q hd My C_ st q=>aG C_ λitems l rs=>by
    refine aG (rs.get hd:_) λv hv rv=>wpAny_pyNext_list_item st.1 l.isList (x:=v) (by simpa using hv) λh' Lk K0=>?_;have kW:hV W s.heap h':=λb o hb e=>K0.extBut b o (λq=>hb (q▸st.2)) e;exact q v h' s.toks (rv.mono kW (λZ a b=>absurd a b)) ⟨Lk,st.2⟩ (λb o hb e=>K0.extBut b o (λq=>hb (q▸.head _)) e) λb hb=>by simp at hb;subst hb;refine aG Lk λo e Z=>?_;exact⟨o,e⟩
   go:=λi t c W s Q Z II q=>bh II λst hw=>by
    refine cP (id st:_) λo ho hc hd=>?_;exact nR ho hc ae (q s.heap ⟨st,hw⟩ (λZ Z Z e=>e) λx hx=>by simp at hx;subst hx;exact⟨o,ho⟩)
   done:=λW s Q IY st q=>aG IY λitems l rs=>by
    have hk:items.size=xs.length:=by have:=rs.length;simpa using this
    exact wpAny_pyNext_list_end g.1 st.1 l.isList (by simp[hk]) λh' he'=>q h' s.toks λb o hb e=>he' b o (λq=>hb (q▸.head _)) e
   self:=λi W s Q st q=>wpAny_pyIter_listiter st.1 q}
 ·simp at hb;subst hb;exact(fv ae J_ (λz=>J_ (I1.o_ _ z)) hold)
 ·rcases List.mem_cons.mp hb with rfl|z
  ·exact .inl ae
  ·exact .inr z
 ·exact SF.objs _ _ _ (p.get ha) hS
variable {Q:iY->fF->List a_->Prop} {G W0 μ0:List Addr} {body:List Stmt} {s0:aD}
noncomputable def Pz (B:Bs) (n:Nat) (t:Expr) (body:List Stmt):List PyData->fF->List a_->(iY->fF->List a_->Prop)->Prop
 |[],ρ,H,Q=>Q .next ρ H
 |x::xs,ρ,H,Q=>As B n t ρ H (.dat x) λρ1 H1=>Ex B n body ρ1 H1 λf ρ2 H2=>match f with
  |.next=>Pz B n t body xs ρ2 H2 Q
  |.ret v=>Q (.ret v) ρ2 H2
structure Turn (B:Bs) (env:pU) (ρ:fF) (H:List a_) (G:List Addr) (μ0 W0:List Addr) (s0:aD) (μ W:List Addr) (s:aD):Prop where
 inv:Inv B env ρ H μ W s
 ext:Ext (own env) μ0 W0 s0 μ W s
 gW:∀a,a∈G->a∈W
 gm:∀a,a∈G->a∉μ
 go:∀a,a∈G->a∉own env
 g0:∀a,a∈G->a∉W0
theorem Turn.ghost (t:Turn B env ρ H G μ0 W0 s0 μ W s) (UP:∀a,a∈μ0->a∈W0) (N5:∀a,a∈own env->a∈W0)
 (hs:∃h t,s'={s with heap:=h,toks:=t}) (k:∀b o,b∉G->s.heap.get? b=IC o->s'.heap.get? b=IC o) (al:∀b,b∈G->∃o,s'.heap.get? b=IC o):Turn B env ρ H G μ0 W0 s0 μ W s' where
 inv:=t.inv.go G hs k (λa ha=>(fv (t.gW a ha) (t.gm a ha) (λq=>t.go a ha (q▸ae)) (λq=>t.go a ha (ag _ q)))) (λZ h=>h) (λZ a b=>absurd a b) (λZ a b=>absurd a b)
  (λa ha hx=>hx.elim (al a) (λz=>absurd ha z))
 ext:={
  keep:=λb o hb e=>by
   have hbG:b∉G:=λz=>by
    by_cases hw:b∈W0
    ·exact t.g0 b z hw
    ·have:=t.ext.fresh b (t.gW b z) hw;rw[this]at e;exact ft e
   exact k b o hbG (t.ext.keep b o hb e)
  pre:=t.ext.pre
  sub:=t.ext.sub
  fresh:=t.ext.fresh
  IW:=t.ext.IW}
 gW:=t.gW
 gm:=t.gm
 go:=t.go
 g0:=t.g0
theorem Turn.step {H':List a_} (t:Turn B env ρ H G μ0 W0 s0 μ W s) (UP:∀a,a∈μ0->a∈W0) (N5:∀a,a∈own env->a∈W0)
 (I':Inv B env ρ' H' μ' W' s') (x:Ext (own env) μ W s μ' W' s'):Turn B env ρ' H' G μ0 W0 s0 μ' W' s' where
 inv:=I'
 ext:=t.ext.trans x UP N5
 gW:=λa h=>x.sub a (t.gW a h)
 gm:=λa h q=>by
  by_cases hm:a∈μ
  ·exact t.gm a h hm
  ·exact(x.IW a q hm).1 (t.gW a h)
 go:=t.go
 g0:=t.g0
theorem Turn.PY (t:Turn B env ρ H G μ0 W0 s0 μ W s) (x:Ext (own env) μ W s μ' W' s'):
 ∀b o,(b∈G∨b∉W)->s.heap.get? b=IC o->s'.heap.get? b=IC o:=λb o hb e=>by
 rcases hb with hb|hb
 ·exact x.keep b o (λq=>(List.mem_append.mp q).elim (t.gm b hb) (t.go b hb)) e
 ·exact x.JU t.inv.o_ t.inv.J9 b o hb e
theorem Turn.drop (t:Turn B env ρ H G μ0 W0 s0 μ W s) (hs:∃h t,s'={s with heap:=h,toks:=t}) (k:∀b o,b∉G->s.heap.get? b=IC o->s'.heap.get? b=IC o):
 ∃W',Inv B env ρ H μ W' s'/\Ext (own env) μ0 W0 s0 μ W' s':=by
 classical
 let W':=W.filter λa=>decide (a∉G);have Kn:∀a,a∈W'↔a∈W/\a∉G:=λa=>by simp[W']
 have I:=t.inv;have kW:hV W s.heap s'.heap:=λb o hb e=>k b o (λz=>hb (t.gW b z)) e;have f:v_ s.heap W W':=λa ha hn=>absurd ((Kn a).mp ha).1 hn;have kl:∀o,s.heap.get? env.locals=IC o->s'.heap.get? env.locals=IC o:=λo e=>k _ o (λz=>t.go _ z ae) e;have kc:∀n a,(n,a)∈(dz env)->∀o,s.heap.get? a=IC o->s'.heap.get? a=IC o:=λn a hm o e=>k _ o (λz=>t.go _ z (ag _ (aO (f:=(·.2)) hm))) e;refine(aN W' ({same:=?_,old:=?_,IE:=λa ha=>I.IE a ((Kn a).mp ha).1,alive:=?_,o_:=?_,IM:=I.IM,len:=I.len,objs:=?_,q_:=?_,nd:=I.nd,vars:=?_}) ({keep:=?_,pre:=t.ext.pre,sub:=λa ha=>(Kn a).mpr ⟨t.ext.sub a ha,λz=>t.g0 a z ha⟩,fresh:=λa ha hn=>t.ext.fresh a ((Kn a).mp ha).1 hn,IW:=t.ext.IW}))
 ·refine rX s' hs λZ Z=>?_;exact I.same
 ·exact λb o e=>kW b o (λz=>absurd (b0 e) (Nat.not_lt.mpr (I.IE b z))) (I.old b o e)
 ·intro a ha;exact bh ((Kn a).mp ha:_) λh1 h2=>bm (I.alive a h1:_) λo e=>⟨o,k a o h2 e⟩
 ·exact λa ha=>(Kn a).mpr ⟨I.o_ a ha,λz=>t.gm a z ha⟩
 ·exact λi a o h1 h2=>(I.objs i a o h1 h2).mono kW (λo e=>k a o (λz=>t.gm a z (an h1)) e) f .refl
 ·exact{kind:=I.q_.kind,glob:=I.q_.glob,LR:=I.q_.LR,loc:=bm I.q_.loc λm hn=>⟨m,hn.at' kl⟩,Kg:=(Kn _).mpr ⟨I.q_.Kg,λz=>t.go _ z ae⟩,Jv:=I.q_.Jv,cells:=λn a hm=>kn (I.q_.cells n a hm:_) λp q r f_=>gV f_ λoc o ho hd=>(fv ((Kn _).mpr ⟨p,λz=>t.go _ z (ag _ (aO (f:=(·.2)) hm))⟩) q r (ie oc o (kc n a hm o ho) hd)),apart:=I.q_.apart,above:=I.q_.above}
 ·exact λx ov hm=>(I.vars x ov hm).mono kW f .refl kl λa hl=>kc x a (cB hl)
 ·intro b o hb e;have hbG:b∉G:=λz=>by
   by_cases hw:b∈W0
   ·exact t.g0 b z hw
   ·have:=t.ext.fresh b (t.gW b z) hw;rw[this]at e;exact ft e
  exact k b o hbG (t.ext.keep b o hb e)
theorem JM.for {iter:Expr} {T:Expr->Prop} (hI:Lq B n iter ρ H T λxs H1=>Pz B n t body xs ρ H1 Q) (hT:T t:=by trivial)
 (hs:∀env x,ku iter env x=pure x:=by intro _ _;rfl):JM B n (.For t iter body [] pos) ρ H Q:=by
 intro A env s μ W g I0;refine wpAny_For (aM (hI A env s μ W g I0) (λx s1 h1=>aM h1 (λit s2 h2=>?_) λZ Z e=>e) λZ Z e=>e) (hs env);refine Fz h2 λxs H1 μ1 W1 Wb hF I1 x1 k_=>?_;refine NR it k_ λI G St Kx Nj Q_ hG MG Jk=>?_;have Lg:=Nj A g;have N5:=I0.J9;have al0:∀a,a∈W->∃o,s.heap.get? a=IC o:=I0.alive;have g0:∀a,a∈G->a∉W:=λa ha hw=>by refine bm (al0 a hw:_) λo e=>?_;rw[(hG a ha).2.2.2]at e;exact ft e
 have t0:Turn B env ρ H1 G μ W s μ1 W1 s2:={
  inv:=I1
  ext:={keep:=λb o hb e=>x1.keep b o (λq=>hb (az _ (by simpa using q))) e,pre:=x1.pre,sub:=λa h=>Jk a (x1.sub a h),fresh:=λa ha hn=>(MG a ha).elim (λz=>(hG a z).2.2.2) (λz=>x1.fresh a z hn),IW:=x1.IW}
  gW:=λa ha=>(hG a ha).1
  gm:=λa ha=>(hG a ha).2.2.1
  go:=λa ha q=>g0 a ha (N5 a q)
  g0:=g0}
 refine codeAny_forLoop_any (λk s'=>∃i ρi Hi μi Wi,k=xs.length - i/\i<=xs.length/\Pz B n t body (xs.drop i) ρi Hi Q/\Turn B env ρi Hi G μ W s μi Wi s'/\St i Wi s'.heap) ?_ (xs.length - 0)
  (NV 0 ρ H1 μ1 W1 rfl (aL _) (by assumption) t0 Q_)
 intro k s' k_;refine YK k k_ λi ρi Hi μi Wi hle hF tn LB=>?_;by_cases hi:i<xs.length
 ·have hd:xs.drop i=xs[i]::xs.drop (i+1):=cU hi;rw[hd]at hF;refine aM (Lg.next i xs[i] Wi s' (λr s₁=>∃c,r=IC c/\Rp Wi s₁.heap c xs[i]/\Kx i c Wi s₁.heap/\Turn B env ρi Hi G μ W s μi Wi s₁) (aJ hi) tn.inv.alive trivial LB λc h' tk r hm hk al=>(qS c rfl r hm (tn.ghost I0.o_ N5 (cY _ _ rfl) hk al))) (λr s₁ h₁=>?_) λZ Z e=>e.elim;refine lO h₁ λc p_ r hm PK=>?_;obtain rfl:=p_;refine aM (Lg.go i t c Wi s₁ (λZ s₂=>St (i+1) Wi s₂.heap/\Turn B env ρi Hi G μ W s μi Wi s₂/\Rp Wi s₂.heap c xs[i]) hT hm λh' LA hk al=>⟨LA,PK.ghost I0.o_ N5 (cY _ _ rfl) hk al,?_⟩) (λZ s₂ h₂=>?_) λZ Z e=>e.elim
  ·exact r.mono (λb o hb e=>hk b o (λz=>hb (PK.gW b z)) e) (λZ a b=>absurd a b)
  refine ee h₂ λRG Nu r2=>aM (hF A env s₂ μi Wi c g Nu.inv r2) (λZ s₃ h₃=>?_) λZ Z e=>e.elim;refine QC h₃ λρ3 H3 μ3 W3 hB I3 x3=>?_;have SL:=Nu.step I0.o_ N5 I3 x3;have N2:St (i+1) W3 s₃.heap:=Lg.IX _ _ _ _ _ RG (Nu.PY x3) x3.fresh x3.sub;refine aM (hB A env s₃ μ3 W3 g I3) (λf s₄ h₄=>?_) λZ Z e=>e.elim;refine Fz h₄ λfl ρ4 H4 μ4 W4 q I4 x4 rf=>?_;have MD:=SL.step I0.o_ N5 I4 x4;have M2:St (i+1) W4 s₄.heap:=Lg.IX _ _ _ _ _ N2 (SL.PY x4) x4.fresh x4.sub
  cases fl with
  |next=>
   cases(show f=.next from rf);exact(aN (xs.length - (i+1)) (ar8 hi) (NV (i+1) ρ4 H4 μ4 W4 rfl hi q MD M2))
  |ret v=>
   exact cX f rf λc' r'=>⟨.ret v,ρ4,H4,μ4,W4,q,I4,MD.ext,c',rfl,r'⟩
 ·have:i=xs.length:=cC hle (c7 hi);subst this;refine aM (Lg.done Wi s' (λr s₁=>r=ID/\∃W',Inv B env ρi Hi μi W' s₁/\Ext (own env) μ W s μi W' s₁) trivial LB λh' tk hk=>⟨rfl,tn.drop (cY _ _ rfl) hk⟩) (λr s₁ h₁=>?_) λZ Z e=>e.elim;refine fq r h₁ λII=>?_;refine aG II λW' I' x'=>?_;simp only[fk]at hF;exact Ae (Ac .next ρi Hi μi W' hF I' x' rfl)
theorem JM.while (J:Nat->fF->List a_->Prop)
 (step:∀k ρ H,J k ρ H->Tr B n t ρ H λc H1=>if c then Ex B n body ρ H1 (λf ρ2 H2=>match f with|.next=>∃m,m<k/\J m ρ2 H2|.ret v=>Q (.ret v) ρ2 H2)else Q .next ρ H1)
 (k:Nat) (h0:J k ρ H):JM B n (.While t body [] pos) ρ H Q:=by
 intro A env s μ W g I0;refine wpAny_While (codeAny_whileLoop (λk s'=>∃ρi Hi μi Wi,J k ρi Hi/\Inv B env ρi Hi μi Wi s'/\Ext (own env) μ W s μi Wi s') ?_ k (aI ρ H μ W h0 I0 .refl));intro k s' s_;refine aE s_ λρi Hi μi Wi hJ Ii xi=>?_;refine aM (step k ρi Hi hJ A env s' μi Wi g Ii) (λb s₂ h₂=>?_) λZ Z e=>e.elim;refine A8 h₂ λH2 μ2 W2 q I2 x2=>?_;have xx:=xi.trans x2.Jw I0.o_ I0.J9
 cases b with
 |true=>
  simp only[if_true]at q⊢;refine aM (q A env s₂ μ2 W2 g I2) (λf s₃ h₃=>?_) λZ Z e=>e.elim;refine xE h₃ λfl ρ3 H3 μ3 W3 q3 I3 x3 r3=>?_;have x03:=xx.trans x3 I0.o_ I0.J9
  cases fl with
  |next=>
   cases(show f=.next from r3);exact aG q3 λm hm hJ'=>(aN m hm (aI ρ3 H3 μ3 W3 hJ' I3 x03))
  |ret v=>
   exact cX f r3 λc r=>⟨.ret v,ρ3,H3,μ3,W3,q3,I3,x03,c,rfl,r⟩
 |false=>
  simp only[gP,if_false]at q⊢;exact Ae (xI .next ρi H2 μ2 W2 q I2 xx rfl)
variable {env':pU} {e:Kd×Option V} {α:Type}
theorem jC (names:List (Str×bB)) (n:Nat) (acc:List (Str×Addr)):bU n names acc=bU n names []++acc:=by
 induction names generalizing n acc with
 |nil=>rfl
 |cons p r ih=>
  unfold bU
  split
  ·(refine ah _ (ih (n+1) ((p.1,n)::acc) ..) ?_;refine ah _ (ih (n+1) [(p.1,n)] ..) ?_;refine ah _ (dv ..) ?_);rfl
  ·exact ih n acc
theorem nT (p:Str×bB) (r:List (Str×bB)) (n:Nat):(p.2=.cell/\bU n (p::r) []=bU (n+1) r []++[(p.1,n)])∨(p.2≠.cell/\bU n (p::r) []=bU n r []):=by
 rw[bU]
 split
 ·rename_i h;exact .inl ⟨beq_iff_eq.mp h,jC ..⟩
 ·rename_i h;exact .inr ⟨λe=>h (beq_iff_eq.mpr e),rfl⟩
theorem jD (names:List (Str×bB)) (n:Nat) (x:Str) (a:Addr) (hm:(x,a)∈bU n names []):(x,cF)∈names:=by
 induction names generalizing n with
 |nil=>nomatch hm
 |cons p r ih=>
  rcases nT p r n with⟨hk,e⟩|⟨_,e⟩
  ·rw[e]at hm;refine(List.mem_append.mp hm).elim (λq=>ag _ (ih _ q)) λq=>?_;have:=congrArg Prod.fst (List.mem_singleton.mp q);exact(show(x,cF)=p from Prod.ext this hk.symm)▸ae
  ·exact ag _ (ih _ (e▸hm))
theorem jE (names:List (Str×bB)) (n:Nat) (x:Str) (h:(x,cF)∈names):∃a,(x,a)∈bU n names []:=by
 induction names generalizing n with
 |nil=>nomatch h
 |cons p r ih=>
  have hp:=List.mem_cons.mp h;rcases nT p r n with⟨_,e⟩|⟨hk,e⟩
  ·exact ah _ e (hp.elim (λq=>⟨n,aR _ (List.mem_singleton.mpr (q▸rfl))⟩) λq=>(ih (n+1) q).elim λa q=>⟨a,az _ q⟩)
  ·exact ah _ e (hp.elim (λq=>absurd (congrArg Prod.snd q).symm hk) (ih n))
theorem ly {l:List (Str×α)} {a:α} (h:(x,a)∈l):∃b,l.lookup x=IC b:=
 Option.isSome_iff_exists.mp (List.lookup_isSome_iff.mpr ⟨_,h,beq_self_eq_true x⟩)
theorem nh {b:α} {l l':List (Str×α)} (h:l.lookup x=IC b):(l++l').lookup x=IC b:=by(refine ah _ (List.lookup_append ..) ?_;refine ah _ h ?_);rfl
theorem lU {l l':List (Str×α)} (h:∀a,(x,a)∉l):(l++l').lookup x=l'.lookup x:=by
 (refine ah _ (List.lookup_append ..) ?_;refine ah _ (List.lookup_eq_none_iff.mpr λp hp=>bne_iff_ne.mpr λe=>h p.2 (e▸hp) ..) ?_);rfl
theorem eF {κ:Type} [BEq κ] [LawfulBEq κ] {l:List (κ×α)} {x:κ} {a:α} (nd:(l.map (·.1)).Nodup) (h:(x,a)∈l):l.lookup x=IC a:=by
 induction l with
 |nil=>nomatch h
 |cons p l ih=>
  have nd:=List.nodup_cons.mp nd;rcases List.mem_cons.mp h with q|q
  ·exact q▸Dl
  ·(refine ah _ (nJ ..) ?_;refine ah _ (show(x==p.1)=false from beq_eq_false_iff_ne.mpr λe=>nd.1 (show p.1∈_ from e▸aO (f:=(·.1)) q)) ?_)
   exact ih nd.2 q
def FV (B:Bs) (ρ:fF) (env env':pU) (cs:List (Str×Addr)) (x:Str) (e:Kd×Option V):Prop:=
 (e=(.loc,ID)/\env'.kindOf x=IC .local)∨(e=(.cell,ID)/\env'.kindOf x=IC .cell/\∃a,(x,a)∈cs)∨
 (e.1=.cell/\(x,e)∈ρ/\env'.kindOf x=IC .cell/\(dz env').lookup x=(dz env).lookup x)∨
 (e.1=.glob/\env'.kindOf x=IC .globalImplicit/\∃c,e.2=IC (.raw c)/\xQ B x c)∨
 (e.1=.sup/\FK B env' e.2)
theorem Inv.enter (I:Inv B env ρ H μ W s) (names:List (Str×bB)) (cl:List (Str×Addr)) (cls:Value) (t:Nat)
 (Lv:∀n a,(n,a)∈cl->(n,a)∈(dz env)) (hca:cl.Pairwise λx y=>x.2≠y.2)
 (e1:env'.locals=s.heap.objs.size) (e2:(dz env')=bU (s.heap.objs.size+1) names []++cl) (e3:env'.globals=eZ) (e4:env'.builtins=jN) (e5:env'.scope.kind=.function)
 (nd:(ρ'.map (·.1)).Nodup) (hv:∀x e,(x,e)∈ρ'->FV B ρ env env' (bU (s.heap.objs.size+1) names []) x e):
 ∃W1,Inv B env' ρ' H μ W1 {s with heap:=nj (s.heap.push {cls:=cls,data:=.dict #[]}) names,toks:=t}/\
  Ext [] μ W s μ W1 {s with heap:=nj (s.heap.push {cls:=cls,data:=.dict #[]}) names,toks:=t}/\(∀a,a∈own env'->s.heap.get? a=ID∨a∈cl.map (·.2))/\(∀a,a∈(bU (s.heap.objs.size+1) names []).map (·.2)->s.heap.get? a=ID):=by
 have kp:∀b o,s.heap.get? b=IC o->(nj (s.heap.push {cls:=cls,data:=.dict #[]}) names).get? b=IC o:=λb o e=>lV _ _ b o (av _ e);have ok:=cellsFrom_ok names (s.heap.push {cls:=cls,data:=.dict #[]}) (s.heap.objs.size+1) [] ⟨λZ Z hm=>(de hm),xB⟩ (by refine ah _ (bz ..) ?_;exact aq _);rw[bz]at ok;have K9:(nj (s.heap.push {cls:=cls,data:=.dict #[]}) names).Ns s.heap.objs.size λZ=>none:=(Heap.Ns.new s.heap cls).keeps (lV _ _);let cs:=bU (s.heap.objs.size+1) names [];let W1:=s.heap.objs.size::(cs.map (·.2)++W);have NE:∀a,a∈W1↔a=s.heap.objs.size∨(∃n,(n,a)∈cs)∨a∈W:=λa=>by
  simp only[W1,cp,ve,C4]
  constructor
  ·rintro(h|⟨⟨n,c⟩,h,rfl⟩|h)
   ·exact .inl h
   ·exact .inr (.inl ⟨n,h⟩)
   ·exact .inr (.inr h)
  ·rintro(h|⟨n,h⟩|h)
   ·exact .inl h
   ·exact .inr (.inl (aN _ h rfl))
   ·exact .inr (.inr h)
 have fresh:∀a,s.heap.objs.size<=a->s.heap.get? a=none:=λa h=>bQ h;have f:v_ s.heap W W1:=λa ha hn=>by
  rcases(NE a).mp ha with rfl|⟨m,hm⟩|hm
  ·exact fresh _ (aq _)
  ·exact fresh _ (g6 (ok.empty m a hm).2)
  ·exact absurd hm hn
 have k:hV W s.heap _:=λb o Z e=>kp b o e;have hmu:∀a,a∈μ->a<s.heap.objs.size:=λa ha=>by refine bm (I.alive a (I.o_ a ha):_) λo e=>?_;exact b0 e
 have V7:∀a,a∈W->a<s.heap.objs.size:=λa ha=>by refine bm (I.alive a ha:_) λo e=>?_;exact b0 e
 refine(qS W1 ({same:=?_,old:=λb x e=>kp b x (I.old b x e),IE:=?_,alive:=?_,o_:=λa h=>(NE a).mpr (.inr (.inr (I.o_ a h))),IM:=I.IM,len:=I.len,objs:=?_,q_:=?_,nd:=nd,vars:=?_}) ({keep:=λb x Z e=>kp b x e,pre:=.refl,sub:=λa h=>(NE a).mpr (.inr (.inr h)),fresh:=f,IW:=λZ a b=>absurd a b}) ?_ ?_)
 ·exact I.same
 ·intro a ha;rcases(NE a).mp ha with rfl|⟨m,hm⟩|hm
  ·exact bj I.lt
  ·exact ab (bj I.lt) (g6 (ok.empty m a hm).2)
  ·exact I.IE a hm
 ·intro a ha;rcases(NE a).mp ha with rfl|⟨m,hm⟩|hm
  ·refine pt K9 λo Z Z e Z=>?_;exact⟨o,e⟩
  ·refine aG ((ok.empty m a hm).1:_) λo e Z=>?_;exact⟨o,e⟩
  ·refine bm (I.alive a hm:_) λo e=>?_;exact⟨o,kp _ _ e⟩
 ·exact λi a o h1 h2=>(I.objs i a o h1 h2).mono k (λo e=>kp _ _ e) f .refl
 ·refine{kind:=e5,glob:=e3,LR:=e4,loc:=⟨_,by refine ah _ e1 ?_;exact K9⟩,Kg:=by refine ah _ e1 ?_;exact(NE _).mpr (.inl rfl),Jv:=λz=>b7 _ (by have:=hmu _ z;rwa [e1]at this),cells:=?_,apart:=?_,above:=by refine ah _ e1 ?_;exact bj I.lt}
  ·intro m a hm;rw[e2]at hm;rcases List.mem_append.mp hm with q|q
   ·have:=ok.empty m a q;refine(fv ((NE a).mpr (.inr (.inl ⟨m,q⟩))) (λz=>?_) ?_ (A9 _ this.1))
    ·have h1:=hmu a z;have h2:=this.2;exact b7 _ (cy h1 h2)
    ·refine ah _ e1 ?_;exact d8 this.2
   ·refine kn (I.q_.cells m a (Lv m a q):_) λp1 p2 p3 j_=>?_;refine bm j_ λoc p4=>?_;refine(fv ((NE a).mpr (.inr (.inr p1))) p2 ?_ (A9 oc (p4.keeps kp)));refine ah _ e1 ?_;exact bf (V7 a p1)
  ·(refine ah _ e2 ?_;rw[List.pairwise_append])
   refine⟨ok.apart,hca,λx hx y hy e=>?_⟩;have h1:=(ok.empty x.1 x.2 hx).2;have h2:=V7 y.2 (I.q_.cells y.1 y.2 (Lv y.1 y.2 hy)).1;rw[←e]at h2;exact b7 _ (cy h2 h1)
 ·intro x e hm;rcases hv x e hm with⟨rfl,hk⟩|⟨rfl,hk,a,ha⟩|⟨h1,h2,h3,h4⟩|⟨h1,h2,c,h3,h4⟩|hs
  ·exact .inl ⟨rfl,hk,λv e=>ft e⟩
  ·refine bm (ly ha:_) λb hb=>?_;refine .inr (.inl (mB rfl hk (eu b ID (by refine ah _ e2 ?_;exact nh hb) ((ok.empty x b (cB hb)).1) (λv e=>ft e))))
  ·rcases I.vars x e h2 with⟨q,_⟩|⟨_,q2,a,oc,q3,q4,q5⟩|⟨q,_⟩|⟨q,_⟩
   ·rw[h1]at q;cases q
   ·exact .inr (.inl (mB h1 h3 (eu a oc (by refine ah _ h4 ?_;exact q3) (q4.keeps kp) (λv e=>aG (q5 v e:_) λc a1 a2=>(aN c a1 (a2.mono k f .refl))))))
   ·rw[h1]at q;cases q
   ·rw[h1]at q;cases q
  ·exact .inr (.inr (.inl (mB h1 h2 (aN c h3 h4))))
  ·exact .inr (.inr (.inr hs))
 ·intro a ha;rcases List.mem_cons.mp ha with rfl|ha
  ·refine ah _ e1 ?_;exact .inl (fresh _ (aq _))
  ·rw[e2,aT]at ha;rcases List.mem_append.mp ha with q|q
   ·refine xA q λp_ hm s_=>?_;obtain⟨m,c⟩:=p_;obtain rfl:=s_;exact .inl (fresh _ (g6 (ok.empty m c hm).2))
   ·exact .inr q
 ·intro a ha;refine xA ha λC_ hm II=>?_;obtain⟨m,c⟩:=C_;obtain rfl:=II;exact fresh _ (g6 (ok.empty m c hm).2)
theorem Inv.back {H':List a_} (I:Inv B env ρ H μ W s) (I':Inv B env' ρ' H' μ' W' s') (x:Ext [] μ W s μ' W' s'):Inv B env ρ H' μ' W' s' where
 same:=I'.same
 old:=I'.old
 IE:=I'.IE
 alive:=I'.alive
 o_:=I'.o_
 IM:=I'.IM
 len:=I'.len
 objs:=I'.objs
 q_:=I.q_.mono x.sub (λa h1 h2=>(x.IW a h1 h2).1) (λo e=>x.keep _ o (by simpa using I.q_.Jv) e) (λn a hm o e=>x.keep _ o (by simpa using(I.q_.cells n a hm).2.1) e)
 nd:=I.nd
 vars:=λy ov hm=>(I.vars y ov hm).mono (x.JU I.o_ λZ h=>de h) x.fresh x.pre (λo e=>x.keep _ o (by simpa using I.q_.Jv) e) (λa hl o e=>x.keep _ o (by simpa using(I.q_.cells y a (cB hl)).2.1) e)
inductive JW (B:Bs) (ρ:fF):List (Str×bB)->fF->Prop
 |nil:JW B ρ [] []
 |loc {x ns r:_}:JW B ρ ns r->JW B ρ ((x,.local)::ns) ((x,.loc,ID)::r)
 |cell {x ns r:_}:JW B ρ ns r->JW B ρ ((x,.cell)::ns) ((x,.cell,ID)::r)
 |free {x ns r v:_}:(x,.cell,v)∈ρ->JW B ρ ns r->JW B ρ ((x,.free)::ns) ((x,.cell,v)::r)
 |sup {ns r v:_}:JW B ρ ns r->JW B ρ ((bR,.free)::ns) ((bR,.sup,v)::r)
 |glob {x ns r c:_}:xQ B x c->JW B ρ ns r->JW B ρ ((x,.globalImplicit)::ns) ((x,.glob,IC (.raw c))::r)
theorem JW.keys {names:List (Str×bB)} (z:JW B ρ names ρ'):ρ'.map (·.1)=names.map (·.1):=by
 induction z<;>simp_all
def PA (B:Bs) (ρ:fF) (names:List (Str×bB)) (x:Str) (e:Kd×Option V):Prop:=
 ((x,NameKind.local)∈names/\e=(.loc,ID))∨((x,cF)∈names/\e=(.cell,ID))∨((x,dP)∈names/\e.1=.cell/\(x,e)∈ρ)∨((x,NameKind.globalImplicit)∈names/\e.1=.glob/\∃c,e.2=IC (.raw c)/\xQ B x c)∨((x,dP)∈names/\x=bR/\e.1=.sup)
theorem PA.more {names:List (Str×bB)} {p:Str×bB} (h:PA B ρ names x e):PA B ρ (p::names) x e:=
 have c {a:Str×bB} {P:Prop} (h:a∈names/\P):a∈p::names/\P:=⟨ag _ h.1,h.2⟩
 h.imp c (Or.imp c (Or.imp c (Or.imp c c)))
theorem JW.mem {names:List (Str×bB)} (z:JW B ρ names ρ') (hm:(x,e)∈ρ'):PA B ρ names x e:=by
 induction z with
 |nil=>nomatch hm
 |loc z ih=>exact(List.mem_cons.mp hm).elim (λq=>by cases q;exact .inl ⟨ae,rfl⟩) λq=>(ih q).more
 |cell z ih=>exact(List.mem_cons.mp hm).elim (λq=>by cases q;exact .inr (.inl ⟨ae,rfl⟩)) λq=>(ih q).more
 |free hx z ih=>exact(List.mem_cons.mp hm).elim (λq=>by cases q;exact .inr (.inr (.inl ⟨ae,rfl,hx⟩))) λq=>(ih q).more
 |sup z ih=>exact(List.mem_cons.mp hm).elim (λq=>by cases q;exact .inr (.inr (.inr (.inr ⟨ae,rfl,rfl⟩)))) λq=>(ih q).more
 |glob hg z ih=>exact(List.mem_cons.mp hm).elim (λq=>by cases q;exact .inr (.inr (.inr (.inl ⟨ae,rfl,_,rfl,hg⟩)))) λq=>(ih q).more
variable {ps:List Str} {m:Nat} {R:PUnit->aD->Prop} {ρ0 ρ1:fF} {Q:V->List a_->Prop} {f:Value}
structure Core (B:Bs) (H:List a_) (μ W:List Addr) (s:aD):Prop where
 same:s.gens=B.s₁.gens/\s.os=B.s₁.os
 old:∀b o,B.s₁.heap.get? b=IC o->s.heap.get? b=IC o
 IE:∀a,a∈W->B.s₁.heap.objs.size<=a
 alive:∀a,a∈W->∃o,s.heap.get? a=IC o
 o_:∀a,a∈μ->a∈W
 IM:μ.Nodup
 len:μ.length=H.length
 objs:∀(i:Nat) a o,μ[i]?=IC a->H[i]?=IC o->Jq B μ W s.heap a o
theorem Inv.core (I:Inv B env ρ H μ W s):Core B H μ W s:=⟨I.same,I.old,I.IE,I.alive,I.o_,I.IM,I.len,I.objs⟩
theorem Core.back {H':List a_} (I:Inv B env ρ H μ W s) (I':Core B H' μ' W' s') (x:Ext [] μ W s μ' W' s'):Inv B env ρ H' μ' W' s' where
 same:=I'.same
 old:=I'.old
 IE:=I'.IE
 alive:=I'.alive
 o_:=I'.o_
 IM:=I'.IM
 len:=I'.len
 objs:=I'.objs
 q_:=I.q_.mono x.sub (λa h1 h2=>(x.IW a h1 h2).1) (λo e=>x.keep _ o (by simpa using I.q_.Jv) e) (λn a hm o e=>x.keep _ o (by simpa using(I.q_.cells n a hm).2.1) e)
 nd:=I.nd
 vars:=λy ov hm=>(I.vars y ov hm).mono (x.JU I.o_ λZ h=>de h) x.fresh x.pre (λo e=>x.keep _ o (by simpa using I.q_.Jv) e) (λa hl o e=>x.keep _ o (by simpa using(I.q_.cells y a (cB hl)).2.1) e)
noncomputable def QJ (m:Nat) (v:V):Bool:=v.casesOn (λ_=>true) (λi=>decide (i<m)) (λ_ i=>decide (i<m)) (λ_=>true) (λ_=>true) (λ_=>true) λ_=>true
noncomputable def C5 (m:Nat) (o:a_):Bool:=o.casesOn (λ_=>true) (λ_=>true) (λ_=>true) λfs=>fs.all λf=>QJ m f.2
def ea (H:List a_):Prop:=H.all (C5 H.length)=true
inductive K7 (k:Nat):V->List a_->V->List a_->Prop
 |keep {v H:_}:k<=H.length->K7 k v H v H
 |drop {v H J:_}:k<=H.length->ea H->QJ H.length v=true->K7 k v (H++J) v H
 |freeze {H J xs J2:_}:k<=H.length->ea H->K7 k (.loc (H.length+J.length)) (H++(J++.list xs::J2)) (dL xs) H
theorem l_.cut (hv:QJ m v=true) (r:l_ B μ W h v c):l_ B (μ.take m) W h v c:=by
 cases v with
 |loc i=>refine aG r λa e r=>?_;exact aN a ((eN (of_decide_eq_true hv)).trans e) r
 |inst C i=>refine lQ r λa dx e ha e2 r=>?_;exact pv a dx e ha ((eN (of_decide_eq_true hv)).trans e2) r
 |_=>exact r
theorem Jr.cut {es:List DictEntry} {fs:List (Str×V)} (hv:(fs.all λf=>QJ m f.2)=true) (r:Jr B μ W h es fs):Jr B (μ.take m) W h es fs:=
 r.rec (motive:=λes fs _=>(fs.all λf=>QJ m f.2)=true->Jr B (μ.take m) W h es fs) (λ_=>.nil) (λa b _ ih hv=>.cons a (b.cut (Bool.and_eq_true_iff.mp hv).1) (ih (Bool.and_eq_true_iff.mp hv).2)) hv
theorem Jq.cut {o:a_} (ho:C5 m o=true) (r:Jq B μ W h a o):Jq B (μ.take m) W h a o:=by
 cases o with
 |inst fs=>refine gV r λes n e f=>?_;exact(ie es n e (f.cut ho))
 |_=>exact r
theorem Rp.less (hs:∀a,a∈W'->a∈W) {v:Value} {d:PyData} (r:Rp W h v d):Rp W' h v d:=r.mono (λZ Z Z e=>e) (λa h1 h2=>absurd (hs a h1) h2)
theorem mJ (hs:∀a,a∈W'->a∈W):v_ h W W':=λa h1 h2=>absurd (hs a h1) h2
theorem K7.sound {v0:V} {H1 H0:List a_} {μ1 W1:List Addr} (z:K7 H.length v H1 v0 H0) (I:Inv B env ρ H μ W s) (C:Core B H1 μ1 W1 s') (x:Ext [] μ W s μ1 W1 s') (r:l_ B μ1 W1 s'.heap v c):
 ∃μ0 W0,Core B H0 μ0 W0 s'/\Ext [] μ W s μ0 W0 s'/\l_ B μ0 W0 s'.heap v0 c:=by
 have pre:∀m,H.length<=m->Pre μ (μ1.take m):=λm hm=>by
  refine bm x.pre λν e=>⟨ν.take (m - μ.length),?_⟩;rw[e,List.take_append,jA (by refine ah _ (I.len ..) ?_;exact hm)]
 revert C r
 induction z with
 |keep=>intro C r;exact(eu μ1 W1 C x r)
 |@drop v H0 J hk hc hv=>
  intro C r;refine(eu (μ1.take H0.length) W1 ⟨C.same,C.old,C.IE,C.alive,λa ha=>C.o_ a (iB ha),C.IM.sublist (sF _ _),?_,?_⟩ ⟨x.keep,pre _ hk,x.sub,x.fresh,λa h1 h2=>x.IW a (iB h1) h2⟩ (r.cut hv))
  ·(refine ah _ (iH ..) ?_;refine ah _ (C.len ..) ?_;refine ah _ (aw ..) ?_);exact Dm
  ·intro i a o h1 h2;have hi:i<H0.length:=(List.getElem?_eq_some_iff.mp h2).1;rw[eN hi]at h1;refine Jq.cut ?_ (C.objs i a o h1 (by refine ah _ (b8 hi ..) ?_;exact h2));exact List.all_eq_true.mp hc o (an h2)
 |@freeze H0 J xs J2 hk hc=>
  intro C r;refine fX c r λa ha=>?_;have hlen:μ1.length=H0.length+(J.length+(J2.length+1)):=by refine ah _ (C.len ..) ?_;simp
  have hnm:a∉μ1.take H0.length:=λhm=>by
   refine bm (List.mem_iff_getElem?.mp hm:_) λi hi=>?_;have r_:i<H0.length:=by
    have:=(List.getElem?_eq_some_iff.mp hi).1;simp at this;exact Vy this
   rw[eN r_]at hi;have h1:=List.getElem?_eq_some_iff.mp hi;have h2:=List.getElem?_eq_some_iff.mp ha;have:=(un C.IM).mp (h1.2.trans h2.2.symm);exact(Wh r_ this).elim
  have ZK:a∉μ:=λhm=>by
   refine bm (pre H0.length hk:_) λν e=>?_;exact hnm (by refine ah _ e ?_;exact az _ hm)
  have S4:a∉W:=(x.IW a (an ha) ZK).1;let W0:=W1.filter λb=>decide (b≠a);have NF:∀b,b∈W0↔b∈W1/\b≠a:=λb=>by simp[W0]
  have Mi:∀b,b∈W0->b∈W1:=λb hb=>((NF b).mp hb).1;have fr:v_ s'.heap W1 W0:=mJ Mi;refine aG (C.objs _ a (.list xs) ha (by refine ah _ (bt Sy ..) ?_;(refine ah _ (nO ..) ?_;refine ah _ (bt (aq _) ..) ?_);simp):_) λitems p rs=>?_;refine(eu (μ1.take H0.length) W0 (⟨C.same,C.old,λb hb=>C.IE b (Mi b hb),λb hb=>C.alive b (Mi b hb),λb hb=>(NF b).mpr ⟨C.o_ b (iB hb),λe=>hnm (e▸hb)⟩,C.IM.sublist (sF _ _),?_,?_⟩) (⟨x.keep,pre _ hk,λb hb=>(NF b).mpr ⟨x.sub b hb,λe=>S4 (e▸hb)⟩,λb h1 h2=>x.fresh b (Mi b h1) h2,λb h1 h2=>x.IW b (iB h1) h2⟩) ?_)
  ·(refine ah _ (iH ..) ?_;refine ah _ hlen ?_);exact Dm
  ·intro i b o h1 h2;have hi:i<H0.length:=(List.getElem?_eq_some_iff.mp h2).1;rw[eN hi]at h1;have:=C.objs i b o h1 (by refine ah _ (b8 hi ..) ?_;exact h2);exact Jq.cut (List.all_eq_true.mp hc o (an h2)) (this.mono (λZ Z Z e=>e) (λZ e=>e) fr .refl)
  ·exact bm p λk p=>Rp.list (λhm=>((NF a).mp hm).2 rfl) p (rs.mono (λZ Z Z e=>e) fr)
structure SE (B:Bs) (f:Value) (ps:List Str) (body:List Stmt) (names:List (Str×bB)):Prop where
 ex:∃fa oc od fd MX,f=.ref fa/\B.K.lookup fa=IC ⟨oc,od,.func fd,MX⟩/\fd.body=.stmts body/\fd.scope.names=names/\fd.scope.kind=.function/\fd.scope.isCoroutine=false/\fd.scope.isGenerator=false/\
  fd.closure=[]/\fd.globals=eZ/\fd.builtins=jN/\codeIn B.K fd.code fd.qualname=true/\∀vals:List Value,vals.length=ps.length->bindArgs fd ⟨vals,[]⟩=pure (ps.zip vals)
noncomputable def pf:iY->V
 |.next=>dN
 |.ret v=>v
theorem rE (f:Str×Value->PUnit->xU (ForInStep PUnit)) (hf:∀x u,f x u=(do storeName env x.1 x.2;pure (.yield ⟨⟩)))
 (I:Inv B env ρ H μ W s) (z:Je ρ xs vs ρ') (r:i_ B μ W s.heap vs cs)
 (q:∀s',Inv B env ρ' H μ W s'->Ext (own env) μ W s μ W s'->R ⟨⟩ s'):aC B.M A (forIn (xs.zip cs) ⟨⟩ f) R (λZ Z=>False) s:=by
  induction z generalizing cs s with
  |nil=>exact(show cs=[]from r.inv)▸ai (q s I .refl)
  |cons z zs ih=>
   refine ko cs r.inv λc cs r1 r2=>?_
   (refine ah _ (rF ..) ?_;refine ah _ (je ..) ?_;rw[hf])
   exact aa (aa (lf I z r1 λs1 I1 x1=>ai (ih I1 (r2.ext' I I.J9 x1) λs2 I2 x2=>q s2 I2 (x1.trans x2 I.o_ I.J9))))
theorem Je.length (z:Je ρ xs vs ρ'):xs.length=vs.length:=by
 induction z with
 |nil=>rfl
 |cons _ _ ih=>exact congrArg _ (by assumption)
theorem Good.deeper (g:Good (n+1) A):Good n (A.deeper env):=by
 refine ee g λh1 h2 h3=>?_;exact⟨h1,by show A.depth+1+20*n+20<_;exact VB h2,by show A.units+3+200*n+200<_;exact Wr h3⟩
def Mb (B:Bs) (n:Nat) (f:Value) (vs:List V) (H:List a_) (Q:V->List a_->Prop):Prop:=
 ∀A env ρ s μ W cs,Good n A->Inv B env ρ H μ W s->i_ B μ W s.heap vs cs->eY B.M A (.call f ⟨cs,[]⟩) (λr s'=>match r with|.ok (.ret v)=>A_ B env ρ μ W s Q v s'|.ok _=>False|.error e=>False) s
theorem Mb.ap (h:Mb B n f vs H Q):Ap B n f vs H Q:=λA env ρ s μ W cs g I r=>uH (h A env ρ s μ W cs g I r)
structure FW (B:Bs) (f:Value) (ps:List Str) (body:List Stmt) (names:List (Str×bB)) (sup:Option V):Prop where
 ex:∃fa oc od fd MX,f=.ref fa/\B.K.lookup fa=IC ⟨oc,od,.func fd,MX⟩/\fd.body=.stmts body/\fd.scope.names=names/\fd.scope.kind=.function/\fd.scope.isCoroutine=false/\fd.scope.isGenerator=false/\
  (∀c∈fd.closure,c.1=bR)/\(∀v,sup=IC v->FJ B fd/\∃ca cl Te Td C,v=.raw (.ref C)/\fd.closure.lookup bR=IC ca/\B.K.lookup ca=IC ⟨cl,Te,.cell (IC (.ref C)),Td⟩)/\
  fd.globals=eZ/\fd.builtins=jN/\codeIn B.K fd.code fd.qualname=true/\∀vals:List Value,vals.length=ps.length->bindArgs fd ⟨vals,[]⟩=pure (ps.zip vals)
def Nq (B:Bs) (n:Nat) (body:List Stmt) (ρ:fF) (H:List a_) (Q:iY->fF->List a_->Prop):Prop:=
 ∀A env s μ W,Good n A->Inv B env ρ H μ W s->PySem.wpAt B.M A (.func body env) (execs body env) (Jc B env μ W s Q) (λZ Z=>False) s
theorem Ex.at {Q:iY->fF->List a_->Prop} (h:Ex B n body ρ H Q):Nq B n body ρ H Q:=λA env s μ W g I=>qd (h A env s μ W g I)
theorem Mb.fnS {names:List (Str×bB)} {sup:Option V} (hf:FW B f ps body names sup) (hc:JW B [] names ρ0) (nd:(names.map (·.1)).Nodup) (LF:(bR,cF)∉names) (MG:∀v,(bR,Kd.sup,v)∈ρ0->v=sup/\v≠ID) (hs:Je ρ0 ps vs ρ1)
 (hE:Nq B n body ρ1 H λfl Z H1=>∃v0 H0,K7 H.length (pf fl) H1 v0 H0/\Q v0 H0):Mb B (n+1) f vs H Q:=by
 intro A env ρ s μ W cs g I r;refine PD f hf.ex λfa oc od fd MX Mg LG KI Ja V4 RU M7 RF j_=>?_;refine kn j_ λN7 RY Nd Nh=>?_;have X:=I.KH;have M5:A.depth<recursionLimit:=by have:=g.2.1;exact VA this
 refine codeAny_call_function M5 (X _ _ Mg) rfl V4 RU LG (codeRec_of X Nd) ?_;have hlen:cs.length=ps.length:=by refine ah _ (r.length ..).symm ?_;exact hs.length.symm
 refine ah _ (Nh cs hlen ..) (ai ?_);simp only[nv,Fk,gP,if_false];refine aa (zX ?_);refine aa (Dn _ (λname kind cells=>by cases UV:kind==cF<;>simp[UV]) _ _ _ _ ?_);refine ah _ (show({s with heap:=s.heap.push {cls:=.type "frame",data:=.dict #[]}}:aD).heap.objs.size=s.heap.objs.size+1 from bz ..) ?_
 (refine ah _ (jC ..) ?_;refine ah _ KI ?_)
 generalize JT:({scope:=fd.scope,locals:=s.heap.objs.size,globals:=fd.globals,cells:=bU (s.heap.objs.size+1) names []++fd.closure,qual:=fd.qualname++am ".<locals>.",func:=IC fa,code:=fd.code,frame:=IC s.heap.objs.size,builtins:=fd.builtins}:pU)=env';have k1:env'.locals=s.heap.objs.size:=JT▸rfl;have k0:env'.cells=bU (s.heap.objs.size+1) names []++fd.closure:=JT▸rfl;have Y5:∀a,(bR,a)∉bU (s.heap.objs.size+1) names []:=λa hm=>LF (jD _ _ _ _ hm);have k2:dz env'=bU (s.heap.objs.size+1) names []++[]:=by
  have e1:(bU (s.heap.objs.size+1) names []).filter (λc=>decide (c.1≠bR))=bU (s.heap.objs.size+1) names []:=List.filter_eq_self.mpr λc hm=>decide_eq_true λe=>Y5 c.2 (e▸hm);have e2:fd.closure.filter (λc=>decide (c.1≠bR))=[]:=List.filter_eq_nil_iff.mpr λc hm=>by simp[M7 c hm]
  unfold dz
  (refine ah _ k0 ?_;refine ah _ (gQ ..) ?_;refine ah _ e1 ?_;refine ah _ e2 rfl)
 have kk:∀x k,(x,k)∈names->env'.kindOf x=IC k:=λx k hm=>by
  refine ah _ JT.symm ?_;show fd.scope.names.lookup x=IC k;refine ah _ KI ?_;exact eF nd hm
 refine lO (I.enter (env':=env') (ρ':=ρ0) names [] (.type "frame") s.toks (λZ Z h=>de h) .nil k1 k2 (by refine ah _ JT.symm ?_;exact N7) (by refine ah _ JT.symm ?_;exact RY) (by refine ah _ JT.symm ?_;exact Ja) (by refine ah _ (hc.keys ..) ?_;exact nd) (λx e hm=>by
  rcases hc.mem hm with⟨a,rfl⟩|⟨a,rfl⟩|⟨_,_,h⟩|⟨a,b,c,d⟩|⟨a,rfl,b⟩
  ·exact .inl ⟨rfl,kk _ _ a⟩
  ·exact bm (jE names (s.heap.objs.size+1) x a:_) λad hh=>.inr (.inl ⟨rfl,kk _ _ a,ad,hh⟩)
  ·exact de h
  ·exact .inr (.inr (.inr (.inl ⟨b,kk _ _ a,c,d⟩)))
  ·obtain⟨k,v⟩:=e;cases b;refine bh (MG v hm:_) λe1 e2=>bm (Option.ne_none_iff_exists'.mp e2:_) λv' RE=>?_;refine bh (RF v' (by(refine ah _ e1.symm ?_;refine ah _ RE rfl)):_) λq0 p_=>?_;refine Z0 p_ λca cl Te Td C q1 q2 q3=>?_;refine .inr (.inr (.inr (.inr (jp rfl (YQ fa oc od fd MX ca cl Te (YW Td C (by(refine ah _ RE ?_;refine ah _ (q1 ..) rfl)) (by refine ah _ JT.symm rfl) Mg (by refine ah _ JT.symm rfl) (by refine ah _ JT.symm rfl) q0 ?_ q3))))))
   (refine ah _ k0 ?_;refine ah _ (lU Y5 ..) ?_);exact q2):_) λW1 I1 x1 UH Z=>?_
 have Q4:∀a,a∈own env'->s.heap.get? a=none:=λa ha=>(UH a ha).elim id (λq=>by simp at q);refine aa (rE _ (λZ Z=>rfl) I1 hs (r.ext I x1) λs2 I2 x2=>ai ?_);have Js:Ext [] μ W s μ W1 s2:={
  keep:=λb o hb e=>x2.keep b o (λq=>(List.mem_append.mp q).elim (λz=>hb (az _ z)) (λz=>by rw[Q4 b z]at e;exact ft e)) (x1.keep b o hb e)
  pre:=.refl
  sub:=x1.sub
  fresh:=x1.fresh
  IW:=λZ a b=>absurd a b}
 refine⟨B.nolimit.keeps I2.old,ks_codeAny_funcAt ?_⟩;refine PySem.wpAt_mono (hE (A.deeper env') env' s2 μ W1 g.deeper I2) (λfl s3 h3=>?_) λZ Z e=>e.elim;refine xE h3 λTf ρ3 H3 μ3 W3 s_ I3 x3 rf=>?_;refine gV s_ λv0 H0 P3 q=>?_;have x13:Ext [] μ W s μ3 W3 s3:=by
  have y:=Js.wide (own':=own env') (λZ h=>de h);have z:Ext (own env') μ W s μ3 W3 s3:={
   keep:=λb o hb e=>x3.keep b o hb (Js.keep b o (λq=>hb (az _ (by simpa using q))) e)
   pre:=x3.pre
   sub:=λa h=>x3.sub a (Js.sub a h)
   fresh:=λa h1 h2=>by
    by_cases hw:a∈W1
    ·exact Js.fresh a hw h2
    ·have e:=x3.fresh a h1 hw
     cases hs:s.heap.get? a with
     |none=>rfl
     |some o=>rw[Js.keep a o (λq=>h2 (I.o_ a (by simpa using q))) hs]at e;exact v8 e
   IW:=λa h1 h2=>by
    refine bh (x3.IW a h1 h2:_) λe1 e=>?_;have e2:a∉W:=λq=>e1 (Js.sub a q);refine⟨e2,?_⟩
    cases hs:s.heap.get? a with
    |none=>rfl
    |some o=>rw[Js.keep a o (λq=>e2 (I.o_ a (by simpa using q))) hs]at e;cases e}
  exact{z with keep:=λb o hb e=>z.keep b o (λq=>(List.mem_append.mp q).elim (λz=>hb (az _ z)) (λz=>by rw[Q4 b z]at e;exact ft e)) e}
 have fin:∀c,l_ B μ3 W3 s3.heap (pf Tf) c->A_ B env ρ μ W s Q c s3:=λc rv=>by
  exact hU (P3.sound I I3.core x13 rv:_) λμ0 W0 C0 x0 r0=>(pI v0 H0 μ0 W0 q (C0.back I x0) x0 r0)
 cases Tf with
 |next=>cases(show fl=.next from rf);exact fin _ Rp.none
 |ret v=>refine cX fl rf λc rr=>?_;exact fin c rr
theorem Mb.fn {names:List (Str×bB)} (hf:SE B f ps body names) (hc:JW B [] names ρ0) (nd:(names.map (·.1)).Nodup) (Jd:∀k,(bR,k)∉names) (hs:Je ρ0 ps vs ρ1)
 (hE:Ex B n body ρ1 H λfl Z H1=>∃v0 H0,K7 H.length (pf fl) H1 v0 H0/\Q v0 H0):Mb B (n+1) f vs H Q:=by
 refine TJ hf.ex λfa oc od fd MX h1 h2 h3 h4 h5 h6 h7 h8 h9 f_=>?_;refine ee f_ λPe Ta Yg=>?_;refine Mb.fnS (sup:=ID) ⟨fa,oc,od,fd,MX,h1,h2,h3,h4,h5,h6,h7,(by refine ah _ h8 ?_;intro c h;exact de h),(λZ h=>ft h),h9,Pe,Ta,Yg⟩ hc nd (Jd _) (λv hm=>?_) hs hE.at;have:bR∈names.map (·.1):=by refine ah _ (hc.keys ..).symm ?_;exact aO (f:=(·.1)) hm
 refine xA this λIY hx e=>?_;obtain⟨x,k⟩:=IY;cases e;exact absurd hx (Jd k)
variable {O:List Addr} {R:Unit->aD->Prop}
inductive Tj:Expr->V->fF->fF->Prop
 |name {x p v ρ ρ':_}:Lb ρ x v ρ'->Tj (.Name x p) v ρ ρ'
 |tuple {ts k p xs ds ρ ρ':_}:gi ts=IC xs->fb ts=true->ts.length=ds.length->Je ρ xs (ds.map V.dat) ρ'->Tj (.Tuple ts k p) (dT ds) ρ ρ'
noncomputable def nU (e:Expr):List Str:=
 if h:e.ctorIdx=23 then hZ (motive_1:=λZ=>List Str) e h (λx Z=>[x])else if h:e.ctorIdx=25 then rG (motive_1:=λZ=>List Str) e h (λts _ _=>(gi ts).getD [])else[]
def wc (env:pU) (x:Str) (a:Addr):Prop:=(env.kindOf x=IC .local/\a=env.locals)∨(env.kindOf x=IC .cell/\(dz env).lookup x=IC a)
theorem Ag (e:gi ts=IC xs) (I:Inv B env ρ H μ W s) (z:Je ρ xs vs ρ') (r:i_ B μ W s.heap vs cs)
 (hO:∀x∈xs,∀a,wc env x a->a∈O) (Va:∀a,a∈O->a∈W) (q:∀s',Inv B env ρ' H μ W s'->Ext O μ W s μ W s'->R () s'):aC B.M A (lh ((gz ts env).map (·.2)) cs) R (λZ Z=>False) s:=by
 induction z generalizing ts cs s with
 |nil=>
  refine(show cs=[]from r.inv)▸(show ts=[]from iZ e)▸ai (q s I .refl)
 |@cons _ x _ _ xs _ _ z zs ih=>
  refine ko cs r.inv λc cs r1 r2=>jq ts (iZ e) λp us e2=>?_;show aC B.M A (do iG cs (fc (.Name x p) env c);lh ((gz us env).map (·.2)) cs) _ _ s;refine aa (aV (oF (nQ I z r1 λa s1 ha I1 x1=>?_)));have XJ:Ext O μ W s μ W s1:=x1.wide λb hb=>List.mem_singleton.mp hb▸hO x ae a ha;exact ih e2 I1 (r2.ext' I Va XJ) (λy hy=>hO y (ag _ hy)) λs2 I2 x2=>q s2 I2 (XJ.trans x2 I.o_ Va)
theorem Tj.sound (hh:A.handled=ID) (z:Tj t v ρ ρ') (I:Inv B env ρ H μ W s) (r:l_ B μ W s.heap v c)
 (hO:∀x∈nU t,∀a,wc env x a->a∈O) (Va:∀a,a∈O->a∈W) (q:∀s',Inv B env ρ' H μ W s'->Ext O μ W s μ W s'->R () s'):aC B.M A (fc t env c) R (λZ Z=>False) s:=by
 revert hO r
 induction z with
 |name z=>intro r hO;exact oF (nQ I z r λa s1 ha I1 x1=>q s1 I1 (x1.wide λb hb=>by cases List.mem_singleton.mp hb;exact hO _ ae a ha))
 |@tuple ts k p xs ds _ _ e hp hl z=>
  intro r hO;refine jU c (Rp.D_ r:_) λa vs Z t rs=>bh (jv env hp:_) λe1 e2=>ah _ (xX ..) (aa (bw ?_));unfold unpack
  (refine ah _ e1 ?_;refine ah _ e2 ?_)
  have e3:ts.length=vs.size:=by have:=rs.length;simp at this;exact Vx hl this
  refine ah _ e3 (aa (aV (oG hh t λh' he=>?_)));have k:=mG he;have I':=I.keeps (s':={s with heap:=h'}) (cY _ _ rfl) k;exact Ag e I' z (.PO (rs.keeps k)) (λx hx=>hO x (show x∈(gi ts).getD [] by refine ah _ e ?_;exact hx)) Va λs2 I2 x2=>q s2 I2 ((Ext.keeps (s:=s) (s':={s with heap:=h'}) k).trans x2 I.o_ Va)
theorem Ext.past (x:Ext [] μ0 W0 s0 μ W s) (y:Ext O μ W s μ' W' s') (hO:∀a,a∈O->s0.heap.get? a=ID) (hm:∀a,a∈μ0->a∈W0):Ext [] μ0 W0 s0 μ' W' s' where
 keep:=λb o hb e=>by
  have ND:b∉μ++O:=by
   intro h;rcases List.mem_append.mp h with q|q
   ·have hn:b∉μ0:=λz=>hb (az _ z);rw[(x.IW b q hn).2]at e;exact ft e
   ·rw[hO b q]at e;exact ft e
  exact y.keep b o ND (x.keep b o hb e)
 pre:=x.pre.trans y.pre
 sub:=λa h=>y.sub a (x.sub a h)
 fresh:=λa h h'=>by
  by_cases hw:a∈W
  ·exact x.fresh a hw h'
  ·have e:=y.fresh a h hw
   cases hs:s0.heap.get? a with
   |none=>rfl
   |some o=>
    rw[x.keep a o (λq=>h' (hm a (by simpa using q))) hs]at e;exact v8 e
 IW:=λa h h'=>by
  by_cases hw:a∈μ
  ·exact x.IW a hw h'
  ·refine bh (y.IW a h hw:_) λe1 e=>?_;have e2:a∉W0:=λq=>e1 (x.sub a q);refine⟨e2,?_⟩
   cases hs:s0.heap.get? a with
   |none=>rfl
   |some o=>rw[x.keep a o (λq=>e2 (hm a (by simpa using q))) hs]at e;exact v8 e
structure IU (B:Bs) (env:pU) (ρ:fF) (H:List a_) (G O:List Addr) (μ0 W0:List Addr) (s0:aD) (μ W:List Addr) (s:aD):Prop where
 inv:Inv B env ρ H μ W s
 ext:Ext [] μ0 W0 s0 μ W s
 m0:∀a,a∈μ0->a∈W0
 gW:∀a,a∈G->a∈W
 gm:∀a,a∈G->a∉μ
 go:∀a,a∈G->a∉own env
 g0:∀a,a∈G->s0.heap.get? a=ID
 w0:∀a,a∈G->a∉W0
 wo:∀a,a∈G->a∉O
 oW:∀a,a∈O->a∈W
 om:∀a,a∈O->a∉μ
 o0:∀a,a∈O->s0.heap.get? a=ID
theorem IU.step {O':List Addr} {H':List a_} (t:IU B env ρ H G O μ0 W0 s0 μ W s) (I':Inv B env ρ' H' μ' W' s') (x:Ext O' μ W s μ' W' s') (hO:∀a,a∈O'->s0.heap.get? a=ID):
 IU B env ρ' H' G O μ0 W0 s0 μ' W' s' where
 inv:=I'
 ext:=t.ext.past x hO t.m0
 m0:=t.m0
 gW:=λa h=>x.sub a (t.gW a h)
 gm:=λa h q=>by
  by_cases hm:a∈μ
  ·exact t.gm a h hm
  ·exact(x.IW a q hm).1 (t.gW a h)
 go:=t.go
 g0:=t.g0
 w0:=t.w0
 wo:=t.wo
 oW:=λa h=>x.sub a (t.oW a h)
 om:=λa h q=>by
  by_cases hm:a∈μ
  ·exact t.om a h hm
  ·exact(x.IW a q hm).1 (t.oW a h)
 o0:=t.o0
theorem IU.ghost {X:List Addr} (t:IU B env ρ H G O μ0 W0 s0 μ W s) (hX:∀a,a∈X->a∈G)
 (hs:∃h t,s'={s with heap:=h,toks:=t}) (k:∀b o,b∉X->s.heap.get? b=IC o->s'.heap.get? b=IC o) (al:∀b,b∈X->∃o,s'.heap.get? b=IC o):IU B env ρ H G O μ0 W0 s0 μ W s':=by
 refine t.step (O':=X) (t.inv.go X hs k (λa ha=>(fv (t.gW a (hX a ha)) (t.gm a (hX a ha)) (λq=>t.go a (hX a ha) (q▸ae)) (λq=>t.go a (hX a ha) (ag _ q)))) (λZ h=>h) (λZ a b=>absurd a b) (λZ a b=>absurd a b)
  (λa ha hx=>hx.elim (al a) (λz=>absurd ha z))) {keep:=λb o hb e=>k b o (λq=>hb (aR _ q)) e,pre:=.refl,sub:=λZ h=>h,fresh:=λZ a b=>absurd a b,IW:=λZ a b=>absurd a b} λa ha=>t.g0 a (hX a ha)
variable {D:Addr} {Q:Bool->List a_->Prop} {S:List a_->Prop} {Sd:List Addr->Heap->Prop} {ifs:List Expr} {Kx:Nat->Value->List Addr->Heap->Prop} {R:Do->aD->Prop}
noncomputable def Px (B:Bs) (n:Nat):List Expr->fF->List a_->(Bool->List a_->Prop)->Prop
 |[],_,H,Q=>Q true H
 |[c],ρ,H,Q=>Tr B n c ρ H Q
 |_,_,_,_=>False
theorem Px.sound {R:Bool->aD->Prop} (z:Px B n ifs ρ H Q) (g:Good n A) (I:Inv B env ρ H μ W s)
 (k:∀b H' μ' W' s',Q b H'->Inv B env ρ H' μ' W' s'->Ext [] μ W s μ' W' s'->R b s'):
 aC B.M A (forIn ifs true λc r=>if r=true then do let ok←oX c env (dq c env);pure (Fl ok)else pure (Fl r)) R (λZ Z=>False) s:=
 match ifs,z with
 |[],z=>wpAny_tests_nil (k true H μ W s z I .refl)
 |[c],z=>wpAny_tests_one (Tr.then z g I k)
noncomputable def nV {α:Type} (B:Bs) (n:Nat) (t:Expr) (ifs:List Expr) (S:List a_->Prop) (Step:fF->List a_->α->(α->List a_->Prop)->Prop):List PyData->α->fF->List a_->(α->List a_->Prop)->Prop
 |[],a,_,H,Q=>S H/\Q a H
 |x::xs,a,ρ,H,Q=>S H/\∃ρ1,Tj t (.dat x) ρ ρ1/\Px B n ifs ρ1 H λb H2=>if b then Step ρ1 H2 a (λa' H3=>nV B n t ifs S Step xs a' ρ1 H3 Q)else nV B n t ifs S Step xs a ρ1 H2 Q
def Ah {α:Type} (B:Bs) (n:Nat) (D:Addr) (env:pU) (Acc:List Addr->Heap->α->Prop) (act:xU Unit) (Step:fF->List a_->α->(α->List a_->Prop)->Prop):Prop:=
 ∀A ρ H a K s μ W,Good n A->Step ρ H a K->Inv B env ρ H μ W s->Acc W s.heap a->D∈W->D∉μ->D∉own env->
  aC B.M A act (λZ s'=>∃a' H' μ' W',K a' H'/\Inv B env ρ H' μ' W' s'/\Ext [D] μ W s μ' W' s'/\Acc W' s'.heap a') (λZ Z=>False) s
theorem IU.drop (t:IU B env ρ H (D::G) O μ0 W0 s0 μ W s) (hD:D∉G) (hs:∃h t,s'={s with heap:=h,toks:=t}) (k:∀b o,b∉G->s.heap.get? b=IC o->s'.heap.get? b=IC o):
 ∃W',IU B env ρ H [D] O μ0 W0 s0 μ W' s'/\∀b,b∈W'->b∈W:=by
 classical
 let W':=W.filter λa=>decide (a∉G);have Kn:∀a,a∈W'↔a∈W/\a∉G:=λa=>by simp[W']
 have I:=t.inv;have sg:∀a,a∈G->a∈D::G:=λa h=>ag _ h;have kW:hV W s.heap s'.heap:=λb o hb e=>k b o (λz=>hb (t.gW b (sg b z))) e;have f:v_ s.heap W W':=λa ha hn=>absurd ((Kn a).mp ha).1 hn;have kl:∀o,s.heap.get? env.locals=IC o->s'.heap.get? env.locals=IC o:=λo e=>k _ o (λz=>t.go _ (sg _ z) ae) e;have kc:∀n a,(n,a)∈(dz env)->∀o,s.heap.get? a=IC o->s'.heap.get? a=IC o:=λn a hm o e=>k _ o (λz=>t.go _ (sg _ z) (ag _ (aO (f:=(·.2)) hm))) e;have gn:∀b o,s0.heap.get? b=IC o->b∉G:=λb o e z=>by rw[t.g0 b (sg b z)]at e;exact ft e
 refine(aN W' ({inv:={same:=?_,old:=?_,IE:=λa ha=>I.IE a ((Kn a).mp ha).1,alive:=?_,o_:=(λa ha=>(Kn a).mpr ⟨I.o_ a ha,λz=>t.gm a (sg a z) ha⟩),IM:=I.IM,len:=I.len,objs:=?_,q_:=?_,nd:=I.nd,vars:=?_},ext:={keep:=λb o hb e=>k b o (gn b o e) (t.ext.keep b o hb e),pre:=t.ext.pre,sub:=λa ha=>(Kn a).mpr ⟨t.ext.sub a ha,λz=>?_⟩,fresh:=λa ha hn=>t.ext.fresh a ((Kn a).mp ha).1 hn,IW:=t.ext.IW},m0:=t.m0,gW:=?_,gm:=λa h=>t.gm a ?_,go:=λa h=>t.go a ?_,g0:=λa h=>t.g0 a ?_,w0:=λa h=>t.w0 a ?_,wo:=λa h=>t.wo a ?_,oW:=?_,om:=t.om,o0:=t.o0}) (λb hb=>((Kn b).mp hb).1))
 ·refine rX s' hs λZ Z=>?_;exact I.same
 ·exact λb o e=>kW b o (λz=>absurd (b0 e) (Nat.not_lt.mpr (I.IE b z))) (I.old b o e)
 ·intro a ha;exact bh ((Kn a).mp ha:_) λh1 h2=>bm (I.alive a h1:_) λo e=>⟨o,k a o h2 e⟩
 ·exact λi a o h1 h2=>(I.objs i a o h1 h2).mono kW (λo e=>k a o (λz=>t.gm a (sg a z) (an h1)) e) f .refl
 ·exact{kind:=I.q_.kind,glob:=I.q_.glob,LR:=I.q_.LR,loc:=bm I.q_.loc λm hn=>⟨m,hn.at' kl⟩,Kg:=(Kn _).mpr ⟨I.q_.Kg,λz=>t.go _ (sg _ z) ae⟩,Jv:=I.q_.Jv,cells:=λn a hm=>kn (I.q_.cells n a hm:_) λp q r f_=>gV f_ λoc o ho hd=>(fv ((Kn _).mpr ⟨p,λz=>t.go _ (sg _ z) (ag _ (aO (f:=(·.2)) hm))⟩) q r (ie oc o (kc n a hm o ho) hd)),apart:=I.q_.apart,above:=I.q_.above}
 ·exact λx ov hm=>(I.vars x ov hm).mono kW f .refl kl λa hl=>kc x a (cB hl)
 ·exact t.w0 a (sg a z) ha
 ·intro a h;cases List.mem_singleton.mp h;exact(Kn _).mpr ⟨t.gW _ ae,hD⟩
 ·exact(List.mem_singleton.mp h)▸ae
 ·exact(List.mem_singleton.mp h)▸ae
 ·exact(List.mem_singleton.mp h)▸ae
 ·exact(List.mem_singleton.mp h)▸ae
 ·exact(List.mem_singleton.mp h)▸ae
 ·exact λa h=>(Kn a).mpr ⟨t.oW a h,λz=>t.wo a (sg a z) h⟩
theorem Uh {M:Model} {c:Code} (hq:c.quiet=true) (I:Nat->aD->Prop)
 (turn:∀n s,I n s->∀(Q:tg->aD->Prop) E,(∀f s',R (.ok f) s'->Q (.done f) s')->(∀m s',m<n->I m s'->Q (.again c) s')->aC M (A.under c) (M.den c) Q E s) (n:Nat) (h:I n s):eY M A c R s:=
 codeAny_loop hq I (λn s hi=>turn n s hi _ _ (λ_ _ r=>r) λm s' hm hi=>⟨rfl,m,hm,hi⟩) n h
theorem Dp {e iter:Expr} {act:xU Unit} {I0:Addr} {acc:Value} {xs:List PyData} {T:Expr->Prop} {St:Nat->List Addr->Heap->Prop}
 {Step:fF->List a_->α->(α->List a_->Prop)->Prop} {Acc:List Addr->Heap->α->Prop} {μ1:List Addr} {Q:α->List a_->Prop}
  (Ki:wd e 0 (.ref I0) acc env=(do
   lb iter.pos
   match←hH (.ref I0)with
   |none=>pure (.done .next)
   |some v=>
    fj t (.ref I0) v
    fc t env v
    let mut ok:=true
    for c in ifs do
     if ok then ok←oX c env (dq c env)
    if ok then act
    again (.compLoop e 0 (.ref I0) acc env)))
  (Lj:∀A:du,A.under (.compLoop e 0 (.ref I0) acc env)=A) (Ln:B.M.den (.compLoop e 0 (.ref I0) acc env)=(wd e 0 (.ref I0) acc env).onRaise (λx=>do noteFrame x env;Ai x))
  (g:Good n A) (Lg:LU B A I0 G xs T Sd St Kx) (hT:T t) (hD:D∉G)
  (Y_:∀ρ' NK Kc KT LN,Pre μ1 Kc->Inv B env ρ' NK Kc KT LN->S NK->Sd KT LN.heap)
  (hO:∀x∈nU t,∀a,wc env x a->a∈O) (Yb:∀a,a∈O->a∈own env)
  (Vg:∀W h W' h' a,Acc W h a->D∈W->(∀b o,(b=D∨b∉W)->h.get? b=IC o->h'.get? b=IC o)->v_ h W W'->(∀a,a∈W->a∈W')->Acc W' h' a)
  (Jn:Ah B n D env Acc act Step)
  (hR:∀a ρ' H' μ' W1 W' s',Q a H'->IU B env ρ' H' [D] O μ0 W0 s0 μ' W' s'->(∀b,b∈W'->b∈W1)->Acc W1 s'.heap a->R (.ok .next) s')
  {a:α} (hC:nV B n t ifs S Step xs a ρ H Q) (t0:IU B env ρ H (D::G) O μ0 W0 s0 μ1 W s) (LB:St 0 W s.heap) (KO:Acc W s.heap a):
  eY B.M A (.compLoop e 0 (.ref I0) acc env) R s:=by
  refine Uh rfl (λk s'=>∃i a ρi Hi μi Wi,k=xs.length - i/\i<=xs.length/\nV B n t ifs S Step (xs.drop i) a ρi Hi Q/\IU B env ρi Hi (D::G) O μ0 W0 s0 μi Wi s'/\St i Wi s'.heap/\Acc Wi s'.heap a/\Pre μ1 μi) ?_ (xs.length - 0)
   (NT 0 a ρ H μ1 W rfl (aL _) (by assumption) t0 LB KO .refl)
  intro k s' k_;refine YI k k_ λi a ρi Hi μi Wi hle hC tn LB KO M3 Q1 E1 q1 q2=>?_
  (rw[Lj];refine ah _ Ln ?_)
  refine wpAny_noted (ah _ Ki ?_);have Mr:∀a,a∈G->a∈D::G:=λa h=>ag _ h;have N0:∀{s s':aD} {O' ρa Ha μa Wa μ' W'},IU B env ρa Ha (D::G) O μ0 W0 s0 μa Wa s->Ext O' μa Wa s μ' W' s'->(∀a,a∈O'->a∈O)->∀b o,(b=D∨b∈G∨b∉Wa)->s.heap.get? b=IC o->s'.heap.get? b=IC o:=by
   intro s s' O' ρa Ha μa Wa μ' W' tt x Yc b o hb e;refine x.keep b o (λq=>?_) e;have hb:b∈D::G∨b∉Wa:=hb.elim (λz=>.inl (z▸ae)) (Or.imp (Mr b) id);exact(List.mem_append.mp q).elim (λq=>hb.elim (λz=>tt.gm _ z q) λz=>z (tt.inv.o_ b q)) λq=>hb.elim (λz=>tt.go _ z (Yb b (Yc b q))) λz=>z (tt.oW b (Yc b q))
  have Xz:∀{s s':aD} {O' ρa Ha μa Wa μ' W'} {a:α},IU B env ρa Ha (D::G) O μ0 W0 s0 μa Wa s->Ext O' μa Wa s μ' W' s'->(∀a,a∈O'->a∈O)->Acc Wa s.heap a->Acc W' s'.heap a:=by
   intro s s' O' ρa Ha μa Wa μ' W' a tt x Yc ac;exact Vg _ _ _ _ _ ac (tt.gW D ae) (λb o hb e=>N0 tt x Yc b o (hb.elim .inl λq=>.inr (.inr q)) e) x.fresh x.sub
  have Sz:∀{s:aD} {h':Heap} {ρa Ha μa Wa} {a:α},IU B env ρa Ha (D::G) O μ0 W0 s0 μa Wa s->(∀b o,b∉G->s.heap.get? b=IC o->h'.get? b=IC o)->Acc Wa s.heap a->Acc Wa h' a:=λtt hk ac=>
   Vg _ _ _ _ _ ac (tt.gW D ae) (λb o hb e=>hk b o (λq=>hb.elim (λz=>hD (z▸q)) λz=>z (tt.gW b (Mr b q))) e) (λZ a b=>absurd a b) λZ h=>h
  by_cases hi:i<xs.length
  ·have hd:xs.drop i=xs[i]::xs.drop (i+1):=cU hi;rw[hd]at hC;refine bh hC λhS k_=>?_;refine aG k_ λρ1 hb aab=>?_;refine aa (bw (aa ?_));refine aM (Lg.next i xs[i] Wi s' (λr s₁=>∃c,r=IC c/\Rp Wi s₁.heap c xs[i]/\Kx i c Wi s₁.heap/\IU B env ρi Hi (D::G) O μ0 W0 s0 μi Wi s₁/\Acc Wi s₁.heap a) (aJ hi) tn.inv.alive (Y_ _ _ _ _ _ M3 tn.inv hS) LB
    λc h' tk r hm hk al=>(Aa c rfl r hm (tn.ghost Mr (cY _ _ rfl) hk al) (Sz tn hk KO))) (λr s₁ h₁=>?_) λZ Z e=>e.elim
   refine NZ h₁ λc j_ r hm PK ac1=>?_;obtain rfl:=j_;refine aa (aM (Lg.go i t c Wi s₁ (λZ s₂=>St (i+1) Wi s₂.heap/\IU B env ρi Hi (D::G) O μ0 W0 s0 μi Wi s₂/\Rp Wi s₂.heap c xs[i]/\Acc Wi s₂.heap a) hT hm λh' LA hk al=>(fv LA (PK.ghost Mr (cY _ _ rfl) hk al) (r.mono (λb o hb e=>hk b o (λz=>hb (PK.gW b (Mr b z))) e) (λZ a b=>absurd a b)) (Sz PK hk ac1))) (λZ s₂ h₂=>?_) λZ Z e=>e.elim);refine kn h₂ λRG Nu r2 ac2=>aa (aM (hb.sound (v:=.dat xs[i]) (R:=λZ s₃=>Inv B env ρ1 Hi μi Wi s₃/\Ext O μi Wi s₂ μi Wi s₃) g.1 Nu.inv r2 hO Nu.oW λs₃ I3 x3=>⟨I3,x3⟩) (λZ s₃ h₃=>?_) λZ Z e=>e.elim);refine bh h₃ λI3 x3=>?_;have SL:=Nu.step I3 x3 Nu.o0;have ac3:=Xz Nu x3 (λZ h=>h) ac2;have N2:St (i+1) Wi s₃.heap:=Lg.IX _ _ _ _ _ RG (λb o hb e=>N0 Nu x3 (λZ h=>h) b o (.inr hb) e) x3.fresh x3.sub;refine aa (Px.sound (R:=λb s₄=>∃H' μ' W',(if b then Step ρ1 H' a (λa' H3=>nV B n t ifs S Step (xs.drop (i+1)) a' ρ1 H3 Q)else nV B n t ifs S Step (xs.drop (i+1)) a ρ1 H' Q)/\Inv B env ρ1 H' μ' W' s₄/\Ext [] μi Wi s₃ μ' W' s₄) aab g I3 (λb H' μ' W' s' q I' x'=>(oV H' μ' W' q I' x')) |>λz=>aM z (λb s₄ h₄=>?_) λZ Z e=>e.elim);refine A8 h₄ λH4 μ4 W4 q4 I4 x4=>?_;have MD:=SL.step I4 x4 (λZ h=>de h);have ac4:=Xz SL x4 (λZ h=>de h) ac3;have M2:St (i+1) W4 s₄.heap:=Lg.IX _ _ _ _ _ N2 (λb o hb e=>N0 SL x4 (λZ h=>de h) b o (.inr hb) e) x4.fresh x4.sub;have U4:Pre μ1 μ4:=M3.trans x4.pre
   cases b with
   |false=>exact ai (q2 _ _ (ar8 hi) (NT (i+1) a ρ1 H4 μ4 W4 rfl hi q4 MD M2 ac4 U4))
   |true=>
    refine aa (aM (Jn A ρ1 H4 a _ s₄ μ4 W4 g q4 I4 ac4 (MD.gW D ae) (MD.gm D ae) (MD.go D ae)) (λZ s₅ h₅=>?_) λZ Z e=>e.elim);refine oU h₅ λa5 H5 μ5 W5 q5 I5 x5 ac5=>?_;have tn5:=MD.step I5 x5 λb hb=>List.mem_singleton.mp hb▸MD.g0 D ae;have ZA:St (i+1) W5 s₅.heap:=Lg.IX _ _ _ _ _ M2 (λb o hb e=>x5.keep b o (λq=>(List.mem_append.mp q).elim
     (λq=>hb.elim (λhb=>MD.gm b (Mr b hb) q) λhb=>hb (MD.inv.o_ b q))
     λq=>hb.elim (λhb=>hD (List.mem_singleton.mp q▸hb)) λhb=>hb (List.mem_singleton.mp q▸MD.gW D ae)) e) x5.fresh x5.sub
    exact ai (q2 _ _ (ar8 hi) (NT (i+1) a5 ρ1 H5 μ5 W5 rfl hi q5 tn5 ZA ac5 (U4.trans x5.pre)))
  ·have:i=xs.length:=cC hle (c7 hi);subst this;simp only[fk]at hC;refine aa (bw (aa ?_));refine aM (Lg.done Wi s' (λr s₁=>r=ID/\(∃W',IU B env ρi Hi [D] O μ0 W0 s0 μi W' s₁/\(∀b,b∈W'->b∈Wi))/\Acc Wi s₁.heap a) (Y_ _ _ _ _ _ M3 tn.inv hC.1) LB λh' tk hk=>⟨rfl,?_,?_⟩) (λr s₁ h₁=>?_) λZ Z e=>e.elim
   ·exact tn.drop hD (cY _ _ rfl) hk
   ·exact Sz tn hk KO
   refine Qy r h₁ λs_ ac1=>?_;refine aG s_ λW' PK less=>?_;exact ai (q1 _ _ (hR a ρi Hi μi Wi W' s₁ hC.2 PK less ac1))
variable {R:pU->aD->Prop} {acc:List (Str×Addr)} {scope:pA} {p:Str×bB}
noncomputable def pB (env:pU) (acc:List (Str×Addr)) (p:Str×bB):List (Str×Addr):=if p.2==.free then(p.1,(env.cells.lookup p.1).getD 0)::acc else acc
noncomputable def mK (env:pU) (names:List (Str×bB)) (acc:List (Str×Addr)):List (Str×Addr):=names.foldl (pB env) acc
theorem Aj (f:Str×bB->List (Str×Addr)->xU (ForInStep (List (Str×Addr))))
 (hf:∀name kind cs,f (name,kind) cs=if(kind==dP)=true then(do let a←cellOf env name;pure (.yield ((name,a)::cs)))else pure (.yield cs))
 (names:List (Str×bB)) (acc:List (Str×Addr)) (h:∀x,(x,dP)∈names->∃a,env.cells.lookup x=IC a):forIn names acc f=(pure (mK env names acc):xU _):=by
 induction names generalizing acc with
 |nil=>rfl
 |cons p r ih=>
  (refine ah _ (je ..) ?_;refine ah _ (show f p acc=_ from hf p.1 p.2 acc) ?_)
  show _=pure (mK env r (if p.2==.free then _ else acc));refine ah _ (ih _ λy hy=>h y (ag _ hy) ..).symm ?_;by_cases hk:(p.2==dP)=true
  ·(refine ah _ (if_pos hk ..) ?_;refine ah _ (if_pos hk ..) ?_)
   refine bm (h p.1 ((show(p.1,dP)=p from Prod.ext rfl (beq_iff_eq.mp hk).symm)▸ae)) λa ha=>?_;have:cellOf env p.1=pure a:=by unfold cellOf;refine ah _ ha rfl
   (refine ah _ this ?_;refine ah _ ha ?_);rfl
  ·(refine ah _ (if_neg hk ..) ?_;refine ah _ (if_neg hk ..) ?_);rfl
theorem uI (h:∀x,(x,dP)∈scope.names->∃a,env.cells.lookup x=IC a):uJ scope env=pure (mK env scope.names []):=by
 simp only[uJ];refine ah _ (Aj (env:=env) _ (λZ Z Z=>rfl) scope.names [] h ..) ?_
 rfl
theorem Ak (h:(x,a)∈pB env acc p):(x,a)∈acc∨((x,dP)=p/\a=(env.cells.lookup x).getD 0):=by
 unfold pB at h
 split at h
 ·rename_i hk
  refine(List.mem_cons.mp h).elim (λq=>.inr ?_) .inl;have q:=Al q;exact⟨Prod.ext q.1 (beq_iff_eq.mp hk).symm,q.1▸q.2⟩
 ·exact .inl h
theorem xY (names:List (Str×bB)) (acc:List (Str×Addr)) (x:Str) (a:Addr) (h:(x,a)∈mK env names acc):(x,a)∈acc∨((x,dP)∈names/\a=(env.cells.lookup x).getD 0):=by
 induction names generalizing acc with
 |nil=>exact .inl h
 |cons p r ih=>exact(ih _ h).elim (λq=>(Ak q).imp id λq=>⟨List.mem_cons.mpr (.inl q.1),q.2⟩) λq=>.inr ⟨ag _ q.1,q.2⟩
theorem Am (h:x≠p.1):(pB env acc p).lookup x=acc.lookup x:=by
 unfold pB
 split
 ·(refine ah _ (nJ ..) ?_;refine ah _ (beq_eq_false_iff_ne.mpr h ..) rfl)
 ·rfl
theorem FX (names:List (Str×bB)) (acc:List (Str×Addr)) (x:Str) (h:x∉names.map (·.1)):(mK env names acc).lookup x=acc.lookup x:=by
 induction names generalizing acc with
 |nil=>rfl
 |cons p r ih=>exact(ih _ λq=>h (ag _ q)).trans (Am λe=>h (List.mem_cons.mpr (.inl e)))
theorem FY (names:List (Str×bB)) (acc:List (Str×Addr)) (x:Str) (nd:(names.map (·.1)).Nodup) (h:(x,dP)∈names):(mK env names acc).lookup x=IC ((env.cells.lookup x).getD 0):=by
 induction names generalizing acc with
 |nil=>nomatch h
 |cons p r ih=>
  have nd:=List.nodup_cons.mp nd;refine(List.mem_cons.mp h).elim (λe=>?_) (ih _ nd.2);cases e;exact(FX r _ x nd.1).trans Dl
theorem An (names:List (Str×bB)) (acc:List (Str×Addr)) (nd:(names.map (·.1)).Nodup) (h:(acc.map (·.1)).Nodup) (d:∀x,x∈acc.map (·.1)->x∉names.map (·.1)):((mK env names acc).map (·.1)).Nodup:=by
 induction names generalizing acc with
 |nil=>exact h
 |cons p r ih=>
  have nd:=List.nodup_cons.mp nd;show((mK env r (pB env acc p)).map (·.1)).Nodup;unfold pB
  split
  ·exact ih _ nd.2 (List.nodup_cons.mpr ⟨λq=>d p.1 q ae,h⟩) λx hx=>(List.mem_cons.mp hx).elim (λe=>e▸nd.1) λhx q=>d x hx (ag _ q)
  ·exact ih _ nd.2 h λx hx q=>d x hx (ag _ q)
theorem we (nd:(scope.names.map (·.1)).Nodup) {k:bB} (hm:(x,k)∈scope.names):
 (gj scope env).names.lookup x=IC (if(k==.free&&env.scope.kind==.function&&env.kindOf x==IC .cell)=true then .cell else k):=by
 refine eF ?_ ?_
 ·have:(gj scope env).names.map (·.1)=scope.names.map (·.1):=by
   simp only[gj,cV];refine qK λa Z=>?_;obtain⟨p,q⟩:=a;show(if _ then _ else _:Str×bB).1=p
   split<;>rfl
  refine ah _ this ?_;exact nd
 ·have:(x,if(k==.free&&env.scope.kind==.function&&env.kindOf x==IC .cell)=true then cF else k)=(λ(p:Str×bB)=>match p with|(n,k)=>if(k==.free&&env.scope.kind==.function&&env.kindOf n==IC .cell)=true then(n,cF)else(n,k)) (x,k):=by
   show _=if _ then _ else _
   split<;>rfl
  exact ah _ this (aO hm)
theorem pC (I:Inv B env ρ H μ W s) (Ja:scope.kind=.function) (nd:(scope.names.map (·.1)).Nodup) (hc:JW B ρ scope.names ρ') (Jd:∀k,(bR,k)∉scope.names)
 (q:∀(IL:pU) (s':aD) (W' O:List Addr),Inv B {IL with scope:=gj scope env} ρ' H μ W' s'->Ext [] μ W s μ W' s'->(∀b o,s.heap.get? b=IC o->s'.heap.get? b=IC o)->IL.locals∈O->
  (∀x a,((x,NameKind.local)∈scope.names∨(x,cF)∈scope.names)->wc {IL with scope:=gj scope env} x a->a∈O)->(∀a,a∈O->a∈own {IL with scope:=gj scope env})->(∀a,a∈O->s.heap.get? a=ID)->
  (∀a,a∈own {IL with scope:=gj scope env}->a∈O∨a∈own env)->R IL s'):
  uJ scope env=pure (mK env scope.names [])/\aC B.M A (nv scope env.globals (mK env scope.names []) [] env.qual ID .none (IC env)) R E s:=by
  have N8:∀x,(x,dP)∈scope.names->env.kindOf x=IC .cell/\(∃v,(x,Kd.cell,v)∈ρ)/\∃a,env.cells.lookup x=IC a/\(dz env).lookup x=IC a:=by
   intro x hx;have Lr:x∈ρ'.map (·.1):=by refine ah _ (hc.keys ..) ?_;exact aO (f:=(·.1)) hx
   refine xA Lr λf_ he k_=>?_;obtain⟨y,e⟩:=f_;obtain rfl:=k_;have hyc:y≠bR:=λq=>Jd _ (q▸hx);have uniq:∀k,(y,k)∈scope.names->k=dP:=λk hk=>by
    have h1:=eF nd hk;have h2:=eF nd hx;rw[h1]at h2;exact bS h2
   rcases hc.mem he with⟨a,_⟩|⟨a,_⟩|⟨_,hk,hr⟩|⟨a,_⟩|⟨_,a,_⟩
   ·cases uniq _ a
   ·cases uniq _ a
   ·obtain⟨k,v⟩:=e;cases hk;rcases I.vars y _ hr with⟨q,_⟩|⟨_,h2,ad,oc,h3,_⟩|⟨q,_⟩|⟨q,_⟩
    ·cases q
    ·exact(mB h2 ⟨v,hr⟩ (aN ad (lq h3) h3))
    ·cases q
    ·cases q
   ·cases uniq _ a
   ·exact absurd a hyc
  refine⟨uI λx hx=>aG ((N8 x hx).2.2:_) λa h Z=>⟨a,h⟩,?_⟩;simp only[nv,Option.isSome_some,if_true];refine aa (zX ?_);refine aa (Dn _ (λname kind cells=>by cases UV:kind==cF<;>simp[UV]) _ _ _ _ ?_);refine ah _ (show({s with heap:=s.heap.push {cls:=.type "dict",data:=.dict #[]}}:aD).heap.objs.size=s.heap.objs.size+1 from bz ..) (aa (ai (ai ?_)));refine ah _ (jC ..) ?_;generalize Ml:({scope:=scope,locals:=s.heap.objs.size,globals:=env.globals,cells:=bU (s.heap.objs.size+1) scope.names []++mK env scope.names [],qual:=env.qual,func:=ID,code:=env.code,frame:=env.frame,builtins:=env.builtins}:pU)=IL;have k1:IL.locals=s.heap.objs.size:=Ml▸rfl;have k2:IL.cells=bU (s.heap.objs.size+1) scope.names []++mK env scope.names []:=Ml▸rfl;have kk:∀x k,(x,k)∈scope.names->Env.kindOf {IL with scope:=gj scope env} x=IC (if(k==.free&&env.scope.kind==.function&&env.kindOf x==IC .cell)=true then .cell else k):=λx k hm=>we nd hm;have Yi:∀m a,(m,a)∈mK env scope.names []->(m,a)∈dz env:=λm a hm=>by
   rcases xY _ _ _ _ hm with q|⟨q,e⟩
   ·exact de q
   ·refine ee (N8 m q:_) λZ Z j_=>?_;refine aG j_ λad had aas=>?_
    (refine ah _ e ?_;refine ah _ had ?_);exact cB aas
  have hpw:(mK env scope.names []).Pairwise λx y=>x.2≠y.2:=by
   have h1:=An (env:=env) scope.names [] nd (by decide) (λZ h=>de h);rw[List.Nodup,sG]at h1;exact h1.imp_of_mem λ{x y} hx hy IQ e=>IQ (name_of_addr I.q_.apart (Yi _ _ hx) (e▸Yi _ _ hy))
  have k3:dz {IL with scope:=gj scope env}=bU (s.heap.objs.size+1) scope.names []++mK env scope.names []:=by
   have:dz {IL with scope:=gj scope env}=IL.cells:=xR (env:={IL with scope:=gj scope env}) λa hm=>by
    have Mf:(bR,a)∈IL.cells:=hm;rw[k2]at Mf;rcases List.mem_append.mp Mf with q|q
    ·exact Jd _ (jD _ _ _ _ q)
    ·rcases xY _ _ _ _ q with z|⟨z,_⟩
     ·exact de z
     ·exact Jd _ z
   (refine ah _ this ?_;refine ah _ k2 rfl)
  refine lO (I.enter (env':={IL with scope:=gj scope env}) (ρ':=ρ') scope.names (mK env scope.names []) (.type "dict") s.toks Yi hpw k1 k3 (by refine ah _ Ml.symm ?_;exact I.q_.glob) (by refine ah _ Ml.symm ?_;exact I.q_.LR) (by exact Ja)
   (by refine ah _ (hc.keys ..) ?_;exact nd) (λx e hm=>by
    rcases hc.mem hm with⟨a,rfl⟩|⟨a,rfl⟩|⟨a,hk,hr⟩|⟨a,hk,c,h1,h2⟩|⟨a,q,_⟩
    ·exact .inl ⟨rfl,kk _ _ a⟩
    ·exact bm (jE scope.names (s.heap.objs.size+1) x a:_) λad hh=>.inr (.inl ⟨rfl,kk _ _ a,ad,hh⟩)
    ·refine ee (N8 x a:_) λf1 Z p_=>?_;refine aG p_ λad f3 f4=>?_;refine .inr (.inr (.inl (fv hk hr ?_ ?_)))
     ·(refine ah _ (kk _ _ a ..) ?_;refine ah _ (I.q_.kind ..) ?_;refine ah _ (f1 ..) ?_);rfl
     ·(refine ah _ k3 ?_;rw[lU];refine ah _ (FY _ _ _ nd a ..) ?_;refine ah _ (f3 ..) ?_;refine ah _ (f4 ..) ?_);rfl
      intro b hb;have:=jD _ _ _ _ hb;have h1:=eF nd this;have h2:=eF nd a;rw[h1]at h2;cases h2
    ·exact .inr (.inr (.inr (.inl (mB hk (kk _ _ a) (aN c h1 h2)))))
    ·exact absurd (q▸a) (Jd _)):_) λW1 I1 x1 UH hcf=>?_
  refine q IL _ W1 (s.heap.objs.size::(bU (s.heap.objs.size+1) scope.names []).map (·.2)) I1 x1 ?_ ?_ ?_ ?_ ?_ ?_
  ·exact λb o e=>lV _ _ b o (av _ e)
  ·refine ah _ k1 ?_;exact ae
  ·intro x a hx ha;rcases ha with⟨_,rfl⟩|⟨hk,hl⟩
   ·show IL.locals∈_;refine ah _ k1 ?_;exact ae
   ·have LF:(x,cF)∈scope.names:=by
     rcases hx with hx|hx
     ·rw[kk _ _ hx]at hk;cases hk
     ·exact hx
    refine bm (jE scope.names (s.heap.objs.size+1) x LF:_) λb hb=>bm (ly hb:_) λc Y6=>?_;have:(dz {IL with scope:=gj scope env}).lookup x=IC c:=by refine ah _ k3 ?_;exact nh Y6
    rw[this]at hl;cases hl;exact ag _ (aO (f:=(·.2)) (cB Y6))
  ·intro a ha;rcases List.mem_cons.mp ha with rfl|ha
   ·show _∈IL.locals::_;refine ah _ k1 ?_;exact ae
   ·refine ag _ ?_;show a∈(dz {IL with scope:=gj scope env}).map (·.2)
    (refine ah _ k3 ?_;refine ah _ (aT ..) ?_);exact az _ ha
  ·intro a ha;rcases List.mem_cons.mp ha with rfl|ha
   ·exact bQ (aq _)
   ·exact hcf a ha
  ·intro a ha;rcases List.mem_cons.mp ha with e|ha
   ·exact .inl (by refine ah _ e ?_;show IL.locals∈_;refine ah _ k1 ?_;exact ae)
   ·rw[k3,aT]at ha;rcases List.mem_append.mp ha with q|q
    ·exact .inl (ag _ q)
    ·refine xA q λs_ hm C_=>?_;obtain⟨m,c⟩:=s_;obtain rfl:=C_;exact .inr (ag _ (aO (f:=(·.2)) (Yi _ _ hm)))
variable {act:Addr->pU->xU Unit} {P:Value->Addr->Do->aD->Prop}
structure FZ (B:Bs) {α:Type} (Acc:Addr->List Addr->Heap->α->Prop) (a0:α) (Jj:Obj):Prop where
 init:∀W (h:Heap),Acc h.objs.size W (h.push Jj) a0
 live:Jj.isFreed=false
 keep:∀D W h W' h' a,Acc D W h a->D∈W->(∀b o,(b=D∨b∉W)->h.get? b=IC o->h'.get? b=IC o)->v_ h W W'->(∀a,a∈W->a∈W')->Acc D W' h' a
 less:∀D W W' h a,Acc D W h a->(∀a,a∈W'->a∈W)->Acc D W' h a
 at_:∀D W h h' a,Acc D W h a->D∉W->(∀b o,b∉W->h.get? b=IC o->h'.get? b=IC o)->Acc D W h' a
theorem qX {H':List a_} (I:Inv B env ρ H μ W s) (x:Ext [] μ W s μ' W' s') (I':Inv B env' ρ' H' μ' W' s') (e:s'.heap.get? a=ID):s.heap.get? a=none:=by
 cases hs:s.heap.get? a with
 |none=>rfl
 |some o=>
  by_cases hm:a∈μ
  ·refine bm (I'.alive a (x.sub a (I.o_ a hm)):_) λo' e'=>?_;rw[e]at e';exact ft e'
  ·rw[x.keep a o (by simpa using hm) hs]at e;exact v8 e
theorem Inv.drop (I:Inv B env ρ H μ W s) (X:List Addr) (hm:∀a,a∈X->a∉μ) (ho:∀a,a∈X->a∉own env) (hX:∀a,a∈X->a∈W) (hs:∃h t,s'={s with heap:=h,toks:=t})
 (k:∀b o,b∉X->s.heap.get? b=IC o->s'.heap.get? b=IC o):∃W',Inv B env ρ H μ W' s'/\∀b,b∈W'↔b∈W/\b∉X:=by
 classical
 let W':=W.filter λa=>decide (a∉X);have Kn:∀a,a∈W'↔a∈W/\a∉X:=λa=>by simp[W']
 have kW:hV W s.heap s'.heap:=λb o hb e=>k b o (λz=>hb (hX b z)) e;have f:v_ s.heap W W':=λa ha hn=>absurd ((Kn a).mp ha).1 hn;have kl:∀o,s.heap.get? env.locals=IC o->s'.heap.get? env.locals=IC o:=λo e=>k _ o (λz=>ho _ z ae) e;have kc:∀n a,(n,a)∈(dz env)->∀o,s.heap.get? a=IC o->s'.heap.get? a=IC o:=λn a hm o e=>k _ o (λz=>ho _ z (ag _ (aO (f:=(·.2)) hm))) e;refine(aN W' ({same:=?_,old:=?_,IE:=λa ha=>I.IE a ((Kn a).mp ha).1,alive:=?_,o_:=(λa ha=>(Kn a).mpr ⟨I.o_ a ha,λz=>hm a z ha⟩),IM:=I.IM,len:=I.len,objs:=?_,q_:=?_,nd:=I.nd,vars:=?_}) Kn)
 ·refine rX s' hs λZ Z=>?_;exact I.same
 ·exact λb o e=>kW b o (λz=>absurd (b0 e) (Nat.not_lt.mpr (I.IE b z))) (I.old b o e)
 ·intro a ha;exact bh ((Kn a).mp ha:_) λh1 h2=>bm (I.alive a h1:_) λo e=>⟨o,k a o h2 e⟩
 ·exact λi a o h1 h2=>(I.objs i a o h1 h2).mono kW (λo e=>k a o (λz=>hm a z (an h1)) e) f .refl
 ·exact{kind:=I.q_.kind,glob:=I.q_.glob,LR:=I.q_.LR,loc:=bm I.q_.loc λm hn=>⟨m,hn.at' kl⟩,Kg:=(Kn _).mpr ⟨I.q_.Kg,λz=>ho _ z ae⟩,Jv:=I.q_.Jv,cells:=λn a hm=>kn (I.q_.cells n a hm:_) λp q r f_=>gV f_ λoc o hoo hd=>(fv ((Kn _).mpr ⟨p,λz=>ho _ z (ag _ (aO (f:=(·.2)) hm))⟩) q r (ie oc o (kc n a hm o hoo) hd)),apart:=I.q_.apart,above:=I.q_.above}
 ·exact λx ov hm=>(I.vars x ov hm).mono kW f .refl kl λa hl=>kc x a (cB hl)
theorem Ext.drop (x:Ext [] μ W s μ' W' s') (X:List Addr) {KT:List Addr} (hW:∀b,b∈KT↔b∈W'/\b∉X) (hX:∀a,a∈X->a∉W/\s.heap.get? a=ID) (k:∀b o,b∉X->s'.heap.get? b=IC o->LN.heap.get? b=IC o):Ext [] μ W s μ' KT LN where
 keep:=λb o hb e=>k b o (λz=>by rw[(hX b z).2]at e;exact ft e) (x.keep b o hb e)
 pre:=x.pre
 sub:=λa h=>(hW a).mpr ⟨x.sub a h,λz=>(hX a z).1 h⟩
 fresh:=λa h1 h2=>x.fresh a ((hW a).mp h1).1 h2
 IW:=x.IW
theorem th {e iter:Expr} {Ju:xU Value} {Jj:Obj} {Acc:Addr->List Addr->Heap->α->Prop} {a0:α} {T:Expr->Prop}
 {Step:fF->List a_->α->(α->List a_->Prop)->Prop} {Qf:α->List a_->Prop}
 (JS:∀(s:aD) (R:Value->aD->Prop),R (.ref s.heap.objs.size) {s with heap:=s.heap.push Jj}->aC B.M A Ju R (λZ Z=>False) s)
 (JZ:∀(it acc:Value) (env:pU) (R:Do->aD->Prop) (s:aD),eY B.M A (.compLoop e 0 it acc env) R s->aC B.M A (l4 it) (λZk s'=>eY B.M A (.compLoop e 0 Zk acc env) R s') (λZ Z=>False) s->eY B.M A (.compStart e 0 it acc env) R s)
 (Ki:∀(I0 D:Addr) (env:pU),wd e 0 (.ref I0) (.ref D) env=(do
  lb iter.pos
  match←hH (.ref I0)with
  |none=>pure (.done .next)
  |some v=>
   fj t (.ref I0) v
   fc t env v
   let mut ok:=true
   for c in ifs do
    if ok then ok←oX c env (dq c env)
   if ok then act D env
   again (.compLoop e 0 (.ref I0) (.ref D) env)))
 (Lj:∀(A:du) it acc env,A.under (.compLoop e 0 it acc env)=A) (Ln:∀it acc env,B.M.den (.compLoop e 0 it acc env)=(wd e 0 it acc env).onRaise (λx=>do noteFrame x env;Ai x))
 (K:FZ B Acc a0 Jj) (Jn:∀D env,Ah B n D env (Acc D) (act D env) Step)
 (Ja:scope.kind=.function) (nd:(scope.names.map (·.1)).Nodup) (Jd:∀k,(bR,k)∉scope.names) (Uw:∀x∈nU t,(x,NameKind.local)∈scope.names∨(x,cF)∈scope.names) (hT:T t)
 (hI:KA B n iter ρ H T λxs S H1=>∃ρ',JW B ρ scope.names ρ'/\nV B n t ifs S Step xs a0 ρ' H1 Qf)
 (g:Good n A) (I:Inv B env ρ H μ W s)
 (hP:∀a D C H' μ' W' s',Qf a H'->Inv B env ρ H' μ' W' s'->Ext [] μ W s μ' W' s'->D∉W'->Acc D W' s'.heap a->C∈W'->C∉μ'->C∉own env->(∃m,s'.heap.Ns C m)->s.heap.get? C=ID->s.heap.get? D=ID->B.s₁.heap.objs.size<=D->P (.ref D) C (.ok .next) s'):
 aC B.M A (dq iter env) (λx s₁=>aC B.M A (l4 x) (λit s₂=>aC B.M A Ju (λacc s₃=>
  aC B.M A (nv scope env.globals (mK env scope.names []) [] env.qual ID .none (IC env)) (λIL s₄=>
   eY B.M A (.compStart e 0 it acc {IL with scope:=gj scope env}) (P acc IL.locals) s₄) (λZ Z=>False) s₃) (λZ Z=>False) s₂) (λZ Z=>False) s₁) (λZ Z=>False) s:=by
 refine aM (hI A env s μ W g I) (λx s1 h1=>aM h1 (λit s2 h2=>?_) λZ Z e=>e) λZ Z e=>e;refine YY h2 λxs S H1 μ1 W1 Wb k_ I2 x2 j_=>?_;refine aG k_ λρ' J3 hC=>?_;refine Ts it j_ λI0 G Sd St Kx Nj Q_ hG MG Jk Y_=>?_;refine JS s2 _ ?_;have Vd:s2.heap.objs.size∉W1:=I2.out (aq _);have I3:=I2.ghost K.live s2.toks;have Lg:=Nj A g;have x3:Ext [] μ W s μ1 (s2.heap.objs.size::W1) {s2 with heap:=s2.heap.push Jj}:={
  keep:=λb o hb e=>b9 _ b o (x2.keep b o hb e)
  pre:=x2.pre
  sub:=λa h=>ag _ (Jk a (x2.sub a h))
  fresh:=λa ha hn=>by
   rcases List.mem_cons.mp ha with rfl|ha
   ·have x2':Ext [] μ W s μ1 W1 s2:=⟨x2.keep,x2.pre,λa h=>Jk a (x2.sub a h),λa ha hn=>(MG a ha).elim (λz=>(hG a z).2.2.2) (λz=>x2.fresh a z hn),x2.IW⟩;exact qX I x2' I2 (bQ (aq _))
   ·exact(MG a ha).elim (λz=>(hG a z).2.2.2) (λz=>x2.fresh a z hn)
  IW:=x2.IW}
 have hDG:s2.heap.objs.size∉G:=λz=>Vd (hG _ z).1;have N2:St 0 (s2.heap.objs.size::W1) (s2.heap.push Jj):=Lg.IX _ _ _ _ _ Q_ (λb o Z e=>b9 _ b o e) (λa ha hn=>by
  rcases List.mem_cons.mp ha with rfl|z
  ·exact bQ (aq _)
  ·exact absurd z hn) (λa h=>ag _ h)
 refine(pC I3 Ja nd J3 Jd λIL s4 W4 O I4 x4 k4 hLO hAO Yb Vb hoO=>?_).2;have M2:St 0 W4 s4.heap:=Lg.IX _ _ _ _ _ N2 (λb o Z e=>k4 b o e) x4.fresh x4.sub;have ZD:∀a,a∈O->s.heap.get? a=none:=λa ha=>qX I x3 I3 (Vb a ha);have Vc:s2.heap.objs.size∉own {IL with scope:=gj scope env}:=λz=>by
  rcases hoO _ z with z|z
  ·have:=Vb _ z;rw[show({s2 with heap:=s2.heap.push Jj}:aD).heap.get? s2.heap.objs.size=IC Jj from aH _ K.live]at this;exact v8 this
  ·exact Vd (Jk _ (x2.sub _ (I.J9 _ z)))
 have aaw:∀a,a∈O->a∈W4:=λa ha=>I4.J9 a (Yb a ha);have ZM:∀a,a∈O->a∉μ1:=λa ha hm=>by
  refine bm (I3.alive a (I3.o_ a hm):_) λo e=>?_;rw[Vb a ha]at e;exact ft e
 have t0:IU B {IL with scope:=gj scope env} ρ' H1 (s2.heap.objs.size::G) O μ W s μ1 W4 s4:={
  inv:=I4
  ext:=x3.trans x4 I.o_ (λZ h=>de h)
  m0:=I.o_
  gW:=λa ha=>x4.sub a (by
   rcases List.mem_cons.mp ha with rfl|ha
   ·exact ae
   ·exact ag _ (hG a ha).1)
  gm:=λa ha hm=>by
   rcases List.mem_cons.mp ha with rfl|ha
   ·exact Vd (I2.o_ _ hm)
   ·exact(hG a ha).2.2.1 hm
  go:=λa ha z=>by
   rcases List.mem_cons.mp ha with rfl|ha
   ·exact Vc z
   ·rcases hoO a z with z|z
    ·have h1:=Vb a z;refine bm (I2.alive a (hG a ha).1:_) λo e=>?_;have h2:(s2.heap.push Jj).get? a=IC o:=b9 _ _ _ e;rw[show({s2 with heap:=s2.heap.push Jj}:aD).heap.get? a=IC o from h2]at h1;exact v8 h1
    ·exact(hG a ha).2.1 (x2.sub a (I.J9 a z))
  g0:=λa ha=>by
   rcases List.mem_cons.mp ha with rfl|ha
   ·exact x3.fresh _ ae (λz=>Vd (Jk _ (x2.sub _ z)))
   ·exact(hG a ha).2.2.2
  w0:=λa ha z=>by
   rcases List.mem_cons.mp ha with rfl|ha
   ·exact Vd (Jk _ (x2.sub _ z))
   ·exact(hG a ha).2.1 (x2.sub a z)
  wo:=λa ha z=>by
   have h1:=Vb a z;rcases List.mem_cons.mp ha with rfl|ha
   ·rw[show({s2 with heap:=s2.heap.push Jj}:aD).heap.get? s2.heap.objs.size=IC Jj from aH _ K.live]at h1;exact v8 h1
   ·refine bm (I2.alive a (hG a ha).1:_) λo e=>?_;have h2:(s2.heap.push Jj).get? a=IC o:=b9 _ _ _ e;rw[show({s2 with heap:=s2.heap.push Jj}:aD).heap.get? a=IC o from h2]at h1;exact v8 h1
  oW:=aaw
  om:=ZM
  o0:=ZD}
 have abk:Acc s2.heap.objs.size W4 s4.heap a0:=K.keep _ _ _ _ _ _ (K.init (s2.heap.objs.size::W1) s2.heap) ae (λb o Z e=>k4 b o e) x4.fresh x4.sub;have loop:eY B.M A (.compLoop e 0 (.ref I0) (.ref s2.heap.objs.size) {IL with scope:=gj scope env}) (P (.ref s2.heap.objs.size) IL.locals) s4:=by
  refine Dp (act:=act s2.heap.objs.size {IL with scope:=gj scope env}) (Q:=Qf) (Ki _ _ _) (λA=>Lj A _ _ _) (Ln _ _ _) g Lg hT hDG (λρ' NK Kc KT LN p SF hS=>Y_ _ _ _ _ _ _ p SF hS) (λx hx a ha=>hAO x a (Uw x hx) ha) Yb
   (λW h W' h' a=>K.keep _ W h W' h' a) (Jn _ _) (λa ρ9 H9 μ9 W8 W9 s9 q9 t9 less ac9=>?_) hC t0 M2 abk
  classical
  let W0:=W9.filter λb=>decide (b≠s2.heap.objs.size);have NF:∀b,b∈W0↔b∈W9/\b≠s2.heap.objs.size:=λb=>by simp[W0]
  have RP:∀b,b∈W0->b∈W9:=λb hb=>((NF b).mp hb).1;have J:=t9.inv;have NG:s2.heap.objs.size∉μ9:=t9.gm _ ae;have C0:Core B H9 μ9 W0 s9:=⟨J.same,J.old,λb hb=>J.IE b (RP b hb),λb hb=>J.alive b (RP b hb),λb hb=>(NF b).mpr ⟨J.o_ b hb,λe=>NG (e▸hb)⟩,J.IM,J.len,λi a o h1 h2=>(J.objs i a o h1 h2).mono (λZ Z Z e=>e) (λZ e=>e) (mJ RP) .refl⟩;have x9:Ext [] μ W s μ9 W0 s9:=⟨t9.ext.keep,t9.ext.pre,λb hb=>(NF b).mpr ⟨t9.ext.sub b hb,λe=>t9.w0 _ ae (e▸hb)⟩,λb h1 h2=>t9.ext.fresh b (RP b h1) h2,t9.ext.IW⟩;have I9:=C0.back I x9;have Vf:IL.locals∈O:=hLO;refine hP a s2.heap.objs.size IL.locals H9 μ9 W0 s9 q9 I9 x9 (λz=>((NF _).mp z).2 rfl) (K.less _ _ _ _ _ ac9 λb hb=>less b (RP b hb)) ((NF _).mpr ⟨t9.oW _ Vf,λe=>t9.wo _ ae (e▸Vf)⟩) (t9.om _ Vf) (λz=>?_) J.q_.loc (ZD _ Vf) (t9.g0 _ ae) (bj I2.lt);refine bm (I.alive _ (I.J9 _ z):_) λo e=>?_;rw[ZD _ Vf]at e;exact ft e
 refine JZ _ _ _ _ _ loop (Lg.self 0 W4 s4 _ M2 loop)
variable {Q:iY->fF->List a_->Prop} {e iter:Expr} {Jj:Obj} {Ju:xU Value}
structure ti (B:Bs) {α:Type} (e iter t:Expr) (ifs:List Expr) (scope:pA) (pos:FL) (Ju:xU Value) (Jj:Obj) (act:Addr->pU->xU Unit) (Acc:Addr->List Addr->Heap->α->Prop) (a0:α)
 (Step:fF->List a_->α->(α->List a_->Prop)->Prop) (val:α->V):Prop where
 Y2:∀env,dq e env=comprehension e scope env pos Ju false (dq iter env)
 Lv:∃gs,clausesOf e=⟨t,iter,ifs,0⟩::gs
 JS:∀(A:du) (s:aD) (R:Value->aD->Prop),R (.ref s.heap.objs.size) {s with heap:=s.heap.push Jj}->aC B.M A Ju R (λY0 Y0=>False) s
 JZ:∀(A:du) (it acc:Value) (env:pU) (R:Do->aD->Prop) (s:aD),eY B.M A (.compLoop e 0 it acc env) R s->aC B.M A (l4 it) (λZk s'=>eY B.M A (.compLoop e 0 Zk acc env) R s') (λY0 Y0=>False) s->eY B.M A (.compStart e 0 it acc env) R s
 Ki:∀(I0 D:Addr) (env:pU),wd e 0 (.ref I0) (.ref D) env=(do
  lb iter.pos
  match←hH (.ref I0)with
  |none=>pure (.done .next)
  |some v=>
   fj t (.ref I0) v
   fc t env v
   let mut ok:=true
   for c in ifs do
    if ok then ok←oX c env (dq c env)
   if ok then act D env
   again (.compLoop e 0 (.ref I0) (.ref D) env))
 Lj:∀(A:du) it acc env,A.under (.compLoop e 0 it acc env)=A
 Ln:∀it acc env,B.M.den (.compLoop e 0 it acc env)=(wd e 0 it acc env).onRaise (λx=>do noteFrame x env;Ai x)
 K:FZ B Acc a0 Jj
 Jn:∀D env,Ah B n D env (Acc D) (act D env) Step
 N1:∀D μ W h a,Acc D W h a->D∉W->B.s₁.heap.objs.size<=D->l_ B μ W h (val a) (.ref D)
theorem G0 {Acc:Addr->List Addr->Heap->α->Prop} {a0:α} {T:Expr->Prop}
 {Step:fF->List a_->α->(α->List a_->Prop)->Prop} {Q:V->List a_->Prop} {val:α->V} (Z:ti (n:=n) B e iter t ifs scope pos Ju Jj act Acc a0 Step val)
 (hs:∀env x,ku iter env x=pure x)
 (Ja:scope.kind=.function) (nd:(scope.names.map (·.1)).Nodup) (Jd:∀k,(bR,k)∉scope.names) (Uw:∀x∈nU t,(x,NameKind.local)∈scope.names∨(x,cF)∈scope.names) (hT:T t)
 (J3:∃ρ',JW B ρ scope.names ρ')
 (hI:KA B n iter ρ H T λxs S H1=>∃ρ',JW B ρ scope.names ρ'/\nV B n t ifs S Step xs a0 ρ' H1 λa H2=>Q (val a) H2):Ev B n e ρ H Q:=by
 intro A env s μ W g I;refine ah _ (Z.Y2 ..) (bm Z.Lv λgs Lv=>?_);refine bm J3 λρ0 J3=>?_;have M7:uJ scope env=pure (mK env scope.names []):=(pC (A:=A) (E:=λY0 Y0=>True) (R:=λY0 Y0=>True) I Ja nd J3 Jd λY0 Y0 Y0 Y0 Y0 Y0 Y0 Y0 Y0 Y0 Y0 Y0=>trivial).1;refine G1 (use:=Option.none) Lv (hs env) M7 Ja (λx hx hl=>eF nd (by obtain⟨a,b⟩:=x;cases hl;exact hx)) ?_;refine th (P:=λacc C=>compPost B.M A (λY0 Y0=>False) Option.none (A_ B env ρ μ W s Q) acc C) (Z.JS A) (Z.JZ A) Z.Ki Z.Lj Z.Ln Z.K Z.Jn Ja nd Jd Uw hT hI g I ?_;intro a D C H' μ' W' s' q I' x' hD ac hC Ye Yd ⟨m,hm⟩ Ve hDn hDs;refine(aN m hm (λh' IH=>?_));have k:∀b o,b∉[C]->s'.heap.get? b=IC o->h'.get? b=IC o:=λb o hb e=>IH.extBut b o (λh=>hb (h▸.head _)) e;refine aG (I'.drop (s':={s' with heap:=h'}) [C] (λa ha=>by cases List.mem_singleton.mp ha;exact Ye) (λa ha=>by cases List.mem_singleton.mp ha;exact Yd) (λa ha=>by cases List.mem_singleton.mp ha;exact hC) (cY h' s'.toks rfl) k:_) λKT SF MA=>?_;have x'':Ext [] μ W s μ' KT {s' with heap:=h'}:=x'.drop [C] MA (λa ha=>by
  cases List.mem_singleton.mp ha;exact⟨λz=>(by refine bm (I.alive _ z:_) λo e=>?_;rw[Ve]at e;exact ft e),Ve⟩) k
 exact(pI (val a) H' μ' KT q SF x'' (Z.N1 _ _ _ _ _ (Z.K.less _ _ _ _ _ (Z.K.at_ _ _ _ h' _ ac hD λb o hb e=>k b o (λq=>hb (List.mem_singleton.mp q▸hC)) e) λb hb=>((MA b).mp hb).1) (λz=>hD ((MA _).mp z).1) hDs))
theorem G3 {MP py:FL} {y:Str} {Acc:Addr->List Addr->Heap->α->Prop} {a0:α} {T:Expr->Prop}
 {Step:fF->List a_->α->(α->List a_->Prop)->Prop} {val:α->V} (Z:ti (n:=n) B e iter t ifs scope pos Ju Jj act Acc a0 Step val)
 (hs:∀env x,ku iter env x=pure x)
 (Zz:∀env:pU,env.scope.kind=.function->env.kindOf y=IC .local->ng e (IC (.Name y py)) MP.line env=pure true)
 (Zt:∀env use,evalThenUse e env use=(do let _←comprehension e scope env pos Ju false (dq iter env) (IC use)))
 (Ja:scope.kind=.function) (nd:(scope.names.map (·.1)).Nodup) (Jd:∀k,(bR,k)∉scope.names) (Uw:∀x∈nU t,(x,NameKind.local)∈scope.names∨(x,cF)∈scope.names) (hT:T t)
 {o:Option V} (hy:(y,Kd.loc,o)∈ρ)
 (J3:∃ρ',JW B ρ scope.names ρ')
 (hI:KA B n iter ρ H T λxs S H1=>∃ρ',JW B ρ scope.names ρ'/\nV B n t ifs S Step xs a0 ρ' H1 λa H2=>∃ρ2,Lb ρ y (val a) ρ2/\Q .next ρ2 H2):JM B n (.Assign [.Name y py] e MP) ρ H Q:=by
 intro A env s μ W g I;have hyk:env.kindOf y=IC .local:=by
  rcases I.vars y _ hy with⟨_,h,_⟩|⟨h,_⟩|⟨h,_⟩|⟨h,_⟩
  ·exact h
  ·cases h
  ·cases h
  ·cases h
 refine ah _ (exec_Assign_Name_used _ _ _ _ (Zz env I.q_.kind hyk) ..) (aa (bw (aa ?_)));rw[Zt];refine bm Z.Lv λgs Lv=>bm J3 λρ0 J3=>?_;have M7:uJ scope env=pure (mK env scope.names []):=(pC (A:=A) (E:=λY0 Y0=>True) (R:=λY0 Y0=>True) I Ja nd J3 Jd λY0 Y0 Y0 Y0 Y0 Y0 Y0 Y0 Y0 Y0 Y0 Y0=>trivial).1;refine aa (aM (G1 (use:=IC (fc (.Name y py) env)) (Q:=λY0 s'=>Jc B env μ W s Q .next s') Lv (hs env) M7 Ja (λx hx hl=>eF nd (by obtain⟨a,b⟩:=x;cases hl;exact hx)) ?_) (λY0 s' hq=>ai (ai hq)) λY0 Y0 e=>e);refine th (P:=λacc C=>compPost B.M A (λY0 Y0=>False) (IC (fc (.Name y py) env)) (λY0 s'=>Jc B env μ W s Q .next s') acc C) (Z.JS A) (Z.JZ A) Z.Ki Z.Lj Z.Ln Z.K Z.Jn Ja nd Jd Uw hT hI g I ?_;intro a D C H' μ' W' s' ⟨ρ2,LB,q⟩ I' x' hD ac hC Ye Yd ⟨m,hm⟩ Ve hDn hDs;have rv:l_ B μ' W' s'.heap (val a) (.ref D):=Z.N1 _ _ _ _ _ ac hD hDs;show aC B.M A (fc (.Name y py) env (.ref D)) _ _ s';refine oF (lf I' LB rv λs2 I2 x2=>?_);have hmC:∃m,s2.heap.Ns C m:=⟨m,hm.at' λo e=>x2.keep C o (λz=>(List.mem_append.mp z).elim Ye Yd) e⟩;refine bm hmC λm2 KL=>(aN m2 KL (λh' IH=>?_));have k:∀b o,b∉[C]->s2.heap.get? b=IC o->h'.get? b=IC o:=λb o hb e=>IH.extBut b o (λh=>hb (h▸.head _)) e;refine aG (I2.drop (s':={s2 with heap:=h'}) [C] (λa ha=>by cases List.mem_singleton.mp ha;exact Ye) (λa ha=>by cases List.mem_singleton.mp ha;exact Yd) (λa ha=>by cases List.mem_singleton.mp ha;exact x2.sub _ hC) (cY h' s2.toks rfl) k:_) λKT SF MA=>?_;have Js:Ext (own env) μ W s μ' W' s2:=x'.Jw.trans x2 I.o_ I.J9;refine(xI .next ρ2 H' μ' KT q SF (⟨λb o hb e=>k b o (λz=>?_) (Js.keep b o hb e),Js.pre,λb h=>(MA b).mpr ⟨Js.sub b h,λz=>?_⟩,λb h1 h2=>Js.fresh b ((MA b).mp h1).1 h2,Js.IW⟩) rfl)
 ·cases List.mem_singleton.mp z;rw[Ve]at e;exact ft e
 ·cases List.mem_singleton.mp z;refine bm (I.alive _ h:_) λo e=>?_;rw[Ve]at e;exact ft e
def Uo (D:Addr) (W:List Addr) (h:Heap) (a:List PyData):Prop:=∃items,h.PlainList D items/\n_ W h items.toList a
noncomputable def Um:Obj:={cls:=.type "list",dict:=ID,data:=.seq ([]:List Value).toArray}
def PW (B:Bs) (n:Nat) (elt:Expr) (ρ:fF) (H:List a_) (a:List PyData) (K:List PyData->List a_->Prop):Prop:=Ev B n elt ρ H λv H3=>∃d,v=.dat d/\a.length<=sizeLine/\K (a++[d]) H3
theorem Un:FZ B Uo [] Um where
 init:=λW h=>(aN (#[]) ⟨_,aH _ rfl⟩ .nil)
 live:=rfl
 keep:=λD W h W' h' a ⟨items,p,r⟩ hD k f sub=>(aN items (p.at λo e=>k _ o (.inl rfl) e) (r.mono (λb o hb e=>k b o (.inr hb) e) f))
 less:=λD W W' h a ⟨items,p,r⟩ hs=>(aN items p (r.mono (λZ Z Z e=>e) (mJ hs)))
 at_:=λD W h h' a ⟨items,p,r⟩ hD k=>(aN items (p.at λo e=>k _ o hD e) (r.mono (λb o hb e=>k b o hb e) (λZ a b=>absurd a b)))
theorem rH {elt:Expr}:ti (n:=n) B (.ListComp elt [⟨t,iter,ifs,0⟩] scope pos) iter t ifs scope (firstIterPos [⟨t,iter,ifs,0⟩] pos) (newList []) Um
 (λD env=>do let _←call (.builtin "list.append") [.ref D,←dq elt env]) Uo [] (PW B n elt) dL where
 Y2:=λenv=>rfl
 Lv:=⟨[],rfl⟩
 JS:=λA s R h=>ce h
 JZ:=λA it acc env R s h0 h=>codeAny_compStart_list h0 (aM h (λZ Z x=>x) λZ Z e=>e.elim)
 Ki:=λI0 D env=>compTurn_list ..
 Lj:=λZ Z Z Z=>rfl
 Ln:=λZ Z Z=>rfl
 K:=Un
 Jn:=by
  intro D env A ρ H a K s μ W g hs I ⟨items,p,r⟩ hD NG MI;refine aa (Ev.then hs g I λv H1 μ1 W1 c s1 h1 I1 x1 r1=>?_);refine cP h1 λd f_ u_ hk=>?_;obtain rfl:=f_;have p1:s1.heap.PlainList D items:=p.at λo e=>x1.keep _ o (by simpa using NG) e;have r':n_ W1 s1.heap items.toList a:=r.mono (x1.JU I.o_ λZ h=>de h) x1.fresh;have hl:items.size=a.length:=by have:=r.length;simpa using this
  refine aa (wpAny_list_append_plain p1 (λh' p' IH=>ai ?_) (by refine ah _ hl ?_;exact u_));have Nk:D∉μ1:=λz=>by
   by_cases hm:D∈μ
   ·exact NG hm
   ·exact(x1.IW _ z hm).1 hD
  have kk:∀b o,b∉[D]->s1.heap.get? b=IC o->h'.get? b=IC o:=λb o hb e=>(IH.2 b (λh=>hb (h▸.head _))).trans e;have kW:hV W1 s1.heap h':=λb o hb e=>kk b o (λq=>hb (by cases List.mem_singleton.mp q;exact x1.sub _ hD)) e;refine(w4 (a++[d]) H1 μ1 W1 hk (I1.go [D] (cY h' s1.toks rfl) kk (λb hb=>?_) (λZ h=>h) (λZ a b=>absurd a b) (λZ a b=>absurd a b) (λb hb hx=>hx.elim (λz=>?_) λz=>absurd hb z)) ?_ (aN _ p' ?_))
  ·cases List.mem_singleton.mp hb;exact(fv (x1.sub _ hD) Nk (λq=>MI (q▸ae)) (λq=>MI (ag _ q)))
  ·cases List.mem_singleton.mp z;refine bm p' λZ e=>?_;exact⟨_,e⟩
  ·exact⟨λb o hb e=>kk b o (λz=>hb (aR _ z)) (x1.keep b o (λz=>hb (az _ (by simpa using z))) e),x1.pre,x1.sub,x1.fresh,x1.IW⟩
  ·exact ah _ (mx ..) ((r'.mono kW (λZ a b=>absurd a b)).snoc (Rp.mono kW (λZ a b=>absurd a b) r1))
 N1:=λD μ W h a ⟨items,⟨k,p⟩,r⟩ hD _=>Rp.list hD p r
noncomputable def jV (kvs:List (Int×PyData)) (k:Int) (d:PyData):List (Int×PyData):=
 if kvs.any (λkv=>kv.1=k)then kvs.map (λkv=>if kv.1=k then(kv.1,d)else kv)else kvs++[(k,d)]
theorem Nl {K:Type} [DecidableEq K] {k:K} {c:β} {p:K×β}:(if p.1=k then(p.1,c)else p).1=p.1:=by split<;>rfl
theorem C6 {K:Type} [DecidableEq K] {k:K} {d:PyData} (rd:Rp W h c d) {cvs:List (K×Value)} {kvs:List (K×PyData)} (e:cvs.map (·.1)=kvs.map (·.1)) (r:n_ W h (cvs.map (·.2)) (kvs.map (·.2))):
 (cvs.any (λkv=>kv.1=k))=(kvs.any (λkv=>kv.1=k))/\(cvs.map (λkv=>if kv.1=k then(kv.1,c)else kv)).map (·.1)=(kvs.map (λkv=>if kv.1=k then(kv.1,d)else kv)).map (·.1)/\
  n_ W h ((cvs.map (λkv=>if kv.1=k then(kv.1,c)else kv)).map (·.2)) ((kvs.map (λkv=>if kv.1=k then(kv.1,d)else kv)).map (·.2)):=by
 induction cvs generalizing kvs with
 |nil=>cases kvs with
  |nil=>exact⟨rfl,rfl,.nil⟩
  |cons=>nomatch e
 |cons p cvs ih=>cases kvs with
  |nil=>nomatch e
  |cons q kvs=>
   have e:=cD e;have i:=ih e.2 r.Ld.2;refine⟨congr (congrArg (λx=>or (decide (x=k))) e.1) i.1,congr (congrArg List.cons (Nl.trans (e.1.trans Nl.symm))) i.2.1,.cons ?_ i.2.2⟩;show Rp W h (if p.1=k then(p.1,c)else p).2 (if q.1=k then(q.1,d)else q).2;by_cases hk:p.1=k
   ·(refine ah _ (if_pos hk ..) ?_;refine ah _ (if_pos (e.1.symm.trans hk) ..) ?_);exact rd
   ·(refine ah _ (if_neg hk ..) ?_;refine ah _ (if_neg λh=>hk (e.1.trans h) ..) ?_);exact r.Ld.1
theorem pD {k:Int} {d:PyData} {cvs:List (Int×Value)} {kvs:List (Int×PyData)} (rd:Rp W h c d) (e:cvs.map (·.1)=kvs.map (·.1)) (r:n_ W h (cvs.map (·.2)) (kvs.map (·.2))):
 (ny cvs k c).map (·.1)=(jV kvs k d).map (·.1)/\n_ W h ((ny cvs k c).map (·.2)) ((jV kvs k d).map (·.2)):=by
 refine ee (C6 (k:=k) rd e r:_) λh1 h2 h3=>?_;unfold ny jV;refine ah _ h1 ?_
 split
 ·exact⟨h2,h3⟩
 ·(refine ah _ (aT ..) ?_;refine ah _ (aT ..) ?_;refine ah _ (aT ..) ?_;refine ah _ (aT ..) ?_;refine ah _ e ?_)
  exact⟨rfl,r.append (.cons rd .nil)⟩
def Vq (B:Bs) (D:Addr) (W:List Addr) (h:Heap) (a:List (Int×PyData)):Prop:=∃cvs:List (Int×Value),uD (intKind B.prog B.w) h D cvs/\cvs.map (·.1)=a.map (·.1)/\n_ W h (cvs.map (·.2)) (a.map (·.2))
noncomputable def Pn:Obj:={cls:=.type "dict",dict:=ID,data:=.dict #[]}
def Qg (B:Bs) (n:Nat) (kx vx:Expr) (ρ:fF) (H:List a_) (a:List (Int×PyData)) (K:List (Int×PyData)->List a_->Prop):Prop:=
 Ev B n kx ρ H λkv H3=>Ev B n vx ρ H3 λvv H4=>∃k d,kv=dI k/\vv=.dat d/\a.length<=sizeLine/\K (jV a k d) H4
theorem Vp:FZ B (Vq B) [] Pn where
 init:=λW h=>(bA ([]) (my h) rfl .nil)
 live:=rfl
 keep:=λD W h W' h' a ⟨cvs,p,e,r⟩ hD k f sub=>(bA cvs (DictOf.at p λo e=>k _ o (.inl rfl) e) e (r.mono (λb o hb e=>k b o (.inr hb) e) f))
 less:=λD W W' h a ⟨cvs,p,e,r⟩ hs=>(bA cvs p e (r.mono (λZ Z Z e=>e) (mJ hs)))
 at_:=λD W h h' a ⟨cvs,p,e,r⟩ hD k=>(bA cvs (DictOf.at p λo e=>k _ o hD e) e (r.mono (λb o hb e=>k b o hb e) (λZ a b=>absurd a b)))
theorem xZ {kx vx:Expr}:ti (n:=n) B (.DictComp kx vx [⟨t,iter,ifs,0⟩] scope pos) iter t ifs scope (firstIterPos [⟨t,iter,ifs,0⟩] pos) (newDict) Pn
 (λD env=>do
  let kv←dq kx env;let vv←iG [kv] (dq vx env)
  lb {kx.pos with endLine:=vx.pos.endLine,endCol:=vx.pos.endCol}
  iG [kv,vv] (dictSet D kv vv)) (Vq B) [] (Qg B n kx vx) V.m_ where
 Y2:=λenv=>rfl
 Lv:=⟨[],rfl⟩
 JS:=λA s R h=>ce h
 JZ:=λA it acc env R s h0 h=>codeAny_compStart_dict h0 (aM h (λZ Z x=>x) λZ Z e=>e.elim)
 Ki:=λI0 D env=>compTurn_dict ..
 Lj:=λZ Z Z Z=>rfl
 Ln:=λZ Z Z=>rfl
 K:=Vp
 Jn:=by
  intro D env A ρ H a K s μ W g hs I ⟨cvs,p,e,r⟩ hD NG MI;refine aa (Ev.then hs g I λv H1 μ1 W1 c s1 h1 I1 x1 r1=>aa (aV (Ev.then h1 g I1 λv2 H2 μ2 W2 c2 s2 h2 I2 x2 r2=>aa (bw (aV ?_)))));refine lQ h2 λk d j_ p_ u_ hk=>?_;obtain rfl:=j_;obtain rfl:=p_;have Js:Ext [] μ W s μ2 W2 s2:=x1.trans x2 I.o_ (λZ h=>de h);have p2:s2.heap.DictOf (intKind B.prog B.w) D cvs:=DictOf.at p λo e=>Js.keep _ o (by simpa using NG) e;have r':n_ W2 s2.heap (cvs.map (·.2)) (a.map (·.2)):=r.mono (Js.JU I.o_ λZ h=>de h) Js.fresh;refine bm (Rp.int_inv r1:_) λtk s_=>?_;obtain rfl:=s_;have hl:cvs.length=a.length:=by have:=congrArg mL e;simpa using this
  refine wpAny_dictSet_pairs (knd:=intKind B.prog B.w) (k:=k) (uF B.prog B.w k tk) p2 (λh' p' IH=>?_) (by refine ah _ hl ?_;exact u_);have Nk:D∉μ2:=λz=>by
   by_cases hm:D∈μ
   ·exact NG hm
   ·exact(Js.IW _ z hm).1 hD
  have kk:∀b o,b∉[D]->s2.heap.get? b=IC o->h'.get? b=IC o:=λb o hb e=>(IH.2 b (λh=>hb (h▸.head _))).trans e;have kW:hV W2 s2.heap h':=λb o hb e=>kk b o (λq=>hb (by cases List.mem_singleton.mp q;exact Js.sub _ hD)) e;refine bh (pD (W:=W2) (h:=h') (k:=k) (c:=c2) (d:=d) (Rp.mono kW (λZ a b=>absurd a b) r2) e (r'.mono kW (λZ a b=>absurd a b)):_) λq1 q2=>(w4 (jV a k d) H2 μ2 W2 hk (I2.go [D] (cY h' (s2.toks+1) rfl) kk (λb hb=>?_) (λZ h=>h) (λZ a b=>absurd a b) (λZ a b=>absurd a b) (λb hb hx=>hx.elim (λz=>?_) λz=>absurd hb z)) ?_ (bA _ p' q1 q2))
  ·cases List.mem_singleton.mp hb;exact(fv (Js.sub _ hD) Nk (λq=>MI (q▸ae)) (λq=>MI (ag _ q)))
  ·cases List.mem_singleton.mp z;refine pt p' λo Z Z e Z=>?_;exact⟨o,e⟩
  ·exact⟨λb o hb e=>kk b o (λz=>hb (aR _ z)) (Js.keep b o (λz=>hb (az _ (by simpa using z))) e),Js.pre,Js.sub,Js.fresh,Js.IW⟩
 N1:=λD μ W h a ⟨cvs,p,e,r⟩ hD hs=>(sZ D cvs rfl hD hs p e r)
variable {o:Expr} {hsh:Int} {fs:List (Str×V)} {es:List DictEntry} {C:Nat} {y:Str} {tk:Tok} {Q:V->List a_->Prop} {R:Value×List Value->aD->Prop}
noncomputable def fA (fs:List (Str×V)) (x:Str):Option V:=(fs.find? λf=>f.1=x).map (·.2)
theorem vf {t:Tok}:(Value.str x t).isStr y=decide (x=y):=by
 show(x==y)=decide (x=y);by_cases h:x=y<;>simp[h]
theorem Jr.look (r:Jr B μ W h es fs):es.any (·.refKey)=false/\(match fA fs x with
 |some v=>∃c,getL x es=IC (IC c)/\l_ B μ W h v c
 |none=>getL x es=IC ID):=by
 induction r with
 |nil=>exact⟨rfl,rfl⟩
 |@cons e es y t v fs hk hv r ih=>
  refine bh ih λh1 h2=>?_;have hr:e.refKey=false:=by simp[DictEntry.refKey,hk]
  have h1':(e::es).any (·.refKey)=false:=by(refine ah _ (List.any_cons ..) ?_;refine ah _ hr ?_;refine ah _ h1 ?_);rfl
  refine⟨h1',?_⟩;have hs:e.key.isStr x=decide (y=x):=by refine ah _ hk ?_;exact vf
  by_cases hy:y=x
  ·have:fA ((y,v)::fs) x=IC v:=by simp[fA,hy]
   refine ah _ this ((aN e.val ?_ hv));unfold getL
   (refine ah _ (oZ ..) ?_;refine ah _ hs ?_;refine ah _ (decide_eq_true hy ..) rfl)
  ·have e1:fA ((y,v)::fs) x=fA fs x:=by simp[fA,hy]
   have e2:getL x (e::es)=getL x es:=by
    unfold getL
    (refine ah _ (oZ ..) ?_;refine ah _ hs ?_;refine ah _ (decide_eq_false hy ..) ?_;refine ah _ h1' ?_;refine ah _ h1 rfl)
   (refine ah _ e1 ?_;refine ah _ e2 ?_);exact h2
structure nW (B:Bs) (C:Addr):Prop where
 get:plainGet B.K C "__getattribute__"=true
 has:hasDictIn B.K C=true
 set:qe B.K (.ref C) "__setattr__"=IC (IC (.builtin "object.__setattr__"))
 over:plainOver B.K C=true
def y0 (B:Bs) (C:Addr) (x:Str):Prop:=qe B.K (.ref C) x=IC ID
noncomputable def wf:V->Bool
 |.raw _=>false
 |.fz _=>false
 |_=>true
theorem l_.handed (hv:wf v=true) (r:l_ B μ W h v c):handedIn c=true:=by
 cases v with
 |dat d=>cases r<;>rfl
 |loc i=>refine fX c r λa Z=>?_;rfl
 |inst C i=>refine jq c r λa dx Z=>?_;rfl
 |m_ kvs=>refine jq c r λa cvs Z=>?_;rfl
 |Jz xs=>refine jq c r λa items Z=>?_;rfl
 |raw x=>exact absurd hv aA
 |fz P=>exact absurd hv aA
theorem wg (I:Inv B env ρ H μ W s) (r:l_ B μ W s.heap (.inst C i) c) (hi:H[i]?=IC (.inst fs)):
 ∃a dx es n,c=.ref a/\μ[i]?=IC dx/\s.heap.get? dx=IC (Df es n)/\Jr B μ W s.heap es fs/\InstAt s.heap a (sE C dx) C (IC (Df es n)):=by
 exact jU c r λa dx ha hm ho=>gV (I.objs _ _ _ hm hi:_) λes n hd hf=>(NW a dx es n rfl hm hd hf ⟨ho,rfl,rfl,hd⟩)
theorem y1 {expr:Bool} {R:Value->aD->Prop} (hC:nW B C) (hb:y0 B C x) (I:Inv B env ρ H μ W s) (r:l_ B μ W s.heap (.inst C i) c) (hi:H[i]?=IC (.inst fs))
 (hl:fA fs x=IC v) (hv:wf v=true) (q:∀d,l_ B μ W s.heap v d->R d {s with toks:=s.toks+1}):aC B.M A (getAttr c x expr) R (λZ Z=>False) s:=by
 refine Dd c (wg I r hi:_) λa dx es k hm hd hf IA=>bm I.fr λm F=>?_;have UR:=(hf.look (x:=x)).2;rw[hl]at UR;exact aG UR λd e rv=>get_own F B.KH IA hC.get hC.has hb rfl e (rv.handed hv) (q d rv)
theorem Se (h:Ev B n o ρ H λa H1=>∃C i fs v,a=.inst C i/\nW B C/\y0 B C x/\H1[i]?=IC (.inst fs)/\fA fs x=IC v/\wf v=true/\Q v H1)
 (JK:∀env,fG o x env (dq o env)=dq o env:=by intro _;rfl):Ev B n (.Attribute o x pos) ρ H Q:=by
 intro A env s μ W g I
 (refine ah _ (arm_eval_Attribute ..) ?_;rw[JK])
 refine aa (h.then g I λa H1 μ1 W1 ca s1 h1 I1 x1 r1=>aa (bw (aa (aV ?_))));refine Z1 h1 λC i fs v II hC hb hi hl hv q=>?_;obtain rfl:=II;exact y1 hC hb I1 r1 hi hl hv λd rv=>aa (wpAny_letTemporaryGo (ai (.then I x1 (.tok I1 _ rv q))))
noncomputable def iD (fs:List (Str×V)) (x:Str) (v:V):List (Str×V):=match fs with
 |[]=>[(x,v)]
 |(y,w)::r=>if y=x then(y,v)::r else(y,w)::iD r x v
theorem R0 {w:V} {r:List (Str×V)}:iD ((y,w)::r) x v=if y=x then(y,v)::r else(y,w)::iD r x v:=rfl
theorem R3 {key v:Value} {e:DictEntry} {r:List DictEntry}:putL x hsh key v (e::r)=if e.key.isStr x then⟨e.hash,e.key,v⟩::r else e::putL x hsh key v r:=rfl
theorem Jr.put (rv:l_ B μ W h v c) (r:Jr B μ W h es fs):Jr B μ W h (putL x hsh (.str x tk) c es) (iD fs x v):=by
 induction r with
 |nil=>exact .cons (t:=tk) rfl rv .nil
 |@cons e es y t w fs hk hv r ih=>
  have hs:e.key.isStr x=decide (y=x):=by refine ah _ hk ?_;exact vf
  (refine ah _ (R3 ..) ?_;refine ah _ (R0 ..) ?_)
  by_cases hy:y=x
  ·(refine ah _ hs ?_;refine ah _ (decide_eq_true hy ..) ?_;refine ah _ (if_pos hy ..) ?_);exact .cons (t:=t) hk rv r
  ·(refine ah _ hs ?_;refine ah _ (decide_eq_false hy ..) ?_;refine ah _ (if_neg hy ..) ?_)
   exact .cons (t:=t) hk hv ih
theorem Jr.length (r:Jr B μ W h es fs):es.length=fs.length:=
 r.rec (motive:=λes fs _=>es.length=fs.length) rfl λ_ _ _ e=>congrArg (·+1) e
theorem len_ite {c:Prop} [Decidable c] {a b:List α} (h1:a.length<=n) (h2:b.length<=n):(if c then a else b).length<=n:=by split;exact h1;exact h2
theorem y2 (x:Str) (hsh:Int) (key v:Value) (es:List DictEntry):(putL x hsh key v es).length<=es.length+1:=by
 induction es with
 |nil=>exact aq _
 |cons p r ih=>exact len_ite (cL _) (aY ih)
theorem Oz {C dx:Addr} {d:Value} {R:Do->aD->Prop} (hC:nW B C) (hb:y0 B C x) (X:B.K.In s.heap) (IA:InstAt s.heap a (sE C dx) C (IC (Df es k)))
 (Zu:s.heap.get? dx=IC (Df es k)) (Kz:es.any (·.refKey)=false) (hz:es.length<=900)
 (q:∀h',h'.get? dx=IC (Df (putL x (ip B.w.params x) (.str x s.toks) d es) (putN x es k))->bN dx s.heap h'->R (.ok (.ret .none)) {s with heap:=h',toks:=s.toks+1}):
 eY B.M A (.call (.builtin "object.__setattr__") ⟨[.ref a,.str x tk,d],[]⟩) R s:=by
 obtain⟨hxa,Lv,P5,-⟩:=id IA;refine aG (any_some hC.has:_) λcd Q8 M6=>?_;have ht:takerIn B.K C x=IC none:=by unfold takerIn;refine ah _ hb ?_;rfl
 refine osa_open X IA hC.over ht λb=>aa (ai (aa (aa (wpAny_loadPart hxa (aa ((looks_clsIn X Q8).here ?_))))));refine ah _ M6 (ai (a:=IC dx) (aa (ai (aa ?_))));unfold nsSet;refine aa (aa (jf (ai (aa (wpAny_mkText (aa (wpAny_loadPart Zu ?_)))))))
 dsimp only
 have c1:(!es.toArray.any (·.key.isStr x)&&es.toArray.any (·.refKey))=false:=by
  (refine ah _ (Array.any_toList ..).symm ?_;refine ah _ (Array.any_toList ..).symm ?_)
  exact(λ{x y}=>Bool.and_eq_false_imp.mpr) λa=>Kz
 (refine ah _ (aRefKeyMayBeTheName_at ..) ?_;refine ah _ (c1 ..) ?_)
 refine wpAny_updatePart Zu ?_;have e0:=putName_dict x (ip B.w.params x) (.str x s.toks) d es k;have JS:(s.heap.update dx (Obj.putName x (ip B.w.params x) (.str x s.toks) d)).get? dx=IC (Df (putL x (ip B.w.params x) (.str x s.toks) d es) (putN x es k)):=by
  rw[bT _ Zu (by refine ah _ e0 ?_;rfl),e0]
 have hlen:(putL x (ip B.w.params x) (.str x s.toks) d es).length<=es.length+1:=y2 ..;refine aa (wpAny_lookBehind JS (pastItsLine_dict (by
  (refine ah _ (cQ ..) ?_;refine ah _ (sizeLine_eq ..) ?_);exact ab hlen (aY (ab hz (by decide))))) ?_)
 exact ai (q _ JS (.update ..))
theorem y3 {d:Value} {R:Unit->aD->Prop} (hC:nW B C) (hb:y0 B C x) (I:Inv B env ρ H μ W s) (r:l_ B μ W s.heap (.inst C i) c) (hi:H[i]?=IC (.inst fs))
 (hz:fs.length<=900) (rv:l_ B μ W s.heap v d) (q:∀s',Inv B env ρ (H.set i (.inst (iD fs x v))) μ W s'->Ext [] μ W s μ W s'->R () s'):aC B.M A (setAttr c x d) R (λZ Z=>False) s:=by
 refine Dd c (wg I r hi:_) λa dx es k hm hd hf IA=>?_;refine set_plain I.KH IA hC.set (Oz (s:={s with toks:=s.toks+1}) hC hb I.KH IA hd (hf.look (x:=x)).1 (by refine ah _ (hf.length ..) ?_;exact hz) λh' JS IH=>?_);have hdm:=an hm;have kW:hV W s.heap h':=λb o hb e=>(IH.2 b (λq=>hb (q▸I.o_ dx hdm))).trans e;have hf':=(hf.mono kW (λZ a b=>absurd a b) .refl).put (hsh:=ip B.w.params x) (x:=x) (tk:=s.toks+1) (rv.mono kW (λZ a b=>absurd a b) .refl);exact bh (I.upd hm (s.toks+2) IH (ao:=.inst (iD fs x v)) (ie _ _ JS hf'):_) λI' x'=>q _ I' x'
theorem Sw {Q:fF->List a_->Prop} (h:Ev B n o ρ H λa H1=>∃C i fs,a=.inst C i/\nW B C/\y0 B C x/\H1[i]?=IC (.inst fs)/\fs.length<=900/\Q ρ (H1.set i (.inst (iD fs x v)))):As B n (.Attribute o x pos) ρ H v Q:=by
 intro A env s μ W c g I r;refine ah _ (arm_assign_Attribute ..) (aa (aV (h.then g I λa H1 μ1 W1 ca s1 h1 I1 x1 r1=>aa (bw (aa (aV ?_))))));refine NY h1 λC i fs JR hC hb hi hz q=>?_;obtain rfl:=JR;exact y3 hC hb I1 r1 hi hz (r.ext I x1) λs2 I2 x2=>wpAny_release (aI ρ _ μ1 W1 q I2 ((x1.trans x2 I.o_ λZ h=>de h).Jw))
structure SD (B:Bs) (C:Addr) (x:Str) (f:Addr):Prop where
 find:qe B.K (.ref C) x=IC (IC (.ref f))
 fn:isFn B.K (.ref f)=true
 keep:keepIn B.K (.ref f)=true
theorem uK {f:Addr} {pl:xU Bool} (hC:nW B C) (hm:SD B C x f) (I:Inv B env ρ H μ W s) (r:l_ B μ W s.heap (.inst C i) c) (hi:H[i]?=IC (.inst fs))
 (hl:fA fs x=ID) (q:R (.ref f,[c]) s):aC B.M A (getMethod c x pl) R (λZ Z=>False) s:=by
 refine QB (wg I r hi:_) λa dx es k Ko Z hd hf IA=>?_;obtain rfl:=Ko;refine bm I.fr λm F=>?_;have UR:=(hf.look (x:=x)).2;rw[hl]at UR;exact method_inst F B.KH IA hC.get hm.find hm.fn UR q
theorem Sb
 (h:Ev B n o ρ H λa H1=>∃C i fs f,a=.inst C i/\nW B C/\SD B C x f/\H1[i]?=IC (.inst fs)/\fA fs x=ID/\Ks B n args ρ H1 λvs H2=>Ap B n (.ref f) (.inst C i::vs) H2 Q)
 (JK:∀env,fG o x env (dq o env)=dq o env:=by intro _;rfl) (JI:(apos.endLine==pos.line)=true:=by rfl) (hp:fb args=true:=by rfl)
 (Ll:∀env,Dq (args.length+([]:List jB).length) (gy pos (cJ args env)) (j6 pos (f7 [] env))=true:=by intro _;rfl):
 Ev B n (.Call (.Attribute o x apos) args [] pos) ρ H Q:=by
 intro A env s μ W g I
 (refine ah _ (arm_eval_Call ..) ?_;rw[JK])
 refine aa (h.then g I λa H1 μ1 W1 ca s1 h1 I1 x1 r1=>aa (bw ?_));refine TK h1 λC i fs f J7 hC hm hi hl hE=>?_;obtain rfl:=J7;unfold methodCall;rw[Ll];refine aa (aV (uK hC hm I1 r1 hi hl ?_));have M4:uo true o env apos pos=pure pos:=by unfold uo;exact if_pos JI
 refine aa (lz M4 ?_);refine fy (.inr (.inr hm.keep)) hp (aM (hE A env s1 μ1 W1 pos g I1) (λcs s2 f_=>oU f_ λvs H2 μ2 W2 q I2 x2 r2=>⟨I2.KH,?_⟩) λZ Z e=>e);exact aM (q A env ρ s2 μ2 W2 (ca::cs) g I2 (.cons (r1.ext I1 x2) r2)) (λZ Z p=>.then I x1 (.then I1 x2 p)) λZ Z e=>e
variable {C:Addr}
theorem Dr (C:Addr) (cs:List Value) (kw:List (Str×Value)):(sH "type.__call__" ⟨.ref C::cs,kw⟩).weight=1:=by unfold Code.weight;kernel_rfl
theorem G4 (a:Args):(sH "type.__call__" a).cUnits=1:=rfl
theorem Good.under {kw:List (Str×Value)} (g:Good (n+1) A):Good n (A.under (.builtin "type.__call__" ⟨.ref C::cs,kw⟩)):=by
 refine ee g λh1 h2 h3=>⟨h1,?_,?_⟩
 ·show A.depth+(sH "type.__call__" ⟨.ref C::cs,kw⟩).weight+20*n+20<_;refine ah _ (Dr ..) ?_;exact VB h2
 ·show A.units+(sH "type.__call__" ⟨.ref C::cs,kw⟩).cUnits+200*n+200<_;refine ah _ (G4 ..) ?_;exact Ws h3
structure nX (B:Bs) (C fI:Addr):Prop where
 makes:makesIn B.K C=true
 init:qe B.K (.ref C) "__init__"=IC (IC (.ref fI))
 fn:typeIn B.K (.ref fI)=IC (.type "function")
theorem Ap.make {fI:Addr} (hM:nX B C fI) (h:Mb B n (.ref fI) (.inst C H.length::vs) (H++[.inst []]) λv H2=>v=dN/\Q (.inst C H.length) H2):Ap B (n+1) (.ref C) vs H Q:=by
 intro A env ρ s μ W cs g I r;obtain⟨hh,gg,dd,tt,oo⟩:=s;refine uH (make_core (makes_of I.KH hM.makes) (looks_findIn I.KH hM.init) (λself=>bind_fn I.KH self hM.fn) (.inl rfl) ?_);have u_:(hh.push nk).objs.size=hh.objs.size+1:=bz ..;refine bh (I.new (o:=nk) (ao:=.inst []) rfl tt (ie ([]) 0 (aH _ rfl) .nil):_) λI1 x1=>?_;have k2:=b9 (h:=hh.push nk) (sE C hh.objs.size);have I2:Inv B env ρ (H++[.inst []]) (μ++[hh.objs.size]) (hh.objs.size::W) ⟨(hh.push nk).push (sE C hh.objs.size),gg,dd,tt,oo⟩:=I1.keeps (cY _ _ rfl) k2;have x2:Ext [] μ W ⟨hh,gg,dd,tt,oo⟩ (μ++[hh.objs.size]) (hh.objs.size::W) ⟨(hh.push nk).push (sE C hh.objs.size),gg,dd,tt,oo⟩:=x1.trans (.keeps k2) I.o_ (λZ h=>de h);have rx:l_ B (μ++[hh.objs.size]) (hh.objs.size::W) ((hh.push nk).push (sE C hh.objs.size)) (.inst C H.length) (.ref (hh.objs.size+1)):=by
  refine(pv (hh.objs.size+1) hh.objs.size rfl (λz=>?_) (by refine ah _ (I.len ..).symm ?_;exact fi) ?_)
  ·have:=I1.out (a:=hh.objs.size+1) (by show(hh.push nk).objs.size<=_;exact bd u_);exact this z
  ·refine ah _ u_.symm ?_;exact aH _ rfl
 have rr:i_ B (μ++[hh.objs.size]) (hh.objs.size::W) ((hh.push nk).push (sE C hh.objs.size)) (.inst C H.length::vs) (.ref (hh.objs.size+1)::cs):=.cons rx (r.ext I x2);refine qf (h _ env ρ _ _ _ _ g.under I2 rr) λres s' z=>?_;rcases res with e|(v|_|_|_)<;>first|exact z.elim|skip
 refine pE z λv' H' μ' W' f_ I3 x3 r3=>?_;refine bh f_ λk_ q=>?_;obtain rfl:=k_;cases Rp.none_inv r3;exact(jp rfl (pI (.inst C H.length) H' μ' W' q I3 (x2.trans x3 I.o_ (λZ h=>de h)) (rx.ext I2 x3)))
variable {b:Int} {H2:List a_} {W2 μ2:List Addr} {Q:List PyData->List a_->Prop} {P:Nat->Value->Prop} {s2:aD}
theorem Ext.fresh_at {s1:aD} {μ1 W1:List Addr} {H1:List a_} {aaF:pU} (I:Inv B env ρ H μ W s) (I1:Inv B aaF ρ1 H1 μ1 W1 s1) (x:Ext [] μ W s μ1 W1 s1) (ha:s1.heap.objs.size<=a):s.heap.get? a=none:=
 qX I x I1 (bQ ha)
theorem Lq.U6 {xs:List PyData} {o:Obj} {tk:Nat} {T:Expr->Prop} {fp:List Addr}
 (I:Inv B env ρ H μ W s) (I2:Inv B env ρ H2 μ2 W2 s2) (x2:Ext [] μ W s μ2 W2 s2) (ho:o.isFreed=false) (q:Q xs H2) (Rel:List Addr->Heap->Prop)
 (w:∀A,Good n A->Walks B.prog B.w A s2.heap.objs.size fp [s2.heap.objs.size] k P SA) (hk:k=xs.length)
 (Mh:∀i h,SA i h->∃o n,h.get? s2.heap.objs.size=IC o/\o.cls=.type n/\n∈mI)
 (Mv:∀W h i c d,Rel W h->P i c->xs[i]?=IC d->Rp W h c d) (LB:∀W h W' h',Rel W h->hV W h h'->v_ h W W'->Rel W' h')
 (h0:SA 0 (s2.heap.push o)) (N9:∀b,b∈fp->b=s2.heap.objs.size∨(b∉W2/\b<s2.heap.objs.size/\∃o,s2.heap.get? b=IC o)) (hr:Rel W2 s2.heap) (hTT:T=λZ=>True):
 ∃xs H' μ' W' W0,Q xs H'/\Inv B env ρ H' μ' W' {s2 with heap:=s2.heap.push o,toks:=tk}/\Ext [] μ W s μ' W0 {s2 with heap:=s2.heap.push o,toks:=tk}/\(∃I G St Kx,dK s2.heap.objs.size=.ref I/\(∀A,Good n A->LU B A I G xs T (λZ Z=>True) St Kx)/\St 0 W' (s2.heap.push o)/\
  (∀a,a∈G->a∈W'/\a∉W0/\a∉μ'/\s.heap.get? a=ID)/\(∀a,a∈W'->a∈G∨a∈W0)/\(∀a,a∈W0->a∈W')):=by
 subst hTT;have J_:s2.heap.objs.size∉W2:=I2.out (aq _);have hold:s.heap.get? s2.heap.objs.size=none:=x2.fresh_at I I2 (aq _);refine(Ac xs H2 μ2 (s2.heap.objs.size::W2) W2 q (I2.ghost ho tk) (x2.trans (.keeps (b9 o)) I.o_ (λZ h=>de h)) (uz s2.heap.objs.size ([s2.heap.objs.size]) _ _ rfl (λA g=>LU.ofWalks (w A g) hk Mh Rel Mv LB) (fv h0 ae (λb hb=>?_) (LB W2 s2.heap _ _ hr (λb o Z e=>b9 _ b o e) λb hb hn=>?_)) (λb hb=>?_) (λb hb=>?_) (λb hb=>ag _ hb)))
 ·rcases N9 b hb with e|⟨h1,h2,o',h3⟩
  ·exact .inl e
  ·exact .inr ⟨λz=>(List.mem_cons.mp z).elim (λe=>b7 _ (e▸h2)) h1,o',b9 _ _ _ h3⟩
 ·rcases List.mem_cons.mp hb with rfl|z
  ·exact bQ (aq _)
  ·exact absurd z hn
 ·simp at hb;subst hb;exact(fv ae J_ (λz=>J_ (I2.o_ _ z)) hold)
 ·rcases List.mem_cons.mp hb with rfl|z
  ·exact .inl ae
  ·exact .inr z
noncomputable def gd (ns:List Int):List PyData:=ns.map .int
noncomputable def dG (a b:Int):List Int:=(bl (b - a).toNat).map λ(i:Nat)=>a+(i:Int)
theorem kK (a b:Int):Builtin.Range.rangeSize a b 1=((b - a).toNat:Int):=(rangeSize_one ..).trans (VJ a b)
theorem Lq.KF {a:Int} {r:Addr} {t u v:Tok}
 (I:Inv B env ρ H μ W s) (I2:Inv B env ρ H2 μ2 W2 s2) (x2:Ext [] μ W s μ2 W2 s2) (hr:IsRange s2.heap r a b 1 t u v) (q:Q (gd (dG a b)) H2):
 aC B.M A (l4 (.ref r)) (λit s2=>∃xs H' μ' W' W0,Q xs H'/\Inv B env ρ H' μ' W' s2/\Ext [] μ W s μ' W0 s2/\(∃I G St Kx,it=.ref I/\(∀A,Good n A->LU B A I G xs (λZ=>True) (λZ Z=>True) St Kx)/\St 0 W' s2.heap/\
  (∀a,a∈G->a∈W'/\a∉W0/\a∉μ'/\s.heap.get? a=ID)/\(∀a,a∈W'->a∈G∨a∈W0)/\(∀a,a∈W0->a∈W'))) (λZ Z=>False) s2:=by
 have hlen:(b - a).toNat=(gd (dG a b)).length:=by simp[gd,dG]
 have Mv:∀(W:List Addr) (h:Heap) (i:Nat) (c:Value) (d:PyData),True->(∃t,c=.int (a+(i:Int)*1) t)->(gd (dG a b))[i]?=IC d->Rp W h c d:=by
  intro W h i c d _ f_ hd;refine gc c f_ λt=>?_;refine FB d (List.getElem?_eq_some_iff.mp hd:_) λhi=>?_;simp only[gd,dG,iI,rI,Int.mul_one];exact .int _ _
 by_cases hs:vg a b 1=true
 ·refine wpAny_pyIter_range hr hs (ah _ (kK ..) ?_);exact Lq.U6 (tk:=s2.toks) I I2 x2 rfl q (λZ Z=>True) (λA g=>Walks.range g.1 _ a 1 (b - a).toNat) hlen (λi h st=>(eu _ _ st rfl (.tail _ (.tail _ (.head _))))) Mv (λZ Z Z Z Z Z Z=>trivial)
   (by have:=aH s2.heap (o:={cls:=.type "range_iterator",data:=.fields #[em a,em ((b - a).toNat:Int),em 1]}) rfl;simpa [IsRangeIter]using this) (λb hb=>.inl (by simpa using hb)) trivial rfl
 ·refine wpAny_pyIter_longrange hr (by simpa using hs) ?_;refine ah _ (kK ..) ?_;exact Lq.U6 (tk:=s2.toks) I I2 x2 rfl q (λZ Z=>True) (λA g=>Walks.longrange g.1 _ a 1 (b - a).toNat) hlen (λi h st=>(eu _ _ st rfl (.tail _ (.tail _ (.tail _ (.head _)))))) Mv (λZ Z Z Z Z Z Z=>trivial)
   (by have:=aH s2.heap (o:={cls:=.type "longrange_iterator",data:=.fields #[em a,em ((b - a).toNat:Int),em 1]}) rfl;simpa [IsLongIter]using this) (λb hb=>.inl (by simpa using hb)) trivial rfl
def NM (B:Bs) (n:Nat) (f:Value) (vs:List V) (H:List a_) (T:Expr->Prop) (Q:List PyData->List a_->Prop):Prop:=
 ∀A env ρ s0 μ0 W0 H0 s μ W cs,Good n A->Inv B env ρ H0 μ0 W0 s0->Inv B env ρ H μ W s->Ext [] μ0 W0 s0 μ W s->i_ B μ W s.heap vs cs->aC B.M A (call f cs) (λx s1=>aC B.M A (l4 x) (λit s2=>∃xs H' μ' W' Wb,Q xs H'/\Inv B env ρ H' μ' W' s2/\Ext [] μ0 W0 s0 μ' Wb s2/\(∃I G St Kx,it=.ref I/\(∀A,Good n A->LU B A I G xs T (λZ Z=>True) St Kx)/\St 0 W' s2.heap/\
  (∀a,a∈G->a∈W'/\a∉Wb/\a∉μ'/\s0.heap.get? a=ID)/\(∀a,a∈W'->a∈G∨a∈Wb)/\(∀a,a∈Wb->a∈W'))) (λZ Z=>False) s1) (λZ Z=>False) s
theorem Lq.call {p:FL} {T:Expr->Prop} (h:Ev B n (.Name x p) ρ H λf H1=>∃cf,f=.raw cf/\Callee B cf/\Ks B n args ρ H1 λvs H2=>NM B n cf vs H2 T Q)
 (hp:fb args=true:=by rfl):Lq B n (.Call (.Name x p) args [] pos) ρ H T Q:=by
 intro A env s μ W g I;show aC B.M A (do pz pos (←dq (.Name x p) env) [] (gy pos (cJ args env)) (j6 pos (f7 [] env))) _ _ s;refine aa (h.then g I λf H1 μ1 W1 c s1 h1 I1 x1 r1=>?_);refine cP h1 λcf k_ hc hE=>?_;obtain rfl:=k_;cases(show c=cf from r1);refine fy hc hp (aM (hE A env s1 μ1 W1 pos g I1) (λcs s2 j_=>oU j_ λvs H2 μ2 W2 q I2 x2 r2=>⟨I2.KH,?_⟩) λZ Z e=>e);exact q A env ρ s μ W H s2 μ2 W2 cs g I I2 (x1.trans x2 I.o_ λZ h=>de h) r2
theorem NM.B_ (q:Q (gd (dG 0 b)) H):NM B n (.type "range") [dI b] H (λZ=>True) Q:=by
 intro A env ρ s0 μ0 W0 H0 s μ W cs g I0 I x r;refine cX cs r.one λc r1=>gc c (Rp.int_inv r1:_) λt=>call_range_1 ?_;have k:=b9 (h:=s.heap) {cls:=.type "range",data:=.fields #[.int 0 s.toks,.int b t,.int 1 (s.toks+1)]};exact Lq.KF I0 (I.keeps (s':={s with heap:=s.heap.push _,toks:=s.toks+1+1}) (cY _ _ rfl) k) (x.trans (.keeps k) I0.o_ λZ h=>de h) (Ao ..) q
theorem NM.LZ {a:Int} (q:Q (gd (dG a b)) H):NM B n (.type "range") [dI a,dI b] H (λZ=>True) Q:=by
 intro A env ρ s0 μ0 W0 H0 s μ W cs g I0 I x r;refine ko cs r.two λc d r1 r2=>gc c (Rp.int_inv r1:_) λt=>gc d (Rp.int_inv r2:_) λu=>call_range_2 ?_;have k:=b9 (h:=s.heap) {cls:=.type "range",data:=.fields #[.int a t,.int b u,.int 1 s.toks]};exact Lq.KF I0 (I.keeps (s':={s with heap:=s.heap.push _,toks:=s.toks+1}) (cY _ _ rfl) k) (x.trans (.keeps k) I0.o_ λZ h=>de h) (Ao ..) q
variable {TI TO i1 i2 it l l1 l2 z:Addr} {items xs ys:Array Value} {prog:Program} {k:J4} {x:Value} {Q:Value->aD->Prop} {w:eQ}
section
variable {prog:Program} {w:eQ} {A:du} {E:Value->aD->Prop} {s:aD}
theorem qg {items} (hit:s.heap.IsTupleIter it l i)
 (hl:s.heap.IsTuple l items) (hx:items[i]?=IC x)
 (hQ:∀h',h'.IsTupleIter it l (i+1)->bN it s.heap h'->Q x {s with heap:=h'}):
 aC (bX prog w) A (bL (.ref it)) Q E s:=by
 refine cP (id hit:_) λo ho hc hd=>?_;refine cP hl λol ZH Z f_=>?_;refine bm f_ λnl Nb=>?_;unfold bL;refine aa (cR (name:=am "__next__") hit.typeIs fL
  (cS fL hit.typeIs qL ?_ (qh _)))
 show aC _ _ (uq (.ref it) 0>>=_) _ _ s;refine aa (da ho hd (x:=.ref l) rfl ?_);show aC _ _ (if(dK l==gF)=true then _ else _) _ _ s;refine ah _ (if_neg (show¬((dK l==gF)=true)from aA) ..) ?_;show aC _ _ (uq (.ref it) 1>>=_) _ _ s;refine aa (da ho hd (x:=.int i 0) rfl ?_);show aC _ _ (nm (.ref l)>>=_) _ _ s;refine aa (cm ZH Nb ?_);simp only[bG,hx];refine aa (f8 ho hd (b6 [].length) (ai (aN x rfl (ai (hQ _ ?_ (bJ ..))))));exact(bA _ (bT _ ho (Fm (lW hd _))) ((Obj.cls_mapFields ..).trans hc) (by
  refine ah _ (lW hd ..) ?_;rfl))
theorem qY {items} (hh:A.handled=ID)
 (hit:s.heap.IsTupleIter it l i) (hl:s.heap.IsTuple l items) (hx:items[i]?=ID)
 (hE:∀h' e,Heap.ExtBut it s.heap h'->(∃o,h'.get? e=IC o/\o.cls=.type "StopIteration")->E (.ref e) {s with heap:=h'}):
 aC (bX prog w) A (bL (.ref it)) Q E s:=by
 refine cP (id hit:_) λo ho hc hd=>?_;refine cP hl λol ZH Z k_=>?_;refine bm k_ λnl Nb=>?_;unfold bL;refine aa (cR (name:=am "__next__") hit.typeIs fL
  (cS fL hit.typeIs qL ?_ (qh _)))
 show aC _ _ (uq (.ref it) 0>>=_) _ _ s;refine aa (da ho hd (x:=.ref l) rfl ?_);show aC _ _ (if(dK l==gF)=true then _ else _) _ _ s;refine ah _ (if_neg (show¬((dK l==gF)=true)from aA) ..) ?_;show aC _ _ (uq (.ref it) 1>>=_) _ _ s;refine aa (da ho hd (x:=.int i 0) rfl ?_);show aC _ _ (nm (.ref l)>>=_) _ _ s;refine aa (cm ZH Nb ?_);simp only[bG,hx];refine aa (nz (aa (f8 ho hd (db rfl) ?_)));show aC _ _ (newExc (.type "StopIteration") []>>=_) _ _ _;refine aa ?_;simp only[newExc,newTuple];refine aa (ce ?_ (by size_fits));refine aa (m:=s7 _ _) (lz (a:=gF) (by first|rfl|(simp only[s7];rfl)) ?_);refine ce ?_ (by size_fits);refine aa (wpAny_handled ?_)
 first|refine ah _ (show A.in1.handled=ID from hh) ?_|refine ah _ hh ?_
 refine aa (ai (wpAny_throw ?_));exact hE _ _ (((bJ ..).extBut.push _).push _) (aN _ (aH _ rfl) rfl)
end
inductive J4 where
 |list
 |tuple
noncomputable def J4.ty:J4->String
 |.list=>"list_iterator"
 |.tuple=>"tuple_iterator"
def Src (k:J4) (h:Heap) (a:Addr) (items:Array Value):Prop:=match k with
 |.list=>h.IsList a items
 |.tuple=>h.IsTuple a items
def F_ (k:J4) (h:Heap) (it a:Addr) (i:Nat):Prop:=match k with
 |.list=>h.IsListIter it a i
 |.tuple=>h.IsTupleIter it a i
noncomputable def gG (k:J4) (a:Addr):Obj:={cls:=.type k.ty,data:=.fields #[.ref a,.int 0 0]}
theorem Src.at (x:Src k h a items) (hk:∀o,h.get? a=IC o->h'.get? a=IC o):Src k h' a items:=by
 cases k
 ·exact Heap.IsList.at x hk
 ·refine aG x λo ho r=>?_;exact(aN o (hk o ho) r)
theorem F_.at (x:F_ k h it a i) (hk:∀o,h.get? it=IC o->h'.get? it=IC o):F_ k h' it a i:=by
 cases k<;>(refine aG x λo ho r=>?_;exact(aN o (hk o ho) r))
theorem Src.some (x:Src k h a items):∃o,h.get? a=IC o:=by
 cases k<;>(refine aG x λo ho r=>?_;exact⟨o,ho⟩)
theorem F_.some (x:F_ k h it a i):∃o,h.get? it=IC o:=by
 cases k<;>(refine aG x λo ho r=>?_;exact⟨o,ho⟩)
theorem F_.new (k:J4) (h:Heap) (a:Addr):F_ k (h.push (gG k a)) h.objs.size a 0:=by
 cases k<;>exact(bA _ (aH _ rfl) rfl rfl)
theorem kL (x:Src k s.heap a items)
 (hQ:Q (.ref s.heap.objs.size) {s with heap:=s.heap.push (gG k a)}):aC (bX prog w) A (l4 (.ref a)) Q E s:=by
 cases k
 ·exact w8 x hQ
 ·exact wpAny_pyIter_tuple x hQ
theorem Draws.src (hh:A.handled=ID) (k:J4) (it l:Addr) (IQ:l≠it) (items:Array Value):
 Draws prog w A it [it,l] items.size (λi v=>items[i]?=IC v) (λi h=>F_ k h it l i/\Src k h l items)where
 live:=λZ Z st=>st.1.some
 frame:=λZ Z Z st hk=>⟨st.1.at λo e=>hk it ae o e,st.2.at λo e=>hk l (ag _ ae) o e⟩
 item:=λi s Q E hi st hQ=>by
  cases k
  ·refine wpAny_nextOf_list_item st.1 st.2 (x:=items[i]) (by simp[hi]) λh' Lk K0=>?_;exact hQ _ h' s.toks (by simp[hi]) ⟨Lk,Heap.IsList.extBut st.2 K0.extBut IQ⟩ K0
  ·refine qg st.1 st.2 (x:=items[i]) (by simp[hi]) λh' Lk K0=>?_;exact hQ _ h' s.toks (by simp[hi]) ⟨Lk,Heap.IsTuple.extBut st.2 K0.extBut IQ⟩ K0
 done:=λs Q E st hE=>by
  cases k
  ·exact wpAny_nextOf_list_end hh st.1 st.2 (Fn) hE
  ·exact qY hh st.1 st.2 (Fn) hE
structure s8 (z TI TO i1 i2 l1 l2:Addr):Prop where
 TIz:TI≠z
 TOz:TO≠z
 i1z:i1≠z
 i2z:i2≠z
 TITO:TI≠TO
 TIi1:TI≠i1
 TIi2:TI≠i2
 TOi1:TO≠i1
 TOi2:TO≠i2
 i12:i1≠i2
 l1z:l1≠z
 l1TO:l1≠TO
 l1i1:l1≠i1
 l1i2:l1≠i2
 l2z:l2≠z
 l2TO:l2≠TO
 l2i1:l2≠i1
 l2i2:l2≠i2
section
variable {prog:Program} {w:eQ} {A:du} {E:Value->aD->Prop} {s:aD} {k1 k2:J4}
def NI (k1 k2:J4) (z TI TO i1 i2 l1 l2:Addr) (xs ys:Array Value) (f0:Value) (i:Nat) (h:Heap):Prop:=
 zY h z TI TO f0/\lX h TI (.ref i1) (.ref i2)/\(∃a b,lX h TO a b)/\F_ k1 h i1 l1 i/\F_ k2 h i2 l2 i/\Src k1 h l1 xs/\Src k2 h l2 ys
theorem y4 {y:Value} (hh:A.handled=ID) (D:s8 z TI TO i1 i2 l1 l2) (st:NI k1 k2 z TI TO i1 i2 l1 l2 xs ys .none i s.heap)
 (hx:xs[i]?=IC x) (hy:ys[i]?=IC y)
 (hQ:∀h' tk,NI k1 k2 z TI TO i1 i2 l1 l2 xs ys (em s.heap.objs.size) (i+1) h'->lX h' s.heap.objs.size x y->
  (∀c o,c≠z->c≠TO->c≠i1->c≠i2->s.heap.get? c=IC o->h'.get? c=IC o)->Q (.ref s.heap.objs.size) {s with heap:=h',toks:=tk}):
 aC (bX prog w) A (Builtin.«zip.__next__» ⟨[.ref z],[]⟩) (λfin s'=>∃v,fin=.done (.ret v)/\Q v s') E s:=by
 refine D8 st λhz M9 j_ h1 h2 KM K4=>?_;refine lP j_ λa b LP=>?_;show aC _ _ (uq (.ref z) 2>>=_) _ _ _;refine aa (da hz rfl (x:=.bool false) rfl ?_);show aC _ _ (uq (.ref z) 3>>=_) _ _ _;refine aa (da hz rfl (x:=.ref TI) rfl ?_);refine aa (cm M9 rfl ?_);show aC _ _ (dc (.ref z)>>=_) _ _ _;refine aa ?_;unfold dc;refine aa (da hz rfl (x:=.none) rfl (ai ?_));simp only[if_true];refine aa (nz ?_);refine aa (da hz rfl (x:=.ref TO) rfl ?_);refine aa (fS hz (db rfl) λg1 MF Km=>?_);replace MF:zY g1 z TI TO .ellipsis:=MF;refine aa ?_;simp only[List.zipIdx_cons,List.zipIdx_nil,je,pV];refine aa (aa (ur ?_));show aC _ _ (bL (.ref i1)>>=_) _ _ _;have T5:i<xs.size:=(Array.getElem?_eq_some_iff.mp hx).1;have hiy:i<ys.size:=(Array.getElem?_eq_some_iff.mp hy).1;refine aa ((Draws.src hh k1 i1 l1 D.l1i1 xs).item i {s with heap:=g1} _ _ T5 ⟨h1.at λo e=>Km.extBut _ _ D.i1z e,KM.at λo e=>Km.extBut _ _ D.l1z e⟩ λx' g2 ME Lr Nv KC=>ai ?_);have ex:x'=x:=bS (Lr.symm.trans hx);subst ex;have Ni:lX g2 TO a b:=KC.extBut _ _ D.TOi1 (Km.extBut _ _ D.TOz LP);refine aa (cm (s:={s with heap:=g2,toks:=ME}) Ni rfl ?_);refine aa (sa (s:={s with heap:=g2,toks:=ME}) Ni λg3 Pc L9=>?_);replace Pc:lX g3 TO x' b:=Pc;replace L9:bN TO g2 g3:=L9;refine aa (lA (ai ?_));refine aa (aa (ur ?_));show aC _ _ (bL (.ref i2)>>=_) _ _ _;refine aa ((Draws.src hh k2 i2 l2 D.l2i2 ys).item i {s with heap:=g3,toks:=ME} _ _ hiy ⟨h2.at λo e=>L9.extBut _ _ D.TOi2.symm (KC.extBut _ _ D.i12.symm (Km.extBut _ _ D.i2z e)),K4.at λo e=>L9.extBut _ _ D.l2TO (KC.extBut _ _ D.l2i1 (Km.extBut _ _ D.l2z e))⟩ λy' g4 SM Zq Z6 Md=>ai ?_);have ey:y'=y:=bS (Zq.symm.trans hy);subst ey;replace Md:bN i2 g3 g4:=Md;have V8:lX g4 TO x' b:=Md.extBut _ _ D.TOi2 Pc;refine aa (cm (s:={s with heap:=g4,toks:=SM}) V8 rfl ?_);refine aa (sa (s:={s with heap:=g4,toks:=SM}) V8 λg5 Pb NA=>?_);replace Pb:lX g5 TO x' y':=Pb;replace NA:bN TO g4 g5:=NA;refine aa (lA (ai (ai ?_)));refine aa (cm (s:={s with heap:=g5,toks:=SM}) Pb rfl ?_);refine aa (sd ?_);have u_:g5.objs.size=s.heap.objs.size:=by
  have e2:g2.objs.size=g1.objs.size:=KC.1
  (refine ah _ (NA.1 ..) ?_;refine ah _ (Md.1 ..) ?_;refine ah _ (L9.1 ..) ?_;refine ah _ e2 ?_;refine ah _ (Km.1 ..) rfl)
 have hz5:zY g5 z TI TO .ellipsis:=NA.extBut _ _ D.TOz.symm (Md.extBut _ _ D.i2z.symm (L9.extBut _ _ D.TOz.symm (KC.extBut _ _ D.i1z.symm MF)));have XZ:∀c o,c≠z->c≠TO->c≠i1->c≠i2->s.heap.get? c=IC o->g5.get? c=IC o:=λc o c1 c2 c3 c4 e=>
  NA.extBut _ _ c2 (Md.extBut _ _ c4 (L9.extBut _ _ c2 (KC.extBut _ _ c3 (Km.extBut _ _ c1 e))))
 have h15:F_ k1 g5 i1 l1 (i+1):=Nv.1.at λo e=>NA.extBut _ _ D.TOi1.symm (Md.extBut _ _ D.i12 (L9.extBut _ _ D.TOi1.symm e));have h25:F_ k2 g5 i2 l2 (i+1):=Z6.1.at λo e=>NA.extBut _ _ D.TOi2.symm e;have Ut:z<g5.objs.size:=b0 hz5;show aC _ _ (lI (.ref z) (.ref g5.objs.size)>>=_) _ _ _;refine aa ?_;unfold lI;have hz6:zY (g5.push {cls:=.type "tuple",data:=.seq #[x',y']}) z TI TO .ellipsis:=av _ hz5;refine aa (fS hz6 (db rfl) λg7 RD hs7=>?_);replace RD:zY g7 z TI TO (em g5.objs.size):=RD;refine fS RD (b6 [Value.bool false,dK TI,dK TO].length) λg8 XQ hs8=>?_;replace XQ:zY g8 z TI TO (em g5.objs.size):=XQ;have up:∀c o,c≠z->g5.get? c=IC o->g8.get? c=IC o:=λc o c1 e=>hs8.extBut _ _ c1 (hs7.extBut _ _ c1 (av _ e));have hT8:lX g8 g5.objs.size x' y':=hs8.extBut _ _ (d8 Ut) (hs7.extBut _ _ (d8 Ut) (aH _ rfl));rw[u_]at XQ hT8;refine ai (aN _ rfl ?_);show Q (.ref g5.objs.size) _;exact ah _ u_ (hQ g8 SM (Db XQ (up _ _ D.TIz (XZ _ _ D.TIz D.TITO D.TIi1 D.TIi2 M9)) (cY _ _ (up _ _ D.TOz Pb)) (h15.at λo e=>up _ o D.i1z e) (h25.at λo e=>up _ o D.i2z e) (KM.at λo e=>up _ o D.l1z (XZ _ _ D.l1z D.l1TO D.l1i1 D.l1i2 e)) (K4.at λo e=>up _ o D.l2z (XZ _ _ D.l2z D.l2TO D.l2i1 D.l2i2 e))) hT8 λc o c1 c2 c3 c4 e=>up c o c1 (XZ c o c1 c2 c3 c4 e))
theorem C7 {Q:tg->aD->Prop} (hh:A.handled=ID) (D:s8 z TI TO i1 i2 l1 l2) (st:NI k1 k2 z TI TO i1 i2 l1 l2 xs ys .none i s.heap)
 (hle:i<=xs.size) (hle2:i<=ys.size) (aaf:i=xs.size∨i=ys.size)
 (hE:∀h' tk e,(∀c o,c≠z->c≠TO->c≠i1->c≠i2->s.heap.get? c=IC o->h'.get? c=IC o)->(∃o,h'.get? e=IC o/\o.cls=.type "StopIteration")->E (.ref e) {s with heap:=h',toks:=tk}):
 aC (bX prog w) A (Builtin.«zip.__next__» ⟨[.ref z],[]⟩) Q E s:=by
 refine D8 st λhz M9 p_ h1 h2 KM K4=>?_;refine lP p_ λa b LP=>?_;show aC _ _ (uq (.ref z) 2>>=_) _ _ _;refine aa (da hz rfl (x:=.bool false) rfl ?_);show aC _ _ (uq (.ref z) 3>>=_) _ _ _;refine aa (da hz rfl (x:=.ref TI) rfl ?_);refine aa (cm M9 rfl ?_);show aC _ _ (dc (.ref z)>>=_) _ _ _;refine aa ?_;unfold dc;refine aa (da hz rfl (x:=.none) rfl (ai ?_));simp only[if_true];refine aa (nz ?_);refine aa (da hz rfl (x:=.ref TO) rfl ?_);refine aa (fS hz (db rfl) λg1 MF Km=>?_);replace MF:zY g1 z TI TO .ellipsis:=MF;refine aa ?_;simp only[List.zipIdx_cons,List.zipIdx_nil,je,pV];refine aa (aa (ur ?_));show aC _ _ (bL (.ref i1)>>=_) _ _ _;by_cases hx:i=xs.size
 ·refine aa ((Draws.src hh k1 i1 l1 D.l1i1 xs).done {s with heap:=g1} _ _ (hx▸⟨h1.at λo e=>Km.extBut _ _ D.i1z e,KM.at λo e=>Km.extBut _ _ D.l1z e⟩) λg2 e KC he=>?_);refine aG he λoe RI RX=>?_;have IV:zY g2 z TI TO .ellipsis:=KC _ _ D.i1z.symm MF;have hez:e≠z:=λx=>by subst x;rw[IV]at RI;cases RI;simp at RX
  refine fS (s:={s with heap:=g2}) IV (db rfl) λg3 Z L9=>hE g3 s.toks e (λc o c1 Z c3 Z x=>L9.extBut _ _ c1 (KC _ _ c3 (Km.extBut _ _ c1 x))) (aN oe (L9.extBut _ _ hez RI) RX)
 ·have T5:i<xs.size:=se hle hx;have hy:i=ys.size:=We aaf T5;refine aa ((Draws.src hh k1 i1 l1 D.l1i1 xs).item i {s with heap:=g1} _ _ T5 ⟨h1.at λo e=>Km.extBut _ _ D.i1z e,KM.at λo e=>Km.extBut _ _ D.l1z e⟩ λx g2 ME Z Nv KC=>ai ?_);have Ni:lX g2 TO a b:=KC.extBut _ _ D.TOi1 (Km.extBut _ _ D.TOz LP);refine aa (cm (s:={s with heap:=g2,toks:=ME}) Ni rfl ?_);refine aa (sa (s:={s with heap:=g2,toks:=ME}) Ni λg3 Pc L9=>?_);replace L9:bN TO g2 g3:=L9;refine aa (lA (ai ?_));refine aa (aa (ur ?_));show aC _ _ (bL (.ref i2)>>=_) _ _ _;refine aa ((Draws.src hh k2 i2 l2 D.l2i2 ys).done {s with heap:=g3,toks:=ME} _ _ (hy▸⟨h2.at λo e=>L9.extBut _ _ D.TOi2.symm (KC.extBut _ _ D.i12.symm (Km.extBut _ _ D.i2z e)),K4.at λo e=>L9.extBut _ _ D.l2TO (KC.extBut _ _ D.l2i1 (Km.extBut _ _ D.l2z e))⟩) λg4 e Md he=>?_);refine aG he λoe RI RX=>?_;have XR:zY g4 z TI TO .ellipsis:=Md _ _ D.i2z.symm (L9.extBut _ _ D.TOz.symm (KC.extBut _ _ D.i1z.symm MF));have hez:e≠z:=λx=>by subst x;rw[XR]at RI;cases RI;simp at RX
  refine fS (s:={s with heap:=g4,toks:=ME}) XR (db rfl) λg5 Z NA=>hE g5 ME e (λc o c1 c2 c3 c4 x=>NA.extBut _ _ c1 (Md _ _ c4 (L9.extBut _ _ c2 (KC.extBut _ _ c3 (Km.extBut _ _ c1 x))))) (aN oe (NA.extBut _ _ hez RI) RX)
noncomputable def gk (k1 k2:J4) (l1 l2:Addr) (h:Heap):Heap:=
 ((((h.push (gG k1 l1)).push (gG k2 l2)).push {cls:=.type "tuple",data:=.seq #[.ref h.objs.size,.ref (h.objs.size+1)]}).push {cls:=.type "tuple",data:=.seq #[.none,.none]}).push {cls:=.type "zip",data:=.fields #[.none,.bool false,.bool false,.ref (h.objs.size+2),.ref (h.objs.size+3)]}
theorem vh {k1 k2:J4} (l1 l2:Addr) (xs ys:Array Value):
 Meets (Builtin.«zip.__new__» ⟨[.type "zip",.ref l1,.ref l2],[]⟩) (λZ R s=>Src k1 s.heap l1 xs/\Src k2 s.heap l2 ys/\
  R (.ok (.ret (.ref (s.heap.objs.size+4)))) {s with heap:=gk k1 k2 l1 l2 s.heap}):=
 .of_wp λprog w A R s h=>by
  obtain⟨hp,g,d,tk,os⟩:=s;refine ee h λKM K4 h=>?_;have Jk:=sub_zip;have hL1:Src k1 (C8 ⟨hp,g,d,tk,os⟩) l1 xs:=KM;have hL2:Src k2 (C8 ⟨hp.push (gG k1 l1),g,d,tk,os⟩) l2 ys:=K4.at λo e=>b9 _ _ _ e;have z1:(hp.push (gG k1 l1)).objs.size=hp.objs.size+1:=bz ..;have z2:((hp.push (gG k1 l1)).push (gG k2 l2)).objs.size=hp.objs.size+2:=by(refine ah _ (bz ..) ?_;refine ah _ (z1 ..) rfl)
  wp_walk using kL hL1,kL hL2
  refine(aN _ rfl ?_);unfold gk at h;simp only[bz];exact h
end
variable {vs ws:Array Value} {g:Heap} {xs ys:List PyData} {Q:List PyData->List a_->Prop} {tk:Nat} {k1 k2:J4}
theorem G5 (I2:Inv B env ρ H2 μ2 W2 s2) (G:List Addr) (hk:∀b o,s2.heap.get? b=IC o->g.get? b=IC o) (hG:∀a,a∈G->s2.heap.objs.size<=a/\∃o,g.get? a=IC o):
 Inv B env ρ H2 μ2 (G++W2) {s2 with heap:=g,toks:=tk}/\(∀a,a∈G->a∉W2/\a∉μ2)/\v_ s2.heap W2 (G++W2):=by
 have out:∀a,a∈G->a∉W2:=λa ha=>I2.out (hG a ha).1;have f:v_ s2.heap W2 (G++W2):=λa ha hn=>by
  rcases List.mem_append.mp ha with z|z
  ·exact bQ (hG a z).1
  ·exact absurd z hn
 refine⟨I2.go [] (cY _ _ rfl) (λb o Z e=>hk b o e) (λZ h=>de h) (λa h=>aR _ h) f (λa ha hn=>?_) (λa ha hn=>?_),λa ha=>⟨out a ha,λz=>out a ha (I2.o_ a z)⟩,f⟩
 ·rcases List.mem_append.mp ha with z|z
  ·exact ab (bj I2.lt) (hG a z).1
  ·exact absurd z hn
 ·rcases hn with q|hn
  ·exact de q
  ·rcases List.mem_append.mp ha with z|z
   ·exact(hG a z).2
   ·exact absurd z hn
theorem Lq.U5 {T:Expr->Prop} {St:Nat->List Addr->Heap->Prop} {i0:Addr}
 (I:Inv B env ρ H μ W s) (I2:Inv B env ρ H2 μ2 W2 s2) (x2:Ext [] μ W s μ2 W2 s2) (q:Q xs H2) (hk:∀b o,s2.heap.get? b=IC o->g.get? b=IC o) (hG:∀a,a∈G->s2.heap.objs.size<=a/\∃o,g.get? a=IC o)
 (Lg:∀A,Good n A->LU B A i0 G xs T (λZ Z=>True) St Kx) (h0:v_ s2.heap W2 (G++W2)->St 0 (G++W2) g):
 ∃xs H' μ' W' W0,Q xs H'/\Inv B env ρ H' μ' W' {s2 with heap:=g,toks:=tk}/\Ext [] μ W s μ' W0 {s2 with heap:=g,toks:=tk}/\(∃I G St Kx,dK i0=.ref I/\(∀A,Good n A->LU B A I G xs T (λZ Z=>True) St Kx)/\St 0 W' g/\
  (∀a,a∈G->a∈W'/\a∉W0/\a∉μ'/\s.heap.get? a=ID)/\(∀a,a∈W'->a∈G∨a∈W0)/\(∀a,a∈W0->a∈W')):=by
 exact ee (G5 (tk:=tk) I2 G hk hG:_) λI3 h1 h2=>(Ac xs H2 μ2 (G++W2) W2 q I3 (x2.trans (.keeps hk) I.o_ (λZ h=>de h)) (uz i0 G St Kx rfl Lg (h0 h2) (λa ha=>(fv (az _ ha) ((h1 a ha).1) ((h1 a ha).2) (x2.fresh_at I I2 (hG a ha).1))) (λa ha=>List.mem_append.mp ha) (λa ha=>aR _ ha)))
noncomputable def np (x y:PyData):PyData:=.tuple [x,y]
def Le (t:Expr):Prop:=∃elts k pos,t=.Tuple elts k pos
def To (k1 k2:J4) (z TI TO i1 i2 l1 l2:Addr) (vs ws:Array Value) (xs ys:List PyData) (f0:Value) (i:Nat) (W:List Addr) (h:Heap):Prop:=
 NI k1 k2 z TI TO i1 i2 l1 l2 vs ws f0 i h/\(z∈W/\TI∈W/\TO∈W/\i1∈W/\i2∈W)/\(l1∉W/\l2∉W)/\n_ W h vs.toList xs/\n_ W h ws.toList ys
theorem To.IX {f0:Value} (x:To k1 k2 z TI TO i1 i2 l1 l2 vs ws xs ys f0 i W h)
 (k:∀b o,(b∈[z,TI,TO,i1,i2]∨b∉W)->h.get? b=IC o->h'.get? b=IC o) (f:v_ h W W') (sub:∀a,a∈W->a∈W'):To k1 k2 z TI TO i1 i2 l1 l2 vs ws xs ys f0 i W' h':=by
 refine ux x λf_ j_ p_ r1 r2=>?_;refine D8 f_ λhz M9 k_ h1 h2 KM K4=>?_;refine lP k_ λa b LP=>?_;refine ux j_ λm1 m2 m3 m4 m5=>?_;refine bh p_ λo1 o2=>?_;exact bm KM.some λob1 e1=>bm K4.some λob2 e2=>(sY ((Db (k _ _ (.inl ae) hz) (k _ _ (.inl (ag _ ae)) M9) (cY a b (k _ _ (.inl (.tail _ (.tail _ (.head _)))) LP)) (h1.at λo e=>k _ o (.inl (.tail _ (.tail _ (.tail _ (.head _))))) e) (h2.at λo e=>k _ o (.inl (.tail _ (.tail _ (.tail _ (.tail _ (.head _)))))) e) (KM.at λo e=>k _ o (.inr o1) e) (K4.at λo e=>k _ o (.inr o2) e))) (sY (sub _ m1) (sub _ m2) (sub _ m3) (sub _ m4) (sub _ m5)) ⟨f.out o1 e1,f.out o2 e2⟩ (r1.mono (λb o hb e=>k b o (.inr hb) e) f) (r2.mono (λb o hb e=>k b o (.inr hb) e) f))
theorem nY {d:PyData} (e:(gR np xs ys)[i]?=IC d):∃x y,xs[i]?=IC x/\ys[i]?=IC y/\d=np x y:=by
 rw[List.getElem?_zipWith]at e
 cases hx:xs[i]? with
 |none=>rw[hx]at e;exact ft e
 |some x=>
  cases hy:ys[i]? with
  |none=>rw[hx,hy]at e;exact ft e
  |some y=>rw[hx,hy]at e;cases e;exact(eu x y rfl rfl rfl)
theorem NP (hh:A.handled=ID) (D:s8 z TI TO i1 i2 l1 l2) (hv:vs.size=xs.length) (hw:ws.size=ys.length):
 LU B A z [z,TI,TO,i1,i2] (gR np xs ys) Le (λZ Z=>True) (λi W h=>To k1 k2 z TI TO i1 i2 l1 l2 vs ws xs ys .none i W h)
  (λi c W h=>∃T,c=.ref T/\T≠z/\To k1 k2 z TI TO i1 i2 l1 l2 vs ws xs ys (em T) (i+1) W h)where
 IX:=λi W h W' h' st k f sub=>st.IX k f sub
 next:=by
  intro i d W s Q hd al _ st q;refine hU (nY hd:_) λx y hx hy s_=>?_;obtain rfl:=s_;refine ux st λza ms os r1 r2=>aG (r1.get hx:_) λc1 e1 p1=>aG (r2.get hy:_) λc2 e2 p2=>?_;have hT:s.TypeIs (.ref z) "zip":=(aN _ za.1 rfl);unfold hH;refine aa (li (cR (name:=am "__next__") hT fm
   (cS fm hT nA (y4 (x:=c1) (y:=c2) (k1:=k1) (k2:=k2) hh D za (by simpa using e1) (by simpa using e2) λh' tk za' hp hk=>?_) (mM _))))
  have J_:s.heap.objs.size≠z:=di (bf (b0 za.1));have kG:∀b o,b∉[z,TI,TO,i1,i2]->s.heap.get? b=IC o->h'.get? b=IC o:=λb o hb e=>hk b o (λq=>hb (q▸.head _)) (λq=>hb (q▸.tail _ (.tail _ (.head _)))) (λq=>hb (q▸.tail _ (.tail _ (.tail _ (.head _))))) (λq=>hb (q▸.tail _ (.tail _ (.tail _ (.tail _ (.head _)))))) e;have kW:hV W s.heap h':=λb o hb e=>kG b o (λq=>hb (by
   simp only[cp,c6,or_false]at q;rcases q with rfl|rfl|rfl|rfl|rfl
   ·exact ms.1
   ·exact ms.2.1
   ·exact ms.2.2.1
   ·exact ms.2.2.2.1
   ·exact ms.2.2.2.2)) e
  have hTW:s.heap.objs.size∉W:=λz=>by refine bm (al _ z:_) λo e=>?_;exact b7 _ (b0 e)
  refine ai (q _ h' tk (Rp.tuple hTW hp rfl rfl (.cons (p1.mono kW λZ a b=>absurd a b) (.cons (p2.mono kW λZ a b=>absurd a b) .nil))) (TE _ rfl J_ za' ms os (r1.mono kW (λZ a b=>absurd a b)) (r2.mono kW (λZ a b=>absurd a b))) kG λb hb=>?_);refine QF za' λhz M9 C_ h1 h2 Z=>?_;refine lP C_ λa b' LP=>?_;simp only[cp,c6,or_false]at hb;rcases hb with rfl|rfl|rfl|rfl|rfl
  ·exact⟨_,hz⟩
  ·exact⟨_,M9⟩
  ·exact⟨_,LP⟩
  ·exact h1.some
  ·exact h2.some
 go:=by
  intro i t c W s Q f_ j_ q;refine Qx t f_ λelts k pos=>?_;refine YL c j_ λT hT za ms os r1 r2=>?_;refine D8 za λhz M9 II h1 h2 KM K4=>?_;refine lP II λa b LP=>?_;refine wpAny_letOwnedTupleGo_zip hz λh' XS K0=>q h' ?_ (λb o hb e=>K0.extBut _ _ (λq=>hb (q▸.head _)) e) λb hb=>?_
  ·have kW:hV W s.heap h':=λb o hb e=>K0.extBut _ _ (λq=>hb (q▸ms.1)) e;exact(sY ((Db XS (K0.extBut _ _ D.TIz M9) (cY a b (K0.extBut _ _ D.TOz LP)) (h1.at λo e=>K0.extBut _ _ D.i1z e) (h2.at λo e=>K0.extBut _ _ D.i2z e) (KM.at λo e=>K0.extBut _ _ D.l1z e) (K4.at λo e=>K0.extBut _ _ D.l2z e))) ms os (r1.mono kW (λZ a b=>absurd a b)) (r2.mono kW (λZ a b=>absurd a b)))
  ·simp only[cp,c6,or_false]at hb;rcases hb with rfl|rfl|rfl|rfl|rfl
   ·exact⟨_,XS⟩
   ·exact⟨_,K0.extBut _ _ D.TIz M9⟩
   ·exact⟨_,K0.extBut _ _ D.TOz LP⟩
   ·exact(h1.at λo e=>K0.extBut _ _ D.i1z e).some
   ·exact(h2.at λo e=>K0.extBut _ _ D.i2z e).some
 done:=by
  intro W s Q _ s_ q;refine bh s_ λza _=>?_;have hT:s.TypeIs (.ref z) "zip":=(aN _ za.1 rfl);have hl:(gR np xs ys).length=min xs.length ys.length:=qM;unfold hH;refine aa (li (cR (name:=am "__next__") hT fm
   (cS fm hT nA (C7 (k1:=k1) (k2:=k2) hh D za (by(refine ah _ hl ?_;refine ah _ hv ?_);exact WB) (by(refine ah _ hl ?_;refine ah _ hw ?_);exact WA) (by(refine ah _ hl ?_;refine ah _ hv ?_;refine ah _ hw ?_);exact WC) λh' tk e hk he=>?_) (mM _))))
  refine aG he λo ho hc=>aa (eU (s:={s with heap:=h',toks:=tk}) (T:="StopIteration") (b:=true) (aN o ho hc) nB ?_);exact ai (q h' tk λb o hb e=>hk b o (λq=>hb (q▸.head _)) (λq=>hb (q▸.tail _ (.tail _ (.head _)))) (λq=>hb (q▸.tail _ (.tail _ (.tail _ (.head _))))) (λq=>hb (q▸.tail _ (.tail _ (.tail _ (.tail _ (.head _)))))) e)
 self:=λi W s Q st q=>y5 st.1.1 q
theorem rJ {xs ys:Array Value} (h1:Src k1 g l1 xs) (h2:Src k2 g l2 ys):NI k1 k2 (g.objs.size+4) (g.objs.size+2) (g.objs.size+3) g.objs.size (g.objs.size+1) l1 l2 xs ys .none 0 (gk k1 k2 l1 l2 g)/\
 (∀b o,g.get? b=IC o->(gk k1 k2 l1 l2 g).get? b=IC o)/\s8 (g.objs.size+4) (g.objs.size+2) (g.objs.size+3) g.objs.size (g.objs.size+1) l1 l2:=by
 refine bm h1.some λo1 e1=>bm h2.some λo2 e2=>?_;have lt1:l1<g.objs.size:=b0 e1;have lt2:l2<g.objs.size:=b0 e2;have k:∀b o,g.get? b=IC o->(gk k1 k2 l1 l2 g).get? b=IC o:=λb o e=>b9 _ _ _ (b9 _ _ _ (b9 _ _ _ (b9 _ _ _ (b9 _ _ _ e))));have s1:(g.push (gG k1 l1)).objs.size=g.objs.size+1:=bz ..;have i1:F_ k1 (gk k1 k2 l1 l2 g) g.objs.size l1 0:=(F_.new k1 g l1).at λo e=>b9 _ _ _ (b9 _ _ _ (b9 _ _ _ (b9 _ _ _ e)));have i2:F_ k2 (gk k1 k2 l1 l2 g) (g.objs.size+1) l2 0:=by
  have:=(F_.new k2 (g.push (gG k1 l1)) l2).at (h':=gk k1 k2 l1 l2 g) λo e=>b9 _ _ _ (b9 _ _ _ (b9 _ _ _ e))
  rwa [s1]at this
 refine⟨(Db ?_ ?_ (cY gF gF ?_) i1 i2 (h1.at λo e=>k _ _ e) (h2.at λo e=>k _ _ e)),k,⟨?_,?_,?_,?_,?_,?_,?_,?_,?_,?_,?_,?_,?_,?_,?_,?_,?_,?_⟩⟩
 ·unfold gk zY;rw[show g.objs.size+4=_ from ?_]
  ·exact aH _ rfl
  ·simp only[bz]
 ·unfold gk lX;refine b9 _ _ _ (b9 _ _ _ ?_);rw[show g.objs.size+2=_ from ?_]
  ·exact aH _ rfl
  ·simp only[bz]
 ·unfold gk lX;refine b9 _ _ _ ?_;rw[show g.objs.size+3=_ from ?_]
  ·exact aH _ rfl
  ·simp only[bz]
 all_goals first|exact λe=>absurd (Nat.add_left_cancel e) (by decide)|exact bf (aP lt1 (b5 ..))|exact bf (aP lt2 (b5 ..))|exact bf lt1|exact bf lt2|exact bf (C9 (by decide))|exact d8 (C9 (by decide))
theorem NM.zip {v1 v2:V} (h1:v1=dL xs∨v1=dT xs) (h2:v2=dL ys∨v2=dT ys) (q:Q (gR np xs ys) H):NM B n (.type "zip") [v1,v2] H Le Q:=by
 intro A env ρ s0 μ0 W0 H0 s μ W cs g I0 I x r;refine ko cs r.two λc d r1 r2=>?_;have src:∀{v:V} {xs:List PyData} {c:Value},(v=dL xs∨v=dT xs)->l_ B μ W s.heap v c->∃k a items,c=.ref a/\a∉W/\Src k s.heap a items/\n_ W s.heap items.toList xs:=by
  rintro v xs c (rfl|rfl) r
  ·refine lQ (Rp.IF r:_) λa vs e ha l rs=>?_;exact(xK .list a vs e ha l rs)
  ·refine lQ (Rp.D_ r:_) λa vs e ha l rs=>?_;exact(xK .tuple a vs e ha l rs)
 refine Tx c (src h1 r1:_) λk1 l1 vs o1 s1 QX=>Tx d (src h2 r2:_) λk2 l2 ws o2 s2 MW=>ee (rJ s1 s2:_) λza hk D=>callType_new Ds rfl (y6 _ _) (zZ _ _) (λobj=>uL obj _ _) A0 (vh (k1:=k1) (k2:=k2) l1 l2 vs ws) ⟨s1,s2,?_⟩;refine⟨(aN _ za.1 rfl),y5 (s:={s with heap:=gk k1 k2 l1 l2 s.heap}) za.1 ?_⟩;have hv:vs.size=xs.length:=by have:=QX.length;simpa using this
 have hw:ws.size=ys.length:=by have:=MW.length;simpa using this
 refine Lq.U5 (tk:=s.toks) I0 I x q hk (λa ha=>?_) (λA g=>NP g.1 D hv hw) λf=>(sY za (sY ae (ag _ ae) (.tail _ (.tail _ (.head _))) (.tail _ (.tail _ (.tail _ (.head _)))) (.tail _ (.tail _ (.tail _ (.tail _ (.head _)))))) ⟨?_,?_⟩ (QX.mono (λb o Z e=>hk b o e) f) (MW.mono (λb o Z e=>hk b o e) f))
 ·refine QF za λhz M9 J7 i1 i2 Z=>?_;refine lP J7 λa' b' LP=>?_;simp only[cp,c6,or_false]at ha;rcases ha with rfl|rfl|rfl|rfl|rfl
  ·exact⟨b5 _ _,_,hz⟩
  ·exact⟨b5 _ _,_,M9⟩
  ·exact⟨b5 _ _,_,LP⟩
  ·exact⟨aq _,i1.some⟩
  ·exact⟨b5 _ _,i2.some⟩
 ·refine bm s1.some λo e=>?_;exact f.out o1 e
 ·refine bm s2.some λo e=>?_;exact f.out o2 e
set_option tactic.hygienic true in
theorem y7 (l:Addr) (items:Array Value) (n:Nat) (dct:Option Addr) (sl:Array (Option Value)):
 Meets (Builtin.«enumerate.__new__» ⟨[.type "enumerate",.ref l],[]⟩) (λZ R s=>s.heap.get? l=IC {cls:=.type "tuple",dict:=dct,data:=.seq items n,slots:=sl}/\
  R (.ok (.ret (.ref (s.heap.push (gG .tuple l)).objs.size)))
   {s with heap:=(s.heap.push (gG .tuple l)).push {cls:=.type "enumerate",data:=.fields #[.none,.bool false,.ref s.heap.objs.size,em 0,.none,.none]}}):=
 .of_wp λprog w A R s h=>by
  obtain⟨hp,g,d,tk,os⟩:=s;refine bh h λhl h=>?_;have Jk:=sub_enumerate;have hL:Src .tuple (C8 ⟨hp,g,d,tk,os⟩) l items:=(bA _ hl rfl (A9 n rfl))
  wp_walk using wpAny_loadPart' hl
  refine wpAny_stack_any λst=>ai ?_;generalize rK (λ_=>Bool) _ _ _=b;cases b<;>
  ·wp_walk using wpAny_loadPart' hl,kL hL
   exact(aN _ rfl h)
noncomputable def pg (xs:List PyData) (k:Int):List PyData:=match xs with
 |[]=>[]
 |x::r=>.tuple [.int k,x]::pg r (k+1)
theorem wh (xs:List PyData) (k:Int):(pg xs k).length=xs.length:=by
 induction xs generalizing k with
 |nil=>rfl
 |cons x r ih=>exact congrArg (·+1) (ih _)
theorem Dt {k:Int} {d:PyData} (e:(pg xs k)[i]?=IC d):∃x,xs[i]?=IC x/\d=.tuple [.int (k+(i:Int)),x]:=by
 induction xs generalizing k i with
 |nil=>nomatch e
 |cons x r ih=>cases i with
  |zero=>exact⟨x,rfl,(bS e).symm.trans (by refine ah _ (show k+((0:Nat):Int)=k from Int.add_zero k) rfl)⟩
  |succ i=>refine aG (ih (show(pg r (k+1))[i]?=IC d from e)) λy h1 h2=>⟨y,h1,h2.trans (by(refine ah _ (nr ..) ?_;refine ah _ (gY 1 ..) ?_);rfl)⟩
theorem G6 (hh:A.handled=ID) {e:Addr} (T6:e≠it) (hle:l≠e) (US:l≠it) (hv:items.size=xs.length):
 LU B A e [e,it] (pg xs 0) Le (λZ Z=>True)
  (λi W h=>((∃old,IsEnum h e it (i:Nat) old)/\F_ .tuple h it l i/\Src .tuple h l items)/\(e∈W/\it∈W)/\l∉W/\n_ W h items.toList xs)
  (λi c W h=>∃T,c=.ref T/\((∃x,IsEnumOut h e it ((i:Int)+1) x T)/\(F_ .tuple h it l (i+1)/\Src .tuple h l items)/\T≠e/\T≠it)/\(e∈W/\it∈W)/\l∉W/\n_ W h items.toList xs):=by
 have hh1:A.in1.handled=none:=hh;have D:=Draws.src (prog:=B.prog) (w:=B.w) hh1 .tuple it l US items;have w:=G7 D e T6 (by simp[T6,di hle]) ae;refine{IX:=?_,next:=?_,go:=?_,done:=?_,self:=?_}
 ·intro i W h W' h' f_ k f sub;refine kn f_ λk_ p_ hl r=>?_;refine ee k_ λj_ hi hs=>?_;refine bm j_ λold he=>?_;refine bh p_ λm1 m2=>?_;exact bm hs.some λo ho=>(fv (⟨⟨old,k _ _ (.inl ae) he⟩,hi.at λo e=>k _ o (.inl (ag _ ae)) e,hs.at λo e=>k _ o (.inr hl) e⟩) ⟨sub _ m1,sub _ m2⟩ (f.out hl ho) (r.mono (λb o hb e=>k b o (.inr hb) e) f))
 ·intro i d W s Q hd al _ s_ q;refine kn s_ λC_ II hl r=>?_;refine ee C_ λhe hi hs=>?_;refine bh II λm1 m2=>?_;refine aG (Dt hd:_) λx hx f_=>?_;obtain rfl:=f_;have r_:i<items.size:=by refine ah _ hv ?_;exact(List.getElem?_eq_some_iff.mp hx).1
  refine aG (r.get hx:_) λc e1 p1=>w.item i s Q _ r_ ⟨he,hi,hs⟩ λT vals h' tk hp hT hIT hm hk=>?_;refine gV hp λt x' Lr k_=>?_;obtain rfl:=k_;have ex:x'=c:=bS (Lr.symm.trans (by simpa using e1));subst ex;have kW:hV W s.heap h':=λb o hb e=>hk b o (λq=>hb (by
   simp only[cp,c6,or_false]at q;rcases q with rfl|rfl
   ·exact m1
   ·exact m2)) e
  have hTW:T∉W:=λz=>by refine bm (al _ z:_) λo e=>?_;exact absurd (b0 e) (Nat.not_lt.mpr hT)
  refine cP hIT λo ho hc j_=>?_;refine bm j_ λkk M6=>?_;have Mf:=hm;refine ee hm λp_ s_ hn=>?_;refine bm p_ λy hy=>?_;refine bh s_ λLO K0=>?_;refine q _ h' tk (Rp.tuple hTW ho hc M6 (.cons (by refine ah _ (Int.zero_add ..) ?_;exact .int _ _) (.cons (p1.mono kW λZ a b=>absurd a b) .nil))) (Aa T rfl Mf ⟨m1,m2⟩ hl (r.mono kW (λZ a b=>absurd a b))) (λb o hb e=>hk b o hb e) λb hb=>?_;simp only[cp,c6,or_false]at hb;rcases hb with rfl|rfl
  ·exact⟨_,hy⟩
  ·exact LO.some
 ·intro i t c W s Q IY Ko q;refine Qx t IY λelts k pos=>?_;refine NS c Ko λT hm JY hl r=>?_;refine bh JY λm1 m2=>?_;refine w.go elts k pos i T s Q _ hm λh' st hk=>?_;have kW:hV W s.heap h':=λb o hb e=>hk b o (λq=>hb (by
   simp only[cp,c6,or_false]at q;rcases q with rfl|rfl
   ·exact m1
   ·exact m2)) e
  have MO:=st;refine ee st λC_ LO K0=>?_;refine bm C_ λold he=>?_;refine q h' (fv MO ⟨m1,m2⟩ hl (r.mono kW (λZ a b=>absurd a b))) (λb o hb e=>hk b o hb e) λb hb=>?_;simp only[cp,c6,or_false]at hb;rcases hb with rfl|rfl
  ·exact⟨_,he⟩
  ·exact LO.some
 ·intro W s Q _ Ji q;refine bh Ji λst _=>?_;rw[wh,←hv]at st;exact w.done s Q _ st λh' tk hk=>q h' tk λb o hb e=>hk b o hb e
 ·intro i W s Q JE q;refine bh JE λst _=>?_;exact w.self i s Q _ st q
theorem NM.enum (q:Q (pg xs 0) H):NM B n (.type "enumerate") [dT xs] H Le Q:=by
 intro A env ρ s0 μ0 W0 H0 s μ W cs g I0 I x r;refine cX cs r.one λc r1=>jU c (Rp.D_ r1:_) λl vs ho t rs=>?_;have t':=t;refine cP t λJR hl hc Ko=>?_;obtain⟨cls,dct,dd,sl⟩:=JR;refine bm Ko λkk M6=>?_;simp only at hc M6;subst hc M6;have r_:l<s.heap.objs.size:=b0 hl;refine callType_new PySem.F.called_enumerate rfl (PySem.F.typeCall_enumerate_1 _) (PySem.F.newCall_enumerate_1 _) (λobj=>PySem.F.args_object_init_2 obj _) PySem.F.entry_enumerate_new (y7 l vs kk dct sl) ⟨hl,?_⟩;have hz:(s.heap.push (gG .tuple l)).objs.size=s.heap.objs.size+1:=bz ..;refine ah _ hz ?_;have P_:IsEnum ((s.heap.push (gG .tuple l)).push {cls:=.type "enumerate",data:=.fields #[.none,.bool false,.ref s.heap.objs.size,em 0,.none,.none]}) (s.heap.objs.size+1) s.heap.objs.size 0 .none:=by
  have:=aH (s.heap.push (gG .tuple l)) (o:={cls:=.type "enumerate",data:=.fields #[.none,.bool false,.ref s.heap.objs.size,em 0,.none,.none]}) rfl;rw[hz]at this;exact this
 have hk:∀b o,s.heap.get? b=IC o->((s.heap.push (gG .tuple l)).push {cls:=.type "enumerate",data:=.fields #[.none,.bool false,.ref s.heap.objs.size,em 0,.none,.none]}).get? b=IC o:=λb o e=>b9 _ _ _ (b9 _ _ _ e);have hit:F_ .tuple ((s.heap.push (gG .tuple l)).push {cls:=.type "enumerate",data:=.fields #[.none,.bool false,.ref s.heap.objs.size,em 0,.none,.none]}) s.heap.objs.size l 0:=(F_.new .tuple s.heap l).at λo e=>b9 _ _ _ e;have hv:vs.size=xs.length:=by have:=rs.length;simpa using this
 have Q3:Src .tuple s.heap l vs:=t';have T6:s.heap.objs.size+1≠s.heap.objs.size:=Nat.succ_ne_self _;have hle:l≠s.heap.objs.size+1:=bf (cq r_);have US:l≠s.heap.objs.size:=bf r_;have w:=G7 (Draws.src (prog:=B.prog) (w:=B.w) (A:=A.in1) g.1 .tuple s.heap.objs.size l US vs) (s.heap.objs.size+1) T6 (by simp[T6,di hle]) ae;refine⟨(aN _ P_ rfl),w.self 0 {s with heap:=_} _ _ ⟨⟨_,P_⟩,hit,Q3.at λo e=>hk _ _ e⟩ ?_⟩;refine Lq.U5 (tk:=s.toks) (G:=[s.heap.objs.size+1,s.heap.objs.size]) I0 I x q hk (λa ha=>?_) (λA g=>G6 g.1 T6 hle US hv) λf=>(fv (⟨⟨_,P_⟩,hit,Q3.at λo e=>hk _ _ e⟩) ⟨ae,ag _ ae⟩ (f.out ho hl) (rs.mono (λb o Z e=>hk b o e) f));simp only[cp,c6,or_false]at ha;rcases ha with rfl|rfl
 ·exact⟨cL _,_,P_⟩
 ·exact⟨aq _,hit.some⟩
variable {k:Int} {j:Nat} {p:FL} {Q:V->List a_->Prop} {R:Value->aD->Prop}
theorem Ox (r:n_ W h items.toList ds) (hk:0<=k):n_ W h (slicePick items ID (IC k) ID).toList (ds.take k.toNat):=by
 have hl:=r.length;refine ah _ (kms_pick_eq ..) ?_;simp only[kms_pick,kms_lo,kms_hi,List.drop_zero,Nat.sub_zero];refine ah _ (if_neg (Int.not_lt.mpr hk) ..) ?_;by_cases h1:k.toNat<=items.toList.length
 ·refine ah _ (wi h1 ..) ?_;exact r.take _
 ·(refine ah _ (Nat.min_eq_right (Nat.le_of_not_ge h1) ..) ?_;refine ah _ (bx ..) ?_;refine ah _ (jA (VC hl h1) ..) ?_);exact r
theorem Du (r:n_ W h items.toList ds) (hk:0<=k):n_ W h (slicePick items (IC k) ID ID).toList (ds.drop k.toNat):=by
 have hl:=r.length;refine ah _ (kms_pick_eq ..) ?_;simp only[kms_pick,kms_lo,kms_hi];refine ah _ (if_neg (Int.not_lt.mpr hk) ..) ?_;by_cases h1:k.toNat<=items.toList.length
 ·(refine ah _ (wi h1 ..) ?_;refine ah _ (jA (by simp) ..) ?_);exact r.drop _
 ·(refine ah _ (Nat.min_eq_right (Nat.le_of_not_ge h1) ..) ?_;refine ah _ (Ca X8 ..) ?_;refine ah _ (Ca (VC hl h1) ..) ?_;refine ah _ (List.take_nil ..) ?_);exact .nil
theorem A_.slice (I:Inv B env ρ H μ W s) {o:Obj} {t:Nat} (r:n_ W s.heap items.toList ds) (q:Q (dL ds) H∨Q (.loc H.length) (H++[.list ds])):
 A_ B env ρ μ W s Q (.ref (s.heap.objs.size+1)) {s with heap:=(s.heap.push o).push {cls:=.type "list",data:=.seq items},toks:=t}:=by
 have k:=b9 (h:=s.heap) o;have I':=I.keeps (s':={s with heap:=s.heap.push o}) (cY _ _ rfl) k;have e:(s.heap.push o).objs.size=s.heap.objs.size+1:=bz ..;refine .then (s':={s with heap:=s.heap.push o}) I (Ext.keeps k) (ah _ e.symm ?_);rcases q with q|q
 ·exact .Zc I' (r.keeps k) q
 ·exact .U_ I' (r.keeps k) q
theorem vi {lower upper:Option Expr}
 (h:aC B.M A (dq value env) (λo s₁=>aC B.M A (evalPart lower env) (λvl s₂=>aC B.M A (evalPart upper env) (λvu s₃=>
  ∃l items lo hi,o=.ref l/\s₃.heap.IsList l items/\items.size<=sizeLine/\IsPart vl lo/\IsPart vu hi/\
   R (.ref (s₃.heap.objs.size+1)) {s₃ with heap:=(s₃.heap.push {cls:=.type "slice",data:=.fields #[vl,vu,.none]}).push {cls:=.type "list",data:=.seq (slicePick items lo hi ID)}}) (λZ Z=>False) s₂) (λZ Z=>False) s₁) (λZ Z=>False) s):
 aC B.M A (dq (.Subscript value (.Slice lower upper ID p) pos) env) R (λZ Z=>False) s:=by
 refine pe (aM h (λo s₁ h₁=>wpAny_Slice (aM h₁ (λvl s₂ h₂=>aM h₂ (λvu s₃ h₃=>?_) λZ Z e=>e) λZ Z e=>e)) λZ Z e=>e) ⟨λo i=>[i,o],λZ Z=>rfl⟩;refine NR o h₃ λl items lo hi hl u_ pl pu hQ=>ah _ (evalPart_none ..) (ai (eu ("list") _ list_getitem_lookup ((hl.push _).typeIs) (wpAny_getItem_list_slice (hl.push _) (Heap.IsSliceOf.new ..) pl pu .none (di (Option.some_ne_none 0)) ?_ u_)));exact ah _ (bz ..) (hQ)
theorem vj {up:Expr} (h:Ev B n value ρ H λa H1=>Ev B n up ρ H1 λb H2=>∃xs k,Mo H2 a xs/\b=dI k/\0<=k/\xs.length<=sizeLine/\(Q (dL (xs.take k.toNat)) H2∨Q (.loc H2.length) (H2++[.list (xs.take k.toNat)]))):Ev B n (.Subscript value (.Slice ID (IC up) ID p) pos) ρ H Q:=by
 intro A env s μ W g I;refine vi (h.then g I λa H1 μ1 W1 ca s1 h1 I1 x1 r1=>?_);refine ai (h1.then g I1 λb H2 μ2 W2 cb s2 h2 I2 x2 r2=>?_);refine uy h2 λxs k hl k_ hk u_ q=>?_;obtain rfl:=k_;refine ko ca (hl.list I2 (r1.ext I1 x2):_) λl items t rs=>gc cb (Rp.int_inv r2:_) λtk=>?_;have e:items.size=xs.length:=by have:=rs.length;simpa using this
 exact(uz l items _ _ rfl t (by refine ah _ e ?_;exact u_) .none (.int k tk) (.then I x1 (.then I1 x2 (.slice I2 (Ox rs hk) q))))
theorem y8 {lo:Expr} (h:Ev B n value ρ H λa H1=>Ev B n lo ρ H1 λb H2=>∃xs k,Mo H2 a xs/\b=dI k/\0<=k/\xs.length<=sizeLine/\(Q (dL (xs.drop k.toNat)) H2∨Q (.loc H2.length) (H2++[.list (xs.drop k.toNat)]))):Ev B n (.Subscript value (.Slice (IC lo) ID ID p) pos) ρ H Q:=by
 intro A env s μ W g I;refine vi (h.then g I λa H1 μ1 W1 ca s1 h1 I1 x1 r1=>?_);refine h1.then g I1 λb H2 μ2 W2 cb s2 h2 I2 x2 r2=>ai ?_;refine uy h2 λxs k hl s_ hk u_ q=>?_;obtain rfl:=s_;refine ko ca (hl.list I2 (r1.ext I1 x2):_) λl items t rs=>gc cb (Rp.int_inv r2:_) λtk=>?_;have e:items.size=xs.length:=by have:=rs.length;simpa using this
 exact(uz l items _ _ rfl t (by refine ah _ e ?_;exact u_) (.int k tk) .none (.then I x1 (.then I1 x2 (.slice I2 (Du rs hk) q))))
theorem ph (h:fK k n=IC j):j<n/\(0<=k->j=k.toNat):=by
 unfold fK at h;by_cases hk:k<0
 ·simp only[hk,if_true]at h
  split at h
  ·rename_i z
   simp only[eM,decide_eq_true_eq]at z;cases h;exact Xm z
  ·exact ft h
 ·simp only[hk,if_false]at h
  split at h
  ·rename_i z
   simp only[eM,decide_eq_true_eq]at z;cases h;exact Xl z
  ·exact ft h
theorem uM {t:Tok} {v:Value} {Q:Unit->aD->Prop} (hl:s.heap.PlainList l items)
 (h1:-(2^63)<=k) (h2:k<2^63) (hj:fK k items.size=IC j) (hQ:∀h',h'.PlainList l (items.setIfInBounds j v)->bN l s.heap h'->Q () {s with heap:=h'}):
 aC (bX prog w) A (setItem (.ref l) (.int k t) v) Q E s:=by
 refine bm (id hl:_) λne ho=>?_;have hT:=hl.isList.typeIs;have hjs:j<items.size:=(ph hj).1;have hx:items[j]?=IC items[j]:=bq hjs;have fin:∀A',aC (bX prog w) A' (setSeqItemAt l j v) (λZ s'=>Q () s') E s:=λA'=>by
  refine wpAny_setSeqItemAt ho rfl ?_;exact hQ _ ⟨ne,by refine ah _ (bT _ ho rfl ..) ?_;simp[dw]⟩ (.update ..)
 unfold setItem
 try with_reducible refine aV ?_
 first|refine aa (ai ?_)|skip
 refine aa (wpAny_sequenceKey hT rfl ?_);refine aa (cR (name:=am "__setitem__") hT slot_list_setitem
  (cS slot_list_setitem hT entry_list_setitem ?_ (args_list_setitem _ _ _)))
 show aC _ _ (Builtin.List.listSubscript? (.int k t)>>=_) _ _ s;by_cases h0:k<0
 ·refine aa (wpAny_listSubscript_int (fitsIndex_neg h0 h1) ?_);clear h1 h2;obtain⟨i,rfl⟩:∃i:Nat,k=Int.negSucc i:=by
   cases k with
   |ofNat n=>exact absurd h0 (Int.not_lt.mpr (dJ n))
   |negSucc n=>exact⟨n,rfl⟩
  show aC _ _ ((Builtin.List.listItems (.ref l)>>=λxs=>pure ((fK (Int.negSucc i) xs.size).bind λi=>xs[i]?.map (i,·)))>>=_) _ _ s;refine aa (aa ?_);show aC _ _ (nm (.ref l)>>=_) _ _ s;refine aa (cm ho rfl (ai (ai ?_)));refine ah _ hj ?_;simp only[Option.bind_some,hx,Option.map_some];refine aa (aM (fin _) (λZ s' q=>?_) λZ Z e=>e)
  first
   |exact aa (ai (ai (aN .none rfl (ai q))))
   |exact ai (aN .none rfl (ai q))
 ·refine aa (wpAny_listSubscript_int (fitsIndex_of (Int.not_lt.mp h0) h2) ?_);clear h1 h2;refine bm (Cb (Int.not_lt.mp h0):_) λi IY=>?_;obtain rfl:=IY;have ej:j=i:=(ph hj).2 (Int.not_lt.mp h0);subst ej;show aC _ _ ((seqItemAt l j>>=λr=>pure (r.map (j,·)))>>=_) _ _ s;refine aa (aa (wpAny_seqItemAt ho rfl (ai ?_)));refine ah _ hx ?_;show aC _ _ (setSeqItemAt l j v>>=_) _ _ s;refine aa (aM (fin _) (λZ s' q=>?_) λZ Z e=>e)
  first
   |exact aa (ai (ai (aN .none rfl (ai q))))
   |exact ai (aN .none rfl (ai q))
noncomputable def Aq (kvs:List (Str×PyData)) (k:Str) (d:PyData):List (Str×PyData):=
 if kvs.any (λkv=>kv.1=k)then kvs.map (λkv=>if kv.1=k then(kv.1,d)else kv)else kvs++[(k,d)]
theorem y9 {k:Str} {d:PyData} {cvs:List (Str×Value)} {kvs:List (Str×PyData)} (rd:Rp W h c d) (e:cvs.map (·.1)=kvs.map (·.1)) (r:n_ W h (cvs.map (·.2)) (kvs.map (·.2))):
 (ny cvs k c).map (·.1)=(Aq kvs k d).map (·.1)/\n_ W h ((ny cvs k c).map (·.2)) ((Aq kvs k d).map (·.2)):=by
 refine ee (C6 (k:=k) rd e r:_) λh1 h2 h3=>?_;unfold ny Aq;refine ah _ h1 ?_
 split
 ·exact⟨h2,h3⟩
 ·(refine ah _ (aT ..) ?_;refine ah _ (aT ..) ?_;refine ah _ (aT ..) ?_;refine ah _ (aT ..) ?_;refine ah _ e ?_)
  exact⟨rfl,r.append (.cons rd .nil)⟩
inductive Ma (H:List a_):V->V->PyData->Nat->a_->Prop
 |lst {i xs k j d:_}:H[i]?=IC (.list xs)->-(2^63)<=k->k<2^63->fK k xs.length=IC j->Ma H (.loc i) (dI k) d i (.list (xs.set j d))
 |m_ {i kvs k d:_}:H[i]?=IC (.m_ kvs)->kvs.length<=sizeLine->Ma H (.loc i) (dI k) d i (.m_ (jV kvs k d))
 |IJ {i kvs x d:_}:H[i]?=IC (.IJ kvs)->kvs.length<=sizeLine->Ma H (.loc i) (dS x) d i (.IJ (Aq kvs x d))
theorem Ma.sound {a b:V} {d:PyData} {ca cb cd:Value} (z:Ma H a b d i ao) (I:Inv B env ρ H μ W s) (ra:l_ B μ W s.heap a ca) (rb:l_ B μ W s.heap b cb) (rd:Rp W s.heap cd d)
 {R:Unit->aD->Prop} (q:∀s',Inv B env ρ (H.set i ao) μ W s'->Ext [] μ W s μ W s'->R () s'):aC B.M A (setItem ca cb cd) R (λZ Z=>False) s:=by
 revert ra rb rd q
 induction z with
 |@lst i xs k j d hi h1 h2 hj=>
  intro ra rb rd q;refine fX ca ra λl hl=>gc cb (Rp.int_inv rb:_) λt=>aG (I.objs _ _ _ hl hi:_) λitems p rs=>?_;have hm:=an hl;have e:items.size=xs.length:=by have:=rs.length;simpa using this
  refine uM p h1 h2 (j:=j) (by refine ah _ e ?_;exact hj) λh' p' IH=>?_;refine bh (I.upd hl s.toks IH (ao:=.list (xs.set j d)) (aN _ p' (by refine ah _ (wj ..) ?_;exact(rs.at I hm IH).set (Rp.at' I hm IH rd))):_) λI' x'=>?_;exact q _ I' x'
 |@m_ i kvs k d hi u_=>
  intro ra rb rd q;refine fX ca ra λl hl=>gc cb (Rp.int_inv rb:_) λt=>cP (I.objs _ _ _ hl hi:_) λcvs dd e rs=>?_;have hm:=an hl;have hlen:cvs.length=kvs.length:=by have:=congrArg mL e;simpa using this
  refine wpAny_setItem_pairs (knd:=intKind B.prog B.w) (k:=k) (uF B.prog B.w k t) dd (λh' d' IH=>?_) (by refine ah _ hlen ?_;exact u_);exact bh (pD (k:=k) (Rp.at' I hm IH rd) e (rs.at I hm IH):_) λq1 q2=>bh (I.upd hl (s.toks+1) IH (ao:=.m_ (jV kvs k d)) (bA _ d' q1 q2):_) λI' x'=>q _ I' x'
 |@IJ i kvs x d hi u_=>
  intro ra rb rd q;refine fX ca ra λl hl=>gc cb (Rp.str_inv rb:_) λt=>cP (I.objs _ _ _ hl hi:_) λcvs dd e rs=>?_;have hm:=an hl;have hlen:cvs.length=kvs.length:=by have:=congrArg mL e;simpa using this
  refine wpAny_setItem_pairs (knd:=kg B.prog B.w) (k:=x) (strKind_is B.prog B.w x t) dd (λh' d' IH=>?_) (by refine ah _ hlen ?_;exact u_);exact bh (y9 (k:=x) (Rp.at' I hm IH rd) e (rs.at I hm IH):_) λq1 q2=>bh (I.upd hl (s.toks+1) IH (ao:=.IJ (Aq kvs x d)) (bA _ d' q1 q2):_) λI' x'=>q _ I' x'
theorem Vw {i:Expr} {d:PyData} {Q:fF->List a_->Prop} (h:Ev B n o ρ H λa H1=>Ev B n i ρ H1 λb H2=>∃k ao,Ma H2 a b d k ao/\Q ρ (H2.set k ao)):As B n (.Subscript o i pos) ρ H (.dat d) Q:=by
 intro A env s μ W c g I r;refine ah _ (arm_assign_Subscript ..) (aa (aV (h.then g I λa H1 μ1 W1 ca s1 h1 I1 x1 r1=>aa (aV (h1.then g I1 λb H2 μ2 W2 cb s2 h2 I2 x2 r2=>aa (bw (aa (aV ?_))))))));refine gV h2 λk ao z q=>?_;have Js:=x1.trans x2 I.o_ (λZ h=>de h);exact z.sound I2 (r1.ext I1 x2) r2 (l_.ext (v:=.dat d) I Js r) λs3 I3 x3=>wpAny_release (aI ρ _ μ2 W2 q I3 ((Js.trans x3 I.o_ λZ h=>de h).Jw))
variable {R:List (Value×Value)->aD->Prop} {ks vs:List Expr} {xs:List Str}
theorem si:dictDisplay []=(do let d←alloc {cls:=.type "dict",data:=.dict #[]};pure (.ref d)):=rfl
theorem Pk (q:Q (.loc H.length) (H++[.m_ []])):Ev B n (.Dict [] [] pos) ρ H Q:=by
 intro A env s μ W g I;refine ah _ (arm_eval_Dict ..) (aa (bw ?_));show aC B.M A (dictDisplay []) _ _ s;exact ah _ (si ..) (aa (zX (ai (.new (ao:=.m_ []) I rfl s.toks (bA ([]) (my _) rfl .nil) q))))
theorem Inv.adopt (I:Inv B env ρ H μ W s) (hD:D∈W) (hm:D∉μ) (ho:D∉own env) (r:Jq B (μ++[D]) W s.heap D ao):Inv B env ρ (H++[ao]) (μ++[D]) W s where
 same:=I.same
 old:=I.old
 IE:=I.IE
 alive:=I.alive
 o_:=λa h=>(List.mem_append.mp h).elim (I.o_ a) λz=>List.mem_singleton.mp z▸hD
 IM:=by
  rw[fT];exact⟨I.IM,by simp,λa h1 b h2=>by refine ah _ (List.mem_singleton.mp h2 ..) ?_;rintro rfl;exact hm h1⟩
 len:=by simp[I.len]
 objs:=by
  intro i a x h1 h2;by_cases hi:i<μ.length
  ·rw[b8 hi]at h1;rw[b8 (by refine ah _ (I.len ..).symm ?_;exact hi)]at h2;exact(I.objs i a x h1 h2).mono (λZ Z Z e=>e) (λZ e=>e) (λZ a b=>absurd a b) ⟨_,rfl⟩
  ·have LO:i=μ.length:=by
    have:=(List.getElem?_eq_some_iff.mp h1).1;simp at this;exact lr this hi
   subst LO;rw[bt (aq _)]at h1;rw[I.len,bt (aq _)]at h2;simp at h1 h2;subst h1 h2;exact r
 q_:={I.q_ with
  Jv:=λz=>(List.mem_append.mp z).elim I.q_.Jv λq=>ho (List.mem_singleton.mp q▸ae)
  cells:=λn a Mf=>kn (I.q_.cells n a Mf:_) λp q r oc=>(fv p (λz=>(List.mem_append.mp z).elim q λw=>ho (List.mem_singleton.mp w▸ag _ (aO (f:=(·.2)) Mf))) r oc)}
 nd:=I.nd
 vars:=λx ov hx=>(I.vars x ov hx).mono (λZ Z Z e=>e) (λZ a b=>absurd a b) ⟨_,rfl⟩ (λZ e=>e) (λZ Z Z e=>e)
noncomputable def Yk (B:Bs) (n:Nat):List Expr->fF->List a_->(List PyData->List a_->Prop)->Prop
 |[],_,H,Q=>Q [] H
 |e::es,ρ,H,Q=>Ev B n e ρ H λv H1=>∃d,v=.dat d/\Yk B n es ρ H1 λds H2=>Q (d::ds) H2
def SK (xs:List Str):List Expr->Prop:=xs.rec (motive:=λ_=>List Expr->Prop) (λks=>ks=[]) λx _ ih ks=>∃kd p us,ks=.Constant (.str x) kd p::us/\ih us
theorem Dv (pos:FL) (g:Good n A) {Q:List PyData->List a_->Prop} (hk:SK xs ks) (hl:ks.length=vs.length) (hE:Yk B n vs ρ H Q) (I:Inv B env ρ H μ W s) (hD:D∈W) (hm:D∉μ)
 (q:∀ds cs TN H' μ' W' s',Q ds H'->Inv B env ρ H' μ' W' s'->Ext [] μ W s μ' W' s'->D∉μ'->Carries (kg B.prog B.w) TN (xs.zip cs)->cs.length=xs.length->n_ W' s'.heap cs ds->R TN s'):
  aC B.M A (evalPairs ((ks.zip vs).map λp=>(dq p.1 env,do let x←dq p.2 env;lb pos;pure x))) R (λZ Z=>False) s:=by
  induction xs generalizing ks vs Q H μ W s R with
  |nil=>
   cases(show ks=[]from hk)
   cases vs with
   |nil=>exact evalPairs_nil (q [] [] [] H μ W s hE I .refl hm trivial rfl .nil)
   |cons=>nomatch hl
  |cons x xs ih=>cases vs with
   |nil=>exact fR ks hk (λkd p us MH hl=>nomatch hl) hl
   |cons v vs=>
    revert hl;refine fR ks hk λkd p ks MH hl=>?_;have P8:ks.length=vs.length:=G8 hl
    (refine ah _ (rF ..) ?_;refine ah _ (e9 ..) ?_)
    refine evalPairs_cons (FM ?_);have I0:=I.tok (s.toks+1);refine aa (Ev.then (s:={s with toks:=s.toks+1}) hE g I0 λu H1 μ1 W1 cu s1 h1 I1 x1 r1=>aa (bw (ai ?_)));refine aG h1 λd j_ hE2=>?_;obtain rfl:=j_;have XJ:Ext [] μ W s μ1 W1 s1:=⟨x1.keep,x1.pre,x1.sub,x1.fresh,x1.IW⟩;have NC:D∉μ1:=λz=>by
     by_cases hz:D∈μ
     ·exact hm hz
     ·exact(x1.IW _ z hz).1 hD
    exact ih MH P8 hE2 I1 (x1.sub _ hD) NC λds cs TN H2 μ2 W2 s2 hq I2 x2 KL hc hlen rs=>q (d::ds) (cu::cs) _ H2 μ2 W2 s2 hq I2 (XJ.trans x2 I.o_ λZ h=>nomatch h) KL ⟨strKind_is B.prog B.w x s.toks,rfl,hc⟩ (congrArg _ (by assumption)) (.cons (l_.ext (v:=.dat d) I1 x2 r1) rs)
theorem wk {K:Type} [DecidableEq K] (kvs acc:List (K×Value)) (hn:((acc++kvs).map (·.1)).Nodup):merged acc kvs=acc++kvs:=by
 induction kvs generalizing acc with
 |nil=>exact(dh acc).symm
 |cons p r ih=>
  have h1:(acc.any λkv=>kv.1=p.1)=false:=List.any_eq_false.mpr λx hx q=>by
   rw[aT,fT]at hn;exact hn.2.2 x.1 (aO hx) p.1 ae (of_decide_eq_true q)
  show merged (ny acc p.1 p.2) r=_;rw[show ny acc p.1 p.2=acc++[p]from if_neg (by refine ah _ h1 ?_;exact aA),ih _ ((List.append_cons acc p r).symm▸hn)];exact(List.append_cons acc p r).symm
theorem Sc (hk:SK xs ks) (hl:ks.length=vs.length) (h0:ks≠[]) (hlen:ks.length<=15) (hn:xs.Nodup)
 (h:Yk B n vs ρ H λds H1=>Q (.loc H1.length) (H1++[.IJ (xs.zip ds)])):Ev B n (.Dict (ks.map IC) vs pos) ρ H Q:=by
 intro A env s μ W g I;have hD:s.heap.objs.size∉W:=I.out (aq _);have Ig:=I.ghost (o:={cls:=.type "dict",data:=.dict #[]}) rfl s.toks;have MI:s.heap.objs.size∉own env:=λz=>hD (I.J9 _ z);have Zp:∀(ks vs:List Expr),ks.length=vs.length->(evalEachOpt (ks.map IC) env).zip ((evalEach vs env).map λv=>do let x←v;lb pos;pure x)=((ks.zip vs).map λp=>(dq p.1 env,do let x←dq p.2 env;lb pos;pure x)).map λp=>(IC p.1,p.2):=by
  intro ks
  induction ks with
  |nil=>intro vs _;rfl
  |cons k ks ih=>
   intro vs hl
   cases vs with
   |nil=>rfl
   |cons v vs=>
    have:=ih vs (G8 hl);simp only[e9,rF];show(evalOpt (IC k) env,_)::_=_;refine ah _ this.symm ?_
    rfl
 refine wpAny_Dict_pairs (knd:=kg B.prog B.w) (Zp ks vs hl) (by cases ks<;>cases vs<;>simp_all) (by simp;exact WQ hlen) ?_;refine Dv (D:=s.heap.objs.size) pos g hk hl h Ig ae (λz=>hD (I.o_ _ z)) λds cs TN H1 μ1 W1 s1 q I1 x1 NC hc T0 rs=>?_;have V3:s1.heap.DictOf (kg B.prog B.w) s.heap.objs.size []:=DictOf.at (my (knd:=kg B.prog B.w) s.heap) λo e=>x1.keep _ o (by simpa using λz=>hD (I.o_ _ z)) e;refine(bA _ hc V3 (λh' d' IH=>?_));have kk:∀b o,b∉[s.heap.objs.size]->s1.heap.get? b=IC o->h'.get? b=IC o:=λb o hb e=>(IH.2 b (λh=>hb (h▸.head _))).trans e;have S8:s.heap.objs.size∈W1:=x1.sub _ ae;have kW:hV W1 s1.heap h':=λb o hb e=>kk b o (λq=>hb (by cases List.mem_singleton.mp q;exact S8)) e;have I2:Inv B env ρ H1 μ1 W1 {s1 with heap:=h',toks:=s1.toks+TN.length}:=I1.go [s.heap.objs.size] (cY _ _ rfl) kk (λb hb=>by
  cases List.mem_singleton.mp hb;exact(fv S8 NC (λq=>MI (q▸ae)) (λq=>MI (ag _ q)))) (λZ h=>h) (λZ a b=>absurd a b) (λZ a b=>absurd a b) (λb hb hx=>hx.elim (λz=>by
   cases List.mem_singleton.mp z;refine pt d' λo Z Z e Z=>?_;exact⟨o,e⟩) λz=>absurd hb z)
 have Nz:(xs.zip cs).map (·.1)=xs:=List.map_fst_zip (bd (id (kI T0)));rw[wk (xs.zip cs) [] (by simpa [Nz]using hn),List.nil_append]at d';have SZ:ds.length=cs.length:=rs.length.symm;have r':Jq B (μ1++[s.heap.objs.size]) W1 h' s.heap.objs.size (.IJ (xs.zip ds)):=(bA (xs.zip cs) d' (by(refine ah _ Nz ?_;refine ah _ (List.map_fst_zip (Qn T0 SZ) ..) rfl)) (by
  (refine ah _ (ut (bd T0) ..) ?_;refine ah _ (ut (Wd T0 SZ) ..) ?_);exact rs.mono kW (λZ a b=>absurd a b)))
 have I3:=I2.adopt S8 NC MI r';have Ku:s.heap.get? s.heap.objs.size=none:=bQ (aq _);refine⟨.loc H1.length,_,_,_,q,I3,⟨λb o hb e=>?_,x1.pre.trans ⟨_,rfl⟩,λa h=>x1.sub a (ag _ h),λa h1 h2=>?_,λa h1 h2=>?_⟩,s.heap.objs.size,by refine ah _ (I1.len ..).symm ?_;exact fi,rfl⟩
 ·refine kk b o (λz=>by cases List.mem_singleton.mp z;rw[Ku]at e;exact ft e) (x1.keep b o hb (b9 _ _ _ e))
 ·by_cases hz:a∈s.heap.objs.size::W
  ·rcases List.mem_cons.mp hz with rfl|z
   ·exact Ku
   ·exact absurd z h2
  ·have:=x1.fresh a h1 hz
   cases e:s.heap.get? a with
   |none=>rfl
   |some o=>rw[show(s.heap.push {cls:=.type "dict",data:=.dict #[]}).get? a=IC o from b9 _ _ _ e]at this;exact v8 this
 ·rcases List.mem_append.mp h1 with z|z
  ·refine bh (x1.IW a z h2:_) λe1 e2=>⟨λq=>e1 (ag _ q),?_⟩
   cases e:s.heap.get? a with
   |none=>rfl
   |some o=>rw[show(s.heap.push {cls:=.type "dict",data:=.dict #[]}).get? a=IC o from b9 _ _ _ e]at e2;exact v8 e2
  ·cases List.mem_singleton.mp z;exact⟨hD,Ku⟩
variable {b:Bool} {f:Expr->(List Stmt)->(List Stmt)->Bool} {vals:List (Option V)} {es:List Expr} {k:List PyData->Prop} {Q':List V->List a_->Prop} {o:Option V} {P:Prop} {v:PyData} {σ:lJ} {x:Str} {a:V}
noncomputable def lY (f:BoolOp->(List Expr)->Bool) (e:Expr):Bool:=if h:e.ctorIdx=0 then Ar (motive_1:=λZ=>Bool) e h (λop vs Z=>f op vs)else false
theorem ll {f:BoolOp->(List Expr)->Bool} (h:lY f e=true):∃op vs p,e=Expr.BoolOp op vs p/\f op vs=true:=by
 by_cases hc:e.ctorIdx=0
 ·exact Ar (motive_1:=λe=>lY f e=true->∃op vs p,e=Expr.BoolOp op vs p/\f op vs=true) e hc (λop vs p h=>(t4 op vs p rfl h)) h
 ·exact absurd ((dif_neg hc).symm.trans h) (by decide)
noncomputable def sI (f:Expr->Dg->Expr->Bool) (e:Expr):Bool:=if h:e.ctorIdx=2 then Dw (motive_1:=λZ=>Bool) e h (λl op r Z=>f l op r)else false
theorem tj {f:Expr->Dg->Expr->Bool} (h:sI f e=true):∃l op r p,e=Expr.BinOp l op r p/\f l op r=true:=by
 by_cases hc:e.ctorIdx=2
 ·exact Dw (motive_1:=λe=>sI f e=true->∃l op r p,e=Expr.BinOp l op r p/\f l op r=true) e hc (λl op r p h=>(rW l op r p rfl h)) h
 ·exact absurd ((dif_neg hc).symm.trans h) (by decide)
noncomputable def lZ (f:UnaryOp->Expr->Bool) (e:Expr):Bool:=if h:e.ctorIdx=3 then ya (motive_1:=λZ=>Bool) e h (λop x Z=>f op x)else false
theorem mN {f:UnaryOp->Expr->Bool} (h:lZ f e=true):∃op x p,e=Expr.UnaryOp op x p/\f op x=true:=by
 by_cases hc:e.ctorIdx=3
 ·exact ya (motive_1:=λe=>lZ f e=true->∃op x p,e=Expr.UnaryOp op x p/\f op x=true) e hc (λop x p h=>(t4 op x p rfl h)) h
 ·exact absurd ((dif_neg hc).symm.trans h) (by decide)
noncomputable def wl (f:Expr->Expr->Expr->Bool) (e:Expr):Bool:=if h:e.ctorIdx=5 then Dx (motive_1:=λZ=>Bool) e h (λt a b Z=>f t a b)else false
theorem At {f:Expr->Expr->Expr->Bool} (h:wl f e=true):∃t a b p,e=Expr.IfExp t a b p/\f t a b=true:=by
 by_cases hc:e.ctorIdx=5
 ·exact Dx (motive_1:=λe=>wl f e=true->∃t a b p,e=Expr.IfExp t a b p/\f t a b=true) e hc (λt a b p h=>(rW t a b p rfl h)) h
 ·exact absurd ((dif_neg hc).symm.trans h) (by decide)
noncomputable def wm (f:(List (Option Expr))->(List Expr)->Bool) (e:Expr):Bool:=if h:e.ctorIdx=6 then G9 (motive_1:=λZ=>Bool) e h (λks vs Z=>f ks vs)else false
theorem vk {f:(List (Option Expr))->(List Expr)->Bool} (h:wm f e=true):∃ks vs p,e=Expr.Dict ks vs p/\f ks vs=true:=by
 by_cases hc:e.ctorIdx=6
 ·exact G9 (motive_1:=λe=>wm f e=true->∃ks vs p,e=Expr.Dict ks vs p/\f ks vs=true) e hc (λks vs p h=>(t4 ks vs p rfl h)) h
 ·exact absurd ((dif_neg hc).symm.trans h) (by decide)
noncomputable def mO (f:Expr->(List jw)->pA->Bool) (e:Expr):Bool:=if h:e.ctorIdx=8 then wn (motive_1:=λZ=>Bool) e h (λelt gs sc Z=>f elt gs sc)else false
theorem pi {f:Expr->(List jw)->pA->Bool} (h:mO f e=true):∃elt gs sc p,e=Expr.ListComp elt gs sc p/\f elt gs sc=true:=by
 by_cases hc:e.ctorIdx=8
 ·exact wn (motive_1:=λe=>mO f e=true->∃elt gs sc p,e=Expr.ListComp elt gs sc p/\f elt gs sc=true) e hc (λelt gs sc p h=>(rW elt gs sc p rfl h)) h
 ·exact absurd ((dif_neg hc).symm.trans h) (by decide)
noncomputable def mP (f:Expr->Expr->(List jw)->pA->Bool) (e:Expr):Bool:=if h:e.ctorIdx=10 then wq (motive_1:=λZ=>Bool) e h (λk v gs sc Z=>f k v gs sc)else false
theorem pj {f:Expr->Expr->(List jw)->pA->Bool} (h:mP f e=true):∃k v gs sc p,e=Expr.DictComp k v gs sc p/\f k v gs sc=true:=by
 by_cases hc:e.ctorIdx=10
 ·exact wq (motive_1:=λe=>mP f e=true->∃k v gs sc p,e=Expr.DictComp k v gs sc p/\f k v gs sc=true) e hc (λk v gs sc p h=>(Dc k v gs sc p rfl h)) h
 ·exact absurd ((dif_neg hc).symm.trans h) (by decide)
noncomputable def m6 (f:Expr->(List zW)->(List Expr)->Bool) (e:Expr):Bool:=if h:e.ctorIdx=15 then yb (motive_1:=λZ=>Bool) e h (λl ops rs Z=>f l ops rs)else false
theorem mQ {f:Expr->(List zW)->(List Expr)->Bool} (h:m6 f e=true):∃l ops rs p,e=Expr.Compare l ops rs p/\f l ops rs=true:=by
 by_cases hc:e.ctorIdx=15
 ·exact yb (motive_1:=λe=>m6 f e=true->∃l ops rs p,e=Expr.Compare l ops rs p/\f l ops rs=true) e hc (λl ops rs p h=>(rW l ops rs p rfl h)) h
 ·exact absurd ((dif_neg hc).symm.trans h) (by decide)
noncomputable def jg (f:Expr->(List Expr)->(List jB)->Bool) (e:Expr):Bool:=if h:e.ctorIdx=16 then tm (motive_1:=λZ=>Bool) e h (λfn args Jx Z=>f fn args Jx)else false
theorem fu {f:Expr->(List Expr)->(List jB)->Bool} (h:jg f e=true):∃fn args Jx p,e=Expr.Call fn args Jx p/\f fn args Jx=true:=by
 by_cases hc:e.ctorIdx=16
 ·exact tm (motive_1:=λe=>jg f e=true->∃fn args Jx p,e=Expr.Call fn args Jx p/\f fn args Jx=true) e hc (λfn args Jx p h=>(rW fn args Jx p rfl h)) h
 ·exact absurd ((dif_neg hc).symm.trans h) (by decide)
noncomputable def iO (f:Const->Nat->Bool) (e:Expr):Bool:=if h:e.ctorIdx=19 then wt (motive_1:=λZ=>Bool) e h (λc k Z=>f c k)else false
theorem iE {f:Const->Nat->Bool} (h:iO f e=true):∃c k p,e=Expr.Constant c k p/\f c k=true:=by
 by_cases hc:e.ctorIdx=19
 ·exact wt (motive_1:=λe=>iO f e=true->∃c k p,e=Expr.Constant c k p/\f c k=true) e hc (λc k p h=>(t4 c k p rfl h)) h
 ·exact absurd ((dif_neg hc).symm.trans h) (by decide)
noncomputable def gh (f:Expr->Str->Bool) (e:Expr):Bool:=if h:e.ctorIdx=20 then nq (motive_1:=λZ=>Bool) e h (λo x Z=>f o x)else false
theorem g9 {f:Expr->Str->Bool} (h:gh f e=true):∃o x p,e=Expr.Attribute o x p/\f o x=true:=by
 by_cases hc:e.ctorIdx=20
 ·exact nq (motive_1:=λe=>gh f e=true->∃o x p,e=Expr.Attribute o x p/\f o x=true) e hc (λo x p h=>(t4 o x p rfl h)) h
 ·exact absurd ((dif_neg hc).symm.trans h) (by decide)
noncomputable def eJ (f:Expr->Expr->Bool) (e:Expr):Bool:=if h:e.ctorIdx=21 then uN (motive_1:=λZ=>Bool) e h (λo i Z=>f o i)else false
theorem dQ {f:Expr->Expr->Bool} (h:eJ f e=true):∃o i p,e=Expr.Subscript o i p/\f o i=true:=by
 by_cases hc:e.ctorIdx=21
 ·exact uN (motive_1:=λe=>eJ f e=true->∃o i p,e=Expr.Subscript o i p/\f o i=true) e hc (λo i p h=>(t4 o i p rfl h)) h
 ·exact absurd ((dif_neg hc).symm.trans h) (by decide)
noncomputable def kM (f:Str->Bool) (e:Expr):Bool:=if h:e.ctorIdx=23 then hZ (motive_1:=λZ=>Bool) e h (λx Z=>f x)else false
theorem d0 {f:Str->Bool} (h:kM f e=true):∃x p,e=Af x p/\f x=true:=by
 by_cases hc:e.ctorIdx=23
 ·exact hZ (motive_1:=λe=>kM f e=true->∃x p,e=Af x p/\f x=true) e hc (λx p h=>(ie x p rfl h)) h
 ·exact absurd ((dif_neg hc).symm.trans h) (by decide)
noncomputable def wu (f:(List Expr)->Bool) (e:Expr):Bool:=if h:e.ctorIdx=24 then Ga (motive_1:=λZ=>Bool) e h (λes Z=>f es)else false
theorem vm {f:(List Expr)->Bool} (h:wu f e=true):∃es p,e=Expr.List es p/\f es=true:=by
 by_cases hc:e.ctorIdx=24
 ·exact Ga (motive_1:=λe=>wu f e=true->∃es p,e=Expr.List es p/\f es=true) e hc (λes p h=>(ie es p rfl h)) h
 ·exact absurd ((dif_neg hc).symm.trans h) (by decide)
noncomputable def jh (f:(List Expr)->Nat->Bool) (e:Expr):Bool:=if h:e.ctorIdx=25 then rG (motive_1:=λZ=>Bool) e h (λes k Z=>f es k)else false
theorem i5 {f:(List Expr)->Nat->Bool} (h:jh f e=true):∃es k p,e=Expr.Tuple es k p/\f es k=true:=by
 by_cases hc:e.ctorIdx=25
 ·exact rG (motive_1:=λe=>jh f e=true->∃es k p,e=Expr.Tuple es k p/\f es k=true) e hc (λes k p h=>(t4 es k p rfl h)) h
 ·exact absurd ((dif_neg hc).symm.trans h) (by decide)
noncomputable def qi (f:(Option Expr)->(Option Expr)->(Option Expr)->Bool) (e:Expr):Bool:=if h:e.ctorIdx=26 then Dy (motive_1:=λZ=>Bool) e h (λlo up st Z=>f lo up st)else false
theorem pF {f:(Option Expr)->(Option Expr)->(Option Expr)->Bool} (h:qi f e=true):∃lo up st p,e=Expr.Slice lo up st p/\f lo up st=true:=by
 by_cases hc:e.ctorIdx=26
 ·exact Dy (motive_1:=λe=>qi f e=true->∃lo up st p,e=Expr.Slice lo up st p/\f lo up st=true) e hc (λlo up st p h=>(rW lo up st p rfl h)) h
 ·exact absurd ((dif_neg hc).symm.trans h) (by decide)
noncomputable def oH (f:(Option Expr)->Bool) (e:Stmt):Bool:=if h:e.ctorIdx=3 then Au (motive_2:=λZ=>Bool) e h (λv Z=>f v)else false
theorem qj {f:(Option Expr)->Bool} {e:Stmt} (h:oH f e=true):∃v p,e=Stmt.Return v p/\f v=true:=by
 by_cases hc:e.ctorIdx=3
 ·exact Au (motive_2:=λe=>oH f e=true->∃v p,e=Stmt.Return v p/\f v=true) e hc (λv p h=>(ie v p rfl h)) h
 ·exact absurd ((dif_neg hc).symm.trans h) (by decide)
noncomputable def j4 (f:(List Expr)->Expr->Bool) (e:Stmt):Bool:=if h:e.ctorIdx=5 then Av (motive_2:=λZ=>Bool) e h (λts v Z=>f ts v)else false
theorem ii {f:(List Expr)->Expr->Bool} {e:Stmt} (h:j4 f e=true):∃ts v p,e=Stmt.Assign ts v p/\f ts v=true:=by
 by_cases hc:e.ctorIdx=5
 ·exact Av (motive_2:=λe=>j4 f e=true->∃ts v p,e=Stmt.Assign ts v p/\f ts v=true) e hc (λts v p h=>(t4 ts v p rfl h)) h
 ·exact absurd ((dif_neg hc).symm.trans h) (by decide)
noncomputable def Aw (f:Expr->Expr->(List Stmt)->(List Stmt)->Bool) (e:Stmt):Bool:=if h:e.ctorIdx=9 then Stmt.For.elim (motive_2:=λZ=>Bool) e h (λt it body Lo Z=>f t it body Lo)else false
theorem Dz {f:Expr->Expr->(List Stmt)->(List Stmt)->Bool} {e:Stmt} (h:Aw f e=true):∃t it body Lo p,e=Stmt.For t it body Lo p/\f t it body Lo=true:=by
 by_cases hc:e.ctorIdx=9
 ·exact Stmt.For.elim (motive_2:=λe=>Aw f e=true->∃t it body Lo p,e=Stmt.For t it body Lo p/\f t it body Lo=true) e hc (λt it body Lo p h=>(Dc t it body Lo p rfl h)) h
 ·exact absurd ((dif_neg hc).symm.trans h) (by decide)
noncomputable def to (f:Expr->(List Stmt)->(List Stmt)->Bool) (e:Stmt):Bool:=if h:e.ctorIdx=11 then DA (motive_2:=λZ=>Bool) e h (λt body Lo Z=>f t body Lo)else false
theorem yc {e:Stmt} (h:to f e=true):∃t body Lo p,e=Stmt.While t body Lo p/\f t body Lo=true:=by
 by_cases hc:e.ctorIdx=11
 ·exact DA (motive_2:=λe=>to f e=true->∃t body Lo p,e=Stmt.While t body Lo p/\f t body Lo=true) e hc (λt body Lo p h=>(rW t body Lo p rfl h)) h
 ·exact absurd ((dif_neg hc).symm.trans h) (by decide)
noncomputable def Cc (f:Expr->(List Stmt)->(List Stmt)->Bool) (e:Stmt):Bool:=if h:e.ctorIdx=12 then Stmt.If.elim (motive_2:=λZ=>Bool) e h (λt a b Z=>f t a b)else false
theorem yd {e:Stmt} (h:Cc f e=true):∃t a b p,e=Stmt.If t a b p/\f t a b=true:=by
 by_cases hc:e.ctorIdx=12
 ·exact Stmt.If.elim (motive_2:=λe=>Cc f e=true->∃t a b p,e=Stmt.If t a b p/\f t a b=true) e hc (λt a b p h=>(rW t a b p rfl h)) h
 ·exact absurd ((dif_neg hc).symm.trans h) (by decide)
noncomputable def sJ (f:Expr->Bool) (e:Stmt):Bool:=if h:e.ctorIdx=24 then Gb (motive_2:=λZ=>Bool) e h (λv Z=>f v)else false
theorem tq {f:Expr->Bool} {e:Stmt} (h:sJ f e=true):∃v p,e=Stmt.Expr v p/\f v=true:=by
 by_cases hc:e.ctorIdx=24
 ·exact Gb (motive_2:=λe=>sJ f e=true->∃v p,e=Stmt.Expr v p/\f v=true) e hc (λv p h=>(ie v p rfl h)) h
 ·exact absurd ((dif_neg hc).symm.trans h) (by decide)
noncomputable def Ze:List Nat->List Nat->Bool
 |[],[]=>true
 |a::as,b::bs=>dp a b&&Ze as bs
 |_,_=>false
theorem ay {a:Bool} (h:(a&&b)=true):a=true:=(Bool.and_eq_true_iff.mp h).1
theorem au {a:Bool} (h:(a&&b)=true):b=true:=(Bool.and_eq_true_iff.mp h).2
theorem Gc:∀{as bs:List Nat},Ze as bs=true->as=bs
 |[],[],_=>rfl
 |a::as,b::bs,h=>congr (congrArg List.cons (cz (ay h))) (Gc (au h))
noncomputable def ga (a b:Str):Bool:=Ze a.cps.toList b.cps.toList
set_option tactic.hygienic true in
theorem eK {a b:Str} (h:ga a b=true):a=b:=by
 cases a;cases b;rename_i x y;cases x;cases y;cases Gc h;rfl
def aW {α:Type} (o:Option α) (k:α->Prop):Prop:=o.elim False k
theorem ew {o:Option α} {k:α->Prop} (h:aW o k):∃a,o=IC a/\k a:=by
 cases o with
 |none=>exact h.elim
 |some a=>exact(aN a rfl h)
noncomputable def jx {α:Type} (o:Option α) (k:α->Bool):Bool:=o.elim false k
theorem jF {o:Option α} {k:α->Prop} (h:aW o k) (f:∀a,o=IC a->k a->P):P:=(ew h).elim λa h=>f a h.1 h.2
theorem kB {o:Option α} {k:α->Bool} (h:jx o k=true):∃a,o=IC a/\k a=true:=by
 cases o with
 |none=>exact fP h
 |some a=>exact(aN a rfl h)
structure lJ where
 slots:List (Str×Kd)
 Jo:List (Str×Value)
noncomputable def ye:List (Str×Kd)->List (Option V)->fF
 |(x,k)::s,o::vs=>(x,k,o)::ye s vs
 |_,_=>[]
noncomputable def gls (g:List (Str×Value)):fF:=g.map λg=>(g.1,Kd.glob,IC (V.raw g.2))
noncomputable def jc (σ:lJ) (vals:List (Option V)):fF:=ye σ.slots vals++gls σ.Jo
noncomputable def Ge (k:Kd):Bool:=iP k.ctorIdx 1
theorem uO {o:Option α} {k:α->Bool} (h:jx o k=true) (f:∀a,o=IC a->k a=true->P):P:=(kB h).elim λa h=>f a h.1 h.2
theorem yf {k:Kd} (h:Ge k=true):k≠.glob/\k≠.sup:=by cases k<;>first|exact absurd h (by decide)|exact⟨nofun,nofun⟩
noncomputable def nZ (σ:lJ) (i:Nat) (x:Str):Bool:=jx σ.slots[i]? λp=>ga x p.1&&Ge p.2
theorem kC (h:nZ σ i x=true):∃k,σ.slots[i]?=IC (x,k)/\k≠.glob/\k≠.sup:=by
 refine uO h λf_ e h=>?_;obtain⟨y,k⟩:=f_;cases eK (ay h);exact(aN k e (yf (au h)))
theorem ji {k:Kd}:∀(sl:List (Str×Kd)) {vals:List (Option V)} {i:Nat},sl[i]?=IC (x,k)->vals[i]?=IC o->(x,k,o)∈ye sl vals:=by
 intro sl
 induction sl with
 |nil=>intro vals i h1;exact ft h1
 |cons p sl ih=>
  intro vals i h1 h2
  cases vals with
  |nil=>exact ft h2
  |cons w vals=>
   cases i with
   |zero=>cases h1;cases h2;exact ae
   |succ i=>exact ag _ (ih h1 h2)
theorem o8 {k:Kd} {v:V} {r:fF} (hk:k≠.glob/\k≠.sup):∀(sl:List (Str×Kd)) {vals:List (Option V)} {i:Nat},sl[i]?=IC (x,k)->vals[i]?=IC o->Lb (ye sl vals++r) x v (ye sl (vals.set i (IC v))++r):=by
 intro sl
 induction sl with
 |nil=>intro vals i h1;exact ft h1
 |cons p sl ih=>
  intro vals i h1 h2
  cases vals with
  |nil=>exact ft h2
  |cons w vals=>
   cases i with
   |zero=>cases h1;exact .here hk
   |succ i=>exact .there (ih h1 h2)
noncomputable def qZ:Str:="__debug__"
noncomputable def Gf (g:List (Str×Value)) (x:Str) (c:Value):Bool:=g.any λp=>ga x p.1&&p.2==c
theorem Cd {g:List (Str×Value)} (h:Gf g x c=true):(x,c)∈g:=by
 refine aG (List.any_eq_true.mp h:_) λk_ hm h=>?_;obtain⟨y,d⟩:=k_;cases eK (ay h);cases eq_of_beq (au h);exact hm
noncomputable def LK:List Str:=["domains","firsts","trail","marks","news","speaker","is_failed","clash"]
noncomputable def La:List Str:=["number","scope","strength","rows","able","columns"]
noncomputable def OH:List (Addr×Str×Addr):=[(311,"new_var",182),(311,"size",189),(311,"dom",196),(311,"initial",203),(311,"low",210),(311,"high",217),(311,"has",224),(311,"width",245),(311,"enter",259),(311,"strike",266),(311,"decide",273),(311,"fail",280),(311,"push",287),(311,"pop",294),(427,"is_one",395),(427,"propagate",414),(427,"is_left",419),(427,"why_none",424)]
structure sK (B:Bs):Prop where
 glob:∀g,g∈gtab∨g∈biS++Fu->xQ B g.1 g.2
 callee:∀g∈gtab,Callee B g.2
 plainS:nW B 311
 plainT:nW B 427
 Qk:∀x∈LK,y0 B 311 x
 Qj:∀x∈La,y0 B 427 x
 Ud:∀t∈OH,SD B t.1 t.2.1 t.2.2
structure PE where
 t_:lJ->Expr->Bool
 wp:Bs->Nat->List (Option V)->List a_->(V->List a_->Prop)->Prop
 sound:∀{σ:lJ} {e:Expr},t_ σ e=true->∀{B:Bs} {n:Nat} {vals:List (Option V)} {H:List a_} {Q:V->List a_->Prop},sK B->wp B n vals H Q->Ev B n e (jc σ vals) H Q
noncomputable def xv:PE:=⟨λZ e=>iO (λc Z=>c==.none) e,λZ Z Z H Q=>Q dN H,by
 intro σ e h B n vals H Q ok q;replace h:=iE h;refine fR e h λc k p hc=>?_;cases eq_of_beq hc;exact Ev.none q⟩
noncomputable def fW (b:Bool):PE:=⟨λZ e=>iO (λc Z=>c==.bool b) e,λZ Z Z H Q=>Q (dB b) H,by
 intro σ e h B n vals H Q ok q;replace h:=iE h;refine fR e h λc k p hc=>?_;cases eq_of_beq hc;exact Ev.bool q⟩
noncomputable abbrev SH:PE:=fW true
noncomputable def gb (b:Int):PE:=⟨λZ e=>iO (λc Z=>c==.int b) e,λZ Z Z H Q=>Q (dI b) H,by
 intro σ e h B n vals H Q ok q;replace h:=iE h;refine fR e h λc k p hc=>?_;cases eq_of_beq hc;exact Ev.int q⟩
noncomputable abbrev lK:PE:=gb 1
noncomputable abbrev Fo:PE:=gb 0
noncomputable abbrev SI:PE:=gb 2
noncomputable abbrev XI:PE:=gb 10
noncomputable abbrev Tm:PE:=gb 6
noncomputable abbrev Yw:PE:=gb 25
noncomputable abbrev Ai_:PE:=gb 3
noncomputable def eA (b:Str):PE:=⟨λZ e=>iO (λc Z=>c==.str b) e,λZ Z Z H Q=>Q (dS b) H,by
 intro σ e h B n vals H Q ok q;replace h:=iE h;refine fR e h λc k p hc=>?_;cases eq_of_beq hc;exact Ev.str q⟩
def QK (vals:List (Option V)) (i:Nat) (Q:V->Prop):Prop:=aW vals[i]? λo=>aW o Q
theorem yg (h:(!ga x qZ)=true):(x==("__debug__":Str))=false:=by
 cases hd:x==("__debug__":Str)with
 |false=>rfl
 |true=>cases eq_of_beq hd;exact absurd h (by decide+kernel)
theorem Ev.slot (h:(nZ σ i x&&!ga x qZ)=true) (q:QK vals i λv=>Q v H):Ev B n (.Name x pos) (jc σ vals) H Q:=by
 refine aG (kC (ay h):_) λk e hk=>jF q λo e2 q=>?_;refine jF q λv II q=>?_;obtain rfl:=II;exact Ev.name (yg (au h)) hk.2 (az _ (ji _ e e2)) q
noncomputable def cO (i:Nat):PE:=⟨λσ e=>kM (λx=>nZ σ i x&&!ga x qZ) e,λZ Z vals H Q=>QK vals i λv=>Q v H,by
 intro σ e h B n vals H Q ok q;replace h:=d0 h;refine jq e h λx p hc=>?_;exact Ev.slot hc q⟩
noncomputable abbrev cT:PE:=cO 1
noncomputable abbrev eG:PE:=cO 2
noncomputable abbrev eV:PE:=cO 0
noncomputable abbrev gv:PE:=cO 3
noncomputable abbrev mA:PE:=cO 6
noncomputable abbrev qN:PE:=cO 4
noncomputable abbrev sL:PE:=cO 5
noncomputable abbrev Qp:PE:=cO 7
noncomputable abbrev NN:PE:=cO 12
noncomputable abbrev PC:PE:=cO 10
noncomputable abbrev Tl:PE:=cO 13
noncomputable abbrev Yx:PE:=cO 20
noncomputable abbrev Yv:PE:=cO 21
noncomputable abbrev Yu:PE:=cO 24
noncomputable abbrev Yt:PE:=cO 27
noncomputable abbrev Am_:PE:=cO 14
noncomputable abbrev An_:PE:=cO 16
noncomputable abbrev Ao_:PE:=cO 18
noncomputable abbrev Ap_:PE:=cO 23
noncomputable abbrev Aq_:PE:=cO 19
noncomputable abbrev Ar_:PE:=cO 17
theorem Ev.glob (h:(Gf σ.Jo x c&&!ga x qZ)=true) (q:Q (.raw c) H):Ev B n (.Name x pos) (jc σ vals) H Q:=
 Ev.name (yg (au h)) (k:=.glob) nofun (aR _ (aO (f:=λg:Str×Value=>((g.1,Kd.glob,IC (V.raw g.2)):Str×Kd×Option V)) (Cd (ay h)))) q
noncomputable def asD:V->Option PyData
 |.dat d=>IC d
 |_=>.none
theorem Sv {v:V} {d:PyData} (h:asD v=IC d):v=.dat d:=by cases v<;>cases h;rfl
noncomputable def Sm:PyData->Option Int
 |.int i=>IC i
 |_=>.none
theorem Ce {d:Int} (h:Sm v=IC d):v=.int d:=by cases v<;>cases h;rfl
noncomputable def Gg:PyData->Option Bool
 |.bool i=>IC i
 |_=>.none
theorem yh {d:Bool} (h:Gg v=IC d):v=.bool d:=by cases v<;>cases h;rfl
noncomputable def Pm:PyData->Option (List PyData)
 |.tuple i=>IC i
 |_=>.none
theorem wv {d:List PyData} (h:Pm v=IC d):v=.tuple d:=by cases v<;>cases h;rfl
noncomputable def Sk:PyData->Option (List PyData)
 |.list i=>IC i
 |_=>.none
theorem Cf {d:List PyData} (h:Sk v=IC d):v=.list d:=by cases v<;>cases h;rfl
def m7 (k:PyData->Prop) (v:V):Prop:=aW (asD v) k
theorem df {k:PyData->Prop} (h:m7 k a):∃i,a=.dat i/\k i:=by
 refine jF h λd e h=>?_;exact(aN d (Sv e) h)
def jW (k:Int->Prop) (v:V):Prop:=m7 (λd=>aW (Sm d) k) v
theorem cG {k:Int->Prop} (h:jW k a):∃i,a=dI i/\k i:=by
 refine cX a (df h:_) λd h=>?_;refine jF h λi e h=>?_;cases Ce e;exact(aN i rfl h)
def qk (k:Bool->Prop) (v:V):Prop:=m7 (λd=>aW (Gg d) k) v
theorem mR {k:Bool->Prop} (h:qk k a):∃i,a=dB i/\k i:=by
 refine cX a (df h:_) λd h=>?_;refine jF h λi e h=>?_;cases yh e;exact(aN i rfl h)
def Ax (k:List PyData->Prop) (v:V):Prop:=m7 (λd=>aW (Pm d) k) v
theorem kD (h:Ax k a):∃i,a=dT i/\k i:=by
 refine cX a (df h:_) λd h=>?_;refine jF h λi e h=>?_;cases wv e;exact(aN i rfl h)
def Gh (k:List PyData->Prop) (v:V):Prop:=m7 (λd=>aW (Sk d) k) v
theorem oI (h:Gh k a):∃i,a=dL i/\k i:=by
 refine cX a (df h:_) λd h=>?_;refine jF h λi e h=>?_;cases Cf e;exact(aN i rfl h)
structure MC where
 op:Dg
 go:Int->Int->(Int->Prop)->Prop
 ok:∀{i j k},go i j k->∃r,Nr op (dI i) (dI j) (dI r)/\k r
noncomputable def MC.add:MC:=⟨.Add,λi j k=>k (i+j),λh=>(aN _ .add h)⟩
noncomputable def MC.sub:MC:=⟨.Sub,λi j k=>k (i - j),λh=>(aN _ .sub h)⟩
noncomputable def MC.mul:MC:=⟨.Mult,λi j k=>Dh i j/\k (i*j),λh=>(aN _ (.mul h.1) h.2)⟩
noncomputable def MC.mod:MC:=⟨.Mod,λi j k=>j≠0/\k (i.fmod j),λh=>(aN _ (.mod h.1) h.2)⟩
noncomputable def MC.div:MC:=⟨.FloorDiv,λi j k=>(j≠0/\eS i j=false)/\k (i.fdiv j),λh=>(aN _ (.div h.1.1 h.1.2) h.2)⟩
noncomputable def MC.pow:MC:=⟨.Pow,λi j k=>(0<=j/\(jS i:Int)*j<=2^27)/\k (i^j.toNat),λh=>(aN _ (.pow h.1.1 h.1.2) h.2)⟩
noncomputable def bK (o:MC) (a b:PE):PE:=⟨λσ e=>sI (λl op r=>op==o.op&&(a.t_ σ l&&b.t_ σ r)) e,λB n vals H Q=>a.wp B n vals H λva H1=>b.wp B n vals H1 λvb H2=>jW (λi=>jW (λj=>o.go i j λr=>Q (dI r) H2) vb) va,by
 intro σ e h B n vals H Q ok q;replace h:=tj h;refine mC e h λl op r p hc=>?_;cases eq_of_beq (ay hc);refine Ev.bin ((a.sound (ay (au hc)) ok q).mono λva H1 h1=>(b.sound (au (au hc)) ok h1).mono λvb H2 h2=>?_);exact cX va (cG h2:_) λi h3=>cX vb (cG h3:_) λj h4=>aG (o.ok h4:_) λr z q=>(aN _ z q)⟩
noncomputable def D0 (a b:PE):PE:=⟨λσ e=>sI (λl op r=>op==.Add&&(a.t_ σ l&&b.t_ σ r)) e,λB n vals H Q=>a.wp B n vals H λva H1=>b.wp B n vals H1 λvb H2=>Ax (λi=>Ax (λj=>i.length+j.length<=sizeLine/\Q (dT (i++j)) H2) vb) va,by
 intro σ e h B n vals H Q ok q;replace h:=tj h;refine mC e h λl op r p hc=>?_;cases eq_of_beq (ay hc);refine Ev.bin ((a.sound (ay (au hc)) ok q).mono λva H1 h1=>(b.sound (au (au hc)) ok h1).mono λvb H2 h2=>?_);exact cX va (kD h2:_) λi h3=>cX vb (kD h3:_) λj h4=>(aN _ (.tup h4.1) h4.2)⟩
noncomputable def rB (a:PE):PE:=⟨λσ e=>lZ (λop x=>op==.USub&&a.t_ σ x) e,λB n vals H Q=>a.wp B n vals H λva H1=>jW (λi=>Q (dI (-i)) H1) va,by
 intro σ e h B n vals H Q ok q;replace h:=mN h;refine fR e h λop x p hc=>?_;cases eq_of_beq (ay hc);exact Ev.neg ((a.sound (au hc) ok q).mono λva H1 h1=>cG h1)⟩
noncomputable def m8:List PE->Bs->Nat->List (Option V)->List a_->(List V->List a_->Prop)->Prop
 |[],_,_,_,H,Q=>Q [] H
 |e::es,B,n,vals,H,Q=>e.wp B n vals H λv H1=>m8 es B n vals H1 λvs H2=>Q (v::vs) H2
noncomputable def oa (e:Expr):Bool:=!kdsPlain e
noncomputable def gA (σ:lJ):List PE->List Expr->Bool
 |[],[]=>true
 |p::ps,e::es=>!oa e&&(p.t_ σ e&&gA σ ps es)
 |_,_=>false
theorem og (h:(!oa e)=true) (hs:fb es=true):fb (e::es)=true:=by
 (rw[fb];refine ah _ (List.all_cons ..) ?_;refine ah _ ((Bool.not_not _).symm.trans h ..) ?_);exact hs
theorem ij (h:(!oa e)=true):∀env,cJ (e::es) env=(false,dq e env)::cJ es env:=by
 intro env;cases e<;>first|rfl|exact fP h
theorem iQ:∀(ps:List PE) {es:List Expr},gA σ ps es=true->fb es=true:=by
 intro ps
 induction ps with
 |nil=>intro es h;cases es with
  |nil=>rfl
  |cons=>exact fP h
 |cons p ps ih=>intro es h;cases es with
  |nil=>exact fP h
  |cons e es=>exact og (ay h) (ih (au (au h)))
theorem Ks.mono {Q:List V->List a_->Prop} (h:Ks B n es ρ H Q) (hq:∀v H',Q v H'->Q' v H'):Ks B n es ρ H Q':=
 λA env s μ W pos g I=>aM (h A env s μ W pos g I) (λZ Z IV=>by refine rV IV λv H' μ' W' q r=>?_;exact(rW v H' μ' W' (hq _ _ q) r)) λZ Z e=>e
theorem gC (ok:sK B):∀(ps:List PE) {es:List Expr} {H:List a_} {Q:List V->List a_->Prop},gA σ ps es=true->m8 ps B n vals H Q->Ks B n es (jc σ vals) H λvs H1=>vs.length=ps.length/\Q vs H1:=by
 intro ps
 induction ps with
 |nil=>intro es H Q h q;cases es with
  |nil=>exact .nil ⟨rfl,q⟩
  |cons=>exact fP h
 |cons p ps ih=>intro es H Q h q;cases es with
  |nil=>exact fP h
  |cons e es=>exact Ks.cons ((p.sound (ay (au h)) ok q).mono λv H1 h1=>(ih (au (au h)) h1).mono λvs H2 h2=>⟨congrArg (·+1) h2.1,h2.2⟩) (ij (ay h))
noncomputable def yi (k:List PyData->Prop):List V->Prop
 |[]=>k []
 |v::vs=>m7 (λd=>yi (λds=>k (d::ds)) vs) v
theorem Ay:∀{vs:List V} {k:List PyData->Prop},yi k vs->∃ds:List PyData,vs=ds.map V.dat/\k ds:=by
 intro vs
 induction vs with
 |nil=>intro k h;exact(aN ([]) rfl h)
 |cons v vs ih=>intro k h;refine cX v (df h:_) λd h=>?_;refine cX vs (ih h:_) λds q=>?_;exact(aN (d::ds) rfl q)
theorem tr (h:iP m 100=true):m<=sizeLine:=ab (ak h) (by decide)
theorem tv (ok:sK B) {ps:List PE} {Q:List PyData->List a_->Prop} (h:(iP ps.length 100&&gA σ ps es)=true) (q:m8 ps B n vals H λvs H1=>yi (λds=>Q ds H1) vs):
 Ks B n es (jc σ vals) H λvs H1=>∃ds:List PyData,vs=ds.map V.dat/\ds.length<=sizeLine/\Q ds H1:=(gC ok _ (au h) q).mono λvs H1 h1=>by
 refine bh h1 λhl h1=>?_;refine aG (Ay h1:_) λds LX q=>?_;obtain rfl:=LX;exact(bA ds rfl ((af (as:=ds) V.dat)▸hl▸tr (ay h)) q)
noncomputable def ci (ps:List PE):PE:=⟨λσ e=>jh (λes Z=>iP ps.length 100&&gA σ ps es) e,λB n vals H Q=>m8 ps B n vals H λvs H1=>yi (λds=>Q (dT ds) H1) vs,by
 intro σ e h B n vals H Q ok q;replace h:=i5 h;exact fR e h λes k p hc=>Ev.tuple (tv ok hc q)⟩
noncomputable def dU (ps:List PE):PE:=⟨λσ e=>wu (λes=>iP ps.length 100&&gA σ ps es) e,λB n vals H Q=>m8 ps B n vals H λvs H1=>yi (λds=>Q (dL ds) H1) vs,by
 intro σ e h B n vals H Q ok q;replace h:=vm h;exact jq e h λes p hc=>Ev.list (tv ok hc q)⟩
noncomputable abbrev Fp:PE:=dU []
theorem ez {l:List α} (h:l.isEmpty=true):l=[]:=List.isEmpty_iff.mp h
noncomputable def fh:PE:=⟨λσ e=>wu (λes=>es.isEmpty) e,λB n vals H Q=>Q (.loc H.length) (H++[.list []]),by
 intro σ e h B n vals H Q ok q;replace h:=vm h;refine jq e h λes p hc=>?_;cases ez hc;exact Ev.Ly (.nil (bA ([]) rfl (aL _) q))⟩
noncomputable def uj:PE:=⟨λσ e=>wm (λks vs=>ks.isEmpty&&vs.isEmpty) e,λB n vals H Q=>Q (.loc H.length) (H++[.m_ []]),by
 intro σ e h B n vals H Q ok q;replace h:=vk h;refine fR e h λks vs p hc=>?_;cases ez (ay hc);cases ez (au hc);exact Pk q⟩
variable {v:a_} {o:K8} {l:Expr} {ops:List zW} {rs:List Expr} {k:Nat->List PyData->Prop} {a:PE} {p q:Prop}
noncomputable def ch:a_->Option (List PyData)
 |.list xs=>IC xs
 |_=>.none
theorem m9 {d:List PyData} (h:ch v=IC d):v=.list d:=by cases v<;>cases h;rfl
noncomputable def bc:a_->Option (List (Str×V))
 |.inst xs=>IC xs
 |_=>.none
theorem DB {d:List (Str×V)} (h:bc v=IC d):v=.inst d:=by cases v<;>cases h;rfl
noncomputable def jj:a_->Option (List (Str×PyData))
 |.IJ xs=>IC xs
 |_=>.none
theorem tw {d:List (Str×PyData)} (h:jj v=IC d):v=.IJ d:=by cases v<;>cases h;rfl
noncomputable def sM:a_->Option (List (Int×PyData))
 |.m_ xs=>IC xs
 |_=>.none
theorem Az {d:List (Int×PyData)} (h:sM v=IC d):v=.m_ d:=by cases v<;>cases h;rfl
noncomputable def yj:V->Option Nat
 |.loc i=>IC i
 |_=>.none
theorem ql {v:V} {d:Nat} (h:yj v=IC d):v=.loc d:=by cases v<;>cases h;rfl
noncomputable def Gi:V->Option (Nat×Nat)
 |.inst C i=>IC (C,i)
 |_=>.none
theorem yk {v:V} {d:Nat×Nat} (h:Gi v=IC d):v=.inst d.1 d.2:=by cases v<;>cases h;rfl
noncomputable def fdOf:V->Option (List (Int×PyData))
 |.m_ i=>IC i
 |_=>.none
theorem Cg {v:V} {d:List (Int×PyData)} (h:fdOf v=IC d):v=.m_ d:=by cases v<;>cases h;rfl
noncomputable def TT:PyData->Option Str
 |.str i=>IC i
 |_=>.none
theorem Oe {v:PyData} {d:Str} (h:TT v=IC d):v=.str d:=by cases v<;>cases h;rfl
def Gj (k:Str->Prop) (v:V):Prop:=m7 (λd=>aW (TT d) k) v
theorem oJ {k:Str->Prop} {a:V} (h:Gj k a):∃i,a=dS i/\k i:=by
 refine cX a (df h:_) λd h1=>?_;refine jF h1 λi e h2=>?_;cases Oe e;exact(aN i rfl h2)
noncomputable def QU:PyData->Option (List PyData)
 |.list i=>IC i
 |.tuple i=>IC i
 |_=>.none
noncomputable def gT (H:List a_):V->Option (List PyData)
 |.dat d=>QU d
 |.Jz xs=>IC xs
 |.loc i=>H[i]?.bind ch
 |_=>.none
theorem bind_some {o:Option α} {f:α->Option β} {b:β} (h:o.bind f=IC b):∃a,o=IC a/\f a=IC b:=by
 cases o with
 |none=>exact ft h
 |some a=>exact(aN a rfl h)
theorem sj {o:Option α} {f:α->Option β} {b:β} (h:o.bind f=IC b) (k:∀a,o=IC a->f a=IC b->P):P:=(bind_some h).elim λa h=>k a h.1 h.2
theorem kN {v:V} {xs:List PyData} (h:gT H v=IC xs):Mo H v xs∨v=dT xs:=by
 cases v with
 |dat d=>cases d<;>cases h;exact .inl .dat;exact .inr rfl
 |loc i=>refine sj h λo e1 e2=>?_;cases m9 e2;exact .inl (.loc e1)
 |Jz ys=>cases h;exact .inl .base
 |_=>exact ft h
def tx (H:List a_) (k:Nat->List PyData->Prop) (v:V):Prop:=aW (yj v) λi=>aW (H[i]?.bind ch) λxs=>k i xs
theorem gD {v:V} (h:tx H k v):∃i xs,v=.loc i/\H[i]?=IC (.list xs)/\k i xs:=by
 refine jF h λi e h1=>?_;cases ql e;refine jF h1 λxs e2 h2=>sj e2 λo e3 e4=>?_;cases m9 e4;exact(eu i xs rfl e3 h2)
def j7 (b:Bool) (p q:Prop):Prop:=b.rec q p
theorem cr (h1:b=true->p) (h2:b=false->q):j7 b p q:=by
 cases b
 ·exact h2 rfl
 ·exact h1 rfl
structure K8 where
 op:zW
 go:List a_->V->V->(Bool->Prop)->Prop
 ok:∀{H a b k},go H a b k->∃r,Kt H op a b r/\k r
noncomputable def DC (op:zW) (f:Int->Int->Bool) (ok:∀{H i j},Kt H op (dI i) (dI j) (f i j)):K8:=⟨op,λZ a b k=>jW (λi=>jW (λj=>k (f i j)) b) a,λh=>by
 refine aG (cG h:_) λi k_ h1=>?_;obtain rfl:=k_;refine aG (cG h1:_) λj j_ h2=>?_;obtain rfl:=j_;exact(aN _ ok h2)⟩
noncomputable def pR:K8:=DC .Lt (λi j=>decide (i<j)) .lt
noncomputable def n9:K8:=DC .LtE (λi j=>decide (i<=j)) .le
noncomputable def pS:K8:=DC .Gt (λi j=>decide (j<i)) .gt
noncomputable def xw:K8:=DC .GtE (λi j=>decide (j<=i)) .ge
noncomputable def jK:K8:=DC .Eq (λi j=>decide (i=j)) .eqi
noncomputable def qF:K8:=DC .NotEq (λi j=>!decide (i=j)) .nei
noncomputable def Vr (op:zW) (f:PyData->PyData->Bool) (ok:∀{H x y},dA x=true->dA y=true->Kt H op (.dat x) (.dat y) (f x y)):K8:=⟨op,λZ a b k=>m7 (λi=>m7 (λj=>(dA i=true/\dA j=true)/\k (f i j)) b) a,λh=>by
 refine aG (df h:_) λi p_ h1=>?_;obtain rfl:=p_;refine aG (df h1:_) λj s_ h2=>?_;obtain rfl:=s_;exact(aN _ (ok h2.1.1 h2.1.2) h2.2)⟩
noncomputable def dW:K8:=Vr .Eq aQ .eq
noncomputable def dX:K8:=Vr .NotEq (λx y=>!aQ x y) .ne
noncomputable def sX:K8:=⟨.Eq,λZ a b k=>Gj (λi=>Gj (λj=>k (i==j)) b) a,λh=>by
 refine aG (oJ h:_) λi C_ h1=>?_;obtain rfl:=C_;refine aG (oJ h1:_) λj II h2=>?_;obtain rfl:=II;exact(aN _ .eqs h2)⟩
noncomputable def K8.XN:K8:=⟨.NotEq,λH a b k=>tx H (λZ xs=>m7 (λy=>(dA (.list xs)=true/\dA y=true)/\k (!aQ (.list xs) y)) b) a,λh=>by
 refine hU (gD h:_) λi xs JY e h1=>?_;obtain rfl:=JY;refine aG (df h1:_) λj Ji h2=>?_;obtain rfl:=Ji;exact(aN _ (.XN e h2.1.1 h2.1.2) h2.2)⟩
noncomputable def D4:K8:=⟨.In,λZ a b k=>m7 (λx=>Ax (λys=>(eT ys=true/\x.canLay0=true/\x.depth<=64)/\k (ys.any λy=>aQ y x)) b) a,λh=>by
 refine aG (df h:_) λi JE h1=>?_;obtain rfl:=JE;refine aG (kD h1:_) λj JX h2=>?_;obtain rfl:=JX;exact(aN _ (.inT h2.1.1 h2.1.2.1 h2.1.2.2) h2.2)⟩
noncomputable def K8.XO:K8:=⟨.In,λH a b k=>m7 (λx=>tx H (λZ ys=>(eT ys=true/\x.canLay0=true/\x.depth<=64)/\k (ys.any λy=>aQ y x)) b) a,λh=>by
 refine aG (df h:_) λi JD h1=>?_;obtain rfl:=JD;refine hU (gD h1:_) λj xs KE e h2=>?_;obtain rfl:=KE;exact(aN _ (.XO e h2.1.1 h2.1.2.1 h2.1.2.2) h2.2)⟩
noncomputable def Fg:K8:=⟨.NotIn,λZ a b k=>jW (λi=>aW (fdOf b) λkvs=>k (!(iq kvs i).isSome)) a,λh=>by
 refine aG (cG h:_) λi LY h1=>?_;obtain rfl:=LY;refine jF h1 λj e h2=>?_;cases Cg e;exact(aN _ .PQ h2)⟩
noncomputable def SW:PyData->Option Bool
 |.none=>IC true
 |.tuple _=>IC false
 |_=>.none
noncomputable def K8.SW:K8:=⟨.Is,λZ a b k=>m7 (λi=>aW (QD.SW i) λr=>m7 (λj=>j=.none/\k r) b) a,λh=>by
 refine aG (df h:_) λi Kp h1=>?_;obtain rfl:=Kp;refine jF h1 λr e h2=>?_;refine aG (df h2:_) λj Lc h3=>?_;obtain rfl:=Lc;cases h3.1;cases i<;>cases e
 ·exact(aN _ .SW h3.2)
 ·exact(aN _ .isT h3.2)⟩
noncomputable def AA (σ:lJ) (o:K8) (a b:PE) (l:Expr) (ops:List zW) (rs:List Expr):Bool:=match ops,rs with
 |[op],[r]=>op==o.op&&!la op r&&(a.t_ σ l&&b.t_ σ r)
 |_,_=>false
theorem vn {b:PE} (h:AA σ o a b l ops rs=true):∃r,ops=[o.op]/\rs=[r]/\la o.op r=false/\a.t_ σ l=true/\b.t_ σ r=true:=by
 cases ops with
 |nil=>exact fP h
 |cons op ops=>cases ops with
  |cons=>exact fP h
  |nil=>cases rs with
   |nil=>exact fP h
   |cons r rs=>cases rs with
    |cons=>exact fP h
    |nil=>
     have h1:=ay (ay h);cases eq_of_beq h1;exact(Aa r rfl rfl (by have:=au (ay h);rwa [jG]at this) (ay (au h)) (au (au h)))
theorem Gk {b:PE} {k:Bool->List a_->Prop} (ok:sK B) (hl:a.t_ σ l=true) (hr:b.t_ σ r=true) (q:a.wp B n vals H λva H1=>b.wp B n vals H1 λvb H2=>o.go H2 va vb λc=>k c H2):
 Ev B n l (jc σ vals) H λa H1=>Ev B n r (jc σ vals) H1 λb H2=>∃c,Kt H2 o.op a b c/\k c H2:=
 (a.sound hl ok q).mono λva H1 h1=>(b.sound hr ok h1).mono λvb H2 h2=>o.ok h2
noncomputable def gN (o:K8) (a b:PE):PE:=⟨λσ e=>m6 (AA σ o a b) e,λB n vals H Q=>a.wp B n vals H λva H1=>b.wp B n vals H1 λvb H2=>o.go H2 va vb λc=>Q (dB c) H2,by
 intro σ e h B n vals H Q ok q;replace h:=mQ h;refine mC e h λl ops rs p hc=>?_;replace hc:=vn hc;refine NS ops hc λr KD hm h1 h2=>?_;obtain rfl:=KD;exact Ev.cmp (Gk (k:=λc H2=>Q (dB c) H2) ok h1 h2 q) hm⟩
structure PT where
 t_:lJ->Expr->Bool
 wp:Bs->Nat->List (Option V)->List a_->(Bool->List a_->Prop)->Prop
 sound:∀{σ:lJ} {e:Expr},t_ σ e=true->∀{B:Bs} {n:Nat} {vals:List (Option V)} {H:List a_} {Q:Bool->List a_->Prop},sK B->wp B n vals H Q->Tr B n e (jc σ vals) H Q
noncomputable def bo (o:K8) (a b:PE):PT:=⟨λσ e=>m6 (AA σ o a b) e,λB n vals H Q=>a.wp B n vals H λva H1=>b.wp B n vals H1 λvb H2=>o.go H2 va vb λc=>Q c H2,by
 intro σ e h B n vals H Q ok q;replace h:=mQ h;refine mC e h λl ops rs p hc=>?_;replace hc:=vn hc;refine NS ops hc λr LV hm h1 h2=>?_;obtain rfl:=LV;exact Tr.cmp (Gk (k:=Q) ok h1 h2 q) hm⟩
noncomputable abbrev Yo:PT:=bo sX eG (eA "<=")
noncomputable abbrev Yn:PT:=bo sX eG (eA ">=")
noncomputable abbrev Bj_:PT:=bo jK (bK .mod (bK .div gv (bK .pow SI cT)) SI) lK
noncomputable abbrev Bp_:PT:=bo sX eG (eA "=")
noncomputable def Ch (σ:lJ) (o1 o2:K8) (a b c:PE) (l:Expr) (ops:List zW) (rs:List Expr):Bool:=match ops,rs with
 |[SQ,Rc],[r1,r2]=>SQ==o1.op&&Rc==o2.op&&!la Rc r2&&(a.t_ σ l&&(b.t_ σ r1&&c.t_ σ r2))
 |_,_=>false
theorem AB {o1 o2:K8} {b c:PE} (h:Ch σ o1 o2 a b c l ops rs=true):∃r1 r2,ops=[o1.op,o2.op]/\rs=[r1,r2]/\la o2.op r2=false/\a.t_ σ l=true/\b.t_ σ r1=true/\c.t_ σ r2=true:=by
 rcases ops with _|⟨SQ,_|⟨Rc,_|⟨_,_⟩⟩⟩
 ·exact fP h
 ·exact fP h
 ·rcases rs with _|⟨r1,_|⟨r2,_|⟨_,_⟩⟩⟩
  ·exact fP h
  ·exact fP h
  ·have h1:=ay (ay (ay h));have h2:=au (ay (ay h));cases eq_of_beq h1;cases eq_of_beq h2;exact(sZ r1 r2 rfl rfl (by have:=au (ay h);rwa [jG]at this) (ay (au h)) (ay (au (au h))) (au (au (au h))))
  ·exact fP h
 ·exact fP h
noncomputable def PT.Sq (o1 o2:K8) (a b c:PE):PT:=⟨λσ e=>m6 (Ch σ o1 o2 a b c) e,λB n vals H Q=>a.wp B n vals H λva H1=>b.wp B n vals H1 λvb H2=>o1.go H2 va vb λr=>j7 r (c.wp B n vals H2 λvc H3=>o2.go H3 vb vc λr'=>Q r' H3) (Q false H2),by
 intro σ e h B n vals H Q ok q;replace h:=mQ h;refine mC e h λl ops rs p hc=>?_;replace hc:=AB hc;refine Ad ops hc λr1 r2 ML hm h1 h2 h3=>?_;obtain rfl:=ML;refine Tr.Sq ((a.sound h1 ok q).mono λva H1 k1=>(b.sound h2 ok k1).mono λvb H2 k2=>?_) hm;refine aG (o1.ok k2:_) λr z k3=>(aN r z ?_)
 cases r with
 |true=>exact(c.sound h3 ok k3).mono λvc H3 k4=>o2.ok k4
 |false=>exact k3⟩
noncomputable def isVal (e:Expr):Bool:=dp e.ctorIdx 16||dp e.ctorIdx 23
theorem Gl (h:isVal e=true):∀env,oX e env (dq e env)=(do let v←dq e env;lb e.pos;iG [v] (truthy v)):=by
 rcases Bool.or_eq_true_iff.mp h with h|h
 ·exact tm (motive_1:=λe=>∀env,oX e env (dq e env)=(do let v←dq e env;lb e.pos;iG [v] (truthy v))) e (cz h) λZ Z Z Z Z=>rfl
 ·exact hZ (motive_1:=λe=>∀env,oX e env (dq e env)=(do let v←dq e env;lb e.pos;iG [v] (truthy v))) e (cz h) λZ Z Z=>rfl
noncomputable def fO (a:PE):PT:=⟨λσ e=>isVal e&&a.t_ σ e,λB n vals H Q=>a.wp B n vals H λva H1=>qk (λb=>Q b H1) va,by
 intro σ e h B n vals H Q ok q;exact Tr.val ((a.sound (au h) ok q).mono λva H1 h1=>mR h1) (Gl (ay h))⟩
noncomputable def gq (a:PT):PT:=⟨λσ e=>lZ (λop x=>op==.Not&&a.t_ σ x) e,λB n vals H Q=>a.wp B n vals H λb H1=>Q (!b) H1,by
 intro σ e h B n vals H Q ok q;replace h:=mN h;refine fR e h λop x p hc=>?_;cases eq_of_beq (ay hc);exact Tr.not (a.sound (au hc) ok q)⟩
noncomputable def Gm (σ:lJ):List PT->List Expr->Bool
 |[],[]=>true
 |p::ps,e::es=>p.t_ σ e&&Gm σ ps es
 |_,_=>false
noncomputable def Gn:List PT->Bs->Nat->List (Option V)->List a_->(Bool->List a_->Prop)->Prop
 |[],_,_,_,H,Q=>Q true H
 |t::ts,B,n,vals,H,Q=>t.wp B n vals H λb H1=>j7 b (Gn ts B n vals H1 Q) (Q false H1)
noncomputable def O4:List PT->Bs->Nat->List (Option V)->List a_->(Bool->List a_->Prop)->Prop
 |[],_,_,_,H,Q=>Q false H
 |t::ts,B,n,vals,H,Q=>t.wp B n vals H λb H1=>j7 b (Q true H1) (O4 ts B n vals H1 Q)
noncomputable def pT (ts:List PT):PT:=⟨λσ e=>lY (λop vs=>op==.And&&Gm σ ts vs) e,λB n vals H Q=>Gn ts B n vals H Q,by
 intro σ e h B n vals H Q ok q;replace h:=ll h;refine fR e h λop vs p hc=>?_;cases eq_of_beq (ay hc);have KN:=au hc;clear h hc
 induction ts generalizing vs H with
 |nil=>cases vs with
  |nil=>exact Tr.abj q
  |cons=>exact fP KN
 |cons t ts ih=>cases vs with
  |nil=>exact fP KN
  |cons v vs=>exact Tr.abi ((t.sound (ay KN) ok q).mono λb H1 h1=>by
   cases b
   ·exact h1
   ·exact ih h1 vs (au KN))⟩
noncomputable def qG (ts:List PT):PT:=⟨λσ e=>lY (λop vs=>op==.Or&&Gm σ ts vs) e,λB n vals H Q=>O4 ts B n vals H Q,by
 intro σ e h B n vals H Q ok q;replace h:=ll h;refine fR e h λop vs p hc=>?_;cases eq_of_beq (ay hc);have KN:=au hc;clear h hc
 induction ts generalizing vs H with
 |nil=>cases vs with
  |nil=>exact Tr.or0 q
  |cons=>exact fP KN
 |cons t ts ih=>cases vs with
  |nil=>exact fP KN
  |cons v vs=>exact Tr.or1 ((t.sound (ay KN) ok q).mono λb H1 h1=>by
   cases b
   ·exact ih h1 vs (au KN)
   ·exact h1)⟩
noncomputable def BR (a:PE):PE:=⟨λσ e=>lZ (λop x=>op==.Not&&a.t_ σ x) e,λB n vals H Q=>a.wp B n vals H λva H1=>qk (λb=>Q (dB (!b)) H1) va,by
 intro σ e h B n vals H Q ok q;replace h:=mN h;refine fR e h λop x p hc=>?_;cases eq_of_beq (ay hc);exact Ev.not ((a.sound (au hc) ok q).mono λva H1 h1=>mR h1)⟩
noncomputable def jR (t:PT) (a b:PE):PE:=⟨λσ e=>wl (λt' a' b'=>t.t_ σ t'&&(a.t_ σ a'&&b.t_ σ b')) e,λB n vals H Q=>t.wp B n vals H λc H1=>j7 c (a.wp B n vals H1 Q) (b.wp B n vals H1 Q),by
 intro σ e h B n vals H Q ok q;replace h:=At h;refine mC e h λt' a' b' p hc=>?_;exact Ev.Us ((t.sound (ay hc) ok q).mono λc H1 h1=>by
  cases c
  ·exact b.sound (au (au hc)) ok h1
  ·exact a.sound (ay (au hc)) ok h1)⟩
noncomputable def pG:List PE->Bs->Nat->List (Option V)->List a_->(V->List a_->Prop)->Prop
 |[],_,_,_,_,_=>False
 |[p],B,n,vals,H,Q=>p.wp B n vals H Q
 |p::ps,B,n,vals,H,Q=>p.wp B n vals H λv H1=>qk (λb=>j7 b (pG ps B n vals H1 Q) (Q (dB false) H1)) v
noncomputable def Go:List PE->Bs->Nat->List (Option V)->List a_->(V->List a_->Prop)->Prop
 |[],_,_,_,_,_=>False
 |[p],B,n,vals,H,Q=>p.wp B n vals H Q
 |p::ps,B,n,vals,H,Q=>p.wp B n vals H λv H1=>qk (λb=>j7 b (Q (dB true) H1) (Go ps B n vals H1 Q)) v
theorem vo (ok:sK B) (op:BoolOp):∀(ps:List PE) (vs:List Expr) (H:List a_),gA σ ps vs=true->(match op with|.And=>pG ps B n vals H Q|.Or=>Go ps B n vals H Q)->Ev B n (.BoolOp op vs pos) (jc σ vals) H Q:=by
 intro ps
 induction ps with
 |nil=>intro vs H h q;cases op<;>exact q.elim
 |cons p ps ih=>intro vs H h q;cases vs with
  |nil=>exact fP h
  |cons v vs=>
   have h1:=ay (au h);have h2:=au (au h)
   cases ps with
   |nil=>cases vs with
    |nil=>cases op<;>exact Ev.aaL (p.sound h1 ok q)
    |cons=>exact fP h2
   |cons p2 ps=>cases vs with
    |nil=>exact fP h2
    |cons v2 vs=>
     cases op with
     |And=>exact Ev.and ((p.sound h1 ok q).mono λva H1 k1=>by
      refine cX va (mR k1:_) λb k2=>(aN b rfl ?_);cases b
      ·exact k2
      ·exact ih _ _ h2 k2)
     |Or=>exact Ev.or ((p.sound h1 ok q).mono λva H1 k1=>by
      refine cX va (mR k1:_) λb k2=>(aN b rfl ?_);cases b
      ·exact ih _ _ h2 k2
      ·exact k2)
noncomputable def xy (ps:List PE):PE:=⟨λσ e=>lY (λop vs=>op==.And&&gA σ ps vs) e,λB n vals H Q=>pG ps B n vals H Q,by
 intro σ e h B n vals H Q ok q;replace h:=ll h;refine fR e h λop vs p hc=>?_;cases eq_of_beq (ay hc);exact vo ok .And ps vs H (au hc) q⟩
noncomputable def PE.or (ps:List PE):PE:=⟨λσ e=>lY (λop vs=>op==.Or&&gA σ ps vs) e,λB n vals H Q=>Go ps B n vals H Q,by
 intro σ e h B n vals H Q ok q;replace h:=ll h;refine fR e h λop vs p hc=>?_;cases eq_of_beq (ay hc);exact vo ok .Or ps vs H (au hc) q⟩
variable {vs:List V} {k:Nat->List (Str×V)->Prop} {v:V}
theorem tz {xs:List PyData} {k:Int} {d:PyData} (hs:gT H v=IC xs) (h1:-(2^63)<=k) (h2:k<2^63) (hj:fK k xs.length=IC j) (hd:xs[j]?=IC d):Item H v (dI k) (.dat d):=by
 rcases kN hs with h|rfl
 ·exact .lst h h1 h2 hj hd
 ·exact .tup h1 h2 hj hd
theorem jk (h:j<n):fK (j:Int) n=IC j:=by
 have h1:¬((j:Int)<0):=VO;have h2:((j:Int))<(n:Int):=Int.ofNat_lt.mpr h;simp only[fK,h1,if_false];refine ah _ (if_pos (by simpa using h) ..) ?_;rfl
theorem pn (h:0<n):fK (-1) n=IC (n - 1):=by
 have h1:((-1:Int)<0):=by decide
 simp only[fK,h1,if_true];refine ah _ (if_pos (by simp;exact Xj h) ..) ?_
 congr 1;exact Xb
theorem c8 {l:List α} {d:α} (h:l[j]?=IC d):j<l.length:=(List.getElem?_eq_some_iff.mp h).1
noncomputable def ma (e:Expr):Bool:=!dp e.ctorIdx 26
theorem jO (h:ma e=true):∃f:Value->Value->List Value,∀o i,subscripted e false o i=operate (f o i) (getItem o i):=by
 cases e<;>first|exact⟨_,λZ Z=>rfl⟩|exact fP h
noncomputable def eE (k:Nat) (a:PE):PE:=⟨λσ e=>eJ (λo i=>iP k 100&&(a.t_ σ o&&(gb k).t_ σ i&&ma i)) e,λB n vals H Q=>a.wp B n vals H λva H1=>aW (gT H1 va) λxs=>aW xs[k]? λd=>Q (.dat d) H1,by
 intro σ e h B n vals H Q ok q;replace h:=dQ h;refine fR e h λo i p hc=>?_;have h1:=ay (ay (au hc));have h2:=au (ay (au hc));refine Ev.sub ((a.sound h1 ok q).mono λva H1 k1=>(gb k).sound h2 ok ?_) (jO (au (au hc)));refine jF k1 λxs e1 k2=>jF k2 λd e2 k3=>?_;have hk:=ak (ay hc);exact(aN _ (tz e1 (nC (2^63) k) (t8 hk) (jk (c8 e2)) e2) k3)⟩
noncomputable def xz (a:PE):PE:=⟨λσ e=>eJ (λo i=>a.t_ σ o&&((rB lK).t_ σ i&&ma i)) e,λB n vals H Q=>a.wp B n vals H λva H1=>aW (gT H1 va) λxs=>aW xs.getLast? λd=>Q (.dat d) H1,by
 intro σ e h B n vals H Q ok q;replace h:=dQ h;refine fR e h λo i p hc=>Ev.sub ((a.sound (ay hc) ok q).mono λva H1 k1=>(rB lK).sound (ay (au hc)) ok ?_) (jO (au (au hc)));refine jF k1 λxs e1 k2=>jF k2 λd e2 k3=>?_;rw[List.getLast?_eq_getElem?]at e2;exact(aN _ (tz e1 (by decide) (by decide) (pn (aB (aL _) (c8 e2))) e2) k3)⟩
noncomputable abbrev Ym:PE:=eE 1 (xz eV)
noncomputable def cI (a b:PE):PE:=⟨λσ e=>eJ (λo i=>a.t_ σ o&&(b.t_ σ i&&ma i)) e,λB n vals H Q=>a.wp B n vals H λva H1=>b.wp B n vals H1 λvb H2=>jW (λj=>aW (gT H2 va) λxs=>(0<=j/\j<2^63)/\aW xs[j.toNat]? λd=>Q (.dat d) H2) vb,by
 intro σ e h B n vals H Q ok q;replace h:=dQ h;refine fR e h λo i p hc=>Ev.sub ((a.sound (ay hc) ok q).mono λva H1 k1=>(b.sound (ay (au hc)) ok k1).mono λvb H2 k2=>?_) (jO (au (au hc)));refine cX vb (cG k2:_) λj k3=>?_;refine cP (ew k3:_) λxs e1 s_ k4=>?_;refine bh s_ λhj hj2=>?_;refine jF k4 λd e2 k5=>?_;refine bm (Cb hj:_) λm C_=>?_;obtain rfl:=C_;exact(aN _ (tz e1 (X6 hj2) hj2 (jk (c8 e2)) e2) k5)⟩
noncomputable def zR (a b:PE):PE:=⟨λσ e=>eJ (λo i=>a.t_ σ o&&(b.t_ σ i&&ma i)) e,λB n vals H Q=>a.wp B n vals H λva H1=>b.wp B n vals H1 λvb H2=>jW (λj=>aW (fdOf va) λkvs=>aW (iq kvs j) λd=>Q (.dat d) H2) vb,by
 intro σ e h B n vals H Q ok q;replace h:=dQ h;refine fR e h λo i p hc=>Ev.sub ((a.sound (ay hc) ok q).mono λva H1 k1=>(b.sound (ay (au hc)) ok k1).mono λvb H2 k2=>?_) (jO (au (au hc)));refine cX vb (cG k2:_) λj k3=>jF k3 λkvs e1 k4=>?_;cases Cg e1;exact jF k4 λd e2 k5=>(aN _ (.m_ e2) k5)⟩
noncomputable def qH (a b:PE):PE:=⟨λσ e=>eJ (λo i=>a.t_ σ o&&(b.t_ σ i&&ma i)) e,λB n vals H Q=>a.wp B n vals H λva H1=>b.wp B n vals H1 λvb H2=>Gj (λx=>aW (yj va) λj=>aW (H2[j]?.bind jj) λkvs=>aW (BY kvs x) λd=>Q (.dat d) H2) vb,by
 intro σ e h B n vals H Q ok q;replace h:=dQ h;refine fR e h λo i p hc=>Ev.sub ((a.sound (ay hc) ok q).mono λva H1 k1=>(b.sound (ay (au hc)) ok k1).mono λvb H2 k2=>?_) (jO (au (au hc)));refine cX vb (oJ k2:_) λx k3=>jF k3 λj e1 k4=>?_;cases ql e1;refine jF k4 λkvs e2 k5=>sj e2 λao e3 e4=>?_;cases tw e4;exact jF k5 λd e5 k6=>(aN _ (.IJ e3 e5) k6)⟩
noncomputable def tA (e:Expr):Bool:=dp e.ctorIdx 20||dp e.ctorIdx 23
theorem oK (h:tA e=true) (x:Str):∀env,fG e x env (dq e env)=dq e env:=by
 rcases Bool.or_eq_true_iff.mp h with h|h
 ·exact nq (motive_1:=λe=>∀env,fG e x env (dq e env)=dq e env) e (cz h) λZ Z Z Z=>rfl
 ·exact hZ (motive_1:=λe=>∀env,fG e x env (dq e env)=dq e env) e (cz h) λZ Z Z=>rfl
noncomputable def pH (C:Addr):List Str:=if C=311 then LK else La
noncomputable def Ci (C:Addr):Bool:=C==311||C==427
noncomputable def uP (l:List Str) (x:Str):Bool:=l.any λy=>ga y x
theorem ww {l:List Str} (h:uP l x=true):x∈l:=by
 refine aG (List.any_eq_true.mp h:_) λy hm h=>?_;cases eK h;exact hm
theorem tB (h:Ci C=true) (ok:sK B):nW B C/\∀x∈pH C,y0 B C x:=by
 rcases Bool.or_eq_true_iff.mp h with h|h
 ·cases eq_of_beq h;exact⟨ok.plainS,ok.Qk⟩
 ·cases eq_of_beq h;exact⟨ok.plainT,ok.Qj⟩
theorem qm (h:j7 b p False):b=true/\p:=by
 cases b
 ·exact h.elim
 ·exact⟨rfl,h⟩
def OB (C:Addr) (H:List a_) (k:Nat->List (Str×V)->Prop) (v:V):Prop:=aW (Gi v) λp=>j7 (dp p.1 C) (aW (H[p.2]?.bind bc) λfs=>k p.2 fs) False
theorem r5 (h:OB C H k v):∃i fs,v=.inst C i/\H[i]?=IC (.inst fs)/\k i fs:=by
 refine jF h λJ7 e h0=>?_;obtain⟨D,i⟩:=J7;refine bh (qm h0:_) λhC h1=>?_;cases cz hC;cases yk e;refine jF h1 λfs e2 h2=>sj e2 λo e3 e4=>?_;cases DB e4;exact(eu i fs rfl e3 h2)
noncomputable def bE (C:Addr) (x:Str) (a:PE):PE:=⟨λσ e=>gh (λo y=>ga x y&&(Ci C&&uP (pH C) x)&&(tA o&&a.t_ σ o)) e,λB n vals H Q=>a.wp B n vals H λva H1=>OB C H1 (λZ fs=>aW (fA fs x) λv=>j7 (wf v) (Q v H1) False) va,by
 intro σ e h B n vals H Q ok q;replace h:=g9 h;refine fR e h λo y p hc=>?_;have h1:=ay hc;cases eK (ay h1);refine bh (tB (ay (au h1)) ok:_) λhP hB=>Se ((a.sound (au (au hc)) ok q).mono λva H1 k1=>?_) (oK (ay (au hc)) _);exact ko va (r5 k1:_) λi fs e1 k2=>jF k2 λv e2 k3=>(uz C i fs v rfl hP (hB _ (ww (au (au h1)))) e1 e2 (qm k3))⟩
noncomputable abbrev B6_:PT:=qG [bo dX Yv (gN dX Ao_ (dU [])),bo dW (bE 311 "is_failed" mA) Yv]
noncomputable abbrev PB:PE:=bE 311 "domains" eV
noncomputable abbrev XH:List PE:=[bE 427 "scope" eV]
def Gp (C:Addr) (fs:List (Str×V)):Prop:=∀f∈fs,f.1∈pH C
theorem DD (h:Gp C fs) (hx:(!uP (pH C) x)=true):fA fs x=none:=by
 unfold fA;rw[List.find?_eq_none.mpr λf hf=>?_];rfl;intro e;have e:f.1=x:=by simpa using e
 have:uP (pH C) x=true:=by
  refine List.any_eq_true.mpr (aN f.1 (h f hf) ?_);refine ah _ e ?_;unfold ga;generalize x.cps.toList=l
  induction l with
  |nil=>rfl
  |cons a l ih=>exact Bool.and_eq_true_iff.mpr ⟨DE a,ih⟩
 rw[this]at hx;exact fP hx
theorem Gq (hn:fb args=true) (hl:iP args.length 20=true) (pos:FL):∀env,Dq (args.length+([]:List jB).length) (gy pos (cJ args env)) (j6 pos (f7 [] env))=true:=by
 intro env;have h1:=v9 pos env hn;have h2:(gy pos (cJ args env)).all (λx=>!x.1)=true:=by
  rw[um];intro x hx
  cases hb:x.1 with
  |false=>rfl
  |true=>rw[List.any_eq_true.mpr (aN x hx hb)]at h1;exact SR h1
 have h3:args.length+0+0<30:=by have:=ak hl;exact aB this (f6 (Nat.succ 20) 9)
 show((gy pos (cJ args env)).all (λx=>!x.1)&&true&&decide (args.length+0+0<30))=true
 (refine ah _ h2 ?_;refine ah _ (decide_eq_true h3 ..) ?_);rfl
noncomputable def Ue (C:Addr) (x:Str) (f:Addr):Bool:=OH.any λt=>t.1==C&&(ga t.2.1 x&&t.2.2==f)
theorem OL {f:Addr} (h:Ue C x f=true):(C,x,f)∈OH:=by
 refine aG (List.any_eq_true.mp h:_) λJE hm h=>?_;obtain⟨a,b,c⟩:=JE;cases eq_of_beq (ay h);cases eK (ay (au h));cases eq_of_beq (au (au h));exact hm
noncomputable def bZ (C:Addr) (x:Str) (f:Addr) (a:PE) (ps:List PE):PE:=⟨λσ e=>jg (λfn args Jx=>Jx.isEmpty&&(iP args.length 20&&gA σ ps args)&&(fn.pos.endLine==e.pos.line&&
 (gh (λo y=>ga x y&&(Ue C x f&&(Ci C&&!uP (pH C) x))&&(tA o&&a.t_ σ o)) fn))) e,λB n vals H Q=>a.wp B n vals H λva H1=>OB C H1 (λZ fs=>Gp C fs/\m8 ps B n vals H1 λvs H2=>Ap B n (.ref f) (va::vs) H2 Q) va,by
 intro σ e h B n vals H Q ok q;replace h:=fu h;refine rV h λfn args Jx p JX hc=>?_;obtain rfl:=JX;refine pt (g9 (au (au hc)):_) λo y ap JD hd=>?_;obtain rfl:=JD;have h1:=ay hc;cases ez (ay h1);have h2:=ay hd;cases eK (ay h2);refine bh (tB (ay (au (au h2))) ok:_) λhP Z=>?_;have hs:=iQ ps (au (au h1));refine Sb ((a.sound (au (au hd)) ok q).mono λva H1 k1=>?_) (oK (ay (au hd)) _) (ay (au hc)) hs (Gq hs (ay (au h1)) _);refine lQ (r5 k1:_) λi fs KE e1 k2 k3=>?_;obtain rfl:=KE;exact(uz C i fs f rfl hP (ok.Ud _ (OL (ay (au h2)))) e1 (DD k2 (au (au (au h2)))) ((gC ok _ (au (au h1)) k3).mono λvs H2 k4=>k4.2))⟩
noncomputable abbrev Tk:PE:=bZ 311 "dom" 196 eG [cT]
noncomputable abbrev Bl_:PE:=bZ 427 "propagate" 414 Am_ [mA]
noncomputable def rL (σ:lJ) (c:Value) (fn:Expr):Bool:=kM (λx=>Gf σ.Jo x c&&!ga x qZ) fn
noncomputable def bn (f:Addr) (ps:List PE):PE:=⟨λσ e=>jg (λfn args Jx=>Jx.isEmpty&&(rL σ (.ref f) fn&&(gA σ ps args&&gtab.any λg=>g.2==.ref f))) e,λB n vals H Q=>m8 ps B n vals H λvs H1=>Ap B n (.ref f) vs H1 Q,by
 intro σ e h B n vals H Q ok q;replace h:=fu h;refine mC e h λfn args Jx p hc=>?_;cases ez (ay hc);refine jq fn (d0 (ay (au hc)):_) λx p2 hd=>?_;have h1:=au (au hc);exact aG (List.any_eq_true.mp (au h1):_) λg hg e1=>Ev.call (Ev.glob hd (bA _ rfl (eq_of_beq e1▸ok.callee g hg) ((gC ok _ (ay h1) q).mono λvs H2 k4=>k4.2))) (iQ ps (ay h1))⟩
noncomputable abbrev B9_:PE:=cI (ci [ci [Fo,lK],ci [Fo,lK,SI],ci [Fo,lK,Fo]]) (bn 436 [eG,Ai_])
noncomputable abbrev Bi_:List PE:=[bK .add lK (bn 436 [eG,Tm])]
noncomputable abbrev Bq_:PT:=gq (fO (bn 475 [Am_,mA,gv,sL,Tl,cO 9]))
structure JC where
 f:Value
 bi:(∃id,f=.builtin id)∨(∃T,f=.type T)
 go:List a_->List V->(V->List a_->Prop)->Prop
 ok:∀{B n H vs Q},go H vs Q->Ap B n f vs H Q
noncomputable def bI (o:JC) (ps:List PE):PE:=⟨λσ e=>jg (λfn args Jx=>Jx.isEmpty&&(rL σ o.f fn&&gA σ ps args)) e,λB n vals H Q=>m8 ps B n vals H λvs H1=>o.go H1 vs Q,by
 intro σ e h B n vals H Q ok q;replace h:=fu h;refine mC e h λfn args Jx p hc=>?_;cases ez (ay hc);refine jq fn (d0 (ay (au hc)):_) λx p2 hd=>?_;have h1:=au (au hc);exact Ev.call (Ev.glob hd (bA _ rfl (o.bi.elim .inl λz=>.inr (.inl z)) ((gC ok _ h1 q).mono λvs H2 k4=>o.ok k4.2))) (iQ ps h1)⟩
def oh (k:V->Prop) (vs:List V):Prop:=List.casesOn (motive:=λZ=>Prop) vs False λv r=>List.casesOn (motive:=λZ=>Prop) r (k v) λZ Z=>False
theorem dZ {k:V->Prop} (h:oh k vs):∃v,vs=[v]/\k v:=by
 cases vs with
 |nil=>exact h.elim
 |cons v vs=>cases vs with
  |nil=>exact(aN v rfl h)
  |cons=>exact h.elim
def AC (k:V->V->Prop) (vs:List V):Prop:=aW vs.head? λv=>oh (k v) vs.tail
theorem kE {k:V->V->Prop} (h:AC k vs):∃v w,vs=[v,w]/\k v w:=by
 cases vs with
 |nil=>exact h.elim
 |cons v vs=>refine aG (dZ (vs:=vs) h:_) λw e h1=>?_;cases e;exact(ie v w rfl h1)
noncomputable def JC.len:JC:=⟨.builtin "len",.inl ⟨_,rfl⟩,λH vs Q=>oh (λv=>aW (gT H v) λxs=>xs.length<=sizeLine/\Q (dI xs.length) H) vs,λh=>by
 refine aG (dZ h:_) λv LX h1=>?_;obtain rfl:=LX;refine jF h1 λxs e h2=>?_;rcases kN e with e|rfl
 ·exact .Zh e h2.1 h2.2
 ·exact .Zg h2.1 h2.2⟩
noncomputable abbrev B5_:PT:=qG [bo jK (bI .len [eG]) SI,bo jK (eE 2 eG) SI,bo dW (eE 0 cT) (eE 2 cT)]
noncomputable def JC.max2:JC:=⟨.builtin "max",.inl ⟨_,rfl⟩,λH vs Q=>AC (λv w=>jW (λi=>jW (λj=>Q (dI (max i j)) H) w) v) vs,λh=>by
 refine gV (kE h:_) λv w KD h1=>?_;obtain rfl:=KD;exact cX v (cG h1:_) λi h2=>cX w (cG h2:_) λj h3=>.max2 h3⟩
noncomputable def JC.min2:JC:=⟨.builtin "min",.inl ⟨_,rfl⟩,λH vs Q=>AC (λv w=>jW (λi=>jW (λj=>Q (dI (min i j)) H) w) v) vs,λh=>by
 refine gV (kE h:_) λv w LV h1=>?_;obtain rfl:=LV;exact cX v (cG h1:_) λi h2=>cX w (cG h2:_) λj h3=>.min2 h3⟩
noncomputable def oi:List PyData->Option (List Int)
 |[]=>IC []
 |d::ds=>(Sm d).bind λi=>(oi ds).map (i::·)
theorem tC:∀{ds:List PyData} {ns:List Int},oi ds=IC ns->ds=ns.map .int:=by
 intro ds
 induction ds with
 |nil=>intro ns h;cases h;rfl
 |cons d ds ih=>
  intro ns h;refine sj h λi e h1=>?_;cases Ce e;refine ig ns (Option.map_eq_some_iff.mp h1:_) λms e2=>?_;refine ah _ (ih e2 ..) ?_;rfl
theorem oL:∀ns:List Int,oi (ns.map .int)=IC ns:=by
 intro ns
 induction ns with
 |nil=>rfl
 |cons i ns ih=>show eH _ (oi (ns.map .int))=_;refine ah _ ih ?_;rfl
def qn (k:List Int->Prop) (v:V):Prop:=Gh (λxs=>aW (oi xs) k) v
theorem kO {k:List Int->Prop} (h:qn k v):∃ns:List Int,v=dL (ns.map .int)/\k ns:=by
 exact cX v (oI h:_) λxs h1=>jF h1 λns e h2=>(aN ns (by refine ah _ (tC e ..) rfl) h2)
theorem oj {k:List Int->Prop} (h:k ns):qn k (dL (ns.map .int)):=by
 show aW (oi (ns.map .int)) k;refine ah _ (oL ..) ?_;exact h
noncomputable def JC.Rn:JC:=⟨.builtin "max",.inl ⟨_,rfl⟩,λH vs Q=>oh (qn λns=>0<ns.length/\∀M,M∈ns->(∀a,a∈ns->a<=M)->Q (dI M) H) vs,λh=>by
 refine aG (dZ h:_) λv YF h1=>?_;obtain rfl:=YF;exact cX v (kO h1:_) λns h2=>.Rn h2.1 h2.2⟩
noncomputable def JC.Rk:JC:=⟨.builtin "min",.inl ⟨_,rfl⟩,λH vs Q=>oh (qn λns=>0<ns.length/\∀M,M∈ns->(∀a,a∈ns->M<=a)->Q (dI M) H) vs,λh=>by
 refine aG (dZ h:_) λv Qs h1=>?_;obtain rfl:=Qs;exact cX v (kO h1:_) λns h2=>.Rk h2.1 h2.2⟩
noncomputable def JC.sum:JC:=⟨.builtin "sum",.inl ⟨_,rfl⟩,λH vs Q=>oh (qn λns=>Q (dI ns.sum) H) vs,λh=>by
 refine aG (dZ h:_) λv YD h1=>?_;obtain rfl:=YD;exact cX v (kO h1:_) λns h2=>.sum h2⟩
noncomputable def JC.sortI:JC:=⟨.builtin "sorted",.inl ⟨_,rfl⟩,λH vs Q=>oh (qn λns=>ns.length<64/\∀KG:List Int,KG.Perm ns->KG.Pairwise (·<=·)->Q (dL (KG.map .int)) H) vs,λh=>by
 refine aG (dZ h:_) λv YB h1=>?_;obtain rfl:=YB;exact cX v (kO h1:_) λns h2=>.sortI h2.1 h2.2⟩
noncomputable def JC.int:JC:=⟨.type "int",.inr ⟨_,rfl⟩,λH vs Q=>oh (jW λi=>Q (dI i) H) vs,λh=>by
 refine aG (dZ h:_) λv Qr h1=>?_;obtain rfl:=Qr;exact cX v (cG h1:_) λns h2=>.Zl h2⟩
noncomputable def JC.tuple:JC:=⟨.type "tuple",.inr ⟨_,rfl⟩,λH vs Q=>oh (λv=>aW (gT H v) λxs=>xs.length<=sizeLine/\Q (dT xs) H) vs,λh=>by
 refine aG (dZ h:_) λv Yz h1=>?_;obtain rfl:=Yz;refine jF h1 λxs e h2=>?_;rcases kN e with e|rfl
 ·exact .Z4 e h2.1 h2.2
 ·exact .Le h2.2⟩
noncomputable abbrev Yl:PE:=bI .tuple [cT]
noncomputable def JC.list:JC:=⟨.type "list",.inr ⟨_,rfl⟩,λH vs Q=>oh (λv=>aW (gT H v) λxs=>xs.length<=sizeLine/\Q (dL xs) H) vs,λh=>by
 refine aG (dZ h:_) λv Yy h1=>?_;obtain rfl:=Yy;exact jF h1 λxs e h2=>.Ui (kN e) h2.1 h2.2⟩
variable {k:Kd} {xs:List PyData} {o:Option V}
def fQ (ρ' ρ:fF):Prop:=∀x k o,(x,k,o)∈ρ'->∃o',(x,k,o')∈ρ/\(o=ID∨o=o')
theorem JL.none (v:JL B μ W h env x (k,o)) (hk:k≠.glob/\k≠.sup):JL B μ W h env x (k,.none):=by
 rcases v with⟨h1,h2,h3⟩|⟨h1,h2,a,oc,h3,h4,h5⟩|⟨h1,_⟩|⟨h1,_⟩
 ·exact .inl ⟨h1,h2,(λ_=>ft)⟩
 ·exact .inr (.inl (mB h1 h2 (eu a oc h3 h4 (λ_=>ft))))
 ·exact absurd h1 hk.1
 ·exact absurd h1 hk.2
def r6 (ρ':fF):Prop:=∀x k,(x,k,ID)∈ρ'->k≠Kd.glob/\k≠.sup
theorem Inv.less (I:Inv B env ρ H μ W s) (hl:fQ ρ' ρ) (nd:(ρ'.map (·.1)).Nodup) (h0:r6 ρ'):Inv B env ρ' H μ W s where
 same:=I.same
 old:=I.old
 IE:=I.IE
 alive:=I.alive
 o_:=I.o_
 IM:=I.IM
 len:=I.len
 objs:=I.objs
 q_:=I.q_
 nd:=nd
 vars:=λx ⟨k,o⟩ hx=>by
  refine aG (hl x k o hx:_) λo' hm e=>?_;rcases e with rfl|rfl
  ·exact(I.vars x _ hm).none (h0 x k hx)
  ·exact I.vars x _ hm
theorem Ev.less (hl:fQ ρ' ρ) (nd:(ρ'.map (·.1)).Nodup) (h0:r6 ρ') (h:Ev B n e ρ' H Q):Ev B n e ρ H Q:=λA env s μ W g I=>
 aM (h A env s μ W g (I.less hl nd h0)) (λZ Z IV=>by refine pE IV λv H' μ' W' q I' x r=>?_;exact(pI v H' μ' W' q (I.back I' x) x r)) λZ Z e=>e
theorem Tr.less {Q:Bool->List a_->Prop} (hl:fQ ρ' ρ) (nd:(ρ'.map (·.1)).Nodup) (h0:r6 ρ') (h:Tr B n e ρ' H Q):Tr B n e ρ H Q:=λA env s μ W g I=>
 aM (h A env s μ W g (I.less hl nd h0)) (λZ Z IV=>by refine A8 IV λH' μ' W' q I' x=>?_;exact(oV H' μ' W' q (I.back I' x) x)) λZ Z e=>e
theorem Ex.less {ss:List Stmt} {Q:iY->fF->List a_->Prop} (hl:fQ ρ' ρ) (nd:(ρ'.map (·.1)).Nodup) (h0:r6 ρ') (h:Ex B n ss ρ' H Q):Ex B n ss ρ H Q:=λA env s μ W g I=>h A env s μ W g (I.less hl nd h0)
theorem QQ:∀{ρ:fF} {k:Kd} {o:Option V},(y,k,o)∈ρ->k≠.glob/\k≠.sup->(ρ.map (·.1)).Nodup->∃ρ1,Lb ρ y v ρ1/\(y,k,IC v)∈ρ1/\(∀p,p∈ρ->p.1≠y->p∈ρ1):=by
 intro ρ
 induction ρ with
 |nil=>intro k o h;exact de h
 |cons p r ih=>
  intro k o h hk nd;obtain⟨x,l,w⟩:=p;rw[e9,oY]at nd;rcases List.mem_cons.mp h with e|h
  ·cases e;exact(bA _ (.here hk) ae (λp hp hn=>(List.mem_cons.mp hp).elim (λe=>absurd (congrArg Prod.fst e) hn) λz=>ag _ z))
  ·exact cP (ih h hk nd.2:_) λρ1 z m f=>(bA _ (.there z) (ag _ m) (λp hp hn=>(List.mem_cons.mp hp).elim (λe=>e▸ae) λz=>ag _ (f p z hn)))
theorem vq:∀(sl:List (Str×Kd)) (vals:List (Option V)),∀x∈(ye sl vals).map (·.1),x∈sl.map (·.1):=by
 intro sl
 induction sl with
 |nil=>intro vals x h;exact de h
 |cons p sl ih=>
  intro vals x h
  cases vals with
  |nil=>exact de h
  |cons o vals=>
   rcases List.mem_cons.mp h with e|h
   ·exact e▸ae
   ·exact ag _ (ih vals x h)
def md (σ:lJ):Prop:=(σ.slots.map (·.1)++σ.Jo.map (·.1)).Nodup/\∀p∈σ.slots,p.2≠.glob/\p.2≠.sup
theorem NQ:∀(sl:List (Str×Kd)) (vals:List (Option V)),(sl.map (·.1)).Nodup->((ye sl vals).map (·.1)).Nodup:=by
 intro sl
 induction sl with
 |nil=>intro vals _;exact xC
 |cons p sl ih=>
  intro vals h;rw[e9,oY]at h
  cases vals with
  |nil=>exact xC
  |cons o vals=>exact List.nodup_cons.mpr ⟨λz=>h.1 (vq sl vals _ z),ih vals h.2⟩
theorem wx:∀(sl:List (Str×Kd)) (vals:List (Option V)),(x,k,o)∈ye sl vals->∃i:Nat,sl[i]?=IC (x,k)/\vals[i]?=IC o:=by
 intro sl
 induction sl with
 |nil=>intro vals h;exact de h
 |cons p sl ih=>
  intro vals h
  cases vals with
  |nil=>exact de h
  |cons w vals=>
   rcases List.mem_cons.mp h with e|h
   ·cases e;exact(aN 0 rfl rfl)
   ·refine aG (ih vals h:_) λi a b=>?_;exact(aN (i+1) a b)
theorem Gr (g:List (Str×Value)):(gls g).map (·.1)=g.map (·.1):=by unfold gls;refine ah _ (cV ..) ?_;rfl
theorem mS (hs:md σ) (vals:List (Option V)):((jc σ vals).map (·.1)).Nodup:=by
 refine bh hs λh Z=>?_;rw[fT]at h;unfold jc
 (refine ah _ (aT ..) ?_;rw[fT];refine ah _ (Gr ..) ?_)
 exact⟨NQ _ _ h.1,h.2.1,λa ha b hb=>h.2.2 a (vq _ _ a ha) b hb⟩
theorem qo (hs:md σ) (vals:List (Option V)):r6 (jc σ vals):=by
 intro x k hm;rcases List.mem_append.mp hm with h|h
 ·exact aG (wx _ _ h:_) λi e Z=>hs.2 _ (an e)
 ·refine xA h λg Z e=>?_;cases e
theorem yl {vals0:List (Option V)} (hl:fQ (jc σ vals) ρ) (h0:fQ (jc σ vals0) ρ) (nd:(ρ.map (·.1)).Nodup) (hs:md σ) (hi:σ.slots[i]?=IC (y,k)) (hv:vals[i]?=IC o) (hv0:vals0[i]?=IC ID):
 ∃ρ1,Lb ρ y v ρ1/\fQ (jc σ (vals.set i (IC v))) ρ1/\fQ (jc σ vals0) ρ1/\(ρ1.map (·.1)).Nodup:=by
 refine aG (hl y k o (az _ (ji _ hi hv)):_) λo' hm Z=>cP (QQ (v:=v) hm (hs.2 _ (an hi)) nd:_) λρ1 z m1 f=>?_;have only:∀{vs:List (Option V)} {x:Str} {k':Kd} {o:Option V},(x,k',o)∈jc σ vs->x=y->vs[i]?=IC o/\k'=k:=by
  intro vs x k' o hx e;subst e;refine bh hs λhn Z=>?_;rw[fT]at hn;rcases List.mem_append.mp hx with q|q
  ·refine aG (wx _ _ q:_) λj e1 e2=>?_;have:j=i:=by
    have h1:(σ.slots.map (·.1))[j]?=IC x:=by(refine ah _ (aK ..) ?_;refine ah _ e1 ?_);rfl
    have h2:(σ.slots.map (·.1))[i]?=IC x:=by(refine ah _ (aK ..) ?_;refine ah _ hi ?_);rfl
    exact(List.getElem?_inj (c8 h1) hn.1).mp (h1.trans h2.symm)
   subst this;rw[hi]at e1;cases e1;exact⟨e2,rfl⟩
  ·refine xA q λg hg e=>?_;cases e;exact absurd rfl (hn.2.2 g.1 (aO (f:=(·.1)) (an hi)) g.1 (aO (f:=(·.1)) hg))
 refine(qS ρ1 z (λx k' o hx=>?_) (λx k' o hx=>?_) (by refine ah _ (z.keys ..) ?_;exact nd))
 ·by_cases e:x=y
  ·refine bh (only hx e:_) λe1 f_=>?_;obtain rfl:=f_;rw[cW (c8 hv)]at e1;cases e1;exact(aN _ (e▸m1) (.inr rfl))
  ·rcases List.mem_append.mp hx with q|q
   ·refine aG (wx _ _ q:_) λj e1 e2=>?_;have hji:i≠j:=λz=>by subst z;rw[hi]at e1;cases e1;exact e rfl
    rw[cE hji]at e2;exact aG (hl x k' o (az _ (ji _ e1 e2)):_) λo' Mf r=>(aN o' (f _ Mf e) r)
   ·exact aG (hl x k' o (aR _ q):_) λo' Mf r=>(aN o' (f _ Mf e) r)
 ·by_cases e:x=y
  ·refine bh (only hx e:_) λe1 k_=>?_;obtain rfl:=k_;rw[hv0]at e1;cases e1;exact(aN _ (e▸m1) (.inl rfl))
  ·exact aG (h0 x k' o hx:_) λo' Mf r=>(aN o' (f _ Mf e) r)
structure PI where
 T:Expr->Prop
 Mq:Expr->Bool
 tok:∀{t},Mq t=true->T t
 t_:lJ->Expr->Bool
 wp:Bs->Nat->List (Option V)->List a_->(List PyData->(List a_->Prop)->List a_->Prop)->Prop
 fix:Bool
 sound:∀{σ:lJ} {e:Expr},t_ σ e=true->∀{B:Bs} {n:Nat} {vals:List (Option V)} {H:List a_} {Q:List PyData->(List a_->Prop)->List a_->Prop},sK B->wp B n vals H Q->KA B n e (jc σ vals) H T Q/\(fix=true->Lq B n e (jc σ vals) H T λxs H1=>Q xs (λZ=>True) H1)
theorem PI.PP {T:Expr->Prop} {Q:List PyData->(List a_->Prop)->List a_->Prop} (h:Lq B n e ρ H T λxs H1=>Q xs (λZ=>True) H1):KA B n e ρ H T Q/\(true=true->Lq B n e ρ H T λxs H1=>Q xs (λZ=>True) H1):=⟨h.toS,λZ=>h⟩
noncomputable def jy:V->Option (List PyData)
 |.dat d=>QU d
 |.Jz xs=>IC xs
 |_=>ID
theorem DF (h:jy v=IC xs):v=dL xs∨v=.Jz xs∨v=dT xs:=by
 cases v with
 |dat d=>cases d<;>cases h;exact .inl rfl;exact .inr (.inr rfl)
 |Jz ys=>cases h;exact .inr (.inl rfl)
 |_=>exact ft h
noncomputable def PI.val (a:PE):PI:=⟨λZ=>True,λZ=>true,λZ=>trivial,a.t_,λB n vals H Q=>a.wp B n vals H λv H1=>aW (jy v) λxs=>Q xs (λZ=>True) H1,true,by
 intro σ e h B n vals H Q ok q;exact PI.PP (.val ((a.sound h ok q).mono λv H1 k1=>by refine jF k1 λxs e k2=>?_;exact(aN xs (DF e) k2)))⟩
noncomputable def PI.loc (a:PE):PI:=⟨λZ=>True,λZ=>true,λZ=>trivial,a.t_,λB n vals H Q=>a.wp B n vals H λv H1=>tx H1 (λi xs=>Q xs (λH2=>H2[i]?=IC (.list xs)) H1) v,false,by
 intro σ e h B n vals H Q ok q;exact⟨.loc ((a.sound h ok q).mono λv H1 k1=>by refine ko v (gD k1:_) λi xs e k2=>?_;exact(eu i xs rfl e k2)),fP⟩⟩
structure Py where
 f:Value
 T:Expr->Prop
 Mq:Expr->Bool
 tok:∀{t},Mq t=true->T t
 bi:(∃id,f=.builtin id)∨(∃T,f=.type T)
 go:List V->(List PyData->Prop)->Prop
 ok:∀{B n H vs} {Q:List PyData->List a_->Prop},(go vs λxs=>Q xs H)->NM B n f vs H T Q
noncomputable def PI.bi (o:Py) (ps:List PE):PI:=⟨o.T,o.Mq,o.tok,λσ e=>jg (λfn args Jx=>Jx.isEmpty&&(rL σ o.f fn&&gA σ ps args)) e,λB n vals H Q=>m8 ps B n vals H λvs H1=>o.go vs λxs=>Q xs (λZ=>True) H1,true,by
 intro σ e h B n vals H Q ok q;replace h:=fu h;refine mC e h λfn args Jx p hc=>?_;cases ez (ay hc);refine jq fn (d0 (ay (au hc)):_) λx p2 hd=>?_;have h1:=au (au hc);exact PI.PP (.call (Ev.glob hd (bA _ rfl (o.bi.elim .inl λz=>.inr (.inl z)) ((gC ok _ h1 q).mono λvs H2 k4=>o.ok k4.2))) (iQ ps h1))⟩
noncomputable def Py.B_:Py:=⟨.type "range",λZ=>True,λZ=>true,λZ=>trivial,.inr ⟨_,rfl⟩,λvs k=>oh (jW λb=>k (gd (dG 0 b))) vs,λh=>by
 refine aG (dZ h:_) λv C_ h1=>?_;obtain rfl:=C_;refine cX v (cG h1:_) λb h2=>?_;exact .B_ h2⟩
noncomputable def Py.LZ:Py:=⟨.type "range",λZ=>True,λZ=>true,λZ=>trivial,.inr ⟨_,rfl⟩,λvs k=>AC (λv w=>jW (λa=>jW (λb=>k (gd (dG a b))) w) v) vs,λh=>by
 refine gV (kE h:_) λv w IY h1=>?_;obtain rfl:=IY;refine cX v (cG h1:_) λa h2=>?_;refine cX w (cG h2:_) λb h3=>?_;exact .LZ h3⟩
noncomputable def Gs (t:Expr):Bool:=jh (λZ Z=>true) t
theorem ym (h:Gs t=true):Le t:=by refine fR t (i5 h:_) λes k p Z=>?_;exact(Ab es k p rfl)
noncomputable def Gu:V->Option (List PyData)
 |.dat d=>QU d
 |_=>ID
theorem yn (h:Gu v=IC xs):v=dL xs∨v=dT xs:=by
 cases v with
 |dat d=>cases d<;>cases h;exact .inl rfl;exact .inr rfl
 |_=>exact ft h
noncomputable def Py.zip:Py:=⟨.type "zip",Le,Gs,ym,.inr ⟨_,rfl⟩,λvs k=>AC (λv w=>aW (Gu v) λxs=>aW (Gu w) λys=>k (gR np xs ys)) vs,λh=>by
 refine gV (kE h:_) λv w JY h1=>?_;obtain rfl:=JY;refine jF h1 λa e1 h2=>?_;refine jF h2 λb e2 h3=>?_;exact .zip (yn e1) (yn e2) h3⟩
noncomputable def Py.enum:Py:=⟨.type "enumerate",Le,Gs,ym,.inr ⟨_,rfl⟩,λvs k=>oh (Ax λxs=>k (pg xs 0)) vs,λh=>by
 refine aG (dZ h:_) λv Ji h1=>?_;obtain rfl:=Ji;refine cX v (kD h1:_) λb h2=>?_;exact .enum h2⟩
variable {vals0:List (Option V)}
noncomputable def Gv (x:Str):Option Value:=((gtab++(biS++Fu)).find? λp=>ga p.1 x).map (·.2)
theorem DG (h:Gv x=IC c) (ok:sK B):xQ B x c:=by
 refine ig c (Option.map_eq_some_iff.mp h:_) λp e=>?_;have h1:=jl e;cases eK h1;exact ok.glob p (List.mem_append.mp (yo e))
noncomputable def iR (σ:lJ) (i:Nat) (x:Str):Bool:=jx σ.slots[i]? λp=>ga x p.1&&dp p.2.ctorIdx 1
theorem lB (h:iR σ i x=true):σ.slots[i]?=IC (x,.cell):=by
 refine uO h λk_ e h1=>?_;obtain⟨y,k⟩:=k_;cases eK (ay h1);have:dp k.ctorIdx 1=true:=au h1;cases k<;>first|exact e|exact absurd this (by decide)
noncomputable def r7 (σ:lJ):List (Str×bB)->List (Option Nat)->Option lJ
 |[],[]=>IC ⟨[],[]⟩
 |[],_::_=>ID
 |(x,k)::ns,cs=>k.casesOn
  (cs.casesOn ID λc cs=>c.casesOn ((r7 σ ns cs).map λs=>⟨(x,.loc)::s.slots,s.Jo⟩) λZ=>ID)
  (cs.casesOn ID λc cs=>c.casesOn ((r7 σ ns cs).map λs=>⟨(x,.cell)::s.slots,s.Jo⟩) λZ=>ID)
  (cs.casesOn ID λc cs=>c.casesOn ID λi=>(iR σ i x).casesOn ID ((r7 σ ns cs).map λs=>⟨(x,.cell)::s.slots,s.Jo⟩))
  none
  ((Gv x).bind λc=>(r7 σ ns cs).map λs=>⟨s.slots,(x,c)::s.Jo⟩)
noncomputable def aaK (vals:List (Option V)):Option Nat->Option (Option V)
 |none=>IC ID
 |some i=>vals[i]?
noncomputable def sk (vals:List (Option V)):List (Option Nat)->Option (List (Option V))
 |[]=>IC []
 |c::cs=>(aaK vals c).bind λo=>(sk vals cs).map (o::·)
theorem AD (ok:sK B):∀(names:List (Str×bB)) {J5:List (Option Nat)} {σ':lJ} {vals0:List (Option V)},r7 σ names J5=IC σ'->sk vals J5=IC vals0->
 ∃ρ',JW B (jc σ vals) names ρ'/\∀p,p∈jc σ' vals0->p∈ρ':=by
 intro names
 induction names with
 |nil=>
  intro J5 σ' vals0 h1 h2
  cases J5 with
  |nil=>cases h1;exact(aN _ .nil (λp h=>h))
  |cons=>exact ft h1
 |cons p ns ih=>
  obtain⟨x,k⟩:=p;intro J5 σ' vals0 h1 h2
  cases k with
  |«local»=>
   rcases J5 with _|⟨_|i,cs⟩
   ·exact ft h1
   ·refine ig σ' (Option.map_eq_some_iff.mp (show eH _ _=_ from h1):_) λs e=>sj (show ir _ _=_ from h2) λo e1 h3=>?_;cases e1;exact ig vals0 (Option.map_eq_some_iff.mp h3:_) λv0 e2=>aG (ih e e2:_) λρ' z hm=>(aN _ (.loc z) (λp hp=>(List.mem_cons.mp hp).elim (λq=>q▸ae) λq=>ag _ (hm p q)))
   ·exact ft h1
  |cell=>
   rcases J5 with _|⟨_|i,cs⟩
   ·exact ft h1
   ·refine ig σ' (Option.map_eq_some_iff.mp (show eH _ _=_ from h1):_) λs e=>sj (show ir _ _=_ from h2) λo e1 h3=>?_;cases e1;exact ig vals0 (Option.map_eq_some_iff.mp h3:_) λv0 e2=>aG (ih e e2:_) λρ' z hm=>(aN _ (.cell z) (λp hp=>(List.mem_cons.mp hp).elim (λq=>q▸ae) λq=>ag _ (hm p q)))
   ·exact ft h1
  |free=>
   rcases J5 with _|⟨_|i,cs⟩
   ·exact ft h1
   ·exact ft h1
   ·cases hc:iR σ i x with
    |false=>rw[show r7 σ ((x,.free)::ns) (IC i::cs)=(iR σ i x).casesOn ID ((r7 σ ns cs).map λs=>⟨(x,.cell)::s.slots,s.Jo⟩)from rfl,hc]at h1;exact ft h1
    |true=>
     rw[show r7 σ ((x,.free)::ns) (IC i::cs)=(iR σ i x).casesOn ID ((r7 σ ns cs).map λs=>⟨(x,.cell)::s.slots,s.Jo⟩)from rfl,hc]at h1;exact ig σ' (Option.map_eq_some_iff.mp (show eH _ _=_ from h1):_) λs e=>sj (show ir _ _=_ from h2) λo e1 h3=>ig vals0 (Option.map_eq_some_iff.mp h3:_) λv0 e2=>aG (ih e e2:_) λρ' z hm=>(aN _ (.free (az _ (ji _ (lB hc) e1)) z) (λp hp=>(List.mem_cons.mp hp).elim (λq=>q▸ae) λq=>ag _ (hm p q)))
  |globalExplicit=>cases J5<;>exact ft h1
  |globalImplicit=>
   refine sj (show ir _ _=_ from h1) λc e1 h3=>ig σ' (Option.map_eq_some_iff.mp h3:_) λs e=>aG (ih e h2:_) λρ' z hm=>(aN _ (.glob (DG e1 ok) z) (λp hp=>?_));rcases List.mem_append.mp hp with q|q
   ·exact ag _ (hm p (az _ q))
   ·rcases List.mem_cons.mp q with q|q
    ·exact q▸ae
    ·exact ag _ (hm p (aR _ q))
noncomputable def r8:List Str->Bool
 |[]=>true
 |x::xs=>!uP xs x&&r8 xs
theorem AE (x:Str):ga x x=true:=by
 unfold ga;generalize x.cps.toList=l
 induction l with
 |nil=>rfl
 |cons a l ih=>exact Bool.and_eq_true_iff.mpr ⟨DE a,ih⟩
theorem Cj {l:List Str} (h:x∈l):uP l x=true:=List.any_eq_true.mpr (aN x h (AE x))
theorem oM:∀{l:List Str},r8 l=true->l.Nodup:=by
 intro l
 induction l with
 |nil=>intro _;exact xC
 |cons x xs ih=>
  intro h;refine List.nodup_cons.mpr ⟨λhm=>?_,ih (au h)⟩;have:=ay h;rw[Cj hm]at this;exact fP this
noncomputable def Oi (σ:lJ):Bool:=r8 (σ.slots.map (·.1)++σ.Jo.map (·.1))&&σ.slots.all λp=>Ge p.2
theorem wy (h:Oi σ=true):md σ:=⟨oM (ay h),λp hp=>yf (List.all_eq_true.mp (au h) p hp)⟩
noncomputable def wz (names:List (Str×bB)):Bool:=r8 (names.map (·.1))&&!uP (names.map (·.1)) bR
theorem me {names:List (Str×bB)} (h:wz names=true):(names.map (·.1)).Nodup/\∀k,(bR,k)∉names:=by
 refine⟨oM (ay h),λk hm=>?_⟩;have:=au h;rw[Cj (aO (f:=(·.1)) hm)]at this;exact fP this
structure CT where
 tup:Bool
 is:List Nat
noncomputable def qp (σ:lJ):List Nat->List Expr->Bool
 |[],[]=>true
 |i::is,e::es=>kM (λx=>nZ σ i x) e&&qp σ is es
 |_,_=>false
noncomputable def CT.t_ (c:CT) (σ:lJ) (t:Expr):Bool:=c.tup.casesOn (qp σ c.is [t]) (jh (λes Z=>qp σ c.is es) t)
noncomputable def r9:List (Option V)->List Nat->List PyData->Option (List (Option V))
 |v,[],[]=>IC v
 |v,i::is,d::ds=>v[i]?.bind λZ=>r9 (v.set i (IC (.dat d))) is ds
 |_,_,_=>ID
noncomputable def CT.bind (c:CT) (vals:List (Option V)) (x:PyData):Option (List (Option V)):=c.tup.casesOn (r9 vals c.is [x]) ((Pm x).bind λxs=>r9 vals c.is xs)
theorem vt (hs:md σ):∀(is:List Nat) {es:List Expr} {ds:List PyData} {vals vals1:List (Option V)} {ρ:fF},qp σ is es=true->(∀i∈is,vals0[i]?=IC ID)->r9 vals is ds=IC vals1->fQ (jc σ vals) ρ->fQ (jc σ vals0) ρ->(ρ.map (·.1)).Nodup->
 ∃xs ρ1,gi es=IC xs/\fb es=true/\es.length=ds.length/\Je ρ xs (ds.map V.dat) ρ1/\fQ (jc σ vals1) ρ1/\fQ (jc σ vals0) ρ1/\(ρ1.map (·.1)).Nodup:=by
 intro is
 induction is with
 |nil=>
  intro es ds vals vals1 ρ h1 _ h2 hl h0 nd
  cases es with
  |cons=>exact fP h1
  |nil=>cases ds with
   |cons=>exact ft h2
   |nil=>cases h2;exact(YX _ _ rfl rfl rfl .nil hl h0 nd)
 |cons i is ih=>
  intro es ds vals vals1 ρ h1 hn h2 hl h0 nd
  cases es with
  |nil=>exact fP h1
  |cons e es=>cases ds with
   |nil=>exact ft h2
   |cons d ds=>
    refine jq e (d0 (ay h1):_) λx p hx=>aG (kC hx:_) λk hk Z=>sj h2 λo e1 h3=>lO (yl (v:=.dat d) hl h0 nd hs hk e1 (hn i ae):_) λρ1 z l1 l0 SU=>uy (ih (au h1) (λj hj=>hn j (ag _ hj)) h3 l1 l0 SU:_) λxs ρ2 a1 a2 a3 a4 a5=>(w3 (x::xs) ρ2 ?_ a2 (congrArg (·+1) a3) (.cons z a4) a5);exact mH a1
theorem Sn (hs:md σ) {c:CT} {x:PyData} {vals1:List (Option V)} (h1:c.t_ σ t=true) (hn:∀i∈c.is,vals0[i]?=IC ID) (h2:c.bind vals0 x=IC vals1) (h0:fQ (jc σ vals0) ρ) (nd:(ρ.map (·.1)).Nodup):
 ∃ρ1,Tj t (.dat x) ρ ρ1/\fQ (jc σ vals1) ρ1/\fQ (jc σ vals0) ρ1/\(ρ1.map (·.1)).Nodup:=by
 obtain⟨b,is⟩:=c
 cases b with
 |false=>
  have h1:qp σ is [t]=true:=h1;refine uy (vt hs is h1 hn h2 h0 h0 nd:_) λxs ρ1 a1 Z Z a4 a5=>?_;have ht:∃y p,t=.Name y p:=by
   cases is with
   |nil=>exact fP h1
   |cons i is=>refine gV (d0 (ay h1):_) λy p e Z=>?_;exact(cY y p e)
  refine lP ht λy p J7=>?_;obtain rfl:=J7;cases a1
  cases a4 with
  |cons z zs=>cases zs;exact(aN _ (.name z) a5)
 |true=>
  refine fR t (i5 (show jh _ t=true from h1):_) λes k p h3=>sj (show ir _ _=_ from h2) λxs e h4=>?_;cases wv e;exact uy (vt hs is h3 hn h4 h0 h0 nd:_) λys ρ1 a1 a2 a3 a4 a5=>(aN ρ1 (.tuple a1 a2 a3 a4) a5)
noncomputable def tnB (names:List (Str×bB)) (t:Expr):Bool:=(nU t).all λx=>names.any λp=>ga p.1 x&&(p.2==.local||p.2==.cell)
theorem QL {names:List (Str×bB)} (h:tnB names t=true):∀x∈nU t,(x,NameKind.local)∈names∨(x,cF)∈names:=by
 intro x hx;refine aG (List.any_eq_true.mp (List.all_eq_true.mp h x hx):_) λJi hm h1=>?_;obtain⟨y,k⟩:=Ji;cases eK (ay h1);rcases Bool.or_eq_true_iff.mp (au h1)with e|e
 ·cases eq_of_beq e;exact .inl hm
 ·cases eq_of_beq e;exact .inr hm
variable {K':Bool->List a_->Prop} {c:CC} {Q Q':List PyData->(List a_->Prop)->List a_->Prop} {inner:lJ->Bool}
def RB (iff:Option PT) (B:Bs) (n:Nat) (vals:List (Option V)) (H:List a_) (K:Bool->List a_->Prop):Prop:=match iff with
 |none=>K true H
 |some t=>t.wp B n vals H K
noncomputable def RC (σ:lJ):Option PT->List Expr->Bool
 |none,[]=>true
 |some t,[c]=>t.t_ σ c
 |_,_=>false
structure CC where
 it:PI
 ct:CT
 J5:List (Option Nat)
 iff:Option PT
def CC.wp (c:CC) {α:Type} (step:Bs->Nat->List (Option V)->List a_->α->(α->List a_->Prop)->Prop) (a0:α) (B:Bs) (n:Nat) (vals:List (Option V)) (H:List a_) (Q:α->List a_->Prop):Prop:=
 aW (sk vals c.J5) λvals0=>c.it.wp B n vals H λxs S H1=>∃J:Nat->α->List a_->Prop,J 0 a0 H1/\
  (∀k x a H2,xs[k]?=IC x->J k a H2->S H2/\aW (c.ct.bind vals0 x) λvals1=>RB c.iff B n vals1 H2 λb H3=>j7 b (step B n vals1 H3 a λa' H4=>J (k+1) a' H4) (J (k+1) a H3))/\
  ∀a H2,J xs.length a H2->S H2/\Q a H2
noncomputable def AF (e:Expr):Bool:=!dp e.ctorIdx 7
theorem vw (h:AF e=true):∀env x,ku e env x=pure x:=by
 intro env x;cases e<;>first|rfl|exact fP h
noncomputable def CC.t_ (c:CC) (σ:lJ) (inner:lJ->Bool) (gs:List jw) (sc:pA):Bool:=jx gs.head? λg=>gs.tail.isEmpty&&g.is_async==0&&(sc.kind==.function&&wz sc.names&&(tnB sc.names g.target&&c.it.Mq g.target&&(c.it.t_ σ g.iter&&AF g.iter)&&
 ((c.ct.is.all λi=>c.J5[i]?==IC ID)&&jx (r7 σ sc.names c.J5) λσ'=>Oi σ'&&(c.ct.t_ σ' g.target&&(RC σ' c.iff g.ifs&&inner σ')))))
theorem DH:∀{J5:List (Option Nat)} {vals0:List (Option V)} {i:Nat},sk vals J5=IC vals0->J5[i]?=IC ID->vals0[i]?=IC none:=by
 intro J5
 induction J5 with
 |nil=>intro vals0 i _ h;exact ft h
 |cons c cs ih=>
  intro vals0 i h1 h2;refine sj (show ir _ _=_ from h1) λo e1 h3=>ig vals0 (Option.map_eq_some_iff.mp h3:_) λv0 e2=>?_
  cases i with
  |zero=>cases h2;cases e1;rfl
  |succ i=>exact ih (vals0:=v0) (i:=i) e2 h2
theorem DI (hs:md σ) (ok:sK B) {iff:Option PT} {vals1:List (Option V)} {K:Bool->List a_->Prop} (hl:fQ (jc σ vals1) ρ) (h:RC σ iff ifs=true) (q:RB iff B n vals1 H K):Px B n ifs ρ H K:=by
 cases iff with
 |none=>cases ifs with
  |nil=>exact q
  |cons=>exact fP h
 |some t=>cases ifs with
  |nil=>exact fP h
  |cons e es=>cases es with
   |cons=>exact fP h
   |nil=>exact Tr.less hl (mS hs _) (qo hs _) (t.sound h ok q)
theorem Px.mono {K:Bool->List a_->Prop} (hq:∀b H,K b H->K' b H) (h:Px B n ifs ρ H K):Px B n ifs ρ H K':=by
 cases ifs with
 |nil=>exact hq _ _ h
 |cons c cs=>cases cs with
  |nil=>exact Tr.mono h hq
  |cons=>exact h.elim
theorem yp (hs:md σ) (ok:sK B) {Step:fF->List a_->α->(α->List a_->Prop)->Prop} {step:Bs->Nat->List (Option V)->List a_->α->(α->List a_->Prop)->Prop}
 (Jn:∀vals1 ρ1 H a K K',fQ (jc σ vals1) ρ1->(∀a H,K a H->K' a H)->step B n vals1 H a K->Step ρ1 H a K') (hn:∀i∈c.ct.is,vals0[i]?=IC ID) (h1:c.ct.t_ σ t=true) (h2:RC σ c.iff ifs=true) {J:Nat->α->List a_->Prop} {Q:α->List a_->Prop} {PH:List PyData}
 (hJ:∀k x a H2,PH[k]?=IC x->J k a H2->S H2/\aW (c.ct.bind vals0 x) λvals1=>RB c.iff B n vals1 H2 λb H3=>j7 b (step B n vals1 H3 a λa' H4=>J (k+1) a' H4) (J (k+1) a H3))
 (hE:∀a H2,J PH.length a H2->S H2/\Q a H2):∀(xs:List PyData) (k:Nat) (a:α) (ρ:fF) (H:List a_),PH.drop k=xs->k<=PH.length->J k a H->fQ (jc σ vals0) ρ->(ρ.map (·.1)).Nodup->nV B n t ifs S Step xs a ρ H Q:=by
 intro xs
 induction xs with
 |nil=>
  intro k a ρ H hk hle q _ _;have:k=PH.length:=cC hle (List.drop_eq_nil_iff.mp hk);subst this;exact hE a H q
 |cons x xs ih=>
  intro k a ρ H hk hle q h0 nd;have hx:PH[k]?=IC x:=by(refine ah _ (List.head?_drop ..).symm ?_;refine ah _ hk ?_);rfl
  have IZ:PH.drop (k+1)=xs:=by(refine ah _ (List.tail_drop ..).symm ?_;refine ah _ hk ?_);rfl
  refine bh (hJ k x a H hx q:_) λhS q1=>jF q1 λvals1 e q2=>lO (Sn hs h1 hn e h0 nd:_) λρ1 hb l1 l0 SU=>?_;have r_:k+1<=PH.length:=c8 hx;refine(jp hS (aN ρ1 hb (Px.mono (λb H2 q3=>?_) (DI hs ok l1 h2 q2))))
  cases b with
  |true=>exact Jn _ _ _ _ _ _ l1 (λa' H4 q4=>ih (k+1) a' ρ1 H4 IZ r_ q4 l0 SU) q3
  |false=>exact ih (k+1) a ρ1 H2 IZ r_ q3 l0 SU
theorem KA.mono {T:Expr->Prop} (h:KA B n e ρ H T Q) (hq:∀xs S H1,Q xs S H1->Q' xs S H1):KA B n e ρ H T Q':=λA env s μ W g I=>
 aM (h A env s μ W g I) (λZ Z h1=>aM h1 (λZ Z IV=>by refine YZ IV λxs S H' μ' W' W0 q r=>?_;exact(YT xs S H' μ' W' W0 (hq _ _ _ q) r)) λZ Z e=>e) λZ Z e=>e
theorem CC.sound (ok:sK B) {gs:List jw} {sc:pA} {step:Bs->Nat->List (Option V)->List a_->α->(α->List a_->Prop)->Prop} {Step:fF->List a_->α->(α->List a_->Prop)->Prop} {a0:α} {Q Q':α->List a_->Prop} (hq:∀a H,Q a H->Q' a H)
 (h:c.t_ σ inner gs sc=true) (Jn:∀σ',inner σ'=true->md σ'->∀vals1 ρ1 H a K K',fQ (jc σ' vals1) ρ1->(∀a H,K a H->K' a H)->step B n vals1 H a K->Step ρ1 H a K') (q:c.wp step a0 B n vals H Q):
 ∃t iter ifs,gs=[⟨t,iter,ifs,0⟩]/\(∀env x,ku iter env x=pure x)/\sc.kind=.function/\(sc.names.map (·.1)).Nodup/\(∀k,(bR,k)∉sc.names)/\(∀x∈nU t,(x,NameKind.local)∈sc.names∨(x,cF)∈sc.names)/\c.it.T t/\
  (∃ρ',JW B (jc σ vals) sc.names ρ')/\KA B n iter (jc σ vals) H c.it.T λxs S H1=>∃ρ',JW B (jc σ vals) sc.names ρ'/\nV B n t ifs S Step xs a0 ρ' H1 Q':=by
 refine uO h λk_ e hc=>?_;obtain⟨t,iter,ifs,as⟩:=k_;have hgs:gs=[⟨t,iter,ifs,0⟩]:=by
  cases gs with
  |nil=>exact ft e
  |cons g gs=>
   cases e;cases ez (ay (ay hc));have:=au (ay hc);cases eq_of_beq this
   rfl
 have h1:=au hc;have h2:=ay h1;have h3:=ay (au h1);have h4:=au (au h1);refine uO (au h4) λσ' e1 h5=>jF q λvals0 e2 q1=>bh (me (au h2):_) λnd Jd=>aG (AD ok sc.names e1 e2:_) λρ' J3 Jk=>?_;have hs:=wy (ay h5);refine(YV t iter ifs hgs (vw (au (au h3))) (eq_of_beq (ay h2)) nd Jd (QL (ay (ay h3))) (c.it.tok (au (ay h3))) ⟨ρ',J3⟩ ?_);refine((c.it.sound (ay (au h3)) ok q1).1).mono λxs S H1 f_=>cP f_ λJ j0 j1 j2=>(aN ρ' J3 ?_);refine yp hs ok (Jn σ' (au (au (au h5))) hs) (λi hi=>DH e2 (eq_of_beq (List.all_eq_true.mp (ay h4) i hi))) (ay (au h5)) (ay (au (au h5))) j1 (λa H2 k=>⟨(j2 a H2 k).1,hq _ _ (j2 a H2 k).2⟩) xs 0 a0 ρ' H1 rfl (aL _) j0 (λx k o hx=>(aN o (Jk _ hx) (.inr rfl))) ?_;refine ah _ (J3.keys ..) ?_;exact nd
def Gw (elt:PE) (B:Bs) (n:Nat) (vals:List (Option V)) (H:List a_) (a:List PyData) (K:List PyData->List a_->Prop):Prop:=elt.wp B n vals H λv H3=>m7 (λd=>a.length<=sizeLine/\K (a++[d]) H3) v
def Qd (kx vx:PE) (B:Bs) (n:Nat) (vals:List (Option V)) (H:List a_) (a:List (Int×PyData)) (K:List (Int×PyData)->List a_->Prop):Prop:=
 kx.wp B n vals H λkv H3=>vx.wp B n vals H3 λvv H4=>jW (λk=>m7 (λd=>a.length<=sizeLine/\K (jV a k d) H4) vv) kv
theorem yq (ok:sK B) {elt:PE}:∀σ',elt.t_ σ' e=true->md σ'->∀vals1 ρ1 H a K K',fQ (jc σ' vals1) ρ1->(∀a H,K a H->K' a H)->Gw elt B n vals1 H a K->PW B n e ρ1 H a K':=
 λσ' h hs vals1 ρ1 H a K K' hl hm q=>Ev.less hl (mS hs _) (qo hs _) ((elt.sound h ok q).mono λv H3 k1=>by refine t5 v (df k1:_) λd k2 k3=>?_;exact(bA d rfl k2 (hm _ _ k3)))
theorem Gx (ok:sK B) {kx vx:PE} {e1:Expr}:∀σ',(kx.t_ σ' e1&&vx.t_ σ' e2)=true->md σ'->∀vals1 ρ1 H a K K',fQ (jc σ' vals1) ρ1->(∀a H,K a H->K' a H)->Qd kx vx B n vals1 H a K->Qg B n e1 e2 ρ1 H a K':=
 λσ' h hs vals1 ρ1 H a K K' hl hm q=>Ev.less hl (mS hs _) (qo hs _) ((kx.sound (ay h) ok q).mono λv H3 k1=>Ev.less hl (mS hs _) (qo hs _) ((vx.sound (au h) ok k1).mono λw H4 k2=>by
  refine cX v (cG k2:_) λk k3=>?_;refine t5 w (df k3:_) λd k4 k5=>?_;exact(pv k d rfl rfl k4 (hm _ _ k5))))
noncomputable def bO (c:CC) (elt:PE):PE:=⟨λσ e=>mO (λx gs sc=>c.t_ σ (λσ'=>elt.t_ σ' x) gs sc) e,λB n vals H Q=>c.wp (Gw elt) [] B n vals H λa H1=>Q (dL a) H1,by
 intro σ e h B n vals H Q ok q;replace h:=pi h;exact mC e h λx gs sc p hc=>Tv gs (CC.sound ok (λZ Z k=>k) hc (yq ok) q:_) λt iter ifs a1 a2 a3 a4 a5 a6 a7 a8=>G0 rH a1 a2 a3 a4 a5 a6 a7 a8⟩
noncomputable abbrev B0_:PE:=xy [gN dW (bO ⟨.bi .B_ [bI .len [sL]],⟨false,[1]⟩,[ID,ID,IC 6],ID⟩ (bZ 311 "dom" 196 eG [cT])) An_,gN jK (bI .len [bE 311 "trail" mA]) Ar_,BR (bE 311 "is_failed" mA)]
noncomputable abbrev Bc_:List PE:=[bO ⟨.bi .B_ [bI .len [sL]],⟨false,[1]⟩,[ID,ID,IC 6],ID⟩ Tk,bI .len [bE 311 "trail" mA]]
noncomputable abbrev Bd_:PT:=bo K8.XN Yx (bO ⟨.bi .B_ [bI .len [sL]],⟨false,[1]⟩,[ID,ID,IC 6],ID⟩ Tk)
variable {Q Q':iY->fF->List a_->Prop} {v:Expr}
structure PG where
 t_:lJ->Expr->Bool
 wp:Bs->Nat->List (Option V)->List a_->V->(List (Option V)->List a_->Prop)->Prop
 sound:∀{σ:lJ} {t:Expr},t_ σ t=true->∀{B:Bs} {n:Nat} {vals:List (Option V)} {H:List a_} {v:V} {K:List (Option V)->List a_->Prop},sK B->wp B n vals H v K->As B n t (jc σ vals) H v λρ' H'=>∃L6,ρ'=jc σ L6/\K L6 H'
noncomputable def PG.var (i:Nat):PG:=⟨λσ t=>kM (λx=>nZ σ i x) t,λZ Z vals H v K=>aW vals[i]? λZ=>K (vals.set i (IC v)) H,by
 intro σ t h B n vals H v K ok q;replace h:=d0 h;exact jq t h λx p hc=>aG (kC hc:_) λk hk hs=>jF q λo e q1=>As.name (o8 hs _ hk e) (aN _ rfl q1)⟩
theorem yr:∀(is:List Nat) {es:List Expr} {ds:List PyData} {vals vals1:List (Option V)},qp σ is es=true->r9 vals is ds=IC vals1->∃xs,gi es=IC xs/\fb es=true/\es.length=ds.length/\Je (jc σ vals) xs (ds.map V.dat) (jc σ vals1):=by
 intro is
 induction is with
 |nil=>
  intro es ds vals vals1 h1 h2
  cases es with
  |cons=>exact fP h1
  |nil=>cases ds with
   |cons=>exact ft h2
   |nil=>cases h2;exact(qS _ rfl rfl rfl .nil)
 |cons i is ih=>
  intro es ds vals vals1 h1 h2
  cases es with
  |nil=>exact fP h1
  |cons e es=>cases ds with
   |nil=>exact ft h2
   |cons d ds=>
    exact jq e (d0 (ay h1):_) λx p hx=>aG (kC hx:_) λk hk hs=>sj h2 λo e1 h3=>lO (ih (au h1) h3:_) λxs a1 a2 a3 a4=>(qS (x::xs) (mH a1) a2 (congrArg (·+1) a3) (.cons (o8 hs _ hk e1) a4))
noncomputable def PG.tup (is:List Nat):PG:=⟨λσ t=>jh (λes Z=>qp σ is es) t,λZ Z vals H v K=>Ax (λxs=>aW (r9 vals is xs) λv1=>K v1 H) v,by
 intro σ t h B n vals H v K ok q;replace h:=i5 h;exact fR t h λes k p hc=>cX v (kD q:_) λxs q1=>jF q1 λv1 e q2=>lO (yr is hc e:_) λys a1 a2 a3 a4=>As.tuple (Nt.names a1 a4 (aN _ rfl q2)) a3 a2⟩
noncomputable def PG.attr (C:Addr) (x:Str) (a:PE):PG:=⟨λσ t=>gh (λo y=>ga x y&&(Ci C&&uP (pH C) x)&&a.t_ σ o) t,λB n vals H v K=>a.wp B n vals H λva H1=>OB C H1 (λi fs=>j7 (iP fs.length 100) (K vals (H1.set i (.inst (iD fs x v)))) False) va,by
 intro σ t h B n vals H v K ok q;replace h:=g9 h;refine fR t h λo y p hc=>?_;have h1:=ay hc;cases eK (ay h1);refine bh (tB (ay (au h1)) ok:_) λhP hB=>Sw ((a.sound (au hc) ok q).mono λva H1 k1=>?_);exact ko va (r5 k1:_) λi fs e1 k4=>bh (qm k4:_) λk2 k3=>(NX C i fs rfl hP (hB _ (ww (au (au h1)))) e1 (ab (ak k2) (ak rfl)) (aN _ rfl k3))⟩
structure SB where
 go:List a_->V->V->PyData->(Nat->a_->Prop)->Prop
 ok:∀{H a b d k},go H a b d k->∃i ao,Ma H a b d i ao/\k i ao
noncomputable def SB.list:SB:=⟨λH a b d k=>jW (λj=>tx H (λi xs=>aW (fK j xs.length) λm=>(-(2^63)<=j/\j<2^63)/\k i (.list (xs.set m d))) a) b,λh=>by
 refine aG (cG h:_) λj II h1=>?_;obtain rfl:=II;refine hU (gD h1:_) λi xs IY e h2=>?_;obtain rfl:=IY;refine cP (ew h2:_) λm e2 h3 h4=>?_;exact(ie _ _ (.lst e h3.1 h3.2 e2) h4)⟩
noncomputable def SB.int:SB:=⟨λH a b d k=>jW (λj=>aW (yj a) λi=>aW (H[i]?.bind sM) λkvs=>kvs.length<=sizeLine/\k i (.m_ (jV kvs j d))) b,λh=>by
 refine aG (cG h:_) λj JR h1=>?_;obtain rfl:=JR;refine jF h1 λi e h2=>?_;cases ql e;refine cP (ew h2:_) λkvs e2 h3 h4=>?_;refine sj e2 λao e3 e4=>?_;cases Az e4;exact(ie _ _ (.m_ e3 h3) h4)⟩
noncomputable def SB.str:SB:=⟨λH a b d k=>Gj (λj=>aW (yj a) λi=>aW (H[i]?.bind jj) λkvs=>kvs.length<=sizeLine/\k i (.IJ (Aq kvs j d))) b,λh=>by
 refine aG (oJ h:_) λj Ko h1=>?_;obtain rfl:=Ko;refine jF h1 λi e h2=>?_;cases ql e;refine cP (ew h2:_) λkvs e2 h3 h4=>?_;refine sj e2 λao e3 e4=>?_;cases tw e4;exact(ie _ _ (.IJ e3 h3) h4)⟩
noncomputable def PG.sub (p:SB) (a b:PE):PG:=⟨λσ t=>eJ (λo i=>a.t_ σ o&&b.t_ σ i) t,λB n vals H v K=>m7 (λd=>a.wp B n vals H λva H1=>b.wp B n vals H1 λvb H2=>p.go H2 va vb d λk ao=>K vals (H2.set k ao)) v,by
 intro σ t h B n vals H v K ok q;replace h:=dQ h;refine fR t h λo i ps hc=>cX v (df q:_) λd q1=>Vw ((a.sound (ay hc) ok q1).mono λva H1 k1=>(b.sound (au hc) ok k1).mono λvb H2 k2=>?_);exact gV (p.ok k2:_) λk ao z k3=>(ie k ao z (aN _ rfl k3))⟩
noncomputable abbrev Bs_:PE:=bK .sub (bI .len [bE 311 "marks" eV]) cT
noncomputable abbrev KS:=iY->List (Option V)->List a_->Prop
def SJ (σ:lJ) (K:KS):iY->fF->List a_->Prop:=λf ρ' H'=>∃L6,ρ'=jc σ L6/\K f L6 H'
structure PS where
 t_:lJ->Stmt->Bool
 wp:Bs->Nat->List (Option V)->List a_->KS->Prop
 sound:∀{σ:lJ} {s:Stmt},t_ σ s=true->∀{B:Bs} {n:Nat} {vals:List (Option V)} {H:List a_} {K:KS},sK B->wp B n vals H K->JM B n s (jc σ vals) H (SJ σ K)
noncomputable def yt (rest:List (Option V)->List a_->Prop) (K:KS):KS:=λf vals H=>match f with
 |.next=>rest vals H
 |.ret v=>K (.ret v) vals H
noncomputable def cA:List PS->Bs->Nat->List (Option V)->List a_->KS->Prop
 |[],_,_,vals,H,K=>K .next vals H
 |s::ss,B,n,vals,H,K=>s.wp B n vals H (yt (λv1 H1=>cA ss B n v1 H1 K) K)
noncomputable def qr (σ:lJ):List PS->List Stmt->Bool
 |[],[]=>true
 |p::ps,s::ss=>p.t_ σ s&&qr σ ps ss
 |_,_=>false
theorem JM.mono {s:Stmt} (h:JM B n s ρ H Q) (hq:∀f ρ' H',Q f ρ' H'->Q' f ρ' H'):JM B n s ρ H Q':=
 λA env s μ W g I=>aM (h A env s μ W g I) (λZ Z IV=>by refine Fy IV λfl ρ' H' μ' W' q r=>?_;exact(Dc fl ρ' H' μ' W' (hq _ _ _ q) r)) λZ Z e=>e
theorem kP (ok:sK B):∀(ps:List PS) {ss:List Stmt} {vals:List (Option V)} {H:List a_} {K:KS},qr σ ps ss=true->cA ps B n vals H K->Ex B n ss (jc σ vals) H (SJ σ K):=by
 intro ps
 induction ps with
 |nil=>intro ss vals H K h q;cases ss with
  |nil=>exact Ex.nil (aN _ rfl q)
  |cons=>exact fP h
 |cons p ps ih=>intro ss vals H K h q;cases ss with
  |nil=>exact fP h
  |cons s ss=>exact Ex.cons ((p.sound (ay h) ok q).mono λf ρ' H' f_=>aG f_ λL6 e k=>by
   subst e
   cases f with
   |next=>exact ih (au h) k
   |ret v=>exact(aN _ rfl k))
noncomputable def wA (e:Expr):Bool:=dp e.ctorIdx 8||(dp e.ctorIdx 9||dp e.ctorIdx 10)
theorem pf0:(pure false:xU Bool)=pure false:=rfl
theorem XM:(pure none:xU (Option (List Str)))=pure none:=rfl
theorem tD (h:(!wA v)=true) (t:Option Expr) (line:Nat) (env:pU):ng v t line env=pure false:=by
 revert h;cases v<;>first|exact λ_=>pf0|exact λh=>absurd h aA
theorem DJ (h:(!dp t.ctorIdx 23)=true) (line:Nat) (env:pU):ng v (IC t) line env=pure false:=by
 show Ck (λ_=>xU Bool) (lm (λ_=>Option pA) v _ _ _ _) _ _=_;generalize lm (λ_=>Option pA) v _ _ _ _=o
 cases o with
 |none=>rfl
 |some sc=>revert h;cases t<;>first|exact λ_=>pf0|exact λh=>absurd h aA
theorem DK {p:FL} {line:Nat} (h:env.kindOf x=IC .cell):ng v (IC (.Name x p)) line env=pure false:=by
 show Ck (λ_=>xU Bool) (lm (λ_=>Option pA) v _ _ _ _) _ _=_;generalize lm (λ_=>Option pA) v _ _ _ _=o
 cases o with
 |none=>rfl
 |some sc=>
  show pure (_&&env.kindOf x==IC .local&&_&&_)=_;exact ah _ h (congrArg pure ((congrArg (λb=>(b&&_)&&_) (Bool.and_false _)).trans rfl))
noncomputable def AG (t v:Expr):Bool:=!dp v.ctorIdx 25||!(dp t.ctorIdx 25||dp t.ctorIdx 24)
theorem U8 (env:pU) (h:(!dp v.ctorIdx 25)=true):(∀ts k p,iC [.Tuple ts k p] v env=pure ID)/\∀ts p,iC [.List ts p] v env=pure none:=by
 revert h;cases v<;>first|exact λ_=>⟨λ_ _ _=>XM,λ_ _=>XM⟩|exact λh=>absurd h aA
theorem vy (h:AG t v=true) (env:pU):iC [t] v env=pure none:=by
 rcases Bool.or_eq_true_iff.mp h with h|h
 ·have:=U8 env h;cases t<;>first|exact XM|exact this.1 _ _ _|exact this.2 _ _
 ·revert h;cases t<;>first|exact λ_=>XM|exact λh=>absurd h aA
theorem Cm (h:(!oa t)=true) (env:pU):(gz [t] env).map (·.2)=[fc t env]:=by
 refine ah _ (C3 ((Bool.not_not _).symm.trans h) ..) ?_;rfl
theorem JM.Mn (h:Ev B n value ρ H λv H1=>As B n t ρ H1 v λρ2 H2=>Q .next ρ2 H2)
 (hs:∀env s μ W,Inv B env ρ H μ W s->swapsWithSole [t] value pos.line env=pure false) (hw:∀env,iC [t] value env=pure ID)
 (ht:∀env,(gz [t] env).map (·.2)=[fc t env]):JM B n (.Assign [t] value pos) ρ H Q:=by
 intro A env s μ W g I;refine wpAny_Assign_stores (h.then g I λv H1 μ1 W1 c s1 h1 I1 x1 r1=>?_) (hs env s μ W I) (hw env);rw[ht];show aC B.M A (fc t env c) _ _ s1;exact aM (h1 A env s1 μ1 W1 c g I1 r1) (λZ s2 IV=>by refine aE IV λρ2 H2 μ2 W2 q I2 x2=>?_;exact(xI .next ρ2 H2 μ2 W2 q I2 (x1.Jw.trans x2 I.o_ I.J9) rfl)) λZ Z e=>e
theorem vz (I:Inv B env (jc σ vals) H μ W s) (hi:σ.slots[i]?=IC (x,.cell)) (hv:vals[i]?=IC o):env.kindOf x=IC .cell:=by
 rcases I.vars x _ (az _ (ji _ hi hv))with⟨h,_⟩|⟨_,h,_⟩|⟨h,_⟩|⟨h,_⟩
 ·cases h
 ·exact h
 ·cases h
 ·cases h
noncomputable def aZ (g:PG) (a:PE):PS:=⟨λσ s=>j4 (λts v=>jx ts.head? λt=>ts.tail.isEmpty&&((!wA v||!dp t.ctorIdx 23)&&(AG t v&&!oa t)&&(g.t_ σ t&&a.t_ σ v))) s,λB n vals H K=>a.wp B n vals H λv H1=>g.wp B n vals H1 v λv2 H2=>K .next v2 H2,by
 intro σ s h B n vals H K ok q;replace h:=ii h;refine fR s h λts v p hc=>uO hc λt e hd=>?_
 cases ts with
 |nil=>exact ft e
 |cons t' ts=>
  cases e;have h0:=ay hd;cases ez h0;have h1:=ay (au hd);have h2:=au (au hd);refine JM.Mn ((a.sound (au h2) ok q).mono λva H1 k1=>g.sound (ay h2) ok k1) (λenv Z Z Z Z=>?_) (vy (ay (au h1))) (Cm (au (au h1)));rcases Bool.or_eq_true_iff.mp (ay h1)with h3|h3
  ·exact tD h3 _ _ _
  ·exact DJ h3 _ _⟩
noncomputable def iW (i:Nat) (a:PE):PS:=⟨λσ s=>j4 (λts v=>jx ts.head? λt=>ts.tail.isEmpty&&(AG t v&&(kM (λx=>iR σ i x&&nZ σ i x) t&&a.t_ σ v))) s,λB n vals H K=>aW vals[i]? λZ=>a.wp B n vals H λv H1=>K .next (vals.set i (IC v)) H1,by
 intro σ s h B n vals H K ok q;replace h:=ii h;refine fR s h λts v p hc=>uO hc λt e hd=>?_
 cases ts with
 |nil=>exact ft e
 |cons t' ts=>
  cases e;have h0:=ay hd;cases ez h0;have h1:=au (au hd);refine gV (d0 (ay h1):_) λx p2 JX hx=>?_;obtain rfl:=JX;refine jF q λo e1 q1=>JM.Mn ((a.sound (au h1) ok q1).mono λva H1 k1=>(PG.var i).sound (t:=.Name x p2) (K:=λv2 H2=>K .next v2 H2) (au hx) ok ?_) (λenv s μ W I=>DK (line:=p.line) (vz I (lB (ay hx)) e1)) (vy (ay (au hd))) (Cm rfl);show aW vals[i]? _;refine ah _ e1 ?_;exact k1⟩
noncomputable def dY (a:PE):PS:=⟨λσ s=>sJ (λv=>!wA v&&a.t_ σ v) s,λB n vals H K=>a.wp B n vals H λZ H1=>K .next vals H1,by
 intro σ s h B n vals H K ok q;replace h:=tq h;exact jq s h λv p hc=>JM.expr ((a.sound (au hc) ok q).mono λva H1 k1=>(aN _ rfl k1)) λenv=>tD (ay hc) _ _ _⟩
noncomputable def br (a:PE):PS:=⟨λσ s=>oH (λv=>jx v λe=>a.t_ σ e) s,λB n vals H K=>a.wp B n vals H λv H1=>K (.ret v) vals H1,by
 intro σ s h B n vals H K ok q;replace h:=qj h;exact jq s h λv p hc=>cX v (kB hc:_) λe hd=>JM.ret ((a.sound hd ok q).mono λva H1 k1=>(aN _ rfl k1))⟩
noncomputable abbrev NL:List PS:=[br (fW false)]
noncomputable def PS.QZ:PS:=⟨λσ s=>oH (λv=>v.isNone) s,λB n vals H K=>K (.ret dN) vals H,by
 intro σ s h B n vals H K ok q;replace h:=qj h;refine jq s h λv p hc=>?_
 cases v with
 |some=>exact fP hc
 |none=>exact JM.QZ (aN _ rfl q)⟩
noncomputable def c5 (t:PT) (a b:List PS):PS:=⟨λσ s=>Cc (λt' a' b'=>t.t_ σ t'&&(qr σ a a'&&qr σ b b')) s,λB n vals H K=>t.wp B n vals H λc H1=>j7 c (cA a B n vals H1 K) (cA b B n vals H1 K),by
 intro σ s h B n vals H K ok q;replace h:=yd h;refine mC s h λt' a' b' p hc=>?_;exact JM.ife ((t.sound (ay hc) ok q).mono λc H1 k1=>by
  cases c
  ·exact kP ok b (au (au hc)) k1
  ·exact kP ok a (ay (au hc)) k1)⟩
noncomputable abbrev Ys:List PS:=[c5 (bo jK (bn 436 [eG,Ai_]) Fo) [dY (bZ 311 "new_var" 182 mA [ci [ci [bK .sub Qp (bK .pow XI Yw),bK .add Qp (bK .pow XI Yw)]]])] [aZ (.var 8) (bK .add lK (bn 436 [eG,gb 63])),dY (bZ 311 "new_var" 182 mA [bn 76 [bO ⟨.bi .B_ [Tm],⟨false,[1]⟩,[ID,ID,IC 7,IC 8],IC (bo jK (bK .mod (bK .div gv (bK .pow SI cT)) SI) lK)⟩ (bK .sub (bK .add eG cT) lK)]])]]
noncomputable abbrev Av_:List PS:=[c5 (bo dX (bO ⟨.val (bE 311 "clash" mA),⟨false,[1]⟩,[ID,ID,IC 20],IC (gq (fO (bn 455 [cT,cI eG (eE 0 cT)])))⟩ cT) (dU [])) [br (fW false)] [],c5 (bo dX (bO ⟨.val Aq_,⟨false,[1]⟩,[ID,ID,IC 3,IC 6],IC (bo dW (bn 465 [bE 311 "clash" gv,eG,cT]) (dU []))⟩ cT) (dU [])) [br (fW false)] []]
noncomputable abbrev Aw_:List PS:=[aZ (.var 4) (bn 436 [eG,bI .len [sL]]),aZ (.var 15) (cI (ci [eA "<=",eA ">=",eA "!=",eA "="]) (bn 436 [eG,gb 4])),dY (bZ 311 "push" 287 mA []),c5 (gq (fO (bZ 311 "decide" 273 mA [ci [qN,cO 15,bK .sub (bK .add (cI sL qN) (bn 436 [eG,gb 7])) lK]]))) [dY (bZ 311 "pop" 294 mA [lK])] []]
noncomputable abbrev B1_:List PS:=[c5 (pT [bo Fg Qp mA,gq (fO (bZ 311 "strike" 266 cT [ci [eG,eA "!=",Qp],bZ 427 "why_none" 424 eV [cT,sL,Qp]]))]) [br (fW false)] []]
noncomputable abbrev Br_:List PS:=[c5 (gq (fO (bn 376 [cT,eG,gv]))) NL []]
noncomputable def Iy (t:PT) (b:List PS):PS:=⟨λσ s=>Cc (λt' a' b'=>t.t_ σ t'&&qr σ b b') s,λB n vals H K=>t.wp B n vals H λc H1=>c=false/\cA b B n vals H1 K,by
 intro σ s h B n vals H K ok q;replace h:=yd h;refine mC s h λt' a' b' p hc=>?_;exact JM.ife ((t.sound (ay hc) ok q).mono λc H1 k1=>by
  cases k1.1;exact kP ok b (au hc) k1.2)⟩
noncomputable def eB (g:PG) (it:PI) (body:List PS):PS:=⟨λσ s=>Aw (λt i b e=>e.isEmpty&&it.fix&&(it.Mq t&&(it.t_ σ i&&AF i))&&(g.t_ σ t&&qr σ body b)) s,λB n vals H K=>it.wp B n vals H λxs Z H1=>∃J:Nat->List (Option V)->List a_->Prop,J 0 vals H1/\
 (∀k x v H2,xs[k]?=IC x->J k v H2->g.wp B n v H2 (.dat x) λv1 H3=>cA body B n v1 H3 (yt (J (k+1)) K))/\∀v H2,J xs.length v H2->K .next v H2,by
 intro σ s h B n vals H K ok q;replace h:=Dz h;refine Tu s h λt i b e p hc=>?_;have h1:=ay hc;have h0:=ay h1;cases ez (ay h0);have h2:=au h1;refine JM.for (Q:=SJ σ K) (T:=it.T) ?_ (it.tok (ay h2)) (vw (au (au h2)));have hI:=(it.sound (ay (au h2)) ok q).2 (au h0);intro A env s μ W g0 I;refine aM (hI A env s μ W g0 I) (λZ Z h1=>aM h1 (λZ Z k_=>Fy k_ λxs H' μ' W' W0 q r=>(Dc xs H' μ' W' W0 ?_ r)) λZ Z e=>e) λZ Z e=>e;refine cP q λJ j0 j1 j2=>?_;have:∀(ys:List PyData) (k:Nat) (v:List (Option V)) (H:List a_),xs.drop k=ys->k<=xs.length->J k v H->Pz B n t b ys (jc σ v) H (SJ σ K):=by
  intro ys
  induction ys with
  |nil=>
   intro k v H hk hle hj;have:k=xs.length:=cC hle (List.drop_eq_nil_iff.mp hk);subst this;exact(aN v rfl (j2 _ _ hj))
  |cons y ys ih=>
   intro k v H hk hle hj;have hx:xs[k]?=IC y:=by(refine ah _ (List.head?_drop ..).symm ?_;refine ah _ hk ?_);rfl
   have IZ:xs.drop (k+1)=ys:=by(refine ah _ (List.tail_drop ..).symm ?_;refine ah _ hk ?_);rfl
   have hs:=g.sound (ay (au hc)) ok (j1 k y v H hx hj);intro A env s μ W c g1 I1 r1;refine aM (hs A env s μ W c g1 I1 r1) (λZ Z j_=>rV j_ λρ1 H3 μ3 W3 p_ r=>aG p_ λv1 e1 q1=>(rW ρ1 H3 μ3 W3 ?_ r)) λZ Z e=>e;subst e1;refine(kP ok body (au (au hc)) q1).mono λf ρ2 H4 OW=>aG OW λv2 e2 q2=>?_;subst e2
   cases f with
   |next=>exact ih (k+1) v2 H4 IZ (c8 hx) q2
   |ret w=>exact(aN v2 rfl q2)
 exact this xs 0 vals H' rfl (aL _) j0⟩
noncomputable abbrev Au_:List PS:=[c5 (qG [bo dX (cO 22) (cI Yx qN),bo dX (bO ⟨.val Yu,⟨false,[1]⟩,[ID,ID,IC 20],IC (gq (fO (bn 455 [cT,cI eG (eE 0 cT)])))⟩ cT) (dU [])]) [br (fW false)] [],aZ (.sub .list Yx qN) (bn 460 [cI Yx qN,Ap_]),eB (.var 12) (.val Aq_) [c5 (pT [bo dW (bn 465 [Yu,gv,NN]) (dU []),bo dX (bn 465 [dU [Ap_],gv,NN]) (dU [])]) [br (fW false)] []]]
noncomputable def zS (t:PT) (body:List PS):PS:=⟨λσ s=>to (λt' b e=>e.isEmpty&&(t.t_ σ t'&&qr σ body b)) s,λB n vals H K=>∃J:Nat->List (Option V)->List a_->Prop,(∃k,J k vals H)/\∀k v H1,J k v H1->t.wp B n v H1 λc H2=>j7 c (cA body B n v H2 (yt (λv2 H3=>∃m,m<k/\J m v2 H3) K)) (K .next v H2),by
 intro σ s h B n vals H K ok q;replace h:=yc h;refine mC s h λt' b e p hc=>?_;cases ez (ay hc);refine aG q λJ LW j1=>?_;refine bm LW λk j0=>?_;refine JM.while (λk ρ H=>∃v,ρ=jc σ v/\J k v H) (λk ρ H OW=>?_) k (aN vals rfl j0);refine aG OW λv e hj=>?_;subst e;refine(t.sound (ay (au hc)) ok (j1 k v H hj)).mono λc H2 k1=>?_
 cases c with
 |false=>exact(aN v rfl k1)
 |true=>
  refine(kP ok body (au (au hc)) k1).mono λf ρ2 H3 OW=>aG OW λv2 e2 q2=>?_
  cases f with
  |next=>refine aG q2 λm hm hj=>?_;exact(aN m hm (aN v2 e2 hj))
  |ret w=>exact(aN v2 e2 q2)⟩
variable {gs:List jw} {line:Nat} {p py:FL} {sc:pA}
noncomputable def rc (σ:lJ) (i:Nat) (x:Str):Bool:=jx σ.slots[i]? λp=>ga x p.1&&dp p.2.ctorIdx 0
theorem mT (h:rc σ i x=true):σ.slots[i]?=IC (x,.loc):=by
 refine uO h λf_ e h1=>?_;obtain⟨y,k⟩:=f_;cases eK (ay h1);have:dp k.ctorIdx 0=true:=au h1;cases k<;>first|exact e|exact absurd this (by decide)
noncomputable def qs (sc:pA) (y:Str):Bool:=sc.names.any λ(n,k)=>n==y&&(k==.local||k==.cell)
theorem AH {elt:Expr} (h1:(py.line==p.line)=true) (h2:(!qs sc y)=true):∀env:pU,env.scope.kind=.function->env.kindOf y=IC .local->ng (.ListComp elt gs sc p) (IC (.Name y py)) line env=pure true:=by
 intro env hk hl;show(pure (env.blockKind==.function&&env.kindOf y==IC .local&&py.line==p.line&&!qs sc y):xU Bool)=_;have:env.blockKind=.function:=by unfold AI;refine ah _ hk ?_;rfl
 (refine ah _ this ?_;refine ah _ hl ?_;refine ah _ h1 ?_;refine ah _ h2 ?_);rfl
theorem AJ {kx vx:Expr} (h1:(py.line==p.line)=true) (h2:(!qs sc y)=true):∀env:pU,env.scope.kind=.function->env.kindOf y=IC .local->ng (.DictComp kx vx gs sc p) (IC (.Name y py)) line env=pure true:=by
 intro env hk hl;show(pure (env.blockKind==.function&&env.kindOf y==IC .local&&py.line==p.line&&!qs sc y):xU Bool)=_;have:env.blockKind=.function:=by unfold AI;refine ah _ hk ?_;rfl
 (refine ah _ this ?_;refine ah _ hl ?_;refine ah _ h1 ?_;refine ah _ h2 ?_);rfl
noncomputable def Qh (σ:lJ) (i:Nat) (t v:Expr) (sc:pA):Bool:=kM (λy=>rc σ i y&&(t.pos.line==v.pos.line&&!qs sc y)) t
noncomputable def iX (i:Nat) (c:CC) (elt:PE):PS:=⟨λσ s=>j4 (λts v=>jx ts.head? λt=>ts.tail.isEmpty&&mO (λx gs sc=>Qh σ i t v sc&&c.t_ σ (λσ'=>elt.t_ σ' x) gs sc) v) s,λB n vals H K=>aW vals[i]? λZ=>c.wp (Gw elt) [] B n vals H λa H1=>K .next (vals.set i (IC (dL a))) H1,by
 intro σ s h B n vals H K ok q;replace h:=ii h;refine fR s h λts v sp hc=>uO hc λt e hd=>?_
 cases ts with
 |nil=>exact ft e
 |cons t' ts=>
  cases e;have h0:=ay hd;cases ez h0;refine rV (pi (au hd):_) λx gs sc p j_ he=>?_;obtain rfl:=j_;refine gV (d0 (ay he):_) λy py p_ hy=>?_;obtain rfl:=p_;refine jF q λo e1 q1=>?_;have LC:=mT (ay hy);refine TM (CC.sound (Q':=λa H2=>∃ρ2,Lb (jc σ vals) y (dL a) ρ2/\SJ σ K .next ρ2 H2) ok (λa H2 k=>(aN _ (o8 (k:=.loc) ⟨nofun,nofun⟩ _ LC e1) (aN _ rfl k))) (au he) (yq ok) q1:_) λt iter ifs s_ a1 a2 a3 a4 a5 a6 a7 a8=>?_;obtain rfl:=s_;exact G3 rH a1 (AH (ay (au hy)) (au (au hy))) (λZ Z=>rfl) a2 a3 a4 a5 a6 (az _ (ji _ LC e1)) a7 a8⟩
noncomputable def uk (i:Nat) (c:CC) (kx vx:PE):PS:=⟨λσ s=>j4 (λts v=>jx ts.head? λt=>ts.tail.isEmpty&&mP (λk x gs sc=>Qh σ i t v sc&&c.t_ σ (λσ'=>kx.t_ σ' k&&vx.t_ σ' x) gs sc) v) s,λB n vals H K=>aW vals[i]? λZ=>c.wp (Qd kx vx) [] B n vals H λa H1=>K .next (vals.set i (IC (.m_ a))) H1,by
 intro σ s h B n vals H K ok q;replace h:=ii h;refine fR s h λts v sp hc=>uO hc λt e hd=>?_
 cases ts with
 |nil=>exact ft e
 |cons t' ts=>
  cases e;have h0:=ay hd;cases ez h0;refine Fy (pj (au hd):_) λk x gs sc p II he=>?_;obtain rfl:=II;refine gV (d0 (ay he):_) λy py IY hy=>?_;obtain rfl:=IY;refine jF q λo e1 q1=>?_;have LC:=mT (ay hy);refine TM (CC.sound (Q':=λa H2=>∃ρ2,Lb (jc σ vals) y (.m_ a) ρ2/\SJ σ K .next ρ2 H2) ok (λa H2 k=>(aN _ (o8 (k:=.loc) ⟨nofun,nofun⟩ _ LC e1) (aN _ rfl k))) (au he) (Gx ok) q1:_) λt iter ifs JR a1 a2 a3 a4 a5 a6 a7 a8=>?_;obtain rfl:=JR;exact G3 xZ a1 (AJ (ay (au hy)) (au (au hy))) (λZ Z=>rfl) a2 a3 a4 a5 a6 (az _ (ji _ LC e1)) a7 a8⟩
noncomputable abbrev Bb_:List PS:=[uk 6 ⟨.val qN,⟨false,[1]⟩,[ID,ID,IC 5],ID⟩ (cI cT eG) (fW true),eB (.var 7) (.val (bn 116 [bZ 311 "dom" 196 cT [eG]])) B1_]
noncomputable def wB (σ:lJ) (x:Str) (o:PE) (ps:List PE) (e:Expr):Bool:=jg (λfn args Jx=>Jx.isEmpty&&gA σ ps args&&(fn.pos.endLine==e.pos.line&&gh (λo' y=>ga x y&&(tA o'&&o.t_ σ o')) fn)) e
theorem re {o:PE} {ps:List PE} (h:wB σ x o ps e=true):∃o' ap args p,e=.Call (.Attribute o' x ap) args [] p/\gA σ ps args=true/\(ap.endLine==p.line)=true/\(∀env,fG o' x env (dq o' env)=dq o' env)/\o.t_ σ o'=true:=by
 replace h:=fu h;refine rV h λfn args Jx p Ko hc=>?_;obtain rfl:=Ko;refine pt (g9 (au (au hc)):_) λo' y ap J7 hd=>?_;obtain rfl:=J7;cases ez (ay (ay hc));cases eK (ay hd);exact(NW o' ap args p rfl (au (ay hc)) (ay (au hc)) (oK (ay (au hd)) _) (au (au hd)))
theorem wC (h:gA σ [a] args=true):∃e,args=[e]/\a.t_ σ e=true/\(!oa e)=true:=by
 cases args with
 |nil=>exact fP h
 |cons e es=>cases es with
  |nil=>exact(bA e rfl (ay (au h)) (ay h))
  |cons=>have:=au (au h);exact fP this
theorem Sa (h:(!oa e)=true) (pos:FL):∀env,((gy pos (cJ [e] env)).all (λx=>!x.1)&&(j6 pos (f7 [] env)).all (λx=>x.1.isSome)&&decide ([e].length+([]:List jB).length+(if([]:List jB).isEmpty then 0 else 1)<30))=true:=by
 intro env;refine ah _ (ij h ..) ?_;rfl
noncomputable def gE (o a:PE):PE:=⟨λσ e=>wB σ "append" o [a] e,λB n vals H Q=>o.wp B n vals H λva H1=>tx H1 (λi Z=>a.wp B n vals H1 λv H2=>m7 (λd=>aW (H2[i]?.bind ch) λys=>ys.length<=sizeLine/\Q dN (H2.set i (.list (ys++[d])))) v) va,by
 intro σ e h B n vals H Q ok q;replace h:=re h;refine Dd e h λo' ap args p h1 h2 h3 h4=>t5 args (wC h1:_) λe h5 h6=>Ev.append ((o.sound h4 ok q).mono λva H1 k1=>?_) h3 h2 (og h6 rfl) (Sa h6 _) (ij h6);refine ko va (gD k1:_) λi xs e1 k2=>(eu i xs rfl e1 ((a.sound h5 ok k2).mono λv H2 k3=>?_));refine cX v (df k3:_) λd k4=>cP (ew k4:_) λys e2 k5 k6=>sj e2 λao e3 e4=>?_;cases m9 e4;exact(pv d ys rfl e3 k5 k6)⟩
noncomputable abbrev Yq:List PS:=[dY (gE PC (bI .tuple [bO ⟨.val gv,⟨false,[1]⟩,[ID,ID,IC 5,IC 2],ID⟩ (bK .add (cI eG cT) (bn 436 [gv,gb 5]))]))]
noncomputable def Fh (o a:PE):PE:=⟨λσ e=>wB σ "extend" o [a] e,λB n vals H Q=>o.wp B n vals H λva H1=>tx H1 (λi Z=>a.wp B n vals H1 λv H2=>Gh (λd=>aW (H2[i]?.bind ch) λys=>ys.length+d.length<=sizeLine/\Q dN (H2.set i (.list (ys++d)))) v) va,by
 intro σ e h B n vals H Q ok q;replace h:=re h;refine Dd e h λo' ap args p h1 h2 h3 h4=>t5 args (wC h1:_) λe h5 h6=>Ev.extend ((o.sound h4 ok q).mono λva H1 k1=>?_) h3 h2 (og h6 rfl) (Sa h6 _) (ij h6);refine ko va (gD k1:_) λi xs e1 k2=>(eu i xs rfl e1 ((a.sound h5 ok k2).mono λv H2 k3=>?_));refine cX v (oI k3:_) λd k4=>cP (ew k4:_) λys e2 k5 k6=>sj e2 λao e3 e4=>?_;cases m9 e4;exact(pv d ys rfl e3 k5 k6)⟩
noncomputable def PE.pop (o:PE):PE:=⟨λσ e=>wB σ "pop" o [] e,λB n vals H Q=>o.wp B n vals H λva H1=>tx H1 (λi xs=>aW xs.getLast? λd=>xs.length<=sizeLine/\Q (.dat d) (H1.set i (.list xs.dropLast))) va,by
 intro σ e h B n vals H Q ok q;replace h:=re h;refine Dd e h λo' ap args p h1 h2 h3 h4=>?_
 cases args with
 |cons=>exact fP h1
 |nil=>
  refine Ev.Z_ ((o.sound h4 ok q).mono λva H1 k1=>?_) h3 h2 (λZ=>rfl);refine ko va (gD k1:_) λi xs e1 k2=>cP (ew k2:_) λd e2 k3 k4=>?_;have hx:xs=xs.dropLast++[d]:=by
   refine gc xs (List.getLast?_eq_some_iff.mp e2:_) λys=>?_;simp
  refine(xK i xs.dropLast d rfl (by(refine ah _ e1 ?_;refine ah _ hx.symm rfl)) ?_ k4);rw[hx,aw]at k3;exact k3⟩
variable {a:Addr} {c:PF} {Q:V->List a_->Prop}
structure FD where
 ps:List Str
 body:List Stmt
 names:List (Str×bB)
noncomputable def tE (s:Stmt):Option FD:=if h:s.ctorIdx=0 then rU (motive_2:=λZ=>Option FD) s h (λZ args body Z Z Z sc Z Z Z=>IC ⟨args.args.map (·.arg),body,sc.names⟩)else ID
structure fB (B:Bs):Prop where
 ok:sK B
 fn:∀p∈ftab,∃d,tE (w2 p.2.1 p.2.2)=IC d/\SE B (.ref p.1) d.ps d.body d.names
structure PF where
 m:Nat
 SP:List Nat
 body:List PS
noncomputable def qt:List (Option V)->List Nat->List V->Option (List (Option V))
 |v,[],[]=>IC v
 |v,i::is,d::ds=>v[i]?.bind λZ=>qt (v.set i (IC d)) is ds
 |_,_,_=>ID
def PF.wp (c:PF) (B:Bs) (n:Nat) (vs:List V) (H:List a_) (Q:V->List a_->Prop):Prop:=aW (qt (lL c.m ID) c.SP vs) λvals=>cA c.body B n vals H λfl Z H1=>∃v0 H0,K7 H.length (pf fl) H1 v0 H0/\Q v0 H0
noncomputable def rM (σ:lJ):List Nat->List Str->Bool
 |[],[]=>true
 |i::is,x::xs=>nZ σ i x&&rM σ is xs
 |_,_=>false
noncomputable def kQ:List (Str×bB)->List (Option Nat)
 |[]=>[]
 |(_,k)::r=>k.casesOn (none::kQ r) (none::kQ r) (none::kQ r) (kQ r) (kQ r)
noncomputable def PF.t_ (c:PF) (d:FD):Bool:=wz d.names&&jx (r7 ⟨[],[]⟩ d.names (kQ d.names)) λσ=>Oi σ&&(σ.slots.length==c.m&&(rM σ c.SP d.ps&&qr σ c.body d.body))
noncomputable def f9 (a:Addr) (c:PF):Bool:=ftab.any λp=>p.1==a&&jx (tE (w2 p.2.1 p.2.2)) c.t_
theorem vA {σ':lJ}:∀(names:List (Str×bB)) (σ:lJ),r7 σ names (kQ names)=IC σ'->sk [] (kQ names)=IC (lL σ'.slots.length ID):=by
 intro names
 induction names generalizing σ' with
 |nil=>intro σ h;cases h;rfl
 |cons p ns ih=>
  obtain⟨x,k⟩:=p;intro σ h
  cases k with
  |«local»=>
   refine ig σ' (Option.map_eq_some_iff.mp (show eH _ _=_ from h):_) λs e=>?_;show ir (IC ID) (λo=>(sk [] (kQ ns)).map (o::·))=_;refine ah _ (ih σ e ..) ?_;rfl
  |cell=>
   refine ig σ' (Option.map_eq_some_iff.mp (show eH _ _=_ from h):_) λs e=>?_;show ir (IC ID) (λo=>(sk [] (kQ ns)).map (o::·))=_;refine ah _ (ih σ e ..) ?_;rfl
  |free=>exact ft h
  |globalExplicit=>exact ft h
  |globalImplicit=>
   exact sj (show ir _ _=_ from h) λc e1 h3=>ig σ' (Option.map_eq_some_iff.mp h3:_) λs e=>ih (σ':=s) σ e
theorem yu (hs:md σ) (hn:∀i<σ.slots.length,vals0[i]?=IC ID):∀(is:List Nat) {ps:List Str} {vs:List V} {vals vals1:List (Option V)} {ρ:fF},rM σ is ps=true->qt vals is vs=IC vals1->fQ (jc σ vals) ρ->fQ (jc σ vals0) ρ->(ρ.map (·.1)).Nodup->
 ∃ρ1,Je ρ ps vs ρ1/\fQ (jc σ vals1) ρ1:=by
 intro is
 induction is with
 |nil=>
  intro ps vs vals vals1 ρ h1 h2 hl h0 nd
  cases ps with
  |cons=>exact fP h1
  |nil=>cases vs with
   |cons=>exact ft h2
   |nil=>cases h2;exact(aN _ .nil hl)
 |cons i is ih=>
  intro ps vs vals vals1 ρ h1 h2 hl h0 nd
  cases ps with
  |nil=>exact fP h1
  |cons x ps=>cases vs with
   |nil=>exact ft h2
   |cons v vs=>
    exact aG (kC (ay h1):_) λk hk Z=>sj h2 λo e1 h3=>lO (yl (v:=v) hl h0 nd hs hk e1 (hn i (c8 hk)):_) λρ1 z l1 l0 SU=>aG (ih (au h1) h3 l1 l0 SU:_) λρ2 zs l2=>(aN ρ2 (.cons z zs) l2)
theorem PF.ready {d:FD} (ok:sK B) (h:c.t_ d=true) (q:c.wp B n vs H Q):∃ρ0 ρ1,JW B [] d.names ρ0/\(d.names.map (·.1)).Nodup/\(∀k,(bR,k)∉d.names)/\Je ρ0 d.ps vs ρ1/\
 Ex B n d.body ρ1 H λfl Z H1=>∃v0 H0,K7 H.length (pf fl) H1 v0 H0/\Q v0 H0:=by
 refine uO (au h) λσ e h1=>bh (me (ay h):_) λnd Jd=>?_;have hs:=wy (ay h1);have hm:σ.slots.length=c.m:=eq_of_beq (ay (au h1));refine jF q λvals e1 q1=>?_;rw[←hm]at e1;refine aG (AD (σ:=⟨[],[]⟩) (vals:=[]) ok d.names e (vA d.names _ e):_) λρ0 J3 Jk=>?_;have hl:fQ (jc σ (lL σ.slots.length ID)) ρ0:=λx k o hx=>(aN o (Jk _ hx) (.inr rfl));refine aG (yu hs (λi hi=>uQ hi) c.SP (ay (au (au h1))) e1 hl hl (by refine ah _ (J3.keys ..) ?_;exact nd):_) λρ1 zs l1=>?_;exact(w3 ρ0 ρ1 J3 nd Jd zs (Ex.less l1 (mS hs _) (qo hs _) ((kP ok c.body (au (au (au h1))) q1).mono λf ρ' H' f_=>aG f_ λZ Z k=>k)))
theorem PF.apC (ok:fB B) (h:f9 a c=true) (q:c.wp B n vs H Q):Mb B (n+1) (.ref a) vs H Q:=by
 refine aG (List.any_eq_true.mp h:_) λp hp h1=>?_;cases eq_of_beq (ay h1);refine uO (au h1) λd e h2=>aG (ok.fn p hp:_) λd' e' hf=>?_;rw[e]at e';cases e';exact uy (PF.ready ok.ok h2 q:_) λρ0 ρ1 h3 h4 h5 h6 h7=>Mb.fn hf h3 h4 h5 h6 h7
theorem PF.ap (ok:fB B) (h:f9 a c=true) (q:c.wp B n vs H Q):Ap B (n+1) (.ref a) vs H Q:=(PF.apC ok h q).ap
variable {Q:iY->fF->List a_->Prop} {k k2:Nat} {tp Oa vp O9:FL} {R:Value->aD->Prop}
theorem tF {Q:List V->List a_->Prop} (h:Ks B n es ρ H λvs H1=>vs.length<=sizeLine/\Q vs H1) (g:Good n A) (I:Inv B env ρ H μ W s)
 (q:∀vs H1 μ1 W1 s1 a (cs:List Value),Q vs H1->Inv B env ρ H1 μ1 W1 s1->Ext [] μ W s μ1 W1 s1->IsTup s1.heap a cs.toArray->i_ B μ1 W1 s1.heap vs cs->R (.ref a) s1):aC B.M A (dq (.Tuple es k pos) env) R (λZ Z=>False) s:=by
 refine ah _ (arm_eval_Tuple ..) (aa (bw (aa (aM (h A env s μ W pos g I) (λcs s1 IV=>?_) λZ Z e=>e))));refine oU IV λvs H1 μ1 W1 f_ I1 x1 r1=>?_;refine bh f_ λhl hq=>?_;have hk:∀b x,s1.heap.get? b=IC x->(s1.heap.push {cls:=.type "tuple",dict:=ID,data:=.seq cs.toArray,slots:=#[]}).get? b=IC x:=b9 _;refine ce (q vs H1 μ1 W1 _ _ cs hq (I1.keeps (cY _ _ rfl) hk) (x1.trans (.keeps hk) I.o_ λZ h=>de h) (bA _ (aH _ rfl) rfl (A9 _ rfl)) (i_.ext I1 (.keeps (own:=[]) hk) r1)) ?_;show cs.toArray.size<=sizeLine
 (refine ah _ (cQ ..) ?_;refine ah _ (r1.length ..).symm ?_);exact hl
theorem JM.swap {names:List Str} (h:Ks B n es ρ H λvs H1=>vs.length<=sizeLine/\vs.length=names.length/\∃ρ',Je ρ names.reverse vs.reverse ρ'/\Q .next ρ' H1)
 (hw:∀env s μ W,Inv B env ρ H μ W s->iC [.Tuple ts k Oa] (.Tuple es k2 O9) env=pure (IC names)):JM B n (.Assign [.Tuple ts k Oa] (.Tuple es k2 O9) pos) ρ H Q:=by
 intro A env s μ W g I;refine Assign_Tuple_swapped (tF h g I λvs H1 μ1 W1 s1 a cs RD I1 x1 ht r1=>?_) rfl (hw env s μ W I);refine bh RD λhl k_=>?_;refine aG k_ λρ' hz q=>?_;have e:names.length=cs.toArray.size:=by(refine ah _ hl.symm ?_;refine ah _ (cQ ..) ?_;refine ah _ (r1.length ..) rfl)
 refine ah _ e (oG g.1 ht λh' he=>?_);have hk:=mG he;have I2:=I1.keeps (s':={s1 with heap:=h'}) (cY _ _ rfl) hk;have x2:=x1.trans (.keeps (s':={s1 with heap:=h'}) hk) I.o_ λZ h=>de h;have r2:i_ B μ1 W1 h' vs cs:=i_.ext (s':={s1 with heap:=h'}) I1 (.keeps (own:=[]) hk) r1;refine wb I2 hz (i_.reverse r2) λs3 I3 x3=>(xI .next ρ' H1 μ1 W1 q I3 (x2.Jw.trans x3 I.o_ I.J9) rfl)
theorem JM.pack (hn:fb ts=true) (h:Ks B n es ρ H λvs H1=>vs.length<=sizeLine/\vs.length=ts.length/\Nt B n ts ρ H1 vs λρ' H2=>Q .next ρ' H2)
 (hw:∀env s μ W,Inv B env ρ H μ W s->iC [.Tuple ts k Oa] (.Tuple es k2 O9) env=pure ID):JM B n (.Assign [.Tuple ts k Oa] (.Tuple es k2 O9) pos) ρ H Q:=by
 intro A env s μ W g I;refine Assign_Tuple (tF h g I λvs H1 μ1 W1 s1 a cs RD I1 x1 ht r1=>?_) rfl (hw env s μ W I);refine bh RD λhl hz=>bh (jv env hn:_) λe1 e2=>ah _ (xX ..) (aa (bw ?_));unfold unpack
 (refine ah _ e1 ?_;refine ah _ e2 ?_)
 have e:ts.length=cs.toArray.size:=by(refine ah _ hl.symm ?_;refine ah _ (cQ ..) ?_;refine ah _ (r1.length ..) rfl)
 refine ah _ e (aa (aV (oG g.1 ht λh' he=>?_)));have hk:=mG he;have I2:=I1.keeps (s':={s1 with heap:=h'}) (cY _ _ rfl) hk;have x2:=x1.trans (.keeps (s':={s1 with heap:=h'}) hk) I.o_ λZ h=>de h;have r2:i_ B μ1 W1 h' vs cs:=i_.ext (s':={s1 with heap:=h'}) I1 (.keeps (own:=[]) hk) r1;exact aM (hz A env {s1 with heap:=h'} μ1 W1 cs g I2 r2) (λZ s3 IV=>by refine aE IV λρ3 H3 μ3 W3 q I3 x3=>?_;exact(xI .next ρ3 H3 μ3 W3 q I3 (x2.Jw.trans x3 I.o_ I.J9) rfl)) λZ Z e=>e
noncomputable def Gy (e:Expr):Bool:=swappedStores.match_5 (λ_=>Bool) e (λ_ _=>true) λ_=>false
noncomputable def yv (env:pU) (line:Nat) (e:Expr):Option Str:=swappedStores.match_8 (λ_=>Option Str) e (λid pos=>if env.kindOf id==IC .local&&pos.line==line then IC id else ID) λ_=>ID
theorem yw (h:b=false):¬(b=true):=λz=>aA (h.symm.trans z)
theorem swap_eq {names:List Str} (h1:(!(ts.length==2||ts.length==3)||es.length !=ts.length||env.blockKind !=.function)=false)
 (h2:es.any Gy=false) (h3:ts.filterMap (yv env ((ts.head?.map (·.pos.line)).getD 0))=names)
 (h4:(names.length !=ts.length||names.eraseDups.length !=names.length)=false) (h5:es.all (foldedForSure 8)=false) (h6:es.all (constantsAlone 8)=false):iC [.Tuple ts k tp] (.Tuple es k2 vp) env=pure (IC names):=by
 subst h3;refine(if_neg (yw h1)).trans ((if_neg (yw h2)).trans ?_);refine(if_neg (yw h4)).trans ((if_neg (yw h5)).trans ?_);exact(if_neg (yw h6))
theorem Ry {a:Str} (h:env.kindOf a=IC .local) (hl:n=m):(env.kindOf a==IC .local&&n==m)=true:=by(refine ah _ h ?_;refine ah _ hl ?_);exact Bool.and_eq_true_iff.mpr ⟨rfl,beq_self_eq_true m⟩
theorem so {f:α->Option β} {e:α}:∀{l:List α},e∈l->f e=ID->(l.filterMap f).length<l.length:=by
 intro l
 induction l with
 |nil=>intro h;exact de h
 |cons a l ih=>
  intro h he;have hle:=bp f l;refine ah _ (dt ..) ?_;rcases List.mem_cons.mp h with rfl|h
  ·refine ah _ he ?_;exact d9 hle
  ·have:=ih h he;cases f a
   ·exact cq this
   ·exact uB this
theorem AK (hm:Af x p∈ts) (hx:env.kindOf x=IC .cell):iC [.Tuple ts k tp] (.Tuple es k2 vp) env=pure none:=by
 by_cases h1:(!(ts.length==2||ts.length==3)||es.length !=ts.length||env.blockKind !=.function)=true
 ·exact if_pos h1
 refine(if_neg h1).trans ?_;by_cases h2:es.any Gy=true
 ·exact if_pos h2
 refine(if_neg h2).trans (if_pos ?_);have:(ts.filterMap (yv env ((ts.head?.map λe:Expr=>e.pos.line).getD 0))).length<ts.length:=so hm (if_neg (by refine ah _ hx ?_;exact aA));exact Bool.or_eq_true_iff.mpr (.inl (bne_iff_ne.mpr (bf this)))
theorem tG:∀(is:List Nat) {xs:List Str} {vs:List V} {vals vals1:List (Option V)},rM σ is xs=true->qt vals is vs=IC vals1->Je (jc σ vals) xs vs (jc σ vals1):=by
 intro is
 induction is with
 |nil=>
  intro xs vs vals vals1 h1 h2
  cases xs with
  |cons=>exact fP h1
  |nil=>cases vs with
   |cons=>exact ft h2
   |nil=>cases h2;exact .nil
 |cons i is ih=>
  intro xs vs vals vals1 h1 h2
  cases xs with
  |nil=>exact fP h1
  |cons x xs=>cases vs with
   |nil=>exact ft h2
   |cons v vs=>
    exact aG (kC (ay h1):_) λk hk hs=>sj h2 λo e1 h3=>.cons (o8 hs _ hk e1) (ih (au h1) h3)
theorem Gz (I:Inv B env (jc σ vals) H μ W s) (hi:σ.slots[i]?=IC (x,.loc)) (hv:vals[i]?=IC o):env.kindOf x=IC .local:=by
 rcases I.vars x _ (az _ (ji _ hi hv))with⟨_,h,_⟩|⟨h,_⟩|⟨h,_⟩|⟨h,_⟩
 ·exact h
 ·cases h
 ·cases h
 ·cases h
theorem Inv.blockKind (I:Inv B env ρ H μ W s):env.blockKind=.function:=by unfold AI;refine ah _ (I.q_.kind ..) ?_;rfl
theorem GA {us:List Expr} {xs:List Str} (h:gi us=IC xs) (hl:(us.all λu=>dp u.pos.line line)=true) (hk:∀x∈xs,env.kindOf x=IC .local):us.filterMap (yv env line)=xs:=by
 induction xs generalizing us with
 |nil=>exact(show us=[]from iZ h)▸rfl
 |cons x xs ih=>
  revert hl;refine jq us (iZ h) λp us e hl=>?_;exact(List.filterMap_cons_some (f:=yv env line) (show yv env line (.Name x p)=IC x from if_pos (Ry (hk x ae) (cz (ay hl))))).trans (congrArg (x::·) (ih e (au hl) λy hy=>hk y (ag _ hy)))
noncomputable def AL (σ:lJ):List Nat->List Str->Bool
 |[],[]=>true
 |i::is,x::xs=>rc σ i x&&AL σ is xs
 |_,_=>false
theorem DL (I:Inv B env (jc σ vals) H μ W s):∀(is:List Nat) {xs:List Str},AL σ is xs=true->(is.all λi=>vals[i]?.isSome)=true->∀x∈xs,env.kindOf x=IC .local:=by
 intro is
 induction is with
 |nil=>intro xs h _ x hx;cases xs with
  |nil=>exact de hx
  |cons=>exact fP h
 |cons i is ih=>intro xs h hv x hx;cases xs with
  |nil=>exact fP h
  |cons y ys=>
   rcases List.mem_cons.mp hx with rfl|hx
   ·exact bm (Option.isSome_iff_exists.mp (ay hv):_) λo e=>Gz I (mT (ay h)) e
   ·exact ih (au h) (au hv) x hx
noncomputable def Rw (us:List Expr):Nat:=(us.head?.map (·.pos.line)).getD 0
noncomputable def Pp (σ:lJ) (is:List Nat) (ps:List PE) (us es:List Expr) (xs:List Str):Bool:=(us.length==2||us.length==3)&&es.length==us.length&&(!es.any Gy&&(xs.length==us.length&&xs.eraseDups.length==xs.length))&&(!es.all (foldedForSure 8)&&!es.all (constantsAlone 8))&&
 ((us.all λu=>dp u.pos.line (Rw us))&&AL σ is xs&&(rM σ is.reverse xs.reverse&&gA σ ps es&&(dp ps.length xs.length&&iP ps.length 100)))
theorem GB {a b:Nat} (h:(a==b)=true):(a !=b)=false:=by cases eq_of_beq h;exact bne_self_eq_false a
theorem tH (h:(!b)=true):b=false:=by cases b;rfl;exact fP h
noncomputable def jL (is:List Nat) (ps:List PE):PS:=⟨λσ s=>j4 (λts v=>jx ts.head? λt=>ts.tail.isEmpty&&jh (λes Z=>jh (λus Z=>jx (gi us) λxs=>Pp σ is ps us es xs) t) v) s,λB n vals H K=>j7 (is.all λi=>vals[i]?.isSome) (m8 ps B n vals H λvs H1=>aW (qt vals is.reverse vs.reverse) λv1=>K .next v1 H1) False,by
 intro σ s h B n vals H K ok q;replace h:=ii h;refine fR s h λts v sp hc=>?_;replace hc:=kB hc;refine aG hc λt e hd=>?_
 cases ts with
 |nil=>exact ft e
 |cons t' ts=>
  cases e;have h0:=ay hd;replace hd:=i5 (au hd);cases ez h0;clear h0;refine fR v hd λes k vp he=>?_;replace he:=i5 he;refine fR t he λus k2 tp hu=>uO hu λxs Nz hu=>bh (qm q:_) λN3 q=>?_;have a1:=ay (ay hu);have a2:=au (ay hu);have a3:=au hu;have b1:=au (au a3);have Lm:=au (ay (au a3));refine JM.swap (names:=xs) ((gC ok ps Lm q).mono λvs H1 hz=>?_) λenv s μ W I=>swap_eq ?_ (tH (ay (au a1))) (GA Nz (ay (ay a3)) (DL I is (au (ay a3)) N3)) ?_ (tH (ay a2)) (tH (au a2))
  ·exact bh hz λhl hk=>jF hk λv1 e1 hk=>(mB (hl▸tr (au b1)) (hl.trans (cz (ay b1))) (aN _ (tG _ (ay (ay (au a3))) e1) (aN _ rfl hk)))
  ·(refine ah _ (I.blockKind ..) ?_;refine ah _ (ay (ay a1) ..) ?_;refine ah _ (GB (au (ay a1)) ..) ?_);rfl
  ·(refine ah _ (GB (ay (au (au a1))) ..) ?_;refine ah _ (GB (au (au (au a1))) ..) ?_);rfl⟩
theorem yx:∀(is:List Nat) {es:List Expr},qp σ is es=true->∃xs,gi es=IC xs/\fb es=true/\rM σ is xs=true/\es.length=is.length:=by
 intro is
 induction is with
 |nil=>intro es h;cases es with
  |nil=>exact(qS _ rfl rfl rfl rfl)
  |cons=>exact fP h
 |cons i is ih=>intro es h;cases es with
  |nil=>exact fP h
  |cons e es=>
   refine jq e (d0 (ay h):_) λx p hx=>lO (ih (au h):_) λxs a1 a2 a3 a4=>(qS (x::xs) (mH a1) a2 ?_ (congrArg (·+1) a4));show(nZ σ i x&&rM σ is xs)=true
   (refine ah _ hx ?_;refine ah _ (a3 ..) ?_);rfl
noncomputable def qI (is:List Nat) (c:Nat) (ps:List PE):PS:=⟨λσ s=>j4 (λts v=>jx ts.head? λt=>ts.tail.isEmpty&&jh (λes Z=>iP ps.length 100&&dp ps.length is.length&&gA σ ps es&&jh (λus Z=>qp σ is us&&us.any λu=>kM (λx=>iR σ c x) u) t) v) s,λB n vals H K=>aW vals[c]? λZ=>m8 ps B n vals H λvs H1=>aW (qt vals is vs) λv1=>K .next v1 H1,by
 intro σ s h B n vals H K ok q;replace h:=ii h;refine fR s h λts v sp hc=>uO hc λt e hd=>?_
 cases ts with
 |nil=>exact ft e
 |cons t' ts=>
  cases e;have h0:=ay hd;cases ez h0;refine fR v (i5 (au hd):_) λes k vp he=>fR t (i5 (au he):_) λus k2 tp hu=>aG (List.any_eq_true.mp (au hu):_) λu hm Zv=>?_;replace Zv:=d0 Zv;refine gV Zv λx px J7 hx=>?_;obtain rfl:=J7;refine jF q λo ho q1=>lO (yx is (ay hu):_) λxs a1 a2 a3 a4=>?_;have hl:=cz (au (ay (ay he)));refine JM.pack a2 ((gC ok ps (au (ay he)) q1).mono λvs H1 IV=>?_) λenv s μ W I=>AK hm (vz I (lB hx) ho);refine bh IV λhlen hk=>jF hk λv1 e1 Mw=>?_;exact⟨hlen▸tr (ay (ay (ay he))),by(refine ah _ hlen ?_;refine ah _ hl ?_;refine ah _ (a4 ..) rfl),Nt.names a1 (tG is a3 e1) (aN _ rfl Mw)⟩⟩
noncomputable def D5 (i:Int) (t:Nat):PE:=⟨λσ e=>kM (λx=>Gf σ.Jo x (.int i t)&&!ga x qZ) e,λZ Z Z H Q=>Q (dI i) H,by
 intro σ e h B n vals H Q ok q;replace h:=d0 h;refine jq e h λx p hc=>?_;intro A env s μ W g I;refine aM (Ev.glob (Q:=λv H'=>v=.raw (.int i t)/\Q (dI i) H') hc ⟨rfl,q⟩ A env s μ W g I) (λc s' IV=>?_) λZ Z e=>e;refine pE IV λv H' μ' W' Ji I' x' r=>?_;refine bh Ji λe q=>?_;subst e;cases(show c=.int i t from r);exact(pI _ H' μ' W' q I' x' (Rp.int _ _))⟩
noncomputable def PE.Z7 (a b:PE):PE:=⟨λσ e=>eJ (λo i=>a.t_ σ o&&qi (λlo up st=>lo.isNone&&st.isNone&&jx up λu=>b.t_ σ u) i) e,λB n vals H Q=>a.wp B n vals H λva H1=>b.wp B n vals H1 λvb H2=>jW (λk=>aW (gT H2 va) λxs=>(va≠dT xs/\0<=k/\xs.length<=sizeLine)/\Q (dL (xs.take k.toNat)) H2) vb,by
 intro σ e h B n vals H Q ok q;replace h:=dQ h;refine fR e h λo i p hc=>mC i (pF (au hc):_) λlo up st p2 hd=>cX up (kB (au hd):_) λu hu=>?_;have h1:=ay (ay hd);have h2:=au (ay hd);cases Option.isNone_iff_eq_none.mp h1;cases Option.isNone_iff_eq_none.mp h2;refine vj ((a.sound (ay hc) ok q).mono λva H1 k1=>(b.sound hu ok k1).mono λvb H2 k2=>?_);exact cX vb (cG k2:_) λk k3=>cP (ew k3:_) λxs e1 k4 k5=>(w3 xs k ((kN e1).resolve_right k4.1) rfl k4.2.1 k4.2.2 (.inl k5))⟩
noncomputable abbrev Yp:PE:=bO ⟨.val (PE.Z7 eV (gb 40)),⟨false,[1]⟩,[ID,ID],ID⟩ (bI .int [cT])
noncomputable def Iz (a b:PE):PE:=⟨λσ e=>eJ (λo i=>a.t_ σ o&&qi (λlo up st=>lo.isNone&&st.isNone&&jx up λu=>b.t_ σ u) i) e,λB n vals H Q=>a.wp B n vals H λva H1=>b.wp B n vals H1 λvb H2=>jW (λk=>tx H2 (λZ xs=>(0<=k/\xs.length<=sizeLine)/\Q (.loc H2.length) (H2++[.list (xs.take k.toNat)])) va) vb,by
 intro σ e h B n vals H Q ok q;replace h:=dQ h;refine fR e h λo i p hc=>mC i (pF (au hc):_) λlo up st p2 hd=>cX up (kB (au hd):_) λu hu=>?_;have h1:=ay (ay hd);have h2:=au (ay hd);cases Option.isNone_iff_eq_none.mp h1;cases Option.isNone_iff_eq_none.mp h2;refine vj ((a.sound (ay hc) ok q).mono λva H1 k1=>(b.sound hu ok k1).mono λvb H2 k2=>?_);exact cX vb (cG k2:_) λk k3=>jU va (gD k3:_) λj xs e1 k4 k5=>(w3 xs k (.loc e1) rfl k4.1 k4.2 (.inr k5))⟩
noncomputable def vZ (a b:PE):PE:=⟨λσ e=>eJ (λo i=>a.t_ σ o&&qi (λlo up st=>up.isNone&&st.isNone&&jx lo λu=>b.t_ σ u) i) e,λB n vals H Q=>a.wp B n vals H λva H1=>b.wp B n vals H1 λvb H2=>jW (λk=>tx H2 (λZ xs=>(0<=k/\xs.length<=sizeLine)/\Q (dL (xs.drop k.toNat)) H2) va) vb,by
 intro σ e h B n vals H Q ok q;replace h:=dQ h;refine fR e h λo i p hc=>mC i (pF (au hc):_) λlo up st p2 hd=>cX lo (kB (au hd):_) λu hu=>?_;have h1:=ay (ay hd);have h2:=au (ay hd);cases Option.isNone_iff_eq_none.mp h1;cases Option.isNone_iff_eq_none.mp h2;refine y8 ((a.sound (ay hc) ok q).mono λva H1 k1=>(b.sound hu ok k1).mono λvb H2 k2=>?_);exact cX vb (cG k2:_) λk k3=>jU va (gD k3:_) λj xs e1 k4 k5=>(w3 xs k (.loc e1) rfl k4.1 k4.2 (.inl k5))⟩
variable {r:Addr} {G:Array GenState->Array GenState->Prop} {a b:Int} {P:Nat->Value->Prop} {R:Do->aD->Prop} {t u v:Tok} {Q:Value->aD->Prop}
theorem n_.of_get {vs:List Value}:∀{ds:List PyData},vs.length=ds.length->(∀(i:Nat) v d,vs[i]?=IC v->ds[i]?=IC d->Rp W h v d)->n_ W h vs ds:=by
 induction vs with
 |nil=>intro ds e _;cases ds with
  |nil=>exact .nil
  |cons=>exact Rh e
 |cons v vs ih=>intro ds e q;cases ds with
  |nil=>exact SS e
  |cons d ds=>exact .cons (q 0 v d rfl rfl) (ih (xD e) λi v' d' h1 h2=>q (i+1) v' d' h1 h2)
theorem yy {fp wr:List Addr} {St:Nat->aD->Prop} (X:WalksS prog w A I fp wr G k P St) (m:Nat) (P0:Nat->Value->Prop):
 WalksS prog w A I fp wr G (m+k) (λi v=>if i<m then P0 i v else P (i - m) v) (λi s=>m<=i/\St (i - m) s)where
 sub:=X.sub
 grefl:=X.grefl
 gtrans:=X.gtrans
 frame:=λi s h' tk f_ ht hk=>bh f_ λhm st=>⟨hm,X.frame _ s h' tk st ht hk⟩
 item:=λi s Q E hi k_ q=>bh k_ λhm st=>X.item (i - m) s Q E (Nat.sub_lt_left_of_lt_add hm hi) st λv s' hp LB hmv=>q v s' (by refine ah _ (if_neg (uA hm) ..) ?_;exact hp) ⟨bP hm,by refine ah _ (show i+1 - m=i - m+1 by exact Nat.succ_sub hm) ?_;exact LB⟩ hmv
 done:=λs Q E j_ q=>bh j_ λhm st=>X.done s Q E (by rwa [show m+k - m=k by exact WD]at st) q
 self:=λi s Q E p_ q=>bh p_ λhm st=>X.self _ s Q E st q
theorem AM (hr:IsRange s.heap r a b 1 t u v) (hh:A.handled=ID)
 (hQ:∀(St:Nat->Heap->Prop),Walks B.prog B.w A s.heap.objs.size [s.heap.objs.size] [s.heap.objs.size] (b - a).toNat (λi v=>∃t,v=.int (a+(i:Int)*1) t) St->∀o:Obj,St 0 (s.heap.push o)->o.isFreed=false->Q (.ref s.heap.objs.size) {s with heap:=s.heap.push o}):
 aC B.M A (l4 (.ref r)) Q E s:=by
 by_cases hs:vg a b 1=true
 ·refine wpAny_pyIter_range hr hs (ah _ (kK ..) ?_);exact hQ _ (Walks.range hh _ a 1 (b - a).toNat) _ (by have:=aH s.heap (o:={cls:=.type "range_iterator",data:=.fields #[em a,em ((b - a).toNat:Int),em 1]}) rfl;simpa [IsRangeIter]using this) rfl
 ·refine wpAny_pyIter_longrange hr (by simpa using hs) ?_;refine ah _ (kK ..) ?_;exact hQ _ (Walks.longrange hh _ a 1 (b - a).toNat) _ (by have:=aH s.heap (o:={cls:=.type "longrange_iterator",data:=.fields #[em a,em ((b - a).toNat:Int),em 1]}) rfl;simpa [IsLongIter]using this) rfl
theorem rg (hh:A.handled=ID) (hr:IsRange s.heap r a b 1 t u v) (hlen:items.size+(b - a).toNat<sizeLine) (S:Addr) (c₀:Nat) (hS:s.heap.get? S=IC {cls:=.type "list",data:=.seq items c₀})
 (hR:∀h' tk Pu c',(∀b o,b≠S->s.heap.get? b=IC o->h'.get? b=IC o)->h'.get? S=IC {cls:=.type "list",dict:=ID,data:=.seq Pu c',slots:=#[]}->
  ItemsOf (λi v=>if i<items.size then items[i]?=IC v else∃t,v=.int (a+((i - items.size:Nat):Int)*1) t) Pu (items.size+(b - a).toNat)->R (.ok (.ret .none)) {s with heap:=h',toks:=tk}):
 aC B.M A.in1 (gB (.ref S) (.ref r) .none)
  (λfin s'=>match fin with|.done f=>R (.ok f) s'|.again c'=>c'.quiet=true/\eY B.M A c' R s') (λe s'=>R (.error e) s') s:=by
 have hn:=kK a b;have hSr:S≠r:=λe=>by rw[e,hr]at hS;simp at hS
 have Pd:S<s.heap.objs.size:=b0 hS;have Qa:S≠s.heap.objs.size:=bf Pd;have Y9:S∉[s.heap.objs.size]:=λhm=>Qa (List.mem_singleton.mp hm);have key:∀{St:Nat->Heap->Prop} (X:Walks B.prog B.w A.in1 s.heap.objs.size [s.heap.objs.size] [s.heap.objs.size] (b - a).toNat (λi v=>∃t,v=.int (a+(i:Int)*1) t) St) (h:Heap) (c₁ tk:Nat),St 0 h->(∀b o,b≠S->s.heap.get? b=IC o->h.get? b=IC o)->
  h.get? S=IC {cls:=.type "list",data:=.seq items c₁}->eY B.M A (.builtin "list.extend.loop" ⟨[.ref S,.ref s.heap.objs.size,.none],[]⟩) R {s with heap:=h,toks:=tk}:=by
  intro St X h c₁ tk hit hk LI;refine codeAny_extend_loopS (yy X.toS items.size λi v=>items[i]?=IC v) (bj hlen) S Y9 .none (b - a).toNat items.size _ items c₁ X3 X2 ⟨aq _,by refine ah _ (gZ ..) ?_;exact hit⟩ LI ⟨rfl,λj v hj=>?_⟩ λs' Pu c' hm V_ KO=>?_
  ·obtain⟨r_,_⟩:=Array.getElem?_eq_some_iff.mp hj;refine ah _ (if_pos r_ ..) ?_;exact hj
  ·refine ah _ (Moved.eq_with hm ..) (hR s'.heap s'.toks Pu c' (λb o hb e=>hm.heap b o (λJl=>?_) (hk b o hb e)) V_ KO);rcases List.mem_cons.mp Jl with e'|Jl
   ·exact hb e'
   ·exact absurd (b0 e) (by refine ah _ (List.mem_singleton.mp Jl ..) ?_;exact b7 _)
 unfold gB;refine aa (il (T:="range") (aN _ hr rfl) ?_);have h1:sN (.ref S) (.ref r)=false:=by simp[sN,hSr]
 have h2:(gH "range"==gH "list")=false:=rfl;have h3:(gH "range"==gH "tuple")=false:=by assumption
 simp only[h1,h2,h3,Bool.or_false,gP,if_false];refine aa (AM hr hh λSt X o TW hof=>?_);refine aa (aV (wpAny_hint_range (n:=(b - a).toNat) (av _ hr) hn (ab (ab (f6 _ _) (bj hlen)) (aq sizeLine)) ?_));have LI:=av o hS;refine iw (λZ=>?_) (λZ=>ai ⟨eD lM _,key X _ c₀ _ TW (λb o' Z e=>av _ e) LI⟩);refine aa (nz ?_);refine aa ?_;show aC _ _ (sO S (·.push .none)>>=λZ=>sO S (·.pop)) _ _ _;refine aa (iz (hz:=WZ hlen) LI rfl ?_);have LH:=bT (dw (·.push gF)) LI rfl;refine iz (hz:=by show _<=_;simp;exact X0 hlen) LH rfl ?_;have V9:=bT (dw (·.pop)) LH rfl;refine ai ⟨eD lM _,key X _ _ _ (X.frame 0 _ _ TW λb hb o' e=>?_) (λb o' hb e=>?_) (by refine ah _ (V9 ..) ?_;simp[dw];rfl)⟩
 ·cases List.mem_singleton.mp hb;exact(jH _ _ Qa).trans ((jH _ _ Qa).trans e)
 ·exact(jH _ _ (di hb)).trans ((jH _ _ (di hb)).trans (av _ e))
theorem Ev.Pj {o:Expr} {p2:FL} {fx:Str} {Q:V->List a_->Prop} (h:Ev B n o ρ H λa H1=>∃i xs,a=.loc i/\H1[i]?=IC (.list xs)/\Ev B n (.Name fx p) ρ H1 λf H2=>f=.raw (.type "range")/\Ks B n args ρ H2 λvs H3=>∃l u ys,vs=[dI l,dI u]/\H3[i]?=IC (.list ys)/\ys.length+(u - l).toNat<sizeLine/\Q dN (H3.set i (.list (ys++gd (dG l u)))))
 (JK:∀env,fG o "extend" env (dq o env)=dq o env) (JI:(apos.endLine==pos.line)=true) (hp:fb args=true):
 Ev B n (.Call (.Attribute o "extend" apos) [.Call (.Name fx p) args [] p2] [] pos) ρ H Q:=by
 intro A env s μ W g I;refine oE (JK env) (Sa rfl pos env) JI ja w9 wa (h.then g I λa H1 μ1 W1 ca s1 h1 I1 x1 r1=>?_);refine hU h1 λi xs f_ hi hE=>?_;obtain rfl:=f_;refine aG r1 λl hl k_=>?_;obtain rfl:=k_;refine aG (I1.objs _ _ _ hl hi:_) λitems pl rs=>bh (mF pl:_) λt1 t2=>⟨t1,t2,fy (.inl ⟨_,rfl⟩) rfl ?_⟩;refine ah _ (ij rfl ..) (l5 ?_);show aC B.M A (do pz p2 (←dq (.Name fx p) env) [] (gy p2 (cJ args env)) (j6 p2 (f7 [] env))) _ _ s1;refine aa (hE.then g I1 λf H2 μ2 W2 c s2 h2 I2 x2 r2=>?_);refine bh h2 λj_ hA=>?_;obtain rfl:=j_;cases(show c=.type "range" from r2);refine fy (.inr (.inl ⟨_,rfl⟩)) hp (aM (hA A env s2 μ2 W2 p2 g I2) (λcs s3 s_=>oU s_ λvs H3 μ3 W3 C_ I3 x3 r3=>qR C_ λlo u ys e hi3 u_ q=>⟨I3.KH,?_⟩) λZ Z e=>e);subst e;refine ko cs r3.two λc1 c2 ra rb=>gc c1 (Rp.int_inv ra:_) λtl=>gc c2 (Rp.int_inv rb:_) λtu=>call_range_2 (lu ?_);have hk:=b9 (h:=s3.heap) {cls:=.type "range",data:=.fields #[.int lo tl,.int u tu,.int 1 s3.toks]};have I4:=I3.keeps (s':={s3 with heap:=s3.heap.push {cls:=.type "range",data:=.fields #[.int lo tl,.int u tu,.int 1 s3.toks]},toks:=s3.toks+1}) (cY _ _ rfl) hk;have x4:Ext [] μ W s μ3 W3 {s3 with heap:=s3.heap.push {cls:=.type "range",data:=.fields #[.int lo tl,.int u tu,.int 1 s3.toks]},toks:=s3.toks+1}:=x1.trans (x2.trans (x3.trans (.keeps hk) I2.o_ λZ h=>de h) I1.o_ λZ h=>de h) I.o_ λZ h=>de h;refine⟨I4.KH,?_⟩;have ZV:=x3.pre.get (x2.pre.get hl);have hm:=an ZV;refine aG (I4.objs _ _ _ ZV hi3:_) λLh II rs3=>?_;refine bm II λc0 hS=>?_;have hlen:=rs3.length;simp only[aF]at hlen;refine uH (codeAny_call_builtin PySem.F.slot_list_extend.plain PySem.F.entry_list_extend (PySem.F.slot_list_extend.check _ _ _ _ _ _ _ _ (aN _ hS rfl) (PySem.F.args_list_extend_2 _ _) ?_));show aC B.M A.in1 (gB (.ref l) (.ref s3.heap.objs.size) .none) _ _ _;refine rg (B:=B) (R:=λr s'=>match r with|.ok (.ret v)=>A_ B env ρ μ W s Q v s'|.ok _=>False|.error e=>False) g.1 (Ao ..) (by refine ah _ hlen ?_;exact u_) l c0 hS λh' tk acc c' IZ V_ KO=>?_;have kW:hV W3 (s3.heap.push {cls:=.type "range",data:=.fields #[.int lo tl,.int u tu,.int 1 s3.toks]}) h':=λb o hb e=>IZ b o (λz=>hb (z▸I4.o_ _ hm)) e;have r':Jq B μ3 W3 h' l (.list (ys++gd (dG lo u))):=(aN acc ⟨c',V_⟩ (n_.of_get (by(refine ah _ (aF ..) ?_;refine ah _ (KO.1 ..) ?_;refine ah _ hlen ?_);simp[gd,dG]) λi v d h1 h2=>?_))
 ·exact bh (I4.TP ZV tk IZ r':_) λI5 x5=>(w4 dN _ _ _ q I5 (x4.trans x5 I.o_ (λZ h=>de h)) Rp.none)
 ·have hp:=KO.2 i v (by simpa using h1);have hp:if i<Lh.size then Lh[i]?=IC v else∃t,v=.int (lo+((i - Lh.size:Nat):Int)*1) t:=hp;by_cases hi:i<Lh.size
  ·rw[if_pos hi]at hp;rw[b8 (by refine ah _ hlen.symm ?_;exact hi)]at h2;refine aG (rs3.get h2:_) λv' e1 r1=>?_;rw[bH,hp]at e1;cases e1;exact Rp.mono kW (λZ a b=>absurd a b) r1
  ·rw[if_neg hi]at hp;refine gc v hp λt=>?_;rw[bt (by refine ah _ hlen.symm ?_;exact Nat.not_lt.mp hi),←hlen]at h2;refine FB d (List.getElem?_eq_some_iff.mp h2:_) λr_=>?_;simp only[gd,dG,iI,rI,Int.mul_one];exact .int _ _
variable {Q:V->List a_->Prop}
noncomputable def BS (o:PE) (ps:List PE):PE:=⟨λσ e=>jg (λfn args Jx=>Jx.isEmpty&&(args.tail.isEmpty&&jx args.head? λx=>jg (λg as ks=>ks.isEmpty&&(rL σ (.type "range") g&&gA σ ps as)) x)&&(fn.pos.endLine==e.pos.line&&gh (λo' y=>ga "extend" y&&(tA o'&&o.t_ σ o')) fn)) e,λB n vals H Q=>o.wp B n vals H λva H1=>tx H1 (λi Z=>m8 ps B n vals H1 λvs H2=>AC (λv w=>jW (λl=>jW (λu=>aW (H2[i]?.bind ch) λys=>ys.length+(u - l).toNat<sizeLine/\Q dN (H2.set i (.list (ys++gd (dG l u))))) w) v) vs) va,by
 intro σ e h B n vals H Q ok q;replace h:=fu h;refine rV h λfn args Jx p f_ hc=>?_;obtain rfl:=f_;refine pt (g9 (au (au hc)):_) λo' y ap k_ hd=>?_;obtain rfl:=k_;have h0:=ay hc;cases ez (ay h0);cases eK (ay hd);refine uO (au (au h0)) λx ex hx=>?_
 cases args with
 |nil=>exact ft ex
 |cons x' r=>
  cases ex;have h1:=ay (au h0);cases ez h1;replace hx:=fu hx;refine rV hx λgf as ks p2 j_ hg=>?_;obtain rfl:=j_;cases ez (ay hg);refine gV (d0 (ay (au hg)):_) λfx p3 p_ hf=>?_;obtain rfl:=p_;refine Ev.Pj ((o.sound (au (au hd)) ok q).mono λva H1 k1=>?_) (oK (ay (au hd)) _) (ay (au hc)) (iQ ps (au (au hg)));refine ko va (gD k1:_) λi xs e1 k2=>(eu i xs rfl e1 (Ev.glob hf ⟨rfl,(gC ok _ (au (au hg)) k2).mono λvs H2 IV=>?_⟩));refine bh IV λZ k3=>jq vs (kE k3:_) λv w k4=>cX v (cG k4:_) λl k5=>cX w (cG k5:_) λu k6=>cP (ew k6:_) λys e2 k7 k8=>sj e2 λao e3 e4=>?_;cases m9 e4;exact(xK l u ys rfl e3 k7 k8)⟩
noncomputable def QH:List PE->Bs->Nat->List (Option V)->List a_->(List PyData->List a_->Prop)->Prop
 |[],_,_,_,H,Q=>Q [] H
 |e::es,B,n,vals,H,Q=>e.wp B n vals H λv H1=>m7 (λd=>QH es B n vals H1 λds H2=>Q (d::ds) H2) v
theorem DM (ok:sK B):∀(ps:List PE) {es:List Expr} {H:List a_} {Q:List PyData->List a_->Prop},gA σ ps es=true->QH ps B n vals H Q->Yk B n es (jc σ vals) H Q/\es.length=ps.length:=by
 intro ps
 induction ps with
 |nil=>intro es H Q h q;cases es with
  |nil=>exact⟨q,rfl⟩
  |cons=>exact fP h
 |cons p ps ih=>intro es H Q h q;cases es with
  |nil=>exact fP h
  |cons e es=>
   have h2:=au (au h);refine⟨(p.sound (ay (au h)) ok q).mono λv H1 h1=>?_,?_⟩
   ·exact cX v (df h1:_) λd k=>(aN d rfl ((ih h2 k).1))
   ·have:∀(ps:List PE) (es:List Expr),gA σ ps es=true->es.length=ps.length:=by
     intro ps
     induction ps with
     |nil=>intro es h;cases es with
      |nil=>rfl
      |cons=>exact fP h
     |cons p ps ih=>intro es h;cases es with
      |nil=>exact fP h
      |cons e es=>exact congrArg (·+1) (ih es (au (au h)))
    exact congrArg (·+1) (this ps es h2)
noncomputable def wD:List Str->List (Option Expr)->Bool
 |[],[]=>true
 |x::xs,IC e::es=>iO (λc Z=>c==.str x) e&&wD xs es
 |_,_=>false
theorem AN:∀(xs:List Str) {ks:List (Option Expr)},wD xs ks=true->∃es,ks=es.map IC/\SK xs es/\es.length=xs.length:=by
 intro xs
 induction xs with
 |nil=>intro ks h;cases ks with
  |nil=>exact(bA ([]) rfl rfl rfl)
  |cons=>exact fP h
 |cons x xs ih=>intro ks h;cases ks with
  |nil=>exact fP h
  |cons k ks=>cases k with
   |none=>exact fP h
   |some e=>
    refine fR e (iE (ay h):_) λc k p hc=>?_;cases eq_of_beq hc;exact t5 ks (ih (au h):_) λes a1 a2=>(bA (_::es) rfl ⟨_,_,_,rfl,a1⟩ (congrArg (·+1) a2))
noncomputable def zT (xs:List Str) (ps:List PE):PE:=⟨λσ e=>wm (λks vs=>wD xs ks&&gA σ ps vs&&(dp xs.length ps.length&&iP xs.length 15&&(!xs.isEmpty&&r8 xs))) e,λB n vals H Q=>QH ps B n vals H λds H1=>Q (.loc H1.length) (H1++[.IJ (xs.zip ds)]),by
 intro σ e h B n vals H Q ok q;replace h:=vk h;refine fR e h λks vs p hc=>t5 ks (AN xs (ay (ay hc)):_) λes a1 a2=>?_;have h1:=au hc;refine bh (DM ok ps (au (ay hc)) q:_) λb1 b2=>?_;have hl:=cz (ay (ay h1));refine Sc a1 (by(refine ah _ (a2 ..) ?_;refine ah _ (b2 ..) ?_;refine ah _ hl rfl)) (λz=>?_) (by refine ah _ (a2 ..) ?_;exact ak (au (ay h1))) (oM (au (au h1))) b1;subst z
 cases xs with
 |nil=>have:=ay (au h1);exact fP this
 |cons=>exact Rh a2⟩
noncomputable abbrev Bn_:PE:=zT ["cells","at"] [cT,Fo]
noncomputable def pJ:List PyData->Option (List Bool)
 |[]=>IC []
 |d::ds=>(Gg d).bind λi=>(pJ ds).map (i::·)
theorem DN:∀{ds:List PyData} {ns:List Bool},pJ ds=IC ns->ds=ns.map .bool:=by
 intro ds
 induction ds with
 |nil=>intro ns h;cases h;rfl
 |cons d ds ih=>
  intro ns h;refine sj h λi e h1=>?_;cases yh e;refine ig ns (Option.map_eq_some_iff.mp h1:_) λms e2=>?_;refine ah _ (ih e2 ..) ?_;rfl
theorem AO:∀ns:List Bool,pJ (ns.map .bool)=IC ns:=by
 intro ns
 induction ns with
 |nil=>rfl
 |cons i ns ih=>show eH _ (pJ (ns.map .bool))=_;refine ah _ ih ?_;rfl
noncomputable def JC.all:JC:=⟨.builtin "all",.inl ⟨_,rfl⟩,λH vs Q=>oh (Gh λxs=>aW (pJ xs) λbs=>Q (dB (bs.all id)) H) vs,λh=>by
 refine aG (dZ h:_) λv JX h1=>?_;obtain rfl:=JX;refine cX v (oI h1:_) λxs h2=>jF h2 λbs e h3=>?_;cases DN e;exact .all h3⟩
theorem A_.Ua (I:Inv B env ρ H μ W s) {vs:Array Value} {c t:Nat} (k:∀b o,s.heap.get? b=IC o->h'.get? b=IC o)
 (e:h'.get? s.heap.objs.size=IC {cls:=.type "list",dict:=ID,data:=.seq vs c,slots:=#[]}) (r:n_ W s.heap vs.toList ds) (q:Q (.loc H.length) (H++[.list ds])):A_ B env ρ μ W s Q (.ref s.heap.objs.size) {s with heap:=h',toks:=t}:=by
 have hD:s.heap.objs.size∉W:=I.out (aq _);have Ku:s.heap.get? s.heap.objs.size=none:=bQ (aq _);refine ee (G5 (tk:=t) I [s.heap.objs.size] k λa ha=>by cases List.mem_singleton.mp ha;exact⟨aq _,_,e⟩:_) λI1 out f=>?_;have I2:=I1.adopt (D:=s.heap.objs.size) (ao:=.list ds) (az _ ae) (λz=>hD (I.o_ _ z)) (λz=>hD (I.J9 _ z)) (aN vs ⟨c,e⟩ (r.mono (λb o Z e=>k b o e) f));refine⟨.loc H.length,_,_,_,q,I2,⟨λb o Z e=>k b o e,⟨_,rfl⟩,λa h=>aR _ h,f,λa h1 h2=>?_⟩,s.heap.objs.size,by refine ah _ (I.len ..).symm ?_;exact fi,rfl⟩;rcases List.mem_append.mp h1 with z|z
 ·exact absurd z h2
 ·cases List.mem_singleton.mp z;exact⟨hD,Ku⟩
theorem Ap.Ly {v:V} (hl:Mo H v xs∨v=dT xs) (hs:xs.length<=sizeLine) (q:Q (.loc H.length) (H++[.list xs])):Ap B n (.type "list") [v] H Q:=by
 intro A env ρ s μ W cs g I r;refine cX cs r.one λc r1=>Tt c (FT hl I r1:_) λa o vs k T hT ho hc hd rs=>?_;have e:vs.size=xs.length:=by have:=rs.length;simpa using this
 exact call_list_seq a hT ho hc hd (λh' c' k' e'=>.Ua I k' e' rs q) (by refine ah _ e ?_;exact hs)
noncomputable def JC.Ly:JC:=⟨.type "list",.inr ⟨_,rfl⟩,λH vs Q=>oh (λv=>aW (gT H v) λxs=>xs.length<=sizeLine/\Q (.loc H.length) (H++[.list xs])) vs,λh=>by
 refine aG (dZ h:_) λv Kp h1=>?_;obtain rfl:=Kp;exact jF h1 λxs e h2=>.Ly (kN e) h2.1 h2.2⟩
noncomputable abbrev Bk_:List PE:=[bn 470 [An_,gv,Tl],bn 470 [cO 9,gv,Tl],bI .Ly [An_]]
variable {l:Addr} {vs:List Value} {kf:Nat->Nat} {Q:Value->aD->Prop}
def Kl (h:Heap) (vs:List Value) (kf:Nat->Nat):Prop:=∀(i:Nat) v,vs[i]?=IC v->∃a items,v=.ref a/\h.IsList a items/\items.size=kf i/\kf i<2^62
theorem Kl.keep (x:Kl h vs kf) (k:∀b o,h.get? b=IC o->h'.get? b=IC o):Kl h' vs kf:=λi v hv=>by
 refine hU (x i v hv:_) λa items e hl r=>?_;exact(eu a items e (hl.at λo e=>k _ o e) r)
theorem ON {i j:Int} (q:Q (.bool (decide (i<j))) s):aC B.M A (richCompare .Lt (.int i t) (.int j u)) Q E s:=
 CmpOf.ints_lt (prog:=B.prog) (w:=B.w) (A:=A) (P:=λk v=>∃t,v=.int (if k=0 then j else i) t) (λk=>if k=0 then j else i) (λi v h=>h) 1 0 _ _ _ _ _ ⟨t,rfl⟩ ⟨u,rfl⟩ q
theorem wE {S:Addr} (kf:Nat->Nat) (hh:A.handled=ID) (hl:s0.heap.IsList l vs.toArray) (LD:Kl s0.heap vs kf) (hI:s0.heap.get? I=ID) (hS:s0.heap.get? S=ID) (Qa:S≠I)
 (hR:∀i v h' KU,vs[i]?=IC v->(∀j,j<vs.length->kf i<=kf j)->(∀b o,s0.heap.get? b=IC o->h'.get? b=IC o)->R (.ok (.ret v)) {s0 with heap:=h',toks:=KU}):
 ∀(r j i:Nat) (h:Heap) (tk:Nat) (vb:Value) (tb:Tok) (c:Nat),vs.length - (j+1)=r->j+1<=vs.length->(∀b o,s0.heap.get? b=IC o->h.get? b=IC o)->h.get? S=IC (dM "list" #[vb,.int (kf i:Nat) tb] c)->h.IsListIter I l (j+1)->vs[i]?=IC vb->(∀j',j'<=j->kf i<=kf j')->
  eY B.M A (.builtin "min.loop" ⟨[.ref I,.builtin "len",.ref S],[]⟩) R {s0 with heap:=h,toks:=tk}:=by
 have KJ:(toString "min"++toString ".loop":String)="min.loop":=rfl;have Mk:l≠I:=λz=>by refine aG hl λZ e Z=>?_;rw[z,hI]at e;exact ft e
 have W:=nP (prog:=B.prog) (w:=B.w) (A:=A.in1) hh I l Mk vs.toArray;have u_:vs.toArray.size=vs.length:=cQ ..;have nS:∀{b o},s0.heap.get? b=IC o->b≠S:=λe z=>by rw[z,hS]at e;exact ft e
 have nI:∀{b o},s0.heap.get? b=IC o->b≠I:=λe z=>by rw[z,hI]at e;exact ft e
 intro r
 induction r with
 |zero=>
  intro j i h tk vb tb c hr hj hk gS hit Zs Mm;have Lu:j+1=vs.length:=cC hj (kh hr);refine dR nD (ah _ (dH e8 _ ..) ?_);show aC _ A.in1 (nm (.ref S)>>=_) _ _ _;refine aa (cm gS rfl ?_);show aC _ A.in1 (tryCatch (hH (.ref I)) _>>=_) _ _ _;refine aa (j8 (W.done _ _ _ ⟨by(refine ah _ u_ ?_;refine ah _ Lu.symm ?_);exact hit,hl.at λo e=>hk _ o e⟩ λh' KU IZ=>?_));show aC _ A.in1 (sO S (λZ=>#[])>>=_) _ _ _;refine aa (iz (IZ S _ (notIn_one Qa) gS) rfl (aa (lA (ai ?_))));have s1:=bJ h' S (dw λZ=>(#[]:Array Value));exact hR i vb _ _ Zs (λj' RR=>Mm j' (Wv Lu RR)) λb o e=>(s1.2 b (nS e)).trans (IZ b o (notIn_one (nI e)) (hk b o e))
 |succ r ih=>
  intro j i h tk vb tb c hr hj hk gS hit Zs Mm;have r_:j+1<vs.length:=fH hr;refine dR nD (ah _ (dH e8 _ ..) ?_);show aC _ A.in1 (nm (.ref S)>>=_) _ _ _;refine aa (cm gS rfl ?_);show aC _ A.in1 (tryCatch (hH (.ref I)) _>>=_) _ _ _;refine aa (j8 (W.item (j+1) _ _ _ (by refine ah _ u_ ?_;exact r_) ⟨hit,hl.at λo e=>hk _ o e⟩ λv h' KU hP LA IZ=>?_));have hv:vs[j+1]?=IC v:=by simpa using hP
  have K1:∀b o,s0.heap.get? b=IC o->h'.get? b=IC o:=λb o e=>IZ b o (notIn_one (nI e)) (hk b o e);have Tc:=IZ S _ (notIn_one Qa) gS;refine lQ (LD.keep K1 (j+1) v hv:_) λa items f_ RO UA RW=>?_;obtain rfl:=f_;show aC _ A.in1 (tryCatch (iG [.ref a] (call (.builtin "len") [.ref a])) _>>=_) _ _ _;refine aa (j8 (aV (qa RO (UA▸xL RW) ?_)));refine ah _ UA ?_;show aC _ A.in1 (tryCatch (iG [.ref a,.int (kf (j+1):Nat) (KU+1)] (richCompare .Lt (.int (kf (j+1):Nat) (KU+1)) (.int (kf i:Nat) tb)>>=_)) _>>=_) _ _ _;refine aa (j8 (aV (aa (ON ?_))));refine aa (aV (kt ?_));refine aa (lA (ai ?_));by_cases ND:((kf (j+1):Nat):Int)<(kf i:Nat)
  ·have s1:=bJ h' S (dw λZ=>#[.ref a,.int (kf (j+1):Nat) (KU+1)]);have KN:=lT Tc λZ=>#[.ref a,.int (kf (j+1):Nat) (KU+1)];simp only[ND,decide_true,if_true];refine aa (iz Tc rfl (aa (lA ?_)));refine ah _ KJ (ai ⟨eD e8 _,ih (j+1) (j+1) _ _ (.ref a) (KU+1) _ (congrArg GC hr) r_ (λb o e=>(s1.2 b (nS e)).trans (K1 b o e)) KN (LA.1.at λo e=>(s1.2 I Qa.symm).trans e) hv λj' RR=>?_⟩);by_cases e:j'=j+1
   ·subst e;exact aq _
   ·have:=Mm j' (bF (se RR e));exact bj (aP (jM.1 ND) this)
  ·simp only[ND,decide_false,gP,if_false];refine aa (lA ?_);refine ah _ KJ (ai ⟨eD e8 _,ih (j+1) i _ _ vb tb c (congrArg GC hr) r_ K1 Tc LA.1 Zs λj' RR=>?_⟩);by_cases e:j'=j+1
   ·subst e;exact Int.ofNat_le.mp (Int.le_of_not_gt ND)
   ·exact Mm j' (bF (se RR e))
theorem OK (kf:Nat->Nat) (hh:A.handled=ID) (hl:s.heap.IsList l vs.toArray) (LD:Kl s.heap vs kf) (IQ:0<vs.length)
 (hQ:∀i v h' KU,vs[i]?=IC v->(∀j,j<vs.length->kf i<=kf j)->(∀b o,s.heap.get? b=IC o->h'.get? b=IC o)->Q v {s with heap:=h',toks:=KU}):
 aC B.M A (call (.builtin "min") [.ref l] [(am "key",.builtin "len")]) Q E s:=by
 have KJ:(toString "min"++toString ".loop":String)="min.loop":=rfl;have hll:l<s.heap.objs.size:=by refine aG hl λZ e Z=>?_;exact b0 e
 refine kmk_tree PySem.F.kind_min PySem.F.plain_min PySem.F.entry_min (kmk_min_key _ _) ?_;show aC _ A.in1 (pK "min" ["key","default"] 0 ⟨[],[(am "key",.builtin "len")]⟩>>=_) _ _ s;refine aa (lz (show pK "min" ["key","default"] 0 ⟨[],[(am "key",.builtin "len")]⟩=pure [IC (.builtin "len"),ID]from rfl) ?_);refine aa (ai ?_);refine aa (w8 hl ?_);refine aa (uu ?_ (aL _));refine ah _ KJ (ai ⟨eD e8 _,?_⟩);have hS:(s.heap.push {cls:=.type "list_iterator",data:=.fields #[.ref l,.int 0 0]}).objs.size=s.heap.objs.size+1:=size_push' ..;have Mk:l≠s.heap.objs.size:=bf hll;have W:=nP (prog:=B.prog) (w:=B.w) (A:=A.in1) hh s.heap.objs.size l Mk vs.toArray;have kk:∀b o,s.heap.get? b=IC o->((s.heap.push {cls:=.type "list_iterator",data:=.fields #[.ref l,.int 0 0]}).push (dM "list" #[] 0)).get? b=IC o:=λb o e=>av _ (av _ e);have gI:((s.heap.push {cls:=.type "list_iterator",data:=.fields #[.ref l,.int 0 0]}).push (dM "list" #[] 0)).get? s.heap.objs.size=IC {cls:=.type "list_iterator",data:=.fields #[.ref l,.int 0 0]}:=
  av _ (aH _ rfl)
 have gS:((s.heap.push {cls:=.type "list_iterator",data:=.fields #[.ref l,.int 0 0]}).push (dM "list" #[] 0)).get? (s.heap.objs.size+1)=IC (dM "list" #[] 0):=by refine ah _ hS.symm ?_;exact aH _ rfl
 have nI:∀{b o},s.heap.get? b=IC o->b≠s.heap.objs.size:=λe z=>absurd (z▸b0 e) (b7 _);have nS:∀{b o},s.heap.get? b=IC o->b≠s.heap.objs.size+1:=λe=>bf (cq (b0 e));refine ah _ hS (dR nD ?_);refine ah _ (dH e8 _ ..) ?_;show aC _ A.in1 (nm (.ref _)>>=_) _ _ _;refine aa (cm gS rfl ?_);show aC _ A.in1 (tryCatch (hH (.ref s.heap.objs.size)) _>>=_) _ _ _;refine aa (j8 (W.item 0 _ _ _ (by refine ah _ (cQ ..) ?_;exact IQ) ⟨(bA _ gI rfl rfl),hl.at λo e=>kk _ o e⟩ λv h' KU hP LA IZ=>?_));have hv:vs[0]?=IC v:=by simpa using hP
 have K1:∀b o,s.heap.get? b=IC o->h'.get? b=IC o:=λb o e=>IZ b o (not_iter_of_old e) (kk b o e);have Tc:=IZ (s.heap.objs.size+1) _ (by simp) gS;refine lQ (LD.keep K1 0 v hv:_) λa items k_ RO UA RW=>?_;obtain rfl:=k_;show aC _ A.in1 (tryCatch (iG [.ref a] (call (.builtin "len") [.ref a])) _>>=_) _ _ _;refine aa (j8 (aV (qa RO (UA▸xL RW) ?_)));refine ah _ UA ?_;have s1:=bJ h' (s.heap.objs.size+1) (dw λZ=>#[.ref a,.int (kf 0:Nat) (KU+1)]);have KN:=lT Tc λZ=>#[.ref a,.int (kf 0:Nat) (KU+1)];show aC _ A.in1 (sO (s.heap.objs.size+1) (λZ=>#[.ref a,.int (kf 0:Nat) (KU+1)])>>=_) _ _ _;refine aa (iz Tc rfl ?_);refine ah _ KJ (ai ⟨eD e8 _,wE kf hh hl LD (bQ (aq _)) (bQ (cL _)) (d8 (bV _)) hQ _ 0 0 _ _ (.ref a) (KU+1) _ rfl IQ (λb o e=>(s1.2 b (nS e)).trans (K1 b o e)) KN (LA.1.at λo e=>(s1.2 _ (bf (bV _))).trans e) hv λj' RR=>?_⟩);have e:j'=0:=DO RR;subst e;exact aq _
variable {Q:V->List a_->Prop}
theorem Ev.Rj {fx kx:Str} {p2 p3:FL} {x:Expr} (hx:(!oa x)=true)
 (h:Ev B n (.Name fx p) ρ H λf H1=>f=.raw (.builtin "min")/\Ev B n x ρ H1 λv H2=>∃J8:List (List PyData),v=dL (J8.map .list)/\0<J8.length/\(∀ys∈J8,ys.length<=sizeLine)/\Ev B n (.Name kx p2) ρ H2 λk H3=>k=.raw (.builtin "len")/\∀ys∈J8,(∀zs∈J8,ys.length<=zs.length)->Q (dL ys) H3):
 Ev B n (.Call (.Name fx p) [x] [⟨IC "key",.Name kx p2,p3⟩] pos) ρ H Q:=by
 intro A env s μ W g I;show aC B.M A (do pz pos (←dq (.Name fx p) env) [] (gy pos (cJ [x] env)) (j6 pos (f7 [⟨IC "key",.Name kx p2,p3⟩] env))) _ _ s;refine aa (h.then g I λf H1 μ1 W1 c s1 h1 I1 x1 r1=>?_);refine bh h1 λf_ hE=>?_;obtain rfl:=f_;cases(show c=.builtin "min" from r1);refine ah _ (ij hx ..) (callWith_of (P:=B.K.In) rfl (λh X=>(show Callee B (.builtin "min")from .inl ⟨_,rfl⟩).MZ h X) ?_);refine evalArgs_kw rfl (l5 (hE.then g I1 λv H2 μ2 W2 cv s2 h2 I2 x2 r2=>lu ?_));refine lO h2 λJ8 k_ IQ u_ hK=>?_;obtain rfl:=k_;refine wpAny_evalAll_cons (aa (hK.then g I2 λk H3 μ3 W3 ck s3 h3 I3 x3 r3=>aa (bw (ai (wpAny_evalAll_nil ⟨I3.KH,?_⟩)))));refine bh h3 λj_ q=>?_;obtain rfl:=j_;cases(show ck=.builtin "len" from r3);refine lQ (Rp.IF (l_.ext (v:=dL (J8.map .list)) I2 x3 r2):_) λl vs p_ Z hl rs=>?_;obtain rfl:=p_;have hlen:vs.toList.length=J8.length:=by(refine ah _ (rs.length ..) ?_;refine ah _ (af ..) rfl)
 have elem:∀(i:Nat) v,vs.toList[i]?=IC v->∃ys,J8[i]?=IC ys/\Rp W3 s3.heap v (.list ys):=λi v hv=>by
  have hi:=c8 hv;rw[hlen]at hi;have e2:(J8.map Cn)[i]?=IC (.list J8[i]):=by(refine ah _ (aK ..) ?_;refine ah _ (aJ hi ..) ?_);rfl
  refine aG (rs.get e2:_) λv' e3 r=>?_;rw[hv]at e3;cases e3;exact(aN _ (aJ hi) r)
 show aC B.M A (PySem.call (yz "min") [dK l] [(am "key",yz "len")]) _ _ s3;refine OK (vs:=vs.toList) (λi=>(J8.getD i []).length) g.1 (by simpa using hl) (λi v hv=>?_) (by refine ah _ hlen ?_;exact IQ) λi v h' KU hv hb hk=>?_
 ·refine aG (elem i v hv:_) λys e r=>jU v (Rp.IF r:_) λa items Z RO ra=>?_;have e1:(J8.getD i []).length=ys.length:=by(refine ah _ (bk ..) ?_;refine ah _ e ?_);rfl
  have e4:items.size=ys.length:=by have:=ra.length;simpa using this
  have:=u_ ys (an e);have Vh:sizeLine<2^62:=by decide
  exact(pv a items rfl RO (e4.trans e1.symm) (by show(J8.getD i []).length<_;refine ah _ e1 ?_;exact aB this Vh))
 ·refine aG (elem i v hv:_) λys e r=>?_;have e1:(J8.getD i []).length=ys.length:=by(refine ah _ (bk ..) ?_;refine ah _ e ?_);rfl
  have Z2:Ext [] μ W s μ3 W3 s3:=x1.trans (x2.trans x3 I1.o_ λZ h=>de h) I.o_ λZ h=>de h;refine A_.then I Z2 (.keeps I3 (cY _ _ rfl) hk (v:=dL ys) (r.keeps hk) (q ys (an e) λzs hz=>?_));refine bm (List.mem_iff_getElem?.mp hz:_) λj hj=>?_;have e5:(J8.getD j []).length=zs.length:=by(refine ah _ (bk ..) ?_;refine ah _ hj ?_);rfl
  have:(J8.getD i []).length<=(J8.getD j []).length:=hb j (by refine ah _ hlen ?_;exact c8 hj);rw[e1,e5]at this;exact this
noncomputable def vB:List PyData->Option (List (List PyData))
 |[]=>IC []
 |d::ds=>(Sk d).bind λy=>(vB ds).map (y::·)
theorem GD:∀{ds:List PyData} {ns:List (List PyData)},vB ds=IC ns->ds=ns.map .list:=by
 intro ds
 induction ds with
 |nil=>intro ns h;cases h;rfl
 |cons d ds ih=>
  intro ns h;refine sj h λi e h1=>?_;cases Cf e;refine ig ns (Option.map_eq_some_iff.mp h1:_) λms e2=>?_;refine ah _ (ih e2 ..) ?_;rfl
theorem DP:∀ns:List (List PyData),vB (ns.map .list)=IC ns:=by
 intro ns
 induction ns with
 |nil=>rfl
 |cons i ns ih=>show eH _ (vB (ns.map .list))=_;refine ah _ ih ?_;rfl
noncomputable def Sr (σ:lJ) (k:jB):Bool:=jx k.arg λx=>ga x "key"&&rL σ (.builtin "len") k.value
noncomputable def Fi (a:PE):PE:=⟨λσ e=>jg (λfn args Jx=>(Jx.tail.isEmpty&&jx Jx.head? λk=>Sr σ k)&&(rL σ (.builtin "min") fn&&gA σ [a] args)) e,λB n vals H Q=>a.wp B n vals H λva H1=>Gh (λxs=>aW (vB xs) λJ8=>(0<J8.length/\∀ys∈J8,ys.length<=sizeLine)/\∀ys∈J8,(∀zs∈J8,ys.length<=zs.length)->Q (dL ys) H1) va,by
 intro σ e h B n vals H Q ok q;replace h:=fu h;refine mC e h λfn args Jx p hc=>?_;have h0:=ay hc;refine uO (au h0) λk ek hk=>?_
 cases Jx with
 |nil=>exact ft ek
 |cons k' ks=>
  cases ek;have h1:=ay h0;cases ez h1;obtain⟨karg,kv,kp⟩:=k;refine uO hk λy e1 Mw=>?_;cases e1;cases eK (ay Mw);refine gV (d0 (au Mw):_) λkx p2 IY MH=>?_;obtain rfl:=IY;refine jq fn (d0 (ay (au hc)):_) λfx p1 hf=>t5 args (wC (au (au hc)):_) λx hx hs=>Ev.Rj hs (Ev.glob hf ⟨rfl,(a.sound hx ok q).mono λva H1 k1=>?_⟩);refine cX va (oI k1:_) λxs k2=>cP (ew k2:_) λJ8 e2 k3 k4=>?_;cases GD e2;exact(qS J8 rfl k3.1 k3.2 (Ev.glob MH ⟨rfl,k4⟩))⟩
noncomputable abbrev B4_:List PS:=[iX 6 ⟨.bi .zip [bE 427 "scope" eV,sL],⟨true,[1,2]⟩,[ID,ID,ID,IC 1],IC (gq (fO (bn 109 [bZ 311 "dom" 196 gv [cT],eG])))⟩ (bn 364 [gv,cT,eG]),dY (Fh qN (Fi mA))]
set_option maxRecDepth 20000
noncomputable def wF:PF:=⟨3,[0,1,2],[c5 (pT [bo pS (bI .len [eV]) Fo,bo n9 cT (bK .add Ym lK)]) [c5 (bo pS eG Ym) [aZ (.sub .list eV (rB lK)) (ci [eE 0 (xz eV),eG])] []] [dY (gE eV (ci [cT,eG]))]]⟩
theorem wG:f9 69 wF=true:=by decide+kernel
noncomputable def uR:PF:=⟨3,[0],[aZ (.var 1) fh,eB (.var 2) (.val (bI .sortI [eV])) [dY (bn 69 [cT,eG,eG])],br Yl]⟩
theorem uS:f9 76 uR=true:=by decide+kernel
noncomputable def Ps:PF:=⟨1,[0],[br (eE 0 (eE 0 eV))]⟩
theorem OP:f9 83 Ps=true:=by decide+kernel
noncomputable def AP:PF:=⟨1,[0],[br Ym]⟩
theorem AQ:f9 90 AP=true:=by decide+kernel
noncomputable def Ss:PF:=⟨1,[0],[br (bI .sum [bO ⟨.val eV,⟨true,[1,2]⟩,[ID,ID,ID],ID⟩ (bK .add (bK .sub eG cT) lK)])]⟩
theorem QS:f9 95 Ss=true:=by decide+kernel
noncomputable def yA:PF:=⟨4,[0,1],[eB (.tup [2,3]) (.val eV) [c5 (bo n9 cT gv) [br (bI .max2 [eG,cT])] []],br xv]⟩
theorem yB:f9 102 yA=true:=by decide+kernel
noncomputable def Vt:PF:=⟨2,[0,1],[br (gN dW (bn 102 [eV,cT]) cT)]⟩
theorem V6:f9 109 Vt=true:=by decide+kernel
noncomputable def LJ:PF:=⟨4,[0],[Iy (pT [bo dX eV (ci []),bo xw (bK .sub Ym (eE 0 (eE 0 eV))) (D5 1000000 w1),bo pS (bn 95 [eV]) (D5 1000000 w1)]) [],aZ (.var 1) fh,eB (.tup [2,3]) (.val eV) [dY (BS cT [eG,bK .add gv lK])],br cT]⟩
theorem GE:f9 116 LJ=true:=by decide+kernel
noncomputable def Pr:PF:=⟨2,[0,1],[br (bI .tuple [bO ⟨.val eV,⟨true,[1,2]⟩,[ID,ID,ID,IC 1],IC (bo n9 cT gv)⟩ (ci [cT,bI .min2 [eG,gv]])])]⟩
theorem O_:f9 121 Pr=true:=by decide+kernel
noncomputable def DQ:PF:=⟨2,[0,1],[br (bI .tuple [bO ⟨.val eV,⟨true,[1,2]⟩,[ID,ID,ID,IC 1],IC (bo xw eG gv)⟩ (ci [bI .max2 [cT,gv],eG])])]⟩
theorem DR:f9 126 DQ=true:=by decide+kernel
noncomputable def DS:PF:=⟨2,[0,1],[br (D0 (bn 121 [eV,bK .sub cT lK]) (bn 126 [eV,bK .add cT lK]))]⟩
theorem DT:f9 133 DS=true:=by decide+kernel
noncomputable def Su:PF:=⟨7,[0,1],[jL [2,3,4] [fh,Fo,Fo],zS (pT [bo pR gv (bI .len [eV]),bo pR qN (bI .len [cT])]) [jL [5,6] [bI .max2 [eE 0 (cI eV gv),eE 0 (cI cT qN)],bI .min2 [eE 1 (cI eV gv),eE 1 (cI cT qN)]],c5 (bo n9 sL mA) [dY (gE eG (ci [sL,mA]))] [],c5 (bo pR (eE 1 (cI eV gv)) (eE 1 (cI cT qN))) [aZ (.var 3) (bK .add gv lK)] [aZ (.var 4) (bK .add qN lK)]],br (bI .tuple [eG])]⟩
theorem Rl:f9 140 Su=true:=by decide+kernel
noncomputable def AR:PF:=⟨4,[0],[aZ (.tup [1,2,3]) eV,c5 Yo [br (ci [cT,eA ">=",bK .add gv lK])] [],c5 Yn [br (ci [cT,eA "<=",bK .sub gv lK])] [],br (jR Bp_ (ci [cT,eA "!=",gv]) (ci [cT,eA "=",gv]))]⟩
theorem AS:f9 147 AR=true:=by decide+kernel
noncomputable def GF:PF:=⟨4,[0,1],[jL [2,3] [eE 1 eV,eE 2 eV],c5 Yo [br (bn 121 [cT,gv])] [],c5 Yn [br (bn 126 [cT,gv])] [],br (jR Bp_ (bn 140 [cT,ci [ci [gv,gv]]]) (bn 133 [cT,gv]))]⟩
theorem GG:f9 154 GF=true:=by decide+kernel
noncomputable def Jp:PF:=⟨1,[0],[aZ (.attr 311 "domains" eV) fh,aZ (.attr 311 "firsts" eV) fh,aZ (.attr 311 "trail" eV) fh,aZ (.attr 311 "marks" eV) fh,aZ (.attr 311 "news" eV) uj,aZ (.attr 311 "speaker" eV) (rB lK),aZ (.attr 311 "is_failed" eV) (fW false),aZ (.attr 311 "clash" eV) (ci [])]⟩
theorem rh:f9 175 Jp=true:=by decide+kernel
noncomputable def Jy:PF:=⟨2,[0,1],[dY (gE PB cT),dY (gE (bE 311 "firsts" eV) cT),c5 (bo dW cT (ci [])) [dY (bZ 311 "fail" 280 eV [ci []])] [],br (bK .sub (bI .len [bE 311 "domains" eV]) lK)]⟩
theorem sq:f9 182 Jy=true:=by decide+kernel
noncomputable def wH:PF:=⟨1,[0],[br (bI .len [bE 311 "domains" eV])]⟩
theorem wI:f9 189 wH=true:=by decide+kernel
noncomputable def yC:PF:=⟨2,[0,1],[br (cI PB cT)]⟩
theorem yD:f9 196 yC=true:=by decide+kernel
noncomputable def sr:PF:=⟨2,[0,1],[br (cI (bE 311 "firsts" eV) cT)]⟩
theorem su:f9 203 sr=true:=by decide+kernel
noncomputable def yE:PF:=⟨2,[0,1],[br (bn 83 [cI PB cT])]⟩
theorem yF:f9 210 yE=true:=by decide+kernel
noncomputable def wJ:PF:=⟨2,[0,1],[br (bn 90 [cI PB cT])]⟩
theorem wK:f9 217 wJ=true:=by decide+kernel
noncomputable def yG:PF:=⟨3,[0,1,2],[br (bn 109 [cI PB cT,eG])]⟩
theorem yH:f9 224 yG=true:=by decide+kernel
noncomputable def uT:PF:=⟨2,[0,1],[br (bn 95 [cI PB cT])]⟩
theorem uU:f9 245 uT=true:=by decide+kernel
noncomputable def JV:PF:=⟨7,[0,1,2,3],[aZ (.var 4) (eE 0 cT),aZ (.var 5) (cI PB qN),aZ (.var 6) (bn 154 [cT,sL]),c5 (bo dW mA (ci [])) [br (bZ 311 "fail" 280 eV [D0 (jR (bo K8.SW eG xv) (ci []) eG) (ci [bn 147 [cT]])])] [],c5 (bo dW mA sL) [br SH] [],dY (gE (bE 311 "trail" eV) (ci [qN,sL,cT,eG,gv])),aZ (.sub .list PB qN) mA,aZ (.sub .int (bE 311 "news" eV) qN) SH,br SH]⟩
theorem uV:f9 259 JV=true:=by decide+kernel
noncomputable def tI:PF:=⟨3,[0,1,2],[br (bZ 311 "enter" 259 eV [cT,bI .tuple [eG],bE 311 "speaker" eV])]⟩
theorem tJ:f9 266 tI=true:=by decide+kernel
noncomputable def tK:PF:=⟨2,[0,1],[br (bZ 311 "enter" 259 eV [cT,xv,rB lK])]⟩
theorem tL:f9 273 tK=true:=by decide+kernel
noncomputable def wL:PF:=⟨2,[0,1],[aZ (.attr 311 "is_failed" eV) SH,aZ (.attr 311 "clash" eV) Yl,br (fW false)]⟩
theorem wM:f9 280 wL=true:=by decide+kernel
noncomputable def wN:PF:=⟨1,[0],[dY (gE (bE 311 "marks" eV) (bI .len [bE 311 "trail" eV]))]⟩
theorem wO:f9 287 wN=true:=by decide+kernel
noncomputable def Jh:PF:=⟨4,[0,1],[c5 (bo pR cT lK) [PS.QZ] [],aZ (.var 2) (cI (bE 311 "marks" eV) Bs_),aZ (.attr 311 "marks" eV) (Iz (bE 311 "marks" eV) Bs_),zS (bo pS (bI .len [bE 311 "trail" eV]) eG) [aZ (.var 3) (PE.pop (bE 311 "trail" eV)),aZ (.sub .list PB (eE 0 gv)) (eE 1 gv)],aZ (.attr 311 "news" eV) uj,aZ (.attr 311 "is_failed" eV) (gN K8.XO (ci []) (bE 311 "firsts" eV)),aZ (.attr 311 "clash" eV) (ci [])]⟩
theorem yI:f9 294 Jh=true:=by decide+kernel
noncomputable def nE:PF:=⟨3,[0,1,2],[aZ (.attr 427 "number" eV) (rB lK),aZ (.attr 427 "scope" eV) Yl,aZ (.attr 427 "strength" eV) eG]⟩
theorem nF:f9 329 nE=true:=by decide+kernel
noncomputable def DU:PF:=⟨3,[0,1,2],[c5 (gq (fO (bn 109 [bZ 311 "initial" 203 eV [cT],eG]))) [br Fp] [],c5 (bo pR eG (bZ 311 "low" 210 eV [cT])) [br (dU [ci [cT,eA ">=",bK .add eG lK]])] [],c5 (bo pS eG (bZ 311 "high" 217 eV [cT])) [br (dU [ci [cT,eA "<=",bK .sub eG lK]])] [],br (dU [ci [cT,eA "!=",eG]])]⟩
theorem DV:f9 364 DU=true:=by decide+kernel
noncomputable def DW:PF:=⟨3,[0,1,2],[c5 (bo jK (bI .len [eG]) Fo) [br (bZ 311 "fail" 280 eV [ci []])] [],br (xy [bZ 311 "strike" 266 eV [ci [cT,eA ">=",bI .Rk [eG]],ci []],bZ 311 "strike" 266 eV [ci [cT,eA "<=",bI .Rn [eG]],ci []]])]⟩
theorem vC:f9 376 DW=true:=by decide+kernel
noncomputable def qu:PF:=⟨8,[0,1],[c5 (bo jK (bI .len XH) Fo) [br (PE.or [gN pS (bI .len [bE 427 "able" eV]) Fo,bZ 311 "fail" 280 cT [ci []]])] [],eB (.tup [2,3]) (.bi .zip [bE 427 "scope" eV,bE 427 "columns" eV]) Br_,iX 4 ⟨.val (bE 427 "able" eV),⟨false,[1]⟩,[ID,ID,IC 0,IC 1],IC (fO (bZ 427 "is_left" 419 eG [gv,cT]))⟩ cT,eB (.tup [5,2]) (.bi .enum XH) Bb_,br SH]⟩
theorem qv:f9 414 qu=true:=by decide+kernel
noncomputable def sv:PF:=⟨3,[0,1,2],[br (bI .all [bO ⟨.bi .zip [bE 427 "scope" eV,eG],⟨true,[1,2]⟩,[ID,ID,ID,IC 1],ID⟩ (bn 109 [bZ 311 "dom" 196 gv [cT],eG])])]⟩
theorem sw:f9 419 sv=true:=by decide+kernel
noncomputable def rj:PF:=⟨7,[0,1,2,3],[aZ (.var 4) fh,eB (.var 5) (.val (bE 427 "able" eV)) [c5 (bo dW (cI sL eG) gv) B4_ []],br (bn 369 [qN])]⟩
theorem rl:f9 424 rj=true:=by decide+kernel
noncomputable def AT:PF:=⟨3,[0,1],[aZ (.var 2) (qH eV (eA "at")),aZ (.sub .str eV (eA "at")) (bK .add eG lK),br (bK .mod (jR (bo pR eG (bI .len [qH eV (eA "cells")])) (cI (qH eV (eA "cells")) eG) (bK .add (bK .add (bK .add (bK .mul (bK .mul (gb 4) eG) eG) (bK .mul Tm eG)) (bK .div eG Ai_)) lK)) cT)]⟩
theorem AU:f9 436 AT=true:=by decide+kernel
noncomputable def yJ:PF:=⟨4,[0,1],[jL [2,3] [eE 1 eV,eE 2 eV],br (qH (zT ["<=",">=","!=","="] [gN n9 cT gv,gN xw cT gv,gN dX cT gv,gN dW cT gv]) eG)]⟩
theorem yK:f9 443 yJ=true:=by decide+kernel
noncomputable def yL:PF:=⟨2,[0,1],[br (gN dX (bO ⟨.val eV,⟨true,[1,2]⟩,[ID,ID,ID,IC 1],IC (PT.Sq n9 n9 cT gv eG)⟩ lK) Fp)]⟩
theorem yM:f9 448 yL=true:=by decide+kernel
noncomputable def wP:PF:=⟨4,[0,1],[jL [2,3] [eE 1 eV,eE 2 eV],c5 Yo [br (gN n9 (eE 1 (xz cT)) gv)] [],c5 Yn [br (gN xw (eE 0 (eE 0 cT)) gv)] [],br (jR (bo sX eG (eA "!=")) (BR (bn 448 [cT,gv])) (gN dW cT (ci [ci [gv,gv]])))]⟩
theorem wQ:f9 455 wP=true:=by decide+kernel
noncomputable def wR:PF:=⟨3,[0,1,2],[br (bO ⟨.val eG,⟨false,[1]⟩,[ID,ID,IC 0,IC 1],IC (bo dW (bO ⟨.bi .zip [gv,cT],⟨true,[1,2]⟩,[ID,ID,ID,IC 2],IC (gq (fO (bn 448 [cI gv cT,eG])))⟩ lK) Fp)⟩ cT)]⟩
theorem wS:f9 470 wR=true:=by decide+kernel
variable {v:Int}
noncomputable def js (p:Int×Int):PyData:=.tuple [.int p.1,.int p.2]
noncomputable def bY (d:List (Int×Int)):PyData:=.tuple (d.map js)
theorem dr {v:V} (q:Q v H):∃v0 H0,K7 H.length v H v0 H0/\Q v0 H0:=(ie v H (.keep (aq _)) q)
theorem GH (ok:fB B) {d:List (Int×Int)} (q:Q (dI a) H):Ap B (n+1) (.ref 83) [.dat (bY ((a,b)::d))] H Q:=PF.ap ok OP (dr q)
noncomputable def fC (v:Int):List (Int×Int)->PyData
 |[]=>.none
 |(a,b)::d=>if v<=b then .int (max a v)else fC v d
theorem mU {d:List (Int×Int)}:fC v ((a,b)::d)=if v<=b then .int (max a v)else fC v d:=rfl
theorem wT (ok:fB B) {d:List (Int×Int)} (q:Q (.dat (fC v d)) H):Ap B (n+1) (.ref 102) [.dat (bY d),dI v] H Q:=by
 refine PF.ap ok yB ((bA (λk vals H1=>H1=H/\fC v d=fC v (d.drop k)/\∃x y,vals=[IC (.dat (bY d)),IC (dI v),x,y]) (mB rfl rfl (cY _ _ rfl)) ?_ ?_))
 ·intro k x vals H2 hx f_;refine ee f_ λk_ e j_=>?_;obtain rfl:=k_;refine lP j_ λy z p_=>?_;obtain rfl:=p_;refine aG (Option.map_eq_some_iff.mp (List.getElem?_map.symm.trans hx):_) λf_ e2 k_=>?_;obtain⟨a,b⟩:=f_;obtain rfl:=k_;have e3:d.drop k=(a,b)::d.drop (k+1):=(cU (c8 e2)).trans (by refine ah _ ((List.getElem?_eq_some_iff.mp e2).2 ..) rfl);refine cr (λhb=>?_) λhb=>?_
  ·rw[e,e3,mU,if_pos (of_decide_eq_true hb)]at q;exact dr q
  ·refine(mB rfl ?_ (cY _ _ rfl))
   (refine ah _ e ?_;refine ah _ e3 ?_;refine ah _ (mU ..) ?_;refine ah _ (if_neg (of_decide_eq_false hb) ..) rfl)
 ·intro vals H2 s_;refine ee s_ λC_ e II=>?_;obtain rfl:=C_;refine lP II λy z IY=>?_;obtain rfl:=IY;rw[af,fk]at e;rw[e]at q;exact dr q
variable {H':List a_} {a:List PyData}
theorem cM {enc:α->PyData} {ds:List α} {x:PyData} (h:(ds.map enc)[k]?=IC x):∃p,ds[k]?=IC p/\x=enc p:=by
 rw[aK]at h;exact ig x (Option.map_eq_some_iff.mp h:_) λp e=>(aN p e rfl)
theorem Co {f:α->Option PyData} {ds:List α} {p:α} (h:ds[k]?=IC p):(ds.take (k+1)).filterMap f=(ds.take k).filterMap f++(f p).toList:=by
 (refine ah _ (bD ..) ?_;refine ah _ h ?_;refine ah _ (List.filterMap_append ..) ?_)
 show _++List.filterMap f [p]=_;refine ah _ (dt ..) ?_;cases f p<;>rfl
def Got {α:Type} (f:α->Option PyData) (ds:List α) (H:List a_) (k:Nat) (a:List PyData) (H':List a_):Prop:=a=(ds.take k).filterMap f/\H'=H
theorem Got.yes {f:α->Option PyData} {ds:List α} {p:α} {d:PyData} (g:Got f ds H k a H') (h:ds[k]?=IC p) (hf:f p=IC d) (hl:ds.length<=sizeLine):a.length<=sizeLine/\Got f ds H (k+1) (a++[d]) H':=by
 refine fq a g λj_=>?_;obtain rfl:=j_;refine⟨ab (bp _ _) (ab (qO _ _) (ab (bj (c8 h)) hl)),?_,rfl⟩
 (refine ah _ (Co h ..) ?_;refine ah _ hf ?_);rfl
theorem Got.no {f:α->Option PyData} {ds:List α} {p:α} (g:Got f ds H k a H') (h:ds[k]?=IC p) (hf:f p=ID):Got f ds H (k+1) a H':=by
 refine fq a g λs_=>?_;obtain rfl:=s_;refine⟨?_,rfl⟩
 (refine ah _ (Co h ..) ?_;refine ah _ hf ?_);exact(dh _).symm
theorem Got.end {f:α->Option PyData} {enc:α->PyData} {ds:List α} (g:Got f ds H (ds.map enc).length a H'):a=ds.filterMap f/\H'=H:=by
 refine fq a g λII=>?_;obtain rfl:=II
 (refine ah _ (af ..) ?_;refine ah _ (bx ..) ?_);exact⟨rfl,rfl⟩
noncomputable def AV (k:Int) (p:Int×Int):Option PyData:=if p.1<=k then IC (js (p.1,min p.2 k))else ID
theorem yN (ok:fB B) {k:Int} {d:List (Int×Int)} (hl:d.length<=sizeLine) (q:Q (dT (d.filterMap (AV k))) H):Ap B (n+1) (.ref 121) [.dat (bY d),dI k] H Q:=by
 refine PF.ap ok O_ (bA (Got (AV k) d H) ⟨rfl,rfl⟩ (λj x a H2 hx g=>⟨trivial,?_⟩) (λa H2 g=>⟨trivial,?_⟩))
 ·refine fX x (cM hx:_) λp e=>cr (λhb=>g.yes e (if_pos (of_decide_eq_true hb)) hl) λhb=>g.no e (if_neg (of_decide_eq_false hb))
 ·refine fq a g.end λKo=>?_;obtain rfl:=Ko;exact⟨ab (bp _ _) hl,dr q⟩
noncomputable def pL (k:Int) (p:Int×Int):Option PyData:=if k<=p.2 then IC (js (max p.1 k,p.2))else ID
theorem tM (ok:fB B) {k:Int} {d:List (Int×Int)} (hl:d.length<=sizeLine) (q:Q (dT (d.filterMap (pL k))) H):Ap B (n+1) (.ref 126) [.dat (bY d),dI k] H Q:=by
 refine PF.ap ok DR (bA (Got (pL k) d H) ⟨rfl,rfl⟩ (λj x a H2 hx g=>⟨trivial,?_⟩) (λa H2 g=>⟨trivial,?_⟩))
 ·refine fX x (cM hx:_) λp e=>cr (λhb=>g.yes e (if_pos (of_decide_eq_true hb)) hl) λhb=>g.no e (if_neg (of_decide_eq_false hb))
 ·refine fq a g.end λJi=>?_;obtain rfl:=Ji;exact⟨ab (bp _ _) hl,dr q⟩
theorem AW (ok:fB B) {k:Int} {d:List (Int×Int)} (hl:d.length+d.length<=sizeLine) (q:Q (dT (d.filterMap (AV (k - 1))++d.filterMap (pL (k+1)))) H):Ap B (n+2) (.ref 133) [.dat (bY d),dI k] H Q:=
 have P8:d.length<=sizeLine:=ab (f6 _ _) hl
 PF.ap ok DT (yN ok P8 (tM ok P8 ⟨ab (cj (bp _ _) (bp _ _)) hl,dr q⟩))
theorem sy (v:Int):∀d:List (Int×Int),dA (fC v d)=true:=by
 intro d
 induction d with
 |nil=>rfl
 |cons p d ih=>
  obtain⟨a,b⟩:=p;refine ah _ (mU ..) ?_;by_cases h:v<=b
  ·refine ah _ (if_pos h ..) ?_;rfl
  ·refine ah _ (if_neg h ..) ?_;exact ih
theorem wU (ok:fB B) {d:List (Int×Int)} (q:Q (dB (aQ (fC v d) (.int v))) H):Ap B (n+2) (.ref 109) [.dat (bY d),dI v] H Q:=
 PF.ap ok V6 (wT ok ⟨⟨sy v d,rfl⟩,dr q⟩)
theorem Oh (ok:fB B) {d:List (Int×Int)} (hl:d.length<=sizeLine) (q:Q (dI (d.map λp=>p.2 - p.1+1).sum) H):Ap B (n+1) (.ref 95) [.dat (bY d)] H Q:=by
 refine PF.ap ok QS (bA (Got (λp:Int×Int=>IC (.int (p.2 - p.1+1))) d H) ⟨rfl,rfl⟩ (λj x a H2 hx g=>⟨trivial,?_⟩) (λa H2 g=>⟨trivial,?_⟩))
 ·exact fX x (cM hx:_) λp e=>g.yes e rfl hl
 ·refine fq a g.end λJD=>?_;obtain rfl:=JD;have e:d.filterMap (λp:Int×Int=>IC (aS (p.2 - p.1+1)))=(d.map λp=>p.2 - p.1+1).map .int:=by(refine ah _ (gU ..) ?_;refine ah _ (cV ..) ?_);rfl
  exact ah _ e (oj (dr q))
variable {b:Bool} {p:Prop}
inductive Sg where
 |le|ge|ne|eq
noncomputable def Sg.str:Sg->Str
 |le=>"<="|ge=>">="|ne=>"!="|eq=>"="
noncomputable def jt (x:Int) (s:Sg) (k:Int):PyData:=.tuple [.int x,.str s.str,.int k]
theorem iu (h:b=true) (hp:p):j7 b p q:=by subst h;exact hp
theorem ju (h:b=false) (hp:q):j7 b p q:=by subst h;exact hp
theorem Ke:(Sg.str .le==am "<=")=true:=by decide+kernel
theorem MS:(Sg.str .ge==am "<=")=false:=by decide+kernel
theorem MQ:(Sg.str .ne==am "<=")=false:=by decide+kernel
theorem MT:(Sg.str .eq==am "<=")=false:=by decide+kernel
theorem L7:(Sg.str .ge==am ">=")=true:=by decide+kernel
theorem MR:(Sg.str .ne==am ">=")=false:=by decide+kernel
theorem MU:(Sg.str .eq==am ">=")=false:=by decide+kernel
theorem PM:(Sg.str .eq==am "=")=true:=by decide+kernel
theorem PL:(Sg.str .ne==am "=")=false:=by decide+kernel
noncomputable def OG (x:Int) (s:Sg) (k:Int):PyData:=match s with
 |.le=>jt x .ge (k+1)
 |.ge=>jt x .le (k - 1)
 |.eq=>jt x .ne k
 |.ne=>jt x .eq k
theorem rN (ok:fB B) {x k:Int} {s:Sg} (q:Q (.dat (OG x s k)) H):Ap B (n+1) (.ref 147) [.dat (jt x s k)] H Q:=by
 refine PF.ap ok AS (show j7 (s.str==am "<=") _ _ from cr (λh1=>?_) λh1=>(show j7 (s.str==am ">=") _ _ from cr (λh2=>?_) λh2=>(show j7 (s.str==am "=") _ _ from cr (λh3=>?_) λh3=>?_)))
 ·cases s with
  |le=>exact dr q
  |ge=>cases MS.symm.trans h1
  |ne=>cases MQ.symm.trans h1
  |eq=>cases MT.symm.trans h1
 ·cases s with
  |le=>cases Ke.symm.trans h1
  |ge=>exact dr q
  |ne=>cases MR.symm.trans h2
  |eq=>cases MU.symm.trans h2
 ·cases s with
  |le=>cases Ke.symm.trans h1
  |ge=>cases L7.symm.trans h2
  |ne=>cases PL.symm.trans h3
  |eq=>exact dr q
 ·cases s with
  |le=>cases Ke.symm.trans h1
  |ge=>cases L7.symm.trans h2
  |ne=>exact dr q
  |eq=>cases PM.symm.trans h3
variable {k:Int} {found:List PyData}
noncomputable def mf (k:Int):List (Int×Int)->List PyData
 |[]=>[]
 |(a,b)::d=>if b<k then mf k d else if a<=k then[js (k,k)]else[]
theorem qw {a b:Int} {d:List (Int×Int)}:mf k ((a,b)::d)=if b<k then mf k d else if a<=k then[js (k,k)]else[]:=rfl
structure XG (k:Int) (d:List (Int×Int)) (H:List a_) (m:Nat) (vals:List (Option V)) (H':List a_):Prop where
 ex:∃(i:Nat) (j:Nat) (x y:Option V) (found:List PyData),vals=[IC (.dat (bY d)),IC (dT [js (k,k)]),IC (.loc H.length),IC (dI i),IC (dI j),x,y]/\H'=H++[.list found]/\i<=d.length/\j<=1/\m=(d.length - i)+(1 - j)/\
  (j=0->found=[]/\mf k d=mf k (d.drop i))/\(j=1->found=mf k d)
theorem yO {v:V} {J:List a_} (hc:ea H) (hv:QJ H.length v=true) (q:Q v H):∃v0 H0,K7 H.length v (H++J) v0 H0/\Q v0 H0:=(ie v H (.drop (aq _) hc hv) q)
theorem mh:(H++[a_.list found])[H.length]?=IC (.list found):=by simp
theorem aj {o:Option α} {k:α->Prop} {a:α} (e:o=IC a) (q:k a):aW o k:=by refine ah _ e ?_;exact q
theorem eO:(H++[a_.list found])[H.length]?.bind ch=IC found:=by refine ah _ (mh ..) ?_;rfl
theorem on {x y:a_}:(H++[x]).set H.length y=H++[y]:=by(refine ah _ (DX _ _ (aq _) ..) ?_;refine ah _ (gZ ..) ?_);rfl
theorem OM (ok:fB B) {d:List (Int×Int)} (hc:ea H) (hl:d.length<=1000) (q:Q (dT (mf k d)) H):Ap B (n+1) (.ref 140) [.dat (bY d),dT [js (k,k)]] H Q:=by
 have P8:d.length<=sizeLine:=ab hl (ba rfl);refine PF.ap ok Rl ⟨XG k d H,⟨_,⟨0,0,_,_,[],rfl,rfl,aL _,aL _,rfl,λZ=>⟨rfl,rfl⟩,Rh⟩⟩,?_⟩;rintro m vals H1 ⟨i,j,x,y,found,rfl,rfl,hi,hj,rfl,h0,h1⟩;have fin:found=mf k d->∃v0 H0,K7 H.length (dT found) (H++[.list found]) v0 H0/\Q v0 H0:=λe=>yO hc rfl (e▸q);have fl:found=mf k d->found.length<=sizeLine:=λe=>by
  have:∀d:List (Int×Int),(mf k d).length<=1:=by
   intro d
   induction d with
   |nil=>exact aL _
   |cons p d ih=>(refine ah _ (show p=(p.1,p.2)from rfl) ?_;refine ah _ (qw ..) ?_);split;exact ih;split;exact aq _;exact aL _
  refine ah _ e ?_;exact ab (this d) (ba rfl)
 have out:found=mf k d->aW ((H++[a_.list found])[H.length]?.bind ch) λxs=>xs.length<=sizeLine/\∃v0 H0,K7 H.length (dT xs) (H++[.list found]) v0 H0/\Q v0 H0:=λe=>by
  refine ah _ (mh ..) ?_;exact⟨fl e,fin e⟩
 refine⟨by refine ah _ (af ..) ?_;exact P8,cr (λhb=>?_) λhb=>?_⟩
 ·refine⟨(by exact ba rfl:1<=sizeLine),cr (λM8=>?_) λM8=>?_⟩
  ·have UX:(j:Int)<1:=of_decide_eq_true M8;have UX:j=0:=Nat.lt_one_iff.1 (jM.1 UX);subst UX;refine fq found (h0 rfl:_) λhm=>?_;have hn:(i:Int)<((d.map js).length:Nat):=of_decide_eq_true hb;rw[af]at hn;have Mx:i<d.length:=Int.ofNat_lt.mp hn;obtain⟨⟨a,b⟩,e0⟩:∃p,d[i]?=IC p:=⟨_,aJ Mx⟩;have e:(d.map js)[((i:Nat):Int).toNat]?=IC (js (a,b)):=by(refine ah _ (bG ..) ?_;refine ah _ (aK ..) ?_;refine ah _ e0 ?_);rfl
   have ib:0<=(i:Int)/\(i:Int)<2^63:=⟨Xa,t8 (ab (bj Mx) hl)⟩;have jb:0<=((0:Nat):Int)/\((0:Nat):Int)<2^63:=⟨iv 0,bW ib.1 ib.2⟩;have ed:d.drop i=(a,b)::d.drop (i+1):=(cU Mx).trans (by refine ah _ ((List.getElem?_eq_some_iff.mp e0).2 ..) rfl);refine⟨ib,aj e ⟨jb,aj rfl ⟨ib,aj e ⟨jb,aj rfl ?_⟩⟩⟩⟩;refine(show j7 (decide (max a k<=min b k)) _ _ from cr (λc1=>?_) λc1=>?_)
   ·have c1:max a k<=min b k:=of_decide_eq_true c1;have hak:a<=k:=aaP c1;have ZZ:k<=b:=aaO c1;refine aj eO (aj eO ⟨aL _,?_⟩);refine⟨ib,aj e ⟨jb,aj rfl (show j7 (decide (b<k)) _ _ from cr (λc2=>?_) λc2=>?_)⟩⟩
    ·have:b<k:=of_decide_eq_true c2;exact(Int.not_lt.mpr ZZ this).elim
    ·refine⟨(d.length - i)+(1 - 1),VD,⟨i,1,_,_,[js (max a k,min b k)],rfl,on,hi,aq _,rfl,SS,λZ=>?_⟩⟩
     (refine ah _ hm ?_;refine ah _ ed ?_;refine ah _ (qw ..) ?_;refine ah _ (if_neg (Int.not_lt_of_ge ZZ) ..) ?_;refine ah _ (if_pos hak ..) ?_;refine ah _ (show max a k=k by exact nN hak) ?_;refine ah _ (show min b k=k by exact uC ZZ) rfl)
   ·have c1:¬(max a k<=min b k):=of_decide_eq_false c1;refine⟨ib,aj e ⟨jb,aj rfl (show j7 (decide (b<k)) _ _ from cr (λc2=>?_) λc2=>?_)⟩⟩
    ·have c2:b<k:=of_decide_eq_true c2;exact⟨(d.length - (i+1))+(1 - 0),WS Mx,⟨i+1,0,_,_,[],rfl,rfl,Mx,aL _,rfl,λZ=>⟨rfl,by(refine ah _ hm ?_;refine ah _ ed ?_;refine ah _ (qw ..) ?_;refine ah _ (if_pos c2 ..) rfl)⟩,Rh⟩⟩
    ·have c2:¬(b<k):=of_decide_eq_false c2;refine⟨(d.length - i)+(1 - 1),VD,⟨i,1,_,_,[],rfl,rfl,hi,aq _,rfl,SS,λZ=>?_⟩⟩
     (refine ah _ hm ?_;refine ah _ ed ?_;refine ah _ (qw ..) ?_;refine ah _ (if_neg c2 ..) ?_;refine ah _ (if_neg (Xx c1 c2) ..) rfl)
  ·refine out (h1 ?_);have:¬((j:Int)<1):=of_decide_eq_false M8;exact Xd hj this
 ·refine out ?_;have hn:¬((i:Int)<((d.map js).length:Nat)):=of_decide_eq_false hb;rw[af]at hn;have Mx:i=d.length:=WI hi hn;rcases tN j 1 with UX|hj1
  ·refine fq found (h0 (DO (bF UX)):_) λe=>?_
   (refine ah _ e ?_;refine ah _ Mx ?_;refine ah _ (fk ..) ?_);rfl
  ·exact h1 (cC hj hj1)
noncomputable def Cp (s:Sg) (k:Int) (d:List (Int×Int)):List PyData:=match s with
 |.le=>d.filterMap (AV k)
 |.ge=>d.filterMap (pL k)
 |.eq=>mf k d
 |.ne=>d.filterMap (AV (k - 1))++d.filterMap (pL (k+1))
theorem DY (ok:fB B) {x:Int} {s:Sg} {d:List (Int×Int)} (hc:ea H) (hl:d.length<=1000) (q:Q (dT (Cp s k d)) H):Ap B (n+3) (.ref 154) [.dat (jt x s k),.dat (bY d)] H Q:=by
 have P8:d.length<=sizeLine:=ab hl (ba rfl);have K4:d.length+d.length<=sizeLine:=ab (cj hl hl) (ba rfl);refine PF.ap ok GG (show j7 (s.str==am "<=") _ _ from cr (λh1=>?_) λh1=>(show j7 (s.str==am ">=") _ _ from cr (λh2=>?_) λh2=>(show j7 (s.str==am "=") _ _ from cr (λh3=>?_) λh3=>?_)))
 ·cases s with
  |le=>exact yN ok P8 (dr q)
  |ge=>cases MS.symm.trans h1
  |ne=>cases MQ.symm.trans h1
  |eq=>cases MT.symm.trans h1
 ·cases s with
  |le=>cases Ke.symm.trans h1
  |ge=>exact tM ok P8 (dr q)
  |ne=>cases MR.symm.trans h2
  |eq=>cases MU.symm.trans h2
 ·cases s with
  |le=>cases Ke.symm.trans h1
  |ge=>cases L7.symm.trans h2
  |ne=>cases PL.symm.trans h3
  |eq=>exact OM ok hc hl (dr q)
 ·cases s with
  |le=>cases Ke.symm.trans h1
  |ge=>cases L7.symm.trans h2
  |ne=>exact AW ok K4 (dr q)
  |eq=>cases PM.symm.trans h3
variable {o:a_}
theorem yP (ok:fB B) {d:List (Int×Int)} {a b:Int} (hd:d.getLast?=IC (a,b)) (q:Q (dI b) H):Ap B (n+1) (.ref 90) [.dat (bY d)] H Q:=by
 have e:(d.map js).getLast?=IC (js (a,b)):=by(refine ah _ (mV ..) ?_;refine ah _ hd ?_);rfl
 exact PF.ap ok AQ (show aW (d.map js).getLast? _ from aj e (dr q))
noncomputable def qx (found:List (Int×Int)) (low high:Int):List (Int×Int):=match found.getLast? with
 |none=>found++[(low,high)]
 |some (a,b)=>if low<=b+1 then(if b<high then found.dropLast++[(a,high)]else found)else found++[(low,high)]
theorem vD {v:V} (q:Q v (H.set i o)):∃v0 H0,K7 H.length v (H.set i o) v0 H0/\Q v0 H0:=(ie v _ (.keep (bd List.length_set.symm)) q)
theorem yQ (h:H[i]?=IC o):H.set i o=H:=by
 apply jI;intro j;refine ah _ (mE ..) ?_
 split
 ·rename_i e;subst e;refine ah _ h ?_;simp[c8 h]
 ·rfl
theorem uW (ok:fB B) {found:List (Int×Int)} {low high:Int} (hi:H[i]?=IC (.list (found.map js))) (hl:found.length<=1000) (q:Q dN (H.set i (.list ((qx found low high).map js)))):Ap B (n+1) (.ref 69) [.loc i,dI low,dI high] H Q:=by
 have hb:H[i]?.bind ch=IC (found.map js):=by refine ah _ hi ?_;rfl
 have hlen:(found.map js).length<=sizeLine:=by refine ah _ (af ..) ?_;exact ab hl (ba rfl)
 refine PF.ap ok wG (show aW (H[i]?.bind ch) _ from aj hb ⟨hlen,cr (λh1=>?_) λh1=>?_⟩)
 ·have h1:(0:Int)<((found.map js).length:Nat):=of_decide_eq_true h1;obtain⟨⟨a,b⟩,e0⟩:∃p,found.getLast?=IC p:=by
   cases found with
   |nil=>cases h1
   |cons p r=>exact⟨_,gJ (nL p r)⟩
  have e:(found.map js).getLast?=IC (js (a,b)):=by(refine ah _ (mV ..) ?_;refine ah _ e0 ?_);rfl
  have e1:found.map js=found.dropLast.map js++[js (a,b)]:=by
   refine gc found (List.getLast?_eq_some_iff.mp e0:_) λys=>?_;simp
  have ZC:∀x,(found.map js).set ((found.map js).length - 1) x=found.dropLast.map js++[x]:=λx=>by
   (refine ah _ e1 ?_;refine ah _ (aw ..) ?_);simp
  have hp:qx found low high=if low<=b+1 then(if b<high then found.dropLast++[(a,high)]else found)else found++[(low,high)]:=by unfold qx;refine ah _ e0 rfl
  refine aj hb (aj e (show j7 (decide (low<=b+1)) _ _ from cr (λh2=>?_) λh2=>?_))
  ·refine aj hb (aj e (show j7 (decide (b<high)) _ _ from cr (λh3=>?_) λh3=>?_))
   ·refine aj hb (aj e (show aW (H[i]?.bind ch) _ from aj hb (aj (pn (Int.natCast_pos.mp h1)) ⟨⟨by decide,by decide⟩,?_⟩)));rw[hp,if_pos (of_decide_eq_true h2),if_pos (of_decide_eq_true h3),aT]at q;exact vD ((ZC _).symm▸q)
   ·rw[hp,if_pos (of_decide_eq_true h2),if_neg (of_decide_eq_false h3),yQ hi]at q;exact dr q
  ·rw[hp,if_neg (of_decide_eq_false h2),aT]at q;exact aj hb (aj hb ⟨hlen,vD q⟩)
 ·have h1:¬((0:Int)<((found.map js).length:Nat)):=of_decide_eq_false h1
  cases found with
  |cons p r=>exact absurd (Int.ofNat_succ_pos (List.map js r).length) h1
  |nil=>exact aj hb (aj hb ⟨hlen,vD q⟩)
noncomputable def qy (ns:List Int):List (Int×Int):=ns.foldl (λf v=>qx f v v) []
theorem GI (f:List (Int×Int)) (a b:Int):(qx f a b).length<=f.length+1:=by
 unfold qx
 cases f.getLast? with
 |none=>exact bd (by simp)
 |some p=>
  show(if a<=p.2+1 then _ else _:List (Int×Int)).length<=_
  split
  ·split
   ·simp
   ·exact cL _
  ·exact bd (by simp)
theorem DZ:∀(ns:List Int) (f:List (Int×Int)),(ns.foldl (λf v=>qx f v v) f).length<=f.length+ns.length:=by
 intro ns
 induction ns with
 |nil=>intro f;exact aq _
 |cons v ns ih=>intro f;exact VH (ih (qx f v v)) (GI f v v)
theorem tO (ok:fB B) (hc:ea H) (hl:ns.length<64) (q:∀KG:List Int,KG.Perm ns->KG.Pairwise (·<=·)->Q (.dat (bY (qy KG))) H):Ap B (n+2) (.ref 76) [dL (ns.map .int)] H Q:=by
 refine PF.ap ok uS (show qn _ (dL (ns.map .int))from oj ⟨hl,λKG hp hs=>?_⟩);have hlen:∀k,(qy (KG.take k)).length<=64:=λk=>by
  have h1:=DZ (KG.take k) [];have h2:=qO k KG;have h3:=hp.length_eq;have h4:(KG.take k).length<=KG.length:=fU k KG;unfold qy;simp only[p6]at h1;exact VX hl h1 h3 h4
 refine(bA (λk vals H1=>∃y,vals=[IC (dL (ns.map .int)),IC (.loc H.length),y]/\H1=H++[.list ((qy (KG.take k)).map js)]) (aN _ rfl rfl) ?_ ?_)
 ·intro k x vals H2 hx f_;refine cX vals f_ λy j_=>?_;obtain rfl:=j_;refine fX x (cM hx:_) λv e=>uW ok mh (ab (hlen k) (ak rfl)) (aN _ rfl ?_)
  (refine ah _ (on ..) ?_;refine ah _ (bD ..) ?_;refine ah _ e ?_)
  unfold qy;refine ah _ (List.foldl_append ..) ?_;rfl
 ·intro vals H2 p_;refine cX vals p_ λy C_=>?_;obtain rfl:=C_;refine aj eO ⟨by refine ah _ (af ..) ?_;exact ab (hlen _) (ba rfl),yO hc rfl ?_⟩;have:=q KG hp hs
  (refine ah _ (af ..) ?_;refine ah _ (bx ..) ?_);exact this
variable {a:Nat} {l l' l'':Nat->Nat}
noncomputable abbrev et:=List (Int×Int)
structure Lt where
 x:Int
 s:Sg
 k:Int
noncomputable def Lt.d (l:Lt):PyData:=jt l.x l.s l.k
structure Ent where
 x:Nat
 old:et
 lit:Lt
 rs:Option (List Lt)
noncomputable def Ent.d (e:Ent):PyData:=.tuple [.int e.x,bY e.old,e.lit.d,e.rs.elim .none λl=>.tuple (l.map Lt.d),.int (-1)]
structure St where
 b_:List et
 c_:List et
 d_:List Ent
 marks:List Nat
 failed:Bool
 z_:List Lt
 news:List (Int×PyData)
noncomputable def jm (l:Nat->Nat) (b:Bool) (c:List Lt):List (Str×V):=[("domains",.loc (l 1)),("firsts",.loc (l 2)),("trail",.loc (l 3)),("marks",.loc (l 4)),("news",.loc (l 5)),("speaker",dI (-1)),("is_failed",dB b),("clash",dT (c.map Lt.d))]
noncomputable def jX (l:Nat->Nat) (s:St) (a:Nat):a_:=match a with
 |0=>.inst (jm l s.failed s.z_)
 |1=>.list (s.b_.map bY)
 |2=>.list (s.c_.map bY)
 |3=>.list (s.d_.map Ent.d)
 |4=>.list (s.marks.map λk:Nat=>.int k)
 |_=>.m_ s.news
structure e_ (H:List a_) (l:Nat->Nat) (s:St):Prop where
 inj:∀a b,a<6->b<6->l a=l b->a=b
 obj:∀a,a<6->H[l a]?=IC (jX l s a)
 cl:ea H
structure g_ (H H':List a_) (l l':Nat->Nat):Prop where
 len:H.length<=H'.length
 keep:∀j,j<H.length->(∀a,a<6->j≠l a)->H'[j]?=H[j]?
 own:∀a,a<6->(∃b,b<6/\l' a=l b)∨H.length<=l' a
 i:l' 0=l 0
theorem e_.lt {s:St} (S:e_ H l s) (ha:a<6):l a<H.length:=c8 (S.obj a ha)
theorem mW (c:ea H) (h:C5 H.length o=true):ea (H.set i o):=by
 show((H.set i o).all (C5 (H.set i o).length))=true;exact ah _ (dC ..) (List.all_eq_true.mpr λx hx=>(iS hx).elim (List.all_eq_true.mp c x) λe=>e▸h)
theorem g_.set (ha:a<6):g_ H (H.set (l a) o) l l:=
 ⟨bd List.length_set.symm,λj Z hj=>cE (di (hj a ha)),λb hb=>.inl (aN b hb rfl),rfl⟩
theorem e_.upd {s s':St} (S:e_ H l s) (ha:a<6) (h:∀b,b<6->b≠a->jX l s' b=jX l s b) (hc:C5 H.length (jX l s' a)=true):e_ (H.set (l a) (jX l s' a)) l s' where
 inj:=S.inj
 obj:=λb hb=>by
  by_cases e:b=a
  ·subst e;exact cW (S.lt ha)
  ·(refine ah _ (cE (λz=>e (S.inj a b ha hb z).symm) ..) ?_;refine ah _ (h b hb e ..) ?_);exact S.obj b hb
 cl:=mW S.cl hc
theorem g_.trans {NK:List a_} (x:g_ H H' l l') (y:g_ H' NK l' l''):g_ H NK l l'' where
 len:=ab x.len y.len
 keep:=λj hj hn=>(y.keep j (aP hj x.len) λa ha e=>(x.own a ha).elim (λf_=>aG f_ λb hb e2=>hn b hb (e.trans e2)) λhle=>b7 _ (aP hj (e▸hle))).trans (x.keep j hj hn)
 own:=λa ha=>(y.own a ha).elim (λk_=>aG k_ λb hb e=>(x.own b hb).imp (λj_=>aG j_ λc hc e2=>(aN c hc (e.trans e2))) λhle=>e▸hle) λhle=>.inr (ab x.len hle)
 i:=y.i.trans x.i
theorem g_.refl:g_ H H l l:=⟨aq _,λZ Z Z=>rfl,λa ha=>.inl (aN a ha rfl),rfl⟩
theorem dD (l:Nat->Nat) (b:Bool) (c:List Lt):Gp 311 (jm l b c):=by
 have:LK=(jm l b c).map (·.1):=by kernel_rfl
 intro f hf;show f.1∈LK;refine ah _ this ?_;exact aO (f:=(·.1)) hf
theorem yR {s s':St} (S:e_ H l s) (b:Bool) (c:List Lt):C5 H.length (.inst (jm l b c))=true:=by
 show((decide (l 1<H.length))&&((decide (l 2<H.length))&&((decide (l 3<H.length))&&((decide (l 4<H.length))&&((decide (l 5<H.length))&&true)))))=true
 (refine ah _ (decide_eq_true (S.lt (a:=1) (b6 4)) ..) ?_;refine ah _ (decide_eq_true (S.lt (a:=2) (by decide)) ..) ?_;refine ah _ (decide_eq_true (S.lt (a:=3) (by decide)) ..) ?_;refine ah _ (decide_eq_true (S.lt (a:=4) (by decide)) ..) ?_;refine ah _ (decide_eq_true (S.lt (a:=5) (gx 5)) ..) ?_);rfl
theorem tP (l:Nat->Nat) (b b':Bool) (c:List Lt):iD (jm l b c) (am "is_failed") (dB b')=jm l b' c:=by kernel_rfl
theorem vE (l:Nat->Nat) (b:Bool) (c c':List Lt):iD (jm l b c) (am "clash") (dT (c'.map Lt.d))=jm l b c':=by kernel_rfl
theorem kR (l:Nat->Nat) (b:Bool) (c:List Lt):fA (jm l b c) (am "domains")=IC (.loc (l 1)):=by kernel_rfl
theorem AX (l:Nat->Nat) (b:Bool) (c:List Lt):fA (jm l b c) (am "firsts")=IC (.loc (l 2)):=by kernel_rfl
theorem rm (l:Nat->Nat) (b:Bool) (c:List Lt):fA (jm l b c) (am "trail")=IC (.loc (l 3)):=by kernel_rfl
theorem tQ (l:Nat->Nat) (b:Bool) (c:List Lt):fA (jm l b c) (am "marks")=IC (.loc (l 4)):=by kernel_rfl
theorem Rq (l:Nat->Nat) (b:Bool) (c:List Lt):fA (jm l b c) (am "news")=IC (.loc (l 5)):=by kernel_rfl
theorem Rr (l:Nat->Nat) (b:Bool) (c:List Lt):fA (jm l b c) (am "speaker")=IC (dI (-1)):=by kernel_rfl
theorem Rs (l:Nat->Nat) (b:Bool) (c:List Lt):fA (jm l b c) (am "is_failed")=IC (dB b):=by kernel_rfl
theorem Rt (l:Nat->Nat) (b:Bool) (c:List Lt):fA (jm l b c) (am "clash")=IC (dT (c.map Lt.d)):=by kernel_rfl
theorem aU (e:H[i]?=IC (.inst fs)):H[i]?.bind bc=IC fs:=by refine ah _ e ?_;rfl
theorem Cq (ok:fB B) {s:St} {rs:List Lt} (S:e_ H l s) (hl:rs.length<=sizeLine) (q:∀H',e_ H' l {s with failed:=true,z_:=rs}->g_ H H' l l->Q (dB false) H'):Ap B (n+1) (.ref 280) [.inst 311 (l 0),dT (rs.map Lt.d)] H Q:=by
 have e0:=S.obj 0 (ax 5);refine PF.ap ok wM (show aW (H[l 0]?.bind bc) _ from aj (aU e0) (iu rfl ?_));refine ah _ (tP ..) ?_;refine⟨by refine ah _ (af ..) ?_;exact hl,(show aW ((H.set (l 0) _)[l 0]?.bind bc) _ from aj (aU (cW (S.lt (ax 5)))) (iu rfl ?_))⟩
 (refine ah _ (vE ..) ?_;refine ah _ (sP ..) ?_)
 exact vD (q _ (S.upd (s':={s with failed:=true,z_:=rs}) (a:=0) (ax 5) (λb hb hn=>by rcases b with _|_|_|_|_|_|b<;>first|exact absurd rfl hn|rfl) (yR (s':=s) S _ _)) (g_.set (a:=0) (ax 5)))
variable {g:Int×Int->Option (Int×Int)} {f:Int×Int->Option PyData} {k:Nat}
structure Sh (k:Nat) (d:PyData):Prop where
 c:d.canLay0=true
 d:d.depth<=k
theorem tR (h:∀d∈ds,Sh k d):eT ds=true/\PyData.depthAll ds<=k:=by
 induction ds with
 |nil=>exact⟨rfl,aL _⟩
 |cons d ds ih=>
  have h1:=h d ae;have h2:=ih λx hx=>h x (ag _ hx);rw[eT,PyData.depthAll];exact⟨Bool.and_eq_true_iff.mpr ⟨h1.c,h2.1⟩,Nat.max_le.mpr ⟨h1.d,h2.2⟩⟩
theorem wV (h:∀d∈ds,Sh k d):Sh (k+1) (.tuple ds):=⟨by rw[vF];exact(tR h).1,by rw[rO];exact aY (tR h).2⟩
theorem iA (h:∀d∈ds,Sh k d):Sh (k+1) (.list ds):=⟨by rw[vF];exact(tR h).1,by rw[rO];exact aY (tR h).2⟩
theorem mX (i:Int):Sh 0 (.int i):=⟨rfl,by rw[rO];exact aq _⟩
theorem Sh.ok {d:PyData} (h:Sh k d) (hk:k<=64):dA d=true:=Bool.and_eq_true_iff.mpr ⟨h.c,decide_eq_true (ab h.d hk)⟩
theorem i6 {f:α->PyData} (hf:∀a,Sh k (f a)) (l:List α):∀d∈l.map f,Sh k d:=λd hd=>by refine ig d (List.mem_map.mp hd:_) λa Z=>?_;exact hf a
theorem TX (p:Int×Int):Sh 1 (js p):=wV λd hd=>by rcases List.mem_cons.mp hd with rfl|hd;exact mX _;refine ah _ (List.mem_singleton.mp hd ..) ?_;exact mX _
theorem jn (d:et):Sh 2 (bY d):=wV (i6 TX d)
theorem jz (s:Sg):Sh 0 (.str s.str):=⟨by rw[vF];cases s<;>decide+kernel,by rw[rO];exact aq _⟩
theorem yS (l:Lt):Sh 1 l.d:=wV λd hd=>by
 rcases List.mem_cons.mp hd with rfl|hd
 ·exact mX _
 rcases List.mem_cons.mp hd with rfl|hd
 ·exact jz _
 refine ah _ (List.mem_singleton.mp hd ..) ?_;exact mX _
def Enc {α:Type} (f:α->PyData):Prop:=∀x y,aQ (f x) (f y)=true↔x=y
theorem Cr {f:α->PyData} (h:Enc f) (xs:List α):∀ys:List α,fe (xs.map f) (ys.map f)=true↔xs=ys:=by
 induction xs with
 |nil=>intro ys;cases ys with
  |nil=>exact⟨λZ=>rfl,λZ=>rfl⟩
  |cons y ys=>exact⟨λe=>(by rw[List.map_nil,e9,fe]at e;exact fP e),Zb⟩
 |cons x xs ih=>intro ys;cases ys with
  |nil=>exact⟨λe=>(by rw[List.map_nil,e9,fe]at e;exact fP e),Rg⟩
  |cons y ys=>rw[e9,e9,fe,eM,h x y,ih ys,List.cons.injEq]
theorem Cs {f:α->PyData} (h:Enc f):Enc λl:List α=>.tuple (l.map f):=λx y=>by rw[aQ];exact Cr h x y
theorem sQ {f:α->PyData} (h:Enc f):Enc λl:List α=>.list (l.map f):=λx y=>by rw[aQ];exact Cr h x y
theorem im:Enc aS:=λx y=>by rw[aQ];exact beq_iff_eq
theorem Sf:Enc js:=λx y=>by
 show aQ (.tuple ([x.1,x.2].map .int)) (.tuple ([y.1,y.2].map .int))=true↔_;rw[Cs im];obtain⟨a,b⟩:=x;obtain⟨c,d⟩:=y;exact⟨λe=>by cases e;rfl,λe=>by cases e;rfl⟩
theorem jJ:Enc bY:=Cs Sf
noncomputable def wW (k:Int) (p:Int×Int):Option (Int×Int):=if p.1<=k then IC (p.1,min p.2 k)else ID
noncomputable def vG (k:Int) (p:Int×Int):Option (Int×Int):=if k<=p.2 then IC (max p.1 k,p.2)else ID
noncomputable def qz (k:Int):et->et
 |[]=>[]
 |(a,b)::d=>if b<k then qz k d else if a<=k then[(k,k)]else[]
theorem sR {k a b:Int} {d:et}:qz k ((a,b)::d)=if b<k then qz k d else if a<=k then[(k,k)]else[]:=rfl
noncomputable def fM (s:Sg) (k:Int) (d:et):et:=match s with
 |.le=>d.filterMap (wW k)
 |.ge=>d.filterMap (vG k)
 |.eq=>qz k d
 |.ne=>d.filterMap (wW (k - 1))++d.filterMap (vG (k+1))
theorem wX (h:∀p,f p=(g p).map js) (d:et):d.filterMap f=(d.filterMap g).map js:=by
 refine ah _ (rP ..) ?_;exact congrArg (λf=>d.filterMap f) (funext h)
theorem GJ (k:Int) (p:Int×Int):AV k p=(wW k p).map js:=by unfold AV wW;split<;>rfl
theorem GK (k:Int) (p:Int×Int):pL k p=(vG k p).map js:=by unfold pL vG;split<;>rfl
theorem AY (s:Sg) (k:Int) (d:et):Cp s k d=(fM s k d).map js:=by
 cases s with
 |le=>exact wX (GJ k) d
 |ge=>exact wX (GK k) d
 |ne=>show d.filterMap _++d.filterMap _=_;(refine ah _ (wX (GJ (k - 1)) ..) ?_;refine ah _ (wX (GK (k+1)) ..) ?_;refine ah _ (aT ..).symm ?_);rfl
 |eq=>
  show mf k d=(qz k d).map js
  induction d with
  |nil=>rfl
  |cons p d ih=>
   obtain⟨a,b⟩:=p
   (refine ah _ (qw ..) ?_;refine ah _ (sR ..) ?_)
   split
   ·exact ih
   ·split<;>rfl
theorem Po (s:Sg) (k:Int) (d:et):(fM s k d).length<=d.length+d.length:=by
 cases s with
 |le=>exact ab (bp _ _) (b5 _ _)
 |ge=>exact ab (bp _ _) (b5 _ _)
 |ne=>show(d.filterMap _++d.filterMap _:et).length<=_;refine ah _ (aw ..) ?_;exact cj (bp _ _) (bp _ _)
 |eq=>
  show(qz k d).length<=_
  induction d with
  |nil=>exact aL _
  |cons p d ih=>
   obtain⟨a,b⟩:=p;refine ah _ (sR ..) ?_
   split
   ·exact ab ih (cj (cL _) (cL _))
   ·split
    ·exact ab (aY (aL _)) (f6 _ _)
    ·exact aL _
noncomputable def wY (l:Lt):Lt:=match l.s with
 |.le=>⟨l.x,.ge,l.k+1⟩
 |.ge=>⟨l.x,.le,l.k - 1⟩
 |.eq=>⟨l.x,.ne,l.k⟩
 |.ne=>⟨l.x,.eq,l.k⟩
theorem Ub (l:Lt):OG l.x l.s l.k=(wY l).d:=by obtain⟨x,s,k⟩:=l;cases s<;>rfl
noncomputable def St.enter (s:St) (x:Nat) (l:Lt) (rs:Option (List Lt)):St:=
 {s with d_:=s.d_++[⟨x,s.b_.getD x [],l,rs⟩],b_:=s.b_.set x (fM l.s l.k (s.b_.getD x [])),news:=jV s.news x (.bool true)}
theorem GL {s s':St} (h0:a≠0->s'.failed=s.failed/\s'.z_=s.z_) (h1:a≠1->s'.b_=s.b_) (h2:a≠2->s'.c_=s.c_) (h3:a≠3->s'.d_=s.d_) (h4:a≠4->s'.marks=s.marks) (h5:a≠5->s'.news=s.news):
 ∀b,b<6->b≠a->jX l s' b=jX l s b:=by
 intro b hb hn;rcases b with _|_|_|_|_|_|b
 ·refine bh (h0 (di hn):_) λe1 e2=>?_;show a_.inst (jm l s'.failed s'.z_)=_;(refine ah _ e1 ?_;refine ah _ e2 ?_);rfl
 ·show a_.list (s'.b_.map bY)=_;refine ah _ (h1 (di hn) ..) ?_;rfl
 ·show a_.list (s'.c_.map bY)=_;refine ah _ (h2 (di hn) ..) ?_;rfl
 ·show a_.list (s'.d_.map Ent.d)=_;refine ah _ (h3 (di hn) ..) ?_;rfl
 ·show a_.list (s'.marks.map λk:Nat=>.int k)=_;refine ah _ (h4 (di hn) ..) ?_;rfl
 ·show a_.m_ s'.news=_;refine ah _ (h5 (di hn) ..) ?_;rfl
 ·exact absurd hb VN
variable {x:Nat}
theorem bM (e:H[i]?=IC (.list xs)):H[i]?.bind ch=IC xs:=by refine ah _ e ?_;rfl
theorem AZ {xs:List (Int×PyData)} (e:H[i]?=IC (.m_ xs)):H[i]?.bind sM=IC xs:=by refine ah _ e ?_;rfl
theorem iT {f:α->PyData} {xs:List α} {d:α} (hx:xs[x]?=IC d):(xs.map f)[(x:Int).toNat]?=IC (f d):=by(refine ah _ (bG ..) ?_;refine ah _ (aK ..) ?_;refine ah _ hx ?_);rfl
theorem i7 {xs:List α} {d:α} (hx:xs[x]?=IC d) (hs:xs.length<=1000):0<=(x:Int)/\(x:Int)<2^63:=by
 have:=c8 hx;exact⟨dJ _,t8 (ab (bj this) hs)⟩
noncomputable def rsD (rs:Option (List Lt)):PyData:=rs.elim .none λl=>.tuple (l.map Lt.d)
structure Pw (s:St):Prop where
 b_:s.b_.length<=3
 len:∀d∈s.b_,d.length<=400
 d_:s.d_.length<=1000
 news:s.news.length<=1000
theorem E0 {xs:List α} {d e:α} (hx:xs[x]?=IC d):xs.getD x e=d:=by(refine ah _ (bk ..) ?_;refine ah _ hx ?_);rfl
theorem B0 {s:St} {d f:et} {a b c e:Option V} {K:KS} (S:e_ H l s) (hx:s.b_[x]?=IC d) (hl:s.b_.length<=1000) (hn:s.news.length<=sizeLine)
 (q:∀H',e_ H' l {s with b_:=s.b_.set x f,news:=jV s.news x (.bool true)}->g_ H H' l l->K (.ret (dB true)) [IC (.inst 311 (l 0)),a,b,c,IC (dI x),e,IC (.dat (bY f))] H'):
 cA (JV.body.drop 6) B n [IC (.inst 311 (l 0)),a,b,c,IC (dI x),e,IC (.dat (bY f))] H K:=by
 have e1:=bM (S.obj 1 (b6 4));have hi:fK (x:Int) (s.b_.map bY).length=IC x:=jk (by refine ah _ (af ..) ?_;exact c8 hx);refine(show aW (H[l 0]?.bind bc) _ from aj (aU (S.obj 0 (ax 5))) (aj (kR _ _ _) ?_));refine(show aW (H[l 1]?.bind ch) _ from aj e1 (aj hi ⟨⟨aX (Int.neg_ofNat_le_ofNat (2^63) 0) (i7 hx hl).1,(i7 hx hl).2⟩,?_⟩));refine ah _ (Ct ..).symm ?_;have S1:=S.upd (s':={s with b_:=s.b_.set x f}) (a:=1) (b6 4) (GL (λZ=>⟨rfl,rfl⟩) (λz=>absurd rfl z) (λZ=>rfl) (λZ=>rfl) (λZ=>rfl) (λZ=>rfl)) rfl;refine(show aW ((H.set (l 1) (jX l {s with b_:=s.b_.set x f} 1))[l 0]?.bind bc) _ from aj (aU (S1.obj 0 (ax 5))) (aj (Rq _ _ _) ?_));refine(show aW ((H.set (l 1) (jX l {s with b_:=s.b_.set x f} 1))[l 5]?.bind sM) _ from aj (AZ (S1.obj 5 (gx 5))) ⟨hn,?_⟩);have S2:=S1.upd (s':={s with b_:=s.b_.set x f,news:=jV s.news x (.bool true)}) (a:=5) (gx 5) (GL (λZ=>⟨rfl,rfl⟩) (λZ=>rfl) (λZ=>rfl) (λZ=>rfl) (λZ=>rfl) (λz=>absurd rfl z)) rfl;exact q _ S2 ((g_.set (a:=1) (b6 4)).trans (g_.set (a:=5) (gx 5)))
theorem yT (ok:fB B) {s:St} {d:et} {sg:Sg} {k:Int} {rs:Option (List Lt)} (S:e_ H l s) (O:Pw s) (hx:s.b_[x]?=IC d) (hr:(rs.getD []).length<=1000)
 (q1:fM sg k d=[]->∀H',e_ H' l {s with failed:=true,z_:=rs.getD []++[wY ⟨x,sg,k⟩]}->g_ H H' l l->Q (dB false) H')
 (q2:fM sg k d≠[]->fM sg k d=d->Q (dB true) H)
 (q3:fM sg k d≠[]->fM sg k d≠d->∀H',e_ H' l (s.enter x ⟨x,sg,k⟩ rs)->g_ H H' l l->Q (dB true) H'):Ap B (n+4) (.ref 259) [.inst 311 (l 0),.dat (jt x sg k),.dat (rsD rs),dI (-1)] H Q:=by
 have e0:=aU (S.obj 0 (ax 5));have e1:=bM (S.obj 1 (b6 4));have hd:d.length<=400:=O.len d (an hx);refine PF.ap ok uV (show aW (H[l 0]?.bind bc) _ from aj e0 (aj (kR _ _ _) ?_));refine(show aW (H[l 1]?.bind ch) _ from aj e1 ⟨i7 hx (ab O.b_ (ak rfl)),aj (iT hx) (DY ok S.cl (ab hd (ak rfl)) ?_)⟩);refine ah _ (AY ..) (⟨⟨(jn _).ok (ak rfl),rfl⟩,cr (λhb=>?_) λhb=>?_⟩)
 ·refine(show aW (H[l 0]?.bind bc) _ from aj e0 ⟨dD _ _ _,?_⟩);have fin:∀QY:List Lt,QY=rs.getD []->QY.length+1<=sizeLine/\Ap B (n+3) (.ref 280) [.inst 311 (l 0),dT (QY.map Lt.d++[OG x sg k])] H λv H1=>∃v0 H0,K7 H.length v H1 v0 H0/\Q v0 H0:=λQY e=>by
   have hl:QY.length+1<=sizeLine:=by refine ah _ e ?_;exact ab (aY hr) (ba rfl)
   have:QY.map Lt.d++[OG x sg k]=(QY++[wY ⟨x,sg,k⟩]).map Lt.d:=by(refine ah _ (aT ..) ?_;refine ah _ (Ub ⟨x,sg,k⟩ ..) ?_);rfl
   refine ah _ this ?_;exact⟨hl,Cq ok S (by refine ah _ (aw ..) ?_;exact hl) λH' S' K=>(ie _ H' (.keep K.len) (q1 ((jJ _ []).mp hb) H' (e▸S') K))⟩
  cases rs with
  |none=>exact⟨rfl,rN ok (fin [] rfl)⟩
  |some ws=>exact⟨rfl,rN ok ⟨by refine ah _ (af ..) ?_;exact(fin ws rfl).1,(fin ws rfl).2⟩⟩
 ·have he:fM sg k d≠[]:=λe=>aA (hb.symm.trans ((jJ _ []).mpr e));refine⟨⟨(jn _).ok (ak rfl),(jn _).ok (ak rfl)⟩,cr (λM8=>dr (q2 he ((jJ _ d).mp M8))) λM8=>?_⟩;have Y3:fM sg k d≠d:=λe=>aA (M8.symm.trans ((jJ _ d).mpr e));have e3:=bM (S.obj 3 (by decide));refine(show aW (H[l 0]?.bind bc) _ from aj e0 (aj (rm _ _ _) ?_));refine(show aW (H[l 3]?.bind ch) _ from aj e3 (aj e3 ⟨by refine ah _ (af ..) ?_;exact ab O.d_ (ba rfl),?_⟩));refine(show cA _ B (n+3) _ (H.set (l 3) (.list (s.d_.map Ent.d++[Ent.d ⟨x,d,⟨x,sg,k⟩,rs⟩]))) _ from ?_);rw[show s.d_.map Ent.d++[Ent.d ⟨x,d,⟨x,sg,k⟩,rs⟩]=(s.d_++[(⟨x,d,⟨x,sg,k⟩,rs⟩:Ent)]).map Ent.d from by refine ah _ (aT ..) ?_;rfl];have S1:=S.upd (s':={s with d_:=s.d_++[⟨x,d,⟨x,sg,k⟩,rs⟩]}) (a:=3) (by decide) (GL (λZ=>⟨rfl,rfl⟩) (λZ=>rfl) (λZ=>rfl) (λz=>absurd rfl z) (λZ=>rfl) (λZ=>rfl)) rfl;refine B0 (f:=fM sg k d) S1 hx (ab O.b_ (ak rfl)) (ab O.news (ba rfl)) λH' S' K'=>(ie _ H' (.keep (ab (bd List.length_set.symm) K'.len)) (q3 he Y3 H' ?_ ((g_.set (a:=3) (by decide)).trans K')));show e_ H' l {s with d_:=s.d_++[⟨x,s.b_.getD x [],⟨x,sg,k⟩,rs⟩],b_:=s.b_.set x (fM sg k (s.b_.getD x [])),news:=jV s.news x (.bool true)};refine ah _ (E0 hx ..) ?_;exact S'
variable {a b k:Int} {sg:Sg} {s:St}
structure KR (H:List a_) (l:Nat->Nat) (s:St) (x:Nat) (d:et) (sg:Sg) (k:Int) (rs:Option (List Lt)) (Q:V->List a_->Prop):Prop where
 bad:fM sg k d=[]->∀H',e_ H' l {s with failed:=true,z_:=rs.getD []++[wY ⟨x,sg,k⟩]}->g_ H H' l l->Q (dB false) H'
 same:fM sg k d≠[]->fM sg k d=d->Q (dB true) H
 new:fM sg k d≠[]->fM sg k d≠d->∀H',e_ H' l (s.enter x ⟨x,sg,k⟩ rs)->g_ H H' l l->Q (dB true) H'
theorem oq {v:V} (K:g_ H H' l l') (q:Q v H'):∃v0 H0,K7 H.length v H' v0 H0/\Q v0 H0:=(ie v H' (.keep K.len) q)
theorem KR.keep {d:et} {rs:Option (List Lt)} (q:KR H l s x d sg k rs Q):KR H l s x d sg k rs λv H1=>∃v0 H0,K7 H.length v H1 v0 H0/\Q v0 H0:=
 ⟨λe H' S K=>oq K (q.bad e H' S K),λe e2=>dr (q.same e e2),λe e2 H' S K=>oq K (q.new e e2 H' S K)⟩
theorem E2 (ok:fB B) {d:et} (S:e_ H l s) (O:Pw s) (hx:s.b_[x]?=IC d) (q:KR H l s x d sg k ID Q):Ap B (n+5) (.ref 273) [.inst 311 (l 0),.dat (jt x sg k)] H Q:=
 PF.ap ok tL (show aW (H[l 0]?.bind bc) _ from aj (aU (S.obj 0 (ax 5))) ⟨dD _ _ _,yT (rs:=ID) ok S O hx (aL _) q.keep.bad q.keep.same q.keep.new⟩)
theorem E3 (ok:fB B) {d:et} {rs:List Lt} (S:e_ H l s) (O:Pw s) (hx:s.b_[x]?=IC d) (hr:rs.length<=1000) (q:KR H l s x d sg k (IC rs) Q):Ap B (n+5) (.ref 266) [.inst 311 (l 0),.dat (jt x sg k),dT (rs.map Lt.d)] H Q:=by
 have e0:=aU (S.obj 0 (ax 5));refine PF.ap ok tJ (show aW (H[l 0]?.bind bc) _ from aj e0 ⟨dD _ _ _,by refine ah _ (af ..) ?_;exact ab hr (ba rfl),(show aW (H[l 0]?.bind bc) _ from aj e0 (aj (Rr _ _ _) ?_))⟩);exact yT (rs:=IC rs) ok S O hx hr q.keep.bad q.keep.same q.keep.new
theorem QR (ok:fB B) (S:e_ H l s) (hl:s.b_.length<=1000) (q:Q (dI s.b_.length) H):Ap B (n+1) (.ref 189) [.inst 311 (l 0)] H Q:=by
 refine PF.ap ok wI (show aW (H[l 0]?.bind bc) _ from aj (aU (S.obj 0 (ax 5))) (aj (kR _ _ _) ?_));refine(show aW (H[l 1]?.bind ch) _ from aj (bM (S.obj 1 (b6 4))) ?_);exact ah _ (af ..) (⟨ab hl (ba rfl),dr q⟩)
theorem Cu (ok:fB B) {d:et} (S:e_ H l s) (hl:s.b_.length<=1000) (hx:s.b_[x]?=IC d) (q:Q (.dat (bY d)) H):Ap B (n+1) (.ref 196) [.inst 311 (l 0),dI x] H Q:=by
 refine PF.ap ok yD (show aW (H[l 0]?.bind bc) _ from aj (aU (S.obj 0 (ax 5))) (aj (kR _ _ _) ?_));exact(show aW (H[l 1]?.bind ch) _ from aj (bM (S.obj 1 (b6 4))) ⟨i7 hx hl,aj (iT hx) (dr q)⟩)
theorem E4 (ok:fB B) {d:et} (S:e_ H l s) (hl:s.c_.length<=1000) (hx:s.c_[x]?=IC d) (q:Q (.dat (bY d)) H):Ap B (n+1) (.ref 203) [.inst 311 (l 0),dI x] H Q:=by
 refine PF.ap ok su (show aW (H[l 0]?.bind bc) _ from aj (aU (S.obj 0 (ax 5))) (aj (AX _ _ _) ?_));exact(show aW (H[l 2]?.bind ch) _ from aj (bM (S.obj 2 (by decide))) ⟨i7 hx hl,aj (iT hx) (dr q)⟩)
theorem Ug (ok:fB B) {d:et} (S:e_ H l s) (hl:s.b_.length<=1000) (hx:s.b_[x]?=IC ((a,b)::d)) (q:Q (dI a) H):Ap B (n+2) (.ref 210) [.inst 311 (l 0),dI x] H Q:=by
 refine PF.ap ok yF (show aW (H[l 0]?.bind bc) _ from aj (aU (S.obj 0 (ax 5))) (aj (kR _ _ _) ?_));exact(show aW (H[l 1]?.bind ch) _ from aj (bM (S.obj 1 (b6 4))) ⟨i7 hx hl,aj (iT hx) (GH ok (dr q))⟩)
theorem RS (ok:fB B) {d:et} (S:e_ H l s) (hl:s.b_.length<=1000) (hx:s.b_[x]?=IC d) (hd:d.getLast?=IC (a,b)) (q:Q (dI b) H):Ap B (n+2) (.ref 217) [.inst 311 (l 0),dI x] H Q:=by
 refine PF.ap ok wK (show aW (H[l 0]?.bind bc) _ from aj (aU (S.obj 0 (ax 5))) (aj (kR _ _ _) ?_));exact(show aW (H[l 1]?.bind ch) _ from aj (bM (S.obj 1 (b6 4))) ⟨i7 hx hl,aj (iT hx) (yP ok hd (dr q))⟩)
theorem V5 (ok:fB B) {d:et} (S:e_ H l s) (hl:s.b_.length<=1000) (hx:s.b_[x]?=IC d) (q:Q (dB (aQ (fC v d) (.int v))) H):Ap B (n+3) (.ref 224) [.inst 311 (l 0),dI x,dI v] H Q:=by
 refine PF.ap ok yH (show aW (H[l 0]?.bind bc) _ from aj (aU (S.obj 0 (ax 5))) (aj (kR _ _ _) ?_));exact(show aW (H[l 1]?.bind ch) _ from aj (bM (S.obj 1 (b6 4))) ⟨i7 hx hl,aj (iT hx) (wU ok (dr q))⟩)
theorem O7 (ok:fB B) {d:et} (S:e_ H l s) (hl:s.b_.length<=1000) (hx:s.b_[x]?=IC d) (hd:d.length<=sizeLine) (q:Q (dI (d.map λp=>p.2 - p.1+1).sum) H):Ap B (n+2) (.ref 245) [.inst 311 (l 0),dI x] H Q:=by
 refine PF.ap ok uU (show aW (H[l 0]?.bind bc) _ from aj (aU (S.obj 0 (ax 5))) (aj (kR _ _ _) ?_));exact(show aW (H[l 1]?.bind ch) _ from aj (bM (S.obj 1 (b6 4))) ⟨i7 hx hl,aj (iT hx) (Oh ok hd (dr q))⟩)
theorem Cv (ok:fB B) (S:e_ H l s) (ht:s.d_.length<=sizeLine) (hm:s.marks.length<=sizeLine) (q:∀H',e_ H' l {s with marks:=s.marks++[s.d_.length]}->g_ H H' l l->Q dN H'):Ap B (n+1) (.ref 287) [.inst 311 (l 0)] H Q:=by
 have e0:=aU (S.obj 0 (ax 5));have e4:=bM (S.obj 4 (by decide));refine PF.ap ok wO (show aW (H[l 0]?.bind bc) _ from aj e0 (aj (tQ _ _ _) ?_));refine(show aW (H[l 4]?.bind ch) _ from aj e4 (show aW (H[l 0]?.bind bc) _ from aj e0 (aj (rm _ _ _) ?_)));refine(show aW (H[l 3]?.bind ch) _ from aj (bM (S.obj 3 (by decide))) ⟨by refine ah _ (af ..) ?_;exact ht,(show aW (H[l 4]?.bind ch) _ from aj e4 ⟨by refine ah _ (af ..) ?_;exact hm,?_⟩)⟩);have hm:(s.marks.map λk:Nat=>aS k)++[.int ((s.d_.map Ent.d).length:Nat)]=(s.marks++[s.d_.length]).map λk:Nat=>aS k:=by(refine ah _ (aT ..) ?_;refine ah _ (af ..) ?_);rfl
 exact ah _ hm (vD (q _ (S.upd (s':={s with marks:=s.marks++[s.d_.length]}) (a:=4) (by decide) (GL (λZ=>⟨rfl,rfl⟩) (λZ=>rfl) (λZ=>rfl) (λZ=>rfl) (λz=>absurd rfl z) (λZ=>rfl)) rfl) (g_.set (a:=4) (by decide))))
variable {a b:Nat} {s':St}
noncomputable def pM (l:Nat->Nat) (a k:Nat):Nat->Nat:=λb=>if b=a then k else l b
theorem sS (l:Nat->Nat) (a k:Nat):pM l a k a=k:=if_pos rfl
theorem mY {k:Nat} (h:b≠a):pM l a k b=l b:=if_neg h
theorem GM (h:b≠0):jX l' s b=jX l s b:=by
 rcases b with _|_|_|_|_|b
 ·exact absurd rfl h
 all_goals rfl
theorem yU {m':Nat} (hm:m<=m') (h:C5 m o=true):C5 m' o=true:=by
 cases o with
 |inst fs=>
  refine List.all_eq_true.mpr λf hf=>?_;have:=List.all_eq_true.mp (show(fs.all λf=>QJ m f.2)=true from h) f hf
  cases hv:f.2 with
  |loc i=>rw[hv]at this;exact decide_eq_true (aP (of_decide_eq_true this) hm)
  |inst C i=>rw[hv]at this;exact decide_eq_true (aP (of_decide_eq_true this) hm)
  |_=>rfl
 |_=>rfl
theorem mZ (c:ea H) (h:C5 (H.length+1) o=true):ea (H++[o]):=by
 show((H++[o]).all (C5 (H++[o]).length))=true;refine ah _ (aw ..) ?_;refine List.all_eq_true.mpr λx hx=>(List.mem_append.mp hx).elim (λhx=>yU (cL _) (List.all_eq_true.mp c x hx)) λhx=>by refine ah _ (List.mem_singleton.mp hx ..) ?_;exact h
theorem GN (ha:a≠0):C5 m (jX l s a)=true:=by
 rcases a with _|_|_|_|_|a
 ·exact absurd rfl ha
 all_goals rfl
theorem e_.app (S:e_ H l s) (ho:C5 (H.length+1) o=true):e_ (H++[o]) l s:=⟨S.inj,λa ha=>(b8 (S.lt ha)).trans (S.obj a ha),mZ S.cl ho⟩
theorem e_.move (S:e_ H l s) (ha:a<6) (ha0:a≠0) (h:∀b,b<6->b≠a->jX l s' b=jX l s b):
 e_ ((H++[jX l s' a]).set (l 0) (.inst (jm (pM l a H.length) s'.failed s'.z_))) (pM l a H.length) s'/\g_ H ((H++[jX l s' a]).set (l 0) (.inst (jm (pM l a H.length) s'.failed s'.z_))) l (pM l a H.length):=by
 have r_:∀b,b<6->pM l a H.length b<H.length+1:=λb hb=>by
  unfold pM;split
  ·exact bV _
  ·exact cq (S.lt hb)
 have h0:pM l a H.length 0=l 0:=mY (di ha0);refine⟨⟨λb c hb hc e=>?_,λb hb=>?_,mW (mZ S.cl (GN ha0)) ?_⟩,⟨?_,λj hj hn=>?_,λb hb=>?_,h0⟩⟩
 ·by_cases e1:b=a
  ·by_cases e2:c=a
   ·(refine ah _ e1 ?_;refine ah _ e2 rfl)
   ·rw[e1,sS,mY e2]at e;exact absurd e (d8 (S.lt hc))
  ·by_cases e2:c=a
   ·rw[e2,sS,mY e1]at e;exact absurd e (bf (S.lt hb))
   ·rw[mY e1,mY e2]at e;exact S.inj b c hb hc e
 ·by_cases e0:b=0
  ·subst e0;rw[h0,cW (by refine ah _ (aw ..) ?_;exact cq (S.lt hb))];rfl
  ·by_cases e1:b=a
   ·subst e1
    (refine ah _ (sS ..) ?_;refine ah _ (cE (bf (S.lt (ax 5))) ..) ?_;refine ah _ (bt (aq _) ..) ?_;refine ah _ (gZ ..) ?_;rw[GM e0]);rfl
   ·(refine ah _ (mY e1 ..) ?_;refine ah _ (cE (λz=>e0 (S.inj 0 b (ax 5) hb z).symm) ..) ?_;refine ah _ (b8 (S.lt hb) ..) ?_;refine ah _ (S.obj b hb ..) ?_;refine ah _ (h b hb e1 ..).symm ?_;rw[GM e0])
 ·refine ah _ (aw ..) ?_;show((decide (_<H.length+1))&&((decide (_<H.length+1))&&((decide (_<H.length+1))&&((decide (_<H.length+1))&&((decide (_<H.length+1))&&true)))))=true;rw[decide_eq_true (r_ 1 (b6 4)),decide_eq_true (r_ 2 (by decide)),decide_eq_true (r_ 3 (by decide)),decide_eq_true (r_ 4 (by decide)),decide_eq_true (r_ 5 (gx 5))];rfl
 ·(refine ah _ (dC ..) ?_;refine ah _ (aw ..) ?_);exact cL _
 ·(refine ah _ (cE (di (hn 0 (ax 5))) ..) ?_;refine ah _ (b8 hj ..) rfl)
 ·by_cases e:b=a
  ·exact .inr (by(refine ah _ e ?_;refine ah _ (sS ..) ?_);exact aq _)
  ·exact .inl (aN b hb (mY e))
theorem E5 (l:Nat->Nat) (b:Bool) (c:List Lt) (k:Nat):iD (jm l b c) (am "marks") (.loc k)=jm (pM l 4 k) b c:=by kernel_rfl
theorem GO (l:Nat->Nat) (b:Bool) (c:List Lt) (k:Nat):iD (jm l b c) (am "news") (.loc k)=jm (pM l 5 k) b c:=by kernel_rfl
noncomputable def sz (es:List Ent) (ds:List et):List et:=es.foldr (λe ds=>ds.set e.x e.old) ds
theorem GP (es:List Ent) (ds:List et):(sz es ds).length=ds.length:=by
 induction es with
 |nil=>rfl
 |cons e es ih=>exact(dC).trans ih
theorem B1 (l:Nat->Nat) (b:Bool) (c:List Lt):iD (jm l b c) (am "clash") (dT [])=jm l b []:=vE l b c []
noncomputable def St.back (s:St) (ms:List Nat) (j:Nat):St:={s with marks:=ms,d_:=s.d_.take j,b_:=sz (s.d_.drop j) s.b_}
noncomputable def St.popped (s:St) (ms:List Nat) (m:Nat):St:={s with marks:=ms,d_:=s.d_.take m,b_:=sz (s.d_.drop m) s.b_,failed:=false,z_:=[],news:=[]}
theorem GQ {f:α->PyData} {xs:List α} {e:α} (hj:xs[j]?=IC e):((xs.take (j+1)).map f).getLast?=IC (f e)/\((xs.take (j+1)).map f).dropLast=(xs.take j).map f:=by
 have:xs.take (j+1)=xs.take j++[e]:=by(refine ah _ (bD ..) ?_;refine ah _ hj ?_);rfl
 (refine ah _ this ?_;refine ah _ (aT ..) ?_)
 exact⟨List.getLast?_concat,Fq⟩
theorem GR {a b c:Option V} (IQ:∀d∈s.c_,d≠[]) (S:e_ H l s) {K:KS}
 (q:∀H' l',e_ H' l' {s with failed:=false,z_:=[],news:=[]}->g_ H H' l l'->K .next [IC (.inst 311 (l 0)),a,b,c] H'):cA (Jh.body.drop 4) B n [IC (.inst 311 (l 0)),a,b,c] H K:=by
 have hi:=aU (S.app (o:=.m_ []) rfl|>.obj 0 (ax 5));refine(show aW ((H++[a_.m_ []])[l 0]?.bind bc) _ from aj hi (iu rfl ?_));refine ah _ (GO ..) (bh (S.move (s':={s with news:=[]}) (a:=5) (gx 5) SS (GL (λZ=>⟨rfl,rfl⟩) (λZ=>rfl) (λZ=>rfl) (λZ=>rfl) (λZ=>rfl) (λz=>absurd rfl z)):_) λS1 K1=>?_);have h0:pM l 5 H.length 0=l 0:=rfl;refine(show cA (Jh.body.drop 5) B n _ ((H++[jX l {s with news:=[]} 5]).set (l 0) (.inst (jm (pM l 5 H.length) s.failed s.z_))) K from ?_);generalize (H++[jX l {s with news:=[]} 5]).set (l 0) (.inst (jm (pM l 5 H.length) s.failed s.z_))=H1 at S1 K1⊢;generalize pM l 5 H.length=l1 at S1 K1 h0;rw[←h0]at q⊢;have e0:=aU (S1.obj 0 (ax 5));refine(show aW (H1[l1 0]?.bind bc) _ from aj e0 (aj (AX _ _ _) ?_));have Kz:(s.c_.map bY).any (λy=>aQ y (.tuple []))=false:=List.any_eq_false.mpr λy hy e=>by
  refine xA hy λd hd f_=>?_;obtain rfl:=f_;exact IQ d hd ((jJ d []).mp e)
 refine(show aW (H1[l1 2]?.bind ch) _ from aj (bM (S1.obj 2 (by decide))) ⟨⟨(tR (i6 jn _)).1,rfl,PyData.depth_of_layable rfl⟩,?_⟩);refine ah _ Kz ((show aW (H1[l1 0]?.bind bc) _ from aj e0 (iu rfl ?_)));refine ah _ (tP ..) ((show aW ((H1.set (l1 0) _)[l1 0]?.bind bc) _ from aj (aU (cW (S1.lt (ax 5)))) (iu rfl ?_)))
 (refine ah _ (B1 ..) ?_;refine ah _ (sP ..) ?_)
 have S2:=S1.upd (s':={s with news:=[],failed:=false,z_:=[]}) (a:=0) (ax 5) (GL (λz=>absurd rfl z) (λZ=>rfl) (λZ=>rfl) (λZ=>rfl) (λZ=>rfl) (λZ=>rfl)) (yR (s':=s) S1 _ _);exact q _ l1 S2 (K1.trans (g_.set (a:=0) (ax 5)))
theorem GS {ms:List Nat} {e:Option V} (hm:m<=s.d_.length) (ht:s.d_.length<=1000) (hd:s.b_.length<=1000) (hx:∀e∈s.d_,e.x<s.b_.length) (IQ:∀d∈s.c_,d≠[]) (S:e_ H l (s.back ms s.d_.length)) {K:KS}
 (q:∀H' l' a,e_ H' l' (s.popped ms m)->g_ H H' l l'->K .next [IC (.inst 311 (l 0)),IC (dI 1),IC (dI m),a] H'):cA (Jh.body.drop 3) B n [IC (.inst 311 (l 0)),IC (dI 1),IC (dI m),e] H K:=by
 refine(aN (λj vals H1=>∃a,vals=[IC (.inst 311 (l 0)),IC (dI 1),IC (dI m),a]/\m<=j/\j<=s.d_.length/\e_ H1 l (s.back ms j)/\g_ H H1 l l) (w3 _ e rfl hm (aq _) S g_.refl) ?_);intro j vals H1 f_;refine NS vals f_ λa hmj hj S1 K1=>?_;have e0:=aU (S1.obj 0 (ax 5));have e3:=bM (S1.obj 3 (by decide));have hlen:((s.back ms j).d_.map Ent.d).length=j:=by refine ah _ (af ..) ?_;exact(iH).trans (wi hj)
 refine(show aW (H1[l 0]?.bind bc) _ from aj e0 (aj (rm _ _ _) ?_));refine(show aW (H1[l 3]?.bind ch) _ from aj e3 ⟨by refine ah _ hlen ?_;exact ab hj (ab ht (ba rfl)),?_⟩);refine ah _ hlen (cr (λhb=>?_) λhb=>?_)
 ·have hb:(m:Int)<(j:Int):=of_decide_eq_true hb;obtain⟨j,rfl⟩:∃i,j=i+1:=⟨j - 1,WY hb⟩;obtain⟨en,P_⟩:∃en,s.d_[j]?=IC en:=⟨_,aJ hj⟩;refine bh (GQ (f:=Ent.d) P_:_) λKM K4=>(show aW (H1[l 0]?.bind bc) _ from aj e0 (aj (rm _ _ _) ?_));refine(show aW (H1[l 3]?.bind ch) _ from aj e3 (aj KM ⟨by refine ah _ hlen ?_;exact ab hj (ab ht (ba rfl)),?_⟩));refine ah _ (show((s.back ms (j+1)).d_.map Ent.d).dropLast=(s.d_.take j).map Ent.d from K4) ?_;have S2:=S1.upd (s':={s.back ms (j+1)with d_:=s.d_.take j}) (a:=3) (by decide) (GL (λZ=>⟨rfl,rfl⟩) (λZ=>rfl) (λZ=>rfl) (λz=>absurd rfl z) (λZ=>rfl) (λZ=>rfl)) rfl;have hd2:en.x<(sz (s.d_.drop (j+1)) s.b_).length:=by refine ah _ (GP ..) ?_;exact hx en (an P_)
  have Kv:s.d_.drop j=en::s.d_.drop (j+1):=(cU hj).trans (by refine ah _ ((List.getElem?_eq_some_iff.mp P_).2 ..) rfl);refine(show aW ((H1.set (l 3) _)[l 0]?.bind bc) _ from aj (aU (S2.obj 0 (ax 5))) (aj (kR _ _ _) ?_));refine(show aW ((H1.set (l 3) _)[l 1]?.bind ch) _ from aj (bM (S2.obj 1 (b6 4))) (aj (jk (by refine ah _ (af ..) ?_;exact hd2)) ⟨⟨nC (2^63) en.x,t8 (ab (bj (hx en (an P_))) hd)⟩,?_⟩));refine ah _ (Ct ..).symm ((aN j (bV _) (Aa _ rfl (Int.ofNat_le.mp (kJ hb)) (g6 hj) ?_ (K1.trans ((g_.set (a:=3) (by decide)).trans (g_.set (a:=1) (b6 4)))))));have S3:=S2.upd (s':=s.back ms j) (a:=1) (b6 4) (GL (λZ=>⟨rfl,rfl⟩) (λz=>absurd rfl z) (λZ=>rfl) (λZ=>rfl) (λZ=>rfl) (λZ=>rfl)) rfl;have:sz (s.d_.drop j) s.b_=(sz (s.d_.drop (j+1)) s.b_).set en.x en.old:=by refine ah _ Kv ?_;rfl
  rw[show jX l (s.back ms j) 1=.list (((sz (s.d_.drop (j+1)) s.b_).set en.x en.old).map bY) by show a_.list ((sz (s.d_.drop j) s.b_).map bY)=_;exact this▸rfl]at S3;exact S3
 ·have hb:¬((m:Int)<(j:Int)):=of_decide_eq_false hb;have:j=m:=WH hmj hb;subst this;exact GR (s:=s.back ms j) IQ S1 λH' l' S' K'=>q H' l' a S' (K1.trans K')
theorem GT (ok:fB B) {ms:List Nat} (S:e_ H l s) (UN:s.marks=ms++[m]) (P6:ms.length<=1000) (hm:m<=s.d_.length) (ht:s.d_.length<=1000) (hd:s.b_.length<=1000) (hx:∀e∈s.d_,e.x<s.b_.length) (IQ:∀d∈s.c_,d≠[])
 (q:∀H' l',e_ H' l' (s.popped ms m)->g_ H H' l l'->Q dN H'):Ap B (n+1) (.ref 294) [.inst 311 (l 0),dI 1] H Q:=by
 have e0:=aU (S.obj 0 (ax 5));have e4:=bM (S.obj 4 (by decide));have hlen:(s.marks.map λk:Nat=>aS k).length=ms.length+1:=by(refine ah _ (af ..) ?_;refine ah _ UN ?_;refine ah _ (aw ..) ?_);rfl
 have Jk:(((ms.length+1:Nat):Int) - 1).toNat=ms.length:=Xc;refine PF.ap ok yI (show aW (H[l 0]?.bind bc) _ from aj e0 (aj (tQ _ _ _) ?_));refine(show aW (H[l 0]?.bind bc) _ from aj e0 (aj (tQ _ _ _) ?_));refine(show aW (H[l 4]?.bind ch) _ from aj e4 ⟨by refine ah _ hlen ?_;exact ab (aY P6) (ba rfl),?_⟩);refine ah _ hlen ((show aW (H[l 4]?.bind ch) _ from aj e4 ⟨⟨VP,bW (w5 _ (by decide)) (t8 (aY P6))⟩,aj (a:=.int m) ?_ ?_⟩))
 ·rw[Jk,UN,aT,bt (by refine ah _ (af ..) ?_;exact aq _),af,gZ];rfl
 refine(show aW (H[l 0]?.bind bc) _ from aj e0 (aj (tQ _ _ _) ?_));refine(show aW (H[l 0]?.bind bc) _ from aj e0 (aj (tQ _ _ _) ?_));refine(show aW (H[l 4]?.bind ch) _ from aj e4 ⟨by refine ah _ hlen ?_;exact ab (aY P6) (ba rfl),?_⟩);refine ah _ hlen ?_;refine(show aW (H[l 4]?.bind ch) _ from aj e4 ⟨⟨VP,by refine ah _ hlen ?_;exact ab (aY P6) (ba rfl)⟩,?_⟩);rw[Jk,show(s.marks.map λk:Nat=>aS k).take ms.length=ms.map λk:Nat=>aS k by rw[UN,aT,List.take_append_of_le_length (by refine ah _ (af ..) ?_;exact aq _),←af (f:=λk:Nat=>aS k),bx]];have hi:=aU (S.app (o:=.list (ms.map λk:Nat=>aS k)) rfl|>.obj 0 (ax 5));refine(show aW ((H++[a_.list (ms.map λk:Nat=>aS k)])[l 0]?.bind bc) _ from aj hi (iu rfl ?_));refine ah _ (E5 ..) (bh (S.move (s':={s with marks:=ms}) (a:=4) (by decide) SS (GL (λZ=>⟨rfl,rfl⟩) (λZ=>rfl) (λZ=>rfl) (λZ=>rfl) (λz=>absurd rfl z) (λZ=>rfl)):_) λS1 K1=>?_);have hb:({s with marks:=ms}:St)=s.back ms s.d_.length:=by unfold St.back;(refine ah _ (bx ..) ?_;refine ah _ (fk ..) ?_);rfl
 rw[hb]at S1;exact GS hm ht hd hx IQ S1 λH' l' a S' K'=>oq (K1.trans K') (q H' l' S' (K1.trans K'))
theorem tS (ok:fB B) {d:et} (hd:d≠[]) (S:e_ H l s) (hl:s.b_.length<=1000) (hf:s.c_.length<=1000) (q:∀H',e_ H' l {s with b_:=s.b_++[d],c_:=s.c_++[d]}->g_ H H' l l->Q (dI s.b_.length) H'):Ap B (n+1) (.ref 182) [.inst 311 (l 0),.dat (bY d)] H Q:=by
 have e1:=bM (S.obj 1 (b6 4));have hm:∀ds:List et,ds.map bY++[bY d]=(ds++[d]).map bY:=λds=>by refine ah _ (aT ..) ?_;rfl
 refine PF.ap ok sq (show aW (H[l 0]?.bind bc) _ from aj (aU (S.obj 0 (ax 5))) (aj (kR _ _ _) ?_));refine(show aW (H[l 1]?.bind ch) _ from aj e1 (show aW (H[l 1]?.bind ch) _ from aj e1 ⟨by refine ah _ (af ..) ?_;exact ab hl (ba rfl),?_⟩));rw[hm];have S1:=S.upd (s':={s with b_:=s.b_++[d]}) (a:=1) (b6 4) (GL (λZ=>⟨rfl,rfl⟩) (λz=>absurd rfl z) (λZ=>rfl) (λZ=>rfl) (λZ=>rfl) (λZ=>rfl)) rfl;have e2:=bM (S1.obj 2 (by decide));refine(show aW ((H.set (l 1) _)[l 0]?.bind bc) _ from aj (aU (S1.obj 0 (ax 5))) (aj (AX _ _ _) ?_));refine(show aW ((H.set (l 1) _)[l 2]?.bind ch) _ from aj e2 (show aW ((H.set (l 1) _)[l 2]?.bind ch) _ from aj e2 ⟨by refine ah _ (af ..) ?_;exact ab hf (ba rfl),?_⟩));have S2:=S1.upd (s':={s with b_:=s.b_++[d],c_:=s.c_++[d]}) (a:=2) (by decide) (GL (λZ=>⟨rfl,rfl⟩) (λZ=>rfl) (λz=>absurd rfl z) (λZ=>rfl) (λZ=>rfl) (λZ=>rfl)) rfl;have K2:g_ H ((H.set (l 1) (jX l {s with b_:=s.b_++[d]} 1)).set (l 2) (jX l {s with b_:=s.b_++[d],c_:=s.c_++[d]} 2)) l l:=(g_.set (a:=1) (b6 4)).trans (g_.set (a:=2) (by decide));refine ah _ (show({s with b_:=s.b_++[d]}:St).c_.map bY++[bY d]=(s.c_++[d]).map bY from hm _) ((show cA (Jy.body.drop 2) B n [IC (.inst 311 (l 0)),IC (.dat (bY d))] ((H.set (l 1) (jX l {s with b_:=s.b_++[d]} 1)).set (l 2) (jX l {s with b_:=s.b_++[d],c_:=s.c_++[d]} 2)) _ from ?_));generalize (H.set (l 1) (jX l {s with b_:=s.b_++[d]} 1)).set (l 2) (jX l {s with b_:=s.b_++[d],c_:=s.c_++[d]} 2)=H2 at S2 K2⊢;refine⟨⟨(jn _).ok (ak rfl),rfl⟩,cr (λhb=>absurd ((jJ d []).mp hb) hd) λZ=>?_⟩;refine(show aW (H2[l 0]?.bind bc) _ from aj (aU (S2.obj 0 (ax 5))) (aj (kR _ _ _) ?_));refine(show aW (H2[l 1]?.bind ch) _ from aj (bM (S2.obj 1 (b6 4))) ⟨by(refine ah _ (af ..) ?_;refine ah _ (aw ..) ?_);exact ab (aY hl) (ba rfl),?_⟩);have hv:(((({s with b_:=s.b_++[d],c_:=s.c_++[d]}:St).b_.map bY).length:Nat):Int) - 1=(s.b_.length:Nat):=by
  refine ah _ (af ..) ?_;show(((s.b_++[d]).length:Nat):Int) - 1=_;refine ah _ (aw ..) ?_;show((s.b_.length+1:Nat):Int) - 1=_;exact Int.sub_eq_iff_eq_add.mpr rfl
 show∃v0 H0,K7 H.length (dI _) H2 v0 H0/\Q v0 H0;exact ah _ hv (oq K2 (q _ S2 K2))
variable {a:a_} {x:Str}
theorem wZ {os:List a_}:(H++(a::os))[H.length]?=IC a:=by(refine ah _ (bt (aq _) ..) ?_;refine ah _ (gZ ..) ?_);rfl
theorem x6 {b:a_} {os:List a_}:(H++(a::os)).set H.length b=H++(b::os):=by(refine ah _ (DX _ _ (aq _) ..) ?_;refine ah _ (gZ ..) ?_);rfl
theorem tT (k:Nat) {os:List a_} {K:KS} (p:PE) (hk:os.length+1=k) (hp:∀{vals H1 Q},Q (.loc H1.length) (H1++[o])->p.wp B n vals H1 Q) (hl:iP fs.length 100=true) (q:K .next [IC (.inst 311 H.length)] (H++(.inst (iD fs x (.loc (H.length+k)))::(os++[o])))):
 (aZ (.attr 311 x eV) p).wp B n [IC (.inst 311 H.length)] (H++(.inst fs::os)) K:=by
 refine hp ?_;have e:H++(.inst fs::os)++[o]=H++(.inst fs::(os++[o])):=dv ..;rw[e,show(H++(.inst fs::os)).length=H.length+k by(refine ah _ (aw ..) ?_;refine ah _ hk.symm ?_);rfl];refine(show aW ((H++(.inst fs::(os++[o])))[H.length]?.bind bc) _ from aj (aU wZ) (iu hl ?_));show K .next _ ((H++(.inst fs::(os++[o]))).set H.length _);refine ah _ (x6 ..) ?_;exact q
theorem B2 {os:List a_} {v:V} {K:KS} (p:PE) (hp:∀{vals H1 Q},Q v H1->p.wp B n vals H1 Q) (hl:iP fs.length 100=true) (q:K .next [IC (.inst 311 H.length)] (H++(.inst (iD fs x v)::os))):
 (aZ (.attr 311 x eV) p).wp B n [IC (.inst 311 H.length)] (H++(.inst fs::os)) K:=by
 refine hp ((show aW ((H++(.inst fs::os))[H.length]?.bind bc) _ from aj (aU wZ) (iu hl ?_)));show K .next _ ((H++(.inst fs::os)).set H.length _);refine ah _ (x6 ..) ?_;exact q
noncomputable def St.empty:St:=⟨[],[],[],[],false,[],[]⟩
theorem Oq (l:Nat->Nat):iD (iD (iD (iD (iD (iD (iD (iD [] (am "domains") (.loc (l 1))) (am "firsts") (.loc (l 2))) (am "trail") (.loc (l 3))) (am "marks") (.loc (l 4))) (am "news") (.loc (l 5))) (am "speaker") (dI (-1))) (am "is_failed") (dB false)) (am "clash") (dT [])=jm l false []:=by kernel_rfl
theorem E6 (ok:fB B) (hM:nX B 311 175) (hc:ea H) (q:∀H',e_ H' (λa=>H.length+a) St.empty->H'.length=H.length+6->(∀j,j<H.length->H'[j]?=H[j]?)->Q (.inst 311 H.length) H'):Ap B (n+2) (.ref 311) [] H Q:=by
 refine Ap.make hM (PF.apC ok rh (show cA Jp.body B n [IC (.inst 311 H.length)] (H++(.inst []::[])) _ from ?_));refine tT 1 fh rfl (λq=>q) rfl (tT 2 fh rfl (λq=>q) rfl (tT 3 fh rfl (λq=>q) rfl (tT 4 fh rfl (λq=>q) rfl (tT 5 uj rfl (λq=>q) rfl (B2 (v:=dI (-1)) _ (λq=>q) rfl (B2 (v:=dB false) _ (λq=>q) rfl (B2 (v:=dT []) _ (λq=>q) rfl ?_)))))));refine ah _ (Oq λa=>H.length+a ..) ?_;have S:e_ (H++[.inst (jm (λa=>H.length+a) false []),.list [],.list [],.list [],.list [],.m_ []]) (λa=>H.length+a) St.empty:=⟨λa b Z Z e=>Nat.add_left_cancel e,λa ha=>?_,?_⟩
 ·exact(eu dN _ (.keep (by(refine ah _ (aw ..) ?_;refine ah _ (aw ..) ?_);exact bb (show 1<=6 by exact ak rfl) _)) rfl (q _ S (by refine ah _ (aw ..) ?_;rfl) λj hj=>b8 hj))
 ·show(H++_)[H.length+a]?=_
  (refine ah _ (bt (b5 _ _) ..) ?_;refine ah _ (nO ..) ?_)
  rcases a with _|_|_|_|_|_|a
  ·rfl
  ·rfl
  ·rfl
  ·rfl
  ·rfl
  ·rfl
  ·exact absurd ha VN
 ·refine List.all_eq_true.mpr λx hx=>ah _ (aw ..) ?_;rcases List.mem_append.mp hx with hx|hx
  ·exact yU (b5 _ _) (List.all_eq_true.mp hc x hx)
  ·simp only[cp,c6,or_false]at hx;rcases hx with rfl|rfl|rfl|rfl|rfl|rfl
   ·show((decide (_<H.length+6))&&((decide (_<H.length+6))&&((decide (_<H.length+6))&&((decide (_<H.length+6))&&((decide (_<H.length+6))&&true)))))=true;simp
   all_goals rfl
variable {p:Int×Int}
def IP (d:et):Prop:=d.Pairwise (λp q=>p.2+1<q.1)/\∀p∈d,p.1<=p.2
def eR (d:et) (v:Int):Prop:=∃p∈d,p.1<=v/\v<=p.2
theorem IG {d:et}:eR (p::d) v↔(p.1<=v/\v<=p.2)∨eR d v:=
 ⟨λf_=>aG f_ λq hq h=>(List.mem_cons.mp hq).elim (λe=>.inl (e▸h)) λhq=>.inr (aN q hq h),λh=>h.elim (λh=>(aN p ae h)) λk_=>aG k_ λq hq h=>(aN q (ag _ hq) h)⟩
theorem IP.tail {d:et} (c:IP (p::d)):IP d:=⟨(List.pairwise_cons.mp c.1).2,λq hq=>c.2 q (ag _ hq)⟩
theorem IP.after {d:et} (c:IP (p::d)) (h:eR d v):p.2+1<v:=by
 exact cP h λq hq h1 Z=>cw ((List.pairwise_cons.mp c.1).1 q hq) h1
theorem IP.cons {d:et} (hp:p.1<=p.2) (c:IP d) (h:∀q∈d,p.2+1<q.1):IP (p::d):=⟨List.pairwise_cons.mpr ⟨h,c.1⟩,λq hq=>(List.mem_cons.mp hq).elim (λe=>e▸hp) (c.2 q)⟩
theorem IP.nil:IP []:=⟨.nil,(λ_=>de)⟩
theorem IP.some {d:et} (c:IP d) (h:d≠[]):∃v,eR d v:=by
 cases d with
 |nil=>exact absurd rfl h
 |cons p d=>exact(eu p.1 p ae (bu _) (c.2 p ae))
theorem x7 {d:et} (c:IP d):aQ (fC v d) (.int v)=true↔eR d v:=by
 induction d with
 |nil=>exact⟨λe=>Bool.noConfusion (show false=true from e),λj_=>aG j_ λZ h Z=>de h⟩
 |cons p d ih=>
  obtain⟨a,b⟩:=p
  (refine ah _ (mU ..) ?_;rw[IG])
  by_cases h:v<=b
  ·(refine ah _ (if_pos h ..) ?_;rw[im])
   exact⟨λe=>.inl ⟨by show a<=v;exact Int.max_eq_right_iff.mp e,h⟩,λe=>by
    have h2:a<=v:=e.elim (·.1) λe=>FI (c.after e) (c.2 _ ae);exact nN h2⟩
  ·(refine ah _ (if_neg h ..) ?_;rw[ih c.tail])
   exact⟨.inr,λe=>e.elim (λe=>absurd e.2 h) id⟩
def jY (s:Sg) (k v:Int):Prop:=match s with
 |.le=>v<=k
 |.ge=>k<=v
 |.ne=>v≠k
 |.eq=>v=k
theorem Cw {d:et} (c:IP d):IP (d.filterMap (wW k))/\∀v,eR (d.filterMap (wW k)) v↔eR d v/\v<=k:=by
 induction d with
 |nil=>exact⟨.nil,λv=>⟨λp_=>aG p_ λZ h Z=>(de h),λs_=>bh s_ λC_ Z=>aG C_ λZ h Z=>(de h)⟩⟩
 |cons p d ih=>
  obtain⟨a,b⟩:=p;refine bh (ih c.tail:_) λc1 h1=>?_;have Mz:a<=b:=c.2 _ ae;refine ah _ (dt ..) ?_;by_cases h:a<=k
  ·refine ah _ (show wW k (a,b)=IC (a,min b k)from if_pos h) (⟨c1.cons (show a<=min b k by exact rY.2 ⟨Mz,h⟩) λq hq=>?_,λv=>?_⟩)
   ·have:=(h1 q.1).mp (bA q hq (bu _) (c1.2 q hq));have:=c.after this.1;show min b k+1<q.1;simp only at*;exact aa1 this
   ·rw[IG,IG,h1];show(a<=v/\v<=min b k)∨_↔((a<=v/\v<=b)∨_)/\v<=k
    constructor
    ·rintro(⟨h2,h3⟩|⟨h2,h3⟩)
     ·exact⟨.inl ⟨h2,aaT h3⟩,aaS h3⟩
     ·exact⟨.inr h2,h3⟩
    ·intro II;refine bh II λIY h4=>?_;obtain⟨h2,h3⟩|h2:=IY
     ·exact .inl ⟨h2,rY.2 ⟨h3,h4⟩⟩
     ·exact .inr ⟨h2,h4⟩
  ·refine ah _ (show wW k (a,b)=ID from if_neg h) (⟨c1,λv=>?_⟩);show eR (d.filterMap (wW k)) v↔_;rw[h1,IG];exact⟨λJR=>bh JR λh2 h3=>⟨.inr h2,h3⟩,λKo=>bh Ko λh2 h3=>⟨h2.resolve_left λh4=>h (aX h4.1 h3),h3⟩⟩
theorem Cy {d:et} (c:IP d):IP (d.filterMap (vG k))/\∀v,eR (d.filterMap (vG k)) v↔eR d v/\k<=v:=by
 induction d with
 |nil=>exact⟨.nil,λv=>⟨λJ7=>aG J7 λZ h Z=>(de h),λJY=>bh JY λJi Z=>aG Ji λZ h Z=>(de h)⟩⟩
 |cons p d ih=>
  obtain⟨a,b⟩:=p;refine bh (ih c.tail:_) λc1 h1=>?_;have Mz:a<=b:=c.2 _ ae;refine ah _ (dt ..) ?_;by_cases h:k<=b
  ·refine ah _ (show vG k (a,b)=IC (max a k,b)from if_pos h) (⟨c1.cons (show max a k<=b by exact xP.2 ⟨Mz,h⟩) λq hq=>?_,λv=>?_⟩)
   ·have:=(h1 q.1).mp (bA q hq (bu _) (c1.2 q hq));exact c.after this.1
   ·rw[IG,IG,h1];show(max a k<=v/\v<=b)∨_↔((a<=v/\v<=b)∨_)/\k<=v
    constructor
    ·rintro(⟨h2,h3⟩|⟨h2,h3⟩)
     ·exact⟨.inl ⟨aaR h2,h3⟩,aaQ h2⟩
     ·exact⟨.inr h2,h3⟩
    ·intro JE;refine bh JE λJX h4=>?_;obtain⟨h2,h3⟩|h2:=JX
     ·exact .inl ⟨xP.2 ⟨h2,h4⟩,h3⟩
     ·exact .inr ⟨h2,h4⟩
  ·refine ah _ (show vG k (a,b)=ID from if_neg h) (⟨c1,λv=>?_⟩);show eR (d.filterMap (vG k)) v↔_;rw[h1,IG];exact⟨λJD=>bh JD λh2 h3=>⟨.inr h2,h3⟩,λKE=>bh KE λh2 h3=>⟨h2.resolve_left λh4=>h (aX h3 h4.2),h3⟩⟩
theorem JP {d e:et}:eR (d++e) v↔eR d v∨eR e v:=
 ⟨λLY=>aG LY λq hq h=>(List.mem_append.mp hq).imp (λhq=>(aN q hq h)) λhq=>(aN q hq h),λh=>h.elim (λKp=>aG Kp λq hq h=>(aN q (az _ hq) h)) λLc=>aG Lc λq hq h=>(aN q (aR _ hq) h)⟩
theorem mi {s:Sg} {d:et} (c:IP d):IP (fM s k d)/\∀v,eR (fM s k d) v↔eR d v/\jY s k v:=by
 cases s with
 |le=>exact Cw c
 |ge=>exact Cy c
 |ne=>
  refine bh (Cw (k:=k - 1) c:_) λc1 h1=>bh (Cy (k:=k+1) c:_) λc2 h2=>⟨⟨List.pairwise_append.mpr ⟨c1.1,c2.1,λp hp q hq=>?_⟩,λp hp=>(List.mem_append.mp hp).elim (c1.2 p) (c2.2 p)⟩,λv=>?_⟩
  ·have h3:=((h1 p.2).mp (bA p hp (c1.2 p hp) (bu _))).2;have h4:=((h2 q.1).mp (bA q hq (bu _) (c2.2 q hq))).2;exact aaY h3 h4
  ·show eR (_++_) v↔eR d v/\v≠k;rw[JP,h1,h2]
   constructor
   ·rintro(⟨h3,h4⟩|⟨h3,h4⟩)
    ·exact⟨h3,tc (FC h4)⟩
    ·exact⟨h3,tU h4⟩
   ·intro MN;refine bh MN λh3 h4=>?_;rcases Int.lt_or_gt_of_ne h4 with h5|h5
    ·exact .inl ⟨h3,pY h5⟩
    ·exact .inr ⟨h3,h5⟩
 |eq=>
  show IP (qz k d)/\∀v,eR (qz k d) v↔eR d v/\v=k
  induction d with
  |nil=>exact⟨.nil,λv=>⟨λLX=>aG LX λZ h Z=>(de h),λKD=>bh KD λLW Z=>aG LW λZ h Z=>(de h)⟩⟩
  |cons p d ih=>
   obtain⟨a,b⟩:=p;refine bh (ih c.tail:_) λc1 h1=>ah _ (sR ..) ?_;by_cases hb:b<k
   ·refine ah _ (if_pos hb ..) (⟨c1,λv=>?_⟩);rw[h1,IG];exact⟨λMM=>bh MM λh2 h3=>⟨.inr h2,h3⟩,λLV=>bh LV λh2 h3=>⟨h2.resolve_left λh4=>absurd (h3▸h4.2) (Int.not_le.mpr hb),h3⟩⟩
   ·refine ah _ (if_neg hb ..) ?_;by_cases ha:a<=k
    ·refine ah _ (if_pos ha ..) (⟨IP.nil.cons (bu _) (λ_=>de),λv=>?_⟩);rw[IG]
     constructor
     ·rintro(h|⟨_,h,_⟩)
      ·have:v=k:=Int.le_antisymm h.2 h.1;exact⟨(aN ((a,b)) ae (by subst this;exact⟨ha,Int.not_lt.mp hb⟩)),this⟩
      ·exact de h
     ·intro YH;refine bh YH λ_ YG=>?_;obtain rfl:=YG;exact .inl ⟨bu _,bu _⟩
    ·refine ah _ (if_neg ha ..) (⟨.nil,λv=>⟨λML=>aG ML λZ h Z=>(de h),λQt=>bh Qt λh2 h3=>?_⟩⟩);rw[IG]at h2;subst h3;rcases h2 with h2|h2
     ·exact absurd h2.1 ha
     ·exact absurd (FI (c.after h2) (c.2 _ ae)) ha
noncomputable def iF (d:et):List Int:=d.flatMap λp=>dG p.1 (p.2+1)
theorem Pg (hc:ea H) (q:Q (dL xs) H):∃v0 H0,K7 H.length (.loc H.length) (H++[.list xs]) v0 H0/\Q v0 H0:=(ie (dL xs) H (.freeze (J:=[]) (J2:=[]) (aq _) hc) q)
theorem E7 {d:et} {k:Nat} (h:d[k]?=IC p):iF (d.take (k+1))=iF (d.take k)++dG p.1 (p.2+1):=by
 unfold iF
 (refine ah _ (bD ..) ?_;refine ah _ h ?_;refine ah _ (l7 ..) ?_)
 show _++sT _ [p]=_
 (refine ah _ (fV ..) ?_;refine ah _ (List.flatMap_nil ..) ?_;refine ah _ (dh ..) rfl)
theorem GU (d:et) (k:Nat):(iF (d.take k)).length<=(iF d).length:=by
 have:iF d=iF (d.take k)++iF (d.drop k):=by unfold iF;(refine ah _ (l7 ..).symm ?_;refine ah _ (E8 ..) rfl)
 (refine ah _ this ?_;refine ah _ (aw ..) ?_);exact b5 _ _
theorem E9 (ok:fB B) {d:et} (hc:ea H) (hd:∀p q,d.head?=IC p->d.getLast?=IC q->q.2 - p.1<1000000) (hl:(iF d).length<=1000) (q:Q (dL (gd (iF d))) H):Ap B (n+2) (.ref 116) [.dat (bY d)] H Q:=by
 have tail:cA (LJ.body.drop 1) B (n+1) [IC (.dat (bY d)),ID,ID,ID] H λfl Z H1=>∃v0 H0,K7 H.length (pf fl) H1 v0 H0/\Q v0 H0:=by
  refine(bA (λk vals H1=>H1=H++[.list (gd (iF (d.take k)))]/\∃a b,vals=[IC (.dat (bY d)),IC (.loc H.length),a,b]) (jp rfl (cY _ _ rfl)) ?_ ?_)
  ·intro k x vals H2 hx f_;refine fq H2 f_ λj_=>?_;refine rX vals j_ λa b=>?_;refine fX x (cM hx:_) λp e=>?_;have e2:=E7 e;refine aj eO (aj eO ⟨?_,?_⟩)
   ·have h1:=GU d (k+1);have h2:(dG p.1 (p.2+1)).length=(p.2+1 - p.1).toNat:=by unfold dG;(refine ah _ (af ..) ?_;refine ah _ (cH ..) rfl)
    rw[e2,aw,h2]at h1;have h3:(gd (iF (d.take k))).length=(iF (d.take k)).length:=af ..;exact ah _ h3 (aB (ab h1 hl) (by decide))
   ·refine ah _ (on ..) ((jp ?_ (cY _ _ rfl)));refine ah _ e2 ?_;unfold gd;refine ah _ (aT ..) rfl
  ·intro vals H2 s_;refine fq H2 s_ λII=>?_;refine rX vals II λa b=>?_
   (refine ah _ (af ..) ?_;refine ah _ (bx ..) ?_)
   exact Pg hc q
 refine PF.ap ok GE ⟨⟨(jn _).ok (ak rfl),rfl⟩,cr (λhb=>?_) λhb=>?_⟩
 ·have hn:d≠[]:=λe=>by subst e;exact aA hb
  obtain⟨p,hp⟩:∃p,d[0]?=IC p:=by cases d with|nil=>exact absurd rfl hn|cons p r=>exact⟨p,rfl⟩
  obtain⟨z,hz⟩:∃z,d.getLast?=IC z:=⟨_,gJ hn⟩;have e:(d.map js).getLast?=IC (js z):=by(refine ah _ (mV ..) ?_;refine ah _ hz ?_);rfl
  have e0:(d.map js)[0]?=IC (js p):=by(refine ah _ (aK ..) ?_;refine ah _ hp ?_);rfl
  have:=hd p z (by refine ah _ (List.head?_eq_getElem? ..) ?_;exact hp) hz;refine(show aW (d.map js).getLast? _ from aj e (show aW (d.map js)[0]? _ from aj e0 ?_));exact(show j7 (decide (1000000<=z.2 - p.1)) _ _ from ju (decide_eq_false (Int.not_le.mpr this)) ⟨rfl,tail⟩)
 ·exact⟨rfl,tail⟩
theorem yV (ok:fB B) {d:et} (hl:d.length<=sizeLine) (q1:eR d v->Q (dB true) H) (q2:¬eR d v->Q (dB false) H):Ap B (n+1) (.ref 448) [.dat (bY d),dI v] H Q:=by
 refine PF.ap ok yM (bA (Got (λp:Int×Int=>if p.1<=v/\v<=p.2 then IC (.int 1)else ID) d H) ⟨rfl,rfl⟩ (λj x a H2 hx g=>⟨trivial,?_⟩) (λa H2 g=>⟨trivial,?_⟩))
 ·refine fX x (cM hx:_) λp e=>(show j7 (decide (p.1<=v)) _ _ from cr (λh1=>(show j7 (decide (v<=p.2)) _ _ from cr (λh2=>?_) λh2=>?_)) λh1=>?_)
  ·exact g.yes e (if_pos ⟨of_decide_eq_true h1,of_decide_eq_true h2⟩) hl
  ·exact g.no e (if_neg λz=>of_decide_eq_false h2 z.2)
  ·exact g.no e (if_neg λz=>of_decide_eq_false h1 z.1)
 ·refine fq a g.end λj_=>?_;obtain rfl:=j_;have hm:∀y∈d.filterMap (λp:Int×Int=>if p.1<=v/\v<=p.2 then IC (aS 1)else ID),Sh 0 y:=λy hy=>by
   refine aG (List.mem_filterMap.mp hy:_) λp Z h=>?_
   split at h
   ·cases h;exact mX 1
   ·exact ft h
  refine⟨⟨(iA hm).ok (ak rfl),rfl⟩,?_⟩;by_cases hv:eR d v
  ·refine aG hv λp hp h1=>?_;have:d.filterMap (λp:Int×Int=>if p.1<=v/\v<=p.2 then IC (aS 1)else ID)≠[]:=λe=>by
    have:aS 1∈d.filterMap (λp:Int×Int=>if p.1<=v/\v<=p.2 then IC (aS 1)else ID):=List.mem_filterMap.mpr (aN p hp (if_pos h1));rw[e]at this;exact de this
   refine lP (lN this:_) λy ys e=>?_;have he:aQ (.list (d.filterMap (λp:Int×Int=>if p.1<=v/\v<=p.2 then IC (aS 1)else ID))) (.list [])=false:=e▸rfl;show∃v0 H0,K7 _ (dB (!aQ (.list (d.filterMap _)) (.list []))) _ v0 H0/\Q v0 H0;exact ah _ he (dr (q1 (aN p hp h1)))
  ·have:d.filterMap (λp:Int×Int=>if p.1<=v/\v<=p.2 then IC (aS 1)else ID)=[]:=List.filterMap_eq_nil_iff.mpr λp hp=>if_neg λh1=>hv (aN p hp h1);have he:aQ (.list (d.filterMap (λp:Int×Int=>if p.1<=v/\v<=p.2 then IC (aS 1)else ID))) (.list [])=true:=by(refine ah _ this ?_;rw[aQ,fe])
   show∃v0 H0,K7 _ (dB (!aQ (.list (d.filterMap _)) (.list []))) _ v0 H0/\Q v0 H0;exact ah _ he (dr (q2 hv))
noncomputable def tV (s:Sg) (k v:Int):Bool:=match s with
 |.le=>decide (v<=k)
 |.ge=>decide (k<=v)
 |.ne=>!aQ (.int v) (.int k)
 |.eq=>aQ (.int v) (.int k)
theorem tW {s:Sg}:tV s k v=true↔jY s k v:=by
 cases s with
 |le=>exact decide_eq_true_iff
 |ge=>exact decide_eq_true_iff
 |ne=>show(!aQ (.int v) (.int k))=true↔v≠k;(refine ah _ (jG ..) ?_;refine ah _ (uv ..).symm ?_;rw[im v k])
 |eq=>exact im v k
theorem x8 (ok:fB B) (hc:ea H) {x:Int} {s:Sg} (q:Q (dB (tV s k v)) H):Ap B (n+1) (.ref 443) [.dat (jt x s k),dI v] H Q:=by
 refine PF.ap ok yK (⟨⟨rfl,rfl⟩,⟨rfl,rfl⟩,?_⟩);have hb:(H++[a_.IJ ([am "<=",am ">=",am "!=",am "="].zip [.bool (decide (v<=k)),.bool (decide (k<=v)),.bool (!aQ (.int v) (.int k)),.bool (aQ (.int v) (.int k))])])[H.length]?.bind jj=IC ([am "<=",am ">=",am "!=",am "="].zip [.bool (decide (v<=k)),.bool (decide (k<=v)),.bool (!aQ (.int v) (.int k)),.bool (aQ (.int v) (.int k))]):=by
  (refine ah _ (bt (aq _) ..) ?_;refine ah _ (gZ ..) ?_);rfl
 refine(show aW ((H++[a_.IJ _])[H.length]?.bind jj) _ from aj hb (aj (a:=.bool (tV s k v)) ?_ (yO hc rfl q)));cases s<;>kernel_rfl
def tX (s:Sg) (k:Int) (d:et):Prop:=∀v,eR d v->jY s k v
theorem Pq {d:et} (c:IP d) (hn:d≠[]) (h:∀v,eR d v->v=k):d=[(k,k)]:=by
 have hp:∀p∈d,p=(k,k):=λp hp=>by
  have h1:=h p.1 (bA p hp (bu _) (c.2 p hp));have h2:=h p.2 (bA p hp (c.2 p hp) (bu _));obtain⟨a,b⟩:=p;cases h1;cases h2;rfl
 cases d with
 |nil=>exact absurd rfl hn
 |cons p d=>
  refine ah _ (hp p ae ..) ?_
  cases d with
  |nil=>rfl
  |cons q d=>
   have h3:=(List.pairwise_cons.mp c.1).1 q ae;rw[hp p ae,hp q (ag _ ae)]at h3;exact absurd h3 (by show¬(k+1<k);exact abc)
theorem Ea (ok:fB B) {d:et} {x:Int} {s:Sg} (c:IP d) (hn:d≠[]) (hl:d.length<=sizeLine) (hs:tX s k d) (q:Q (dB true) H):Ap B (n+2) (.ref 455) [.dat (jt x s k),.dat (bY d)] H Q:=by
 obtain⟨p,hp⟩:∃p,d[0]?=IC p:=by cases d with|nil=>exact absurd rfl hn|cons p r=>exact⟨p,rfl⟩
 obtain⟨z,hz⟩:∃z,d.getLast?=IC z:=⟨_,gJ hn⟩;have e:(d.map js).getLast?=IC (js z):=by(refine ah _ (mV ..) ?_;refine ah _ hz ?_);rfl
 have e0:(d.map js)[0]?=IC (js p):=by(refine ah _ (aK ..) ?_;refine ah _ hp ?_);rfl
 have mp:p∈d:=an hp;have mz:z∈d:=kF hz;have k1:=hs p.1 (bA p mp (bu _) (c.2 p mp));have k2:=hs z.2 (bA z mz (c.2 z mz) (bu _));refine PF.ap ok wQ (show j7 (s.str==am "<=") _ _ from cr (λh1=>?_) λh1=>(show j7 (s.str==am ">=") _ _ from cr (λh2=>?_) λh2=>(show j7 (s.str==am "!=") _ _ from cr (λh3=>?_) λh3=>?_)))
 ·cases s with
  |le=>exact(show aW (d.map js).getLast? _ from aj e (show∃v0 H0,K7 H.length (dB (decide (z.2<=k))) H v0 H0/\Q v0 H0 by refine ah _ (decide_eq_true (show z.2<=k from k2) ..) ?_;exact dr q))
  |ge=>cases MS.symm.trans h1
  |ne=>cases MQ.symm.trans h1
  |eq=>cases MT.symm.trans h1
 ·cases s with
  |le=>cases Ke.symm.trans h1
  |ge=>exact(show aW (d.map js)[0]? _ from aj e0 (show∃v0 H0,K7 H.length (dB (decide (k<=p.1))) H v0 H0/\Q v0 H0 by refine ah _ (decide_eq_true (show k<=p.1 from k1) ..) ?_;exact dr q))
  |ne=>cases MR.symm.trans h2
  |eq=>cases MU.symm.trans h2
 ·cases s with
  |le=>cases Ke.symm.trans h1
  |ge=>cases L7.symm.trans h2
  |ne=>exact yV ok hl (λhv=>absurd rfl (hs k hv)) λZ=>dr q
  |eq=>cases(by assumption:(Sg.str .eq==am "!=")=false).symm.trans h3
 ·cases s with
  |le=>cases Ke.symm.trans h1
  |ge=>cases L7.symm.trans h2
  |ne=>cases(by exact str_beq_self Sg.ne.str:(Sg.str .ne==am "!=")=true).symm.trans h3
  |eq=>
   have:=Pq c hn hs;subst this;refine⟨⟨(jn _).ok (ak rfl),(jn [(k,k)]).ok (ak rfl)⟩,?_⟩;show∃v0 H0,K7 H.length (dB (aQ (bY [(k,k)]) (bY [(k,k)]))) H v0 H0/\Q v0 H0;exact ah _ ((jJ _ _).mpr rfl ..) (dr q)
noncomputable def jZ (cells:List Int) (a:Nat):a_:=.IJ [(am "cells",.list (cells.map .int)),(am "at",.int a)]
theorem Eb (a:Nat) (h:a<=1000):eS a 3=false:=by
 have:∀a:Fin 1001,eS (a.val:Int) 3=false:=by decide+kernel
 exact this ⟨a,d9 h⟩
theorem Ec (a:Nat) (h:a<=1000):Dh 4 a/\Dh (4*a) a/\Dh 6 a:=by
 have:∀a:Fin 1001,jS (a.val:Int)<=64:=by decide+kernel
 have h1:=this ⟨a,d9 h⟩;exact⟨.of_left (ak rfl),.of_right h1,.of_left (ak rfl)⟩
theorem rQ (ok:fB B) {a:Nat} {cells:List Int} {many:Int} (hi:H[i]?=IC (jZ cells a)) (ha:a<=1000) (hc:cells.length<=1000) (hm:0<many) (q:∀r:Int,0<=r->r<many->Q (dI r) (H.set i (jZ cells (a+1)))):Ap B (n+1) (.ref 436) [.loc i,dI many] H Q:=by
 have hb:H[i]?.bind jj=IC [(am "cells",.list (cells.map .int)),(am "at",.int a)]:=by refine ah _ hi ?_;rfl
 have M8:(H.set i (jZ cells (a+1)))[i]?.bind jj=IC [(am "cells",.list (cells.map .int)),(am "at",.int ((a+1:Nat):Int))]:=by refine ah _ (cW (c8 hi) ..) ?_;rfl
 have l1:∀a:Int,BY [(am "cells",.list (cells.map .int)),(am "at",.int a)] (am "at")=IC (.int a):=λa=>by kernel_rfl
 have l2:∀a:Int,BY [(am "cells",.list (cells.map .int)),(am "at",.int a)] (am "cells")=IC (.list (cells.map .int)):=λa=>by kernel_rfl
 have p1:∀a b:Int,Aq [(am "cells",.list (cells.map .int)),(am "at",.int a)] (am "at") (.int b)=[(am "cells",.list (cells.map .int)),(am "at",.int b)]:=λa b=>by kernel_rfl
 refine PF.ap ok AU (show aW (H[i]?.bind jj) _ from aj hb (aj (l1 _) ?_));refine(show aW (H[i]?.bind jj) _ from aj hb ⟨by show 2<=sizeLine;exact ba rfl,?_⟩);refine ah _ (p1 ..) ?_;have fin:∀y:Int,∃v0 H0,K7 H.length (dI (y.fmod many)) (H.set i (jZ cells (a+1))) v0 H0/\Q v0 H0:=λy=>vD (q _ (Int.fmod_nonneg_of_pos _ hm) (Int.fmod_lt_of_pos _ hm));refine(show aW ((H.set i (jZ cells (a+1)))[i]?.bind jj) _ from aj M8 (aj (l2 _) ⟨by refine ah _ (af ..) ?_;exact ab hc (ba rfl),?_⟩));refine cr (λh1=>?_) λh1=>?_
 ·have h1:(a:Int)<(cells.map aS).length:=of_decide_eq_true h1;rw[af]at h1;have r_:a<cells.length:=Int.ofNat_lt.mp h1;refine(show aW ((H.set i (jZ cells (a+1)))[i]?.bind jj) _ from aj M8 (aj (l2 _) ⟨⟨dJ _,t8 (ab (bj r_) hc)⟩,aj (iT (aJ r_)) ⟨tU hm,fin _⟩⟩))
 ·exact ee (Ec a ha:_) λm1 m2 m3=>(TF m1 m2 m3 ⟨nofun,Eb a ha⟩ (tU hm) (fin _))
variable {xs:Array Nat} {v:Nat}
def lC (l:List Nat):Prop:=l.Pairwise (·<·)
theorem aaD {f lo hi:Nat}:gl xs j (f+1) lo hi=if lo<hi then(if xs.getD ((lo+hi)/2) j<j then gl xs j f ((lo+hi)/2+1) hi else gl xs j f lo ((lo+hi)/2))else lo:=rfl
theorem GV (hr:lC xs.toList):∀(fuel lo hi:Nat),hi - lo<=fuel->lo<=hi->hi<=xs.size->(∀i,i<lo->xs.getD i 0<j)->(∀i,hi<=i->i<xs.size->j<=xs.getD i 0)->
 gl xs j fuel lo hi<=xs.size/\(∀i,i<gl xs j fuel lo hi->xs.getD i 0<j)/\∀i,gl xs j fuel lo hi<=i->i<xs.size->j<=xs.getD i 0:=by
 have gt:∀a b,a<b->b<xs.size->xs.getD a 0<xs.getD b 0:=λa b h1 h2=>by
  have:=List.pairwise_iff_getElem.mp hr a b (by simp;exact cy h1 h2) (by simpa using h2) h1
  simpa [kb,h2,cy h1 h2]using this
 intro fuel
 induction fuel with
 |zero=>
  intro lo hi hf P7 RT h1 h2;have:lo=hi:=cC P7 (kh (Nat.le_zero.1 hf));subst this;exact⟨RT,h1,h2⟩
 |succ f ih=>
  intro lo hi hf P7 RT h1 h2;refine ah _ (aaD ..) ?_;by_cases r_:lo<hi
  ·refine ah _ (if_pos r_ ..) ?_;have NC:lo<=(lo+hi)/2:=WT r_;have KL:(lo+hi)/2<hi:=WU r_;generalize hm:(lo+hi)/2=m at NC KL⊢;have hd:xs.getD m j=xs.getD m 0:=by
    have:m<xs.size:=aP KL RT;simp[kb,this]
   refine ah _ hd ?_;by_cases hc:xs.getD m 0<j
   ·refine ah _ (if_pos hc ..) (ih (m+1) hi (W6 hf NC) KL RT (λi LO=>?_) h2);rcases tN i m with h|h
    ·exact cy (gt i m h (aP KL RT)) hc
    ·refine ah _ (show i=m by exact Nat.eq_of_le_of_lt_succ h LO) ?_;exact hc
   ·refine ah _ (if_neg hc ..) (ih lo m (VZ hf KL) NC (bj (aP KL RT)) h1 λi h3 h4=>?_);rcases tN m i with h|h
    ·exact bj (aB (c7 hc) (gt m i h h4))
    ·refine ah _ (show i=m by exact cC h h3) ?_;exact c7 hc
  ·refine ah _ (if_neg r_ ..) ?_;have:lo=hi:=cC P7 (c7 r_);subst this;exact⟨RT,h1,h2⟩
theorem n0 (hr:lC xs.toList) (j:Nat):bC xs j<=xs.size/\(∀i,i<bC xs j->xs.getD i 0<j)/\∀i,bC xs j<=i->i<xs.size->j<=xs.getD i 0:=
 GV hr xs.size 0 xs.size (aq _) (aL _) (aq _) (λi h=>absurd h (Nat.not_lt_zero i)) λi h1 h2=>absurd h2 (Nat.not_lt.mpr h1)
theorem xa (h:xs[i]?=IC v):xs.getD i 0=v/\i<xs.size:=by
 refine bm (Array.getElem?_eq_some_iff.mp h:_) λh1 h2=>?_;exact⟨by simp[kb,h1,h2],h1⟩
theorem B3 (hr:lC xs.toList) (h:xs[i]?=IC v):bC xs (v+1)=i+1:=by
 refine ee (n0 hr (v+1):_) λh1 h2 h3=>bh (xa h:_) λe hi=>?_;have gt:∀a b,a<b->b<xs.size->xs.getD a 0<xs.getD b 0:=λa b h1 h2=>by
  have:=List.pairwise_iff_getElem.mp hr a b (by simp;exact cy h1 h2) (by simpa using h2) h1
  simpa [kb,h2,cy h1 h2]using this
 rcases Nat.lt_trichotomy (bC xs (v+1)) (i+1)with h|h|h
 ·have:=h3 i (bF h) hi;exact VV e this
 ·exact h
 ·have h4:=h2 (i+1) h;have h5:=gt i (i+1) (bV _) (aP h h1);exact VQ e h4 h5
theorem B4 (hr:lC xs.toList):bC xs 0=0:=by
 refine ee (n0 hr 0:_) λh1 h2 h3=>?_;rcases Nat.eq_zero_or_pos (bC xs 0)with h|h
 ·exact h
 ·exact absurd (h2 0 h) (Nat.not_lt_zero _)
theorem Ed (hr:lC xs.toList) (h:(xs[bC xs j]?==IC j)=false):j∉xs.toList:=λhm=>by
 refine ee (n0 hr j:_) λh1 h2 h3=>bm (List.mem_iff_getElem?.mp hm:_) λi hi=>?_;rw[bH]at hi;refine bh (xa hi:_) λe r_=>?_;have gt:∀a b,a<b->b<xs.size->xs.getD a 0<xs.getD b 0:=λa b h1 h2=>by
  have:=List.pairwise_iff_getElem.mp hr a b (by simp;exact cy h1 h2) (by simpa using h2) h1
  simpa [kb,h2,cy h1 h2]using this
 have hb:bC xs j=i:=by
  rcases Nat.lt_trichotomy (bC xs j) i with h|h|h
  ·have a:=h3 _ (aq _) (cy h r_);have b:=gt _ i h r_;exact VR e a b
  ·exact h
  ·have:=h2 i h;exact VW e this
 rw[hb,hi]at h;simp at h
theorem uX (hr:lC xs.toList) (h:j∉xs.toList):lC (e6 xs (bC xs j) j).toList:=by
 refine ee (n0 hr j:_) λh1 h2 h3=>ah _ (SetTable.toList_insertAt ..) ?_;generalize bC xs j=p at h1 h2 h3;have hat:∀(i:Nat) v,xs.toList[i]?=IC v->xs.getD i 0=v:=λi v e=>(xa (by rwa [bH]at e)).1;refine List.pairwise_append.mpr ⟨mj (sF _ _) hr,List.pairwise_cons.mpr ⟨λv hv=>?_,mj (List.drop_sublist _ _) hr⟩,λa ha b hb=>?_⟩
 ·refine bm (List.mem_iff_getElem?.mp hv:_) λi hi=>?_;rw[List.getElem?_drop]at hi;have e:=hat _ _ hi;have r_:p+i<xs.size:=by have:=(List.getElem?_eq_some_iff.mp hi).1;assumption
  have:=h3 (p+i) Sy r_;rcases tN j v with q|q
  ·exact q
  ·exact absurd (an (by refine ah _ hi ?_;congr 1;exact Wc e this q)) h
 ·refine bm (List.mem_iff_getElem?.mp ha:_) λi hi=>?_;have hip:i<p:=by
   have:=(List.getElem?_eq_some_iff.mp hi).1;rw[iH]at this;exact Vy this
  rw[eN hip]at hi;have e1:=hat _ _ hi;have l1:=h2 i hip;rcases List.mem_cons.mp hb with rfl|hb
  ·exact lt_of_eq_of_lt (id (kI e1)) l1
  ·refine bm (List.mem_iff_getElem?.mp hb:_) λk hk=>?_;rw[List.getElem?_drop]at hk;have e2:=hat _ _ hk;have r_:p+k<xs.size:=by have:=(List.getElem?_eq_some_iff.mp hk).1;assumption
   have:=h3 (p+k) Sy r_;exact VS e1 l1 e2 this
noncomputable def Uk (m:Nat) (i:Nat):Nat:=(i*5+1) %(m+1)
noncomputable def Cz (m:Nat):Nat->Nat->Nat
 |0,i=>i
 |n+1,i=>Cz m n (Uk m i)
def B5 (m:Nat):Prop:=∀i,i<=m->∀e,e<=m->∃s,s<=m/\Cz m s i=e
noncomputable def Vi (m:Nat):Bool:=(bl (m+1)).all λi=>(bl (m+1)).all λe=>(bl (m+1)).any λs=>dp (Cz m s i) e
theorem CA (h:Vi m=true):B5 m:=λi hi e he=>by
 have h1:=List.all_eq_true.mp (List.all_eq_true.mp h i (List.mem_range.mpr (d9 hi))) e (List.mem_range.mpr (d9 he));exact aG (List.any_eq_true.mp h1:_) λs hs h2=>(aN s (bF (List.mem_range.mp hs)) (cz h2))
theorem Vj:B5 7:=CA (by decide+kernel)
theorem S9:B5 31:=CA (by decide+kernel)
noncomputable def mn (m:Nat):Nat->Nat×Nat->Nat×Nat
 |0,p=>p
 |n+1,p=>mn m n (gK m p.1 p.2)
theorem Ee (m:Nat):∀(a b:Nat) (p:Nat×Nat),mn m (a+b) p=mn m b (mn m a p):=by
 intro a
 induction a with
 |zero=>intro b p;refine ah _ (iN ..) ?_;rfl
 |succ a ih=>intro b p;refine ah _ (Nat.succ_add ..) ?_;exact ih b _
theorem B6 (m:Nat):∀(n i:Nat),mn m n (i,0)=(Cz m n i,0):=by
 intro n
 induction n with
 |zero=>intro i;rfl
 |succ n ih=>
  intro i;have e:gK m i 0=(Uk m i,0):=rfl;show mn m n (gK m i 0)=_;refine ah _ e ?_;exact ih _
theorem Ef (m:Nat):∀(n i p:Nat),p<32^n->(mn m n (i,p)).2=0:=by
 intro n
 induction n with
 |zero=>
  intro i p h;have:p=0:=by simpa using h
  refine ah _ this ?_;rfl
 |succ n ih=>intro i p h;exact ih _ _ (by rw[Nat.pow_succ]at h;exact Nat.div_lt_of_lt_mul (by refine ah _ (Nat.mul_comm ..) ?_;exact h))
theorem GW (m:Nat):∀(n i p:Nat),i<=m->(mn m n (i,p)).1<=m:=by
 intro n
 induction n with
 |zero=>intro i p h;exact h
 |succ n ih=>intro i p h;exact ih _ _ (bF (p7 _ (jP _)))
theorem reach (hf:B5 m) {p e:Nat} (hi:i<=m) (hp:p<2^64) (he:e<=m):∃n,n<=13+m/\(mn m n (i,p)).1=e:=by
 have T_:(mn m 13 (i,p)).2=0:=Ef m 13 i p (cy hp (by decide));refine aG (hf _ (GW m 13 i p hi) e he:_) λs hs e1=>(aN (13+s) (bb hs 13) ?_);refine ah _ (Ee ..) ?_;generalize mn m 13 (i,p)=q at T_ e1;obtain⟨a,b⟩:=q;cases T_;refine ah _ (B6 ..) ?_;exact e1
variable {t:j9}
structure I_ (t:j9):Prop where
 full:B5 t.mask
 rise:lC t.place.toList
 Vm:t.dummies=#[]
 H_:t.place.size<=t.mask
 odd:t.gaveWay=false
theorem I_.slot (ok:I_ t) (j:Nat):(j∉t.place.toList/\t.slot j=.empty)∨∃i,t.slot j=.live i/\i<t.place.size:=by
 unfold SetTable.slot
 cases hb:t.place[bC t.place j]?==IC j with
 |true=>
  refine .inr (aN (bC t.place j) (if_pos hb) ?_);exact(Array.getElem?_eq_some_iff.mp (eq_of_beq hb)).1
 |false=>
  refine .inl ⟨Ed ok.rise hb,?_⟩;have hd:xF t.dummies j=false:=by refine ah _ (ok.Vm ..) ?_;rfl
  simp[hb,hd]
theorem Eg {l:List Nat} (hr:lC l) (h:l.length<=m):∃e,e<=m/\e∉l:=by
 apply dj;intro hn;have IN:∀e,e∈bl (m+1)->e∈l:=λe he=>dj λz=>hn (aN e (bF (List.mem_range.mp he)) z);have:=List.Nodup.length_le_of_subset List.nodup_range IN;rw[cH]at this;exact b7 _ (aP (d9 h) this)
theorem B7 (ok:I_ t) (h:j∉t.place.toList):t.slot j=.empty:=by
 rcases ok.slot j with h1|⟨i,h1,_⟩
 ·exact h1.2
 ·exfalso;unfold SetTable.slot at h1
  cases hb:t.place[bC t.place j]?==IC j with
  |true=>exact h (an (by rw[bH];exact eq_of_beq hb))
  |false=>
   have hd:xF t.dummies j=false:=by refine ah _ (ok.Vm ..) ?_;rfl
   simp[hb,hd]at h1
noncomputable def nG (t:j9):Nat->e7->e7
 |0,p=>p
 |n+1,p=>nG t n (t.advance p)
theorem yW (t:j9):∀(a b:Nat) (p:e7),nG t (a+b) p=nG t b (nG t a p):=by
 intro a
 induction a with
 |zero=>intro b p;refine ah _ (iN ..) ?_;rfl
 |succ a ih=>intro b p;refine ah _ (Nat.succ_add ..) ?_;exact ih b _
def atI (t:j9) (i q:Nat) (p:e7):Prop:=p.j=i/\p.i=i/\p.perturb=q/\p.more=iU t.mask i - i
theorem QW (m i:Nat):iU m i - i<=9:=VG m i
theorem GX (t:j9):∀(k:Nat) (p:e7),p.more=k->(nG t k p).i=p.i/\(nG t k p).perturb=p.perturb/\(nG t k p).more=0:=by
 intro k
 induction k with
 |zero=>intro p h;exact⟨rfl,rfl,h⟩
 |succ k ih=>
  intro p h;have e:t.advance p={p with j:=p.j+1,more:=p.more - 1}:=if_pos (h▸jP k);have:=ih (t.advance p) (by refine ah _ e ?_;show p.more - 1=k;exact kI (GY (id (kI h))));rw[e]at this;show(nG t k (t.advance p)).i=p.i/\(nG t k (t.advance p)).perturb=p.perturb/\(nG t k (t.advance p)).more=0;refine ah _ e ?_;exact this
theorem Eh (t:j9):∀(n i q:Nat) (p:e7),atI t i q p->∃k,k<=10*n/\(nG t k p).j=(mn t.mask n (i,q)).1:=by
 intro n
 induction n with
 |zero=>intro i q p h;exact(aN 0 (aq _) h.1)
 |succ n ih=>
  intro i q p h;refine ee (GX t p.more p rfl:_) λh1 h2 h3=>?_;have e:t.advance (nG t p.more p)={nG t p.more p with j:=(gK t.mask i q).1,more:=iU t.mask (gK t.mask i q).1 - (gK t.mask i q).1,i:=(gK t.mask i q).1,perturb:=(gK t.mask i q).2}:=by
   unfold Fs
   (refine ah _ (if_neg (uA (bd h3)) ..) ?_;refine ah _ h1 ?_;refine ah _ h2 ?_;refine ah _ (h.2.1 ..) ?_;refine ah _ (h.2.2.1 ..) rfl)
  refine aG (ih _ _ (t.advance (nG t p.more p)) (by refine ah _ e ?_;exact(fv rfl rfl rfl rfl)):_) λk hk e2=>?_;refine(aN (p.more+(1+k)) ?_ ?_)
  ·exact VL (h.2.2.2▸QW t.mask i) hk
  ·(refine ah _ (yW ..) ?_;refine ah _ (yW ..) ?_);exact e2
theorem CB (h:Int):eI h<2^64:=by unfold eI;have:=Int.emod_lt_of_pos h (show(0:Int)<2^64 by exact kbt_pos 64);exact(De (Int.emod_nonneg h (by decide))).mpr this
theorem rR (ok:I_ t) (h:Int):∃k,k<10*ic t.mask/\t.slot (nG t k (t.probeStart h)).j=.empty:=by
 refine aG (Eg ok.rise (show t.place.toList.length<=t.mask from ok.H_):_) λe he hn=>aG (reach ok.full (i:=eI h %(t.mask+1)) (p:=eI h) (bF (p7 _ (jP _))) (CB h) he:_) λn RK e2=>aG (Eh t n (eI h %(t.mask+1)) (eI h) (t.probeStart h) (fv rfl rfl rfl rfl):_) λk hk e3=>?_;refine(aN k (by unfold ic;exact W_ RK hk) ?_)
 (refine ah _ e3 ?_;refine ah _ e2 ?_);exact B7 ok hn
noncomputable def XF (t:j9) (h:Int) (hashAt:Nat->Int) (k:Nat):SetTable.Met->Prop
 |.empty j d=>d=ID/\t.slot j=.empty
 |.candidate j i next=>(hashAt i==h)=true/\t.slot j=.live i/\i<t.place.size/\next.dummy=ID/\∃k',k'<k/\t.slot (nG t k' next).j=.empty
theorem vH (t:j9) (p:e7):(t.advance p).dummy=p.dummy:=by unfold Fs;split<;>rfl
theorem sU {hashAt:Nat->Int} {h:Int} {f:Nat} {p:e7} {q:SetTable.Slot} (e:t.slot p.j=q):iJ t hashAt h (f+1) p=q.casesOn (IC (.empty p.j p.dummy)) (iJ t hashAt h f (t.advance {p with dummy:=IC p.j})) λi=>if hashAt i==h then IC (.candidate p.j i (t.advance p))else iJ t hashAt h f (t.advance p):=by
 refine ah _ e.symm ?_;show(match t.slot p.j with|.empty=>_|.dummy=>_|.live i=>_)=_;cases t.slot p.j<;>rfl
theorem yX (ok:I_ t) (hashAt:Nat->Int) (h:Int):∀(k fuel:Nat) (p:e7),k<fuel->p.dummy=ID->t.slot (nG t k p).j=.empty->∃met,iJ t hashAt h fuel p=IC met/\XF t h hashAt k met:=by
 intro k
 induction k with
 |zero=>
  intro fuel p hf hd hs;obtain⟨f,rfl⟩:∃f,fuel=f+1:=⟨fuel - 1,(jr hf).symm⟩;have hs:t.slot p.j=.empty:=hs;exact⟨.empty p.j p.dummy,sU hs,hd,hs⟩
 |succ k ih=>
  intro fuel p hf hd hs;obtain⟨f,rfl⟩:∃f,fuel=f+1:=⟨fuel - 1,VI hf⟩;rcases ok.slot p.j with h1|⟨i,h1,h2⟩
  ·exact⟨.empty p.j p.dummy,sU h1.2,hd,h1.2⟩
  ·by_cases hh:(hashAt i==h)=true
   ·exact⟨.candidate p.j i (t.advance p),(sU h1).trans (if_pos hh),hh,h1,h2,(vH t p).trans hd,k,bV _,hs⟩
   ·refine aG (ih f (t.advance p) (bF hf) ((vH t p).trans hd) hs:_) λmet e m=>(aN met ((sU h1).trans ((if_neg hh).trans e)) ?_)
    cases met with
    |empty j d=>exact m
    |candidate j i next=>exact(sY m.1 m.2.1 m.2.2.1 m.2.2.2.1 (aG m.2.2.2.2 λk' a b=>(aN k' (cq a) b)))
variable {o:Array (Option Nat)} {k:Nat}
theorem S_:∀(l:List (Option Nat)) (j:Nat),l[j]?=IC ID->((l.set j (IC k)).filterMap id).Perm (k::l.filterMap id):=by
 intro l
 induction l with
 |nil=>intro j h;exact ft h
 |cons a l ih=>
  intro j h
  cases j with
  |zero=>cases h;exact .refl _
  |succ j=>
   have:=ih j h
   cases a with
   |none=>exact this
   |some b=>exact(this.cons b).trans (.swap k b _)
structure yY (m:Nat) (o:Array (Option Nat)) (k:Nat):Prop where
 size:o.size=m+1
 perm:(o.toList.filterMap id).Perm (bl k)
theorem Pi:∀(l:List (Option Nat)),ID∉l->(l.filterMap id).length=l.length:=by
 intro l
 induction l with
 |nil=>intro _;rfl
 |cons a l ih=>
  intro h
  cases a with
  |none=>exact absurd ae h
  |some b=>exact congrArg (·+1) (ih λz=>h (ag _ z))
theorem GZ (ok:yY m o k) (hk:k<=m):∃e,e<=m/\o[e]?=IC none:=by
 have hn:ID∈o.toList:=dj λz=>by
  have h1:=Pi _ z;rw[ok.perm.length_eq,cH,aF,ok.size]at h1;exact b7 _ (aP (d9 hk) (bd h1.symm))
 refine bm (List.mem_iff_getElem?.mp hn:_) λe he=>?_;rw[bH]at he;exact(aN e (bF (Nat.lt_of_lt_of_eq (Array.getElem?_eq_some_iff.mp he).1 ok.size)) he)
theorem JH:(o.getD j (IC 0)).isNone=true↔o[j]?=IC none:=by
 refine ah _ (Array.getD_eq_getD_getElem? ..) ?_
 cases h:o[j]? with
 |none=>decide
 |some x=>cases x<;>simp
theorem Ph {e:Nat} (he:o[e]?=IC ID):∀(n fuel i q:Nat),n<fuel->i<=m->(mn m n (i,q)).1=e->∃j,fN m o fuel i q=IC j/\o[j]?=IC none:=by
 intro n
 induction n with
 |zero=>
  intro fuel i q hf hi h;obtain⟨f,rfl⟩:∃f,fuel=f+1:=⟨fuel - 1,(jr hf).symm⟩;have h:i=e:=h;subst h;rw[fN]
  cases hc:(bl (iU m i+1 - i)).find? λk=>(o.getD (i+k) (IC 0)).isNone with
  |some k=>exact(aN (i+k) rfl (JH.mp (jl (p:=λk=>(o.getD (i+k) (IC 0)).isNone) hc)))
  |none=>
   have h0:0∈bl (iU m i+1 - i):=List.mem_range.mpr (VF m i);exact absurd (JH.mpr he) (List.find?_eq_none.mp hc 0 h0)
 |succ n ih=>
  intro fuel i q hf hi h;obtain⟨f,rfl⟩:∃f,fuel=f+1:=⟨fuel - 1,VI hf⟩;rw[fN]
  cases hc:(bl (iU m i+1 - i)).find? λk=>(o.getD (i+k) (IC 0)).isNone with
  |some k=>exact(aN (i+k) rfl (JH.mp (jl (p:=λk=>(o.getD (i+k) (IC 0)).isNone) hc)))
  |none=>exact ih f _ _ (bF hf) (bF (p7 _ (jP _))) h
theorem Hb (hf:B5 m):∀(hs:List Int) (o:Array (Option Nat)) (k:Nat),yY m o k->k+hs.length<=m+1->
 ∃o',hs.foldl (λ(acc:Option (Array (Option Nat)×Nat)) h=>do
  let(owner,k)←acc;let j←fN m owner (ic m) (eI h %(m+1)) (eI h)
  pure (owner.setIfInBounds j (IC k),k+1)) (IC (o,k))=IC (o',k+hs.length)/\yY m o' (k+hs.length):=by
 intro hs
 induction hs with
 |nil=>intro o k ok _;exact(aN o rfl ok)
 |cons h hs ih=>
  intro o k ok hk;rw[iK]at hk;refine aG (GZ ok (Ww hk):_) λe he hn=>?_;have hi:eI h %(m+1)<=m:=bF (p7 _ (jP _));refine aG (reach hf hi (CB h) he:_) λn RK e2=>?_;refine aG (Ph hn n (ic m) _ _ (by unfold ic;exact WR RK) hi e2:_) λj e3 hj=>?_;have ok2:yY m (o.setIfInBounds j (IC k)) (k+1):=by
   refine⟨by refine ah _ (Array.size_setIfInBounds ..) ?_;exact ok.size,?_⟩
   (refine ah _ (wj ..) ?_;refine ah _ (List.range_succ ..) ?_)
   exact((S_ o.toList j (by refine ah _ (bH ..) ?_;exact hj)).trans (ok.perm.cons k)).trans (xG k _).symm
  refine aG (ih _ (k+1) ok2 (Wx hk):_) λo' e4 ok'=>?_;refine(aN o' ?_ (by(refine ah _ (iK ..) ?_;refine ah _ (show k+(hs.length+1)=k+1+hs.length by exact VE) ?_);exact ok'))
  (refine ah _ (List.foldl_cons ..) ?_;refine ah _ (iK ..) ?_;refine ah _ (show k+(hs.length+1)=k+1+hs.length by exact VE) ?_;refine ah _ e4.symm ?_)
  congr 1
  show(fN m o (ic m) (eI h %(m+1)) (eI h)).bind _=_;refine ah _ e3 ?_;rfl
theorem Hc (m:Nat) (o:Array (Option Nat)):lC (((bl (m+1)).filterMap λj=>(o.getD j ID).map (j,·)).map (·.1)):=by
 have:∀l:List Nat,(((l.filterMap λj=>(o.getD j ID).map (j,·)).map (·.1))).Sublist l:=by
  intro l
  induction l with
  |nil=>exact .slnil
  |cons a l ih=>
   refine ah _ (dt ..) ?_
   cases o.getD a ID with
   |none=>exact ih.cons a
   |some b=>exact ih.cons_cons a
 exact mj (this _) oN
theorem Hd (h:o.size=m+1):((bl (m+1)).filterMap λj=>(o.getD j ID).map (j,·)).map (·.2)=o.toList.filterMap id:=by
 refine ah _ (rP ..) ?_;have e:o.toList=(bl (m+1)).map λj=>o.getD j none:=by
  apply jI;intro i
  (refine ah _ (aK ..) ?_;refine ah _ (bH ..) ?_;refine ah _ h.symm ?_)
  by_cases hi:i<o.size
  ·refine ah _ (l8 hi ..) ?_;simp[kb,hi]
  ·(refine ah _ (gL (c7 hi) ..) ?_;refine ah _ (fD (by simp;exact c7 hi) ..) ?_);rfl
 (refine ah _ e ?_;refine ah _ (List.filterMap_map ..) ?_)
 congr 1
 funext j;show eH _ (eH _ (o.getD j ID))=o.getD j ID;cases o.getD j ID<;>rfl
theorem OQ (hf:B5 m) (ZJ:(m %2==0)=false) {finger moves:Nat} {led plain:Bool} {hs:Array Int} (hn:hs.size<=m):∃t order,SetTable.laid m finger moves led plain hs=IC (t,order)/\order.toList.Perm (bl hs.size)/\t.mask=m/\t.led=led/\t.place.size=hs.size/\I_ t:=by
 have ok0:yY m (Array.replicate (m+1) ID) 0:=⟨Array.size_replicate,by simp⟩;refine aG (Hb hf hs.toList _ 0 ok0 (by refine ah _ (aF ..) ?_;exact WG hn):_) λo e ok=>?_;have e1:Ei m hs=IC o:=by
  unfold Ei;exact ah _ (Array.foldl_toList ..).symm ((congrArg (eH (·.1)) e))
 rw[iN,aF]at ok;have hp:(((bl (m+1)).filterMap λj=>(o.getD j ID).map (j,·)).map (·.2)).Perm (bl hs.size):=Hd ok.size▸ok.perm;have hl:=hp.length_eq;rw[af,cH]at hl;refine⟨_,_,by unfold SetTable.laid;refine ah _ e1 ?_;rfl,hp,rfl,rfl,?_,hf,Hc m o,rfl,?_,?_⟩
 ·show(oB _).size=_;(refine ah _ (cQ ..) ?_;refine ah _ (af ..) ?_);exact hl
 ·show(oB _).size<=_;(refine ah _ (cQ ..) ?_;refine ah _ (af ..) ?_;refine ah _ hl ?_);exact hn
 ·exact ZJ
variable {S a:Addr} {es:Array (Int×Value)} {Q:Bool->aD->Prop} {k:List gM} {ep:Nat} {c:Prop} {v:Value}
noncomputable abbrev gM:=Int ⊕Str
noncomputable def vI:gM->Value->Bool
 |.inl i,v=>pN i v
 |.inr x,v=>Value.isStrOf x v
theorem io {k:gM} (h:vI k v=true):(∃i t,k=.inl i/\v=.int i t)∨∃x t,k=.inr x/\v=.str x t:=by
 cases k with
 |inl i=>refine bm (Value.isInt_shape h:_) λt e=>?_;exact .inl (ie i t rfl e)
 |inr x=>refine bm (Value.isStrOf_shape h:_) λt e=>?_;exact .inr (ie x t rfl e)
section
variable {prog:Program} {w:eQ} {A:du} {E:Value->aD->Prop} {s:aD}
theorem He {a b:gM} {u:Value} (ha:vI a u=true) (hb:vI b v=true) (h:Q (decide (a=b)) s):aC (bX prog w) A (eqBool u v) Q E s:=by
 rcases io ha with⟨i,t,rfl,rfl⟩|⟨x,t,rfl,rfl⟩<;>rcases io hb with⟨j,t',rfl,rfl⟩|⟨y,t',rfl,rfl⟩
 ·exact wpAny_eqBool_int (by rw[show(i==j)=decide ((.inl i:gM)=.inl j) by rw[kY];simp];exact h)
 ·rw[decide_eq_false nofun]at h;exact aa (show aC _ A (compareOp .Eq _ _) _ E s from EqMixed.eq_int_str (kt h))
 ·rw[decide_eq_false nofun]at h;exact aa (show aC _ A (compareOp .Eq _ _) _ E s from EqMixed.eq_str_int (kt h))
 ·exact wpAny_eqBool_str (by rw[show decide (x=y)=decide ((.inr x:gM)=.inr y) by rw[decide_eq_decide];exact⟨congrArg _,Sum.inr.inj⟩];exact h)
end
noncomputable def eP (prog:Program) (w:eQ):PySem.KeyKind prog w gM where
 is:=vI
 hash:=λk=>k.elim xb (hashStr w)
 inj:=λv a b ha hb=>by
  rcases io ha with⟨i,t,rfl,rfl⟩|⟨x,t,rfl,rfl⟩<;>rcases io hb with⟨j,t',rfl,e⟩|⟨y,t',rfl,e⟩<;>cases e<;>rfl
 byValue:=λk v h=>by rcases io h with⟨i,t,rfl,rfl⟩|⟨x,t,rfl,rfl⟩<;>rfl
 pyHash:=λh q=>by
  rcases io h with⟨i,t,rfl,rfl⟩|⟨x,t,rfl,rfl⟩
  ·exact wpAny_pyHash_int q
  ·exact wpAny_pyHash_str q
 eqBool:=λha hb h=>He ha hb h
 «strs»:=λk x t v h=>by
  rcases io h with⟨i,t,rfl,e⟩|⟨y,t,rfl,e⟩<;>cases e
  cases v<;>rfl
noncomputable abbrev vJ (prog:Program) (w:eQ):HeapKind prog w (List gM):=tupleKind (eP prog w)
section
variable {prog:Program} {w:eQ} {A:du} {E:Value->aD->Prop} {s:aD}
noncomputable abbrev ou (es:Array (Int×Value)) (ep:Nat) (t:j9):Obj:={cls:=.type "set",dict:=ID,data:=.set es ep t}
theorem I_.fits (ok:I_ t) (h:t.place.size=n):t.fits n=true:=by
 subst h;exact Bool.and_eq_true_iff.mpr ⟨beq_self_eq_true _,decide_eq_true (by unfold SetTable.fill;refine ah _ (ok.Vm ..) ?_;exact ok.H_)⟩
theorem yZ (hk:eW (eP prog w) s.heap k a) (h:Q false s):aC (bX prog w) A (xc 8 (.ref a)) Q E s:=by
 have hT:=hk.typeIs;refine qR hk λo items n ho Z hd hi=>?_;unfold xc;refine aa (il hT ?_);show aC _ _ (pure true>>=_) _ _ s;refine aa (ai ?_);show aC _ _ (nm (.ref a)>>=_) _ _ s;refine aa (cm ho hd ?_);refine aa ?_;show aC _ _ (forIn items _ _) _ _ s;refine ah _ (lD ..).symm (z4 _ (λrest r s'=>r.1=ID/\s'=s/\∀v∈rest,carriedByValue v=true) _ ?_ ?_ _ _ ⟨rfl,rfl,hi.byValue⟩)
 ·intro v rest r s' f_;refine ee f_ λhr k_ IN=>?_;obtain rfl:=k_;have e:xc 7 v=pure false:=by
   have:=IN v ae;cases v<;>first|rfl|exact fP this
  exact ah _ e (aa (ai (ai ⟨rfl,rfl,λu Zw=>IN u (ag _ Zw)⟩)))
 ·intro j_ s' p_;obtain⟨r1,r2⟩:=j_;refine ee p_ λhr s_ _=>?_;obtain rfl:=s_;cases(show r1=ID from hr);exact ai h
def B8 (prog:Program) (w:eQ) (h:Heap) (k:List gM) (es:List (Int×Value)):Prop:=∀e∈es,∃k' b,e.2=.ref b/\eW (eP prog w) h k' b/\k'≠k
theorem On {l:List Value} (hk:eW (eP prog w) s.heap k a) (hl:∀v∈l,∃k' b,v=.ref b/\eW (eP prog w) s.heap k' b) (h:Q false s):aC (bX prog w) A (searchCouldBeSeen (.ref a) l) Q E s:=by
 unfold searchCouldBeSeen;refine aa (z4 _ (λrest r s'=>r.1=ID/\s'=s/\∀v∈rest,∃k' b,v=.ref b/\eW (eP prog w) s.heap k' b) _ ?_ ?_ _ _ ⟨rfl,rfl,hl⟩)
 ·intro v rest r s' C_;refine ee C_ λhr II IN=>?_;obtain rfl:=II;refine jq v (IN _ ae:_) λk' b hb=>?_;have fin:∀R:ForInStep (Option Bool×PUnit)->aD->Prop,R (.yield (ID,⟨⟩)) s'->aC (bX prog w) A (pure (.yield (ID,⟨⟩))) R E s':=λR hR=>ai hR;refine iw (λZ=>ai ⟨rfl,rfl,λu hu=>IN u (ag _ hu)⟩) λZ=>aa (wpAny_eqIsQuiet_tuple hk ?_);refine aa (wpAny_eqIsQuiet_tuple hb ?_);refine aa (yZ hk ?_);refine aa (yZ hb ?_);exact ai ⟨rfl,rfl,λu hu=>IN u (ag _ hu)⟩
 ·intro IY s' JR;obtain⟨r1,r2⟩:=IY;refine ee JR λhr Ko _=>?_;obtain rfl:=Ko;cases(show r1=ID from hr);exact ai h
theorem Og [Decidable c] {m:xU Bool} {X y:xU α} {Q:α->aD->Prop} (h1:c->∀R:Bool->aD->Prop,R false s->aC (bX prog w) A m R E s) (h:aC (bX prog w) A X Q E s):aC (bX prog w) A (if c then(do let b←m;if b=true then y else X)else X) Q E s:=
 iw (λhc=>aa (h1 hc _ (by refine ah _ (if_neg aA ..) ?_;exact h))) λZ=>h
theorem fE [Decidable c] {X Y:xU α} {Q:α->aD->Prop} (hc:¬c) (h:aC (bX prog w) A Y Q E s):aC (bX prog w) A (if c then X else Y) Q E s:=by refine ah _ (if_neg hc ..) ?_;exact h
theorem n3 [Decidable c] {X Y:xU α} {Q:α->aD->Prop} (hc:c) (h:aC (bX prog w) A X Q E s):aC (bX prog w) A (if c then X else Y) Q E s:=by refine ah _ (if_pos hc ..) ?_;exact h
theorem xd {f:Nat} {next:e7} {Q:SetFound->aD->Prop} (hu:A.units<cLine) (ok:I_ t) (u_:t.place.size=es.size) (ho:s.heap.get? S=IC (ou es ep t)) (hk:eW (eP prog w) s.heap k a) (Lm:B8 prog w s.heap k es.toList)
 (m1:t.slot j=.live i) (hi:i<es.size) (h:aC (bX prog w) A (uw S (.ref a) hsh true f (IC next)) Q E s) {X:xU SetFound} (eX:X=(do
  let IC (_,y):=es[i]?|unsupported "internal:set-entry"
  let equal←iG [y] (eqBool y (.ref a));let(MB,_,t')←setState S
  if true&&equal then return .there ID
  let IC same:=t'.sameMemory t.moves t.mask|unsupported "set.changed-during-lookup:is-the-new-block-at-the-old-address"
  let TU←match(if same then t'.slot j else .empty)with
   |.live i'=>match MB[i']? with
    |some (_,y')=>do pure (if←isSame y' y then IC i' else ID)
    |none=>pure ID
   |_=>pure ID
  match TU with
  |none=>rule "set.search.anew";uw S (.ref a) hsh true f ID
  |some i'=>if equal then return .there (IC i')else uw S (.ref a) hsh true f (IC next))):aC (bX prog w) A X Q E s:=by
 refine hU (Lm es[i] (z5 hi):_) λk' b eb hb IQ=>?_;rcases he:es[i]with⟨eh,ev⟩
 rw[he]at eb;cases(show ev=.ref b from eb);have hgi:es[i]?=IC (eh,.ref b):=(bq hi).trans (congrArg IC he);have sm:t.sameMemory t.moves t.mask=IC true:=if_pos (beq_self_eq_true _)
 (refine ah _ eX ?_;refine ah _ hgi ?_)
 refine aa (aV ((vJ prog w).eqBool hu hb hk ?_));refine ah _ (decide_eq_false IQ ..) (aa (dg ho rfl (ok.fits u_) ?_))
 dsimp only
 (refine ah _ (sm ..) ?_;refine ah _ (m1 ..) ?_)
 dsimp only
 refine ah _ (show(if true=true then xe i else SetTable.Slot.empty)=xe i from rfl) ?_
 dsimp only
 exact ah _ hgi (aa (wpAny_isSame_ref_self (aa (ai h))))
theorem z6 {Q:SetFound->aD->Prop} (hu:A.units<cLine) (ok:I_ t) (u_:t.place.size=es.size) (ho:s.heap.get? S=IC (ou es ep t)) (hk:eW (eP prog w) s.heap k a) (Lm:B8 prog w s.heap k es.toList)
 (h:∀j,t.slot j=.empty->Q (.free j false) s):∀(K fuel:Nat) (st:Option e7),K<fuel->K<10*ic t.mask->(st.getD (t.probeStart hsh)).dummy=ID->t.slot (nG t K (st.getD (t.probeStart hsh))).j=.empty->aC (bX prog w) A (uw S (.ref a) hsh true fuel st) Q E s:=by
 intro K
 induction K using Nat.strongRecOn with
 |_ K ih=>
  intro fuel st hf hK hd hs;obtain⟨f,rfl⟩:∃f,fuel=f+1:=⟨fuel - 1,(jr (nb hf)).symm⟩;show aC _ _ (setState S>>=_) Q E s;refine aa (dg ho rfl (ok.fits u_) (fE (by refine ah _ (ok.odd ..) ?_;exact aA) ?_));refine aG (yX ok (λi=>(es[i]?.map (·.1)).getD 0) hsh K _ _ hK hd hs:_) λmet e m=>?_;generalize hp:SetTable.probe t _ _ _=pr;cases(show pr=IC met from hp.symm.trans e)
  cases met with
  |empty j d=>cases m.1;exact ai (h j m.2)
  |candidate j i next=>
   refine Og (λZ R hR=>On hk (λv hv=>?_) hR) (xd hu ok u_ ho hk Lm m.2.1 (u_▸m.2.2.1) ?_ rfl)
   ·refine ig v (List.mem_map.mp hv:_) λe2 Y3=>?_;refine hU (Lm e2 (by simp at Y3;refine bh Y3 λq Z=>?_;exact Array.mem_toList_iff.mpr q):_) λk2 b2 x1 x2 Z=>?_;exact(ie k2 b2 x1 x2)
   ·exact aG m.2.2.2.2 λK' m4 m5=>ih K' m4 f (IC next) (aP m4 (bF hf)) (cy m4 hK) m.2.2.2.1 m5
end
variable {vs:List (Int×Value)} {t1:j9}
theorem Hf (ok:I_ t) (h:t.slot j=.empty):j∉t.place.toList:=by
 rcases ok.slot j with h1|⟨i,h1,_⟩
 ·exact h1.1
 ·rw[h]at h1;cases h1
theorem lE (xs:Array α) (p:Nat) (x:α):(e6 xs p x).size=xs.size+1:=by
 (refine ah _ (aF ..).symm ?_;refine ah _ ((xH xs p x).length_eq ..) ?_;refine ah _ (aF ..) ?_;refine ah _ (Array.size_push ..) rfl)
theorem tY (ok:I_ t) (h:t.slot j=.empty) (hn:t.place.size<t.mask) (b:Bool):I_ {(t.put j).1 with plain:=b}/\(t.put j).1.place.size=t.place.size+1:=by
 have hd:(t.put j).1.dummies=#[]:=by
  show(if xF t.dummies j then _ else t.dummies)=_;refine ah _ (ok.Vm ..) ?_;rfl
 have hs:(t.put j).1.place.size=t.place.size+1:=lE _ _ _;exact⟨⟨ok.full,uX ok.rise (Hf ok h),hd,ab (bd hs) hn,ok.odd⟩,hs⟩
def tZ (m n:Nat):Prop:=m=7/\n<=4∨m=31/\n<=18
structure IR (w:eQ) (h:Heap) (S:Addr) (vs:List (Int×Value)):Prop where
 ex:∃es ep t,h.get? S=IC (ou es ep t)/\es.toList.Perm vs/\t.place.size=es.size/\I_ t/\t.led=!(w.params.followText "set-order")/\tZ t.mask es.size
theorem n4 {MB:Array (Int×Value)} {t':j9} (ho:h.get? S=IC (ou es ep t)):(h.update S (Obj.putSet MB t')).get? S=IC (ou MB (ep+1) t'):=
 bT (Obj.putSet MB t') ho rfl
section
variable {prog:Program} {w:eQ} {A:du} {E:Value->aD->Prop} {s:aD}
theorem Hg (hk:eW (eP prog w) s.heap k a) (h:∀b,Q b s):aC (bX prog w) A (hashByValue 8 (.ref a)) Q E s:=by
 have hT:=hk.typeIs;refine qR hk λo items n ho Z hd hi=>?_;unfold hashByValue;refine aa (qJ hT F.slot_tuple_hash.lookup ?_);show aC _ _ (nm (.ref a)>>=_) _ _ s;refine aa (cm ho hd ?_);refine aa ?_;show aC _ _ (forIn items _ _) _ _ s;refine ah _ (lD ..).symm (z4 _ (λrest r s'=>r.1=ID/\s'=s/\∀v∈rest,carriedByValue v=true) _ ?_ ?_ _ _ ⟨rfl,rfl,hi.byValue⟩)
 ·intro v rest r s' f_;refine ee f_ λhr k_ IN=>?_;obtain rfl:=k_;obtain⟨b,e⟩:∃b,hashByValue 7 v=pure b:=by
   have:=IN v ae;cases v<;>first|exact⟨_,rfl⟩|exact fP this
  refine ah _ e (aa (ai ?_))
  cases b with
  |false=>exact ai (ai (h _))
  |true=>exact ai ⟨rfl,rfl,λu Zw=>IN u (ag _ Zw)⟩
 ·intro j_ s' p_;obtain⟨r1,r2⟩:=j_;refine ee p_ λhr s_ _=>?_;obtain rfl:=s_;cases(show r1=ID from hr);exact ai (h _)
theorem CD [Decidable c] {m:xU Bool} {f:Bool->xU α} {Q:α->aD->Prop} (h1:∀R:Bool->aD->Prop,(∀b,R b s)->aC (bX prog w) A m R E s) (h:∀b,aC (bX prog w) A (f b) Q E s):aC (bX prog w) A (if c then m>>=f else pure true>>=f) Q E s:=
 iw (λZ=>aa (h1 _ h)) λZ=>aa (ai (h _))
theorem u0 {es:Array α} {order:Array Nat} (h:order.toList.Perm (bl es.size)):(order.filterMap (es[·]?)).toList.Perm es.toList:=by
 (refine ah _ (Array.toList_filterMap ..) ?_;refine ah _ (Hh es ..).symm ?_)
 exact h.filterMap _
theorem vK {hs:Array Int} (hn:hs.size=5):∃t' order,t.relaid hs (oO 5)=IC (t',order)/\order.toList.Perm (bl hs.size)/\t'.mask=31/\t'.led=t.led/\t'.place.size=hs.size/\I_ t':=
 OQ S9 rfl (Xe hn)
theorem Hj {Q:Unit->aD->Prop} (ok:I_ t) (u_:t.place.size=es.size) (Kj:t.led=!(w.params.followText "set-order")) (h5:es.size=5) (ho:s.heap.get? S=IC (ou es ep t)) (hp:es.toList.Perm vs)
 (h:∀h',bN S s.heap h'->IR w h' S vs->Q () {s with heap:=h'}):aC (bX prog w) A (setRelay S (oO 5)) Q E s:=by
 refine aa (dg ho rfl (ok.fits u_) (fE nofun ?_));refine D9 (vK (t:=t) (hs:=es.map (·.1)) (by refine ah _ (pO ..) ?_;exact h5):_) λt' order e a1 a2 a3 a4 a5=>?_;rw[pO]at a1 a4;have UF:=u0 a1;have KW:(order.filterMap (es[·]?)).size=es.size:=by(refine ah _ (aF ..).symm ?_;refine ah _ (UF.length_eq ..) ?_;refine ah _ (aF ..) rfl)
 show aC _ _ (_>>=_) Q E s;refine ah _ e ?_;refine aa (fE (by refine ah _ KW ?_;simp) (ai (oP ho rfl (h _ (.update ..) ⟨_,_,_,n4 ho,UF.trans hp,a4.trans KW.symm,a5,a3.trans Kj,.inr ⟨a2,by(refine ah _ KW ?_;refine ah _ h5 ?_);exact ak rfl⟩⟩) (by(refine ah _ KW ?_;refine ah _ h5 ?_);exact ba rfl))))
theorem put2 (ok:I_ t) (h:t.slot j=.empty) (hn:t.place.size<t.mask) (b:Bool) (e:t1=if b=true then(t.put j).1 else{(t.put j).1 with plain:=false}):I_ t1/\t1.place.size=t.place.size+1/\t1.mask=t.mask/\t1.led=t.led:=by
 subst e;cases b
 ·exact(fv ((tY ok h hn false).1) ((tY ok h hn false).2) rfl rfl)
 ·exact(fv ((tY ok h hn (t.put j).1.plain).1) ((tY ok h hn false).2) rfl rfl)
theorem CE (KV:I_ t1/\t1.place.size=n+1/\t1.mask=t.mask/\t1.led=t.led):t1.tooFull=decide (t.mask*3<=(n+1)*5):=by
 show decide ((t1.place.size+t1.dummies.size)*5≥t1.mask*3)=_
 (refine ah _ (KV.1.Vm ..) ?_;refine ah _ (KV.2.1 ..) ?_;refine ah _ (KV.2.2.1 ..) ?_);rfl
theorem Hk (hm:tZ m n) (h:m*3<=(n+1)*5) (hn:n<18):n=4:=VK hm h hn
theorem CF (hm:tZ m n) (h:¬m*3<=(n+1)*5) (hn:n<18):tZ m (n+1):=by
 rcases hm with⟨e,h2⟩|⟨e,h2⟩
 ·exact .inl ⟨e,WF h e⟩
 ·exact .inr ⟨e,hn⟩
theorem B9 {es1:Array (Int×Value)} {v:Int×Value} (ho:s.heap.get? S=IC (ou es ep t)) (Kj:t.led=!(w.params.followText "set-order")) (hm:tZ t.mask es.size) (hlen:es.size<18) (KV:I_ t1/\t1.place.size=es.size+1/\t1.mask=t.mask/\t1.led=t.led) (Lm:es1.size=es.size+1) (P4:es1.toList.Perm (v::vs))
 (h:∀h',bN S s.heap h'->IR w h' S (v::vs)->Q true {s with heap:=h'}):aC (bX prog w) A (storeSet S es1 t1>>=λZ=>if(!false&&t1.tooFull)=true then setRelay S (oO (es.size+1))>>=λZ=>pure true else pure true) Q E s:=by
 refine aa (oP ho rfl ?_ (by refine ah _ Lm ?_;exact ab (by exact hlen:es.size+1<=18) (ba rfl)));refine ah _ (CE KV ..) ?_;by_cases h5:t.mask*3<=(es.size+1)*5
 ·have h4:=Hk hm h5 hlen;refine n3 (by refine ah _ (decide_eq_true h5 ..) ?_;rfl) (aa ?_);exact ah _ (show es.size+1=5 from congrArg (·+1) h4) (Hj KV.1 (KV.2.1.trans Lm.symm) (KV.2.2.2.trans Kj) (Lm.trans (congrArg (·+1) h4)) (n4 ho) P4 λh' sb V_=>ai (h h' ((bJ ..).trans sb) V_))
 ·exact fE (by refine ah _ (decide_eq_false h5 ..) ?_;nofun) (ai (h _ (.update ..) ⟨_,_,_,n4 ho,P4,KV.2.1.trans Lm.symm,KV.1,KV.2.2.2.trans Kj,by(refine ah _ Lm ?_;refine ah _ (KV.2.2.1 ..) ?_);exact CF hm h5 hlen⟩))
theorem vL {p:Nat} {e:Int×Value} (hp:es.toList.Perm vs):(e6 es p e).toList.Perm (e::vs):=by
 refine(xH es _ _).trans (ah _ (mx ..) ?_);exact(xG _ _).trans (hp.cons _)
theorem xf (hu:A.units<cLine) (hS:IR w s.heap S vs) (hlen:vs.length<18) (hk:eW (eP prog w) s.heap k a) (Uv:B8 prog w s.heap k vs)
 (h:∀h',bN S s.heap h'->IR w h' S ((hsh,.ref a)::vs)->Q true {s with heap:=h'}):aC (bX prog w) A (setAddHashed S (.ref a) hsh) Q E s:=by
 obtain⟨es,ep,t,ho,hp,u_,ok,Kj,hm⟩:=hS;have Mj:es.size=vs.length:=by(refine ah _ (hp.length_eq ..).symm ?_;refine ah _ (aF ..) rfl)
 refine aG (rR ok hsh:_) λK hK hK2=>?_;have Me:t.place.size<t.mask:=u_▸Ql hm;refine aV (aa (dg ho rfl (ok.fits u_) ?_));refine aa (z6 hu ok u_ ho hk (λe he=>Uv _ (hp.mem_iff.mp he)) (λj hj=>?_) K 100000 ID (by rcases hm with⟨e,_⟩|⟨e,_⟩<;>(rw[e]at hK;exact cy hK (by decide))) hK rfl hK2);refine aa (dg ho rfl (ok.fits u_) (CD (λR hR=>Hg hk hR) λb=>?_));have p2:=put2 ok hj Me b rfl;rw[u_]at p2;exact B9 (t1:=if b=true then(t.put j).1 else{(t.put j).1 with plain:=false}) (es1:=e6 es (t.put j).2 (hsh,.ref a)) ho Kj hm (Mj▸hlen) p2 (lE es (t.put j).2 (hsh,dK a)) (vL hp) h
theorem z7 (ok:I_ t) (h:Int):∃j,t.freeSlot h=IC (j,false)/\t.slot j=.empty:=by
 refine aG (rR ok h:_) λK hK hK2=>aG (yX ok (λZ=>h+1) h K _ (t.probeStart h) hK rfl hK2:_) λmet e m=>?_
 cases met with
 |empty j d=>
  cases m.1;refine(aN j ?_ m.2);show(match iJ t (λZ=>h+1) h _ _ with|some (.empty j dummy)=>IC (dummy.getD j,dummy.isSome)|_=>ID)=_;refine ah _ e ?_;rfl
 |candidate j i next=>exact absurd (show h+1=h from eq_of_beq m.1) abb
theorem z8 (ok:I_ t) (h5:es.size=5):∃MB t',relayAll t es (oO es.size)=(MB,t',false)/\MB.toList.Perm es.toList/\t'.mask=31/\t'.led=t.led/\t'.place.size=MB.size/\I_ t':=by
 refine D9 (vK (t:=t) (hs:=es.map (·.1)) (by refine ah _ (pO ..) ?_;exact h5):_) λt' order e a1 a2 a3 a4 a5=>?_;rw[pO]at a1 a4;have UF:=u0 a1;have KW:(order.filterMap (es[·]?)).size=es.size:=by(refine ah _ (aF ..).symm ?_;refine ah _ (UF.length_eq ..) ?_;refine ah _ (aF ..) rfl)
 refine(sZ _ t' ?_ UF a2 a3 (a4.trans KW.symm) a5);unfold relayAll
 (refine ah _ h5 ?_;refine ah _ e ?_)
 refine if_pos (Bool.and_eq_true_iff.mpr ⟨?_,a5.fits (a4.trans KW.symm)⟩);refine ah _ h5.symm ?_;exact List.isPerm_iff.mpr a1
theorem Ej {h:Int} {x:Value} (ef:t.freeSlot h=IC (j,false)) (Nm:(t.put j).1.fits (e6 es (t.put j).2 (h,x)).size=true):layNew t es h x=(e6 es (t.put j).2 (h,x),(t.put j).1,false,false):=by
 unfold layNew;refine ah _ ef ?_;show(_,(if SetTable.fits (t.put j).1 (e6 es (t.put j).2 (h,x)).size=true then(t.put j).1 else _),false,!SetTable.fits (t.put j).1 (e6 es (t.put j).2 (h,x)).size)=_;refine ah _ (Nm ..) ?_;rfl
theorem Ba {i:Int} {tk:Tok} (hS:IR w s.heap S vs) (hlen:vs.length<18) (hel:ElemsOf (n5 prog w) vs)
 (h1:(∃e∈vs,pN i e.2=true)->Q false s) (h:(∀e∈vs,pN i e.2=false)->∀h',bN S s.heap h'->IR w h' S ((xb i,.int i tk)::vs)->Q true {s with heap:=h'}):aC (bX prog w) A (setAddHashed S (.int i tk) (xb i)) Q E s:=by
 obtain⟨es,ep,t,ho,hp,u_,ok,Kj,hm⟩:=hS;have Mj:es.size=vs.length:=by(refine ah _ (hp.length_eq ..).symm ?_;refine ah _ (aF ..) rfl)
 have Me:t.place.size<t.mask:=u_▸Ql hm;have V2:ElemsOf (n5 prog w) es.toList:=hel.perm hp;have hk:(n5 prog w).is i (.int i tk)=true:=uF _ _ _ _;refine aV (aa (dg ho rfl (ok.fits u_) ?_));refine n3 (byScan_of (x:=.int i tk) rfl (cy (by exact lt_of_eq_of_lt Mj hlen:es.size<18) (by decide)) V2) ?_;refine aa (aa (nz (aa (wpAny_setScan_of hk ho rfl (ok.fits u_) V2 ?_))))
 cases hr:List.findIdx? (λe=>(n5 prog w).is i e.2) es.toList with
 |some j=>
  refine aG (List.findIdx?_eq_some_iff_getElem.mp hr:_) λhj hpj Z=>?_;exact ai (ai (h1 (aN _ (hp.mem_iff.mp (nK hj)) hpj)))
 |none=>
  refine aG (z7 ok (xb i):_) λj ef hj=>?_;have Lm:=lE es (t.put j).2 (xb i,ke i tk);have p1:=tY ok hj Me (t.put j).1.plain;have el:=Ej (x:=.int i tk) ef (I_.fits p1.1 (p1.2.trans (by(refine ah _ Lm ?_;refine ah _ u_ rfl))));have PR:∀e∈vs,pN i e.2=false:=λe he=>List.findIdx?_eq_none_iff.mp hr e (hp.mem_iff.mpr he);generalize hL:layNew t es _ _=L;cases(show L=_ from hL.symm.trans el);refine aa (ai (CD (λR hR=>ai (hR true)) λb=>?_))
  dsimp only
  generalize ht:(if b=true then(t.put j).1 else _)=t1;have KV:=put2 ok hj Me b ht.symm;rw[u_]at KV;have P4:=vL (p:=(t.put j).2) (e:=(xb i,ke i tk)) hp;generalize e6 es (t.put j).2 (xb i,ke i tk)=es1 at Lm P4⊢;have N6:es.size<18:=Mj▸hlen;refine aa (oP ho rfl ?_ (by refine ah _ Lm ?_;exact ab (by exact N6:es.size+1<=18) (ba rfl)));refine ah _ (CE KV ..) ?_;by_cases h5:t.mask*3<=(es.size+1)*5
  ·have h4:es1.size=5:=Lm.trans (congrArg (·+1) (Hk hm h5 N6));refine D9 (z8 KV.1 h4:_) λMB t' e a1 a2 a3 a4 a5=>?_;have KW:MB.size=5:=by(refine ah _ (aF ..).symm ?_;refine ah _ (a1.length_eq ..) ?_;refine ah _ (aF ..) ?_);exact h4
   refine n3 (by refine ah _ (decide_eq_true h5 ..) ?_;rfl) ?_;refine ah _ e ?_;exact aa (ai (aa (oP (n4 ho) rfl (ai (ai (h PR _ ((bJ ..).trans (.update ..)) ⟨_,_,_,n4 (n4 ho),a1.trans P4,a4,a5,a3.trans (KV.2.2.2.trans Kj),.inr ⟨a2,by refine ah _ KW ?_;exact ak rfl⟩⟩))) (by refine ah _ KW ?_;exact ba rfl))))
  ·exact fE (by refine ah _ (decide_eq_false h5 ..) ?_;nofun) (ai (ai (h PR _ (.update ..) ⟨_,_,_,n4 ho,P4,KV.2.1.trans Lm.symm,KV.1,KV.2.2.2.trans Kj,by(refine ah _ Lm ?_;refine ah _ (KV.2.2.1 ..) ?_);exact CF hm h5 N6⟩)))
end
variable {Sx:Nat->Heap->Prop} {k:J4} {Q Q₁:Value->aD->Prop}
section
variable {prog:Program} {w:eQ} {A:du} {E:Value->aD->Prop} {s:aD}
theorem IR.at (x:IR w h S vs) (k:∀o,h.get? S=IC o->h'.get? S=IC o):IR w h' S vs:=
 let⟨es,ep,t,ho,r⟩:=x.ex;⟨es,ep,t,k _ ho,r⟩
theorem Hl {fp wr:List Addr} {St:Nat->Heap->Prop} (Wk:Walks prog w A.in1 I fp wr n P St) (hS:S∉fp)
 (keep:∀i h h',Sx i h->(∀b o,b∉wr->h.get? b=IC o->h'.get? b=IC o)->Sx i h')
 (step:∀i v (s:aD) (Q:Bool->aD->Prop),i<n->P i v->Sx i s.heap->(∀b h' tk,bN S s.heap h'->Sx (i+1) h'->Q b {s with heap:=h',toks:=tk})->aC (bX prog w) A.in1 (setAdd S v) Q (λe s'=>R (.error e) s') s):
 ∀(r i:Nat) (s:aD),n - i=r->i<=n->St i s.heap->Sx i s.heap->(∀h' tk,(∀b o,b∉S::wr->s.heap.get? b=IC o->h'.get? b=IC o)->Sx n h'->R (.ok (.ret .none)) {s with heap:=h',toks:=tk})->
  eY (bX prog w) A (.builtin "set.update.loop" ⟨[.ref S,.ref I],[]⟩) R s:=by
 intro r
 induction r with
 |zero=>
  intro i s hr hi st sx hR;have:i=n:=cC hi (kh hr);subst this;refine dR Ft (ah _ (dH p8 _ ..) ?_);show aC _ A.in1 (hH (.ref I)>>=_) _ _ s;exact aa (Wk.done s _ _ st λh' tk hk=>ai (hR h' tk (λb o hb e=>hk b o (λz=>hb (ag _ z)) e) (keep _ _ _ sx hk)))
 |succ r ih=>
  intro i s hr hi st sx hR;have r_:i<n:=fH hr;refine dR Ft (ah _ (dH p8 _ ..) ?_);show aC _ A.in1 (hH (.ref I)>>=_) _ _ s;refine aa (Wk.item i s _ _ r_ st λv h1 tk hP Lw hk=>?_);show aC _ A.in1 (iG [v] (setAdd S v)>>=_) _ _ _;refine aa (aV (step i v _ _ r_ hP (keep _ _ _ sx hk) λb h2 ME sb sx2=>?_));refine ai ⟨eD p8 _,ih (i+1) _ (congrArg GC hr) r_ (Wk.frame _ _ _ Lw λb hb o e=>(sb.2 b λz=>hS (z▸hb)).trans e) sx2 λh' KU IZ=>hR h' KU λb o hb e=>IZ b o hb ?_⟩;exact(sb.2 b λz=>hb (z▸ae)).trans (hk b o (λz=>hb (ag _ z)) e)
noncomputable def J4.T:J4->String
 |.list=>"list"
 |.tuple=>"tuple"
theorem Src.typeIs (x:Src k s.heap a items):s.TypeIs (.ref a) k.T:=by
 cases k<;>(refine cP x λo ho hc Z=>?_;exact(aN o ho hc))
theorem uY:z9 (.type "tuple") (.type "set")=pure false:=by refine ah _ (sA ..) ?_;kernel_rfl
theorem p9:z9 (.type "tuple") (.type "frozenset")=pure false:=by refine ah _ (sA ..) ?_;kernel_rfl
theorem J4.sub (k:J4):z9 (.type k.T) (.type "set")=pure false/\z9 (.type k.T) (.type "frozenset")=pure false/\(gH k.T==gH "dict")=false:=by
 cases k
 ·exact⟨F.sub_list_set,F.sub_list_frozenset,rfl⟩
 ·exact⟨uY,p9,rfl⟩
theorem Walks.src {A:du} (hh:A.handled=ID) (k:J4) (I l:Addr) (IQ:l≠I) (items:Array Value):Walks prog w A I [I,l] [I] items.size (λi v=>items[i]?=IC v) (λi h=>F_ k h I l i/\Src k h l items):=by
 cases k
 ·exact nP hh I l IQ items
 ·exact Dk hh I l IQ items
theorem IR.new (h:Heap) (led:Bool) (hl:led=!(w.params.followText "set-order")):IR w (h.push (ou #[] 0 (.fresh 0 0 led))) h.objs.size []:=
 ⟨#[],0,.fresh 0 0 led,aH _ rfl,.refl _,rfl,⟨Vj,.nil,rfl,aL _,show(7 %2==0)=false by rfl⟩,hl,.inl ⟨rfl,aL _⟩⟩
noncomputable abbrev NH (w:eQ):Obj:=ou #[] 0 (.fresh 0 0 (!(w.params.followText "set-order")))
theorem Oj {a:Value} (h:Q₁ (.ref s.heap.objs.size) {s with heap:=s.heap.push (NH w)}):
 eY (bX prog w) A (.call (.builtin "set.__new__") ⟨[.type "set",a],[]⟩) (wants Q₁ E) s:=by
 refine codeAny_of_tree ?_;show aC _ A.in1 (do checkBuiltinCall "set.__new__" ⟨[.type "set",a],[]⟩;again (.builtin "set.__new__" ⟨[.type "set",a],[]⟩)) _ _ s;refine aa (lz (F.newCall_set_1 a) (ai ⟨eD F.plain_set_new _,dR F.entry_set_new ?_⟩));refine ah _ (dH F.plain_set_new _ ..) ?_;show aC _ A.in1 (Builtin.Frozenset.newClass "set" ⟨[.type "set",a],[]⟩>>=_) _ _ s;refine aa ?_;show aC _ A.in1 (isType (.type "set")>>=_) _ _ s;refine aa (ai ?_);show aC _ A.in1 (z9 (.type "set") (.type "set")>>=_) _ _ s;refine aa (lz sub_set_self ?_);refine ai ?_;show aC _ A.in1 (newSet (.type "set")>>=_) _ _ s;refine aa (aa (aa (jf (ai ?_))));exact ce (ai h)
set_option maxRecDepth 100000 in
theorem zd {l:Addr} (hh:A.handled=ID) (hl:Src k s.heap l items)
 (keep:∀i h h',Sx i h->(∀b o,b∉[s.heap.objs.size+1]->h.get? b=IC o->h'.get? b=IC o)->Sx i h') (h0:∀h,IR w h s.heap.objs.size []->(∀b o,s.heap.get? b=IC o->h.get? b=IC o)->Sx 0 h)
 (step:∀(A:du) i v (s':aD) (Q:Bool->aD->Prop) (E:Value->aD->Prop),(A.units<cLine)->i<items.size->items[i]?=IC v->Sx i s'.heap->(∀b h' tk,bN s.heap.objs.size s'.heap h'->Sx (i+1) h'->Q b {s' with heap:=h',toks:=tk})->aC (bX prog w) A (setAdd s.heap.objs.size v) Q E s')
 (hu:A.units+20<cLine) (h:∀h' tk,(∀b o,s.heap.get? b=IC o->h'.get? b=IC o)->Sx items.size h'->Q (.ref s.heap.objs.size) {s with heap:=h',toks:=tk}):aC (bX prog w) A (call (.type "set") [.ref l]) Q E s:=by
 refine lP F.called_set.mro λc tl hmro=>?_;have acf:=F.called_set.made;have Jk:=F.called_set.sub;refine uH (codeAny_of_tree ?_);show aC _ _ (callAny (.type "set") _) _ _ _;refine ai ⟨Code.quiet_builtin _ (by decide+kernel),dR F.entry_type_call ?_⟩;refine ah _ (Around.under_plain (weight_type_call_type "set" [.ref l] []) rfl ..) ?_;have h1:=F.called_set.notType;have h2:=F.called_set.canCreate;have hct:=F.typeCall_set_1 (.ref l)
 repeat (any_goals (first|assumption|wp_step))
 have hS:(s.heap.push (NH w)).get? s.heap.objs.size=IC (NH w):=aH _ rfl;refine qf (Oj (a:=.ref l) (E:=E) (Q₁:=λobj s₁=>obj=.ref s.heap.objs.size/\s₁={s with heap:=s.heap.push (NH w)}) ⟨rfl,rfl⟩) λr s₁ hr=>?_;rcases r with e|(obj|_|_|_)<;>first|exact hr|exact hr.elim|skip
 refine fq v hr λk_=>?_;obtain rfl:=k_;have hT:Shared.TypeIs {s with heap:=s.heap.push (NH w)} (.ref s.heap.objs.size) "set":=(aN _ hS rfl);have US:=F.called_set.init.lookup;have hbi:=F.called_set.init.bind (.ref s.heap.objs.size)
 repeat (any_goals (first|assumption|wp_step))
 refine qf (codeAny_call_builtin (R:=wants (λr s₂=>r=.none/\Q (.ref s.heap.objs.size) s₂) E) F.called_set.init.plain F.entry_set_init (check_set_init_1 hT ?_)) λr₂ s₂ N4=>?_
 ·have KM:Src k (s.heap.push (NH w)) l items:=hl.at λo e=>av _ e;have T9:=Src.typeIs (s:={s with heap:=s.heap.push (NH w)}) KM;refine ee k.sub λKm KC L9=>?_;show aC _ _ (pure ()>>=_) _ _ _;refine aa (ai ?_);show aC _ _ (typeNameOfCut 200 (.ref s.heap.objs.size)>>=_) _ _ _;refine aa (aa (aa (il hT (ai ?_))));refine ai (aa (ai (aa (ai ?_))));have h00:=IR.new (w:=w) s.heap _ rfl;refine aa (aa ?_);refine dg hS rfl rfl (ai ?_);refine fE aA (aa ?_);show aC _ _ (Builtin.Frozenset.isAnySet (.ref l)>>=_) _ _ _;refine aa (aa (eU T9 Km (eU T9 KC ?_)));refine fE aA (aa (il T9 ?_));refine fE (by refine ah _ L9 ?_;exact aA) ?_;refine aa (kL KM ?_);refine aa (wpAny_runValue ?_);have u_:(s.heap.push (NH w)).objs.size=s.heap.objs.size+1:=bz ..;have hlS:l<s.heap.objs.size:=by refine bm hl.some λo e=>?_;exact b0 e
  have hit:=F_.new k (s.heap.push (NH w)) l;show eY _ _ (.builtin "set.update.loop" ⟨[.ref s.heap.objs.size,.ref (s.heap.push (NH w)).objs.size],[]⟩) _ _;rw[u_]at hit⊢;refine Hl (Walks.src (by exact hh) k (s.heap.objs.size+1) l (bf (cq hlS)) items) ?_ keep (λi v s' Q' hi hv sx q=>step _ i v s' Q' _ ?_ hi hv sx q) (items.size - 0) 0 _ (Nat.sub_zero _▸rfl) (aL _) ⟨hit,KM.at λo e=>av _ e⟩ (h0 _ (h00.at λo e=>av _ e) λb o e=>av _ (av _ e)) λh' tk hk sx=>?_
  ·intro hm;rcases List.mem_cons.mp hm with e|hm
   ·exact bf (bV _) e
   ·exact d8 hlS (List.mem_singleton.mp hm)
  ·show A.units+1+1+1<cLine;exact WW hu
  ·refine ai (ai ⟨rfl,h h' tk (λb o e=>hk b o (λhm=>?_) (av _ (av _ e))) sx⟩);have hb:=b0 e;rcases List.mem_cons.mp hm with e|hm
   ·exact bf hb e
   ·exact bf (cq hb) (List.mem_singleton.mp hm)
 ·rcases r₂ with e|(r|_|_|_)<;>first|exact N4|exact N4.elim|skip
  refine bh N4 λj_ hq=>?_;obtain rfl:=j_
  repeat (any_goals (first|assumption|wp_step))
end
variable {Q:Option Value->aD->Prop}
theorem x_:Slot "set_iterator" "__next__" "set_iterator.__next__":=
 .of (owner:="set_iterator") (n:="__next__") (by(refine ah _ (qP ..) ?_;refine ah _ (kZ ..) ?_);kernel_rfl) rfl (by decide+kernel) (by decide+kernel)
  (by first|exact .inl rfl|exact .inr (by decide+kernel)) (by refine ah _ (sA ..) ?_;kernel_rfl)
theorem po:Slot "set_iterator" "__iter__" "set_iterator.__iter__":=
 .of (owner:="set_iterator") (n:="__iter__") (by(refine ah _ (qP ..) ?_;refine ah _ (kZ ..) ?_);kernel_rfl) rfl (by decide+kernel) (by decide+kernel)
  (by first|exact .inl rfl|exact .inr (by decide+kernel)) (by refine ah _ (sA ..) ?_;kernel_rfl)
theorem ow:Ek table "set_iterator.__next__"=IC Builtin.«set_iterator.__next__»:=entryFor_of_tree (by kernel_rfl)
theorem pp (a:Value):argsOk "set_iterator.__next__" ⟨[a],[]⟩:=by unfold argsOk;kernel_rfl
theorem u1:Ek table "set.__iter__"=IC Builtin.«frozenset.__iter__»:=El (id':="frozenset.__iter__") (by kernel_rfl) rfl (by decide+kernel) (by kernel_rfl)
noncomputable abbrev xg (f:Value) (i:Nat) (a:Addr) (n ep:Nat):Obj:={cls:=.type "set_iterator",data:=.fields #[f,.int i 0,.ref a,.int n 0,.int ep 0]}
section
variable {prog:Program} {w:eQ} {A:du} {s:aD}
theorem pP {Q:α->aD->Prop} (hh:A.handled=ID) (h:∀h' e,(∀b o,s.heap.get? b=IC o->h'.get? b=IC o)->(∃o,h'.get? e=IC o/\o.cls=.type "StopIteration")->E (.ref e) {s with heap:=h'}):
 aC (bX prog w) A (newExc (.type "StopIteration") []>>=λe=>(raiseNew e:xU α)) Q E s:=by
 refine aa ?_;simp only[newExc,newTuple];refine aa (ce ?_ (by size_fits));refine aa (m:=s7 _ _) (lz (a:=gF) (by first|rfl|(simp only[s7];rfl)) ?_);refine ce ?_ (by size_fits);refine aa (wpAny_handled ?_);exact ah _ hh (aa (ai (wpAny_throw (h _ _ (λb o e=>av _ (av _ e)) (aN _ (aH _ rfl) rfl)))))
theorem CG {slot:Nat} {r:Option (Value×Nat)} (hh:A.handled=ID) (ho:s.heap.get? it=IC (xg (.int slot 0) i a n ep)) (hS:s.heap.get? a=IC (ou es ep t)) (hf:t.fits es.size=true) (hn:es.size=n)
 (UM:∀(R:Option (Value×Nat)->aD->Prop) (E':Value->aD->Prop),R r s->aC (bX prog w) A.in1 (setNext a slot i ep) R E' s)
 (h1:∀x next h',r=IC (x,next)->h'.get? it=IC (xg (.int next 0) (i+1) a n ep)->bN it s.heap h'->Q (IC x) {s with heap:=h'})
 (h2:∀h',r=ID->(∀b o,b≠it->s.heap.get? b=IC o->h'.get? b=IC o)->Q ID {s with heap:=h'}):aC (bX prog w) A (hH (.ref it)) Q E s:=by
 have hT:s.TypeIs (.ref it) "set_iterator":=(aN _ ho rfl);unfold hH;refine aa (li (cR (name:=am "__next__") hT x_ (cS x_ hT ow ?_ (pp _))));refine aa (ai (aa (Em ho rfl ?_)));refine aa (wpAny_setEntries_of hS rfl hf (fE (by refine ah _ hn ?_;simp) ?_));refine aa (UM _ _ ?_)
 cases r with
 |some p=>
  obtain⟨x,next⟩:=p;refine aa (f8 ho rfl (db rfl) ?_);have h3:(s.heap.update it (Bb (·.setIfInBounds 0 (em next)))).get? it=IC (xg (.int next 0) i a n ep):=bT _ ho rfl;refine aa (f8 h3 rfl (b6 [dK a,ke (↑n) 0,ke (↑ep) 0].length) (ai (aN _ rfl (ai (h1 x next _ rfl ?_ ((bJ ..).trans (.update ..)))))));exact bT _ h3 rfl
 |none=>
  refine aa (f8 ho rfl (fH rfl) ?_);refine pP hh λh' e hk f_=>aG f_ λo he hc=>aa (eU (T:="StopIteration") (b:=true) (aN o he hc) nB ?_);exact ai (h2 h' rfl λb o hb e=>hk b o (((bJ ..).2 b hb).trans e))
noncomputable abbrev Hm (ns:List Nat):Obj:={cls:=.type "tuple",dict:=ID,data:=.seq (ns.map λi:Nat=>em i).toArray 0}
theorem vM {tp:Addr} {ns:List Nat} (hh:A.handled=ID) (ho:s.heap.get? it=IC (xg (.ref tp) i a n ep)) (hS:s.heap.get? a=IC (ou es ep t)) (hp:s.heap.get? tp=IC (Hm ns)) (hf:t.fits es.size=true) (hn:es.size=n)
 (K9:∀j∈ns,j<es.size)
 (h1:∀j e h',ns[i]?=IC j->es[j]?=IC e->h'.get? it=IC (xg (.ref tp) (i+1) a n ep)->bN it s.heap h'->Q (IC e.2) {s with heap:=h'})
 (h2:∀h',ns[i]?=ID->(∀b o,b≠it->s.heap.get? b=IC o->h'.get? b=IC o)->Q ID {s with heap:=h'}):aC (bX prog w) A (hH (.ref it)) Q E s:=by
 have hT:s.TypeIs (.ref it) "set_iterator":=(aN _ ho rfl);unfold hH;refine aa (li (cR (name:=am "__next__") hT x_ (cS x_ hT ow ?_ (pp _))));refine aa (ai (aa (Em ho rfl ?_)));refine aa (wpAny_setEntries_of hS rfl hf (fE (by refine ah _ hn ?_;simp) ?_));refine aa (cm hp rfl ?_);have eg:((ns.map λi:Nat=>em i).toArray)[((i:Nat):Int).toNat]?=(ns[i]?).map λi:Nat=>em i:=by
  (refine ah _ (bG ..) ?_;refine ah _ (List.getElem?_toArray ..) ?_;refine ah _ (aK ..) rfl)
 dsimp only
 refine ah _ eg ?_
 cases hi:ns[i]? with
 |some j=>
  have hj:=bq (K9 j (an hi));show aC _ _ (setNextDrawn a ((j:Int)).toNat ((ep:Int)).toNat>>=_) _ _ s;refine aa (aa (dg hS rfl hf (fE (by simp) ?_)))
  (refine ah _ (bG ..) ?_;refine ah _ hj ?_)
  exact ai (aa (f8 ho rfl (b6 [dK a,ke (↑n) 0,ke (↑ep) 0].length) (ai (aN _ rfl (ai (h1 j _ _ hi hj (bT _ ho rfl) (.update ..)))))))
 |none=>
  refine aa (f8 ho rfl (db rfl) ?_);refine aa (f8 (bT _ ho rfl) rfl (fH rfl) ?_);refine pP hh λh' e hk k_=>aG k_ λo he hc=>aa (eU (T:="StopIteration") (b:=true) (aN o he hc) nB ?_);exact ai (h2 h' hi λb o hb e=>hk b o ((((bJ ..).trans (.update ..)).2 b hb).trans e))
theorem u2:∀(l:List α) (i:Nat) (x:α),l[i]?=IC x->(x::l.eraseIdx i).Perm l:=by
 intro l
 induction l with
 |nil=>intro i x h;exact ft h
 |cons a l ih=>
  intro i x h
  cases i with
  |zero=>cases h;exact .refl _
  |succ i=>exact(List.Perm.swap a x _).trans ((ih i x h).cons a)
theorem En (next:Nat->Nat):∀(n k:Nat) (left:List α) (out:Array α),left.length=n->(pickOrder.go next n k left out).toList.Perm (out.toList++left):=by
 intro n
 induction n with
 |zero=>intro k left out h;(refine ah _ (List.length_eq_zero_iff.mp h ..) ?_;refine ah _ (dh ..) ?_);exact .refl _
 |succ n ih=>
  intro k left out h;show(match left[next k %left.length]? with|some x=>pickOrder.go next n (k+1) (left.eraseIdx (next k %left.length)) (out.push x)|none=>out).toList.Perm _;have r_:next k %left.length<left.length:=p7 _ (fH h);refine ah _ (aJ r_ ..) ?_;refine(ih (k+1) _ _ (by refine ah _ (xJ r_ ..) ?_;exact kI (GY (id (kI h))))).trans ?_
  (refine ah _ (mx ..) ?_;refine ah _ (dv ..) ?_)
  exact .append_left _ (u2 _ _ _ (aJ r_))
theorem u3 (next:Nat->Nat) (xs:Array α):(ze next xs).toList.Perm xs.toList:=En next xs.size 0 xs.toList #[] (aF ..)
theorem Bc {src:Source} {Q:Nat->aD->Prop} (hn:0<n) (h:∀i d,i<n->Q i {s with drawn:=d}):aC (bX prog w) A (choose src n) Q E s:=λΓ p Z=>by
 show Sem.wp _ _ (.choose src n .pure) _ _ _ _;exact ah _ (Sem.wp_choose ..) (⟨d8 hn,h _ _ (p7 _ hn)⟩)
theorem Eo:∀(n:Nat) (xs:List α) (s:aD) (Q:List α->aD->Prop),xs.length=n->(∀ys d,ys.Perm xs->Q ys {s with drawn:=d})->aC (bX prog w) A (drawOrder n xs) Q E s:=by
 intro n
 induction n with
 |zero=>intro xs s Q h q;rw[List.length_eq_zero_iff.mp h]at q;exact ai (q _ s.drawn (.refl _))
 |succ n ih=>
  intro xs s Q h q
  cases xs with
  |nil=>exact Rh h
  |cons a l=>
   show aC _ _ (choose .order (a::l).length>>=_) _ _ s;refine aa (Bc (by refine ah _ h ?_;exact jP _) λi d hi=>?_);refine ah _ (aJ hi ..) ?_;exact aa (ih _ _ _ (by(refine ah _ (xJ hi ..) ?_;refine ah _ h ?_);rfl) λys d2 hp=>ai (q _ d2 ((hp.cons _).trans (u2 _ _ _ (aJ hi)))))
end
variable {a:Nat} {R:Option (Value×Nat)->aD->Prop} {Q:Value->aD->Prop}
section
variable {prog:Program} {w:eQ} {A:du} {s:aD}
def Hn (prog:Program) (w:eQ) (A:du) (lo a:Addr) (h:Heap) (I:Addr) (L:List Value):Prop:=∃fp St,Walks prog w A I fp [I] L.length (λi v=>L[i]?=IC v) St/\St 0 h/\∀b∈fp,b=a∨lo<=b
theorem u4:Ek table "set_iterator.__iter__"=IC Builtin.«dict_keyiterator.__iter__»:=El (id':="dict_keyiterator.__iter__") (by kernel_rfl) rfl (by decide+kernel) (by kernel_rfl)
theorem uZ (a:Value):argsOk "set_iterator.__iter__" ⟨[a],[]⟩:=by unfold argsOk;kernel_rfl
theorem zf {o:Obj} (ho:s.heap.get? it=IC o) (hc:o.cls=.type "set_iterator") (h:Q (.ref it) s):aC (bX prog w) A (l4 (.ref it)) Q E s:=
 xh (aN o ho hc) po (cS po (aN o ho hc) u4 (ai (aN _ rfl (eu ("set_iterator") _ (aN o ho hc) x_.lookup h))) (uZ _))
theorem Ep (hh:A.handled=ID) {it:Nat} {L:List Value} (IQ:a≠it) (hf:t.fits es.size=true) (nx:Nat->Nat->Option (Value×Nat)) (Sl:Nat->Nat->Prop)
 (XV:∀(A:du) (s:aD) i slot (R:Option (Value×Nat)->aD->Prop) (E':Value->aD->Prop),s.heap.get? a=IC (ou es ep t)->R (nx i slot) s->aC (bX prog w) A (setNext a slot i ep) R E' s)
 (h1:∀i slot,i<L.length->Sl i slot->∃x next,nx i slot=IC (x,next)/\L[i]?=IC x/\Sl (i+1) next) (h2:∀slot,Sl L.length slot->nx L.length slot=ID):
 Walks prog w A it [it,a] [it] L.length (λi v=>L[i]?=IC v) (λi h=>∃slot:Nat,h.get? it=IC (xg (.int slot 0) i a es.size ep)/\h.get? a=IC (ou es ep t)/\Sl i slot)where
 sub:=λb hb=>by refine ah _ (List.mem_singleton.mp hb ..) ?_;exact ae
 frame:=λi h h' f_ hk=>cP f_ λslot e1 e2 e3=>(bA slot (hk it ae _ e1) (hk a (ag _ (List.mem_singleton.mpr rfl)) _ e2) e3)
 item:=λi s Q E hi k_ hQ=>cP k_ λslot e1 e2 e3=>by
  refine hU (h1 i slot hi e3:_) λx next er eL e4=>?_;refine CG hh e1 e2 hf rfl (λR E' q=>XV _ s i slot R E' e2 q) (λx' next' h' e h3 sb=>?_) λh' e=>by rw[er]at e;exact v8 e
  rw[er]at e;cases e;exact hQ x h' s.toks eL (bA next h3 ((sb.2 a IQ).trans e2) e4) λb o hb e=>(sb.2 b λz=>hb (z▸ae)).trans e
 done:=λs Q E j_ hQ=>cP j_ λslot e1 e2 e3=>CG hh e1 e2 hf rfl (λR E' q=>XV _ s _ slot R E' e2 q) (λx' next' h' e=>by rw[h2 slot e3]at e;exact ft e) λh' e hk=>hQ h' s.toks λb o hb e=>hk b o (λz=>hb (z▸ae)) e
 self:=λi s Q E p_ hQ=>aG p_ λslot e1 Z=>zf e1 rfl hQ
theorem zg (hh:A.handled=ID) {it tp:Nat} {ns:List Nat} (IQ:a≠it) (RJ:tp≠it) (hf:t.fits es.size=true) (K9:ns.Perm (bl es.size)):
 Walks prog w A it [it,a,tp] [it] (ns.filterMap λj=>(es[j]?).map (·.2)).length (λi v=>(ns.filterMap λj=>(es[j]?).map (·.2))[i]?=IC v) (λi h=>h.get? it=IC (xg (.ref tp) i a es.size ep)/\h.get? a=IC (ou es ep t)/\h.get? tp=IC (Hm ns)):=by
 have r_:∀j∈ns,j<es.size:=λj hj=>List.mem_range.mp (K9.mem_iff.mp hj);have hm:(ns.filterMap λj=>(es[j]?).map (·.2))=ns.map λj=>(es.getD j (0,.none)).2:=by
  clear K9
  induction ns with
  |nil=>rfl
  |cons j ns ih=>
   have h1:=r_ j ae
   (refine ah _ (dt ..) ?_;refine ah _ (bq h1 ..) ?_;refine ah _ (e9 ..) ?_;refine ah _ (ih λk hk=>r_ k (ag _ hk) ..).symm ?_)
   simp[kb,h1]
 (refine ah _ hm ?_;refine ah _ (af ..) ?_)
 exact{
  sub:=λb hb=>by refine ah _ (List.mem_singleton.mp hb ..) ?_;exact ae
  frame:=λi h h' s_ hk=>ee s_ λe1 e2 e3=>⟨hk it ae _ e1,hk a (ag _ ae) _ e2,hk tp (ag _ (ag _ ae)) _ e3⟩
  item:=λi s Q E hi C_ hQ=>ee C_ λe1 e2 e3=>by
   refine vM hh e1 e2 e3 hf rfl r_ (λj e h' ei ej h3 sb=>?_) λh' e=>absurd e (by refine ah _ (aJ hi ..) ?_;exact v8);refine hQ e.2 h' s.toks ?_ ⟨h3,(sb.2 a IQ).trans e2,(sb.2 tp RJ).trans e3⟩ λb o hb e=>(sb.2 b λz=>hb (z▸ae)).trans e
   (refine ah _ (aK ..) ?_;refine ah _ ei ?_)
   refine bm (Array.getElem?_eq_some_iff.mp ej:_) λh4 h5=>?_;simp[kb,h4,h5]
  done:=λs Q E II hQ=>ee II λe1 e2 e3=>vM hh e1 e2 e3 hf rfl r_ (λj e h' ei=>absurd ei (by refine ah _ (fD (aq _) ..) ?_;exact ft)) λh' e hk=>hQ h' s.toks λb o hb e=>hk b o (λz=>hb (z▸ae)) e
  self:=λi s Q E IY hQ=>bh IY λe1 Z=>zf e1 rfl hQ}
theorem Ho {s:aD} {A:du} {slot:Nat} (hf:t.fits es.size=true) (hd:w.params.followText "set-order"=false->(!t.plain&&decide (es.size>1))=false) (Kj:t.led=!(w.params.followText "set-order")) (ho:s.heap.get? a=IC (ou es ep t))
 (h:R (if w.params.followText "set-order"=true then((ze (w.params.setOrder a ep) es)[i]?).map λe=>(e.2,slot)else match es[bC t.place slot]?,t.place[bC t.place slot]? with|some (_,x),IC j=>IC (x,j+1)|_,_=>ID) s):aC (bX prog w) A (setNext a slot i ep) R E s:=by
 refine aa (dg ho rfl hf (aa (aa (jf (ai ?_)))))
 cases hb:w.params.followText "set-order" with
 |true=>
  rw[hb]at h;refine n3 hb (fE (by simp) (aa (aa (dg ho rfl hf (aa (aa (jf (ai ?_))))))));exact n3 hb (aa (jf (ai (ai h))))
 |false=>
  rw[hb]at h Kj;refine fE (λz=>aA (hb.symm.trans z)) (fE (λz=>aA ((hd hb).symm.trans z)) (aa (fE (by refine ah _ Kj ?_;nofun) (ai (ai h)))))
theorem Hp {ps:List (Int×Value)} (hh:A.handled=ID) (hS:IR w s.heap S ps)
 (h:∀I L h' d,L.Perm (ps.map (·.2))->(∀b o,s.heap.get? b=IC o->h'.get? b=IC o)->s.heap.objs.size<=I->(∀A:du,A.handled=ID->Hn prog w A s.heap.objs.size S h' I L)->Q (.ref I) {s with heap:=h',drawn:=d}):aC (bX prog w) A (l4 (.ref S)) Q E s:=by
 obtain⟨es,ep,t,ho,hp,u_,ok,Kj,hm⟩:=hS;have hT:s.TypeIs (.ref S) "set":=(aN _ ho rfl);have hf:=ok.fits u_;have gs:∀{s':aD} {R:(Array (Int×Value)×Nat×j9)->aD->Prop},s'.heap.get? S=IC (ou es ep t)->R (es,ep,t) s'->aC (bX prog w) A.in1 (setState S) R E s':=λSY hR=>dg SY rfl hf hR;refine xh hT F.slot_set_iter (cS F.slot_set_iter hT u1 ?_ (F.args_set_iter_1 _));refine aa (aa (ai (ai ?_)));refine aa (aa (aa (gs ho (ai (ai ?_)))));refine aa (aa (gs ho (aa (aa (jf (ai (ai ?_)))))));have Pd:S<s.heap.objs.size:=b0 ho;have iff:(!w.params.followText "set-order"&&(!t.plain&&decide (es.size>1)))=true∨(w.params.followText "set-order"=false->(!t.plain&&decide (es.size>1))=false):=by
  cases w.params.followText "set-order"<;>cases(!t.plain&&decide (es.size>1))<;>first|exact .inl rfl|exact .inr λZ=>rfl|exact .inr SR
 rcases iff with hc|hd
 ·refine n3 hc (aa (Eo _ _ _ _ cH λns d K9=>?_));refine aa (sd ?_ (by
   have:=K9.length_eq
   (refine ah _ (af ..) ?_;refine ah _ this ?_;refine ah _ (cH ..) ?_)
   rcases hm with⟨_,h2⟩|⟨_,h2⟩<;>exact ab h2 (by decide)))
  have UK:(s.heap.push (Hm ns)).get? S=IC (ou es ep t):=av _ ho;refine aa (wpAny_setEpoch_of UK rfl hf (aa (ce (ai (aN _ rfl (eu ("set_iterator") _ (aN _ (aH _ rfl) rfl) x_.lookup ?_))))));have hI:(s.heap.push (Hm ns)).objs.size=s.heap.objs.size+1:=bz ..;refine h _ (ns.filterMap λj=>(es[j]?).map (·.2)) _ d ?_ (λb o e=>av _ (av _ e)) (by refine ah _ hI ?_;exact cL _) λA' UY=>(eu _ _ (zg UY (ep:=ep) (it:=(s.heap.push (Hm ns)).objs.size) (a:=S) (tp:=s.heap.objs.size) (by refine ah _ hI ?_;exact bf (cq Pd)) (by refine ah _ hI ?_;exact bf (bV _)) hf K9) ⟨aH _ rfl,av _ UK,av _ (aH _ rfl)⟩ (λb hb=>?_))
  ·refine(K9.filterMap _).trans ?_;have e:=(Hh es);refine List.Perm.trans (.of_eq ?_) ((List.Perm.of_eq (congrArg (List.map (·.2)) e)).trans (hp.map _));exact kI rP
  ·rcases List.mem_cons.mp hb with e|hb
   ·(refine ah _ e ?_;refine ah _ hI ?_);exact .inr (cL _)
   ·rcases List.mem_cons.mp hb with e|hb
    ·exact .inl e
    ·exact .inr (bd (List.mem_singleton.mp hb).symm)
 ·refine fE (λhc=>?_) (aa (ai ?_))
  ·have hc:(!w.params.followText "set-order"&&(!t.plain&&decide (es.size>1)))=true:=hc;rw[eM]at hc;rw[hd (by simpa using hc.1)]at hc;exact aA hc.2
  refine aa (wpAny_setEpoch_of ho rfl hf (aa (ce (ai (aN _ rfl (eu ("set_iterator") _ (aN _ (aH _ rfl) rfl) x_.lookup ?_))))));have hk:∀b o,s.heap.get? b=IC o->(s.heap.push (xg (.int ((0:Nat):Int) 0) 0 S es.size ep)).get? b=IC o:=λb o e=>av _ e;have N9:∀b∈[s.heap.objs.size,S],b=S∨s.heap.objs.size<=b:=λb hb=>(List.mem_cons.mp hb).elim (λe=>.inr (bd e.symm)) λhb=>.inl (List.mem_singleton.mp hb);have fin:∀L:List Value,L.Perm (ps.map (·.2))->∀(nx:Nat->Nat->Option (Value×Nat)) (Sl:Nat->Nat->Prop),Sl 0 0->(∀i slot,nx i slot=if w.params.followText "set-order"=true then((ze (w.params.setOrder S ep) es)[i]?).map λe=>(e.2,slot)else match es[bC t.place slot]?,t.place[bC t.place slot]? with|some (_,x),IC j=>IC (x,j+1)|_,_=>ID)->
   (∀i slot,i<L.length->Sl i slot->∃x next,nx i slot=IC (x,next)/\L[i]?=IC x/\Sl (i+1) next)->(∀slot,Sl L.length slot->nx L.length slot=ID)->Q (.ref s.heap.objs.size) {s with heap:=s.heap.push (xg (.int ((0:Nat):Int) 0) 0 S es.size ep)}:=λL hL nx Sl h0 XV h1 h2=>
   h _ L _ s.drawn hL hk (aq _) λA' UY=>(eu _ _ (Ep UY (bf Pd) hf nx Sl (λA s' i slot R E' SY hR=>Ho hf hd Kj SY (XV i slot▸hR)) h1 h2) (bA 0 (aH _ rfl) (hk _ _ ho) h0) N9)
  cases hb:w.params.followText "set-order" with
  |true=>
   refine fin ((ze (w.params.setOrder S ep) es).toList.map (·.2)) (((u3 _ _).trans hp).map _) (λi slot=>((ze (w.params.setOrder S ep) es)[i]?).map λe=>(e.2,slot)) (λZ Z=>True) trivial (λi slot=>by refine ah _ hb ?_;rfl) (λi slot hi Z=>?_) λslot Z=>?_
   ·rw[af,aF]at hi;refine(eu _ slot (by refine ah _ (bq hi ..) ?_;rfl) ?_ trivial)
    (refine ah _ (aK ..) ?_;refine ah _ (bH ..) ?_;refine ah _ (bq hi ..) ?_);rfl
   ·(refine ah _ (af ..) ?_;refine ah _ (aF ..) ?_;refine ah _ (gL (aq _) ..) ?_);rfl
  |false=>
   refine fin (es.toList.map (·.2)) (hp.map _) (λi slot=>match es[bC t.place slot]?,t.place[bC t.place slot]? with|some (_,x),IC j=>IC (x,j+1)|_,_=>ID) (λi slot=>bC t.place slot=i) (B4 ok.rise) (λi slot=>by refine ah _ hb ?_;rfl) (λi slot hi e=>?_) λslot e=>?_
   ·rw[af,aF]at hi;have hj:t.place[i]?=IC (t.place[i]'(u_▸hi)):=bq (u_▸hi);refine(eu (es[i].2) (t.place[i]'(u_▸hi)+1) ?_ ?_ (B3 ok.rise hj))
    ·(refine ah _ e ?_;refine ah _ hj ?_;refine ah _ (bq hi ..) rfl)
    ·(refine ah _ (aK ..) ?_;refine ah _ (bH ..) ?_;refine ah _ (bq hi ..) ?_);rfl
   ·rw[af,aF]at e
    (refine ah _ e ?_;refine ah _ (gL (aq _) ..) rfl)
end
variable {a:Addr} {Q:Bool->aD->Prop}
section
variable {prog:Program} {w:eQ} {A:du} {s:aD} {E:Value->aD->Prop}
theorem Hq (hT:s.TypeIs (.ref a) "set") (h:Q false s):aC (bX prog w) A (jT (.ref a)) Q E s:=by
 show aC _ A (specialOf (.ref a) "__len__">>=_) Q E s;refine aa (qJ hT F.slot_set_len.lookup ?_);generalize MG:splitId "set.__len__"=sp;cases(show sp=IC ("set","__len__")from MG.symm.trans (by decide+kernel));refine aa (eU hT sub_set_self (fE aA ?_));exact iw (λZ=>aa (il hT (ai h))) λhc=>absurd (by decide+kernel) hc
theorem Er (hT:s.TypeIs (.ref a) "dict") (h:Q false s):aC (bX prog w) A (jT (.ref a)) Q E s:=by
 show aC _ A (specialOf (.ref a) "__len__">>=_) Q E s;refine aa (qJ hT F.slot_dict_len.lookup ?_);generalize MG:splitId "dict.__len__"=sp;cases(show sp=IC ("dict","__len__")from MG.symm.trans (by decide+kernel));refine aa (eU hT F.kt_sub_dict (fE aA ?_));exact iw (λZ=>aa (il hT (ai h))) λhc=>absurd (by decide+kernel) hc
structure w_ (prog:Program) (w:eQ) (h:Heap) (a:Addr) (L0:List Value):Prop where
 T:∃T,(∃o,h.get? a=IC o/\o.cls=.type T)/\(gH T==gH "list")=false/\(gH T==gH "tuple")=false/\∀(A:du) (s:aD) (E:Value->aD->Prop) (Q:Bool->aD->Prop),s.TypeIs (.ref a) T->Q false s->aC (bX prog w) A (jT (.ref a)) Q E s
 iter:∀(A:du) (s:aD) (E:Value->aD->Prop) (Q:Value->aD->Prop),A.handled=ID->(∀o,h.get? a=IC o->s.heap.get? a=IC o)->
  (∀I L h' d,L.Perm L0->(∀b o,s.heap.get? b=IC o->h'.get? b=IC o)->s.heap.objs.size<=I->(∀A:du,A.handled=ID->Hn prog w A s.heap.objs.size a h' I L)->Q (.ref I) {s with heap:=h',drawn:=d})->aC (bX prog w) A (l4 (.ref a)) Q E s
theorem Es {L:List Value} {acc:Array Value} (h:ItemsOf (λi v=>L[i]?=IC v) acc L.length):acc=L.toArray:=by
 apply Array.toList_inj.mp;show acc.toList=L;apply jI;intro i;refine ah _ (bH ..) ?_;by_cases hi:i<L.length
 ·have e:=bq (xs:=acc) (h.1.symm▸hi:i<acc.size);exact e.trans (h.2 i _ e).symm
 ·rw[fD (c7 hi),gL (by refine ah _ (h.1 ..) ?_;exact c7 hi)]
theorem sB {L0:List Value} {Q:List Value->aD->Prop} (hh:A.handled=ID) (hT:w_ prog w s.heap a L0) (u_:L0.length<=sizeLine)
 (h:∀L h' tk d,L.Perm L0->(∀b o,s.heap.get? b=IC o->h'.get? b=IC o)->Q L {s with heap:=h',toks:=tk,drawn:=d}):aC (bX prog w) A (collect (.ref a)) Q E s:=by
 refine lO hT.T λT hc n1 n2 hint=>?_;show aC _ _ (runValue (.builtin "proto.collect" ⟨[.ref a],[]⟩)>>=_) Q E s;refine aa (aM (E:=E) (Q:=λv s'=>∃(L':List Value) (h2:Heap) (tk:Nat) (d:Drawn),L'.Perm L0/\v=.ref s.heap.objs.size/\s'={s with heap:=h2,toks:=tk,drawn:=d}/\(∀b o,s.heap.get? b=IC o->h2.get? b=IC o)/\∃c2,h2.get? s.heap.objs.size=IC (dM "list" L'.toArray c2)) ?_ (λv s' hz=>?_) λZ Z e=>e)
 case refine_2=>
  refine QB hz λL' h2 tk d hL' f_ k_ IZ j_=>?_;obtain rfl:=f_;obtain rfl:=k_;refine bm j_ λc2 hS2=>?_;exact aa (wpAny_load hS2 (ai (h L' h2 tk d hL' IZ)))
 refine wpAny_runValue (dR entry_proto_collect' ?_);show aC _ _ (do again (.builtin "list.__iadd__" ⟨[←newList [],.ref a],[]⟩)) _ _ s;refine aa (uu (ai ⟨Code.quiet_builtin _ (by decide+kernel),dR entry_list_iadd' ?_⟩));show aC _ _ (gB (.ref s.heap.objs.size) (.ref a) (.ref s.heap.objs.size)) _ _ {s with heap:=s.heap.push (dM "list" #[] 0)};have k1:∀b o,s.heap.get? b=IC o->(s.heap.push (dM "list" #[] 0)).get? b=IC o:=λb o e=>av _ e;have hS:(s.heap.push (dM "list" #[] 0)).get? s.heap.objs.size=IC (dM "list" #[] 0):=aH _ rfl;refine aG hc λo ho Lv=>?_;have halt:a<s.heap.objs.size:=b0 ho;refine aa (il (aN o (k1 _ _ ho) Lv) (fE ?_ ?_))
 ·(refine ah _ (n1 ..) ?_;refine ah _ (n2 ..) ?_)
  have:(s.heap.objs.size==a)=false:=beq_eq_false_iff_ne.mpr (d8 halt);show¬(((s.heap.objs.size==a)||false||false)=true);refine ah _ this ?_;exact aA
 refine aa (hT.iter _ _ _ _ hh (k1 a) λI L h' d hL k2 hI hg=>?_);refine hU (hg A.in1 hh:_) λfp St W TW N9=>?_;rw[show(s.heap.push (dM "list" #[] 0)).objs.size=s.heap.objs.size+1 from bz ..]at hI N9;have Y9:s.heap.objs.size∉fp:=λhm=>(N9 _ hm).elim (λe=>d8 halt e) λe=>absurd e (Nat.not_succ_le_self _);have Qa:s.heap.objs.size≠I:=bf hI;have key:∀(h1:Heap) (c1:Nat),St 0 h1->(∀b o,b≠s.heap.objs.size->h'.get? b=IC o->h1.get? b=IC o)->h1.get? s.heap.objs.size=IC (dM "list" #[] c1)->
  eY (bX prog w) A (.builtin "list.extend.loop" ⟨[.ref s.heap.objs.size,.ref I,.ref s.heap.objs.size],[]⟩) (wants (λv s'=>∃(L':List Value) (h2:Heap) (tk:Nat) (d:Drawn),L'.Perm L0/\v=.ref s.heap.objs.size/\s'={s with heap:=h2,toks:=tk,drawn:=d}/\(∀b o,s.heap.get? b=IC o->h2.get? b=IC o)/\∃c2,h2.get? s.heap.objs.size=IC (dM "list" L'.toArray c2)) E) {s with heap:=h1,drawn:=d}:=λh1 c1 st hk hS1=>by
  refine codeAny_extend_loopS W.toS (by refine ah _ (hL.length_eq ..) ?_;exact u_) _ Y9 _ L.length 0 {s with heap:=h1,drawn:=d} #[] c1 rfl (aL _) st hS1 ⟨rfl,λj v hj=>by simp at hj⟩ λs' acc c2 hm hS2 KO=>?_;refine ah _ (Moved.eq_with hm ..) ?_;have:=Es KO;subst this;refine(NW L s'.heap s'.toks d hL rfl rfl (λb o e=>?_) (A9 c2 hS2));have hb:=b0 e;refine hm.heap b o (λJl=>?_) (hk b o (bf hb) (k2 b o (k1 b o e)));rcases List.mem_cons.mp Jl with e|Jl
  ·exact bf hb e
  ·exact bf (cy hb (aP (bV _) hI)) (List.mem_singleton.mp Jl)
 have T':Shared.TypeIs {s with heap:=h',drawn:=d} (.ref a) T:=(aN o (k2 _ _ (k1 _ _ ho)) Lv);refine aa (aV (hint _ _ _ _ T' ?_));refine iw (λZ=>?_) λZ=>ai ⟨eD lM _,key h' 0 TW (λZ Z Z e=>e) (k2 _ _ hS)⟩;refine aa (nz (aa ?_));show aC _ _ (sO s.heap.objs.size (·.push .none)>>=λZ=>sO s.heap.objs.size (·.pop)) _ _ _;refine aa (iz (hz:=aL _) (k2 _ _ hS) rfl ?_);have LH:=bT (dw (·.push gF)) (k2 _ _ hS) rfl;refine iz (hz:=na (by decide)) LH rfl (ai ⟨eD lM _,key _ _ (W.frame 0 _ _ TW λb hb o e=>?_) (λb o hb e=>?_) (bT (dw (·.pop)) LH rfl)⟩)
 ·exact(((bJ ..).trans (.update ..)).2 b λz:b=s.heap.objs.size=>Y9 (z▸hb)).trans e
 ·exact(((bJ ..).trans (.update ..)).2 b hb).trans e
end
variable {G:Array Nat->aD->Prop} {p q:Nat->Bool} {I:aD->Prop}
structure xj (lt:Nat->Nat->Bool) (n:Nat):Prop where
 irrefl:∀i,i<n->lt i i=false
 trans:∀i j k,i<n->j<n->k<n->lt i j=true->lt j k=true->lt i k=true
 total:∀i j,i<n->j<n->i≠j->lt i j=false->lt j i=true
noncomputable def Hr (lt:Nat->Nat->Bool) (p:List Nat):Bool:=match p with
 |[]=>true
 |a::r=>(r.all λb=>lt a b)&&Hr lt r
noncomputable def PU (r:List Nat) (i j:Nat):Bool:=Nat.blt (r.getD i 0) (r.getD j 0)
noncomputable def XK (n:Nat):KasT (Array Nat)->List (List Nat)->Bool
 |.ret p,cs=>cs.all λr=>p.toList.isPerm (bl n)&&Hr (PU r) p.toList
 |.ask i j k,cs=>cs.isEmpty||((Nat.blt i n&&(Nat.blt j n&&!dp i j))&&(XK n (k true) (cs.filter λr=>PU r i j)&&XK n (k false) (cs.filter λr=>!PU r i j)))
noncomputable def CH:Nat->List Nat->List (List Nat)
 |0,_=>[[]]
 |k+1,cs=>cs.flatMap λx=>(CH k (cs.erase x)).map (x::·)
theorem Et:∀(k:Nat) (cs l:List Nat),l.length=k->l.Nodup->(∀x∈l,x∈cs)->l∈CH k cs:=by
 intro k
 induction k with
 |zero=>intro cs l hl _ _;refine ah _ (List.length_eq_zero_iff.mp hl ..) ?_;exact List.mem_singleton.mpr rfl
 |succ k ih=>
  intro cs l hl nd hm
  cases l with
  |nil=>exact Rh hl
  |cons x l=>
   have Uc:=List.nodup_cons.mp nd;refine List.mem_flatMap.mpr (aN x (hm x ae) (aO (ih _ l (xD hl) Uc.2 λy hy=>(List.mem_erase_of_ne λe:y=x=>Uc.1 (e▸hy)).mpr (hm y (ag _ hy)))))
noncomputable def rn (n:Nat):Bool:=XK n (kas_sort n) (CH n (bl n))
theorem zh:rn 2=true/\rn 3=true/\rn 4=true/\rn 5=true/\rn 6=true:=by decide+kernel
theorem vN:∀(l:List Nat),(∀k∈l,p k=true->q k=true)->(∃i∈l,p i=false/\q i=true)->l.countP p<l.countP q:=by
 intro l
 induction l with
 |nil=>intro _ h;refine aG h λi h Z=>?_;exact de h
 |cons a l ih=>
  intro h hx;have h':=λk hk=>h k (ag _ hk);have le:=List.countP_mono_left h'
  (refine ah _ (List.countP_cons ..) ?_;refine ah _ (List.countP_cons ..) ?_)
  refine cP hx λi hi e1 e2=>?_;rcases List.mem_cons.mp hi with rfl|hi
  ·(refine ah _ e1 ?_;refine ah _ e2 ?_);exact d9 le
  ·have:=ih h' (bA i hi e1 e2)
   cases hp:p a with
   |true=>refine ah _ (h a ae hp ..) ?_;exact uB this
   |false=>exact aP this (b5 _ _)
noncomputable def qA (lt:Nat->Nat->Bool) (n i:Nat):Nat:=(bl n).countP λk=>lt k i
theorem sV {lt:Nat->Nat->Bool} (O:xj lt n) (hi:i<n) (hj:j<n) (h:lt i j=true):qA lt n i<qA lt n j:=
 vN _ (λk hk hki=>O.trans k i j (List.mem_range.mp hk) hi hj hki h) (bA i (List.mem_range.mpr hi) (O.irrefl i hi) h)
theorem U3 {lt:Nat->Nat->Bool} (O:xj lt n):∃r∈CH n (bl n),∀i j,i<n->j<n->i≠j->lt i j=PU r i j:=by
 have inj:∀i j,i<n->j<n->i≠j->qA lt n i≠qA lt n j:=λi j hi hj IQ e=>by
  cases hc:lt i j with
  |true=>exact absurd (sV O hi hj hc) (by refine ah _ e ?_;exact b7 _)
  |false=>exact absurd (sV O hj hi (O.total i j hi hj IQ hc)) (by refine ah _ e ?_;exact b7 _)
 refine(aN ((bl n).map (qA lt n)) (Et _ _ _ (by(refine ah _ (af ..) ?_;refine ah _ (cH ..) rfl)) ?_ (λx hx=>?_)) (λi j hi hj IQ=>?_))
 ·rw[List.nodup_iff_pairwise_ne,sG];exact sC (λ{a b} ha hb Mz=>inj a b (List.mem_range.mp ha) (List.mem_range.mp hb) (bf Mz)) oN
 ·refine ig x (List.mem_map.mp hx:_) λi hi=>?_;have:=vN (p:=λk=>lt k i) (q:=λZ=>true) (bl n) (λZ Z Z=>rfl) (bA i hi (O.irrefl i (List.mem_range.mp hi)) rfl);rw[show(bl n).countP (λZ=>true)=n by simp]at this;exact List.mem_range.mpr this
 ·have g:∀k,k<n->((bl n).map (qA lt n)).getD k 0=qA lt n k:=λk hk=>by
   (refine ah _ (bk ..) ?_;refine ah _ (aK ..) ?_;refine ah _ (l8 hk ..) ?_);rfl
  unfold PU
  (refine ah _ (g i hi ..) ?_;refine ah _ (g j hj ..) ?_)
  cases hc:lt i j with
  |true=>exact(Nat.blt_eq.mpr (sV O hi hj hc)).symm
  |false=>
   have:=sV O hj hi (O.total i j hi hj IQ hc);cases hb:Nat.blt (qA lt n i) (qA lt n j)with
   |false=>rfl
   |true=>exact absurd (Nat.blt_eq.mp hb) (Nat.lt_asymm this)
theorem Hs {lt:Nat->Nat->Bool} {cmp:Nat->Nat->(Bool->aD->Prop)->aD->Prop} {r:List Nat} (hr:∀i j,i<n->j<n->i≠j->lt i j=PU r i j) (Nf:∀i j C s,i<n->j<n->i≠j->I s->(∀s',I s'->C (lt i j) s')->cmp i j C s)
 (hG:∀p s,p.toList.Perm (bl n)->Hr (PU r) p.toList=true->I s->G p s):∀(t:KasT (Array Nat)) (cs:List (List Nat)) (s:aD),XK n t cs=true->r∈cs->I s->t.kasWp cmp G s
 |.ret p,cs,s,h,hm,hI=>by
  have:=Bool.and_eq_true_iff.mp (List.all_eq_true.mp h r hm);exact hG p s (List.isPerm_iff.mp this.1) this.2 hI
 |.ask i j k,cs,s,h,hm,hI=>by
  rcases Bool.or_eq_true_iff.mp h with h|h
  ·rw[List.isEmpty_iff.mp h]at hm;exact de hm
  ·have h1:=Bool.and_eq_true_iff.mp (Bool.and_eq_true_iff.mp h).1;have h2:=Bool.and_eq_true_iff.mp h1.2;have h3:=Bool.and_eq_true_iff.mp (Bool.and_eq_true_iff.mp h).2;have Q6:i≠j:=λe=>by rw[e,DE]at h2;exact fP h2.2
   have hi:=Nat.blt_eq.mp h1.1;have hj:=Nat.blt_eq.mp h2.1;refine Nf i j _ s hi hj Q6 hI λs' hI'=>ah _ (hr i j hi hj Q6 ..) ?_
   cases hc:PU r i j with
   |true=>exact Hs hr Nf hG (k true) _ s' h3.1 (List.mem_filter.mpr ⟨hm,hc⟩) hI'
   |false=>exact Hs hr Nf hG (k false) _ s' h3.2 (List.mem_filter.mpr ⟨hm,by refine ah _ hc ?_;rfl⟩) hI'
theorem Of {lt:Nat->Nat->Bool} (O:xj lt n) (h2:2<=n) (h6:n<=6) {cmp:Nat->Nat->(Bool->aD->Prop)->aD->Prop} (Nf:∀i j C s,i<n->j<n->i≠j->I s->(∀s',I s'->C (lt i j) s')->cmp i j C s)
 (hG:∀p s,p.toList.Perm (bl n)->p.toList.Pairwise (λi j=>lt i j=true)->I s->G p s) {s:aD} (hI:I s):(kas_sort n).kasWp cmp G s:=by
 refine aG (U3 O:_) λr hm hr=>?_;have hB:rn n=true:=by
  rcases(by exact Xi h2 h6:n=2∨n=3∨n=4∨n=5∨n=6)with rfl|rfl|rfl|rfl|rfl
  ·exact zh.1
  ·exact zh.2.1
  ·exact zh.2.2.1
  ·exact zh.2.2.2.1
  ·exact zh.2.2.2.2
 refine Hs hr Nf (λp s hp hs hI=>hG p s hp ?_ hI) _ _ s hB hm hI;have nd:p.toList.Nodup:=hp.nodup_iff.mpr List.nodup_range;have r_:∀x∈p.toList,x<n:=λx hx=>List.mem_range.mp (hp.mem_iff.mp hx);generalize p.toList=l at hs nd r_;clear hp
 induction l with
 |nil=>exact .nil
 |cons a l ih=>
  have h1:=Bool.and_eq_true_iff.mp hs;have Uc:=List.nodup_cons.mp nd;refine .cons (λb hb=>?_) (ih h1.2 Uc.2 λx hx=>r_ x (ag _ hx));exact ah _ (hr a b (r_ a ae) (r_ b (ag _ hb)) λe=>Uc.1 (e▸hb) ..) (List.all_eq_true.mp h1.1 b hb)
variable {b:Bool} {a:gM}
noncomputable def Ny:gM->gM->Bool
 |.inl i,.inl j=>decide (i<j)
 |.inr x,.inr y=>decide (x.cps.toList<y.cps.toList)
 |_,_=>false
noncomputable def pW:List gM->List gM->Bool
 |[],_=>false
 |_::_,[]=>false
 |a::as,b::bs=>if a=b then pW as bs else Ny a b
theorem Ht {b:gM} {as bs:List gM}:pW (a::as) (b::bs)=if a=b then pW as bs else Ny a b:=rfl
noncomputable def CI (k:List gM):List Bool:=k.map Sum.isLeft
theorem Od (h:x.cps.toList=y.cps.toList):x=y:=by
 cases x;cases y;exact congrArg Str.mk (Array.toList_inj.mp h)
theorem Bd (a:gM):Ny a a=false:=by
 cases a
 ·exact decide_eq_false (ec _)
 ·exact decide_eq_false (List.lt_irrefl _)
theorem Eu {b c:gM} (h1:Ny a b=true) (h2:Ny b c=true):Ny a c=true:=by
 cases a<;>cases b<;>cases c<;>first|exact fP h1;done|exact fP h2;done|skip
 ·exact decide_eq_true (cN (of_decide_eq_true h1) (of_decide_eq_true h2))
 ·exact decide_eq_true (List.lt_trans (of_decide_eq_true h1) (of_decide_eq_true h2))
set_option tactic.hygienic true in
theorem Ew {b:gM} (hs:a.isLeft=b.isLeft) (IQ:a≠b) (h:Ny a b=false):Ny b a=true:=by
 cases a<;>cases b<;>first|cases hs;done|skip
 ·rename_i i j
  have h:=of_decide_eq_false h;have IQ:i≠j:=λe=>IQ (congrArg _ e);exact decide_eq_true (aa5 h IQ)
 ·rename_i x y
  have h:=of_decide_eq_false h;apply decide_eq_true;apply dj;intro h2;exact IQ (congrArg _ (Od (List.le_antisymm (List.not_lt.mp h2) (List.not_lt.mp h))))
theorem kS:∀a:List gM,pW a a=false
 |[]=>rfl
 |a::as=>(if_pos rfl).trans (kS as)
theorem ro:∀{a b c:List gM},pW a b=true->pW b c=true->pW a c=true:=by
 intro a
 induction a with
 |nil=>intro b c h;exact fP h
 |cons a as ih=>
  intro b c h1 h2
  cases b with
  |nil=>exact fP h1
  |cons b bs=>
   cases c with
   |nil=>exact fP h2
   |cons c cs=>
    rw[Ht]at h1 h2⊢;by_cases e1:a=b
    ·subst e1;rw[if_pos rfl]at h1;by_cases e2:a=c
     ·rw[if_pos e2]at h2⊢;exact ih h1 h2
     ·rw[if_neg e2]at h2⊢;exact h2
    ·rw[if_neg e1]at h1;by_cases e2:b=c
     ·subst e2;refine ah _ (if_neg e1 ..) ?_;exact h1
     ·rw[if_neg e2]at h2;have h3:=Eu h1 h2;by_cases e3:a=c
      ·subst e3;rw[Bd]at h3;exact fP h3
      ·refine ah _ (if_neg e3 ..) ?_;exact h3
theorem Ey:∀{a b:List gM},CI a=CI b->a≠b->pW a b=false->pW b a=true:=by
 intro a
 induction a with
 |nil=>intro b hs IQ h;cases b with
  |nil=>exact absurd rfl IQ
  |cons=>exact Zb hs
 |cons a as ih=>
  intro b hs IQ h
  cases b with
  |nil=>exact Rg hs
  |cons b bs=>
   have K0:=cD (show a.isLeft::CI as=b.isLeft::CI bs from hs);rw[Ht]at h⊢;by_cases e:a=b
   ·subst e;rw[if_pos rfl]at h⊢;exact ih K0.2 (λz=>IQ (congrArg _ z)) h
   ·rw[if_neg e]at h;exact ah _ (if_neg λz=>e z.symm ..) (Ew K0.1 e h)
section
variable {prog:Program} {w:eQ} {A:du} {E:Value->aD->Prop} {s:aD}
theorem Rd {x y:gM} {u:Value} (hs:x.isLeft=y.isLeft) (hx:vI x u=true) (hy:vI y v=true) (h:Q (Ny x y) s):aC (bX prog w) A (oneLt' b u v) Q E s:=by
 rcases io hx with⟨i,t,rfl,rfl⟩|⟨x,t,rfl,rfl⟩<;>rcases io hy with⟨j,t',rfl,rfl⟩|⟨y,t',rfl,rfl⟩<;>first|cases hs;done|skip
 ·cases b with
  |true=>
   exact oneLt_int h
  |false=>exact kat_one _ _ (w7 h)
 ·cases b with
  |true=>exact oneLt_str h
  |false=>exact kat_one _ _ (lt_str h)
theorem lex_lt {fin:Bool} (hf:fin=false):∀{x y:List gM} {us vs:List Value} {i:Nat},ItemsAre (eP prog w) x us->ItemsAre (eP prog w) y vs->CI x=CI y->Q (pW x y) s->KatLex prog w A b fin Q (us.zip vs) i s:=by
 intro x y us vs i hx
 induction hx generalizing y vs i with
 |nil=>intro hy hs h;exact(hf▸h:Q fin s)
 |@cons k u ks us h1 hx ih=>
  intro hy hs h
  cases hy with
  |nil=>exact Rg hs
  |@cons k' v Mt vs h2 hy=>
   have K0:=cD (show k.isLeft::CI ks=k'.isLeft::CI Mt from hs);refine kat_cons (He h1 h2 ?_);rw[Ht]at h;by_cases e:k=k'
   ·rw[if_pos e]at h;exact ah _ (decide_eq_true e ..) (kat_yes (ih hy K0.2 h))
   ·rw[if_neg e]at h;exact ah _ (decide_eq_false e ..) (kat_no (Rd K0.1 h1 h2 h))
theorem Rz {x y:List gM} {a c:Addr} (hx:eW (eP prog w) s.heap x a) (hy:eW (eP prog w) s.heap y c) (hs:CI x=CI y) (h:Q (pW x y) s):aC (bX prog w) A (keyLt' (tuples' b) (.ref a) (.ref c)) Q E s:=by
 refine qR hx λox xs n UG Z dx ix=>qR hy λoy ys k hoy Z dy iy=>?_;have hl:xs.size=ys.size:=((aF (xs:=xs)).symm.trans ix.length.symm).trans (((af Sum.isLeft).symm.trans ((congrArg mL hs).trans (af Sum.isLeft))).trans (iy.length.trans aF));exact kat_lt UG dx hoy dy (lex_lt (decide_eq_false (by refine ah _ hl ?_;exact b7 _)) ix iy hs h)
def rp (prog:Program) (w:eQ) (h:Heap) (L:List (List gM×Addr)):Prop:=∀x∈L,eW (eP prog w) h x.1 x.2
noncomputable abbrev cK (L:List (List gM×Addr)):List Value:=L.map λx=>.ref x.2
theorem Ez {L:List (List gM×Addr)} {Q:SortKind->aD->Prop} {i0:Bool} (hk:rp prog w s.heap L) (IQ:0<L.length) (hi:∀x∈L,∃i ks,x.1=.inl i::ks) (h:Q (tuples' true) s):aC (bX prog w) A (keyKind' (cK L).toArray) Q E s:=by
 have:∃fs:List Value,KatTups s.heap (cK L) fs/\fs.length=L.length/\∀v∈fs,∃i t,v=.int i t:=by
  clear IQ
  induction L with
  |nil=>exact(bA ([]) .nil rfl (λ_=>de))
  |cons x L ih=>
   refine cP (ih (λy hy=>hk y (ag _ hy)) λy hy=>hi y (ag _ hy):_) λfs h1 h2 h3=>qR (hk x ae:_) λo xs n ho hc hd hx=>lP (hi x ae:_) λi ks e=>?_;rw[e]at hx;generalize Nz:xs.toList=l at hx
   cases hx with
   |@cons _ v _ vs hv hx=>
    refine bm (Value.isInt_shape hv:_) λt f_=>?_;obtain rfl:=f_;refine(bA (.int i t::fs) (.cons ho hc hd ?_ h1) (congrArg (·+1) h2) (λv hv=>(List.mem_cons.mp hv).elim (λe=>(cY i t e)) (h3 v)))
    (refine ah _ (bH ..).symm ?_;refine ah _ Nz ?_);rfl
 refine cP this λfs h1 h2 h3=>?_;exact kat_kind (T:=.type "int") h1 (h2▸IQ) (λv hv=>by refine rX v (h3 v hv:_) λi t=>?_;exact .now) rfl h
end
variable {L:List (List gM×Addr)} {P:tg->aD->Prop}
section
variable {prog:Program} {w:eQ} {A:du} {E:Value->aD->Prop} {s:aD}
structure Kr (L:List (List gM×Addr)):Prop where
 nd:(L.map (·.1)).Nodup
 H_:L.length<=6
 shape:∃i,∀x∈L,CI x.1=true::i
theorem Kr.perm {L':List (List gM×Addr)} (h:Kr L) (p:L'.Perm L):Kr L':=
 ⟨(p.map _).nodup_iff.mpr h.nd,p.length_eq▸h.H_,h.shape.imp λi hi x hx=>hi x (p.mem_iff.mp hx)⟩
theorem RA {k:List gM} {i:List Bool} (h:CI k=true::i):∃j ks,k=.inl j::ks:=by
 cases k with
 |nil=>exact Zb h
 |cons a k=>cases a with
  |inl j=>exact(cY j k rfl)
  |inr x=>cases h
theorem Hu (hi:i<L.length):∃x∈L,L.getD i ([],0)=x/\(cK L).getD i .none=.ref x.2/\L[i]?=IC x:=by
 refine(qS (L[i]) (nK hi) ?_ ?_ (aJ hi))
 ·(refine ah _ (bk ..) ?_;refine ah _ (aJ hi ..) ?_);rfl
 ·(refine ah _ (bk ..) ?_;refine ah _ (aK ..) ?_;refine ah _ (aJ hi ..) ?_);rfl
theorem EA (K:Kr L):xj (λi j=>pW (L.getD i ([],0)).1 (L.getD j ([],0)).1) L.length where
 irrefl:=λi Z=>kS _
 trans:=λi j k Z Z Z h1 h2=>ro h1 h2
 total:=λi j hi hj IQ h=>by
  refine lO (Hu hi:_) λx hx e1 Z g1=>lO (Hu hj:_) λy hy e2 Z g2=>bm K.shape λσ hσ=>?_;rw[e1,e2]at h⊢;refine Ey ((hσ x hx).trans (hσ y hy).symm) (λe=>IQ ?_) h;have h1:(L.map (·.1))[i]?=IC x.1:=by(refine ah _ (aK ..) ?_;refine ah _ (g1 ..) ?_);rfl
  have h2:(L.map (·.1))[j]?=IC y.1:=by(refine ah _ (aK ..) ?_;refine ah _ (g2 ..) ?_);rfl
  rw[←e]at h2;exact(List.getElem?_inj (c8 h1) K.nd).mp (h1.trans h2.symm)
theorem u5 (L:List α) (d:α):(bl L.length).map (λi=>L.getD i d)=L:=by
 apply jI;intro i;refine ah _ (aK ..) ?_;by_cases h:i<L.length
 ·(refine ah _ (l8 h ..) ?_;refine ah _ (aJ h ..) ?_);show IC (L.getD i d)=_;(refine ah _ (bk ..) ?_;refine ah _ (aJ h ..) ?_);rfl
 ·rw[fD (by refine ah _ (cH ..) ?_;exact c7 h),fD (c7 h)];rfl
theorem v3 {a:Addr} (ho:s.heap.get? a=IC (dM "list" (cK L).toArray n)) (hk:rp prog w s.heap L) (K:Kr L)
 (h:∀L':List (List gM×Addr),L'.Perm L->L'.Pairwise (λx y=>pW x.1 y.1=true)->P (.done (.ret .none)) {s with heap:=sortedHeap s.heap a (cK L) (cK L').toArray}):aC (bX prog w) A (Builtin.«list.sort» ⟨[.ref a],[]⟩) P E s:=by
 refine ah _ (list_sort_plain ..) ?_;have ha:a<s.heap.objs.size:=b0 ho;have hl:(cK L).length=L.length:=af ..;have SZ:(cK L).toArray.size=L.length:=by assumption
 have Vh:L.length<=sizeLine:=ab K.H_ (ba rfl);refine aa (listItems_at ho rfl (aa (listUpdate_at ho rfl ?_ (by refine ah _ SZ ?_;exact Vh) (aL _))));obtain⟨e1,UK⟩:∃e1,(s.heap.update a (dw λZ=>#[])).get? a=IC (dM "list" #[] e1):=⟨_,lT ho (λZ=>#[])⟩;refine aa (seqEpoch_at UK rfl (aa (sd (aa (uu (aV ?_) (aL _))) (by show(cK L).length<=_;refine ah _ hl ?_;exact Vh))));have ho6:(((s.heap.update a (dw λZ=>#[])).push (dM "tuple" (cK L).toArray 0)).push (dM "list" #[] 0)).get? a=IC (dM "list" #[] e1):=av _ (av _ UK);have fin:∀(MO:SortSt) (p:Array Nat),p.toList.Perm (bl L.length)->p.toList.Pairwise (λi j=>pW (L.getD i ([],0)).1 (L.getD j ([],0)).1=true)->(arrOf MO).map (·.2)=(p.toList.map λi=>(cK L).getD i .none).toArray->failedOf MO=ID->
  aC (bX prog w) A (do
   let touched:=(←seqEpoch a)!=e1
   Builtin.List.listUpdate (.ref a) λZ=>(arrOf MO).map (·.2)
   if let IC e:=failedOf MO then rule "list.sort.comparison-raised";throw e
   if touched then rule "list.sort.modified";raiseError "ValueError" "list modified during sort"
   ret .none) P E {s with heap:=((s.heap.update a (dw λZ=>#[])).push (dM "tuple" (cK L).toArray 0)).push (dM "list" #[] 0)}:=λMO p hp hs J_ hf=>by
  have hL':(p.toList.map λi=>(cK L).getD i .none)=cK (p.toList.map λi=>L.getD i ([],0)):=by
   refine(qK ?_).trans List.map_map.symm;intro i hi;refine lO (Hu (List.mem_range.mp (hp.mem_iff.mp hi)):_) λx Z g1 g2 Z=>?_;refine ah _ (g2 ..) ?_;show _=dK (L.getD i ([],0)).2;refine ah _ (g1 ..) rfl
  rw[hL']at J_;have P4:(p.toList.map λi=>L.getD i ([],0)).Perm L:=(hp.map _).trans (.of_eq (u5 L _));refine aa (seqEpoch_at ho6 rfl (aa (listUpdate_at ho6 rfl ?_ (aL _) (by(refine ah _ J_ ?_;refine ah _ (cQ ..) ?_;refine ah _ (af ..) ?_;refine ah _ (P4.length_eq ..) ?_);exact bP Vh))))
  (refine ah _ hf ?_;refine ah _ J_ ?_)
  refine fE (by simp) (ai (h _ P4 (List.pairwise_map.mpr hs)))
 by_cases h2:(cK L).toArray.size<2
 ·dsimp only
  (refine ah _ (if_pos h2 ..) ?_;refine ah _ (if_pos h2 ..) ?_)
  refine aa (ai ?_);refine ah _ (StateT.run_pure ..) (aa (ai (fin (SortSt.mk' general' ((cK L).toArray.zip (cK L).toArray) #[] 7 ID) (bl L.length).toArray (.refl _) ?_ ?_ rfl)))
  ·rw[SZ]at h2;refine sC (λ{i j} hi hj Q6=>?_) oN;have:=List.mem_range.mp hj;exact(Wj h2 Q6 this).elim
  ·show((cK L).toArray.zip (cK L).toArray).map (·.2)=_;apply Array.toList_inj.mp
   (refine ah _ (Array.toList_map ..) ?_;refine ah _ (Array.toList_zip ..) ?_)
   show((cK L).zip (cK L)).map (·.2)=(bl L.length).map λi=>(cK L).getD i .none
   (refine ah _ (ut (aq _) ..) ?_;refine ah _ hl.symm ?_;refine ah _ (u5 ..) rfl)
 ·dsimp only
  (refine ah _ (if_neg h2 ..) ?_;refine ah _ (if_neg h2 ..) ?_)
  rw[SZ]at h2;refine bm K.shape λσ hσ=>?_;have UW:rp prog w (((s.heap.update a (dw λZ=>#[])).push (dM "tuple" (cK L).toArray 0)).push (dM "list" #[] 0)) L:=λx hx=>by
   refine qR (hk x hx:_) λo xs n' UG hc hd hi=>(xK o xs n' (av _ (av _ (((bJ ..).2 x.2 λz=>?_).trans UG))) hc hd hi);rw[z,ho]at UG;cases UG;exact absurd (show gH "list"=.type "tuple" from hc) nofun
  refine aa (Ez (i0:=true) UW (aP Nat.zero_lt_two (c7 h2)) (λx hx=>RA (hσ x hx)) ?_);refine aa (aM (kat_run (κ:=tuples' true) (ks:=cK L) (vs:=cK L) (E:=E) (Q:=λMO s'=>s'={s with heap:=((s.heap.update a (dw λZ=>#[])).push (dM "tuple" (cK L).toArray 0)).push (dM "list" #[] 0)}/\failedOf MO=ID/\∃p:Array Nat,p.toList.Perm (bl L.length)/\p.toList.Pairwise (λi j=>pW (L.getD i ([],0)).1 (L.getD j ([],0)).1=true)/\(arrOf MO).map (·.2)=(p.toList.map λi=>(cK L).getD i .none).toArray) rfl (by refine ah _ hl ?_;exact c7 h2) (by refine ah _ hl ?_;exact aB K.H_ (by decide))
   (G:=λp s'=>s'={s with heap:=((s.heap.update a (dw λZ=>#[])).push (dM "tuple" (cK L).toArray 0)).push (dM "list" #[] 0)}/\p.toList.Perm (bl L.length)/\p.toList.Pairwise (λi j=>pW (L.getD i ([],0)).1 (L.getD j ([],0)).1=true)) (λp MO s' Z har hf g=>(mB g.1 hf (bA p g.2.1 g.2.2 (kat_snds rfl har)))) ?_) (λr s' hz=>?_) λZ Z e=>e)
  ·refine ah _ hl (Of (EA K) (c7 h2) K.H_ (I:=λs'=>s'={s with heap:=((s.heap.update a (dw λZ=>#[])).push (dM "tuple" (cK L).toArray 0)).push (dM "list" #[] 0)}) (λi j C s' hi hj Z hI hC=>?_) (λp s' hp hs hI=>⟨hI,hp,hs⟩) rfl);subst hI;refine lO (Hu hi:_) λx hx g1 g2 Z=>lO (Hu hj:_) λy hy g3 g4 Z=>?_;have hC:=hC _ rfl;rw[g1,g3]at hC;show aC _ A (keyLt' (tuples' true) ((cK L).getD i .none) ((cK L).getD j .none)) C _ _
   (refine ah _ (g2 ..) ?_;refine ah _ (g4 ..) ?_)
   exact Rz (UW x hx) (UW y hy) ((hσ x hx).trans (hσ y hy).symm) hC
  ·refine Qy s' hz λhf k_=>?_;refine cP k_ λp hp hs J_=>?_;exact fin r.2 p hp hs J_ hf
end
variable {a:Addr} {OUT:Array Value->Prop} {Q:Value->aD->Prop}
section
variable {prog:Program} {w:eQ} {A:du} {E:Value->aD->Prop} {s:aD}
theorem oz {L0:List Value} (hh:A.handled=ID) (hT:w_ prog w s.heap a L0) (u_:L0.length<=sizeLine)
 (Ux:∀(A:du) (vs:List Value) (s':aD) (D n:Nat) (P:tg->aD->Prop) (E':Value->aD->Prop),vs.Perm L0->(∀b o,s.heap.get? b=IC o->s'.heap.get? b=IC o)->s'.heap.get? D=IC (dM "list" vs.toArray n)->
  (∀out,OUT out->P (.done (.ret .none)) {s' with heap:=sortedHeap s'.heap D vs out})->aC (bX prog w) A (Builtin.«list.sort» ⟨[.ref D],[]⟩) P E' s')
 (h:∀h' tk d D out e,OUT out->(∀b o,s.heap.get? b=IC o->h'.get? b=IC o/\b<D)->h'.get? D=IC (dM "list" out e)->Q (.ref D) {s with heap:=h',toks:=tk,drawn:=d}):
 aC (bX prog w) A (call (.builtin "sorted") [.ref a]) Q E s:=by
 refine Calls.call_function_entry kind_sorted plain_sorted entry_sorted (args_sorted1 _) ?_;show aC _ _ (checkCount "sorted" 1 1 1>>=_) _ _ s;refine aa (ai (aa (sB hh hT u_ λvs h1 tk d hp hk=>aa (uu ?_ (by show vs.length<=_;refine ah _ (hp.length_eq ..) ?_;exact u_)))));have hD:(h1.push (dM "list" vs.toArray 0)).get? h1.objs.size=IC (dM "list" vs.toArray 0):=aH _ rfl;refine aa (aV (cS slot_list_sort (aN _ hD rfl) entry_list_sort (Ux _ vs _ _ 0 _ _ hp (λb o e=>av _ (hk b o e)) hD λout ho=>(aN _ rfl ?_)) (args_list_sort _)));refine bm (sortedHeap_at (out:=out) hD:_) λe he=>ai (aN _ rfl (h _ tk d _ out e ho (λb o hb=>?_) he));have r_:=b0 (hk b o hb);exact⟨(sortedHeap_old (bf r_) (by refine ah _ (size_push' ..) ?_;exact cq r_)).trans (av _ (hk b o hb)),r_⟩
theorem rS {f:α->β} {vs ws:List β} (h:vs.Perm ws):∀L:List α,ws=L.map f->∃L1:List α,vs=L1.map f/\L1.Perm L:=by
 induction h with
 |nil=>intro L e;exact(aN L e (.refl _))
 |cons x _ ih=>
  intro L e
  cases L with
  |nil=>exact Rg e
  |cons a L=>
   refine aG (ih L (cD e).2:_) λL1 e1 p=>?_;exact(aN (a::L1) (by(refine ah _ e1 ?_;refine ah _ ((cD e).1 ..) ?_);rfl) (p.cons a))
 |swap x y l=>
  intro L e
  cases L with
  |nil=>exact Rg e
  |cons a L=>cases L with
   |nil=>cases(cD e).2
   |cons b L=>
    have e1:=cD e;have e2:=cD e1.2;exact(aN (b::a::L) (by(refine ah _ (e1.1 ..) ?_;refine ah _ (e2.1 ..) ?_;refine ah _ (e2.2 ..) ?_);rfl) (.swap a b L))
 |trans _ _ Zn Zm=>
  intro L e;exact aG (Zm L e:_) λL2 e2 p2=>aG (Zn L2 e2:_) λL1 e1 p1=>(aN L1 e1 (p1.trans p2))
theorem u6 {k:List gM} (x:eW (eP prog w) h k a) (hk:∀b o,h.get? b=IC o->h'.get? b=IC o):eW (eP prog w) h' k a:=
 pt x λo items n ho r=>(t4 o items n (hk _ _ ho) r)
theorem Be (hh:A.handled=ID) (hT:w_ prog w s.heap a (cK L)) (hk:rp prog w s.heap L) (K:Kr L)
 (h:∀h' tk d D (L':List (List gM×Addr)) e,L'.Perm L->L'.Pairwise (λx y=>pW x.1 y.1=true)->(∀b o,s.heap.get? b=IC o->h'.get? b=IC o/\b<D)->h'.get? D=IC (dM "list" (cK L').toArray e)->Q (.ref D) {s with heap:=h',toks:=tk,drawn:=d}):
 aC (bX prog w) A (call (.builtin "sorted") [.ref a]) Q E s:=by
 refine oz (OUT:=λout=>∃L':List (List gM×Addr),L'.Perm L/\L'.Pairwise (λx y=>pW x.1 y.1=true)/\out=(cK L').toArray) hh hT (by refine ah _ (af ..) ?_;exact ab K.H_ (ba rfl)) (λA vs s' D n P E' hp L_ hD hP=>?_) λh' tk d D out e ho L_ he=>?_
 ·refine aG (rS hp L rfl:_) λL1 f_ UE=>?_;obtain rfl:=f_;exact v3 hD (λx hx=>u6 (hk x (UE.mem_iff.mp hx)) L_) (K.perm UE) λL' h1 h2=>hP _ (bA L' (h1.trans UE) h2 rfl)
 ·refine cP ho λL' h1 h2 k_=>?_;obtain rfl:=k_;exact h h' tk d D L' e h1 h2 L_ he
end
variable {l:Addr} {zs:List Int} {L vs:List Value}
section
variable {prog:Program} {w:eQ} {A:du} {E:Value->aD->Prop} {s:aD} {h h':Heap} {a S:Addr}
theorem IR.through {ps:List (Int×Value)} (x:IR w h S ps):w_ prog w h S (ps.map (·.2))where
 T:=pt x.ex λZ Z Z ho Z=>(qS ("set") (aN _ ho rfl) rfl rfl (λA s E Q hT q=>Hq hT q))
 iter:=λA s E Q hh hk q=>Hp hh (x.at hk) q
theorem w_.perm {L':List Value} (x:w_ prog w h a L) (p:L.Perm L'):w_ prog w h a L' where
 T:=x.T
 iter:=λA s E Q hh hk q=>x.iter A s E Q hh hk λI L1 h' d hp=>q I L1 h' d (hp.trans p)
theorem w_.at (x:w_ prog w h a L) (k:∀o,h.get? a=IC o->h'.get? a=IC o):w_ prog w h' a L where
 T:=aG x.T λT f_ r=>aG f_ λo ho hc=>(aN T (aN o (k _ ho) hc) r)
 iter:=λA s E Q hh hk q=>x.iter A s E Q hh (λo e=>hk o (k o e)) q
noncomputable def prK (prog:Program) (w:eQ) (x:List gM×Addr):Int×Value:=(tupleKeyHash (eP prog w) x.1,.ref x.2)
theorem v4 {f:α->β} {L:List α} (hi:i<L.length):((L.take (i+1)).map f).reverse=f L[i]::((L.take i).map f).reverse:=by
 (refine ah _ (List.take_succ_eq_append_getElem hi ..) ?_;refine ah _ (aT ..) ?_;refine ah _ (List.reverse_append ..) ?_);rfl
theorem Bf {f:α->β} {L:List α} (hi:i<L.length) (nd:(L.map f).Nodup) {y:α} (hy:y∈L.take i):f y≠f L[i]:=by
 refine bm (List.mem_iff_getElem.mp hy:_) λj f_=>?_;refine FB y f_ λhj=>?_;rw[iH]at hj;refine ah _ (List.getElem_take ..) ?_;intro e;have:=(un (xs:=L.map f) (i:=j) (j:=i) (h₀:=by refine ah _ (af ..) ?_;exact Wf hj) (h₁:=by refine ah _ (af ..) ?_;exact hi) nd).mp (by(refine ah _ (iI ..) ?_;refine ah _ (iI ..) ?_);exact e);exact(Wg hj this).elim
theorem OE {b:Addr} {o:Obj} (e:h.get? b=IC o):b∉[h.objs.size+1]:=λz=>absurd (b0 e) (by refine ah _ (List.mem_singleton.mp z ..) ?_;exact Nat.not_lt.mpr (cL _))
theorem Bg {L:List (List gM×Addr)} (hh:A.handled=ID) (hl:Src k s.heap l items) (hi:items.toList=cK L) (hk:rp prog w s.heap L) (nd:(L.map (·.1)).Nodup) (H_:L.length<18) (hu:A.units+20<cLine)
 (h:∀h' tk,(∀b o,s.heap.get? b=IC o->h'.get? b=IC o)->w_ prog w h' s.heap.objs.size (cK L)->Q (.ref s.heap.objs.size) {s with heap:=h',toks:=tk}):aC (bX prog w) A (call (.type "set") [.ref l]) Q E s:=by
 have u_:items.size=L.length:=by(refine ah _ (aF ..).symm ?_;refine ah _ hi ?_;refine ah _ (af ..) rfl)
 refine zd (Sx:=λi h=>(∀b o,s.heap.get? b=IC o->h.get? b=IC o)/\IR w h s.heap.objs.size ((L.take i).map (prK prog w)).reverse) hh hl (λi h h' x k=>⟨λb o e=>k b o (OE e) (x.1 b o e),x.2.at λo e=>k _ o (λz=>bf (bV _) (List.mem_singleton.mp z)) e⟩) (λh y k=>⟨k,y⟩) (λA i v s' Q E hu r_ hv x q=>?_) hu λh' tk k x=>h h' tk k ((IR.through x.2).perm ?_)
 ·rw[u_]at r_;have RE:v=.ref L[i].2:=by
   rw[←bH,hi,aK,aJ r_]at hv;exact(bS hv).symm
  subst RE;have hx:=u6 (hk _ (nK r_)) x.1;refine aV (aa (wpAny_pyHash_tuple hu hx (xf hu x.2 ?_ hx (λe he=>?_) λh' sb y=>q true h' _ sb ⟨λb o e=>(sb.2 b (bf (b0 e))).trans (x.1 b o e),by refine ah _ (v4 r_ ..) ?_;exact y⟩)))
  ·(refine ah _ (List.length_reverse ..) ?_;refine ah _ (af ..) ?_;refine ah _ (iH ..) ?_);exact WV H_
  ·exact ig e (List.mem_map.mp (List.mem_reverse.mp he):_) λy hy=>(eu y.1 y.2 rfl (u6 (hk y (iB hy)) x.1) (Bf r_ nd hy))
 ·(refine ah _ u_ ?_;refine ah _ (bx ..) ?_;refine ah _ (List.map_reverse ..) ?_;refine ah _ (cV ..) ?_)
  exact List.reverse_perm _
theorem Hv (x:gO vs ns):∀{i:Nat} {v:Value},vs[i]?=IC v->∃z t,v=.int z t/\ns[i]?=IC z:=by
 induction x with
 |nil=>intro i v e;exact ft e
 |cons z t r ih=>
  intro i v e
  cases i with
  |zero=>cases e;exact(ie z t rfl rfl)
  |succ i=>exact ih e
theorem zi (x:gO vs zs) (z:Int):z∈zs↔∃v∈vs,pN z v=true:=by
 induction x with
 |nil=>exact⟨de,λk_=>aG k_ λZ h Z=>de h⟩
 |cons y t r ih=>
  rw[cp,ih]
  constructor
  ·rintro(e|⟨v,h1,h2⟩)
   ·exact(aN (.int y t) ae (by refine ah _ e ?_;exact beq_self_eq_true _))
   ·exact(aN v (ag _ h1) h2)
  ·intro j_;refine aG j_ λv h1 h2=>?_;rcases List.mem_cons.mp h1 with rfl|h1
   ·exact .inl (eq_of_beq h2).symm
   ·exact .inr (aN v h1 h2)
theorem Hw (hh:A.handled=ID) (hl:Src k s.heap l items) (hi:gO items.toList ns) (H_:ns.length<18) (hu:A.units+20<cLine)
 (h:∀h' tk L zs,(∀b o,s.heap.get? b=IC o->h'.get? b=IC o)->w_ prog w h' s.heap.objs.size L->gO L zs->zs.Nodup->(∀z,z∈zs↔z∈ns)->zs.length<18->Q (.ref s.heap.objs.size) {s with heap:=h',toks:=tk}):aC (bX prog w) A (call (.type "set") [.ref l]) Q E s:=by
 have u_:items.size=ns.length:=by refine ah _ (aF ..).symm ?_;exact hi.length
 refine zd (Sx:=λi h=>∃ps zs,IR w h s.heap.objs.size ps/\ElemsOf (n5 prog w) ps/\gO (ps.map (·.2)) zs/\zs.Nodup/\(∀z,z∈zs↔z∈ns.take i)/\ps.length<=i) hh hl (λi h h' x k=>?_) (λh y k=>(sZ ([]) ([]) y (λ_=>de) .nil .nil (λz=>⟨de,de⟩) (aq _))) (λA i v s' Q E hu r_ hv x q=>?_) hu λh' tk k x=>?_
 ·exact gV x λps zs y r=>(ie ps zs (y.at λo e=>k _ o (λz=>bf (bV _) (List.mem_singleton.mp z)) e) r)
 ·refine D9 x λps zs y el ia nd mm len=>?_;rw[←bH]at hv;refine jq v (Hv hi hv:_) λz t hz=>?_;have ZP:i<ns.length:=u_▸r_;have XS:ns.take (i+1)=ns.take i++[z]:=by(refine ah _ (bD ..) ?_;refine ah _ hz ?_);rfl
  have mm1:∀y,y∈ns.take (i+1)↔y∈zs∨y=z:=λy=>by(refine ah _ XS ?_;rw[ve,←mm,List.mem_singleton])
  refine aV (aa (wpAny_pyHash_int (Ba y (aB len (cy ZP H_)) el (λhex=>?_) λP5 h' sb y'=>?_)))
  ·refine aG hex λe he h2=>?_;have hm:z∈zs:=(zi ia z).mpr (aN e.2 (aO (f:=(·.2)) he) h2);exact q false s'.heap _ ⟨rfl,λZ Z=>rfl⟩ (sZ ps zs y el ia nd (λy=>((mm1 y).trans ⟨λh=>h.elim id λe=>e▸hm,.inl⟩).symm) (bP len))
  ·have hn:z∉zs:=λhm=>by
    refine aG ((zi ia z).mp hm:_) λv h1 h2=>?_;refine xA h1 λe he s_=>?_;obtain rfl:=s_;rw[P5 e he]at h2;exact fP h2
   refine q true h' _ sb (sZ _ (z::zs) y' (λe he=>?_) (.cons z t ia) (List.nodup_cons.mpr ⟨hn,nd⟩) (λy=>?_) (aY len))
   ·rcases List.mem_cons.mp he with rfl|he
    ·exact⟨(aN z (beq_self_eq_true _) rfl),rfl⟩
    ·exact el e he
   ·rw[mm1,cp,or_comm]
 ·refine D9 x λps zs y el ia nd mm len=>?_;rw[u_,bx]at mm;refine h h' tk _ zs k (IR.through y) ia nd mm ?_;have:ps.length=zs.length:=by(refine ah _ (ia.length ..).symm ?_;refine ah _ (af ..) rfl)
  exact VY H_ u_ len this
theorem EB {ws:List Value} (h:vs.Perm ws):∀{ns:List Int},gO ws ns->∃ms,gO vs ms/\ms.Perm ns:=by
 induction h with
 |nil=>intro ns e;exact(aN ns e (.refl _))
 |cons x _ ih=>
  intro ns e
  cases e with
  |cons z t r=>refine aG (ih r:_) λms e1 p=>?_;exact(aN (z::ms) (.cons z t e1) (p.cons z))
 |swap x y l=>
  intro ns e
  cases e with
  |cons z t r=>cases r with
   |cons z2 t2 r=>exact(aN (z2::z::_) (.cons z2 t2 (.cons z t r)) (.swap _ _ _))
 |trans _ _ Zn Zm=>
  intro ns e;exact aG (Zm e:_) λm1 e1 p1=>aG (Zn e1:_) λm2 e2 p2=>(aN m2 e2 (p2.trans p1))
theorem zj (hh:A.handled=ID) (hT:w_ prog w s.heap a L) (hi:gO L zs) (H_:zs.length<64)
 (h:∀h' tk d D (out:Array Value) ns e,gO out.toList ns->ns.Perm zs->ns.Pairwise (·<=·)->(∀b o,s.heap.get? b=IC o->h'.get? b=IC o/\b<D)->h'.get? D=IC (dM "list" out e)->Q (.ref D) {s with heap:=h',toks:=tk,drawn:=d}):
 aC (bX prog w) A (call (.builtin "sorted") [.ref a]) Q E s:=by
 have hl:=hi.length;refine oz (OUT:=λout=>∃ns,gO out.toList ns/\ns.Perm zs/\ns.Pairwise (·<=·)) hh hT (ab (bd hl) (ab (bj H_) (ba rfl))) (λA vs s' D n P E' hp L_ hD hP=>?_) λh' tk d D out e ho L_ he=>?_
 ·refine aG (EB hp hi:_) λms i1 p1=>?_;exact list_sort_tree hD i1 (by(refine ah _ (hp.length_eq ..) ?_;refine ah _ hl ?_);exact H_) λout ns a1 a2 a3=>hP out (bA ns a1 (a2.trans p1) a3)
 ·exact cP ho λns h1 h2 h3=>h h' tk d D out ns e h1 h2 h3 L_ he
end
variable {Q:Option Value->aD->Prop}
section
variable {prog:Program} {w:eQ} {A:du} {E:Value->aD->Prop} {s:aD} {h h':Heap} {d it:Addr} {es:Array DictEntry} {ep i:Nat}
def JQ (h:Heap) (d:Addr) (es:Array DictEntry) (ep:Nat):Prop:=∃o,h.get? d=IC o/\o.ExactDict/\o.data=.dict es ep
theorem ED (hit:s.heap.IsKeyIter it d i es.size ep) (hm:JQ s.heap d es ep)
 (h:match es[i]? with
  |some e=>∀h',h'.IsKeyIter it d (i+1) es.size ep->bN it s.heap h'->P (.done (.ret e.key)) {s with heap:=h'}
  |none=>aC (bX prog w) A (setField (.ref it) 0 .none>>=λZ=>newExc (.type "StopIteration") []>>=λe=>raiseNew e) P E s):
 aC (bX prog w) A (Builtin.«dict_keyiterator.__next__» ⟨[.ref it],[]⟩) P E s:=by
 refine cP (id hit:_) λo ho hc hd=>cP (id hm:_) λod hod Q8 M6=>aa (ai ?_);refine aa (aa ?_);refine aa (lF hit.typeIs (ai ?_));refine aa (Em ho hd ?_);refine fE (show¬((dK d==gF)=true)from aA) (aa (ai ?_));refine aa (wpAny_dictEntries hod M6 (fE (by simp) ?_));refine aa (ai ?_);refine aa (wpAny_dictEpoch hod M6 (fE (by simp) ?_));refine ai ?_;show aC _ _ (match if(i:Int)<0 then ID else es[(i:Int).toNat]? with|some e=>_|none=>_) _ _ _
 (refine ah _ (if_neg VO ..) ?_;refine ah _ (bG ..) ?_)
 cases hx:es[i]? with
 |none=>
  rw[hx]at h;refine aa (aa (lF hit.typeIs (ai h)))
 |some e=>
  rw[hx]at h;refine aa (aa (lF hit.typeIs (ai ?_)));refine aa (wpAny_isOneOf_keyiter hit.typeIs ?_);show aC _ _ (setField (.ref it) 1 (em ((i:Int)+1))>>=_) _ _ s;refine aa (f8 ho hd (b6 [ke (↑es.size) 0,ke (↑ep) 0].length) ?_);have Lk:(s.heap.update it (Bb (·.setIfInBounds 1 (em ((i:Int)+1))))).IsKeyIter it d (i+1) es.size ep:=
   (bA _ (bT _ ho (Fm (lW hd _))) ((Obj.cls_mapFields ..).trans hc) (by refine ah _ (lW hd ..) ?_;rfl))
  refine aa (aV ?_);refine aa (wpAny_isOneOf_keyiter (s:={s with heap:=s.heap.update it (Bb (·.setIfInBounds 1 (em ((i:Int)+1))))}) Lk.typeIs ?_);exact ai (ai (h _ Lk (bJ ..)))
theorem vO (hh:A.handled=ID) (hit:s.heap.IsKeyIter it d i es.size ep) (hm:JQ s.heap d es ep)
 (h:match es[i]? with
  |some e=>∀h',h'.IsKeyIter it d (i+1) es.size ep->bN it s.heap h'->Q (IC e.key) {s with heap:=h'}
  |none=>∀h',(∀b o,b≠it->s.heap.get? b=IC o->h'.get? b=IC o)->Q ID {s with heap:=h'}):
 aC (bX prog w) A (hH (.ref it)) Q E s:=by
 refine aa (li (cR (name:=am "__next__") hit.typeIs zk
  (cS zk hit.typeIs F.entry_dict_keyiterator_next ?_ (F.args_dict_keyiterator_next_1 _))))
 refine ED hit hm (cP (id hit:_) λo ho hc hd=>?_)
 cases hx:es[i]? with
 |none=>
  rw[hx]at h;refine aa (f8 ho hd (db rfl) ?_);refine pP hh λh' e hk f_=>aG f_ λo he hc=>aa (eU (T:="StopIteration") (b:=true) (aN o he hc) nB ?_);exact ai (h h' λb o hb e=>hk b o (((bJ ..).2 b hb).trans e))
 |some e=>
  rw[hx]at h;intro h' i1 i2;exact(aN _ rfl (ai (h h' i1 i2)))
theorem Bh (hh:A.handled=ID) (IQ:d≠it) (hL:L=es.toList.map (·.key)):
 Walks prog w A it [it,d] [it] L.length (λi v=>L[i]?=IC v) (λi h=>h.IsKeyIter it d i es.size ep/\JQ h d es ep)where
 sub:=λb hb=>by refine ah _ (List.mem_singleton.mp hb ..) ?_;exact ae
 frame:=λZ Z Z st hk=>⟨st.1.at λo e=>hk it ae o e,aG st.2 λo e r=>(aN o (hk d (ag _ (List.mem_singleton.mpr rfl)) o e) r)⟩
 item:=λi s Q E hi st hQ=>by
  subst hL;have LO:i<es.size:=by rw[af,aF]at hi;exact hi
  refine vO hh st.1 st.2 (ah _ (bq LO ..) ?_);intro h' h1 sb;refine hQ _ h' s.toks ?_ ⟨h1,aG st.2 λo e r=>(aN o ((sb.2 d IQ).trans e) r)⟩ λb o hb e=>(sb.2 b λz=>hb (z▸ae)).trans e
  (refine ah _ (aK ..) ?_;refine ah _ (bH ..) ?_;refine ah _ (bq LO ..) ?_);rfl
 done:=λs Q E st hQ=>by
  subst hL;rw[af,aF]at st;refine vO hh st.1 st.2 (ah _ (gL (aq _) ..) ?_);exact λh' hk=>hQ h' s.toks λb o hb e=>hk b o (λz=>hb (z▸ae)) e
 self:=λZ Z Z Z st hQ=>wpAny_pyIter_keyiter st.1 hQ
theorem JQ.through (hd:(d==pZ)=false) (x:JQ h d es ep):w_ prog w h d (es.toList.map (·.key))where
 T:=cP x λo ho hc Z=>(qS ("dict") (aN o ho hc.1) rfl rfl (λA s E Q hT q=>Er hT q))
 iter:=λA s E Q hh hk q=>by
  refine cP x λo ho hc Nc=>?_;have ho:=hk o ho;have hT:s.TypeIs (.ref d) "dict":=(aN o ho hc.1);refine xh hT F.slot_dict_iter (cS F.slot_dict_iter hT F.entry_dict_iter ?_ (F.args_dict_iter_1 _));refine aa (aa (wpAny_notOrdered_dict hT (ai ?_)));show aC _ _ (Builtin.Dict.showsAll d>>=_) _ _ s;refine aa (fE (by refine ah _ hd ?_;exact aA) (ai ?_));refine aa (wpAny_dictEntries ho Nc (aa (wpAny_dictEpoch ho Nc ?_)));have r_:=b0 ho;refine aa (ce (ai (aN _ rfl (eu ("dict_keyiterator") _ (aN _ (aH _ rfl) rfl) F.slot_dict_keyiterator_next.lookup ?_))));refine q s.heap.objs.size _ _ s.drawn (.refl _) (λb o e=>av _ e) (aq _) λA' UY=>(eu _ _ (Bh UY (bf r_) rfl) ((jp (bA _ (aH _ rfl) rfl rfl) (bA o (av _ ho) hc Nc))) (λb hb=>?_));rcases List.mem_cons.mp hb with e|hb
  ·exact .inr (bd e.symm)
  ·exact .inl (List.mem_singleton.mp hb)
end
variable {Q:V->List a_->Prop}
theorem Ap.Rm (IQ:0<ns.length) (q:∀M,M∈ns->(∀a,a∈ns->a<=M)->Q (dI M) H):Ap B n (.builtin "max") [dT (ns.map .int)] H Q:=by
 intro A env ρ s μ W cs g I r;refine cX cs r.one λc r1=>jU c (Rp.D_ r1:_) λa vs Z t rs=>?_;refine aG (lc (oC rs):_) λxs j_ K9=>?_;obtain rfl:=j_;have u_:0<xs.size:=by have h3:=IQ;rw[K9,af,aF]at h3;exact h3
 have r_:a<s.heap.objs.size:=by refine aG (id t:_) λZ e Z=>?_;exact b0 e
 have LD:∀b o,s.heap.get? b=IC o->(s.heap.push (gG .tuple a)).get? b=IC o:=b9 _;refine call_max_walk (kL (k:=.tuple) t (YR _ _ _ _ _ _ _ rfl (Dk (A:=A.in1) g.1 s.heap.objs.size a (bf r_) (nu xs)) ⟨F_.new .tuple s.heap a,Src.at (k:=.tuple) t λo e=>LD _ o e⟩ (λb hb=>?_) (by simpa [nu]using u_) (CmpOf.ints_gt (Di xs) (λZ Z=>rZ)) (λv h' tk hP hk=>?_)))
 ·show b<(s.heap.push _).objs.size;refine ah _ (bz ..) ?_;rcases List.mem_cons.mp hb with rfl|hb
  ·exact bV _
  ·cases List.mem_singleton.mp hb;exact cq r_
 ·have hv:(nu xs)[argBest (λi j=>decide (Di xs i>Di xs j)) (xs.size - 1)]?=IC v:=by simpa [nu]using hP
  refine gc v (rZ hv:_) λt=>bh (argBest_gt (Di xs) (xs.size - 1):_) λh1 h2=>?_;have hkk:∀b o,s.heap.get? b=IC o->h'.get? b=IC o:=λb o e=>hk b o (λhm=>by cases List.mem_singleton.mp hm;exact absurd (b0 e) (b7 _)) (LD b o e);refine .keeps I (cY _ _ rfl) hkk (v:=dI _) (Rp.int _ _) (q _ ?_ λa ha=>?_)
  ·(refine ah _ K9 ?_;refine ah _ (s6 ..) ?_);exact getD_mem (by(refine ah _ (af ..) ?_;refine ah _ (aF ..) ?_);exact te u_ h1)
  ·rw[K9]at ha;refine ig a (mem_getD ha:_) λj hj=>?_;rw[af,aF]at hj;refine ah _ (s6 ..).symm ?_;exact h2 j (qb hj)
noncomputable def JC.Rm:JC:=⟨.builtin "max",.inl ⟨_,rfl⟩,λH vs Q=>oh (Ax λxs=>aW (oi xs) λns=>0<ns.length/\∀M,M∈ns->(∀a,a∈ns->a<=M)->Q (dI M) H) vs,λh=>by
 refine aG (dZ h:_) λv C_ h1=>?_;obtain rfl:=C_;refine cX v (kD h1:_) λxs h2=>jF h2 λns e h3=>?_;cases tC e;exact .Rm h3.1 h3.2⟩
noncomputable abbrev Yr:PE:=bO ⟨.bi .B_ [bK .add (bI .Rm [gv]) lK],⟨false,[1]⟩,[ID,ID,IC 1],ID⟩ (bK .add (bK .pow XI (gb 20)) (jR (bo pR cT (bI .len [eG])) (cI eG cT) cT))
variable {xs:List (List gM×Addr×Value)} {L:List (List gM×Addr)} {ks:List (List gM)} {k:List gM} {P:Program->eQ->List Addr->Heap->Value->Prop} {c:Value}
noncomputable def Yj (m:gM):PyData:=m.elim .int .str
noncomputable def mo (k:List gM):PyData:=.tuple (k.map Yj)
noncomputable def Ri:PyData->Option gM
 |.int i=>IC (.inl i)
 |.str x=>IC (.inr x)
 |_=>ID
noncomputable def Hx {α β:Type} (f:α->Option β) (l:List α):Option (List β):=l.foldr (λx o=>(f x).bind λy=>o.map (y::·)) (IC [])
theorem CJ {f:α->Option β} {g:β->α} (hf:∀x y,f x=IC y->x=g y):∀{l:List α} {ys:List β},Hx f l=IC ys->l=ys.map g:=by
 intro l
 induction l with
 |nil=>intro ys h;cases h;rfl
 |cons x l ih=>
  intro ys h;refine sj h λy e h1=>ig ys (Option.map_eq_some_iff.mp h1:_) λzs e2=>?_
  (refine ah _ (hf x y e ..) ?_;refine ah _ (ih e2 ..) ?_);rfl
theorem zl {f:α->Option β} {g:β->α} (hf:∀y,f (g y)=IC y) (ys:List β):Hx f (ys.map g)=IC ys:=by
 induction ys with
 |nil=>rfl
 |cons y ys ih=>show(f (g y)).bind _=_;rw[hf];show eH _ (Hx f (ys.map g))=_;refine ah _ ih ?_;rfl
theorem OI {d:PyData} {m:gM} (h:Ri d=IC m):d=Yj m:=by cases d<;>cases h<;>rfl
theorem OJ (m:gM):Ri (Yj m)=IC m:=by cases m<;>rfl
noncomputable def OT (d:PyData):Option (List gM):=(Pm d).bind (Hx Ri)
theorem CK {d:PyData} (h:OT d=IC k):d=mo k:=by
 refine sj h λds e h1=>?_
 (refine ah _ (wv e ..) ?_;refine ah _ (CJ (λZ Z=>OI) h1 ..) ?_);rfl
theorem Hy (k:List gM):OT (mo k)=IC k:=zl OJ k
noncomputable def zm:List PyData->Option (List (List gM)):=Hx OT
theorem vP (ks:List (List gM)):zm (ks.map mo)=IC ks:=zl Hy ks
theorem Hz:∀{k:List gM} {vs:List Value},n_ W h vs (k.map Yj)->ItemsAre (eP B.prog B.w) k vs:=by
 intro k
 induction k with
 |nil=>intro vs r;cases r;exact .nil
 |cons m k ih=>
  intro vs r
  cases r with
  |cons r1 r2=>
   refine .cons ?_ (ih r2)
   cases m with
   |inl i=>refine gc v (Rp.int_inv r1:_) λt=>?_;exact beq_self_eq_true _
   |inr x=>refine gc v (Rp.str_inv r1:_) λt=>?_;exact beq_self_eq_true _
theorem Bi (r:Rp W h c (mo k)):∃a,c=.ref a/\eW (eP B.prog B.w) h k a:=by
 cases r with
 |tuple ha ho hc hd rs=>exact(aN _ rfl (xK _ _ _ ho hc hd (Hz rs)))
def Kw (W:List Addr) (h:Heap) (L:List (List gM×Addr)):Prop:=∀x∈L,Rp W h (.ref x.2) (mo x.1)
theorem Kw.keys (r:Kw W h L):rp B.prog B.w h L:=λx hx=>by
 refine aG (Bi (B:=B) (r x hx):_) λa e k=>?_;cases e;exact k
theorem Kw.back (r:Kw W h L):n_ W h (cK L) ((L.map (·.1)).map mo):=by
 induction L with
 |nil=>exact .nil
 |cons x L ih=>exact .cons (r x ae) (ih λy hy=>r y (ag _ hy))
theorem OS:∀{ks:List (List gM)} {vs:List Value},n_ W h vs (ks.map mo)->∃L,vs=cK L/\L.map (·.1)=ks/\Kw W h L:=by
 intro ks
 induction ks with
 |nil=>intro vs r;cases r;exact(bA ([]) rfl rfl (λ_=>de))
 |cons k ks ih=>
  intro vs r
  cases r with
  |cons r1 r2=>
   refine t5 vs_1 (ih r2:_) λL e h3=>?_;refine gV (Rp.D_ r1:_) λa Z s_ Z=>?_;obtain rfl:=s_;exact(bA ((k,a)::L) rfl (congrArg (k::·) e) (λx hx=>(List.mem_cons.mp hx).elim (λe=>e▸r1) (h3 x)))
def u7 (ks:List (List gM)) (prog:Program) (w:eQ) (W:List Addr) (h:Heap) (c:Value):Prop:=∃a L,c=.ref a/\w_ prog w h a (cK L)/\L.map (·.1)=ks/\Kw W h L
def zn (ns:List Int) (prog:Program) (w:eQ) (W:List Addr) (h:Heap) (c:Value):Prop:=∃a L zs,c=.ref a/\w_ prog w h a L/\gO L zs/\zs.Nodup/\(∀z,z∈zs↔z∈ns)/\zs.length<18
theorem fzT (ha:a∉W) (T:w_ B.prog B.w h a (cK L)) (e:L.map (·.1)=ks) (r:Kw W h L):l_ B μ W h (.fz (u7 ks)) (.ref a):=
 λW' h' k f=>(pv a L rfl (T.at λo=>k a o ha) e (λx hx=>(r x hx).mono k f))
theorem xk {v:V} {xs:List PyData} {s:aD} (hs:gT H v=IC xs) (I:Inv B env ρ H μ W s) (r:l_ B μ W s.heap v c):∃k l items,c=.ref l/\Src k s.heap l items/\n_ W s.heap items.toList xs:=by
 rcases kN hs with e|rfl
 ·refine hU (e.list I r:_) λa items e1 l rs=>?_;exact(oV .list a items e1 l rs)
 ·refine lQ (Rp.D_ r:_) λa items e1 Z l rs=>?_;exact(oV .tuple a items e1 l rs)
theorem Good.room (g:Good n A):A.units+20<cLine:=by have:=g.2.2;exact Wp this
theorem Ap.MV {v:V} {xs:List PyData} (hs:gT H v=IC xs) (hk:zm xs=IC ks) (nd:ks.Nodup) (H_:ks.length<18) (q:Q (.fz (u7 ks)) H):Ap B n (.type "set") [v] H Q:=by
 intro A env ρ s μ W cs g I r;refine cX cs r.one λc r1=>Qw c (xk hs I r1:_) λk l items src rs=>?_;rw[CJ (λZ Z=>CK) hk]at rs;refine cP (OS rs:_) λL e IY rk=>?_;obtain rfl:=IY;refine Bg g.1 src e (rk.keys (B:=B)) nd (by rw[af]at H_;exact H_) g.room λh' tk keep T=>?_;refine .keeps I (cY _ _ rfl) keep (fzT (I.out (aq _)) T rfl λx hx=>(rk x hx).keeps keep) q
theorem Ap.Ok (H_:ns.length<18) (q:Q (.fz (zn ns)) H):Ap B n (.type "set") [dL (ns.map .int)] H Q:=by
 intro A env ρ s μ W cs g I r;exact cX cs r.one λc r1=>jU c (Rp.IF r1:_) λa vs ha l rs=>Hw (k:=.list) g.1 l (oC rs) H_ g.room λh' tk L zs keep T i1 i2 i3 i4=>.keeps I (cY _ _ rfl) keep (v:=.fz (zn ns)) (λW' h2 k f=>(NX _ L zs rfl (T.at λo=>k _ o (I.out (aq _))) i1 i2 i3 i4)) q
theorem Qb (r:l_ B μ W h (.fz P) c):P B.prog B.w W h c:=r W h (λZ Z Z e=>e) λZ a b=>absurd a b
theorem Ap.Kq (nd:ks.Nodup) (H_:ks.length<=6) (sh:∃i,∀k∈ks,CI k=true::i) (q:∀Mt:List (List gM),Mt.Perm ks->Mt.Pairwise (λx y=>pW x y=true)->Q (dL (Mt.map mo)) H):
 Ap B n (.builtin "sorted") [.fz (u7 ks)] H Q:=by
 intro A env ρ s μ W cs g I r;refine cX cs r.one λc r1=>?_;refine jU c (Qb r1:_) λa L T Ji rk=>?_;obtain rfl:=Ji;refine bm sh λi hi=>?_;refine Be g.1 T (rk.keys (B:=B)) ⟨nd,by rw[af]at H_;exact H_,i,λx hx=>hi _ (aO (f:=(·.1)) hx)⟩ λh' tk d D L' e p pw keep he=>?_;have Mc:=λb o e=>(keep b o e).1;have rk':Kw W h' L':=λx hx=>(rk x (p.mem_iff.mp hx)).keeps Mc;refine A_.draw (d:=d) (s':={s with heap:=h',toks:=tk}) (.keeps I (cY h' tk rfl) Mc (v:=dL ((L'.map (·.1)).map mo)) (Rp.list (λz=>?_) he rk'.back) (q _ (p.map _) (List.pairwise_map.mpr pw)));exact bm (I.alive D z:_) λo ho=>b7 _ (keep D o ho).2
theorem Ap.Lf (q:∀zs:List Int,zs.Pairwise (·<·)->(∀z,z∈zs↔z∈ns)->Q (dL (zs.map .int)) H):Ap B n (.builtin "sorted") [.fz (zn ns)] H Q:=by
 intro A env ρ s μ W cs g I r;refine cX cs r.one λc r1=>Tw c (Qb r1:_) λa L zs T i1 i2 i3 i4=>zj g.1 T i1 (aP i4 (ak rfl)) λh' tk d D out ms e j1 j2 j3 keep he=>?_;have Mc:=λb o e=>(keep b o e).1;refine A_.draw (d:=d) (s':={s with heap:=h',toks:=tk}) (.keeps I (cY h' tk rfl) Mc (v:=dL (ms.map .int)) (Rp.list (λz=>?_) he (qV j1)) (q ms ?_ λz=>(j2.mem_iff).trans (i3 z)))
 ·exact bm (I.alive D z:_) λo ho=>b7 _ (keep D o ho).2
 ·exact(j3.and (j2.nodup_iff.mpr i2)).imp λh=>Int.lt_iff_le_and_ne.mpr h
noncomputable def JC.MV:JC:=⟨.type "set",.inr ⟨_,rfl⟩,λH vs Q=>oh (λv=>aW (gT H v) λxs=>aW (zm xs) λks=>(ks.Nodup/\ks.length<18)/\Q (.fz (u7 ks)) H) vs,λh=>by
 refine aG (dZ h:_) λv JD h1=>?_;obtain rfl:=JD;exact jF h1 λxs e h2=>cP (ew h2:_) λks e2 h3 h4=>.MV e e2 h3.1 h3.2 h4⟩
noncomputable def JC.Ok:JC:=⟨.type "set",.inr ⟨_,rfl⟩,λH vs Q=>oh (qn λns=>ns.length<18/\Q (.fz (zn ns)) H) vs,λh=>by
 refine aG (dZ h:_) λv KE h1=>?_;obtain rfl:=KE;exact t5 v (kO h1:_) λns h2 h3=>.Ok h2 h3⟩
noncomputable def JC.Kq:JC:=⟨.builtin "sorted",.inl ⟨_,rfl⟩,λH vs Q=>∃ks,vs=[.fz (u7 ks)]/\(ks.Nodup/\ks.length<=6/\∃i,∀k∈ks,CI k=true::i)/\∀Mt:List (List gM),Mt.Perm ks->Mt.Pairwise (λx y=>pW x y=true)->Q (dL (Mt.map mo)) H,λh=>by
 refine cP h λks Kp h1 h2=>?_;obtain rfl:=Kp;exact .Kq h1.1 h1.2.1 h1.2.2 h2⟩
noncomputable abbrev At_:List PS:=[c5 (bo dW (bO ⟨.val (cO 8),⟨false,[1]⟩,[ID,ID,IC 10,IC 11],IC (bo dW (cI cT eG) gv)⟩ cT) (dU [])) [qI [12,13] 12 [bZ 427 "why_none" 424 eV [cT,PC,cO 11],bO ⟨.val (cO 9),⟨false,[1]⟩,[ID,ID,IC 10,IC 11],IC (bo dW (cI cT eG) gv)⟩ cT],c5 (qG [bo dX (bI .list [NN]) (bI .Kq [bI .MV [NN]]),bo pS (bI .len [NN]) (bI .len [Tl])]) [br (fW false)] [],c5 (bo dX (bO ⟨.val NN,⟨false,[1]⟩,[ID,ID,IC 7],IC (gq (fO (bn 455 [cT,cI eG (eE 0 cT)])))⟩ cT) (dU [])) [br (fW false)] [],c5 (bo dX (bO ⟨.val Tl,⟨false,[1]⟩,[ID,ID,IC 2,IC 12],IC (bo dW (bn 465 [gv,eG,cT]) (dU []))⟩ cT) (dU [])) [br (fW false)] [],c5 (bo dX (bO ⟨.val NN,⟨false,[1]⟩,[ID,ID,IC 13,IC 2],IC (bo dW (bO ⟨.val eG,⟨false,[1]⟩,[ID,ID,IC 1,IC 3],IC (bo dX (bn 465 [dU [eG],gv,cT]) (dU []))⟩ cT) (dU []))⟩ cT) (dU [])) [br (fW false)] []] []]
noncomputable def JC.Lf:JC:=⟨.builtin "sorted",.inl ⟨_,rfl⟩,λH vs Q=>∃ns,vs=[.fz (zn ns)]/\∀zs:List Int,zs.Pairwise (·<·)->(∀z,z∈zs↔z∈ns)->Q (dL (zs.map .int)) H,λh=>by
 refine aG h λns Lc h1=>?_;obtain rfl:=Lc;exact .Lf h1⟩
noncomputable abbrev Ax_:List PS:=[aZ (.var 27) (bI .Lf [bI .Ok [bO ⟨.val Ao_,⟨false,[1]⟩,[ID,ID,IC 26],ID⟩ (cI cT eG)]]),c5 (qG [bo qF (bZ 311 "width" 245 mA [qN]) (bI .len [Yt]),bo dX (bO ⟨.val Yt,⟨false,[1]⟩,[ID,ID,IC 6,IC 4],IC (gq (fO (bZ 311 "has" 224 eG [gv,cT])))⟩ cT) (dU [])]) [br (fW false)] []]
noncomputable abbrev B3_:List PS:=[eB (.tup [26,4]) (.bi .enum [gv]) Ax_,aZ (.var 28) (bI .len [bE 311 "trail" mA]),c5 (qG [gq (fO (bZ 427 "propagate" 414 Am_ [mA])),bo qF (bI .len [bE 311 "trail" mA]) (cO 28)]) [br (fW false)] []]
def Ur (B:Bs) (D:Addr) (W:List Addr) (h:Heap) (ks:List (List gM)):Prop:=∃xs:List (List gM×Addr×Value),h.DictOfH (vJ B.prog B.w) D xs/\xs.map (·.1)=ks/\∀x∈xs,Rp W h (.ref x.2.1) (mo x.1)
noncomputable def sD (ks:List (List gM)) (k:List gM):List (List gM):=@ite _ (k∈ks) (mr _) ks (ks++[k])
def PZ (B:Bs) (n:Nat) (kx vx:Expr) (ρ:fF) (H:List a_) (a:List (List gM)) (K:List (List gM)->List a_->Prop):Prop:=
 Ev B n kx ρ H λkv H3=>Ev B n vx ρ H3 λvv H4=>∃k,kv=.dat (mo k)/\a.length<=sizeLine/\K (sD a k) H4
theorem rq (p:h.DictOfH (vJ B.prog B.w) D xs) (r:∀x∈xs,Rp W h (.ref x.2.1) (mo x.1)) (k:∀b o,(b=D∨b∉W)->h.get? b=IC o->h'.get? b=IC o):h'.DictOfH (vJ B.prog B.w) D xs:=by
 refine NY p λo es ep ho h1 h2 h3 h4 h5=>(NX o es ep (k _ _ (.inl rfl) ho) h1 h2 h3 (λx hx=>?_) h5);have:=(r x hx).mono (W':=W) (h':=h') (λb o hb e=>k b o (.inr hb) e) λZ a b=>absurd a b;refine aG (Bi (B:=B) this:_) λa e q=>?_;cases e;exact q
theorem Uq:FZ B (Ur B) [] Pn where
 init:=λW h=>(bA ([]) (Heap.DictOfH.new h) rfl (λ_=>de))
 live:=rfl
 keep:=λD W h W' h' a f_ hD k f sub=>cP f_ λxs p e r=>(bA xs (rq p r k) e (λx hx=>(r x hx).mono (λb o hb e=>k b o (.inr hb) e) f))
 less:=λD W W' h a k_ hs=>cP k_ λxs p e r=>(bA xs p e (λx hx=>(r x hx).less hs))
 at_:=λD W h h' a j_ hD k=>cP j_ λxs p e r=>(bA xs (rq p r (λb o hb e=>k b o (hb.elim (λz=>z▸hD) id) e)) e (λx hx=>(r x hx).mono (λb o hb e=>k b o hb e) (λZ a b=>absurd a b)))
theorem zo:(storedH xs k a v).map (·.1)=sD (xs.map (·.1)) k/\∀x∈storedH xs k a v,(x.1=k/\x.2.1=a)∨∃y∈xs,y.1=x.1/\y.2.1=x.2.1:=by
 cases hc:atKey xs k with
 |none=>
  refine ah _ (storedH_new hc ..) ?_;have:k∉xs.map (·.1):=λhm=>by
   refine xA hm λx hx MN=>?_;obtain rfl:=MN;have:=List.find?_eq_none.mp (Option.map_eq_none_iff.mp hc) x hx;exact this (decide_eq_true rfl)
  refine⟨by(refine ah _ (aT ..) ?_;rw[sD];refine ah _ (if_neg this ..) ?_);rfl,λx hx=>?_⟩;rcases List.mem_append.mp hx with hx|hx
  ·exact .inr (bA x hx rfl rfl)
  ·refine ah _ (List.mem_singleton.mp hx ..) ?_;exact .inl ⟨rfl,rfl⟩
 |some p=>
  refine ah _ (storedH_old hc ..) ?_;have:k∈xs.map (·.1):=by
   refine aG (Option.map_eq_some_iff.mp hc:_) λx hx Z=>?_;have h1:=jl hx;exact ah _ (of_decide_eq_true h1 ..).symm (aO (f:=(·.1)) (yo hx))
  refine⟨by(refine ah _ (keys_map_putAt ..) ?_;rw[sD];refine ah _ (if_pos this ..) rfl),λx hx=>?_⟩;refine ig x (List.mem_map.mp hx:_) λy hy=>.inr (aN y hy ?_);unfold putAt;by_cases hk:y.1=k
  ·refine ah _ (if_pos hk ..) ?_;exact⟨rfl,rfl⟩
  ·refine ah _ (if_neg hk ..) ?_;exact⟨rfl,rfl⟩
theorem Bj {kx vx t:Expr}:ti (n:=n) B (.DictComp kx vx [⟨t,iter,ifs,0⟩] scope pos) iter t ifs scope (firstIterPos [⟨t,iter,ifs,0⟩] pos) (newDict) Pn
 (λD env=>do
  let kv←dq kx env;let vv←iG [kv] (dq vx env)
  lb {kx.pos with endLine:=vx.pos.endLine,endCol:=vx.pos.endCol}
  iG [kv,vv] (dictSet D kv vv)) (Ur B) [] (PZ B n kx vx) (λks=>.fz (u7 ks))where
 Y2:=λenv=>rfl
 Lv:=⟨[],rfl⟩
 JS:=λA s R h=>ce h
 JZ:=λA it acc env R s h0 h=>codeAny_compStart_dict h0 (aM h (λZ Z x=>x) λZ Z e=>e.elim)
 Ki:=λI0 D env=>compTurn_dict ..
 Lj:=λZ Z Z Z=>rfl
 Ln:=λZ Z Z=>rfl
 K:=Uq
 Jn:=by
  intro D env A ρ H a K s μ W g hs I ⟨xs,p,e,r⟩ hD NG MI;refine aa (Ev.then hs g I λv H1 μ1 W1 c s1 h1 I1 x1 r1=>aa (aV (Ev.then h1 g I1 λv2 H2 μ2 W2 c2 s2 h2 I2 x2 r2=>aa (bw (aV ?_)))));refine cP h2 λk KD u_ hk=>?_;obtain rfl:=KD;have Js:Ext [] μ W s μ2 W2 s2:=x1.trans x2 I.o_ (λZ h=>de h);have kW1:=Js.JU I.o_ λZ h=>de h;have p2:s2.heap.DictOfH (vJ B.prog B.w) D xs:=rq p r λb o hb e=>Js.keep b o (λz=>(List.mem_append.mp z).elim (λz=>hb.elim (λq=>NG (q▸z)) λq=>q (I.o_ b z)) λz=>de z) e;have r':∀x∈xs,Rp W2 s2.heap (.ref x.2.1) (mo x.1):=λx hx=>(r x hx).mono kW1 Js.fresh;have rk:Rp W2 s2.heap c (mo k):=l_.ext (v:=.dat (mo k)) I1 x2 r1;refine aG (Bi (B:=B) rk:_) λka LW ZY=>?_;obtain rfl:=LW;have hl:xs.length=a.length:=len_of_map_eq e;refine wpAny_dictSet_heap (knd:=vJ B.prog B.w) (k:=k) ?_ ZY p2 (λh' p' IH=>?_) (by refine ah _ hl ?_;exact u_)
  ·show A.units<cLine;have:=g.room;exact jQ this
  have Nk:D∉μ2:=λz=>by
   by_cases hm:D∈μ
   ·exact NG hm
   ·exact(Js.IW _ z hm).1 hD
  have kk:∀b o,b∉[D]->s2.heap.get? b=IC o->h'.get? b=IC o:=λb o hb e=>(IH.2 b (λz=>hb (List.mem_singleton.mpr z))).trans e;have kW:hV W2 s2.heap h':=λb o hb e=>kk b o (λq=>hb (by cases List.mem_singleton.mp q;exact Js.sub _ hD)) e;refine bh (zo (xs:=xs) (k:=k) (a:=ka) (v:=c2):_) λq1 q2=>?_;refine(w4 (sD a k) H2 μ2 W2 hk (I2.go [D] (cY h' _ rfl) kk (λb hb=>?_) (λZ h=>h) (λZ a b=>absurd a b) (λZ a b=>absurd a b) (λb hb hx=>hx.elim (λz=>?_) λz=>absurd hb z)) ?_ (bA _ p' (by(refine ah _ (q1 ..) ?_;refine ah _ e rfl)) (λx hx=>?_)))
  ·cases List.mem_singleton.mp hb;exact(fv (Js.sub _ hD) Nk (λq=>MI (q▸ae)) (λq=>MI (ag _ q)))
  ·cases List.mem_singleton.mp z;refine pt p' λo Z Z e Z=>?_;exact⟨o,e⟩
  ·exact⟨λb o hb e=>kk b o (λz=>hb (aR _ z)) (Js.keep b o (λz=>hb (az _ (by simpa using z))) e),Js.pre,Js.sub,Js.fresh,Js.IW⟩
  ·rcases q2 x hx with⟨e1,e2⟩|⟨y,hy,e1,e2⟩
   ·(refine ah _ e1 ?_;refine ah _ e2 ?_);exact rk.mono kW λZ a b=>absurd a b
   ·(refine ah _ e1.symm ?_;refine ah _ e2.symm ?_);exact(r' y hy).mono kW λZ a b=>absurd a b
 N1:=λD μ W h a p_ hD hs=>cP p_ λxs p e r=>by
  refine NY p λo es ep ho h1 h2 h3 h4 h5=>?_;have Zy:(D==pZ)=false:=beq_eq_false_iff_ne.mpr λz=>absurd C1 (by rw[z]at hs;exact Nat.not_lt.mpr hs);have T:=JQ.through (prog:=B.prog) (w:=B.w) Zy (bA o ho h1 h2);rw[h3,cV]at T;refine fzT (L:=xs.map λx=>(x.1,x.2.1)) hD ?_ (by refine ah _ (cV ..) ?_;exact e) λx hx=>?_
  ·(rw[cK];refine ah _ (cV ..) ?_);exact T
  ·exact ig x (List.mem_map.mp hx:_) λy hy=>r y hy
def PX (kx vx:PE) (B:Bs) (n:Nat) (vals:List (Option V)) (H:List a_) (a:List (List gM)) (K:List (List gM)->List a_->Prop):Prop:=
 kx.wp B n vals H λkv H3=>vx.wp B n vals H3 λZ H4=>m7 (λd=>aW (OT d) λk=>a.length<=sizeLine/\K (sD a k) H4) kv
theorem HA (ok:sK B) {kx vx:PE} {e1:Expr}:∀σ',(kx.t_ σ' e1&&vx.t_ σ' e2)=true->md σ'->∀vals1 ρ1 H a K K',fQ (jc σ' vals1) ρ1->(∀a H,K a H->K' a H)->PX kx vx B n vals1 H a K->PZ B n e1 e2 ρ1 H a K':=
 λσ' h hs vals1 ρ1 H a K K' hl hm q=>Ev.less hl (mS hs _) (qo hs _) ((kx.sound (ay h) ok q).mono λv H3 k1=>Ev.less hl (mS hs _) (qo hs _) ((vx.sound (au h) ok k1).mono λw H4 k2=>by
  refine cX v (df k2:_) λd k3=>?_;refine cP (ew k3:_) λk e k4 k5=>?_;cases CK e;exact(bA k rfl k4 (hm _ _ k5))))
noncomputable def IB (c:CC) (kx vx:PE):PE:=⟨λσ e=>mP (λk v gs sc=>c.t_ σ (λσ'=>kx.t_ σ' k&&vx.t_ σ' v) gs sc) e,λB n vals H Q=>c.wp (PX kx vx) [] B n vals H λa H1=>Q (.fz (u7 a)) H1,by
 intro σ e h B n vals H Q ok q;replace h:=pj h;exact Tu e h λk v gs sc p hc=>Tv gs (CC.sound ok (λZ Z k=>k) hc (HA ok) q:_) λt iter ifs a1 a2 a3 a4 a5 a6 a7 a8=>G0 Bj a1 a2 a3 a4 a5 a6 a7 a8⟩
variable {Q:tg->aD->Prop}
noncomputable abbrev Tn (TI TO T:Addr) (b:Bool):Obj:={cls:=.type "zip",data:=.fields #[em T,.bool b,.bool false,.ref TI,.ref TO]}
section
variable {prog:Program} {w:eQ} {A:du} {E:Value->aD->Prop} {s:aD} {k1 k2:J4} {z TI TO T i1 i2 l1 l2:Addr} {b:Bool} {xs ys:Array Value} {i lo:Nat} {h h':Heap}
structure ZB (lo:Nat) (k1 k2:J4) (z TI TO i1 i2 l1 l2:Addr) (xs ys:Array Value) (i:Nat) (h:Heap):Prop where
 z:∃(T:Nat) (b:Bool),h.get? z=IC (Tn TI TO T b)/\(∃o,h.get? T=IC o)/\lo<=T
 TI:lX h TI (.ref i1) (.ref i2)
 i1:F_ k1 h i1 l1 i
 i2:F_ k2 h i2 l2 i
 l1:Src k1 h l1 xs
 l2:Src k2 h l2 ys
theorem ZB.keep (D:s8 z TI TO i1 i2 l1 l2) (st:ZB lo k1 k2 z TI TO i1 i2 l1 l2 xs ys i h) (hz:∃T b,h'.get? z=IC (Tn TI TO T b)/\(∃o,h'.get? T=IC o)/\lo<=T) (k:∀b o,b≠z->h.get? b=IC o->h'.get? b=IC o):ZB lo k1 k2 z TI TO i1 i2 l1 l2 xs ys i h':=
 ⟨hz,k _ _ D.TIz st.TI,st.i1.at λo=>k _ o D.i1z,st.i2.at λo=>k _ o D.i2z,st.l1.at λo=>k _ o D.l1z,st.l2.at λo=>k _ o D.l2z⟩
structure Tg (z i1 i2 D lo:Nat):Prop where
 z:z<lo
 i1:i1<lo
 i2:i2<lo
 D:D<lo
theorem zp {d:Addr} (L:Tg z i1 i2 d lo) (D:s8 z TI TO i1 i2 l1 l2) (st:ZB lo k1 k2 z TI TO i1 i2 l1 l2 xs ys i s.heap) {Q:Bool->aD->Prop} (h:∀h',bN z s.heap h'->ZB lo k1 k2 z TI TO i1 i2 l1 l2 xs ys i h'->Q false {s with heap:=h'}):aC (bX prog w) A (dc (.ref z)) Q E s:=by
 refine hU st.z λT b hz f_ n1=>?_;refine bm f_ λot XU=>?_;refine aa (da hz rfl (x:=em T) rfl ?_);show aC _ _ (loadIfAlive ((T:Int).toNat)>>=_) _ _ _;refine ah _ (bG ..) (aa (kdx_alive XU (fE aA ?_)));refine aa (da hz rfl (x:=.bool b) rfl ?_)
 cases b with
 |true=>exact ai (h s.heap ⟨rfl,λZ Z=>rfl⟩ st)
 |false=>exact aa (fS hz (b6 [Value.bool false,dK TI,dK TO].length) λg1 MF Km=>ai (h g1 Km (st.keep D (eu T true MF ⟨ot,Km.extBut _ _ (d8 (aP L.z n1)) XU⟩ n1) λb o hb e=>Km.extBut _ _ hb e)))
theorem EE {d:Addr} (L:Tg z i1 i2 d lo) (hh:A.handled=ID) (D:s8 z TI TO i1 i2 l1 l2) (st:ZB lo k1 k2 z TI TO i1 i2 l1 l2 xs ys i s.heap) {x y:Value} (hx:xs[i]?=IC x) (hy:ys[i]?=IC y) {Q:Value->aD->Prop}
 (hQ:∀h' tk T,ZB lo k1 k2 z TI TO i1 i2 l1 l2 xs ys (i+1) h'->s.heap.objs.size<=T->lX h' T x y->(∀c o,c≠z->c≠i1->c≠i2->s.heap.get? c=IC o->h'.get? c=IC o)->Q (.ref T) {s with heap:=h',toks:=tk}):
 aC (bX prog w) A (Builtin.«zip.__next__» ⟨[.ref z],[]⟩) (λfin s'=>∃v,fin=.done (.ret v)/\Q v s') E s:=by
 refine gV st.z λZ Z hz Z=>?_;have T5:i<xs.size:=(Array.getElem?_eq_some_iff.mp hx).1;have hiy:i<ys.size:=(Array.getElem?_eq_some_iff.mp hy).1;show aC _ _ (uq (.ref z) 2>>=_) _ _ _;refine aa (da hz rfl (x:=.bool false) rfl ?_);show aC _ _ (uq (.ref z) 3>>=_) _ _ _;refine aa (da hz rfl (x:=.ref TI) rfl ?_);refine aa (cm st.TI rfl (fE aA ?_));refine aa (zp L D st λg1 Km Lw=>fE aA ?_);refine aa (ah _ (lD ..).symm ?_);simp only[je,pV];refine aa (aa (aV ?_));show aC _ _ (bL (.ref i1)>>=_) _ _ _;refine aa ((Draws.src hh k1 i1 l1 D.l1i1 xs).item i {s with heap:=g1} _ _ T5 ⟨Lw.i1,Lw.l1⟩ λx' g2 ME Lr Nv KC=>ai ?_);cases bS (Lr.symm.trans hx);refine ai (aa (aa (aV ?_)));show aC _ _ (bL (.ref i2)>>=_) _ _ _;refine aa ((Draws.src hh k2 i2 l2 D.l2i2 ys).item i {s with heap:=g2,toks:=ME} _ _ hiy ⟨Lw.i2.at λo e=>KC.extBut _ _ D.i12.symm e,Lw.l2.at λo e=>KC.extBut _ _ D.l2i1 e⟩ λy' g4 SM Zq Z6 Md=>ai ?_);cases bS (Zq.symm.trans hy);refine ai (ai (aa (sd (ai (aN _ rfl ?_)) (by show 2<=sizeLine;exact ba rfl))));have up:∀c o,c≠i1->c≠i2->g1.get? c=IC o->(g4.push {cls:=.type "tuple",data:=.seq #[x,y]}).get? c=IC o:=λc o c1 c2 e=>av _ (Md.extBut _ _ c2 (KC.extBut _ _ c1 e));have u_:g4.objs.size=s.heap.objs.size:=by(refine ah _ (Md.1 ..) ?_;refine ah _ (show g2.objs.size=g1.objs.size from KC.1) ?_;refine ah _ (Km.1 ..) rfl)
 refine hU Lw.z λT b MF k_ n1=>?_;refine bm k_ λot XU=>?_;refine hQ _ SM g4.objs.size ⟨(eu T b (up _ _ D.i1z.symm D.i2z.symm MF) ⟨ot,up _ _ (d8 (aP L.i1 n1)) (d8 (aP L.i2 n1)) XU⟩ n1),up _ _ D.TIi1 D.TIi2 Lw.TI,Nv.1.at λo e=>av _ (Md.extBut _ _ D.i12 e),Z6.1.at λo e=>av _ e,Lw.l1.at λo e=>up _ o D.l1i1 D.l1i2 e,Lw.l2.at λo e=>up _ o D.l2i1 D.l2i2 e⟩
  (bd u_.symm) (aH _ rfl) λc o c1 c2 c3 e=>up c o c2 c3 (Km.extBut _ _ c1 e)
theorem HB {d:Addr} (L:Tg z i1 i2 d lo) (hh:A.handled=ID) (D:s8 z TI TO i1 i2 l1 l2) (st:ZB lo k1 k2 z TI TO i1 i2 l1 l2 xs ys xs.size s.heap)
 (hE:∀h' e,(∀c o,c≠z->c≠i1->s.heap.get? c=IC o->h'.get? c=IC o)->(∃o,h'.get? e=IC o/\o.cls=.type "StopIteration")->E (.ref e) {s with heap:=h'}):
 aC (bX prog w) A (Builtin.«zip.__next__» ⟨[.ref z],[]⟩) Q E s:=by
 refine gV st.z λZ Z hz Z=>?_;show aC _ _ (uq (.ref z) 2>>=_) _ _ _;refine aa (da hz rfl (x:=.bool false) rfl ?_);show aC _ _ (uq (.ref z) 3>>=_) _ _ _;refine aa (da hz rfl (x:=.ref TI) rfl ?_);refine aa (cm st.TI rfl (fE aA ?_));refine aa (zp L D st λg1 Km Lw=>fE aA ?_);refine aa (ah _ (lD ..).symm ?_);simp only[je,pV];refine aa (aa (aV ?_));show aC _ _ (bL (.ref i1)>>=_) _ _ _;refine aa ((Draws.src hh k1 i1 l1 D.l1i1 xs).done {s with heap:=g1} _ _ ⟨Lw.i1,Lw.l1⟩ λg2 e KC he=>hE g2 e (λc o c1 c2 x=>KC _ _ c2 (Km.extBut _ _ c1 x)) he)
end
variable {Q:Option Value->aD->Prop}
theorem rt:typeLookup (.type "zip") "__getattr__"=pure none:=by(refine ah _ (qP ..) ?_;refine ah _ (kZ ..) ?_);kernel_rfl
theorem v5:typeLookup (.type "zip") "keys"=pure none:=by(refine ah _ (qP ..) ?_;refine ah _ (kZ ..) ?_);kernel_rfl
theorem n6:Ek table "zip.__getattribute__"=IC Builtin.«object.__getattribute__»:=
 El (id':="object.__getattribute__") (by kernel_rfl) rfl (by decide+kernel) (by kernel_rfl)
set_option maxRecDepth 8000 in
theorem HC (a:Addr) (vs:Array Value) (u:Tok):
 Meets (Builtin.«object.__getattribute__» ⟨[.ref a,.str "keys" u],[]⟩) (λA R s=>s.heap.get? a=IC {cls:=.type "zip",data:=.fields vs}/\raisesAttr (.ref a) "keys" A R s):=
 Meets.of_wp λprog w A R s hs=>by
  obtain⟨hp,g,d,tk,os⟩:=s;refine bh hs λhx hs=>?_;have hT:(⟨hp,g,d,tk,os⟩:aD).TypeIs (.ref a) "zip":=(aN _ hx rfl);have ace:=v5;have KJ:(["__module__","__name__","__qualname__","__doc__","__annotations__"]:List Str).contains ("keys":Str)=false:=rfl;unfold Builtin.«object.__getattribute__»
  repeat (any_goals (first|assumption|wp_step))
  repeat (any_goals (first|assumption|wp_step))
  exact wpAny_raiseAttrError hs.1 hs.2 (attrMsg_fits (ak rfl) (ba KJ))
section
variable {prog:Program} {w:eQ} {A:du} {E:Value->aD->Prop} {s:aD}
set_option maxRecDepth 8000 in
theorem HD {vs:Array Value} (hx:s.heap.get? a=IC {cls:=.type "zip",data:=.fields vs}) (hA:A.handled=ID)
 (h:∀h' tk,(∀b o,s.heap.get? b=IC o->h'.get? b=IC o)->Q ID {s with heap:=h',toks:=tk}):aC (bX prog w) A (getAttr? (.ref a) "keys") Q E s:=by
 obtain⟨hp,g,d,tk,os⟩:=s;have hT:∀KU,(⟨hp,g,d,KU,os⟩:aD).TypeIs (.ref a) "zip":=λZ=>(aN _ hx rfl);have f1:=sub_AttributeError;have f3:=F.slot_zip_getattribute.lookup;have f4:=F.slot_zip_getattribute.bind (.ref a);have f5:=rt;unfold getAttr? getAttrBy? getAttrBy
 repeat (any_goals (first|assumption|exact hT _|((with_reducible show aC _ _ (call (yz "zip.__getattribute__") _ _) _ _ _);refine call_meets F.slot_zip_getattribute (hT _) n6 (F.args_zip_getattribute_2 _ _) (HC a vs _) ⟨hx,hA,λh' KU e Lr=>?_⟩)|wp_step))
 refine lP Lr.there λt' u' he=>?_;show aC _ _ (getattributeRaised _ _ _ _ _ _ _) _ _ _;unfold getattributeRaised
 repeat (any_goals (first|assumption|wp_step))
 exact h _ _ Lr.of.keeps
end
variable {R:Do->aD->Prop}
section
variable {prog:Program} {w:eQ} {A:du} {E:Value->aD->Prop} {s:aD} {k1 k2:J4} {z TI TO T i1 i2 l1 l2 D:Addr} {b:Bool} {xs ys:Array Value} {i lo:Nat} {h h':Heap}
def ZS (lo:Nat) (k1 k2:J4) (z TI TO i1 i2 l1 l2:Addr) (xs ys:Array Value) (i:Nat) (h:Heap):Prop:=(i=0/\NI k1 k2 z TI TO i1 i2 l1 l2 xs ys .none 0 h/\lo<=h.objs.size)∨ZB lo k1 k2 z TI TO i1 i2 l1 l2 xs ys i h
theorem ZS.typeIs (st:ZS lo k1 k2 z TI TO i1 i2 l1 l2 xs ys i s.heap):s.TypeIs (.ref z) "zip":=by
 rcases st with⟨_,za,_⟩|zb
 ·exact(aN _ za.1 rfl)
 ·refine gV zb.z λZ Z hz Z=>?_;exact(aN _ hz rfl)
theorem zq (hT:s.TypeIs (.ref z) "zip") (h:aC (bX prog w) A.in1 (Builtin.«zip.__next__» ⟨[.ref z],[]⟩) (λfin s'=>∃v,fin=.done (.ret v)/\Q (IC v) s') (λe s'=>∃a o,e=.ref a/\s'.heap.get? a=IC o/\o.cls=.type "StopIteration"/\Q ID s') s):aC (bX prog w) A (hH (.ref z)) Q E s:=by
 refine aa (li (cR (name:=am "__next__") hT fm
  (cS fm hT nA (aM h (λfin s' f_=>aG f_ λv e q=>(aN v e (ai q))) λe s' k_=>lQ k_ λa o e1 e2 e3 q=>?_) (mM _))))
 subst e1;exact aa (eU (T:="StopIteration") (b:=true) (aN o e2 e3) nB (ai q))
theorem NO (L:Tg z i1 i2 D lo) (hh:A.handled=ID) (Z:s8 z TI TO i1 i2 l1 l2) (st:ZS lo k1 k2 z TI TO i1 i2 l1 l2 xs ys i s.heap) {x y:Value} (hx:xs[i]?=IC x) (hy:ys[i]?=IC y)
 (hQ:∀h' tk T,ZB lo k1 k2 z TI TO i1 i2 l1 l2 xs ys (i+1) h'->lX h' T x y->(∀c o,c≠z->c≠TO->c≠i1->c≠i2->s.heap.get? c=IC o->h'.get? c=IC o)->Q (IC (.ref T)) {s with heap:=h',toks:=tk}):aC (bX prog w) A (hH (.ref z)) Q E s:=by
 refine zq st.typeIs ?_;rcases st with⟨rfl,za,P7⟩|zb
 ·exact y4 (k1:=k1) (k2:=k2) (Q:=λv=>Q (IC v)) hh Z za hx hy λh' tk zc hp hk=>hQ h' tk _ ⟨(eu _ false zc.1 ⟨_,hp⟩ P7),zc.2.1,zc.2.2.2.1,zc.2.2.2.2.1,zc.2.2.2.2.2.1,zc.2.2.2.2.2.2⟩ hp hk
 ·exact EE (A:=A.in1) (Q:=λv=>Q (IC v)) L hh Z zb hx hy λh' tk T zc hT hp hk=>hQ h' tk T zc hp λc o c1 Z c3 c4 e=>hk c o c1 c3 c4 e
theorem Qq (L:Tg z i1 i2 D lo) (hh:A.handled=ID) (Z:s8 z TI TO i1 i2 l1 l2) (hi:i=xs.size) (st:ZS lo k1 k2 z TI TO i1 i2 l1 l2 xs ys i s.heap)
 (hQ:∀h' tk,(∀c o,c≠z->c≠TO->c≠i1->c≠i2->s.heap.get? c=IC o->h'.get? c=IC o)->Q ID {s with heap:=h',toks:=tk}):aC (bX prog w) A (hH (.ref z)) Q E s:=by
 refine zq st.typeIs ?_;rcases st with⟨rfl,za,_⟩|zb
 ·exact C7 (k1:=k1) (k2:=k2) hh Z za (aL _) (aL _) (.inl hi) λh' tk e hk he=>he.elim λo he=>(pv e o rfl he.1 he.2 (hQ h' tk hk))
 ·subst hi;exact HB (A:=A.in1) L hh Z zb λh' e hk he=>he.elim λo he=>(pv e o rfl he.1 he.2 (hQ h' s.toks λc o c1 Z c3 Z e=>hk c o c1 c3 e))
noncomputable def OU:Value->Int
 |.int i _=>i
 |_=>0
theorem HE (L:Tg z i1 i2 D lo) (hh:A.handled=ID) (Z:s8 z TI TO i1 i2 l1 l2) (hD:D∉[z,TI,TO,i1,i2,l1,l2]) (hl:xs.size=ys.size) (u_:xs.size<=sizeLine) (hint:∀v∈xs.toList,∃k t,v=.int k t):
 ∀(r i:Nat) (s:aD) (cvs:List (Int×Value)),xs.size - i=r->i<=xs.size->ZS lo k1 k2 z TI TO i1 i2 l1 l2 xs ys i s.heap->s.heap.DictOf (intKind prog w) D cvs->cvs.length<=i->
  (∀h' tk,(∀c o,c∉[D,z,TO,i1,i2]->s.heap.get? c=IC o->h'.get? c=IC o)->h'.DictOf (intKind prog w) D (((xs.toList.zip ys.toList).drop i).foldl (λacc p=>ny acc (OU p.1) p.2) cvs)->R (.ok (.ret .none)) {s with heap:=h',toks:=tk})->
  eY (bX prog w) A (.builtin "dict.update.loop" ⟨[.ref D,.ref z,em i,.none],[]⟩) R s:=by
 have plain:plainId "dict.update.loop"=true:=by decide+kernel
 have entry:Ek table "dict.update.loop"=IC Builtin.«dict.update.loop»:=entryFor_of_tree (by kernel_rfl);have hlen:(xs.toList.zip ys.toList).length=xs.size:=by(refine ah _ (List.length_zip ..) ?_;refine ah _ (aF ..) ?_;refine ah _ (aF ..) ?_;refine ah _ hl.symm ?_;refine ah _ (EF ..) rfl)
 simp only[cp,c6,or_false,not_or]at hD;refine D8 hD λd1 d2 d3 d4 d5 d6 d7=>?_;have out:∀{P:Prop} {c:Addr},c∉[D,z,TO,i1,i2]->(c≠D->c≠z->c≠TO->c≠i1->c≠i2->P)->P:=λhc f=>f (λq=>hc (q▸ae)) (λq=>hc (q▸ag _ ae)) (λq=>hc (q▸ag _ (ag _ ae)))
  (λq=>hc (q▸ag _ (ag _ (ag _ ae)))) λq=>hc (q▸ag _ (ag _ (ag _ (ag _ ae))))
 intro r
 induction r with
 |zero=>
  intro i s cvs hr hi st hd hc hR;have e:i=xs.size:=cC hi (kh hr);rw[C2 (by(refine ah _ hlen ?_;refine ah _ e ?_);exact aq _)]at hR;refine dR entry (ah _ (dH plain _ ..) ?_);show aC _ A.in1 (hH (.ref z)>>=_) _ _ s;exact aa (Qq L (by exact hh) Z e st λh' tk hk=>aa (ai (ai (hR h' tk (λc o hc e=>out hc λZ c1 c2 c3 c4=>hk c o c1 c2 c3 c4 e) (DictOf.at hd λo e=>hk D o d1 d3 d4 d5 e)))))
 |succ r ih=>
  intro i s cvs hr hi st hd hc hR;have r_:i<xs.size:=fH hr;have ZO:i<ys.size:=hl▸r_;refine lP (hint xs[i] (z5 r_):_) λk t LD=>?_;have Kv:(xs.toList.zip ys.toList).drop i=(xs[i],ys[i])::(xs.toList.zip ys.toList).drop (i+1):=by
   rw[cU (by refine ah _ hlen ?_;exact r_),List.getElem_zip];rfl
  rw[Kv,LD]at hR;have hx:xs[i]?=IC (.int k t):=by(refine ah _ (bq r_ ..) ?_;refine ah _ LD rfl)
  refine dR entry (ah _ (dH plain _ ..) ?_);show aC _ A.in1 (hH (.ref z)>>=_) _ _ s;refine aa (NO L (by exact hh) Z st hx (bq ZO) λh1 Z5 T zb hp Mw=>aa (aV ?_));refine aa (j8 (aa (il (T:="tuple") (aN _ hp rfl) (n3 (by decide) (aa (cm hp rfl (ai ?_)))))));have Y4:h1.DictOf (intKind prog w) D cvs:=DictOf.at hd λo e=>Mw D o d1 d3 d4 d5 e;refine aV (wpAny_dictSet_pairs (knd:=intKind prog w) (k:=k) (beq_self_eq_true _) Y4 (λh2 hd2 sb=>?_) (ab hc (ab hi u_)));have k2:∀c o,c≠D->h1.get? c=IC o->h2.get? c=IC o:=λc o hc e=>(sb.2 c hc).trans e;refine hU zb.z λT b z1 f_ z3=>?_;refine bm f_ λo z2=>?_;refine ai ⟨eD plain _,?_⟩;show eY _ A (.builtin "dict.update.loop" ⟨[.ref D,.ref z,em ((i+1:Nat):Int),.none],[]⟩) R _;refine ih (i+1) _ _ (congrArg GC hr) r_ (.inr ⟨(eu T b (k2 _ _ (di d1) z1) ⟨o,k2 _ _ (d8 (aP L.D z3)) z2⟩ z3),k2 _ _ (di d2) zb.TI,zb.i1.at λo=>k2 _ o (di d4),zb.i2.at λo=>k2 _ o (di d5),zb.l1.at λo=>k2 _ o (di d6),zb.l2.at λo=>k2 _ o (di d7)⟩) hd2 ?_ λh' tk IZ T8=>hR h' tk (λc o hc e=>IZ c o hc (out hc λc0 c1 c2 c3 c4=>k2 c o c0 (Mw c o c1 c2 c3 c4 e))) T8;refine ab ?_ (aY hc);unfold ny
  split
  ·refine ah _ (af ..) ?_;exact cL _
  ·refine ah _ (aw ..) ?_;exact aq _
end
variable {Q:Value->aD->Prop}
section
variable {prog:Program} {w:eQ} {A:du} {E:Value->aD->Prop} {s:aD} {k1 k2:J4} {z TI TO T i1 i2 l1 l2 D:Addr} {xs ys:Array Value} {h h':Heap}
theorem NI.keep {f0:Value} (x:NI k1 k2 z TI TO i1 i2 l1 l2 xs ys f0 i h) (k:∀b o,h.get? b=IC o->h'.get? b=IC o):NI k1 k2 z TI TO i1 i2 l1 l2 xs ys f0 i h':=
 D8 x λhz M9 f_ h1 h2 KM K4=>lP f_ λa b LP=>(Db (k _ _ hz) (k _ _ M9) (cY a b (k _ _ LP)) (h1.at λo=>k _ o) (h2.at λo=>k _ o) (KM.at λo=>k _ o) (K4.at λo=>k _ o))
theorem HF (hh:A.handled=ID) (Z:s8 z TI TO i1 i2 l1 l2) (st:NI k1 k2 z TI TO i1 i2 l1 l2 xs ys .none 0 s.heap) (hl:xs.size=ys.size) (u_:xs.size<=sizeLine) (hint:∀v∈xs.toList,∃k t,v=.int k t)
 (h:∀h' tk,(∀c o,c∉[z,TO,i1,i2]->s.heap.get? c=IC o->h'.get? c=IC o)->h'.DictOf (intKind prog w) s.heap.objs.size ((xs.toList.zip ys.toList).foldl (λacc p=>ny acc (OU p.1) p.2) [])->Q (.ref s.heap.objs.size) {s with heap:=h',toks:=tk}):
 aC (bX prog w) A (call (.type "dict") [.ref z]) Q E s:=by
 refine callType_codes (Q₁:=λobj s₁=>obj=.ref s.heap.objs.size/\s₁={s with heap:=s.heap.push {cls:=.type "dict",data:=.dict #[]}}) F.kt_called_dict (F.kt_typeCall_dict_1 _) F.entry_dict_init (kt_code_dict_new _ ⟨rfl,rfl⟩) ?_;intro obj s₁ k_;refine fq obj k_ λp_=>?_;obtain rfl:=p_;have JS:(s.heap.push {cls:=.type "dict",data:=.dict #[]}).DictOf (intKind prog w) s.heap.objs.size []:=my s.heap;have k0:∀b o,s.heap.get? b=IC o->(s.heap.push {cls:=.type "dict",data:=.dict #[]}).get? b=IC o:=λb o e=>av _ e;have Lw:=st.keep k0;refine⟨JS.typeIs,F.args_dict_init_2 _ _,?_⟩;refine aa (aa (wpAny_notOrdered_dict JS.typeIs (ai ?_)));show aC _ _ (Builtin.Dict.updateFrom "dict.__init__" s.heap.objs.size (.ref z) [] .none) _ _ _;refine aa (il (T:="zip") (aN _ Lw.1 rfl) (n3 rfl ?_));refine aa (HD (s:={s with heap:=s.heap.push {cls:=.type "dict",data:=.dict #[]}}) Lw.1 (by exact hh) λh1 Z5 Zj=>n3 rfl ?_);have Nv:=Lw.keep Zj;refine aa (nz (aa (y5 (s:={s with heap:=h1,toks:=Z5}) Nv.1 (ai ⟨eD (by decide+kernel) _,?_⟩))));have Q5:∀{c:Addr},(∃o,s.heap.get? c=IC o)->s.heap.objs.size≠c:=λ⟨o,e⟩=>di (bf (b0 e));have r_:∀{c:Addr},(∃o,h1.get? c=IC o)->c<h1.objs.size:=λ⟨o,e⟩=>b0 e;have Y4:h1.DictOf (intKind prog w) s.heap.objs.size []:=DictOf.at JS λo e=>Zj _ o e;have ho:∃o,h1.get? s.heap.objs.size=IC o:=pt Y4 λo Z Z e Z=>⟨o,e⟩;refine lP st.2.2.1 λY0 Y0 LP=>HE (A:=A.in1) (lo:=h1.objs.size) ⟨r_ ⟨_,Nv.1⟩,r_ Nv.2.2.2.1.some,r_ Nv.2.2.2.2.1.some,r_ ho⟩ hh Z ?_ hl u_ hint _ 0 {s with heap:=h1,toks:=Z5} [] rfl (aL _) (.inl ⟨rfl,Nv,aq _⟩) Y4 (aq _) λh' tk k2 hd2=>⟨rfl,h h' tk (λc o hc e=>?_) hd2⟩
 ·simp only[cp,c6,or_false,not_or];exact(Db (Q5 ⟨_,st.1⟩) (Q5 ⟨_,st.2.1⟩) (Q5 ⟨_,LP⟩) (Q5 st.2.2.2.1.some) (Q5 st.2.2.2.2.1.some) (Q5 st.2.2.2.2.2.1.some) (Q5 st.2.2.2.2.2.2.some))
 ·exact k2 c o (λhm=>(List.mem_cons.mp hm).elim (λq=>Q5 ⟨o,e⟩ q.symm) hc) (Zj c o (k0 c o e))
end
theorem EG {ks:List Int} {ws:List Value} (r1:n_ W h vs (ks.map .int)) (r2:n_ W h ws ds) {cvs:List (Int×Value)} {kvs:List (Int×PyData)} (e:cvs.map (·.1)=kvs.map (·.1)) (r:n_ W h (cvs.map (·.2)) (kvs.map (·.2))):
 (((vs.zip ws).foldl (λacc p=>ny acc (OU p.1) p.2) cvs).map (·.1)=((ks.zip ds).foldl (λacc p=>jV acc p.1 p.2) kvs).map (·.1))/\n_ W h (((vs.zip ws).foldl (λacc p=>ny acc (OU p.1) p.2) cvs).map (·.2)) (((ks.zip ds).foldl (λacc p=>jV acc p.1 p.2) kvs).map (·.2)):=by
 induction ks generalizing vs ws ds cvs kvs with
 |nil=>cases r1;exact⟨e,r⟩
 |cons k ks ih=>
  cases r1 with
  |cons a1 r1=>
   refine gc v (Rp.int_inv a1:_) λt=>?_
   cases r2 with
   |nil=>exact⟨e,r⟩
   |cons a2 r2=>
    exact bh (pD (k:=k) a2 e r:_) λq1 q2=>ih r1 r2 q1 q2
noncomputable def u8 (ks:List Int) (ds:List PyData):List (Int×PyData):=(ks.zip ds).foldl (λacc p=>jV acc p.1 p.2) []
theorem Ev.Vo {p p2 M0:FL} {Q:V->List a_->Prop} (h:Ev B n (.Name x p) ρ H λf H1=>f=.raw (.type "dict")/\Ev B n (.Name y p2) ρ H1 λg H2=>g=.raw (.type "zip")/\Ks B n args ρ H2 λvs H3=>
 ∃v1 v2 ks ds,vs=[v1,v2]/\gT H3 v1=IC (ks.map .int)/\gT H3 v2=IC ds/\ks.length=ds.length/\ks.length<=sizeLine/\Q (.m_ (u8 ks ds)) H3)
 (hp:fb args=true):Ev B n (.Call (.Name x p) [.Call (.Name y p2) args [] M0] [] pos) ρ H Q:=by
 intro A env s μ W g I;show aC B.M A (do pz pos (←dq (.Name x p) env) [] (gy pos (cJ [.Call (.Name y p2) args [] M0] env)) (j6 pos (f7 [] env))) _ _ s;refine aa (h.then g I λf H1 μ1 W1 c s1 h1 I1 x1 r1=>?_);refine bh h1 λk_ hE=>?_;obtain rfl:=k_;cases(show c=.type "dict" from r1);refine fy (.inr (.inl ⟨_,rfl⟩)) rfl ?_;show aC B.M A (w6 ((false,dq (.Call (.Name y p2) args [] M0) env)::[])) _ _ s1;simp only[w6];refine aa ?_;show aC B.M A (do pz M0 (←dq (.Name y p2) env) [] (gy M0 (cJ args env)) (j6 M0 (f7 [] env))) _ _ s1;refine aa (hE.then g I1 λf H2 μ2 W2 c s2 h2 I2 x2 r2=>?_);refine bh h2 λj_ hE2=>?_;obtain rfl:=j_;cases(show c=.type "zip" from r2);refine fy (.inr (.inl ⟨_,rfl⟩)) hp (aM (hE2 A env s2 μ2 W2 M0 g I2) (λcs s3 OW=>?_) λY0 Y0 e=>e);refine oU OW λvs H3 μ3 W3 p_ I3 x3 r3=>?_;refine TK p_ λv1 v2 ks ds s_ e1 e2 hlen u_ q=>?_;obtain rfl:=s_;refine⟨I3.KH,?_⟩;refine hU r3.two λc1 c2 C_ q1 q2=>?_;obtain rfl:=C_;refine Qw c1 (xk e1 I3 q1:_) λk1 l1 xs s1' QX=>Qw c2 (xk e2 I3 q2:_) λk2 l2 ys s2' MW=>ee (rJ s1' s2':_) λza hk Z=>?_;have hx:xs.size=ks.length:=by have:=QX.length;rw[af]at this;exact this
 have hy:ys.size=ds.length:=MW.length;refine callType_new Ds rfl (y6 _ _) (zZ _ _) (λobj=>uL obj _ _) A0 (vh (k1:=k1) (k2:=k2) l1 l2 xs ys) ⟨s1',s2',?_⟩;refine⟨(aN _ za.1 rfl),aa (ai (aa (aV (ai (ai ⟨?_,?_⟩)))))⟩
 ·exact B.KH.keeps λb o e=>hk b o (I3.old b o e)
 refine HF (s:={s3 with heap:=gk k1 k2 l1 l2 s3.heap}) g.1 Z za (by(refine ah _ hx ?_;refine ah _ hy ?_;refine ah _ hlen rfl)) (by refine ah _ hx ?_;exact u_) (λv hv=>?_) λh' tk k hd=>?_
 ·refine bm (List.mem_iff_getElem.mp hv:_) λi JR=>?_;refine FB v JR λhi=>?_;have LO:i<(ks.map aS).length:=QX.length▸hi;refine aG (QX.get (aJ LO):_) λc e3 r4=>?_;rw[aJ hi]at e3;cases bS e3;rw[iI]at r4;exact bm (Rp.int_inv r4:_) λt e5=>(cY _ t e5)
 ·have kk:∀b o,s3.heap.get? b=IC o->h'.get? b=IC o:=λb o e=>k b o (λhm=>?_) (hk b o e)
  ·refine bh (EG (QX.keeps kk) (MW.keeps kk) (cvs:=[]) (kvs:=[]) rfl .nil:_) λf1 f2=>?_;have V0:s3.heap.objs.size<=(gk k1 k2 l1 l2 s3.heap).objs.size:=by unfold gk;simp only[bz];exact X7
   refine .then I x1 (.then I1 x2 (.then I2 x3 (.keeps I3 (cY h' tk rfl) kk (v:=.m_ (u8 ks ds)) (sZ _ _ rfl (I3.out V0) (ab (bj I3.lt) V0) hd f1 f2) q)))
  ·have hb:=b0 e;simp only[cp,c6,or_false]at hm;rcases hm with rfl|rfl|rfl|rfl
   ·exact absurd hb (Nat.not_lt.mpr (b5 _ _))
   ·exact absurd hb (Nat.not_lt.mpr (b5 _ _))
   ·exact b7 _ hb
   ·exact absurd hb (Nat.not_lt.mpr (b5 _ _))
noncomputable def zU (a b:PE):PE:=⟨λσ e=>jg (λfn args Jx=>Jx.isEmpty&&(rL σ (.type "dict") fn&&jx args.head? λz=>args.tail.isEmpty&&jg (λgn zs MY=>MY.isEmpty&&(rL σ (.type "zip") gn&&gA σ [a,b] zs)) z)) e,λB n vals H Q=>m8 [a,b] B n vals H λvs H1=>AC (λv1 v2=>aW (gT H1 v1) λxs=>aW (gT H1 v2) λds=>aW (oi xs) λks=>(ks.length=ds.length/\ks.length<=sizeLine)/\Q (.m_ (u8 ks ds)) H1) vs,by
 intro σ e h B n vals H Q ok q;replace h:=fu h;refine mC e h λfn args Jx p hc=>?_;cases ez (ay hc);refine jq fn (d0 (ay (au hc)):_) λx p2 hd=>uO (au (au hc)) λz hz h1=>?_;refine rV (fu (au h1):_) λgn zs MY p3 Ji h2=>?_;obtain rfl:=Ji
 cases args with
 |nil=>exact ft hz
 |cons z0 zr=>
  cases hz;cases ez (ay h1);cases ez (ay h2);refine gV (d0 (ay (au h2)):_) λy p4 JE hd2=>?_;obtain rfl:=JE;have h3:=au (au h2);refine Ev.Vo (Ev.glob hd ⟨rfl,Ev.glob hd2 ⟨rfl,(gC ok _ h3 q).mono λvs H2 k4=>?_⟩⟩) (iQ _ h3);refine jq vs (kE k4.2:_) λv1 v2 k5=>jF k5 λxs e1 k6=>jF k6 λds e2 k7=>cP (ew k7:_) λks e3 k8 k9=>?_;exact(uz v1 v2 ks ds rfl (by(refine ah _ e1 ?_;refine ah _ (tC e3 ..) rfl)) e2 k8.1 k8.2 k9)⟩
variable {Q:iY->fF->List a_->Prop}
structure Bk (B:Bs) (C f:Addr):Prop where
 cls:∃cd,clsIn B.K C=IC cd/\alongIn B.K "__init__" ((cd.mro.dropWhile (·!=.ref C)).drop 1)=IC (IC (.ref f))
 sub:mroIn B.K C (.ref C)=IC true
 opq:nsIn B.K cStatics "thirdparty.any"=IC ID
 fn:∃of,B.K.lookup f=IC of/\of.cls=.type "function"
 fnIn:fnIn B.K f=true
set_option tactic.hygienic true in
theorem Nq.super {f:Addr} {rest:List Stmt} {p0 p1 MP:FL} (S:Bk B C f) (RF:(bR,Kd.sup,IC (.raw (.ref C)))∈ρ) (Uy:(am "self",Kd.cell,IC (.inst C i))∈ρ)
 (hsg:(am "super",Kd.glob,IC (.raw (.type "super")))∈ρ) (hp:fb args=true) (JI:(apos.endLine==pos.line)=true) (Ll:∀env,Dq (args.length+([]:List jB).length) (gy pos (cJ args env)) (j6 pos (f7 [] env))=true) (Zz:∀env,ng (.Call (.Attribute (.Call (.Name "super" p0) [] [] p1) "__init__" apos) args [] pos) ID MP.line env=pure false)
 (h:Ks B n args ρ H λvs H1=>Mb B n (.ref f) (.inst C i::vs) H1 λZ H2=>Ex B n rest ρ H2 Q):
 Nq B n (.Expr (.Call (.Attribute (.Call (.Name "super" p0) [] [] p1) "__init__" apos) args [] pos) MP::rest) ρ H Q:=by
 intro A env s μ W g I;obtain⟨LD,fa,oc,od,fd,MX,ca,cl,Te,Td,C',e1,hfu,hlf,V4,JB,sf,T0,hca⟩:Kd.sup=.sup/\FK B env (IC (.raw (.ref C))):=by
  rcases I.vars _ _ RF with⟨q,_⟩|⟨q,_⟩|⟨q,_⟩|q
  ·cases q
  ·cases q
  ·cases q
  ·exact q
 cases e1;have X:=I.KH;refine aG sf.self λar har RH=>TH sf.file λcc occ vsf file tf Y6 ZR Nc Uv V1=>?_;have ZX:∀x,env.kindOf x=fd.scope.names.lookup x:=λx=>by show env.scope.names.lookup x=_;refine ah _ JB rfl
 refine aG S.cls λcd Q8 S0=>?_;have hC:∃oD,B.K.lookup C=IC oD/\oD.data=.cls cd:=by
  revert Q8;unfold clsIn;generalize B.K.lookup C=x
  cases x with
  |none=>exact λh=>ft h
  |some o=>obtain⟨a,b,d,e⟩:=o;cases d<;>first|exact λh=>ft h|exact λh=>⟨_,rfl,congrArg Data.cls (bS h)⟩
 refine aG hC λoD ZT hdD=>aG S.fn λof ZQ ZI=>ks_wpAt_execs_cons (ks_wpAt_Expr_any ?_ I.JG (Zz env));refine ah _ (arm_eval_Call ..) (PySem.wpAt_bind (ks_wpAt_super_base ((ZX _).trans sf.sup) ((ZX _).trans sf.cls) rfl hfu (X _ _ hlf) rfl har (V4.trans Y6) (X _ _ ZR) Nc Uv V1 sf.top ?_));refine qU (k:=.glob) (v:=.raw (.type "super")) I nofun hsg λc r=>⟨r,?_⟩;have LF:s.heap.IsCell ca (IC (.ref C)):=(aN _ (X _ _ hca) rfl);refine wpAny_loadName_free I.q_.kind ((ZX _).trans sf.cls) T0 LF (ah _ RH ?_);refine qU (k:=.cell) (v:=.inst C i) I nofun Uy λc r2=>jU c r2 λx dx hxW hm hx=>ks_wpAny_isType_cls (X _ _ ZT) hdD ⟨rfl,?_⟩;refine ks_wpAny_call_super (X _ _ ZT) hdD hx rfl (λZ e=>nomatch e) (looks_mroIn X S.sub) λh1 hso k1=>?_;have X1:B.K.In h1:=X.keeps k1;have k2:∀b o,s.heap.get? b=IC o->(h1.push {cls:=.type "method",data:=.fields #[.ref f,.ref x]}).get? b=IC o:=λb o e=>av _ (k1 b o e);have LM:Looks B.M h1 (mroOf (.ref C)) cd.mro:=(looks_clsIn X1 Q8).andThen .now;have hxC:x≠C:=λe=>by
  have h1:=X _ _ ZT;rw[←e,hx]at h1;cases h1;cases hdD
 refine qd (aa (bw ?_));unfold methodCall;rw[Ll];refine aa (aV ?_);refine ks_wpAny_getMethod_super hso (looks_opaque X1 S.opq) LM rfl X1 S0 (X1 _ _ ZQ) ZI hxC rfl ?_;have I2:Inv B env ρ H μ W {s with heap:=h1.push {cls:=.type "method",data:=.fields #[.ref f,.ref x]},toks:=s.toks+1}:=I.keeps (cY _ _ rfl) k2;have hb:(h1.push {cls:=.type "method",data:=.fields #[.ref f,.ref x]}).get? h1.objs.size=IC (methodObj (.ref f) (.ref x)):=aH _ rfl;have hbm:h1.objs.size∉μ:=λz=>by
  exact bm (I.alive _ (I.o_ _ z):_) λo e=>b7 _ (b0 (k1 _ _ e))
 have M4:uo true (.Call (.Name "super" p0) [] [] p1) env apos pos=pure pos:=by unfold uo;exact if_pos JI
 refine aa (lz M4 ?_);refine td (P:=MethP B.K h1.objs.size f (.ref x)) (keeps_M S.fnIn) hp (aM (h A env _ μ W pos g I2) (λcs s3 OW=>?_) λZ Z e=>e);refine oU OW λvs H1 μ1 W1 q I3 x3 r3=>?_;have hb3:=x3.keep _ _ (λz=>hbm (List.mem_append.mp z|>.elim id λz=>de z)) hb;refine⟨⟨hb3,I3.KH⟩,?_⟩;have hx3:=x3.keep x _ (λz=>(List.mem_append.mp z).elim (λz=>hxW (I.o_ _ z)) λz=>de z) (k2 _ _ hx);refine aM (uH (ks_codeAny_call_bound hb3 (q A env ρ s3 μ1 W1 (.ref x::cs) g I3 (.cons (pv x dx rfl (x3.fresh.out hxW (k2 _ _ hx)) (x3.pre.get hm) hx3) r3)))) (λc s4 XR=>?_) λZ Z e=>e;refine oU XR λv H2 μ2 W2 qE I4 x4 Z=>?_;have x14:Ext [] μ W s μ2 W2 s4:=(Ext.keeps k2).trans (x3.trans x4 I.o_ λZ h=>de h) I.o_ λZ h=>de h;exact qd (aM (qE A env s4 μ2 W2 g I4) (λfl s5 p5=>Jc.then I x14.Jw p5) λZ Z e=>e)
variable {vs:List V} {Q:List V->List a_->Prop} {o:Option V} {r r':fF}
theorem Lb.sup {v:V} (z:Lb r y v r') (hm:(x,Kd.sup,o)∈r):(x,Kd.sup,o)∈r':=by
 induction z with
 |here hk=>
  rcases List.mem_cons.mp hm with e|hm
  ·cases e;exact absurd rfl hk.2
  ·exact ag _ hm
 |there _ ih=>
  rcases List.mem_cons.mp hm with e|hm
  ·exact e▸ae
  ·exact ag _ (ih hm)
theorem Je.sup {xs:List Str} (z:Je r xs vs r') (hm:(x,Kd.sup,o)∈r):(x,Kd.sup,o)∈r':=by
 induction z with
 |nil=>exact hm
 |cons z _ ih=>exact ih (z.sup hm)
theorem JW.insert {post:List (Str×bB)} (v:Option V):∀{pre:List (Str×bB)} {ρ':fF},JW B [] (pre++post) ρ'->∃ρ2,JW B [] (pre++(bR,.free)::post) ρ2/\(∀p,p∈ρ'->p∈ρ2)/\(bR,Kd.sup,v)∈ρ2/\∀p,p∈ρ2->p∈ρ'∨p=(bR,Kd.sup,v):=by
 intro pre
 induction pre with
 |nil=>intro ρ' c;exact(qS _ (.sup c) (λp hp=>ag _ hp) ae (λp hp=>(List.mem_cons.mp hp).symm.imp id id))
 |cons a pre ih=>
  intro ρ' c;have wrap:∀{r ρ2:fF} {e:Str×Kd×Option V},((∀p,p∈r->p∈ρ2)/\(bR,Kd.sup,v)∈ρ2/\∀p,p∈ρ2->p∈r∨p=(bR,Kd.sup,v))->(∀p,p∈e::r->p∈e::ρ2)/\(bR,Kd.sup,v)∈e::ρ2/\∀p,p∈e::ρ2->p∈e::r∨p=(bR,Kd.sup,v):=λ⟨h1,h2,h3⟩=>
   ⟨λp hp=>(List.mem_cons.mp hp).elim (λe=>e▸ae) λhp=>ag _ (h1 p hp),ag _ h2,λp hp=>(List.mem_cons.mp hp).elim (λe=>.inl (e▸ae)) λhp=>(h3 p hp).imp (ag _) id⟩
  cases c with
  |loc c=>refine aG (ih c:_) λρ2 c2 h2=>?_;exact(aN _ (.loc c2) (wrap h2))
  |cell c=>refine aG (ih c:_) λρ2 c2 h2=>?_;exact(aN _ (.cell c2) (wrap h2))
  |free hm c=>nomatch hm
  |sup c=>refine aG (ih c:_) λρ2 c2 h2=>?_;exact(aN _ (.sup c2) (wrap h2))
  |glob hg c=>refine aG (ih c:_) λρ2 c2 h2=>?_;exact(aN _ (.glob hg c2) (wrap h2))
theorem Ks.less {es:List Expr} (hl:fQ ρ' ρ) (nd:(ρ'.map (·.1)).Nodup) (h0:r6 ρ') (h:Ks B n es ρ' H Q):Ks B n es ρ H Q:=λA env s μ W pos g I=>
 aM (h A env s μ W pos g (I.less hl nd h0)) (λZ Z IV=>by refine oU IV λv H' μ' W' q I' x r=>?_;exact(w4 v H' μ' W' q (I.back I' x) x r)) λZ Z e=>e
noncomputable def y_:FD:=(tE (w2 30 (IC 0))).getD ⟨[],[],[]⟩
noncomputable def kz:Addr:=390
structure XE (B:Bs):Prop where
 init:FW B (.ref kz) y_.ps y_.body y_.names (IC (.raw (.ref 427)))
 sup:Bk B 427 329
noncomputable def QO (σ:lJ) (args:List PE) (st:Stmt):Bool:=sJ (λe=>!wA e&&jg (λfn as Jx=>Jx.isEmpty&&(iP as.length 20&&gA σ args as)&&(fn.pos.endLine==e.pos.line&&gh (λo y=>ga y (am "__init__")&&jg (λsn as2 MY=>as2.isEmpty&&(MY.isEmpty&&kM (λz=>ga z (am "super")) sn)) o) fn)) e) st
noncomputable def J6:List (Str×bB):=y_.names.take 3++y_.names.drop 4
theorem u9:y_.names=y_.names.take 3++(bR,.free)::y_.names.drop 4:=by kernel_rfl
noncomputable def PF.Vs (c:PF) (args:List PE) (k:Nat):Bool:=wz J6&&(r8 (y_.names.map (·.1))&&jx (r7 ⟨[],[]⟩ J6 (kQ J6)) λσ=>Oi σ&&(σ.slots.length==c.m&&(rM σ c.SP y_.ps&&(Gf σ.Jo (am "super") (.type "super")&&(jx σ.slots[k]? (λp=>ga p.1 (am "self")&&dp p.2.ctorIdx 1)&&(jx y_.body.head? (λst=>QO σ args st)&&qr σ c.body y_.body.tail))))))
def PF.wpS (c:PF) (args:List PE) (k:Nat) (B:Bs) (n:Nat) (vs:List V) (H:List a_) (Q:V->List a_->Prop):Prop:=aW (qt (lL c.m ID) c.SP vs) λvals=>QK vals k λv=>aW (Gi v) λp=>p.1=427/\m8 args B n vals H λws H1=>Mb B n (.ref 329) (v::ws) H1 λZ H2=>cA c.body B n vals H2 λfl Z H3=>∃v0 H0,K7 H.length (pf fl) H3 v0 H0/\Q v0 H0
theorem PF.init {c:PF} {args:List PE} {k:Nat} (ok:sK B) (Nw:XE B) (h:c.Vs args k=true) {Q:V->List a_->Prop} (q:c.wpS args k B n vs H Q):Mb B (n+1) (.ref kz) vs H Q:=by
 have h0:=au h;refine uO (au h0) λσ e h1=>?_;have hs:=wy (ay h1);have h2:=au h1;have hm:σ.slots.length=c.m:=eq_of_beq (ay h2);have h3:=au h2;have h4:=au h3;have h5:=au h4;have h6:=au h5;refine jF q λvals e1 q1=>?_;rw[←hm]at e1;refine aG (AD (σ:=⟨[],[]⟩) (vals:=[]) ok J6 e (vA J6 _ e):_) λρ0 J3 Jk=>lO (JW.insert (IC (.raw (.ref 427))) J3:_) λρ2 Ng k1 k2 k3=>?_;rw[←u9]at Ng;have nd:(y_.names.map (·.1)).Nodup:=oM (ay h0);have hl:fQ (jc σ (lL σ.slots.length ID)) ρ2:=λx k o hx=>(aN o (k1 _ (Jk _ hx)) (.inr rfl));refine aG (yu hs (λi hi=>uQ hi) c.SP (ay h3) e1 hl hl (by refine ah _ (Ng.keys ..) ?_;exact nd):_) λρ1 zs l1=>?_;refine jF q1 λo e2 q2=>?_;refine jF q2 λv f_ q3=>?_;obtain rfl:=f_;refine cP (ew q3:_) λk_ e3 j_ q4=>?_;obtain⟨C,i⟩:=k_;obtain rfl:=j_;cases yk e3;refine uO (ay h5) λp e4 h7=>?_;obtain⟨x,kd⟩:=p;cases eK (ay h7);have hkd:kd=.cell:=by have:=au h7;cases kd<;>first|rfl|exact fP this
 subst hkd;refine uO (ay h6) λst e5 h8=>?_;have LG:y_.body=st::y_.body.tail:=by
  cases hb:y_.body with
  |nil=>rw[hb]at e5;exact ft e5
  |cons a l=>rw[hb]at e5;cases e5;rfl
 refine gV (tq h8:_) λex p1 p_ h9=>?_;obtain rfl:=p_;refine rV (fu (au h9):_) λfn as Jx p2 s_ Pe=>?_;obtain rfl:=s_;have Ta:=ay Pe;cases ez (ay Ta);refine pt (g9 (au (au Pe)):_) λob y p3 C_ Yg=>?_;obtain rfl:=C_;cases eK (ay Yg);refine rV (fu (au Yg):_) λsn as2 MY p4 II T_=>?_;obtain rfl:=II;cases ez (ay T_);cases ez (ay (au T_));refine gV (d0 (au (au T_)):_) λz p5 IY h14=>?_;obtain rfl:=IY;cases eK h14;refine aG (l1 _ _ _ (az _ (ji _ e4 e2)):_) λo1 m1 d1=>aG (l1 (am "super") .glob (IC (.raw (.type "super"))) (aR _ (aO (f:=λg:Str×Value=>((g.1,Kd.glob,IC (V.raw g.2)):Str×Kd×Option V)) (Cd (ay h4)))):_) λo2 m2 d2=>?_;have d1:=d1.resolve_left v8;have d2:=d2.resolve_left v8;subst d1 d2;have Q2:=iQ args (au (au Ta));refine Mb.fnS Nw.init Ng nd ?_ (λv hv=>?_) zs ?_
 ·intro hc;rw[u9]at hc;rcases List.mem_append.mp hc with hc|hc
  ·exact(me (ay h)).2 _ (az _ hc)
  ·rcases List.mem_cons.mp hc with e|hc
   ·cases e
   ·exact(me (ay h)).2 _ (aR _ hc)
 ·rcases k3 _ hv with hv|e
  ·have:bR∈J6.map (·.1):=by refine ah _ (J3.keys ..).symm ?_;exact aO (f:=(·.1)) hv
   refine xA this λJR hx e=>?_;obtain⟨x,kk⟩:=JR;cases e;exact absurd hx ((me (ay h)).2 kk)
  ·cases e;exact⟨rfl,v8⟩
 ·refine ah _ LG (Nq.super Nw.sup (zs.sup k2) m1 m2 Q2 (ay (au Pe)) (Gq Q2 (ay (au Ta)) _) (λenv=>tD (ay h9) _ _ _) (Ks.less l1 (mS hs _) (qo hs _) ((gC ok _ (au (au Ta)) q4).mono λws H1 hw A env ρ' s μ W cs g I r=>?_)));refine qf (hw.2 A env ρ' s μ W cs g I r) λres s' hz=>?_;rcases res with er|(v|_|_|_)<;>first|exact hz.elim|skip
  exact pE hz λv' H2 μ2 W2 qq I2 x2 r2=>(pI v' H2 μ2 W2 (Ex.less l1 (mS hs _) (qo hs _) ((kP ok c.body (au h6) qq).mono λf ρ' H' hz=>hz.elim λZ hz=>hz.2)) I2 x2 r2)
set_option maxRecDepth 20000
noncomputable def zt:PF:=⟨1,[0],[br (bI .tuple [bI .Kq [IB ⟨.loc eV,⟨false,[1]⟩,[ID,ID],ID⟩ cT SH]])]⟩
theorem zu:f9 369 zt=true:=by decide+kernel
noncomputable def Kk:PF:=⟨3,[0,1,2],[aZ (.attr 427 "rows" eV) (bI .tuple [bO ⟨.loc eG,⟨false,[1]⟩,[ID,ID],ID⟩ Yl]),aZ (.attr 427 "able" eV) (bO ⟨.val (bE 427 "rows" eV),⟨false,[1]⟩,[ID,ID,IC 0],IC (fO (bZ 427 "is_one" 395 eG [cT]))⟩ cT),aZ (.attr 427 "columns" eV) (bO ⟨.bi .B_ [bI .len XH],⟨false,[1]⟩,[ID,ID,IC 0],ID⟩ (bO ⟨.val (bE 427 "able" eG),⟨false,[1]⟩,[ID,ID,IC 1],ID⟩ (cI cT eG)))]⟩
theorem xl:Kk.Vs [bI .tuple [cT],eA "values"] 0=true:=by decide+kernel
noncomputable def ua:PF:=⟨3,[0,1],[aZ (.var 2) (zU (bE 427 "scope" eV) cT),br (xy [gN jK (bI .len [cT]) (bI .len XH),gN dW (bO ⟨.val (bE 427 "scope" eV),⟨false,[1]⟩,[ID,ID,IC 2],ID⟩ (zR eG cT)) (bI .list [cT])])]⟩
theorem ub:f9 395 ua=true:=by decide+kernel
noncomputable def EH:PF:=⟨7,[0,1],[jL [2,3] [eE 1 cT,eE 2 cT],aZ (.var 4) fh,eB (.tup [5,6]) (.val eV) [c5 (bo D4 eG (ci [eA "<=",eA "!="])) [dY (gE qN (ci [sL,bI .min2 [mA,jR Yo gv (bK .sub gv lK)]]))] [],c5 (bo D4 eG (ci [eA ">=",eA "!="])) [dY (gE qN (ci [bI .max2 [sL,jR Yn gv (bK .add gv lK)],mA]))] [],c5 Bp_ [dY (gE qN (ci [bI .max2 [sL,gv],bI .min2 [mA,gv]]))] []],br (bI .tuple [bO ⟨.val (bI .Kq [bI .MV [qN]]),⟨false,[1]⟩,[ID,ID],IC (bo n9 (eE 0 cT) (eE 1 cT))⟩ cT])]⟩
theorem EI:f9 460 EH=true:=by decide+kernel
noncomputable def Bl:PF:=⟨4,[0,1,2],[aZ (.var 3) (zU cT eG),br (bO ⟨.val eV,⟨false,[1]⟩,[ID,ID,IC 3],IC (gq (fO (bn 443 [cT,zR eG (eE 0 cT)])))⟩ cT)]⟩
theorem Bm:f9 465 Bl=true:=by decide+kernel
noncomputable def Bn:PF:=⟨14,[0,1,2,3,4,5],[qI [6,7] 7 [bI .len [bE 311 "trail" cT],bO ⟨.bi .B_ [bZ 311 "size" 189 cT []],⟨false,[1]⟩,[ID,ID,IC 1],ID⟩ Tk],jL [8,9] [bn 470 [Qp,eG,qN],bn 470 [sL,eG,qN]],eB (.var 10) (.bi .B_ [bI .len [eG]]) [eB (.var 11) (.bi .LZ [bK .sub (cI gv (cI eG PC)) lK,bK .add (cI gv (cI eG PC)) Tm]) At_],br (gN jK (bI .len [bE 311 "trail" cT]) mA)]⟩
theorem Bo:f9 475 Bn=true:=by decide+kernel
noncomputable def Qi:PF:=⟨29,[0],[iW 1 Yp,aZ (.var 2) Bn_,aZ (.var 3) B9_,iW 5 Yr,aZ (.var 6) (bn 311 []),eB (.var 7) (.val sL) Ys,iX 9 ⟨.bi .B_ [bI .len [sL]],⟨false,[1]⟩,[ID,ID,IC 6],ID⟩ Tk,aZ (.var 10) fh,eB (.var 11) (.bi .B_ Bi_) Yq,iX 13 ⟨.loc PC,⟨false,[1]⟩,[ID,ID,IC 3],IC B5_⟩ cT,aZ (.var 14) (bn 427 [gv,PC]),eB (.var 11) (.bi .B_ [bn 436 [eG,gb 4]]) Aw_,c5 Bq_ NL [],dY (bZ 311 "push" 287 mA []),jL [16,17] Bc_,qI [18,19,20] 20 Bk_,aZ (.var 21) Bl_,c5 B6_ NL [],eB (.tup [4,22,23,24,25]) (.val (vZ (bE 311 "trail" mA) Ar_)) Au_,c5 Bd_ NL [],c5 (gq (fO Yv)) Av_ B3_,dY (bZ 311 "pop" 294 mA [lK]),br B0_]⟩
theorem Ul:f9 480 Qi=true:=by decide+kernel
variable {ks:List Nat} {x:Nat} {f:Nat->Int} {l:Nat->Nat} {Q:V->List a_->Prop}
theorem zv (kvs:List (Int×PyData)) (k:Int) (d:PyData) (x:Int):iq (jV kvs k d) x=if k=x then IC d else iq kvs x:=by
 unfold jV iq;by_cases Kz:(kvs.any λkv=>decide (kv.1=k))=true
 ·(refine ah _ (if_pos Kz ..) ?_;refine ah _ (List.find?_map ..) ?_)
  have hp:((λkv:Int×PyData=>decide (kv.1=x))∘λkv:Int×PyData=>if kv.1=k then(kv.1,d)else kv)=λkv:Int×PyData=>decide (kv.1=x):=funext λkv=>by
   show decide ((if kv.1=k then(kv.1,d)else kv).1=x)=_
   split<;>rfl
  refine ah _ hp ?_;by_cases hx:k=x
  ·subst hx;refine ah _ (if_pos rfl ..) (aG (List.any_eq_true.mp Kz:_) λkv h1 h2=>?_);cases hf:kvs.find? λkv=>decide (kv.1=k)with
   |none=>exact absurd h2 (List.find?_eq_none.mp hf kv h1)
   |some z=>show IC (if z.1=k then(z.1,d)else z).2=_;refine ah _ (if_pos (of_decide_eq_true (jl (p:=λkv:Int×PyData=>decide (kv.1=k)) hf)) ..) rfl
  ·refine ah _ (if_neg hx ..) ?_;cases hf:kvs.find? λkv=>decide (kv.1=x)with
   |none=>rfl
   |some z=>
    have:z.1=x:=of_decide_eq_true (jl (p:=λkv:Int×PyData=>decide (kv.1=x)) hf);show IC (if z.1=k then(z.1,d)else z).2=IC z.2;refine ah _ (if_neg λe=>hx (e.symm.trans this) ..) rfl
 ·(refine ah _ (if_neg Kz ..) ?_;refine ah _ (List.find?_append ..) ?_)
  by_cases hx:k=x
  ·subst hx;have:kvs.find? (λkv=>decide (kv.1=k))=none:=List.find?_eq_none.mpr λkv ZW e=>Kz (List.any_eq_true.mpr (aN kv ZW e));have h2:List.find? (λkv:Int×PyData=>decide (kv.1=k)) [(k,d)]=IC (k,d):=by(refine ah _ (oZ ..) ?_;refine ah _ (decide_eq_true rfl ..) rfl)
   (refine ah _ this ?_;refine ah _ (if_pos rfl ..) ?_;refine ah _ h2 ?_);rfl
  ·refine ah _ (if_neg hx ..) ?_;have:List.find? (λkv:Int×PyData=>decide (kv.1=x)) [(k,d)]=none:=by(refine ah _ (oZ ..) ?_;refine ah _ (decide_eq_false hx ..) ?_);rfl
   (refine ah _ this ?_;refine ah _ (Option.or_none ..) rfl)
noncomputable def pq (ks:List Nat) (vs:List Int) (x:Nat):Option Int:=(ks.zip vs).foldr (λp r=>r.or (if p.1=x then IC p.2 else ID)) ID
noncomputable def ki (sc:List Nat):List Int:=sc.map λx:Nat=>(x:Int)
theorem vQ (x:Nat) (ks:List Nat) (vs:List Int) (acc:List (Int×PyData)):iq (((ki ks).zip (vs.map aS)).foldl (λacc p=>jV acc p.1 p.2) acc) x=((pq ks vs x).map aS).or (iq acc x):=by
 induction ks generalizing vs acc with
 |nil=>rfl
 |cons k ks ih=>
  cases vs with
  |nil=>rfl
  |cons v vs=>
   refine(ih vs (jV acc k (.int v))).trans ?_;show _=(((pq ks vs x).or (if k=x then IC v else ID)).map aS).or _
   cases pq ks vs x with
   |some y=>rfl
   |none=>
    refine(zv ..).trans ?_;by_cases hk:k=x
    ·(refine ah _ (if_pos hk ..) ?_;refine ah _ (if_pos (congrArg _ hk) ..) ?_);rfl
    ·(refine ah _ (if_neg hk ..) ?_;refine ah _ (if_neg λe:(k:Int)=(x:Int)=>hk (Int.ofNat.inj e) ..) ?_);rfl
theorem vR {vs:List Int} (hx:x∈ks) (hl:ks.length=vs.length):∃v,pq ks vs x=IC v:=by
 induction ks generalizing vs with
 |nil=>nomatch hx
 |cons k ks ih=>
  cases vs with
  |nil=>nomatch hl
  |cons v vs=>
   show∃w,(pq ks vs x).or (if k=x then IC v else ID)=IC w;refine(List.mem_cons.mp hx).elim (λe=>?_) λhx=>(ih hx (xD hl)).elim λw e=>⟨w,by refine ah _ e ?_;rfl⟩;refine ah _ (if_pos e.symm ..) ?_
   cases pq ks vs x with
   |some y=>exact⟨y,rfl⟩
   |none=>exact⟨v,rfl⟩
theorem HG {v:Int} (h:pq ks (ks.map f) x=IC v):v=f x:=by
 induction ks with
 |nil=>nomatch h
 |cons k ks ih=>
  replace h:(pq ks (ks.map f) x).or (if k=x then IC (f k)else ID)=IC v:=h
  cases hs:pq ks (ks.map f) x with
  |some y=>exact ih (hs.trans ((congrArg (Option.or · _) hs).symm.trans h))
  |none=>
   rw[hs]at h;by_cases hk:k=x
   ·exact hk▸(bS ((if_pos hk).symm.trans h)).symm
   ·exact nomatch (if_neg hk).symm.trans h
theorem known {sc:List Nat} (hx:x∈sc):iq (u8 (ki sc) ((sc.map f).map .int)) x=IC (.int (f x)):=by
 refine bm (vR (vs:=sc.map f) hx (af ..).symm:_) λv e=>?_;unfold u8
 (refine ah _ (vQ ..) ?_;refine ah _ e ?_;refine ah _ (HG e ..) ?_);rfl
variable {fs:List (Nat->Int)} {sc:List Nat}
noncomputable def nH (sc:List Nat):V:=dT ((ki sc).map .int)
noncomputable def ff (r:List Int):PyData:=.tuple (r.map .int)
noncomputable def hits (f:Nat->Int) (t:Lt):Bool:=!tV t.s t.k (f t.x.toNat)
def EJ (sc:List Nat) (t:Lt):Prop:=∃x∈sc,t.x=(x:Nat)
theorem j5 {e:α->PyData} {p:α->Bool} (ls:List α):ls.filterMap (λt=>if p t=true then IC (e t)else ID)=(ls.filter p).map e:=by
 induction ls with
 |nil=>rfl
 |cons t ls ih=>
  (refine ah _ (dt ..) ?_;refine ah _ (gu ..) ?_;refine ah _ ih ?_)
  cases p t<;>rfl
theorem sW (ok:fB B) (hc:ea H) {d:PyData} {ls:List Lt} (hv:jy (.dat d)=IC (ls.map Lt.d)) (hl:ls.length<=sizeLine) (JB:sc.length<=sizeLine) (Lu:∀t∈ls,EJ sc t) (q:Q (dL ((ls.filter (hits f)).map Lt.d)) H):Ap B (n+2) (.ref 465) [.dat d,nH sc,.dat (ff (sc.map f))] H Q:=by
 refine PF.ap ok Bm (show aW (oi ((ki sc).map .int)) _ from aj (oL _) ⟨⟨?_,?_⟩,?_⟩)
 ·unfold ki;(refine ah _ (af ..) ?_;refine ah _ (af ..) ?_;refine ah _ (af ..) rfl)
 ·unfold ki;refine ah _ (af ..) ?_;exact JB
 refine(show aW (jy (.dat d)) _ from aj hv (bA (Got (λt:Lt=>if hits f t=true then IC t.d else ID) ls H) ⟨rfl,rfl⟩ (λj x a H2 hx g=>⟨trivial,?_⟩) (λa H2 g=>⟨trivial,?_⟩)))
 ·refine fX x (cM hx:_) λt e=>aG (Lu t (an e):_) λx hx1 hx2=>?_;obtain⟨y,sg,k⟩:=t;cases(show y=(x:Nat)from hx2);have hk:iq (u8 (ki sc) ((sc.map f).map .int)) x=IC (.int (f x)):=known hx1;refine bh (id g:_) λk_ j_=>?_;obtain rfl:=k_;obtain rfl:=j_;refine(show aW (iq (u8 (ki sc) ((sc.map f).map .int)) x) _ from aj hk (x8 ok hc ?_));refine cr (λhb=>g.yes e (if_pos ?_) hl) λhb=>g.no e (if_neg ?_)
  ·exact hb
  ·show¬hits f ⟨x,sg,k⟩=true;intro z;exact aA (hb.symm.trans z)
 ·refine fq a g.end λs_=>?_;obtain rfl:=s_;exact ah _ (j5 ..) (dr q)
noncomputable def Q0 (d:et) (v:Int):Bool:=@decide (eR d v) (mr _)
theorem Jf {d:et} {v:Int}:Q0 d v=true↔eR d v:=@decide_eq_true_iff _ (mr _)
noncomputable def dk (ds:List et) (sc:List Nat) (f:Nat->Int):Bool:=sc.all λx=>Q0 (ds.getD x []) (f x)
theorem ru {y:PyData} (hx:(gR np ((ki sc).map .int) ((sc.map f).map .int))[j]?=IC y):∃x:Nat,sc[j]?=IC x/\y=np (.int x) (.int (f x)):=by
 refine hU (nY hx:_) λa b h1 h2 C_=>?_;obtain rfl:=C_;unfold ki at h1;rw[aK,aK]at h1 h2
 cases hs:sc[j]? with
 |none=>rw[hs]at h1;exact ft h1
 |some x=>rw[hs]at h1 h2;cases h1;cases h2;exact(aN x rfl rfl)
theorem oQ:(gR np ((ki sc).map .int) ((sc.map f).map .int)).length=sc.length:=by
 unfold ki;(refine ah _ (qM ..) ?_;refine ah _ (af ..) ?_;refine ah _ (af ..) ?_;refine ah _ (af ..) ?_;refine ah _ (af ..) ?_;refine ah _ (EF ..) rfl)
theorem Jg {b:List PyData}:aQ (.list b) (.list [])=true↔b=[]:=by
 cases b with
 |nil=>exact⟨λZ=>rfl,λZ=>rfl⟩
 |cons y ys=>exact⟨λe=>(by rw[aQ,fe]at e;exact fP e),Rg⟩
theorem oR (ok:fB B) {ds:List et} {d:PyData} (hd:ds.length<=1000) (Nb:∀d∈ds,d.length<=sizeLine) (JB:sc.length<=sizeLine) (Lu:∀x∈sc,x<ds.length) (hl:fs.length<=sizeLine) (hv:jy (.dat d)=IC (fs.map λf=>ff (sc.map f)))
 (q:Q (dL ((fs.filter λf=>dk ds sc f).map λf=>ff (sc.map f))) H):Ap B (n+2) (.ref 470) [dL (ds.map bY),nH sc,.dat d] H Q:=by
 refine PF.ap ok wS (show aW (jy (.dat d)) _ from aj hv (bA (Got (λf:Nat->Int=>if dk ds sc f=true then IC (ff (sc.map f))else ID) fs H) ⟨rfl,rfl⟩ (λj x a H2 hx g=>⟨trivial,?_⟩) (λa H2 g=>⟨trivial,?_⟩)))
 ·refine fX x (cM hx:_) λf e=>?_;refine bh (id g:_) λIY JR=>?_;obtain rfl:=IY;obtain rfl:=JR;refine(bA (λk b H3=>H3=H2/\k<=sc.length/\b.length<=k/\(∀y∈b,y=.int 1)/\(b=[]↔∀x∈sc.take k,eR (ds.getD x []) (f x))) ((sY rfl (aL _) (aq _) ((λ_=>de)) ⟨λZ x hx=>(by rw[gw]at hx;exact de hx),λZ=>rfl⟩)) ?_ ?_)
  ·intro k y b H3 hy f_;refine ux f_ λk_ hk Q9 Y7 M8=>?_;obtain rfl:=k_;refine aG (ru hy:_) λx hx Ko=>?_;obtain rfl:=Ko;have IZ:k<sc.length:=c8 hx;have Ls:sc.take (k+1)=sc.take k++[x]:=by(refine ah _ (bD ..) ?_;refine ah _ hx ?_);rfl
   have hxd:x<ds.length:=Lu x (an hx);have T7:ds[x]?=IC (ds.getD x []):=by(refine ah _ (bk ..) ?_;refine ah _ (aJ hxd ..) ?_);rfl
   refine⟨trivial,i7 T7 hd,aj (iT T7) (yV ok (Nb _ (an T7)) (λhv=>?_) λhv=>?_)⟩
   ·refine(sY rfl IZ (bP Q9) Y7 (M8.trans ⟨λh x' Lr=>?_,λh x' Lr=>h x' (by refine ah _ Ls ?_;exact az _ Lr)⟩));rw[Ls]at Lr;exact(List.mem_append.mp Lr).elim (h x') λe=>List.mem_singleton.mp e▸hv
   ·refine⟨ab Q9 (ab (bj IZ) JB),rfl,IZ,by refine ah _ (aw ..) ?_;exact aY Q9,λy hy=>?_,?_,λh=>?_⟩
    ·exact(List.mem_append.mp hy).elim (Y7 y) λe=>List.mem_singleton.mp e
    ·intro e;exact absurd e (List.concat_ne_nil (aS 1) b)
    ·exact absurd (h x (by refine ah _ Ls ?_;exact aR _ (List.mem_singleton.mpr rfl))) hv
  ·intro b H3 j_;refine ux j_ λp_ hk Q9 Y7 M8=>?_;obtain rfl:=p_;rw[oQ,bx]at M8;refine⟨trivial,⟨(iA (k:=0) λy hy=>by refine ah _ (Y7 y hy ..) ?_;exact mX 1).ok (ak rfl),rfl⟩,?_⟩;have IN:dk ds sc f=true↔b=[]:=Iff.trans ⟨λh x hx=>Jf.mp (List.all_eq_true.mp h x hx),λh=>List.all_eq_true.mpr λx hx=>Jf.mpr (h x hx)⟩ M8.symm;exact cr (λhb=>g.yes e (if_pos (IN.mpr (Jg.mp hb))) hl) λhb=>g.no e (if_neg λz=>aA (hb.symm.trans (Jg.mpr (IN.mp z))))
 ·refine fq a g.end λJY=>?_;obtain rfl:=JY;exact ah _ (j5 ..) (dr q)
variable {k:Int} {p q:Int×Int} {s:Sg}
noncomputable def CL (s:Sg) (k:Int) (p:Int×Int):et:=match s with
 |.le=>[(p.1,min p.2 k)]
 |.ge=>[(max p.1 k,p.2)]
 |.ne=>[(p.1,min p.2 (k - 1)),(max p.1 (k+1),p.2)]
 |.eq=>[(max p.1 k,min p.2 k)]
noncomputable def fg (s:Sg) (k:Int) (d:et):et:=d.flatMap (CL s k)
noncomputable def OA (p:Int×Int):Bool:=decide (p.1<=p.2)
noncomputable def uc (p:Int×Int):List gM:=[.inl p.1,.inl p.2]
theorem PJ (h:p.1<=p.2):[(p.1,min p.2 k)].filter OA=(wW k p).toList:=by
 refine ah _ (gu ..) ?_;unfold wW OA;by_cases hk:p.1<=k
 ·rw[if_pos hk,if_pos (decide_eq_true (show p.1<=min p.2 k by exact rY.2 ⟨h,hk⟩))];rfl
 ·rw[if_neg hk,if_neg (by rw[decide_eq_true_iff];show¬p.1<=min p.2 k;exact aaN hk)];rfl
theorem PN (h:p.1<=p.2):[(max p.1 k,p.2)].filter OA=(vG k p).toList:=by
 refine ah _ (gu ..) ?_;unfold vG OA;by_cases hk:k<=p.2
 ·rw[if_pos hk,if_pos (decide_eq_true (show max p.1 k<=p.2 by exact xP.2 ⟨h,hk⟩))];rfl
 ·rw[if_neg hk,if_neg (by rw[decide_eq_true_iff];show¬max p.1 k<=p.2;exact Xy hk)];rfl
theorem oS {f:α->Option β} {p:α} {d:List α}:(p::d).filterMap f=(f p).toList++d.filterMap f:=by
 refine ah _ (dt ..) ?_;cases f p<;>rfl
theorem zw (hs:s≠.eq):∀{d:et},(∀p∈d,p.1<=p.2)->((fg s k d).filter OA).Perm (fM s k d):=by
 intro d
 induction d with
 |nil=>intro _;cases s<;>first|exact .refl _|exact absurd rfl hs
 |cons p d ih=>
  intro h;have h1:=h p ae;have ih:=ih λq hq=>h q (ag _ hq);unfold fg at ih⊢
  (refine ah _ (fV ..) ?_;refine ah _ (gQ ..) ?_)
  cases s with
  |eq=>exact absurd rfl hs
  |le=>show Bp _ ((p::d).filterMap (wW k));(refine ah _ (oS ..) ?_;refine ah _ (PJ h1 ..).symm ?_);exact ih.append_left _
  |ge=>show Bp _ ((p::d).filterMap (vG k));(refine ah _ (oS ..) ?_;refine ah _ (PN h1 ..).symm ?_);exact ih.append_left _
  |ne=>
   show Bp (([(p.1,min p.2 (k - 1))]++[(max p.1 (k+1),p.2)]).filter OA++_) ((p::d).filterMap (wW (k - 1))++(p::d).filterMap (vG (k+1)))
   (refine ah _ (oS ..) ?_;refine ah _ (oS ..) ?_;refine ah _ (gQ ..) ?_;refine ah _ (PJ h1 ..) ?_;refine ah _ (PN h1 ..) ?_;refine ah _ (dv ..) ?_;refine ah _ (dv ..) ?_)
   refine List.Perm.append_left _ ((ih.append_left _).trans ?_);show Bp (_++(d.filterMap (wW (k - 1))++d.filterMap (vG (k+1)))) _
   (refine ah _ (dv ..).symm ?_;refine ah _ (dv ..).symm ?_)
   exact List.perm_append_comm.append_right _
theorem EK (h:p.1<q.1):pW (uc p) (uc q)=true:=by
 show(if(Sum.inl p.1:gM)=.inl q.1 then _ else Ny (.inl p.1) (.inl q.1))=true;exact ah _ (if_neg λe=>tc h (Bq e) ..) (decide_eq_true h)
theorem Br (hs:s≠.eq) {d ps:et} (c:IP d) (hp:ps.Perm (fg s k d)) (hw:ps.Pairwise λp q=>pW (uc p) (uc q)=true):ps.filter OA=fM s k d:=by
 have cc:=(mi (s:=s) (k:=k) c).1;refine List.Perm.eq_of_pairwise (le:=λp q=>pW (uc p) (uc q)=true) (λa b Z Z h1 h2=>?_) (hw.filter _) ?_ ((hp.filter OA).trans (zw hs c.2))
 ·have:=ro h1 h2;rw[kS]at this;exact fP this
 ·refine cc.1.imp_of_mem λ{p q} hp hq h=>EK ?_;have:=cc.2 p hp;exact aa2 h this
theorem CM {d:et} {m:Int×Int} (c:IP d) (hp:p∈d) (hm:m∈d):p=m∨p.2+1<m.1∨m.2+1<p.1:=by
 induction d with
 |nil=>nomatch hp
 |cons q d ih=>
  rcases List.mem_cons.mp hp with e1|h1<;>rcases List.mem_cons.mp hm with e2|h2
  ·exact .inl (e1.trans e2.symm)
  ·exact .inr (.inl (e1▸(List.pairwise_cons.mp c.1).1 m h2))
  ·exact .inr (.inr (e2▸(List.pairwise_cons.mp c.1).1 p h1))
  ·exact ih c.tail h1 h2
theorem vS {x:Int×Int} (hs:s≠.eq) (h:x∈CL s k q):(x=(q.1,min q.2 (if s.ctorIdx=0 then k else k - 1))/\s.ctorIdx≠1)∨(x=(max q.1 (if s.ctorIdx=1 then k else k+1),q.2)/\s.ctorIdx≠0):=by
 cases s with
 |eq=>exact absurd rfl hs
 |le=>exact .inl ⟨List.mem_singleton.mp h,Rh⟩
 |ge=>exact .inr ⟨List.mem_singleton.mp h,di (Nat.zero_ne_add_one 0)⟩
 |ne=>exact(List.mem_cons.mp h).imp (λe=>⟨e,Nat.add_one_add_one_ne_one⟩) λh=>⟨List.mem_singleton.mp h,SS⟩
theorem qB {d:et} (c:IP d) (hs:s≠.eq) (hk:s=.ne->eR d k):(fg s k d).Nodup:=by
 have g:∀p∈d,∀q∈d,s=.ne->¬(p.2=k - 1/\q.1=k+1):=λp hp q hq e f_=>bh f_ λh1 h2=>by
  refine cP (hk e:_) λm hm h3 h4=>?_;rcases CM c hp hm with rfl|h5|h5
  ·exact(aa7 h1 h4).elim
  ·exact(aaZ h1 h3 h5).elim
  ·have:=c.2 p hp;exact(Xw h1 h4 h5 this).elim
 clear hk
 induction d with
 |nil=>exact .nil
 |cons p d ih=>
  have ih:=ih c.tail λa ha b hb=>g a (ag _ ha) b (ag _ hb);have hp:=c.2 p ae;unfold fg at ih⊢
  (refine ah _ (fV ..) ?_;rw[fT])
  refine⟨?_,ih,λx hx y hy e=>?_⟩
  ·cases s with
   |eq=>exact absurd rfl hs
   |le=>exact List.nodup_cons.mpr ⟨de,.nil⟩
   |ge=>exact List.nodup_cons.mpr ⟨de,.nil⟩
   |ne=>
    refine List.nodup_cons.mpr ⟨λh=>?_,List.nodup_cons.mpr ⟨de,.nil⟩⟩;have:=Al (List.mem_singleton.mp h);exact(aaW hp this).elim
  ·subst e;refine aG (List.mem_flatMap.mp hy:_) λq hq hy=>?_;have r_:=(List.pairwise_cons.mp c.1).1 q hq;have ZF:=c.2 q (ag _ hq);rcases vS hs hx with⟨e1,n1⟩|⟨e1,n1⟩<;>rcases vS hs hy with⟨e2,n2⟩|⟨e2,n2⟩<;>(subst e1;have e3:=Al e2)
   ·exact(Xr hp r_ e3).elim
   ·exact(Xp r_ ZF e3).elim
   ·have h0:s=.ne:=by cases s<;>first|rfl|exact absurd rfl n1|exact absurd rfl n2|exact absurd rfl hs
    subst h0;refine g p ae q (ag _ hq) rfl ?_;have h4:max p.1 (k+1)=q.1:=e3.1;have h5:p.2=min q.2 (k - 1):=e3.2;exact Xq hp ZF h4 h5
   ·exact(Xs r_ ZF e3).elim
theorem Bt {d:et} (h1:d.length<=6) (h2:s=.ne->d.length<=3):(fg s k d).length<=6:=by
 have h:∀(m:Nat) (d:et),(∀p,(CL s k p).length=m)->(fg s k d).length=d.length*m:=λm d hm=>by
  induction d with
  |nil=>rw[p6,Nat.zero_mul];rfl
  |cons p d ih=>unfold fg at ih⊢;(refine ah _ (fV ..) ?_;refine ah _ (aw ..) ?_;refine ah _ ih ?_;rw[hm];refine ah _ (iK ..) ?_;refine ah _ (Nat.succ_mul ..) ?_;refine ah _ (iM ..) rfl)
 cases s with
 |ne=>refine ah _ (h 2 d λZ=>rfl ..) ?_;exact pX 2 (h2 rfl)
 |le=>(refine ah _ (h 1 d λZ=>rfl ..) ?_;refine ah _ (HH ..) ?_);exact h1
 |ge=>(refine ah _ (h 1 d λZ=>rfl ..) ?_;refine ah _ (HH ..) ?_);exact h1
 |eq=>(refine ah _ (h 1 d λZ=>rfl ..) ?_;refine ah _ (HH ..) ?_);exact h1
variable {s:St}
theorem zx (h:uc p=uc q):p=q:=by
 obtain⟨a,b⟩:=p;obtain⟨c,d⟩:=q;cases h;rfl
theorem Bu:eT [.str (am "<="),.str (am "!=")]=true:=by kernel_rfl
theorem Bv:eT [.str (am ">="),.str (am "!=")]=true:=by kernel_rfl
theorem zy {s:Sg} {d:et} (e:d[j]?=IC p):fg s k (d.take (j+1))=fg s k (d.take j)++CL s k p:=by
 unfold fg
 (refine ah _ (bD ..) ?_;refine ah _ e ?_;refine ah _ (l7 ..) ?_)
 show _++sT _ [p]=_
 (refine ah _ (fV ..) ?_;refine ah _ (List.flatMap_nil ..) ?_;refine ah _ (dh ..) rfl)
theorem vT (s:Sg) (k:Int) (d:et) (j:Nat):(fg s k (d.take j)).length<=(fg s k d).length:=by
 have:fg s k d=fg s k (d.take j)++fg s k (d.drop j):=by unfold fg;(refine ah _ (l7 ..).symm ?_;refine ah _ (E8 ..) rfl)
 (refine ah _ this ?_;refine ah _ (aw ..) ?_);exact b5 _ _
theorem qC {xs:List PyData}:(H++[a_.list xs]).set H.length (.list ys)=H++[.list ys]:=on
theorem Bw (ok:fB B) (hc:ea H) {d:et} {x:Int} (c:IP d) (hs:sg≠.eq) (hk:sg=.ne->eR d k) (h6:d.length<=6) (h3:sg=.ne->d.length<=3) (q:Q (.dat (bY (fM sg k d))) H):Ap B (n+1) (.ref 460) [.dat (bY d),.dat (jt x sg k)] H Q:=by
 have hlen:=Bt (k:=k) h6 h3;have Zf:∀j,((fg sg k (d.take j)).map js).length<=sizeLine:=λj=>by refine ah _ (af ..) ?_;exact ab (vT sg k d j) (ab hlen (ba rfl))
 refine PF.ap ok EI (bA (λj vals H1=>H1=H++[.list ((fg sg k (d.take j)).map js)]/\∃a b,vals=[IC (.dat (bY d)),IC (.dat (jt x sg k)),IC (.dat (.str sg.str)),IC (dI k),IC (.loc H.length),a,b]) (jp rfl (cY _ _ rfl)) ?_ ?_)
 ·intro j y vals H1 hx f_;refine fq H1 f_ λj_=>?_;refine rX vals j_ λa b=>?_;refine fX y (cM hx:_) λp e=>?_;have e2:=zy (s:=sg) (k:=k) e;have lj:=Zf j;have lj1:((fg sg k (d.take j)).map js).length+1<=sizeLine:=by
   refine ah _ (af ..) ?_;exact ab (aY (ab (vT sg k d j) hlen)) (ba rfl)
  cases sg with
  |eq=>exact absurd rfl hs
  |le=>
   refine⟨⟨Bu,(jz .le).c,ab (jz .le).d (aL 64)⟩,(show j7 ([jd (am "<="),.str (am "!=")].any λy=>aQ y (.str (Sg.str .le))) _ _ from iu rfl ?_)⟩;refine aj eO (aj eO ⟨lj,?_⟩);refine⟨⟨Bv,(jz .le).c,ab (jz .le).d (aL 64)⟩,(show j7 ([jd (am ">="),.str (am "!=")].any λy=>aQ y (.str (Sg.str .le))) _ _ from ju rfl ?_)⟩;exact(jp (by(refine ah _ e2 ?_;refine ah _ (aT ..) ?_);exact qC) (cY _ _ rfl))
  |ge=>
   refine⟨⟨Bu,(jz .ge).c,ab (jz .ge).d (aL 64)⟩,(show j7 ([jd (am "<="),.str (am "!=")].any λy=>aQ y (.str (Sg.str .ge))) _ _ from ju rfl ?_)⟩;refine⟨⟨Bv,(jz .ge).c,ab (jz .ge).d (aL 64)⟩,(show j7 ([jd (am ">="),.str (am "!=")].any λy=>aQ y (.str (Sg.str .ge))) _ _ from iu rfl ?_)⟩;refine aj eO (aj eO ⟨lj,?_⟩);exact(jp (by(refine ah _ e2 ?_;refine ah _ (aT ..) ?_);exact qC) (cY _ _ rfl))
  |ne=>
   refine⟨⟨Bu,(jz .ne).c,ab (jz .ne).d (aL 64)⟩,(show j7 ([jd (am "<="),.str (am "!=")].any λy=>aQ y (.str (Sg.str .ne))) _ _ from iu rfl ?_)⟩;refine aj eO (aj eO ⟨lj,?_⟩);refine ah _ (qC ..) (⟨⟨Bv,(jz .ne).c,ab (jz .ne).d (aL 64)⟩,(show j7 ([jd (am ">="),.str (am "!=")].any λy=>aQ y (.str (Sg.str .ne))) _ _ from iu rfl ?_)⟩);refine aj eO (aj eO ⟨?_,?_⟩)
   ·refine ah _ (aw ..) ?_;exact lj1
   exact(jp (by(refine ah _ e2 ?_;refine ah _ (aT ..) ?_;refine ah _ (qC ..) ?_;refine ah _ (dv ..) ?_);rfl) (cY _ _ rfl))
 ·intro vals H1 s_;refine fq H1 s_ λII=>?_;refine rX vals II λa b=>?_
  (refine ah _ (af ..) ?_;refine ah _ (bx ..) ?_)
  have UU:(fg sg k d).map js=((fg sg k d).map uc).map mo:=by refine ah _ (cV ..) ?_;rfl
  refine ah _ UU (aj eO (aj (vP _) (jp ⟨?_,?_⟩ (bA _ rfl ⟨?_,?_,?_⟩ (λMt hp hw=>?_)))))
  ·exact(List.pairwise_map.mpr ((qB c hs hk).imp λh e=>h (zx e)))
  ·refine ah _ (af ..) ?_;exact aB hlen (by decide)
  ·exact(List.pairwise_map.mpr ((qB c hs hk).imp λh e=>h (zx e)))
  ·refine ah _ (af ..) ?_;exact hlen
  ·exact⟨[true],λky hky=>by refine ig ky (List.mem_map.mp hky:_) λp Z=>?_;rfl⟩
  ·refine aG (rS hp _ rfl:_) λps j_ hp2=>?_;obtain rfl:=j_;have Zr:=List.pairwise_map.mp hw;have aah:=Br hs c hp2 Zr;have ZG:ps.length<=sizeLine:=by refine ah _ (hp2.length_eq ..) ?_;exact ab hlen (ba rfl)
   rw[show(ps.map uc).map mo=ps.map js by refine ah _ (cV ..) ?_;rfl];refine(bA (Got (λp:Int×Int=>if OA p=true then IC (js p)else ID) ps (H++[.list (((fg sg k d).map uc).map mo)])) ⟨rfl,rfl⟩ (λj y a1 H2 hx g=>⟨trivial,?_⟩) (λa1 H2 g=>⟨trivial,?_⟩))
   ·exact fX y (cM hx:_) λp e=>(show j7 (decide (p.1<=p.2)) _ _ from cr (λhb=>g.yes e (if_pos hb) ZG) λhb=>g.no e (if_neg λz=>aA (hb.symm.trans z)))
   ·refine fq a1 g.end λC_=>?_;obtain rfl:=C_
    (refine ah _ (j5 ..) ?_;refine ah _ aah ?_)
    refine⟨?_,yO hc rfl q⟩;exact ah _ (af ..) (ab (Po sg k d) (ab (cj h6 h6) (ba rfl)))
variable {ks:List (List gM)} {k:List gM}
noncomputable def Lt.key (t:Lt):List gM:=[.inl t.x,.inr t.s.str,.inl t.k]
theorem QT {a b:Sg} (h:a.str=b.str):a=b:=by
 have:∀a b:Sg,decide (a.str=b.str)=true->a=b:=by
  intro a b;cases a<;>cases b<;>first|exact λZ=>rfl|exact λh=>absurd h (by decide+kernel)
 exact this a b (decide_eq_true h)
theorem HI {a b:Lt} (h:a.key=b.key):a=b:=by
 obtain⟨x,s,k⟩:=a;obtain⟨y,s',k'⟩:=b;have h1:=cD h;have h2:=cD h1.2;have h3:=cD h2.2;cases Bq h1.1;cases Bq h3.1;cases QT (Sum.inr.inj h2.1);rfl
theorem EL (h:∀k∈ks,∃t:Lt,k=t.key):∃ws:List Lt,ks=ws.map Lt.key:=by
 induction ks with
 |nil=>exact⟨[],rfl⟩
 |cons k ks ih=>
  exact gc k (h k ae:_) λt=>gc ks (ih λk hk=>h k (ag _ hk):_) λws=>⟨t::ws,rfl⟩
theorem Op {x:List gM}:x∈sD ks k↔x∈ks∨x=k:=by
 unfold sD;by_cases h:k∈ks
 ·refine ah _ (if_pos h ..) ?_;exact⟨.inl,λe=>e.elim id λe=>e▸h⟩
 ·(refine ah _ (if_neg h ..) ?_;rw[ve,List.mem_singleton])
theorem vU (h:ks.Nodup):(sD ks k).Nodup/\(sD ks k).length<=ks.length+1:=by
 unfold sD;by_cases hk:k∈ks
 ·refine ah _ (if_pos hk ..) ?_;exact⟨h,cL _⟩
 ·(refine ah _ (if_neg hk ..) ?_;refine ah _ (aw ..) ?_)
  exact⟨List.nodup_append.mpr ⟨h,List.nodup_cons.mpr ⟨de,.nil⟩,λa ha b hb e=>hk (List.mem_singleton.mp hb▸e▸ha)⟩,aq _⟩
theorem xm (ok:fB B) (hc:ea H) {ls:List Lt} (hi:H[i]?=IC (.list (ls.map Lt.d))) (h6:ls.length<=6) (q:∀ws:List Lt,ws.Pairwise (λa b=>pW a.key b.key=true)->(∀t,t∈ws↔t∈ls)->ws.length<=ls.length->Q (dT (ws.map Lt.d)) H):Ap B (n+1) (.ref 369) [.loc i] H Q:=by
 refine PF.ap ok zu (show aW (H[i]?.bind ch) _ from aj (bM hi) (bA (λk a H2=>H2=H/\a.Nodup/\a.length<=k/\k<=ls.length/\∀x,x∈a↔∃t∈ls.take k,x=t.key) ((sY rfl .nil (aq _) (aL _) (λx=>⟨de,λf_=>aG f_ λt ht Z=>(by rw[gw]at ht;exact de ht)⟩))) ?_ ?_))
 ·intro k y a H2 hx k_;refine ux k_ λj_ nd My XY hm=>?_;obtain rfl:=j_;refine aG (cM hx:_) λt e j_=>?_;obtain rfl:=j_;have Ls:ls.take (k+1)=ls.take k++[t]:=by(refine ah _ (bD ..) ?_;refine ah _ e ?_);rfl
  refine⟨hi,(TF (ab My (ab XY (ab h6 (ba rfl)))) rfl ((vU (k:=t.key) nd).1) (ab (vU (k:=t.key) nd).2 (aY My)) (c8 e) (λx=>?_))⟩;show x∈sD a t.key↔_
  (rw[Op,hm];refine ah _ Ls ?_)
  constructor
  ·rintro(⟨u,hu,rfl⟩|rfl)
   ·exact(aN u (az _ hu) rfl)
   ·exact(aN t (aR _ (List.mem_singleton.mpr rfl)) rfl)
  ·intro p_;refine fX x p_ λu hu=>?_;exact(List.mem_append.mp hu).imp (λhu=>(aN u hu rfl)) λhu=>by refine ah _ (List.mem_singleton.mp hu ..) rfl
 ·intro a H2 C_;refine ux C_ λII nd My XY hm=>?_;obtain rfl:=II;rw[af,bx]at hm;rw[af]at My;refine(jp hi (bA a rfl (⟨nd,ab My h6,[false,true],λk hk=>by refine aG ((hm k).mp hk:_) λt Z p_=>?_;obtain rfl:=p_;rfl⟩) (λMt hp hw=>?_)));refine bm (EL (ks:=Mt) λk hk=>by refine aG ((hm k).mp (hp.mem_iff.mp hk):_) λt Z e=>?_;exact⟨t,e⟩:_) λws s_=>?_;obtain rfl:=s_;refine ah _ (cV ..) ?_;have SX:ws.length<=ls.length:=by have:=hp.length_eq;rw[af]at this;refine ah _ this ?_;exact My
  refine⟨by refine ah _ (af ..) ?_;exact ab SX (ab h6 (ba rfl)),dr (q ws (List.pairwise_map.mp hw) (λt=>?_) SX)⟩
  constructor
  ·intro ht;exact aG ((hm t.key).mp (hp.mem_iff.mp (aO (f:=Lt.key) ht)):_) λu hu e=>HI e▸hu
  ·intro ht;exact xA (hp.mem_iff.mpr ((hm t.key).mpr (aN t ht rfl))) λu hu e=>HI e▸hu
variable {v:Int}
theorem xn {d:et} (c:IP d) (h:eR d v):aQ (fC v d) (.int v)=true:=(x7 c).mpr h
theorem CN {d:et} (c:IP d) (h:¬eR d v):aQ (fC v d) (.int v)=false:=by
 cases hb:aQ (fC v d) (.int v)with
 |false=>rfl
 |true=>exact absurd ((x7 c).mp hb) h
theorem Ro {a b:Int} {d:et} (c:IP ((a,b)::d)) (h:eR ((a,b)::d) v):a<=v:=by
 rcases IG.mp h with h|h
 ·exact h.1
 ·exact FI (c.after h) (c.2 _ ae)
theorem P9 {d:et} (c:IP d) {z:Int×Int} (hz:d.getLast?=IC z) (h:eR d v):v<=z.2:=by
 refine cP h λp hp h1 h2=>?_;rcases CM c hp (kF hz)with rfl|h3|h3
 ·exact h2
 ·have:=c.2 z (kF hz);exact Xv h2 h3 this
 ·refine bm (List.getLast?_eq_some_iff.mp hz:_) λys f_=>?_;obtain rfl:=f_;rcases List.mem_append.mp hp with hp|hp
  ·exact aX h2 (aX (dF (cN (eC _) ((List.pairwise_append.mp c.1).2.2 p hp z (List.mem_singleton.mpr rfl)))) (c.2 z (aR _ (List.mem_singleton.mpr rfl))))
  ·rw[List.mem_singleton.mp hp]at h2;exact h2
structure JA (s:St):Prop where
 ok:Pw s
 LQ:∀d∈s.b_,IP d/\d≠[]
 KX:∀d∈s.c_,IP d/\d≠[]
 len:s.c_.length=s.b_.length
 sub:∀x v,eR (s.b_.getD x []) v->eR (s.c_.getD x []) v
theorem Bx (ok:fB B) {d f:et} (S:e_ H l s) (F:JA s) (hx:s.b_[x]?=IC d) (hf:s.c_[x]?=IC f) (hv:¬eR d v)
 (q1:¬eR f v->Q (dL []) H) (q2:eR f v->∀t:Lt,t.x=(x:Nat)->tX t.s t.k d->¬jY t.s t.k v->Q (dL [t.d]) H):Ap B (n+3) (.ref 364) [.inst 311 (l 0),dI x,dI v] H Q:=by
 have e0:=aU (S.obj 0 (ax 5));have Nb:s.b_.length<=1000:=ab F.ok.b_ (ak rfl);refine bh (F.LQ d (an hx):_) λcd nd=>bh (F.KX f (an hf):_) λcf nf=>?_;refine lP (lN nd:_) λk_ r j_=>?_;obtain⟨a,b⟩:=k_;obtain rfl:=j_;obtain⟨z,hz⟩:∃z,((a,b)::r).getLast?=IC z:=⟨_,gJ nd⟩;refine PF.ap ok DV (show aW (H[l 0]?.bind bc) _ from aj e0 ⟨dD _ _ _,E4 ok S (by refine ah _ (F.len ..) ?_;exact Nb) hf (wU ok ?_)⟩);by_cases h1:eR f v
 ·refine ah _ (xn cf h1 ..) ((show aW (H[l 0]?.bind bc) _ from aj e0 ⟨dD _ _ _,Ug ok S Nb hx (show j7 (decide (v<a)) _ _ from cr (λhb=>?_) λhb=>?_)⟩))
  ·exact dr (q2 h1 ⟨x,.ge,v+1⟩ rfl (λw hw=>by exact cw (of_decide_eq_true hb) (Ro cd hw)) (by show¬(v+1<=v);exact aba))
  ·refine(show aW (H[l 0]?.bind bc) _ from aj e0 ⟨dD _ _ _,RS ok S Nb hx hz (show j7 (decide (z.2<v)) _ _ from cr (λhb=>?_) λhb=>?_)⟩)
   ·exact dr (q2 h1 ⟨x,.le,v - 1⟩ rfl (λw hw=>by exact pY (bW (P9 cd hz hw) (of_decide_eq_true hb))) (by show¬(v<=v - 1);exact aa_))
   ·exact dr (q2 h1 ⟨x,.ne,v⟩ rfl (λw hw (e:w=v)=>hv (e▸hw)) (by show¬(v≠v);exact λh=>h rfl))
 ·exact ah _ (CN cf h1 ..) (dr (q1 h1))
noncomputable def v6 (fs:List (Nat->Int)) (x:Nat):PyData:=.list (fs.map λf=>.int (f x))
noncomputable def QM (sc:List Nat) (rows:V) (fs:List (Nat->Int)):List (Str×V):=[("number",dI (-1)),("scope",nH sc),("strength",dS "values"),("rows",rows),("able",dL (fs.map λf=>ff (sc.map f))),("columns",dL (sc.map (v6 fs)))]
def TabAt (H:List a_) (p:Nat) (sc:List Nat) (fs:List (Nat->Int)):Prop:=∃rows,H[p]?=IC (.inst (QM sc rows fs))
theorem ud (sc:List Nat) (rows:V) (fs:List (Nat->Int)):Gp 427 (QM sc rows fs):=by
 have:La=(QM sc rows fs).map (·.1):=by kernel_rfl
 intro f hf;show f.1∈La;refine ah _ this ?_;exact aO (f:=(·.1)) hf
theorem kT (sc:List Nat) (rows:V) (fs:List (Nat->Int)):fA (QM sc rows fs) (am "scope")=IC (nH sc):=by kernel_rfl
theorem vV (sc:List Nat) (rows:V) (fs:List (Nat->Int)):fA (QM sc rows fs) (am "able")=IC (dL (fs.map λf=>ff (sc.map f))):=by kernel_rfl
theorem EM (sc:List Nat) (rows:V) (fs:List (Nat->Int)):fA (QM sc rows fs) (am "columns")=IC (dL (sc.map (v6 fs))):=by kernel_rfl
theorem Pa {d:et} (c:IP d):aQ (fC v d) (.int v)=Q0 d v:=by
 rw[kY,x7 c,Jf]
structure rz (s:St) (sc:List Nat):Prop where
 lt:∀x∈sc,x<s.b_.length
 H_:sc.length<=3
theorem mu {ds:List et} (h:x<ds.length):ds[x]?=IC (ds.getD x []):=by(refine ah _ (bk ..) ?_;refine ah _ (aJ h ..) ?_);rfl
theorem JA.at (F:JA s) (h:x<s.b_.length):s.b_[x]?=IC (s.b_.getD x [])/\IP (s.b_.getD x [])/\s.b_.getD x []≠[]:=by
 have e:=mu h;exact⟨e,F.LQ _ (an e)⟩
theorem By (ok:fB B) {p:Nat} (T:TabAt H p sc fs) (S:e_ H l s) (F:JA s) (C:rz s sc) (q:Q (dB (dk s.b_ sc f)) H):Ap B (n+3) (.ref 419) [.inst 427 p,.inst 311 (l 0),.dat (ff (sc.map f))] H Q:=by
 refine bm T λrows hT=>?_;have e0:=aU (S.obj 0 (ax 5));have JB:sc.length<=sizeLine:=ab C.H_ (ba rfl);refine PF.ap ok sw (show aW (H[p]?.bind bc) _ from aj (aU hT) (aj (kT _ _ _) ?_));refine(bA (λk a H2=>a=(sc.take k).map (λx=>CO (Q0 (s.b_.getD x []) (f x)))/\H2=H) ⟨rfl,rfl⟩ ?_ ?_)
 ·intro k y a H2 hy f_;refine fq a f_ λj_=>?_;obtain rfl:=j_;refine fX y (ru hy:_) λx hx=>ee (F.at (C.lt x (an hx)):_) λe1 c1 Z=>⟨trivial,(show aW (H2[l 0]?.bind bc) _ from aj e0 ⟨dD _ _ _,Cu ok S (ab F.ok.b_ (ak rfl)) e1 (wU ok ?_)⟩)⟩;refine ah _ (Pa c1 ..) (⟨?_,?_,rfl⟩)
  ·refine ah _ (af ..) ?_;exact ab (fU _ _) JB
  ·(refine ah _ (bD ..) ?_;refine ah _ hx ?_;refine ah _ (aT ..) ?_);rfl
 ·intro a H2 p_;refine fq a p_ λC_=>?_;obtain rfl:=C_
  (refine ah _ (oQ ..) ?_;refine ah _ (bx ..) ?_)
  have e:pJ (sc.map λx=>CO (Q0 (s.b_.getD x []) (f x)))=IC (sc.map λx=>Q0 (s.b_.getD x []) (f x)):=by
   have:=AO (sc.map λx=>Q0 (s.b_.getD x []) (f x));rw[cV]at this;exact this
  refine⟨trivial,?_⟩;refine(show aW (pJ (sc.map λx=>CO (Q0 (s.b_.getD x []) (f x)))) _ from aj e ?_);exact ah _ (List.all_map ..) (dr q)
variable {ls:List Lt} {p:Nat}
structure Holds (ds:List et) (sc:List Nat) (t:Lt):Prop where
 sc:EJ sc t
 st:tX t.s t.k (ds.getD t.x.toNat [])
noncomputable def v7 (s:St) (sc:List Nat) (x:Nat) (v:Int) (f:Nat->Int):Bool:=decide (f x=v)&&dk s.c_ sc f
theorem Kf:v7 s sc x v f=true↔f x=v/\dk s.c_ sc f=true:=by
 unfold v7;(refine ah _ (eM ..) ?_;rw[decide_eq_true_iff])
structure WJ (s:St) (sc:List Nat) (x:Nat) (v:Int) (fs:List (Nat->Int)) (ls:List Lt):Prop where
 len:ls.length<=(fs.filter (v7 s sc x v)).length
 good:∀t∈ls,Holds s.b_ sc t/\∃f∈fs,v7 s sc x v f=true/\hits f t=true
 all:∀f∈fs,v7 s sc x v f=true->∃t∈ls,hits f t=true
theorem WJ.more (w:WJ s sc x v fs ls) (h:v7 s sc x v f=false):WJ s sc x v (fs++[f]) ls where
 len:=by(refine ah _ (gQ ..) ?_;refine ah _ (aw ..) ?_);exact ab w.len (b5 _ _)
 good:=λt ht=>bh (w.good t ht:_) λh1 f_=>aG f_ λg h2 h3=>(jp h1 (aN g (az _ h2) h3))
 all:=λg hg hp=>(List.mem_append.mp hg).elim (λhg=>w.all g hg hp) λhg=>by rw[List.mem_singleton.mp hg,h]at hp;exact fP hp
theorem WJ.one {t:Lt} (w:WJ s sc x v fs ls) (h:v7 s sc x v f=true) (ht:Holds s.b_ sc t) (hh:hits f t=true):WJ s sc x v (fs++[f]) (ls++[t])where
 len:=by
  (refine ah _ (gQ ..) ?_;refine ah _ (aw ..) ?_;refine ah _ (aw ..) ?_;refine ah _ (gu ..) ?_;refine ah _ (if_pos h ..) ?_)
  exact cj w.len (aq _)
 good:=λu hu=>(List.mem_append.mp hu).elim (λhu=>bh (w.good u hu:_) λh1 k_=>aG k_ λg h2 h3=>(jp h1 (aN g (az _ h2) h3))) λhu=>by
  refine ah _ (List.mem_singleton.mp hu ..) ?_;exact(jp ht (bA f (aR _ (List.mem_singleton.mpr rfl)) h hh))
 all:=λg hg hp=>(List.mem_append.mp hg).elim (λhg=>aG (w.all g hg hp:_) λu h1 h2=>(aN u (az _ h1) h2)) λhg=>(aN t (aR _ (List.mem_singleton.mpr rfl)) (by refine ah _ (List.mem_singleton.mp hg ..) ?_;exact hh))
structure YJ (s:St) (sc SN:List Nat) (f:Nat->Int) (J8:List (List PyData)):Prop where
 each:∀ys∈J8,(ys=[]/\∃x∈sc,¬eR (s.c_.getD x []) (f x))∨∃t:Lt,ys=[t.d]/\Holds s.b_ sc t/\hits f t=true
 none:∀x∈SN,¬eR (s.b_.getD x []) (f x)->¬eR (s.c_.getD x []) (f x)->[]∈J8
 all:J8=[]->∀x∈SN,eR (s.b_.getD x []) (f x)
theorem TabAt.app (T:TabAt H p sc fs) (o:a_):TabAt (H++[o]) p sc fs:=bm T λrows e=>⟨rows,(b8 (c8 e)).trans e⟩
theorem JA.MJ (F:JA s) (h:x<s.b_.length):s.c_[x]?=IC (s.c_.getD x [])/\IP (s.c_.getD x [])/\s.c_.getD x []≠[]:=by
 have e:=mu (ds:=s.c_) (by refine ah _ (F.len ..) ?_;exact h);exact⟨e,F.KX _ (an e)⟩
theorem EN {a:Option V} {K:KS} (ok:fB B) (T:TabAt H p sc fs) (S:e_ H l s) (F:JA s) (C:rz s sc) (hi:H[i]?=IC (.list (ls.map Lt.d))) (h6:ls.length<=6) (hb:dk s.b_ sc f=false)
 (q:∀SV c,(dk s.c_ sc f=false->SV=ls)->(dk s.c_ sc f=true->∃t,SV=ls++[t]/\Holds s.b_ sc t/\hits f t=true)->K .next [IC (.inst 427 p),IC (.inst 311 (l 0)),IC (dI x),IC (dI v),IC (.loc i),IC (.dat (ff (sc.map f))),c] (H.set i (.list (SV.map Lt.d)))):
 cA B4_ B (n+3)
  [IC (.inst 427 p),IC (.inst 311 (l 0)),IC (dI x),IC (dI v),IC (.loc i),IC (.dat (ff (sc.map f))),a] H K:=by
 refine bm T λrows hT=>?_;have e0:=aU (S.obj 0 (ax 5));have Nb:s.b_.length<=1000:=ab F.ok.b_ (ak rfl);refine(show aW (H[p]?.bind bc) _ from aj (aU hT) (aj (kT _ _ _) ?_));refine(bA (λk c H2=>H2=H/\k<=sc.length/\∃J8:List (List PyData),c=J8.map .list/\J8.length<=k/\YJ s sc (sc.take k) f J8) ⟨rfl,aL _,[],rfl,aq _,(λ_=>de),λx hx=>(by rw[gw]at hx;exact de hx),λZ x hx=>(by rw[gw]at hx;exact de hx)⟩ ?_ ?_)
 ·intro k y c H2 hy j_;refine ee j_ λp_ hk s_=>?_;obtain rfl:=p_;refine cP s_ λJ8 C_ Uu Y=>?_;obtain rfl:=C_;refine aG (ru hy:_) λz hz f_=>?_;obtain rfl:=f_;have Zo:z∈sc:=an hz;have hzl:=C.lt z Zo;refine ee (F.at hzl:_) λe1 c1 n1=>ee (F.MJ hzl:_) λe2 c2 n2=>?_;have Ls:sc.take (k+1)=sc.take k++[z]:=by(refine ah _ (bD ..) ?_;refine ah _ hz ?_);rfl
  have Q7:(J8.map Cn).length<=sizeLine:=by refine ah _ (af ..) ?_;exact ab Uu (ab hk (ab C.H_ (ba rfl)))
  refine⟨trivial,(show aW (H2[l 0]?.bind bc) _ from aj e0 ⟨dD _ _ _,Cu ok S Nb e1 (wU ok ?_)⟩)⟩;by_cases hv:eR (s.b_.getD z []) (f z)
  ·refine ah _ (xn c1 hv ..) (⟨rfl,c8 hz,J8,rfl,bP Uu,Y.each,λx hx h1 h2=>?_,λe x hx=>?_⟩)
   ·rw[Ls]at hx;exact(List.mem_append.mp hx).elim (λhx=>Y.none x hx h1 h2) λhx=>absurd (List.mem_singleton.mp hx▸hv) h1
   ·rw[Ls]at hx;exact(List.mem_append.mp hx).elim (Y.all e x) λhx=>List.mem_singleton.mp hx▸hv
  ·refine ah _ (CN c1 hv ..) ?_;have fin:∀ys:List PyData,((ys=[]/\¬eR (s.c_.getD z []) (f z))∨(eR (s.c_.getD z []) (f z)/\∃t:Lt,ys=[t.d]/\Holds s.b_ sc t/\hits f t=true))->YJ s sc (sc.take (k+1)) f (J8++[ys]):=λys OX=>by
    refine⟨λu hu=>(List.mem_append.mp hu).elim (Y.each u) λhu=>?_,λx hx h1 h2=>?_,λe=>absurd e (List.concat_ne_nil ys J8)⟩
    ·exact ah _ (List.mem_singleton.mp hu ..) (OX.imp (λh=>(jp h.1 (aN z Zo h.2))) λh=>h.2)
    ·rw[Ls]at hx;rcases List.mem_append.mp hx with hx|hx
     ·exact az _ (Y.none x hx h1 h2)
     ·rw[List.mem_singleton.mp hx]at h2;rcases OX with h3|h3
      ·exact aR _ (List.mem_singleton.mpr h3.1.symm)
      ·exact absurd h3.1 h2
   have put:∀ys:List PyData,YJ s sc (sc.take (k+1)) f (J8++[ys])->H2=H2/\k+1<=sc.length/\∃Qu:List (List PyData),J8.map Cn++[.list ys]=Qu.map .list/\Qu.length<=k+1/\YJ s sc (sc.take (k+1)) f Qu:=λys hY=>
    (mB rfl (c8 hz) (bA (J8++[ys]) (by refine ah _ (aT ..) ?_;rfl) (by refine ah _ (aw ..) ?_;exact aY Uu) hY))
   refine Bx ok S F e1 e2 hv (λh1=>⟨Q7,put [] (fin [] (.inl ⟨rfl,h1⟩))⟩) λh1 t ht h2 h3=>⟨Q7,put [t.d] (fin [t.d] (.inr (jp h1 (bA t rfl (⟨(aN z Zo ht),?_⟩) ?_))))⟩
   ·refine ah _ ht ?_;exact h2
   ·unfold hits;refine ah _ ht ?_;show(!tV t.s t.k (f z))=true
    (refine ah _ (jG ..) ?_;refine ah _ (uv ..).symm ?_;rw[tW]);exact h3
 ·intro c H2 II;refine ee II λIY hk JR=>?_;obtain rfl:=IY;refine cP JR λJ8 Ko Uu Y=>?_;obtain rfl:=Ko;rw[oQ,bx]at Y;rw[oQ]at Uu;have UQ:=bM hi;have IQ:J8≠[]:=λe=>aA (hb.symm.trans (List.all_eq_true.mpr λx hx=>Jf.mpr (Y.all e x hx)));have KM:∀ys∈J8,ys.length<=1:=λys OX=>by
   rcases Y.each ys OX with⟨e,_⟩|⟨t,e,_⟩
   ·refine ah _ e ?_;exact aL _
   ·refine ah _ e ?_;exact aq _
  refine⟨trivial,(show aW (H2[i]?.bind ch) _ from aj UQ (show aW (vB (J8.map .list)) _ from aj (DP J8) ⟨⟨List.length_pos_iff.mpr IQ,λys OX=>ab (KM ys OX) (ba rfl)⟩,λys OX RL=>?_⟩))⟩;refine(show aW (H2[i]?.bind ch) _ from aj UQ ⟨?_,?_⟩)
  ·refine ah _ (af ..) ?_;exact ab (cj h6 (KM ys OX)) (ba rfl)
  cases hf:dk s.c_ sc f with
  |false=>
   obtain⟨x,hx,hv⟩:∃x∈sc,¬eR (s.c_.getD x []) (f x):=dj λhn=>by
    have:dk s.c_ sc f=true:=List.all_eq_true.mpr λx hx=>Jf.mpr (dj λh=>hn (aN x hx h));rw[hf]at this;exact fP this
   have h0:=RL [] (Y.none x hx (λh=>hv (F.sub x _ h)) hv);cases List.eq_nil_of_length_eq_zero (Nat.le_zero.mp h0);refine ah _ (dh ..) ?_;exact q ls _ (λZ=>rfl) λh=>(by rw[hf]at h;exact fP h)
  |true=>
   rcases Y.each ys OX with⟨_,x,hx,hv⟩|⟨t,rfl,h1,h2⟩
   ·exact absurd (Jf.mp (List.all_eq_true.mp hf x hx)) hv
   ·have:=q (ls++[t]) (IC (dL (J8.map .list))) (λh=>(by rw[hf]at h;exact SR h)) λZ=>(bA t rfl h1 h2);rw[aT]at this;exact this
theorem WJ.same {ws:List Lt} (w:WJ s sc x v fs ls) (hm:∀t,t∈ws↔t∈ls) (hl:ws.length<=ls.length):WJ s sc x v fs ws:=
 ⟨ab hl w.len,λt ht=>w.good t ((hm t).mp ht),λf hf hp=>aG (w.all f hf hp:_) λt h1 h2=>(aN t ((hm t).mpr h1) h2)⟩
theorem rT (ok:fB B) (T:TabAt H p sc fs) (S:e_ H l s) (F:JA s) (C:rz s sc) (hx:sc[i]?=IC x) (h6:fs.length<=6) (hg:∀f∈fs,f x=v->dk s.b_ sc f=false)
 (q:∀ws:List Lt,ws.Pairwise (λa b=>pW a.key b.key=true)->WJ s sc x v fs ws->ws.length<=6->Q (dT (ws.map Lt.d)) H):Ap B (n+4) (.ref 424) [.inst 427 p,.inst 311 (l 0),dI i,dI v] H Q:=by
 refine bm (id T:_) λrows hT=>?_;have hap:(H++[a_.list []])[p]?.bind bc=IC (QM sc rows fs):=aU ((b8 (c8 hT)).trans hT);refine PF.ap ok rl (show aW ((H++[a_.list []])[p]?.bind bc) _ from aj hap (aj (vV _ _ _) ?_));refine(bA (λk vals H1=>∃ls:List Lt,WJ s sc x v (fs.take k) ls/\H1=H++[.list (ls.map Lt.d)]/\∃a b,vals=[IC (.inst 427 p),IC (.inst 311 (l 0)),IC (dI i),IC (dI v),IC (.loc H.length),a,b]) ((bA ([]) ⟨aL _,(λ_=>de),λf hf=>(by rw[gw]at hf;exact de hf)⟩ rfl (cY _ _ rfl))) ?_ ?_)
 ·intro k y vals H1 hy f_;refine cP f_ λls w k_ j_=>?_;obtain rfl:=k_;refine rX vals j_ λa b=>?_;refine fX y (cM hy:_) λf hf=>?_;have hfm:f∈fs:=an hf;have Ls:fs.take (k+1)=fs.take k++[f]:=by(refine ah _ (bD ..) ?_;refine ah _ hf ?_);rfl
  have ZU:ls.length<=6:=ab w.len (ab (c9 _ _) (ab (fU _ _) h6));have OY:((sc.map f).map aS)[(i:Int).toNat]?=IC (.int (f x)):=by(refine ah _ (bG ..) ?_;refine ah _ (aK ..) ?_;refine ah _ (aK ..) ?_;refine ah _ hx ?_);rfl
  have Mx:0<=(i:Int)/\(i:Int)<2^63:=i7 hx (ab C.H_ (ak rfl));refine⟨Mx,(show aW ((sc.map f).map aS)[(i:Int).toNat]? _ from aj OY ⟨⟨rfl,rfl⟩,cr (λhb=>?_) λhb=>?_⟩)⟩
  ·have hv:f x=v:=(im _ _).mp hb;have S1:=S.app (o:=.list (ls.map Lt.d)) rfl;refine EN ok (T.app _) S1 F C mh ZU (hg f hfm hv) λSV c q1 q2=>ah _ (on ..) ((bA SV ?_ rfl (cY _ _ rfl)));refine ah _ Ls ?_
   cases hp:dk s.c_ sc f with
   |false=>refine ah _ (q1 hp ..) ?_;exact w.more (by unfold v7;exact(λ{x y}=>Bool.and_eq_false_imp.mpr) λa=>hp)
   |true=>refine t5 SV (q2 hp:_) λt h1 h2=>?_;exact w.one (Kf.mpr ⟨hv,hp⟩) h1 h2
  ·have hv:¬f x=v:=λe=>aA (hb.symm.trans ((im _ _).mpr e));refine(bA ls ?_ rfl (cY _ _ rfl));refine ah _ Ls (w.more ?_);unfold v7;refine ah _ (decide_eq_false hv ..) ?_;rfl
 ·intro vals H1 s_;refine cP s_ λls w C_ II=>?_;obtain rfl:=C_;refine rX vals II λa b=>?_;rw[af,bx]at w;refine xm ok (mZ S.cl rfl) mh (ab w.len (ab (c9 _ _) h6)) λws hw hm hl=>yO S.cl rfl (q ws hw (w.same hm hl) (ab hl (ab w.len (ab (c9 _ _) h6))))
variable {c:Cx} {k:Int} {ds:List et} {ws:List Lt} {t:Lt} {s:Sg}
structure Cx where
 sc:List Nat
 fs:List (Nat->Int)
 ds:List et
 c_:List et
 d_:List Ent
 marks:List Nat
noncomputable def Cx.bg (c:Cx):List (Nat->Int):=c.fs.filter (dk c.c_ c.sc)
structure EC (c:Cx) (ds:List et) (e:Ent):Prop where
 Lz:e.x∈c.sc
 lt:e.x<ds.length
 old:e.old=ds.getD e.x []
 LQ:IP e.old
 six:e.old.length<=6
 three:e.lit.s=.ne->e.old.length<=3
 Zd:e.lit.x=e.x
 ne:e.lit.s≠.eq
 has:e.lit.s=.ne->eR e.old e.lit.k
 cut:fM e.lit.s e.lit.k e.old≠[]
 rs:∃ws,e.rs=IC ws/\ws.length<=6/\(∀w∈ws,Holds ds c.sc w)/\∀f∈c.bg,hits f e.lit=true->∃w∈ws,hits f w=true
noncomputable def Rep (c:Cx):List et->List Ent->List et->Prop
 |ds,[],M_=>M_=ds
 |ds,e::es,M_=>EC c ds e/\Rep c (ds.set e.x (fM e.lit.s e.lit.k e.old)) es M_
theorem Rep.snoc {e:Ent}:∀{es:List Ent} {ds Vn:List et},Rep c ds es Vn->EC c Vn e->Rep c ds (es++[e]) (Vn.set e.x (fM e.lit.s e.lit.k e.old)):=by
 intro es
 induction es with
 |nil=>intro ds Vn h he;cases h;exact⟨he,rfl⟩
 |cons a es ih=>intro ds Vn h he;exact⟨h.1,ih h.2 he⟩
structure Run (c:Cx) (m:Nat) (s:St):Prop where
 h_:JA s
 sc:rz s c.sc
 c_:s.c_=c.c_
 marks:s.marks=c.marks
 rep:∃es,s.d_=c.d_++es/\Rep c c.ds es s.b_
 left:∀f∈c.fs,dk c.ds c.sc f=true->dk s.b_ c.sc f=true
 six:∀d∈s.b_,d.length<=6
 Ob:s.d_.length<=m
 OF:s.news.length<=m
 good:s.failed=false
structure lG (c:Cx) (s:St):Prop where
 h_:JA s
 c_:s.c_=c.c_
 marks:s.marks=c.marks
 rep:∃es,s.d_=c.d_++es/\Rep c c.ds es s.b_
 six:∀d∈s.b_,d.length<=6
 failed:s.failed=true
 holds:∀t∈s.z_,Holds s.b_ c.sc t
 hits:∀f∈c.bg,∃t∈s.z_,hits f t=true
 aaJ:s.z_.length<=10
 none:∀f∈c.fs,dk c.ds c.sc f=false
theorem ue {d:et} (c:IP d):(fM s k d).length<=d.length+1:=by
 cases s with
 |le=>exact bP (bp _ _)
 |ge=>exact bP (bp _ _)
 |eq=>
  show(qz k d).length<=_
  induction d with
  |nil=>exact aL _
  |cons p d ih=>
   obtain⟨a,b⟩:=p;refine ah _ (sR ..) ?_
   split
   ·exact bP (ih c.tail)
   ·split
    ·exact aY (aL _)
    ·exact aL _
 |ne=>
  show(d.filterMap (wW (k - 1))++d.filterMap (vG (k+1))).length<=_;refine ah _ (aw ..) ?_
  induction d with
  |nil=>exact aL _
  |cons p d ih=>
   have ih:=ih c.tail;have hu:∀q:Int×Int,(wW (k - 1) q).toList.length<=1:=λq=>by cases wW (k - 1) q with|none=>exact aL _|some z=>exact aq _
   have ho:∀q:Int×Int,(vG (k+1) q).toList.length<=1:=λq=>by cases vG (k+1) q with|none=>exact aL _|some z=>exact aq _
   (refine ah _ (oS ..) ?_;refine ah _ (oS ..) ?_;refine ah _ (aw ..) ?_;refine ah _ (aw ..) ?_;refine ah _ (iK ..) ?_)
   have h1:=hu p;have h2:=ho p;by_cases hp:k+1<=p.2
   ·have:d.filterMap (wW (k - 1))=[]:=List.filterMap_eq_nil_iff.mpr λq hq=>if_neg (by have:=(List.pairwise_cons.mp c.1).1 q hq;exact aa0 hp this);refine ah _ this ?_;have:=bp (vG (k+1)) d;simp only[p6];exact ab (cj h1 (cj h2 this)) (bd (by(refine ah _ (i9 ..).symm ?_;refine ah _ (iM ..) rfl)))
   ·have:(vG (k+1) p)=none:=if_neg hp;refine ah _ this ?_;simp only[Option.toList_none,p6];exact ab (bd (by(refine ah _ (iN ..) ?_;refine ah _ (i9 ..) ?_;refine ah _ (iM ..) rfl))) (cj ih h1)
theorem HJ {d:et} (c:IP d) (hs:s≠.eq) (hn:s≠.ne) (h:tX s k d):fM s k d=d:=by
 have all:∀{f:Int×Int->Option (Int×Int)},(∀p∈d,f p=IC p)->d.filterMap f=d:=λ{f} hf=>by
  clear c h
  induction d with
  |nil=>rfl
  |cons p d ih=>(refine ah _ (dt ..) ?_;refine ah _ (hf p ae ..) ?_);show p::d.filterMap f=_;refine ah _ (ih λq hq=>hf q (ag _ hq) ..) rfl
 cases s with
 |eq=>exact absurd rfl hs
 |ne=>exact absurd rfl hn
 |le=>
  refine all λp hp=>?_;have h1:p.2<=k:=h p.2 (bA p hp (c.2 p hp) (bu _));have h2:=c.2 p hp;unfold wW
  (refine ah _ (if_pos (aX h2 h1) ..) ?_;refine ah _ (Int.min_eq_left h1 ..) rfl)
 |ge=>
  refine all λp hp=>?_;have h1:k<=p.1:=h p.1 (bA p hp (bu _) (c.2 p hp));have h2:=c.2 p hp;unfold vG
  (refine ah _ (if_pos (aX h1 h2) ..) ?_;refine ah _ (Int.max_eq_left h1 ..) rfl)
theorem zz {y:Nat} {d:et} (hx:x<ds.length):(ds.set x d).getD y []=if y=x then d else ds.getD y []:=by
 (refine ah _ (bk ..) ?_;refine ah _ (mE ..) ?_)
 by_cases h:x=y
 ·subst h;(refine ah _ (if_pos rfl ..) ?_;refine ah _ (if_pos rfl ..) ?_;refine ah _ (if_pos hx ..) ?_);rfl
 ·(refine ah _ (if_neg h ..) ?_;refine ah _ (if_neg (di h) ..) ?_;refine ah _ (bk ..) rfl)
theorem vW (hs:t.s≠.eq):jY (wY t).s (wY t).k v↔¬jY t.s t.k v:=by
 obtain⟨x,s,k⟩:=t
 cases s with
 |le=>show k+1<=v↔¬v<=k;exact{mp:=Int.not_le.mpr,mpr:=Int.lt_of_not_ge}
 |ge=>show v<=k - 1↔¬k<=v;exact aa3
 |ne=>show v=k↔¬v≠k;exact⟨λh e=>e h,λh=>Classical.not_not.mp h⟩
 |eq=>exact absurd rfl hs
theorem JJ:hits f t=true↔¬jY t.s t.k (f t.x.toNat):=by
 unfold hits;(refine ah _ (jG ..) ?_;refine ah _ (uv ..).symm ?_;rw[tW])
theorem G_:dk ds sc f=true↔∀x∈sc,eR (ds.getD x []) (f x):=
 ⟨λh x hx=>Jf.mp (List.all_eq_true.mp h x hx),λh=>List.all_eq_true.mpr λx hx=>Jf.mpr (h x hx)⟩
structure Ask (c:Cx) (s:St) (x:Nat) (sg:Sg) (k:Int) (ws:List Lt):Prop where
 Lz:x∈c.sc
 ne:sg≠.eq
 has:sg=.ne->eR (s.b_.getD x []) k/\(s.b_.getD x []).length<=3
 six:ws.length<=6
 holds:∀w∈ws,Holds s.b_ c.sc w
 Vv:∀f∈c.bg,hits f ⟨x,sg,k⟩=true->∃w∈ws,hits f w=true
 left:∀f∈c.fs,dk c.ds c.sc f=true->jY sg k (f x)
theorem Run.bad {s:St} (R:Run c m s) (A:Ask c s x sg k ws) (h:fM sg k (s.b_.getD x [])=[]):lG c {s with failed:=true,z_:=ws++[wY ⟨x,sg,k⟩]}:=by
 have r_:=R.sc.lt x A.Lz;refine ee (R.h_.at r_:_) λe cn nn=>?_;have P5:∀v,eR (s.b_.getD x []) v->¬jY sg k v:=λv hv hk=>by
  have:=((mi cn).2 v).mpr ⟨hv,hk⟩;rw[h]at this;exact aG this λZ hm Z=>de hm
 have hx:∀t:Lt,t=wY ⟨x,sg,k⟩->t.x=(x:Nat):=λt e=>by refine ah _ e ?_;cases sg<;>rfl
 refine⟨⟨⟨R.h_.ok.b_,R.h_.ok.len,R.h_.ok.d_,R.h_.ok.news⟩,R.h_.LQ,R.h_.KX,R.h_.len,R.h_.sub⟩,R.c_,R.marks,R.rep,R.six,rfl,λt ht=>?_,λf hf=>?_,?_,λf hf=>?_⟩
 ·rcases List.mem_append.mp ht with ht|ht
  ·exact A.holds t ht
  ·have ht:=List.mem_singleton.mp ht;refine⟨(aN x A.Lz (hx t ht)),λv hv=>?_⟩;rw[hx t ht]at hv
   (refine ah _ ht ?_;rw[vW (t:=⟨x,sg,k⟩) A.ne])
   exact P5 v hv
 ·cases hh:hits f ⟨x,sg,k⟩with
  |true=>refine aG (A.Vv f hf hh:_) λw h1 h2=>?_;exact(aN w (az _ h1) h2)
  |false=>
   refine(aN (wY ⟨x,sg,k⟩) (aR _ (List.mem_singleton.mpr rfl)) (JJ.mpr ?_))
   (rw[vW (t:=⟨x,sg,k⟩) A.ne];refine ah _ (hx _ rfl ..) ?_)
   intro hn;have:hits f ⟨x,sg,k⟩=true:=JJ.mpr hn;rw[hh]at this;exact fP this
 ·show(ws++[_]).length<=10;refine ah _ (aw ..) ?_;exact ab (aY A.six) (ak rfl)
 ·cases ha:dk c.ds c.sc f with
  |false=>rfl
  |true=>exact absurd (A.left f hf ha) (P5 _ (G_.mp (R.left f hf ha) x A.Lz))
theorem Run.go {s:St} (R:Run c m s) (hm:m<1000) (A:Ask c s x sg k ws) (h:fM sg k (s.b_.getD x [])≠[]):
 Run c (m+1) (s.enter x ⟨x,sg,k⟩ (IC ws))/\∀y v,eR ((s.enter x ⟨x,sg,k⟩ (IC ws)).b_.getD y []) v↔eR (s.b_.getD y []) v/\(y=x->jY sg k v):=by
 have r_:=R.sc.lt x A.Lz;refine ee (R.h_.at r_:_) λe cn nn=>bh (mi (s:=sg) (k:=k) cn:_) λcc cs=>?_;have hd:(s.enter x ⟨x,sg,k⟩ (IC ws)).b_=s.b_.set x (fM sg k (s.b_.getD x [])):=rfl;have Jl:∀d∈(s.enter x ⟨x,sg,k⟩ (IC ws)).b_,d∈s.b_∨d=fM sg k (s.b_.getD x []):=λd hd=>iS hd;have Om:∀y v,eR ((s.enter x ⟨x,sg,k⟩ (IC ws)).b_.getD y []) v↔eR (s.b_.getD y []) v/\(y=x->jY sg k v):=λy v=>by
  (refine ah _ hd ?_;refine ah _ (zz r_ ..) ?_)
  by_cases hy:y=x
  ·subst hy;(refine ah _ (if_pos rfl ..) ?_;rw[cs v]);exact⟨λh=>⟨h.1,λZ=>h.2⟩,λh=>⟨h.1,h.2 rfl⟩⟩
  ·refine ah _ (if_neg hy ..) ?_;exact⟨λh=>⟨h,λe=>absurd e hy⟩,λh=>h.1⟩
 have h6:(fM sg k (s.b_.getD x [])).length<=6:=by
  have h0:=R.six _ (an e)
  cases sg with
  |le=>exact ab (bp _ _) h0
  |ge=>exact ab (bp _ _) h0
  |ne=>exact ab (ue cn) (ab (aY (A.has rfl).2) (show 4<=6 by exact ak rfl))
  |eq=>exact absurd rfl A.ne
 have six:∀d∈(s.enter x ⟨x,sg,k⟩ (IC ws)).b_,d.length<=6:=λd hd=>(Jl d hd).elim (R.six d) λe=>e▸h6;have tl:(s.enter x ⟨x,sg,k⟩ (IC ws)).d_.length<=m+1:=by
  show(s.d_++[_]).length<=_;refine ah _ (aw ..) ?_;exact aY R.Ob
 have nl:(s.enter x ⟨x,sg,k⟩ (IC ws)).news.length<=m+1:=by
  show(jV s.news x _).length<=_;unfold jV
  split
  ·refine ah _ (af ..) ?_;exact bP R.OF
  ·refine ah _ (aw ..) ?_;exact aY R.OF
 refine⟨⟨⟨⟨?_,λd hd=>ab (six d hd) (ak rfl),ab tl hm,ab nl hm⟩,λd hd=>(Jl d hd).elim (R.h_.LQ d) λe=>e▸⟨cc,h⟩,R.h_.KX,?_,λy v hv=>R.h_.sub y v ((Om y v).mp hv).1⟩,⟨?_,R.sc.H_⟩,R.c_,R.marks,?_,λf hf hl=>G_.mpr λy hy=>(Om y _).mpr ⟨G_.mp (R.left f hf hl) y hy,λe=>e▸A.left f hf hl⟩,six,tl,nl,R.good⟩,Om⟩
 ·(refine ah _ hd ?_;refine ah _ (dC ..) ?_);exact R.h_.ok.b_
 ·(refine ah _ hd ?_;refine ah _ (dC ..) ?_);exact R.h_.len
 ·(refine ah _ hd ?_;refine ah _ (dC ..) ?_);exact R.sc.lt
 ·refine aG R.rep λes h1 h2=>(aN (es++[⟨x,s.b_.getD x [],⟨x,sg,k⟩,IC ws⟩]) ?_ ?_)
  ·show s.d_++[_]=_
   (refine ah _ h1 ?_;refine ah _ (dv ..) rfl)
  ·exact h2.snoc (e:=⟨x,s.b_.getD x [],⟨x,sg,k⟩,IC ws⟩) ⟨A.Lz,r_,rfl,cn,R.six _ (an e),λe=>(A.has e).2,rfl,A.ne,λe=>(A.has e).1,h,ws,rfl,A.six,A.holds,A.Vv⟩
variable {s:St}
structure Pv (H:List a_) (l:Nat->Nat) (c:Cx) (m:Nat) (s:St) (x:Nat) (sg:Sg) (k:Int) (Q:V->List a_->Prop):Prop where
 bad:∀H' s',e_ H' l s'->g_ H H' l l->lG c s'->Q (dB false) H'
 good:∀H' s',e_ H' l s'->g_ H H' l l->Run c (m+1) s'->(∀y v,eR (s'.b_.getD y []) v↔eR (s.b_.getD y []) v/\(y=x->jY sg k v))->(sg≠.ne->tX sg k (s.b_.getD x [])->s'=s)->Q (dB true) H'
theorem Run.mono {m':Nat} (R:Run c m s) (h:m<=m'):Run c m' s:=⟨R.h_,R.sc,R.c_,R.marks,R.rep,R.left,R.six,ab R.Ob h,ab R.OF h,R.good⟩
theorem uf (ok:fB B) (S:e_ H l s) (R:Run c m s) (hm:m<1000) (A:Ask c s x sg k ws) (q:Pv H l c m s x sg k Q):Ap B (n+5) (.ref 266) [.inst 311 (l 0),.dat (jt x sg k),dT (ws.map Lt.d)] H Q:=by
 refine ee (R.h_.at (R.sc.lt x A.Lz):_) λe cn nn=>E3 ok S R.h_.ok e (ab A.six (ak rfl)) ⟨λh H' S' K=>q.bad H' _ S' K (R.bad A h),λh h2=>?_,λh h2 H' S' K=>?_⟩
 ·refine q.good H s S .refl (R.mono (cL m)) (λy v=>⟨λhv=>⟨hv,λe=>?_⟩,λh=>h.1⟩) λZ Z=>rfl;subst e;rw[←h2]at hv;exact(((mi cn).2 v).mp hv).2
 ·exact bh (R.go hm A h:_) λR' Om=>q.good H' _ S' K R' Om λhn hs=>absurd (HJ cn A.ne hn hs) h2
theorem EO (ok:fB B) (S:e_ H l s) (R:Run c m s) (hm:m+1<1000) (hx:x∈c.sc) (IQ:c.fs≠[]) (hl:c.fs.length<=6)
 (bad:∀H' s',e_ H' l s'->g_ H H' l l->lG c s'->Q (dB false) H')
 (good:∀H' s',e_ H' l s'->g_ H H' l l->Run c (m+2) s'->(∀y v,eR (s'.b_.getD y []) v->eR (s.b_.getD y []) v)->(∀v,eR (s'.b_.getD x []) v->(∃f∈c.fs,f x<=v)/\∃f∈c.fs,v<=f x)->
  ((∀v,eR (s.b_.getD x []) v->∃f∈c.fs,f x=v)->s'=s)->(∀f∈c.fs,dk s.b_ c.sc f=true->dk s'.b_ c.sc f=true)->Q (dB true) H'):Ap B (n+6) (.ref 376) [.inst 311 (l 0),dI x,.dat (v6 c.fs x)] H Q:=by
 have e0:=aU (S.obj 0 (ax 5));have aai:v6 c.fs x=.list ((c.fs.map λf=>f x).map .int):=by unfold v6;refine ah _ (cV ..) ?_;rfl
 have hlen:(c.fs.map λf=>f x).length=c.fs.length:=af ..;have M4:0<(c.fs.map λf=>f x).length:=by refine ah _ hlen ?_;exact List.length_pos_iff.mpr IQ
 have Jl:∀f∈c.fs,f x∈c.fs.map λf=>f x:=λf hf=>aO (f:=λf:Nat->Int=>f x) hf;have hbg:∀f∈c.bg,f∈c.fs:=λf hf=>(List.mem_filter.mp hf).1;refine ah _ aai ?_;refine PF.ap ok vC ⟨by(refine ah _ (af ..) ?_;refine ah _ hlen ?_);exact ab hl (ba rfl),?_⟩;refine ju ?_ (show aW (H[l 0]?.bind bc) _ from aj e0 ⟨dD _ _ _,oj ⟨M4,λM hM RL=>?_⟩⟩)
 ·exact ah _ (af ..) (decide_eq_false (Wq M4))
 have k1:∀f∈c.fs,M<=f x:=λf hf=>RL _ (Jl f hf);refine uf (sg:=.ge) (k:=M) (ws:=[]) ok S R (ug hm) ⟨hx,nofun,nofun,aL _,(λ_=>de),λf hf hh=>absurd (k1 f (hbg f hf)) (JJ.mp hh),λf hf Z=>k1 f hf⟩ ⟨λH' s' S' K' F'=>oq K' (bad H' s' S' K' F'),λH1 s1 S1 K1 R1 QV TZ=>?_⟩;refine(show aW (H1[l 0]?.bind bc) _ from aj (aU (S1.obj 0 (ax 5))) ⟨dD _ _ _,oj ⟨M4,λN hN ZL=>?_⟩⟩);have k2:∀f∈c.fs,f x<=N:=λf hf=>ZL _ (Jl f hf);refine uf (sg:=.le) (k:=N) (ws:=[]) ok S1 R1 hm ⟨hx,nofun,nofun,aL _,(λ_=>de),λf hf hh=>absurd (k2 f (hbg f hf)) (JJ.mp hh),λf hf Z=>k2 f hf⟩ ⟨λH' s' S' K' F'=>oq (K1.trans K') (bad H' s' S' (K1.trans K') F'),λH2 s2 S2 K2 R2 Ol TY=>?_⟩;refine xA hM λf1 hf1 f_=>?_;obtain rfl:=f_;refine xA hN λf2 N_ k_=>?_;obtain rfl:=k_;refine oq (K1.trans K2) (good H2 s2 S2 (K1.trans K2) R2 (λy v hv=>((QV y v).mp ((Ol y v).mp hv).1).1) (λv hv=>(jp (aN f1 hf1 (((QV x v).mp ((Ol x v).mp hv).1).2 rfl)) (aN f2 N_ (((Ol x v).mp hv).2 rfl)))) (λIN=>?_) λf hf ha=>?_)
 ·have e1:s1=s:=TZ nofun λv hv=>by refine ig v (IN v hv:_) λf hf=>?_;exact k1 f hf
  subst e1;exact TY nofun λv hv=>by refine ig v (IN v hv:_) λf hf=>?_;exact k2 f hf
 ·exact G_.mpr λy hy=>(Ol y _).mpr ⟨(QV y _).mpr ⟨G_.mp ha y hy,λe=>e▸k1 f hf⟩,λe=>e▸k2 f hf⟩
variable {a:Int}
theorem JO {b:Int}:v∈dG a b↔a<=v/\v<b:=by
 unfold dG;rw[C4]
 constructor
 ·intro f_;refine ig v f_ λi hi=>?_;have:=List.mem_range.mp hi;exact X4 this
 ·intro j_;refine bh j_ λh1 h2=>?_;exact(aN ((v - a).toNat) (List.mem_range.mpr (aaU h1 h2)) (aa6 h1))
theorem JF {d:et}:v∈iF d↔eR d v:=by
 unfold iF eR;rw[List.mem_flatMap];exact⟨λp_=>aG p_ λp hp h=>(bA p hp ((JO.mp h).1) (Int.lt_add_one_iff.mp (JO.mp h).2)),λs_=>cP s_ λp hp h1 h2=>(aN p hp (JO.mpr ⟨h1,Int.lt_add_one_iff.mpr h2⟩))⟩
theorem EP (a b:Int):(dG a b).Pairwise (·<·):=by
 unfold dG;rw[sG];exact List.pairwise_lt_range.imp λh=>Wz h
theorem uh {d:et} (c:IP d):(iF d).Pairwise (·<·):=by
 induction d with
 |nil=>exact .nil
 |cons p d ih=>
  show(sT _ (p::d)).Pairwise _;refine ah _ (fV ..) (List.pairwise_append.mpr ⟨EP _ _,ih c.tail,λv hv w hw=>?_⟩);have h1:=(JO.mp hv).2;have h2:=c.after (JF.mp hw);exact cN h1 h2
theorem CP:∀{l:List Int} {m:Nat},l.Pairwise (·<·)->(∀v∈l,a<=v/\v<a+m)->l.length<=m:=by
 intro l
 induction l generalizing a with
 |nil=>intro m _ _;exact aL _
 |cons v l ih=>
  intro m h hv;refine bh (List.pairwise_cons.mp h:_) λh1 h2=>?_;have h3:=hv v ae;have:=ih (a:=v+1) (m:=(a+m - v - 1).toNat) h2 λw hw=>by
   exact VM (h1 w hw) h3.2 (hv w (ag _ hw)).2
  simp only[iK];exact Xn h3 this
theorem O6 {d:et} (c:IP d) (h:∀v,eR d v->a<=v/\v<a+5):(iF d).length<=5:=CP (uh c) λv hv=>h v (JF.mp hv)
theorem EQ {d:et} (c:IP d) (h:∀v,eR d v->a<=v/\v<a+5):d.length<=3:=by
 rcases d with _|⟨p,_|⟨q,_|⟨r,_|⟨t,d⟩⟩⟩⟩
 ·exact aL _
 ·exact aY (aL _)
 ·exact aY (aY (aL _))
 ·exact aq _
 ·have hp:=h p.1 (bA p (.head _) (bu _) (c.2 p (.head _)));have ht:=h t.1 (bA t (.tail _ (.tail _ (.tail _ (.head _)))) (bu _) (c.2 t (.tail _ (.tail _ (.tail _ (.head _))))));have h1:=(List.pairwise_cons.mp c.1).1 q (.head _);have h2:=(List.pairwise_cons.mp c.tail.1).1 r (.head _);have h3:=(List.pairwise_cons.mp c.tail.tail.1).1 t (.head _);have k1:=c.2 p (.head _);have k2:=c.2 q (.tail _ (.head _));have k3:=c.2 r (.tail _ (.tail _ (.head _)));exact absurd (cN ht.2 (qT (by decide) a)) (Qm hp.1 k1 h1 k2 h2 k3 h3)
theorem HK {d:et} (c:IP d) (h:∀v,eR d v->a<=v/\v<a+5) (p q:Int×Int) (hp:d.head?=IC p) (hq:d.getLast?=IC q):q.2 - p.1<1000000:=by
 have mp:p∈d:=List.mem_of_mem_head? hp;have mq:q∈d:=kF hq;have h1:=h p.1 (bA p mp (bu _) (c.2 p mp));have h2:=h q.2 (bA q mq (c.2 q mq) (bu _));exact aaX h1 h2
theorem Oc {d:et} (c:IP d):(d.map λp=>p.2 - p.1+1).sum=((iF d).length:Int):=by
 induction d with
 |nil=>rfl
 |cons p d ih=>
  have hp:=c.2 p ae;have h1:(dG p.1 (p.2+1)).length=(p.2+1 - p.1).toNat:=by unfold dG;(refine ah _ (af ..) ?_;refine ah _ (cH ..) rfl)
  show _=((sT _ (p::d)).length:Int)
  (refine ah _ (e9 ..) ?_;refine ah _ (List.sum_cons ..) ?_;refine ah _ (ih c.tail ..) ?_;refine ah _ (fV ..) ?_;refine ah _ (aw ..) ?_;refine ah _ h1 ?_)
  show _=(((p.2+1 - p.1).toNat+(iF d).length:Nat):Int);exact Xo hp
theorem HL {l m:List Int} (h1:l.Pairwise (·<·)) (h2:m.Pairwise (·<·)) (h:∀v,v∈l↔v∈m):l=m:=by
 induction l generalizing m with
 |nil=>cases m with
  |nil=>rfl
  |cons w m=>nomatch (h w).mpr ae
 |cons v l ih=>
  cases m with
  |nil=>nomatch (h v).mp ae
  |cons w m=>
   refine bh (List.pairwise_cons.mp h1:_) λa1 a2=>bh (List.pairwise_cons.mp h2:_) λb1 b2=>?_;have e:v=w:=by
    rcases List.mem_cons.mp ((h v).mp ae)with e|hv
    ·exact e
    ·rcases List.mem_cons.mp ((h w).mpr ae)with e|hw
     ·exact e.symm
     ·exact absurd (cN (a1 w hw) (b1 v hv)) (ec _)
   subst e;refine ah _ (ih a2 b2 λx=>⟨λhx=>((List.mem_cons.mp ((h x).mp (ag _ hx))).resolve_left λe=>by have:=a1 x hx;exact(WX e this).elim),λhx=>((List.mem_cons.mp ((h x).mpr (ag _ hx))).resolve_left λe=>by have:=b1 x hx;exact(WX e this).elim)⟩ ..) rfl
theorem TabAt.keep (T:TabAt H p sc fs) (hp:∀a,a<6->p≠l a) (K:g_ H H' l l'):TabAt H' p sc fs:=bm T λrows e=>⟨rows,(K.keep p (c8 e) hp).trans e⟩
structure NJ (H:List a_) (l:Nat->Nat) (p:Nat) (c:Cx) (s0:St):Prop where
 tab:TabAt H p c.sc c.fs
 off:∀a,a<6->p≠l a
 six:c.fs.length<=6
 KZ:∀x∈c.sc,∃a:Int,∀f∈c.fs,a<=f x/\f x<a+5
 c0:c.ds=s0.b_
theorem NJ.at {s0:St} (P:NJ H l p c s0) (K:g_ H H' l l):NJ H' l p c s0:=⟨P.tab.keep P.off K,P.off,P.six,P.KZ,P.c0⟩
noncomputable def dm (c:Cx):List (Nat->Int):=c.fs.filter (dk c.ds c.sc)
theorem E_:f∈dm c↔f∈c.fs/\dk c.ds c.sc f=true:=List.mem_filter
structure Ti (c:Cx) (s0 s1:St) (x:Nat) (vs:List Int) (m:Nat) (s:St):Prop where
 run:Run c m s
 sub:∀y v,eR (s.b_.getD y []) v->eR (s1.b_.getD y []) v
 todo:∀v∈vs,eR (s.b_.getD x []) v
 done:∀v,eR (s.b_.getD x []) v->(∃f∈dm c,f x=v)∨v∈vs
 same:(∀v,eR (s1.b_.getD x []) v->∃f∈dm c,f x=v)->s=s1
theorem zA (ok:fB B) {vs:List Int} {s0 s1:St} (P:NJ H l p c s0) (S:e_ H l s) (J:Ti c s0 s1 x (v::vs) m s) (hm:m<1000) (hi:c.sc[i]?=IC x) (hw:∃a:Int,∀w,eR (s1.b_.getD x []) w->a<=w/\w<a+5) (h1:∀y w,eR (s1.b_.getD y []) w->eR (c.ds.getD y []) w) (hv:∀f∈dm c,f x≠v) (Uv:∀w∈vs,v<w)
 (bad:∀H' s',e_ H' l s'->g_ H H' l l->lG c s'->Q (dB false) H') (good:∀H' s',e_ H' l s'->g_ H H' l l->Ti c s0 s1 x vs (m+1) s'->Q (dB true) H'):
 Ap B (n+5) (.ref 424) [.inst 427 p,.inst 311 (l 0),dI i,dI v] H λw H1=>Ap B (n+5) (.ref 266) [.inst 311 (l 0),.dat (jt x .ne v),w] H1 Q:=by
 have R:=J.run;have hx:x∈c.sc:=an hi;refine ee (R.h_.at (R.sc.lt x hx):_) λe cn nn=>?_;have UZ:∀f∈c.fs,f x=v->dk s.b_ c.sc f=false:=λf hf RV=>by
  cases ha:dk s.b_ c.sc f with
  |false=>rfl
  |true=>exact absurd RV (hv f (E_.mpr ⟨hf,G_.mpr λy hy=>h1 y _ (J.sub y _ (G_.mp ha y hy))⟩))
 refine rT ok P.tab S R.h_ R.sc hi P.six UZ λws Z w h6=>bm hw λa M1=>?_;have Lu:=J.todo v ae;refine uf ok S R hm ⟨hx,nofun,λZ=>⟨Lu,EQ cn λu hu=>M1 u (J.sub x u hu)⟩,h6,λt ht=>(w.good t ht).1,λf hf hh=>?_,λf hf ha=>hv f (E_.mpr ⟨hf,ha⟩)⟩ ⟨bad,λH' s' S' K' R' Om Z=>good H' s' S' K' ⟨R',λy u hu=>J.sub y u ((Om y u).mp hu).1,λu hu=>(Om x u).mpr ⟨J.todo u (ag _ hu),λZ=>di (tc (Uv u hu))⟩,λu hu=>?_,λIN=>?_⟩⟩
 ·have RV:f x=v:=dj λhn=>JJ.mp hh hn;refine bh (List.mem_filter.mp hf:_) λh2 h3=>?_;exact w.all f h2 (Kf.mpr ⟨RV,by refine ah _ (R.c_ ..) ?_;exact h3⟩)
 ·exact bh ((Om x u).mp hu:_) λh2 h3=>(J.done u h2).imp id λh4=>(List.mem_cons.mp h4).resolve_left (h3 rfl)
 ·exact aG (IN v (J.sub x v Lu):_) λf hf RV=>absurd RV (hv f hf)
theorem Bz (ok:fB B) {s0 s1:St} {kvs:List (Int×PyData)} {lv:PyData} {o3 o7:Option V} {K:KS} (P:NJ H l p c s0) (S:e_ H l s1) (R:Run c m s1) (hm:m+5<1000) (hi:c.sc[i]?=IC x) (hw:∃a:Int,∀w,eR (s1.b_.getD x []) w->a<=w/\w<a+5) (h1:∀y w,eR (s1.b_.getD y []) w->eR (c.ds.getD y []) w)
 (hk:∀v,(iq kvs v).isSome=true↔∃f∈dm c,f x=v)
 (bad:∀H' s' vals,e_ H' l s'->g_ H H' l l->lG c s'->K (.ret (dB false)) vals H')
 (good:∀H' s' o,e_ H' l s'->g_ H H' l l->Ti c s0 s1 x [] (m+5) s'->K .next [IC (.inst 427 p),IC (.inst 311 (l 0)),IC (dI x),o3,IC (.dat lv),IC (dI i),IC (.m_ kvs),o] H'):
 (eB (.var 7) (.val (bn 116 [bZ 311 "dom" 196 cT [eG]])) B1_).wp B (n+5)
  [IC (.inst 427 p),IC (.inst 311 (l 0)),IC (dI x),o3,IC (.dat lv),IC (dI i),IC (.m_ kvs),o7] H K:=by
 have hx:x∈c.sc:=an hi;refine ee (R.h_.at (R.sc.lt x hx):_) λe cn nn=>bm hw λa M1=>?_;have hlen:=O6 cn M1;have aaq:=uh cn;refine(show aW (H[l 0]?.bind bc) _ from aj (aU (S.obj 0 (ax 5))) ⟨dD _ _ _,Cu ok S (ab R.h_.ok.b_ (ak rfl)) e (E9 ok S.cl (HK cn M1) (ab hlen (ak rfl)) ?_)⟩);refine(bA (λk vals H1=>∃s o,e_ H1 l s/\g_ H H1 l l/\k<=(iF (s1.b_.getD x [])).length/\Ti c s0 s1 x ((iF (s1.b_.getD x [])).drop k) (m+k) s/\vals=[IC (.inst 427 p),IC (.inst 311 (l 0)),IC (dI x),o3,IC (.dat lv),IC (dI i),IC (.m_ kvs),o]) ((w3 s1 o7 S .refl (aL _) ⟨R,λZ Z h=>h,λv hv=>JF.mp hv,λv hv=>.inr (JF.mpr hv),λZ=>rfl⟩ rfl)) ?_ ?_)
 ·intro k y vals H1 hy f_;refine uy f_ λs o S1 K1 XY J k_=>?_;obtain rfl:=k_;unfold gd at hy;refine fX y (cM hy:_) λv hv=>?_;have RQ:k<(iF (s1.b_.getD x [])).length:=c8 hv;have Kv:(iF (s1.b_.getD x [])).drop k=v::(iF (s1.b_.getD x [])).drop (k+1):=(cU RQ).trans (by refine ah _ ((List.getElem?_eq_some_iff.mp hv).2 ..) rfl);rw[Kv]at J;have UD:∀w∈(iF (s1.b_.getD x [])).drop (k+1),v<w:=by
   have:=aaq.sublist (List.drop_sublist k _);rw[Kv]at this;exact(List.pairwise_cons.mp this).1
  have next:∀{H2 s2},e_ H2 l s2->g_ H1 H2 l l->Ti c s0 s1 x ((iF (s1.b_.getD x [])).drop (k+1)) (m+k+1) s2->∀o',∃s o,e_ H2 l s/\g_ H H2 l l/\k+1<=(iF (s1.b_.getD x [])).length/\Ti c s0 s1 x ((iF (s1.b_.getD x [])).drop (k+1)) (m+(k+1)) s/\[IC (.inst 427 p),IC (.inst 311 (l 0)),IC (dI x),o3,IC (.dat lv),IC (dI i),IC (.m_ kvs),o']=[IC (.inst 427 p),IC (.inst 311 (l 0)),IC (dI x),o3,IC (.dat lv),IC (dI i),IC (.m_ kvs),o]:=λS2 K2 J2 o'=>(w3 _ o' S2 (K1.trans K2) RQ J2 rfl);refine(show j7 (!(iq kvs v).isSome) _ _ from cr (λhb=>?_) λhb=>?_)
  ·have hn:∀f∈dm c,f x≠v:=λf hf e=>by
    rw[(hk v).mpr (aN f hf e)]at hb;exact fP hb
   refine bm ((P.at K1).tab:_) λrows hT=>(show aW (H1[l 0]?.bind bc) _ from aj (aU (S1.obj 0 (ax 5))) ⟨dD _ _ _,(show aW (H1[p]?.bind bc) _ from aj (aU hT) ⟨ud _ _ _,zA ok (P.at K1) S1 J (Wm hm hlen RQ) hi ⟨a,M1⟩ h1 hn UD (λH' s' S' K' F=>?_) λH' s' S' K' J'=>?_⟩)⟩)
   ·exact bad H' s' _ S' (K1.trans K') F
   ·exact next S' K' J' _
  ·have hs:(iq kvs v).isSome=true:=by cases h:(iq kvs v).isSome with|true=>rfl|false=>rw[h]at hb;exact SR hb
   refine aG ((hk v).mp hs:_) λf hf RV=>next S1 .refl ⟨J.run.mono (cL _),J.sub,λw hw=>J.todo w (ag _ hw),λw hw=>?_,J.same⟩ _;rcases J.done w hw with h2|h2
   ·exact .inl h2
   ·rcases List.mem_cons.mp h2 with rfl|h2
    ·exact .inl (aN f hf RV)
    ·exact .inr h2
 ·intro vals H1 j_;refine uy j_ λs o S1 K1 XY J p_=>?_;obtain rfl:=p_;have RP:(gd (iF (s1.b_.getD x []))).length=(iF (s1.b_.getD x [])).length:=af ..;rw[RP,fk]at J;exact good H1 s o S1 K1 ⟨J.run.mono (bb hlen m),J.sub,J.todo,J.done,J.same⟩
theorem ER (ok:fB B) (S:e_ H l s) (R:Run c m s) (he:c.fs=[]) (bad:∀H' s',e_ H' l s'->g_ H H' l l->lG c s'->Q (dB false) H'):Ap B (n+6) (.ref 376) [.inst 311 (l 0),dI x,.dat (v6 c.fs x)] H Q:=by
 refine ah _ he ?_;refine PF.ap ok vC ⟨by show 0<=sizeLine;exact aL _,?_⟩;refine(show aW (H[l 0]?.bind bc) _ from aj (aU (S.obj 0 (ax 5))) ⟨dD _ _ _,Cq (rs:=[]) ok S (aL _) λH' S' K'=>oq K' (bad H' _ S' K' ?_)⟩);refine⟨⟨⟨R.h_.ok.b_,R.h_.ok.len,R.h_.ok.d_,R.h_.ok.news⟩,R.h_.LQ,R.h_.KX,R.h_.len,R.h_.sub⟩,R.c_,R.marks,R.rep,R.six,rfl,(λ_=>de),λf hf=>?_,aL _,λf hf=>?_⟩
 ·have:=(List.mem_filter.mp hf).1;rw[he]at this;exact de this
 ·rw[he]at hf;exact de hf
structure SC (c:Cx) (s0:St) (SN:List Nat) (m:Nat) (s:St):Prop where
 run:Run c m s
 sub:∀y v,eR (s.b_.getD y []) v->eR (s0.b_.getD y []) v
 KZ:∀x∈SN,∀v,eR (s.b_.getD x []) v->(∃f∈c.fs,f x<=v)/\∃f∈c.fs,v<=f x
 rows:∀f∈c.fs,dk s0.b_ c.sc f=true->dk s.b_ c.sc f=true
 same:(∀x∈c.sc,∀v,eR (s0.b_.getD x []) v->∃f∈c.fs,f x=v)->s=s0
theorem HM {y:PyData} (hx:(gR np ((ki sc).map .int) (sc.map (v6 fs)))[j]?=IC y):∃x:Nat,sc[j]?=IC x/\y=np (.int x) (v6 fs x):=by
 refine hU (nY hx:_) λa b h1 h2 f_=>?_;obtain rfl:=f_;unfold ki at h1;rw[aK,aK]at h1;rw[aK]at h2
 cases hs:sc[j]? with
 |none=>rw[hs]at h1;exact ft h1
 |some x=>rw[hs]at h1 h2;cases h1;cases h2;exact(aN x rfl rfl)
theorem BA (ok:fB B) {s0:St} {o2 o3 o4 o5 o6 o7:Option V} {K:KS} (P:NJ H l p c s0) (S:e_ H l s0) (R:Run c m s0) (hm:m+6<999)
 (bad:∀H' s' vals,e_ H' l s'->g_ H H' l l->lG c s'->K (.ret (dB false)) vals H')
 (good:∀H' s' a b,e_ H' l s'->g_ H H' l l->SC c s0 c.sc (m+6) s'->K .next [IC (.inst 427 p),IC (.inst 311 (l 0)),a,b,o4,o5,o6,o7] H'):
 (eB (.tup [2,3]) (.bi .zip [bE 427 "scope" eV,bE 427 "columns" eV]) Br_).wp B (n+6)
  [IC (.inst 427 p),IC (.inst 311 (l 0)),o2,o3,o4,o5,o6,o7] H K:=by
 refine bm P.tab λrows hT=>(show aW (H[p]?.bind bc) _ from aj (aU hT) (aj (kT _ _ _) (show aW (H[p]?.bind bc) _ from aj (aU hT) (aj (EM _ _ _) ?_))));refine(bA (λk vals H1=>∃s a b,e_ H1 l s/\g_ H H1 l l/\k<=c.sc.length/\SC c s0 (c.sc.take k) (m+2*k) s/\vals=[IC (.inst 427 p),IC (.inst 311 (l 0)),a,b,o4,o5,o6,o7]) ((FA s0 o2 o3 S .refl (aL _) ⟨R,λZ Z h=>h,λx hx=>(by rw[gw]at hx;exact de hx),λZ Z h=>h,λZ=>rfl⟩ rfl)) ?_ ?_)
 ·intro k y vals H1 hy f_;refine QE f_ λs a b S1 K1 hk J k_=>?_;obtain rfl:=k_;refine fX y (HM hy:_) λx hx=>?_;have IZ:k<c.sc.length:=c8 hx;have h3:=J.run.sc.H_;have Mu:x∈c.sc:=an hx;have Ls:c.sc.take (k+1)=c.sc.take k++[x]:=by(refine ah _ (bD ..) ?_;refine ah _ hx ?_);rfl
  by_cases IQ:c.fs=[]
  ·exact ER ok S1 J.run IQ λH' s' S' K' F=>bad H' s' _ S' (K1.trans K') F
  ·refine EO ok S1 J.run (Wl hm IZ h3) Mu IQ P.six (λH' s' S' K' F=>bad H' s' _ S' (K1.trans K') F) λH' s' S' K' R' TS Z3 U0 U1=>(FA s' _ _ S' (K1.trans K') IZ ⟨R',λy v hv=>J.sub y v (TS y v hv),λz hz v hv=>?_,λf hf ha=>U1 f hf (J.rows f hf ha),λIN=>?_⟩ rfl)
   ·rw[Ls]at hz;rcases List.mem_append.mp hz with hz|hz
    ·exact J.KZ z hz v (TS z v hv)
    ·rw[List.mem_singleton.mp hz]at hv⊢;exact Z3 v hv
   ·have e:=J.same IN;subst e;exact U0 λv hv=>IN x Mu v hv
 ·intro vals H1 j_;refine QE j_ λs a b S1 K1 hk J p_=>?_;obtain rfl:=p_;have hl:(gR np ((ki c.sc).map .int) (c.sc.map (v6 c.fs))).length=c.sc.length:=by
   unfold ki;(refine ah _ (qM ..) ?_;refine ah _ (af ..) ?_;refine ah _ (af ..) ?_;refine ah _ (af ..) ?_;refine ah _ (EF ..) rfl)
  have h3:=J.run.sc.H_;rw[hl,bx]at J;exact good H1 s a b S1 K1 ⟨J.run.mono (WN h3),J.sub,J.KZ,J.rows,J.same⟩
variable {k:Nat} {o2 o3 o6 o7:Option V}
structure XD (c:Cx) (s1:St) (SN:List Nat) (m:Nat) (s:St):Prop where
 run:Run c m s
 sub:∀y v,eR (s.b_.getD y []) v->eR (s1.b_.getD y []) v
 done:∀x∈SN,∀v,eR (s.b_.getD x []) v->∃f∈dm c,f x=v
 same:(∀x∈c.sc,∀v,eR (s1.b_.getD x []) v->∃f∈dm c,f x=v)->s=s1
theorem zB {y:PyData} (hx:(pg ((ki sc).map .int) k)[j]?=IC y):∃x:Nat,sc[j]?=IC x/\y=.tuple [.int ((k+j:Nat):Int),.int x]:=by
 induction sc generalizing j k with
 |nil=>exact ft hx
 |cons x sc ih=>
  cases j with
  |zero=>cases hx;exact(aN x rfl rfl)
  |succ j=>
   refine aG (ih (j:=j) (k:=k+1) hx:_) λz h1 h2=>?_;exact(aN z h1 (by(refine ah _ h2 ?_;refine ah _ (gX ..) ?_);rfl))
theorem HN:(pg ((ki sc).map .int) k).length=sc.length:=by
 induction sc generalizing k with
 |nil=>rfl
 |cons x sc ih=>exact congrArg (·+1) ih
theorem ES {lv:V} {K:KS} (hi:c.sc[i]?=IC x) (h3:c.sc.length<=3) (h6:(dm c).length<=sizeLine) (hlv:lv=dL ((dm c).map λf=>ff (c.sc.map f)))
 (q:∀kvs,(∀v,(iq kvs v).isSome=true↔∃f∈dm c,f x=v)->K .next [IC (.inst 427 p),IC (.inst 311 (l 0)),o2,o3,IC lv,IC (dI i),IC (.m_ kvs),o7] H):
 (uk 6 ⟨.val qN,⟨false,[1]⟩,[ID,ID,IC 5],ID⟩ (cI cT eG) SH).wp B n [IC (.inst 427 p),IC (.inst 311 (l 0)),o2,o3,IC lv,IC (dI i),o6,o7] H K:=by
 subst hlv;refine(bA (λk a H2=>H2=H/\a.length<=k/\k<=(dm c).length/\∀v,(iq a v).isSome=true↔∃f∈(dm c).take k,f x=v) ((fv rfl (aq _) (aL _) (λv=>⟨fP,λf_=>aG f_ λf hf Z=>(by rw[gw]at hf;exact de hf)⟩))) ?_ ?_)
 ·intro k y a H2 hy k_;refine YM H k_ λMy hk hm=>?_;refine fX y (cM hy:_) λf hf=>?_;have Ls:(dm c).take (k+1)=(dm c).take k++[f]:=by(refine ah _ (bD ..) ?_;refine ah _ hf ?_);rfl
  have OY:((c.sc.map f).map aS)[(i:Int).toNat]?=IC (.int (f x)):=by(refine ah _ (bG ..) ?_;refine ah _ (aK ..) ?_;refine ah _ (aK ..) ?_;refine ah _ hi ?_);rfl
  refine⟨trivial,i7 hi (ab h3 (ak rfl)),(show aW ((c.sc.map f).map aS)[(i:Int).toNat]? _ from aj OY (sY (ab My (ab hk h6)) rfl ?_ (c8 hf) (λv=>?_)))⟩
  ·unfold jV
   split
   ·refine ah _ (af ..) ?_;exact bP My
   ·refine ah _ (aw ..) ?_;exact aY My
  ·(refine ah _ (zv ..) ?_;refine ah _ Ls ?_)
   by_cases hv:f x=v
   ·refine ah _ (if_pos hv ..) ?_;exact⟨λZ=>(aN f (aR _ (List.mem_singleton.mpr rfl)) hv),λZ=>rfl⟩
   ·(refine ah _ (if_neg hv ..) ?_;rw[hm])
    exact⟨λp_=>aG p_ λg hg e=>(aN g (az _ hg) e),λs_=>aG s_ λg hg e=>(List.mem_append.mp hg).elim (λhg=>(aN g hg e)) λhg=>absurd (List.mem_singleton.mp hg▸e) hv⟩
 ·intro a H2 C_;refine kn C_ λII My hk hm=>?_;obtain rfl:=II;rw[af,bx]at hm;exact⟨trivial,q a hm⟩
theorem zC (ok:fB B) {s0 s1:St} {o5:Option V} {K:KS} (P:NJ H l p c s0) (S:e_ H l s1) (J1:SC c s0 c.sc m s1) (hm:m+15<999)
 (bad:∀H' s' vals,e_ H' l s'->g_ H H' l l->lG c s'->K (.ret (dB false)) vals H')
 (good:∀H' s' vals,e_ H' l s'->g_ H H' l l->XD c s1 c.sc (m+15) s'->K .next vals H'):
 (eB (.tup [5,2]) (.bi .enum XH) Bb_).wp B (n+5)
  [IC (.inst 427 p),IC (.inst 311 (l 0)),o2,o3,IC (dL ((dm c).map λf=>ff (c.sc.map f))),o5,o6,o7] H K:=by
 refine bm P.tab λrows hT=>?_;have JB:=J1.run.sc.H_;have ZU:(dm c).length<=sizeLine:=ab (c9 _ _) (ab P.six (ba rfl));refine(show aW (H[p]?.bind bc) _ from aj (aU hT) (aj (kT _ _ _) ?_));refine(bA (λk vals H1=>∃s a b d e f,e_ H1 l s/\g_ H H1 l l/\k<=c.sc.length/\XD c s1 (c.sc.take k) (m+5*k) s/\vals=[IC (.inst 427 p),IC (.inst 311 (l 0)),a,b,IC (dL ((dm c).map λf=>ff (c.sc.map f))),d,e,f]) ((QA s1 _ _ _ _ _ S .refl (aL _) ⟨J1.run,λZ Z h=>h,λx hx=>(by rw[gw]at hx;exact de hx),λZ=>rfl⟩ rfl)) ?_ ?_)
 ·intro k y vals H1 hy IY;refine TG IY λs a b d e f S1 K1 hk J JR=>?_;obtain rfl:=JR;refine fX y (zB (k:=0) hy:_) λx hx=>ah _ (iN ..) ?_;have Mu:x∈c.sc:=an hx;have Ls:c.sc.take (k+1)=c.sc.take k++[x]:=by(refine ah _ (bD ..) ?_;refine ah _ hx ?_);rfl
  have IZ:k<c.sc.length:=c8 hx;refine ES hx JB ZU rfl λkvs ZW=>bm (P.KZ x Mu:_) λa0 ha=>?_;have M1:∃a:Int,∀w,eR (s.b_.getD x []) w->a<=w/\w<a+5:=⟨a0,λw hw=>by
   refine bh (J1.KZ x Mu w (J.sub x w hw):_) λj_ p_=>?_;refine aG j_ λf1 hf1 h1=>?_;refine aG p_ λf2 N_ h2=>?_;exact⟨aX (ha f1 hf1).1 h1,bW h2 (ha f2 N_).2⟩⟩
  refine Bz (s0:=s0) ok (P.at K1) S1 J.run (Wu hm JB IZ) hx M1 (λy w hw=>by refine ah _ (P.c0 ..) ?_;exact J1.sub y w (J.sub y w hw)) ZW (λH' s' vals S' K' F=>bad H' s' vals S' (K1.trans K') F) λH' s' o S' K' I=>?_;refine(QA s' _ _ _ _ _ S' (K1.trans K') IZ ⟨I.run.mono WE,λy v hv=>J.sub y v (I.sub y v hv),λz hz v hv=>?_,λIN=>?_⟩ rfl)
  ·rw[Ls]at hz;rcases List.mem_append.mp hz with hz|hz
   ·exact J.done z hz v (I.sub z v hv)
   ·rw[List.mem_singleton.mp hz]at hv⊢;exact(I.done v hv).resolve_right de
  ·have e1:=J.same IN;subst e1;exact I.same λv hv=>IN x Mu v hv
 ·intro vals H1 Ko;refine TG Ko λs a b d e f S1 K1 hk J J7=>?_;obtain rfl:=J7;rw[show(pg ((ki c.sc).map aS) 0).length=c.sc.length from HN (k:=0),bx]at J;exact good H1 s _ S1 K1 ⟨J.run.mono (WM JB),J.sub,J.done,J.same⟩
structure XC (H:List a_) (l:Nat->Nat) (c:Cx) (m:Nat) (s0:St) (Q:V->List a_->Prop):Prop where
 bad:∀H' s',e_ H' l s'->g_ H H' l l->lG c s'->Q (dB false) H'
 good:∀H' s',e_ H' l s'->g_ H H' l l->Run c (m+21) s'->(∃f,f∈dm c)->(∀x∈c.sc,∀v,eR (s'.b_.getD x []) v↔∃f∈dm c,f x=v)->((∀x∈c.sc,∀v,eR (s0.b_.getD x []) v->∃f∈dm c,f x=v)->s'=s0)->Q (dB true) H'
theorem qD (ok:fB B) {s0:St} (P:NJ H l p c s0) (S:e_ H l s0) (R:Run c m s0) (hm:m+21<999) (JB:c.sc≠[]) (q:XC H l c m s0 Q):Ap B (n+7) (.ref 414) [.inst 427 p,.inst 311 (l 0)] H Q:=by
 refine bm P.tab λrows hT=>?_;have hlen:((ki c.sc).map aS).length=c.sc.length:=by unfold ki;(refine ah _ (af ..) ?_;refine ah _ (af ..) rfl)
 refine PF.ap ok qv (show aW (H[p]?.bind bc) _ from aj (aU hT) (aj (kT _ _ _) ⟨by refine ah _ hlen ?_;exact ab R.sc.H_ (ba rfl),ju ?_ ?_⟩))
 ·refine ah _ hlen ?_;have:=List.length_pos_iff.mpr JB;exact decide_eq_false (Wq this)
 refine BA ok P S R (Xh hm) (λH' s' vals S' K F=>oq K (q.bad H' s' S' K F)) λH1 s1 a b S1 K1 J1=>bm ((P.at K1).tab:_) λabN T9=>?_;have hf6:c.fs.length<=sizeLine:=ab P.six (ba rfl);refine(show aW (H1[p]?.bind bc) _ from aj (aU T9) (aj (vV _ _ _) (bA (Got (λf:Nat->Int=>if dk s1.b_ c.sc f=true then IC (ff (c.sc.map f))else ID) c.fs H1) ⟨rfl,rfl⟩ (λj y a H2 hy g=>⟨trivial,?_⟩) (λa H2 g=>⟨trivial,?_⟩))))
 ·refine fX y (cM hy:_) λf hf=>?_;refine bh (id g:_) λC_ II=>?_;obtain rfl:=C_;obtain rfl:=II;refine(show aW (H2[p]?.bind bc) _ from aj (aU T9) ⟨ud _ _ _,By ok (P.at K1).tab S1 J1.run.h_ J1.run.sc ?_⟩);exact cr (λhb=>g.yes hf (if_pos hb) hf6) λhb=>g.no hf (if_neg λz=>aA (hb.symm.trans z))
 ·refine bh g.end λIY JR=>?_;obtain rfl:=IY;obtain rfl:=JR;have UT:c.fs.filter (dk s1.b_ c.sc)=dm c:=List.filter_congr λf hf=>by
   (rw[kY];refine ah _ (P.c0 ..) ?_)
   exact⟨λh=>G_.mpr λx hx=>J1.sub x _ (G_.mp h x hx),J1.rows f hf⟩
  (refine ah _ (j5 ..) ?_;refine ah _ UT ?_)
  refine zC (o2:=a) (o3:=b) ok (P.at K1) S1 J1 hm (λH' s' vals S' K F=>oq (K1.trans K) (q.bad H' s' S' (K1.trans K) F)) λH' s' vals S' K J=>oq (K1.trans K) ?_;have Jl:∀f∈dm c,dk s'.b_ c.sc f=true:=λf hf=>J.run.left f (E_.mp hf).1 (E_.mp hf).2;refine q.good H' s' S' (K1.trans K) J.run ?_ (λx hx v=>⟨J.done x hx v,λJY=>aG JY λf hf e=>e▸G_.mp (Jl f hf) x hx⟩) λIN=>?_
  ·refine lP (lN JB:_) λx r hx=>?_;have Mu:x∈c.sc:=hx▸ae;exact ee (J.run.h_.at (J.run.sc.lt x Mu):_) λZ cn nn=>bm (cn.some nn:_) λv hv=>aG (J.done x Mu v hv:_) λf hf Z=>⟨f,hf⟩
  ·have e1:s1=s0:=J1.same λx hx v hv=>aG (IN x hx v hv:_) λf hf e=>(aN f ((E_.mp hf).1) e);subst e1;exact J.same IN
variable {r:List Int}
noncomputable def A1 (sc:List Nat) (r:List Int) (x:Nat):Int:=(pq sc r x).getD 0
noncomputable def cons (sc:List Nat) (r:List Int):Bool:=decide (sc.map (A1 sc r)=r)
theorem OR (hx:x∈sc) (hl:sc.length=r.length):iq (u8 (ki sc) (r.map .int)) x=IC (.int (A1 sc r x)):=by
 refine bm (vR hx hl:_) λv e=>?_;unfold u8 A1
 (refine ah _ (vQ ..) ?_;refine ah _ e ?_);rfl
theorem ET (ok:fB B) {fs:List (Str×V)} (hT:H[p]?=IC (.inst fs)) (hf:fA fs (am "scope")=IC (nH sc)) (hl:sc.length=r.length) (h3:sc.length<=3) (q:Q (dB (cons sc r)) H):Ap B (n+1) (.ref 395) [.inst 427 p,.dat (ff r)] H Q:=by
 have JB:sc.length<=sizeLine:=ab h3 (ba rfl);have e0:=aU hT;have l1:((ki sc).map aS).length=sc.length:=by unfold ki;(refine ah _ (af ..) ?_;refine ah _ (af ..) rfl)
 have l2:(r.map aS).length=sc.length:=by(refine ah _ (af ..) ?_;refine ah _ hl rfl)
 refine PF.ap ok ub (show aW (H[p]?.bind bc) _ from aj e0 (aj hf ?_));refine(show aW (oi ((ki sc).map .int)) _ from aj (oL _) ⟨⟨by refine ah _ (l2 ..) ?_;unfold ki;exact af ..,by unfold ki;refine ah _ (af ..) ?_;exact JB⟩,?_⟩);refine⟨by refine ah _ (l2 ..) ?_;exact JB,(show aW (H[p]?.bind bc) _ from aj e0 (aj hf ⟨by refine ah _ (l1 ..) ?_;exact JB,?_⟩))⟩;have hlen:(((r.map aS).length:Nat):Int)=(((ki sc).map aS).length:Nat):=Nat.ToInt.of_eq rfl (congrArg NatCast.natCast (id (kI l1))) l2;refine iu (decide_eq_true hlen) (show aW (H[p]?.bind bc) _ from aj e0 (aj hf ?_));refine(bA (λk a H2=>a=(sc.take k).map (λx=>aS (A1 sc r x))/\H2=H) ⟨rfl,rfl⟩ ?_ ?_)
 ·intro k y a H2 hy f_;refine fq a f_ λj_=>?_;obtain rfl:=j_;unfold ki at hy;rw[aK,aK]at hy
  cases hx:sc[k]? with
  |none=>rw[hx]at hy;exact ft hy
  |some x=>
   rw[hx]at hy;cases hy;have hk:iq (u8 (ki sc) (r.map .int)) x=IC (.int (A1 sc r x)):=OR (an hx) hl;refine⟨trivial,(show aW (iq (u8 (ki sc) (r.map .int)) x) _ from aj hk ⟨?_,?_,rfl⟩)⟩
   ·refine ah _ (af ..) ?_;exact ab (fU _ _) JB
   ·(refine ah _ (bD ..) ?_;refine ah _ hx ?_;refine ah _ (aT ..) ?_);rfl
 ·intro a H2 p_;refine fq a p_ λC_=>?_;obtain rfl:=C_
  (refine ah _ (l1 ..) ?_;refine ah _ (bx ..) ?_)
  have e1:sc.map (λx=>aS (A1 sc r x))=(sc.map (A1 sc r)).map aS:=by refine ah _ (cV ..) ?_;rfl
  refine ah _ e1 ?_;refine(fv trivial (by refine ah _ (l2 ..) ?_;exact JB) ⟨(iA (i6 mX _)).ok (ak rfl),(iA (i6 mX _)).ok (ak rfl)⟩ ?_);have e2:aQ (.list ((sc.map (A1 sc r)).map .int)) (.list (r.map .int))=cons sc r:=by
   rw[kY,sQ im (sc.map (A1 sc r)) r];exact decide_eq_true_iff.symm
  show∃v0 H0,K7 _ (dB (aQ (.list ((sc.map (A1 sc r)).map .int)) (.list (r.map .int)))) _ v0 H0/\Q v0 H0;exact ah _ e2 (dr q)
variable {a:a_} {rows:List (List Int)}
theorem gp:(H++[a])[H.length]?=IC a:=wZ
theorem n7 {b:a_}:(H++[a]).set H.length b=H++[b]:=x6
noncomputable def A3 (sc:List Nat):List (Str×V):=[("number",dI (-1)),("scope",nH sc),("strength",dS "values")]
theorem HO (sc:List Nat):iD (iD (iD [] (am "number") (dI (-1))) (am "scope") (nH sc)) (am "strength") (dS "values")=A3 sc:=by kernel_rfl
theorem EU (ok:fB B) (h3:sc.length<=3) (q:Q dN (H++[.inst (A3 sc)])):Mb B (n+1) (.ref 329) [.inst 427 H.length,nH sc,dS "values"] (H++[.inst []]) Q:=by
 have l1:((ki sc).map aS).length=sc.length:=by unfold ki;(refine ah _ (af ..) ?_;refine ah _ (af ..) rfl)
 have JB:sc.length<=sizeLine:=ab h3 (ba rfl);refine PF.apC ok nF (show aW ((H++[a_.inst []])[H.length]?.bind bc) _ from aj (aU gp) (iu rfl ?_))
 (refine ah _ (show(427,H.length).2=H.length from rfl) ?_;refine ah _ (n7 ..) ?_)
 refine⟨by refine ah _ (l1 ..) ?_;exact JB,(show aW ((H++[a_.inst _])[H.length]?.bind bc) _ from aj (aU gp) (iu rfl ?_))⟩
 (refine ah _ (show(427,H.length).2=H.length from rfl) ?_;refine ah _ (n7 ..) ?_)
 refine(show aW ((H++[a_.inst _])[H.length]?.bind bc) _ from aj (aU gp) (iu rfl ?_))
 (refine ah _ (show(427,H.length).2=H.length from rfl) ?_;refine ah _ (n7 ..) ?_)
 show∃v0 H0,K7 _ dN (H++[.inst (iD (iD (iD [] (am "number") (dI (-1))) (am "scope") (nH sc)) (am "strength") (dS "values"))]) v0 H0/\Q v0 H0;refine ah _ (HO ..) ?_;exact(ie dN _ (.keep (by(refine ah _ (aw ..) ?_;refine ah _ (aw ..) ?_);exact aq _)) q)
noncomputable def ln (sc:List Nat) (rows:List (List Int)):List (Nat->Int):=(rows.filter (cons sc)).map (A1 sc)
theorem zD:(ln sc rows).map (λf=>ff (sc.map f))=(rows.filter (cons sc)).map ff:=by
 unfold ln;refine ah _ (cV ..) (qK λr hr=>?_);have:sc.map (A1 sc r)=r:=of_decide_eq_true (List.mem_filter.mp hr).2;show ff (sc.map (A1 sc r))=ff r;exact congrArg _ (by assumption)
theorem HP (sc:List Nat) (v:V):iD (A3 sc) (am "rows") v=A3 sc++[(am "rows",v)]:=by kernel_rfl
theorem HQ (sc:List Nat) (v w:V):iD (A3 sc++[(am "rows",v)]) (am "able") w=A3 sc++[(am "rows",v),(am "able",w)]:=by kernel_rfl
theorem HR (sc:List Nat) (v w u:V):iD (A3 sc++[(am "rows",v),(am "able",w)]) (am "columns") u=A3 sc++[(am "rows",v),(am "able",w),(am "columns",u)]:=by kernel_rfl
theorem vX (sc:List Nat) (v:V):fA (A3 sc++[(am "rows",v)]) (am "rows")=IC v/\fA (A3 sc++[(am "rows",v)]) (am "scope")=IC (nH sc):=⟨by kernel_rfl,by kernel_rfl⟩
theorem vY (sc:List Nat) (v w:V):fA (A3 sc++[(am "rows",v),(am "able",w)]) (am "able")=IC w/\fA (A3 sc++[(am "rows",v),(am "able",w)]) (am "scope")=IC (nH sc):=⟨by kernel_rfl,by kernel_rfl⟩
theorem QN {fs:List (Str×V)} (h:(fs.all λf=>uP La f.1)=true):Gp 427 fs:=λf hf=>ww (List.all_eq_true.mp h f hf)
theorem iV {y:PyData} (h:(gd (dG 0 (m:Nat)))[k]?=IC y):k<m/\y=.int (k:Nat):=by
 unfold gd dG at h;rw[aK,aK,Int.sub_zero,bG]at h;by_cases hk:k<m
 ·rw[l8 hk]at h;cases h;exact⟨hk,by show aS (0+(k:Int))=_;refine ah _ (Int.zero_add ..) rfl⟩
 ·rw[fD (by refine ah _ (cH ..) ?_;exact Nat.not_lt.mp hk)]at h;exact ft h
theorem kU:(gd (dG 0 (m:Nat))).length=m:=by
 unfold gd dG;(refine ah _ (af ..) ?_;refine ah _ (af ..) ?_;refine ah _ (cH ..) ?_;refine ah _ (Int.sub_zero ..) ?_;refine ah _ (bG ..) rfl)
theorem EV (ok:fB B) {K:KS} {e:Option V} (hi:H[i]?=IC (.list (rows.map ff))) (h3:sc.length<=3) (h6:rows.length<=6) (hl:∀r∈rows,sc.length=r.length)
 (q:∀vals H',TabAt H' H.length sc (ln sc rows)->H'.length=H.length+1->(ea H->ea H')->(∀j,j<H.length->H'[j]?=H[j]?)->K .next vals H'):
 cA Kk.body B (n+2) [IC (.inst 427 H.length),e,IC (.loc i)] (H++[.inst (A3 sc)]) K:=by
 have l1:((ki sc).map aS).length=sc.length:=by unfold ki;(refine ah _ (af ..) ?_;refine ah _ (af ..) rfl)
 have JB:sc.length<=sizeLine:=ab h3 (ba rfl);have UB:rows.length<=sizeLine:=ab h6 (ba rfl);have hi1:∀o,(H++[o])[i]?=IC (.list (rows.map ff)):=λo=>(b8 (c8 hi)).trans hi;refine(show aW ((H++[a_.inst (A3 sc)])[i]?.bind ch) _ from aj (bM (hi1 _)) (bA (Got (λr:List Int=>IC (ff r)) rows (H++[a_.inst (A3 sc)])) ⟨rfl,rfl⟩ (λj y a H2 hy g=>?_) (λa H2 g=>?_)))
 ·refine fX y (cM hy:_) λr hr=>?_;refine bh (id g:_) λk_ j_=>?_;obtain rfl:=k_;obtain rfl:=j_;refine⟨hi1 _,?_,g.yes hr rfl UB⟩
  (refine ah _ (af ..) ?_;refine ah _ (hl r (an hr) ..).symm ?_);exact JB
 refine fq a g.end λs_=>?_;obtain rfl:=s_;have e1:rows.filterMap (λr:List Int=>IC (ff r))=rows.map ff:=by refine ah _ (gU ..) rfl
 refine ah _ e1 ?_;refine⟨hi1 _,by refine ah _ (af ..) ?_;exact UB,(show aW ((H++[a_.inst _])[H.length]?.bind bc) _ from aj (aU gp) (iu rfl ?_))⟩;refine ah _ (HP ..) ?_
 (refine ah _ (show(427,H.length).2=H.length from rfl) ?_;refine ah _ (n7 ..) ?_)
 refine(show aW ((H++[a_.inst _])[H.length]?.bind bc) _ from aj (aU gp) (aj (vX _ _).1 (bA (Got (λr:List Int=>if cons sc r=true then IC (ff r)else ID) rows _) ⟨rfl,rfl⟩ (λj y a H2 hy g=>⟨trivial,?_⟩) (λa H2 g=>⟨trivial,?_⟩))))
 ·refine fX y (cM hy:_) λr hr=>?_;refine bh (id g:_) λII IY=>?_;obtain rfl:=II;obtain rfl:=IY;refine(show aW ((H++[a_.inst _])[H.length]?.bind bc) _ from aj (aU gp) ⟨QN (by kernel_rfl),ET ok gp (vX _ _).2 (hl r (an hr)) h3 ?_⟩);exact cr (λhb=>g.yes hr (if_pos hb) UB) λhb=>g.no hr (if_neg λz=>aA (hb.symm.trans z))
 refine fq a g.end λKo=>?_;obtain rfl:=Ko
 (refine ah _ (j5 ..) ?_;refine ah _ (zD ..).symm ?_)
 refine(show aW ((H++[a_.inst _])[H.length]?.bind bc) _ from aj (aU gp) (iu rfl ?_))
 (refine ah _ (show(427,H.length).2=H.length from rfl) ?_;refine ah _ (n7 ..) ?_;refine ah _ (HQ ..) ?_)
 have haf:(ln sc rows).length<=sizeLine:=by unfold ln;refine ah _ (af ..) ?_;exact ab (c9 _ _) UB
 refine(show aW ((H++[a_.inst _])[H.length]?.bind bc) _ from aj (aU gp) (aj (vY _ _ _).2 ⟨by refine ah _ (l1 ..) ?_;exact JB,?_⟩));refine ah _ (l1 ..) ((bA (λk a H2=>a=(sc.take k).map (v6 (ln sc rows))/\H2=H++[.inst (A3 sc++[(am "rows",dT (rows.map ff)),(am "able",dL ((ln sc rows).map λf=>ff (sc.map f)))])]) ⟨rfl,rfl⟩ (λk y a H2 hy hz=>?_) (λa H2 hz=>?_)))
 ·refine fq a hz λJY=>?_;obtain rfl:=JY;refine bh (iV hy:_) λhk Ji=>?_;obtain rfl:=Ji;obtain⟨x,hx⟩:∃x,sc[k]?=IC x:=⟨_,aJ hk⟩;refine⟨trivial,(show aW ((H++[a_.inst _])[H.length]?.bind bc) _ from aj (aU gp) (aj (vY _ _ _).1 (bA (Got (λf:Nat->Int=>IC (.int (f x))) (ln sc rows) _) ⟨rfl,rfl⟩ (λj z b H3 hz g=>⟨trivial,?_⟩) (λb H3 g=>⟨trivial,?_⟩))))⟩
  ·refine fX z (cM hz:_) λf hf=>?_;refine bh (id g:_) λJX JD=>?_;obtain rfl:=JX;obtain rfl:=JD;have OY:((sc.map f).map aS)[(k:Int).toNat]?=IC (.int (f x)):=by(refine ah _ (bG ..) ?_;refine ah _ (aK ..) ?_;refine ah _ (aK ..) ?_;refine ah _ hx ?_);rfl
   exact⟨i7 hx (ab h3 (ak rfl)),(show aW ((sc.map f).map aS)[(k:Int).toNat]? _ from aj OY (g.yes hf rfl haf))⟩
  ·refine fq b g.end λLY=>?_;obtain rfl:=LY;refine ah _ (gU ..) (⟨?_,?_,rfl⟩)
   ·refine ah _ (af ..) ?_;exact ab (fU _ _) JB
   ·(refine ah _ (bD ..) ?_;refine ah _ hx ?_;refine ah _ (aT ..) ?_);rfl
 ·refine fq a hz λLc=>?_;obtain rfl:=Lc
  (refine ah _ (kU ..) ?_;refine ah _ (bx ..) ?_)
  refine⟨trivial,(show aW ((H++[a_.inst _])[H.length]?.bind bc) _ from aj (aU gp) (iu rfl ?_))⟩
  (refine ah _ (show(427,H.length).2=H.length from rfl) ?_;refine ah _ (n7 ..) ?_;refine ah _ (HR ..) ?_)
  refine q _ _ ⟨_,gp⟩ (by refine ah _ (aw ..) ?_;rfl) (λhc=>mZ hc rfl) λj hj=>b8 hj
theorem EW (ok:fB B) (Nw:XE B) (hM:nX B 427 kz) (hc:ea H) (hi:H[i]?=IC (.list (rows.map ff))) (h3:sc.length<=3) (h6:rows.length<=6) (hl:∀r∈rows,sc.length=r.length)
 (q:∀H',TabAt H' H.length sc (ln sc rows)->H'.length=H.length+1->ea H'->(∀j,j<H.length->H'[j]?=H[j]?)->Q (.inst 427 H.length) H'):Ap B (n+4) (.ref 427) [nH sc,.loc i] H Q:=by
 have l1:((ki sc).map aS).length=sc.length:=by unfold ki;(refine ah _ (af ..) ?_;refine ah _ (af ..) rfl)
 have JB:sc.length<=sizeLine:=ab h3 (ba rfl);have UB:rows.length<=sizeLine:=ab h6 (ba rfl);refine Ap.make hM (PF.init ok.ok Nw xl (show 427=427/\_ from⟨rfl,by refine ah _ (l1 ..) ?_;exact JB,EU ok h3 ?_⟩));exact EV ok hi h3 h6 hl λvals H' T len cl kp=>(eu dN H' (.keep (by(refine ah _ (len ..) ?_;refine ah _ (aw ..) ?_);exact aq _)) rfl (q H' T len (cl hc) kp))
variable {R:Bool->List a_->Prop}
noncomputable def MJ (x:Nat) (v:Int) (f:Nat->Int):Bool:=decide (f x=v)
theorem CQ {a b:Nat} (hj:vals[j]?=IC (IC (dL (fs.map λf=>ff (sc.map f))))) (ha:vals[a]?=IC (IC (dI i))) (hb:vals[b]?=IC (IC (dI v))) (hi:sc[i]?=IC x) (h3:sc.length<=3) (h6:fs.length<=sizeLine)
 (q:Q (dL ((fs.filter (MJ x v)).map λf=>ff (sc.map f))) H):(bO ⟨.val (cO j),⟨false,[1]⟩,[ID,ID,IC a,IC b],IC (bo dW (cI cT eG) gv)⟩ cT).wp B n vals H Q:=by
 have J3:sk vals [ID,ID,IC a,IC b]=IC [ID,ID,IC (dI i),IC (dI v)]:=by
  show(IC none:Option (Option V)).bind (λo=>((IC none:Option (Option V)).bind λo2=>(vals[a]?.bind λo3=>(vals[b]?.bind λo4=>IC [o4]).map (o3::·)).map (o2::·)).map (o::·))=_
  (refine ah _ ha ?_;refine ah _ hb ?_);rfl
 refine aj J3 (aj hj ?_);refine(bA (Got (λf:Nat->Int=>if MJ x v f=true then IC (ff (sc.map f))else ID) fs H) ⟨rfl,rfl⟩ (λk y c H2 hy g=>⟨trivial,?_⟩) (λc H2 g=>⟨trivial,?_⟩))
 ·refine fX y (cM hy:_) λf hf=>?_;refine bh (id g:_) λk_ j_=>?_;obtain rfl:=k_;obtain rfl:=j_;have OY:((sc.map f).map aS)[(i:Int).toNat]?=IC (.int (f x)):=by(refine ah _ (bG ..) ?_;refine ah _ (aK ..) ?_;refine ah _ (aK ..) ?_;refine ah _ hi ?_);rfl
  refine⟨i7 hi (ab h3 (ak rfl)),(show aW ((sc.map f).map aS)[(i:Int).toNat]? _ from aj OY ⟨⟨rfl,rfl⟩,?_⟩)⟩;refine cr (λhb=>g.yes hf (if_pos (decide_eq_true ((im _ _).mp hb))) h6) λhb=>g.no hf (if_neg λz=>?_);exact aA (hb.symm.trans ((im _ _).mpr (of_decide_eq_true z)))
 ·refine fq c g.end λs_=>?_;obtain rfl:=s_;refine ah _ (j5 ..) ?_;exact q
theorem xo (h:vals[j]?=IC o):sk vals [ID,ID,IC j]=IC [ID,ID,o]:=by
 show(IC none:Option (Option V)).bind (λo=>((IC none:Option (Option V)).bind λo2=>(vals[j]?.bind λo3=>IC [o3]).map (o2::·)).map (o::·))=_;refine ah _ h ?_;rfl
theorem EX {o':Option V} (h:vals[j]?=IC o) (h':vals[k]?=IC o'):sk vals [ID,ID,IC j,IC k]=IC [ID,ID,o,o']:=by
 show(IC none:Option (Option V)).bind (λo=>((IC none:Option (Option V)).bind λo2=>(vals[j]?.bind λo3=>(vals[k]?.bind λo4=>IC [o4]).map (o3::·)).map (o2::·)).map (o::·))=_
 (refine ah _ h ?_;refine ah _ h' ?_);rfl
structure BB (ds:List et) (sc:List Nat):Prop where
 H_:ds.length<=1000
 each:∀x∈sc,x<ds.length/\IP (ds.getD x [])/\ds.getD x []≠[]/\(ds.getD x []).length<=sizeLine
theorem mv {a:List PyData} (h:a=[]):(!aQ (.list a) (.list []))=false:=by refine ah _ (Jg.mpr h ..) ?_;rfl
theorem pQ (ok:fB B) (a:PE) {vd:V} {d:PyData} (ha:∀Q:V->List a_->Prop,Q (.dat d) H->a.wp B (n+2) vals H Q) (hv:jy (.dat d)=IC (ws.map Lt.d)) (hj:vals[j]?=IC (IC vd)) (hs:gT H vd=IC (ds.map bY)) (D:BB ds sc) (hh:∀t∈ws,Holds ds sc t) (q:R false H):
 (bo dX (bO ⟨.val a,⟨false,[1]⟩,[ID,ID,IC j],IC (gq (fO (bn 455 [cT,cI eG (eE 0 cT)])))⟩ cT) Fp).wp B (n+2) vals H R:=by
 refine aj (xo hj) (ha _ (aj hv ?_));refine(bA (λk b H2=>b=[]/\H2=H) ⟨rfl,rfl⟩ (λk y b H2 hy hz=>⟨trivial,?_⟩) (λb H2 hz=>⟨trivial,?_⟩))
 ·refine fq b hz λII=>?_;obtain rfl:=II;refine fX y (cM hy:_) λt ht=>?_;have h1:=hh t (an ht);refine aG h1.sc λx hx e=>?_;obtain⟨y,sg,k⟩:=t;cases(show y=(x:Nat)from e);refine kn (D.each x hx:_) λhl c nn hlen=>?_;have T7:=mu hl;exact(show aW (gT H2 vd) _ from aj hs ⟨i7 T7 D.H_,aj (iT T7) (Ea ok c nn hlen h1.st ⟨rfl,rfl⟩)⟩)
 ·refine fq b hz λKo=>?_;obtain rfl:=Ko;refine⟨⟨rfl,rfl⟩,?_⟩;show R (!aQ (.list []) (.list [])) H2;refine ah _ (mv rfl ..) ?_;exact q
variable {vr:V}
theorem Pl:Enc λs:Sg=>jd s.str:=λx y=>by
 cases x<;>cases y<;>first|exact⟨λZ=>rfl,λZ=>by decide+kernel⟩|exact⟨λh=>absurd h (by decide+kernel),(nofun)⟩
theorem Si:Enc Lt.d:=λa b=>by
 obtain⟨x,s,k⟩:=a;obtain⟨y,t,m⟩:=b;show aQ (.tuple [.int x,.str s.str,.int k]) (.tuple [.int y,.str t.str,.int m])=true↔_
 (rw[aQ,fe,fe,fe,fe];refine ah _ (eM ..) ?_;refine ah _ (eM ..) ?_;refine ah _ (eM ..) ?_;rw[im x y,Pl s t,im k m])
 exact⟨λf_=>kn f_ λh1 h2 h3 Z=>by(refine ah _ h1 ?_;refine ah _ h2 ?_;refine ah _ h3 rfl),λe=>by cases e;exact(fv rfl rfl rfl rfl)⟩
theorem BC {ls:List (List gM)} (p:ks.Perm ls) (h1:ks.Pairwise λa b=>pW a b=true) (h2:ls.Pairwise λa b=>pW a b=true):ks=ls:=
 p.eq_of_pairwise (λa b Z Z h3 h4=>absurd (ro h3 h4) (by refine ah _ (kS ..) ?_;nofun)) h1 h2
theorem zE (ws:List Lt):(ws.map Lt.key).map mo=ws.map Lt.d:=by refine ah _ (cV ..) ?_;rfl
theorem ui {ws:List (List gM)} (h:ws.Pairwise λa b=>pW a b=true):ws.Nodup:=h.imp λ{a b} h e=>by rw[e,kS]at h;exact fP h
theorem HS (hj:vals[j]?=IC (IC (dT (ws.map Lt.d)))) (pw:ws.Pairwise λa b=>pW a.key b.key=true) (h6:ws.length<=6) (q:R false H):
 (bo dX (bI .list [cO j]) (bI .Kq [bI .MV [cO j]])).wp B n vals H R:=by
 have pk:(ws.map Lt.key).Pairwise λa b=>pW a b=true:=List.pairwise_map.mpr pw;have hl:∀{m},6<=m->(ws.map Lt.key).length<=m:=λh=>by refine ah _ (af ..) ?_;exact ab h6 h
 have hk:zm (ws.map Lt.d)=IC (ws.map Lt.key):=by refine ah _ (zE ..).symm ?_;exact vP _
 refine aj hj ⟨by refine ah _ (af ..) ?_;exact ab h6 (ba rfl),aj hj ?_⟩;refine(show aW (zm (ws.map Lt.d)) _ from aj hk (jp ⟨ui pk,d9 (hl (m:=17) (ak rfl))⟩ (bA (ws.map Lt.key) rfl (⟨ui pk,hl (aq _),[false,true],λk hk=>by refine ig k (List.mem_map.mp hk:_) λt Z=>?_;rfl⟩) (λMt hp hw=>?_))));cases BC hp hw pk;refine ah _ (zE ..) (⟨⟨(iA (i6 yS ws)).ok (ak rfl),(iA (i6 yS ws)).ok (ak rfl)⟩,?_⟩);have e:aQ (.list (ws.map Lt.d)) (.list (ws.map Lt.d))=true:=(sQ Si ws ws).mpr rfl;show R (!aQ (.list (ws.map Lt.d)) (.list (ws.map Lt.d))) H;refine ah _ e ?_;exact q
theorem BD (r:List Int):Sh 1 (ff r):=wV (i6 mX r)
theorem zF (ok:fB B) (a b:PE) {J5:List (Option Nat)} {c:Option V} {d:PyData} (J3:sk vals J5=IC [ID,ID,IC (nH sc),c]) (hc:ea H)
 (ha:∀Q:V->List a_->Prop,Q vr H->a.wp B (n+2) vals H Q) (hr:jy vr=IC (fs.map λf=>ff (sc.map f))) (hb:∀o (Q:V->List a_->Prop),Q (.dat d) H->b.wp B (n+2) [ID,IC (.dat o),IC (nH sc),c] H Q) (hv:jy (.dat d)=IC (ws.map Lt.d)) (hl:ws.length<=sizeLine) (h3:sc.length<=sizeLine) (Lu:∀t∈ws,EJ sc t) (IN:∀f∈fs,∃t∈ws,hits f t=true) (q:R false H):
 (bo dX (bO ⟨.val a,⟨false,[1]⟩,J5,IC (bo dW (bn 465 [b,eG,cT]) Fp)⟩ cT) Fp).wp B (n+2) vals H R:=by
 refine aj J3 (ha _ (aj hr ?_));refine(bA (λk b H2=>b=[]/\H2=H) ⟨rfl,rfl⟩ (λk y b H2 hy hz=>⟨trivial,?_⟩) (λb H2 hz=>⟨trivial,?_⟩))
 ·refine fq b hz λj_=>?_;obtain rfl:=j_;refine fX y (cM hy:_) λf hf=>aG (IN f (an hf):_) λt ht hh=>hb _ _ (sW ok hc hv hl h3 Lu ⟨⟨(iA (i6 yS _)).ok (ak rfl),rfl⟩,cr (λe=>?_) λZ=>⟨rfl,rfl⟩⟩);have:t∈ws.filter (hits f):=List.mem_filter.mpr ⟨ht,hh⟩;rw[List.map_eq_nil_iff.mp (Jg.mp e)]at this;exact de this
 ·refine fq b hz λC_=>?_;obtain rfl:=C_;refine⟨⟨rfl,rfl⟩,?_⟩;show R (!aQ (.list []) (.list [])) H2;refine ah _ (mv rfl ..) ?_;exact q
theorem zG {t:α}:[t].length<=sizeLine:=(show 1<=sizeLine by exact ba rfl)
theorem HT (ok:fB B) {vd:V} (hc:ea H) (hi:vals[i]?=IC (IC vd)) (hv:jy vd=IC (ws.map Lt.d)) (hj:vals[j]?=IC (IC vr)) (hr:jy vr=IC (fs.map λf=>ff (sc.map f))) (hk:vals[k]?=IC (IC (nH sc)))
 (hl:fs.length<=sizeLine) (h3:sc.length<=sizeLine) (Lu:∀t∈ws,EJ sc t) (IN:∀t∈ws,∃f∈fs,hits f t=true) (q:R false H):
 (bo dX (bO ⟨.val (cO i),⟨false,[1]⟩,[ID,ID,IC j,IC k],IC (bo dW (bO ⟨.val eG,⟨false,[1]⟩,[ID,ID,IC 1,IC 3],IC (bo dX (bn 465 [dU [eG],gv,cT]) Fp)⟩ cT) Fp)⟩ cT) Fp).wp B (n+2) vals H R:=by
 refine aj (EX hj hk) (aj hi (show aW (jy vd) _ from aj hv ?_));refine(bA (λk b H2=>b=[]/\H2=H) ⟨rfl,rfl⟩ (λk y b H2 hy hz=>⟨trivial,?_⟩) (λb H2 hz=>⟨trivial,?_⟩))
 ·refine fq b hz λIY=>?_;obtain rfl:=IY;refine fX y (cM hy:_) λt ht=>?_;have htm:=an ht;refine aG (IN t htm:_) λf hf hh=>(show aW (jy vr) _ from aj hr ?_);refine(bA (Got (λf:Nat->Int=>if hits f t=true then IC (ff (sc.map f))else ID) fs H2) ⟨rfl,rfl⟩ (λj x a H3 hx g=>⟨trivial,?_⟩) (λa H3 g=>⟨trivial,?_⟩))
  ·refine fX x (cM hx:_) λf e=>?_;refine bh (id g:_) λJ7 JY=>?_;obtain rfl:=J7;obtain rfl:=JY;refine sW ok hc (ls:=[t]) (d:=.list [t.d]) rfl zG h3 (λu hu=>by refine ah _ (List.mem_singleton.mp hu ..) ?_;exact Lu t htm) ⟨⟨(iA (i6 yS _)).ok (ak rfl),rfl⟩,?_⟩
   cases Y1:hits f t with
   |true=>
    (refine ah _ (gu ..) ?_;refine ah _ (if_pos Y1 ..) ?_)
    exact g.yes e (if_pos Y1) hl
   |false=>
    rw[gu,if_neg (by refine ah _ Y1 ?_;nofun)];exact g.no e (if_neg (by refine ah _ Y1 ?_;nofun))
  ·refine fq a g.end λJE=>?_;obtain rfl:=JE;refine ah _ (j5 ..) (⟨⟨(iA (i6 (λf=>BD (sc.map f)) _)).ok (ak rfl),rfl⟩,cr (λe=>?_) λZ=>⟨rfl,rfl⟩⟩);have:f∈fs.filter (λf=>hits f t):=List.mem_filter.mpr ⟨hf,hh⟩;rw[List.map_eq_nil_iff.mp (Jg.mp e)]at this;cases this
 ·refine fq b hz λJD=>?_;obtain rfl:=JD;refine⟨⟨rfl,rfl⟩,?_⟩;show R (!aQ (.list []) (.list [])) H2;refine ah _ (mv rfl ..) ?_;exact q
variable {ps:List PE} {t:PT}
theorem bv {p:PS} {ps:List PS} {K:KS} (q:p.wp B n vals H (yt (λv1 H1=>cA ps B n v1 H1 K) K)):cA (p::ps) B n vals H K:=q
theorem i8 {a b:List PS} {K:KS} (q:t.wp B n vals H λc H1=>j7 c (cA a B n vals H1 K) (cA b B n vals H1 K)):(c5 t a b).wp B n vals H K:=q
theorem kX {o:K8} {a b:PE} (q:a.wp B n vals H λva H1=>b.wp B n vals H1 λvb H2=>o.go H2 va vb λc=>R c H2):(bo o a b).wp B n vals H R:=q
theorem zH {ts:List PT} (q:O4 (t::ts) B n vals H R):(qG (t::ts)).wp B n vals H R:=q
theorem xp {is:List Nat} {c:Nat} {K:KS} (hc:vals[c]?=IC o) (q:m8 ps B n vals H λvs H1=>aW (qt vals is vs) λv1=>K .next v1 H1):(qI is c ps).wp B n vals H K:=aj hc q
theorem kj {p:PE} {R:List V->List a_->Prop} (q:p.wp B n vals H λv H1=>m8 ps B n vals H1 λvs H2=>R (v::vs) H2):m8 (p::ps) B n vals H R:=q
theorem mw (ok:fB B) {be:PE} {J5:List (Option Nat)} (J3:sk vals J5=IC [ID,ID,IC (.inst 311 (l 0))]) (hb:∀Q:V->List a_->Prop,Q (dI s.b_.length) H->be.wp B (n+1) vals H Q) (S:e_ H l s) (hl:s.b_.length<=1000) (q:Q (dL (s.b_.map bY)) H):
 (bO ⟨.bi .B_ [be],⟨false,[1]⟩,J5,ID⟩ Tk).wp B (n+1) vals H Q:=by
 refine aj J3 (hb _ ?_);refine(bA (λk a H2=>a=(s.b_.take k).map bY/\H2=H) ⟨rfl,rfl⟩ (λk y a H2 hy hz=>⟨trivial,?_⟩) (λa H2 hz=>⟨trivial,?_⟩))
 ·refine fq a hz λk_=>?_;obtain rfl:=k_;refine bh (iV hy:_) λhk j_=>?_;obtain rfl:=j_;obtain⟨d,e⟩:∃d,s.b_[k]?=IC d:=⟨_,aJ hk⟩;refine(show aW (H2[l 0]?.bind bc) _ from aj (aU (S.obj 0 (ax 5))) ⟨dD _ _ _,Cu ok S hl e ⟨?_,?_,rfl⟩⟩)
  ·refine ah _ (af ..) ?_;exact ab (fU _ _) (ab hl (ba rfl))
  ·(refine ah _ (bD ..) ?_;refine ah _ e ?_;refine ah _ (aT ..) ?_);rfl
 ·refine fq a hz λs_=>?_;obtain rfl:=s_
  (refine ah _ (kU ..) ?_;refine ah _ (bx ..) ?_);exact q
theorem JA.Nn (F:JA s) (C:rz s sc):BB s.b_ sc:=⟨ab F.ok.b_ (ak rfl),λx hx=>ee (F.at (C.lt x hx):_) λe c nn=>(fv (C.lt x hx) c nn (ab (F.ok.len _ (an e)) (ba rfl)))⟩
noncomputable def fo (sc:List Nat) (fs:List (Nat->Int)):List PyData:=fs.map λf=>ff (sc.map f)
noncomputable def Qc (p i:Nat) (sc:List Nat) (bs:List Int) (fs:List (Nat->Int)) (s:St) (a b c d:Option V):List (Option V):=
 [IC (.inst 427 p),IC (.inst 311 i),IC (nH sc),IC (dL (bs.map .int)),IC (dL (fo sc fs)),IC (dL (s.c_.map bY)),IC (dI s.d_.length),IC (dL (s.b_.map bY)),IC (dL (fo sc (fs.filter (dk s.b_ sc)))),IC (dL (fo sc (fs.filter (dk s.c_ sc)))),a,b,c,d]
theorem Lp:MJ x v f=true↔f x=v:=decide_eq_true_iff
theorem HU:(fs.filter (v7 s sc x v)).length=((fs.filter (dk s.c_ sc)).filter (MJ x v)).length:=by
 refine ah _ (List.filter_filter ..) ?_;rfl
theorem EY (ok:fB B) {bs:List Int} {c d:Option V} {K:KS} (T:TabAt H p sc fs) (S:e_ H l s) (F:JA s) (C:rz s sc) (hx:sc[i]?=IC x) (h6:fs.length<=6)
 (q:∀c d,K .next (Qc p (l 0) sc bs fs s (IC (dI i)) (IC (dI v)) c d) H):
 cA At_
  B (n+4) (Qc p (l 0) sc bs fs s (IC (dI i)) (IC (dI v)) c d) H K:=by
 have h6':∀g:(Nat->Int)->Bool,(fs.filter g).length<=6:=λg=>ab (c9 _ _) h6;have l6:6<=sizeLine:=ba rfl;have OO:sc.length<=sizeLine:=ab C.H_ (ba rfl);refine bv (i8 (kX (CQ (vals:=Qc p (l 0) sc bs fs s (IC (dI i)) (IC (dI v)) c d) (sc:=sc) (fs:=fs.filter (dk s.b_ sc)) (i:=i) (x:=x) (v:=v) (j:=8) (a:=10) (b:=11) rfl rfl rfl hx C.H_ (ab (h6' _) l6) ?_)));refine⟨⟨(iA (i6 (λf=>BD (sc.map f)) _)).ok (ak rfl),rfl⟩,cr (λhb=>?_) λZ=>q c d⟩;have P5:(fs.filter (dk s.b_ sc)).filter (MJ x v)=[]:=List.map_eq_nil_iff.mp (Jg.mp hb);have hg:∀f∈fs,f x=v->dk s.b_ sc f=false:=λf hf hv=>by
  cases ha:dk s.b_ sc f with
  |false=>rfl
  |true=>
   have:f∈(fs.filter (dk s.b_ sc)).filter (MJ x v):=List.mem_filter.mpr ⟨List.mem_filter.mpr ⟨hf,ha⟩,Lp.mpr hv⟩;rw[P5]at this;exact de this
 refine bm (id T:_) λrows hT=>bv (xp rfl (kj (show aW (H[p]?.bind bc) _ from aj (aU hT) ⟨ud _ _ _,rT ok T S F C hx h6 hg λws pw J l6w=>kj ?_⟩)));refine CQ (vals:=Qc p (l 0) sc bs fs s (IC (dI i)) (IC (dI v)) c d) (sc:=sc) (fs:=fs.filter (dk s.c_ sc)) (i:=i) (x:=x) (v:=v) (j:=9) (a:=10) (b:=11) rfl rfl rfl hx C.H_ (ab (h6' _) l6) ?_;have Lu:∀t∈ws,EJ sc t:=λt ht=>(J.good t ht).1.sc;have lw:ws.length<=sizeLine:=ab l6w l6;have lg:((fs.filter (dk s.c_ sc)).filter (MJ x v)).length<=6:=ab (c9 _ _) (h6' _);refine bv (i8 (zH (HS (j:=12) rfl pw l6w (ju rfl ?_))));refine⟨by refine ah _ (af ..) ?_;exact lw,by refine ah _ (af ..) ?_;exact ab lg l6,?_⟩;have hle:¬(((((fs.filter (dk s.c_ sc)).filter (MJ x v)).map λf=>ff (sc.map f)).length:Nat):Int)<((ws.map Lt.d).length:Nat):=by
  (refine ah _ (af ..) ?_;refine ah _ (af ..) ?_;refine ah _ (HU ..).symm ?_);exact λz=>ec _ (cw z (Int.ofNat_le.mpr J.len))
 refine ju (decide_eq_false hle) (bv (i8 (pQ ok NN (j:=7) (d:=.tuple (ws.map Lt.d)) (λQ q=>aj rfl q) rfl rfl rfl (F.Nn C) (λt ht=>(J.good t ht).1) (ju rfl ?_))));refine bv (i8 (zF ok Tl gv (ws:=ws) (d:=.tuple (ws.map Lt.d)) (fs:=(fs.filter (dk s.c_ sc)).filter (MJ x v)) (EX (j:=2) (k:=12) rfl rfl) S.cl (λQ q=>aj rfl q) rfl (λo Q q=>aj rfl q) rfl lw OO Lu (λf hf=>?_) (ju rfl ?_)))
 ·have h1:=List.mem_filter.mp hf;have h2:=List.mem_filter.mp h1.1;exact J.all f h2.1 (Kf.mpr ⟨Lp.mp h1.2,h2.2⟩)
 refine bv (i8 (HT ok (i:=12) (j:=13) (k:=2) (ws:=ws) (fs:=(fs.filter (dk s.c_ sc)).filter (MJ x v)) S.cl rfl rfl rfl rfl rfl (ab lg l6) OO Lu (λt ht=>?_) (ju rfl (q _ _))));refine bh (J.good t ht:_) λZ C_=>?_;refine cP C_ λf hf hp hh=>?_;have hp:=Kf.mp hp;exact(aN f (List.mem_filter.mpr ⟨List.mem_filter.mpr ⟨hf,hp.2⟩,Lp.mpr hp.1⟩) hh)
variable {a:PE} {R:V->List a_->Prop}
theorem oA {g:PG} {it:PI} {body:List PS} {K:KS} (q:it.wp B n vals H λxs Z H1=>∃J:Nat->List (Option V)->List a_->Prop,J 0 vals H1/\
 (∀k x v H2,xs[k]?=IC x->J k v H2->g.wp B n v H2 (.dat x) λv1 H3=>cA body B n v1 H3 (yt (J (k+1)) K))/\∀v H2,J xs.length v H2->K .next v H2):(eB g it body).wp B n vals H K:=q
theorem CR {is:List Nat} {K:KS} (hs:(is.all λi=>vals[i]?.isSome)=true) (q:m8 ps B n vals H λvs H1=>aW (qt vals is.reverse vs.reverse) λv1=>K .next v1 H1):(jL is ps).wp B n vals H K:=iu hs q
theorem HV {K:KS} (q:a.wp B n vals H λv H1=>K (.ret v) vals H1):(br a).wp B n vals H K:=q
theorem xq {o:K8} {b:PE} (q:a.wp B n vals H λva H1=>b.wp B n vals H1 λvb H2=>o.go H2 va vb λc=>Q (dB c) H2):(gN o a b).wp B n vals H Q:=q
theorem Oo (hx:sc[i]?=IC x):((ki sc).map aS)[i]?=IC (.int x):=by
 unfold ki;(refine ah _ (aK ..) ?_;refine ah _ (aK ..) ?_;refine ah _ hx ?_);rfl
theorem kH (hj:vals[j]?=IC (IC (.inst 311 (l 0)))) (S:e_ H l s) (ht:s.d_.length<=sizeLine) (q:R (dI s.d_.length) H):(bI .len [bE 311 "trail" (cO j)]).wp B n vals H R:=by
 have e0:=aU (S.obj 0 (ax 5));refine aj hj (show aW (H[l 0]?.bind bc) _ from aj e0 (aj (rm _ _ _) ?_));refine(show aW (H[l 3]?.bind ch) _ from aj (bM (S.obj 3 (by decide))) ⟨by refine ah _ (af ..) ?_;exact ht,?_⟩);refine ah _ (af ..) ?_;exact q
theorem O8 (ok:fB B) {bs:List Int} (T:TabAt H p sc fs) (S:e_ H l s) (F:JA s) (C:rz s sc) (h6:fs.length<=6) (hb:∀x∈sc,x<bs.length) (Q9:bs.length<=1000) (hfl:∀d∈s.c_,d.length<=sizeLine) (q:Q (dB true) H):
 Ap B (n+5) (.ref 475) [.inst 427 p,.inst 311 (l 0),nH sc,dL (bs.map .int),dL (fo sc fs),dL (s.c_.map bY)] H Q:=by
 have l6:fs.length<=sizeLine:=ab h6 (ba rfl);have OO:sc.length<=sizeLine:=ab C.H_ (ba rfl);have ht:s.d_.length<=sizeLine:=ab F.ok.d_ (ba rfl);have hd:s.b_.length<=1000:=ab F.ok.b_ (ak rfl);have e0:=aU (S.obj 0 (ax 5));refine PF.ap ok Bo (bv (xp rfl (kj (kH rfl S ht (kj ?_)))));refine mw ok (s:=s) (xo rfl) (λQ q=>(show aW (H[l 0]?.bind bc) _ from aj e0 ⟨dD _ _ _,QR ok S hd q⟩)) S hd ?_;refine bv (CR rfl (kj (oR ok hd (λd hd=>ab (F.ok.len d hd) (ba rfl)) OO C.lt l6 rfl (kj (oR ok (by refine ah _ (F.len ..) ?_;exact hd) hfl OO (λx hx=>by refine ah _ (F.len ..) ?_;exact C.lt x hx) l6 rfl ?_)))));show cA _ B _ (Qc p (l 0) sc bs fs s ID ID ID ID) H _;refine bv (oA ⟨by unfold ki;(refine ah _ (af ..) ?_;refine ah _ (af ..) ?_);exact OO,?_⟩);refine(bA (λk vals H1=>H1=H/\∃a b c d,vals=Qc p (l 0) sc bs fs s a b c d) (jp rfl (TD _ _ _ _ rfl)) ?_ ?_)
 ·intro k y vals H1 hy f_;refine bh f_ λk_ j_=>?_;obtain rfl:=k_;refine TL j_ λa b c d p_=>?_;obtain rfl:=p_;have hl:((ki sc).map aS).length=sc.length:=by unfold ki;(refine ah _ (af ..) ?_;refine ah _ (af ..) rfl)
  rw[hl]at hy;refine bh (iV hy:_) λhk f_=>?_;obtain rfl:=f_;obtain⟨x,hx⟩:∃x,sc[k]?=IC x:=⟨_,aJ hk⟩;obtain⟨v,hv⟩:∃v,bs[x]?=IC v:=⟨_,aJ (hb x (an hx))⟩;have RE:(bs.map aS)[((x:Nat):Int).toNat]?=IC (.int v):=by(refine ah _ (bG ..) ?_;refine ah _ (aK ..) ?_;refine ah _ hv ?_);rfl
  have Lr:((ki sc).map aS)[((k:Nat):Int).toNat]?=IC (.int x):=Oo hx;have ik:=i7 hx (ab C.H_ (ak rfl));have ix:=i7 hv Q9;show cA _ B _ (Qc p (l 0) sc bs fs s (IC (dI k)) b c d) H1 _;refine bv (oA ⟨ik,(show aW ((ki sc).map aS)[((k:Nat):Int).toNat]? _ from aj Lr ⟨ix,(show aW (bs.map aS)[((x:Nat):Int).toNat]? _ from aj RE ?_)⟩)⟩);refine⟨ik,(show aW ((ki sc).map aS)[((k:Nat):Int).toNat]? _ from aj Lr ⟨ix,(show aW (bs.map aS)[((x:Nat):Int).toNat]? _ from aj RE ?_)⟩)⟩;refine(bA (λj vals H2=>H2=H1/\∃b c d,vals=Qc p (l 0) sc bs fs s (IC (dI k)) b c d) (jp rfl (Ab _ _ _ rfl)) ?_ ?_)
  ·intro j y vals H2 hy s_;refine bh s_ λC_ II=>?_;obtain rfl:=C_;refine Da II λb c d IY=>?_;obtain rfl:=IY;refine aG (cM hy:_) λz Z k_=>?_;obtain rfl:=k_;exact EY ok T S F C hx h6 λc d=>(jp rfl (Ab _ _ _ rfl))
  ·intro vals H2 JR;refine YO H1 JR λJ7=>?_;refine Qx vals J7 λb c d=>?_;exact(jp rfl (TD _ _ _ _ rfl))
 ·intro vals H1 Ji;refine bh Ji λJE JX=>?_;obtain rfl:=JE;refine TL JX λa b c d JD=>?_;obtain rfl:=JD;refine bv (HV (xq (kH (j:=1) rfl S ht ?_)));show∃v0 H0,K7 _ (dB (decide ((s.d_.length:Int)=s.d_.length))) _ v0 H0/\Q v0 H0;refine ah _ (decide_eq_true rfl ..) ?_;exact dr q
variable {cells xs:List Int} {ps:List PS} {v:V}
theorem CS {K:KS} (hi:vals[i]?=IC o) (q:a.wp B n vals H λv H1=>K .next (vals.set i (IC v)) H1):(iW i a).wp B n vals H K:=aj hi q
theorem lH {g:PG} {K:KS} (q:a.wp B n vals H λv H1=>g.wp B n vals H1 v λv1 H2=>K .next v1 H2):(aZ g a).wp B n vals H K:=q
theorem BE (h0:vals[0]?=IC (IC v)) (hv:gT H v=IC (xs.map .int)) (UL:v≠dT (xs.map .int)) (hx:xs.length<=sizeLine) (q:∀cells:List Int,cells.length<=1000->Q (dL (cells.map .int)) H):
 Yp.wp B n vals H Q:=by
 refine aj h0 (aj rfl (aj hv ⟨⟨UL,iv 40,by refine ah _ (af ..) ?_;exact hx⟩,?_⟩));have e40:(xs.map aS).take (40:Int).toNat=(xs.take 40).map .int:=List.map_take.symm;have Zi:(xs.take 40).length<=1000:=ab (qO _ _) (ak rfl);have l41:(xs.take 40).length<=sizeLine:=ab Zi (ba rfl);refine ah _ e40 ?_;generalize xs.take 40=cells at Zi l41;refine(bA (Got (λi:Int=>IC (aS i)) cells H) ⟨rfl,rfl⟩ (λj y b H2 hy g=>⟨trivial,?_⟩) (λb H2 g=>⟨trivial,?_⟩))
 ·exact fX y (cM hy:_) λz hz=>g.yes hz rfl l41
 ·refine fq b g.end λj_=>?_;obtain rfl:=j_;have e2:cells.filterMap (λi:Int=>IC (aS i))=cells.map aS:=congrFun gU _;exact ah _ e2 (q cells Zi)
noncomputable def FR (a0 a1 a2 a3 a4 a5 a6 a7 a8 a9 J0 IK Jm a13 a14 IT a16 a17 a18 a19 a20 a21 Kb Ka K_ Jt KQ KP KY:Option V):List (Option V):=[a0,a1,a2,a3,a4,a5,a6,a7,a8,a9,J0,IK,Jm,a13,a14,IT,a16,a17,a18,a19,a20,a21,Kb,Ka,K_,Jt,KQ,KP,KY]
structure LL (sc:List Nat) (m:Nat):Prop where
 lt:∀x∈sc,x<m
 top:∃t∈sc,m=t+1
 kind:sc=[0,1]∨sc=[0,1,2]∨sc=[0,1,0]
theorem LL.H_ (F:LL sc m):sc.length<=3:=by rcases F.kind with rfl|rfl|rfl<;>decide
theorem LL.ne (F:LL sc m):sc≠[]:=by rcases F.kind with rfl|rfl|rfl<;>exact nL _ _
theorem HW (h:sc=[0,1]∨sc=[0,1,2]∨sc=[0,1,0]):∀x∈sc,x<=2:=by rcases h with rfl|rfl|rfl<;>decide
theorem LL.three (F:LL sc m):m<=3:=aG F.top λt ht e=>e▸aY (HW F.kind t ht)
theorem BF {r:Int} (h0:0<=r) (h3:r<3):∃sc:List Nat,(sc=[0,1]∨sc=[0,1,2]∨sc=[0,1,0])/\[PyData.tuple [.int 0,.int 1],.tuple [.int 0,.int 1,.int 2],.tuple [.int 0,.int 1,.int 0]][r.toNat]?=IC (.tuple ((ki sc).map .int)):=by
 have:r=0∨r=1∨r=2:=abg h0 h3;rcases this with rfl|rfl|rfl
 ·exact(aN ([0,1]) (.inl rfl) rfl)
 ·exact(aN ([0,1,2]) (.inr (.inl rfl)) rfl)
 ·exact(aN ([0,1,0]) (.inr (.inr rfl)) rfl)
theorem BG (h1:vals[1]?=IC (IC (dL (cells.map .int)))) (h3:vals[3]?=IC (IC (nH sc))) (hk:sc=[0,1]∨sc=[0,1,2]∨sc=[0,1,0]) (hc:cells.length<=1000) (q:∀bs:List Int,LL sc bs.length->Q (dL (bs.map .int)) H):
 Yr.wp B n vals H Q:=by
 refine aj (xo h1) (aj h3 (show aW (oi ((ki sc).map .int)) _ from aj (oL _) ⟨by rcases hk with rfl|rfl|rfl<;>decide,λM hM hmx=>?_⟩));refine xA hM λt ht p_=>?_;obtain rfl:=p_;have t2:=HW hk t ht;have tl:∀x∈sc,x<t+1:=λx hx=>d9 (Int.ofNat_le.mp (hmx _ (aO hx)));refine(bA (λk a H2=>H2=H/\∃bs:List Int,bs.length=k/\a=bs.map .int) (jp rfl (aN ([]) rfl rfl)) ?_ ?_)
 ·intro k y a H2 hy f_;refine bh f_ λk_ j_=>?_;obtain rfl:=k_;refine aG j_ λbs p_ s_=>?_;obtain rfl:=p_;obtain rfl:=s_;refine bh (iV (m:=t+1) hy:_) λIZ s_=>?_;obtain rfl:=s_;have Q9:(bs.map aS).length<=sizeLine:=by refine ah _ (af ..) ?_;exact ab (bF IZ) (ab t2 (ba rfl))
  refine(fv trivial ⟨iv 20,by decide+kernel⟩ (by refine ah _ (af ..) ?_;exact ab hc (ba rfl)) ?_);have fin:∀z:Int,(bs.map aS).length<=sizeLine/\H2=H2/\∃bs':List Int,bs'.length=bs.length+1/\bs.map .int++[.int z]=bs'.map aS:=λz=>(mB Q9 rfl (aN (bs++[z]) (by refine ah _ (aw ..) ?_;rfl) (by refine ah _ (aT ..) ?_;rfl)));refine cr (λhb=>?_) λhb=>fin _;have hb:=of_decide_eq_true hb;rw[af]at hb;have ND:bs.length<cells.length:=Int.ofNat_lt.mp hb;have e:=aJ ND;exact⟨i7 e hc,(show aW (cells.map aS)[((bs.length:Nat):Int).toNat]? _ from aj (iT e) (fin _))⟩
 ·intro a H2 C_;refine bh C_ λII IY=>?_;obtain rfl:=II;refine aG IY λbs e JR=>?_;obtain rfl:=JR;have e:=e.trans (kU (m:=t+1));exact⟨trivial,q bs ⟨λx hx=>e▸tl x hx,(aN t ht e),hk⟩⟩
theorem pA0 {K:KS} (hv:gT H v=IC (xs.map .int)) (UL:v≠dT (xs.map .int)) (hx:xs.length<=sizeLine)
 (q:∀(cells:List Int),cells.length<=1000->cA ps B (n+1) (FR (IC v) (IC (dL (cells.map .int))) ID ID ID ID ID ID ID ID ID ID ID ID ID ID ID ID ID ID ID ID ID ID ID ID ID ID ID) H K):cA (iW 1 Yp::ps) B (n+1) (FR (IC v) ID ID ID ID ID ID ID ID ID ID ID ID ID ID ID ID ID ID ID ID ID ID ID ID ID ID ID ID) H K:=
 bv (CS rfl (BE rfl hv UL hx λcells hl=>q cells hl))
theorem pA1 {K:KS}
 (q:cA ps B (n+1) (FR (IC v) (IC (dL (cells.map .int))) (IC (.loc H.length)) ID ID ID ID ID ID ID ID ID ID ID ID ID ID ID ID ID ID ID ID ID ID ID ID ID ID) (H++[jZ cells 0]) K):cA (aZ (.var 2) Bn_::ps) B (n+1) (FR (IC v) (IC (dL (cells.map .int))) ID ID ID ID ID ID ID ID ID ID ID ID ID ID ID ID ID ID ID ID ID ID ID ID ID ID ID) H K:=
 bv q
theorem pA2 (ok:fB B) {K:KS} (hl:cells.length<=1000)
 (q:∀sc,(sc=[0,1]∨sc=[0,1,2]∨sc=[0,1,0])->cA ps B (n+1) (FR (IC v) (IC (dL (cells.map .int))) (IC (.loc H.length)) (IC (nH sc)) ID ID ID ID ID ID ID ID ID ID ID ID ID ID ID ID ID ID ID ID ID ID ID ID ID) (H++[jZ cells 1]) K):cA (aZ (.var 3) B9_::ps) B (n+1) (FR (IC v) (IC (dL (cells.map .int))) (IC (.loc H.length)) ID ID ID ID ID ID ID ID ID ID ID ID ID ID ID ID ID ID ID ID ID ID ID ID ID ID) (H++[jZ cells 0]) K:=by
 refine bv (lH ?_);refine rQ ok (cells:=cells) (a:=0) gp (aL 1000) hl (by decide) λr h0 h3=>?_;exact aG (BF h0 h3:_) λsc hk e=>ah _ (n7 ..) (⟨⟨h0,cN h3 (by decide)⟩,(show aW [PyData.tuple [.int 0,.int 1],.tuple [.int 0,.int 1,.int 2],.tuple [.int 0,.int 1,.int 0]][r.toNat]? _ from aj e (q sc hk))⟩)
theorem pA3 {K:KS} {w:Option V} (hl:cells.length<=1000) (hk:sc=[0,1]∨sc=[0,1,2]∨sc=[0,1,0])
 (q:∀bs:List Int,LL sc bs.length->cA ps B (n+1) (FR (IC v) (IC (dL (cells.map .int))) w (IC (nH sc)) ID (IC (dL (bs.map .int))) ID ID ID ID ID ID ID ID ID ID ID ID ID ID ID ID ID ID ID ID ID ID ID) H K):cA (iW 5 Yr::ps) B (n+1) (FR (IC v) (IC (dL (cells.map .int))) w (IC (nH sc)) ID ID ID ID ID ID ID ID ID ID ID ID ID ID ID ID ID ID ID ID ID ID ID ID ID) H K:=
 bv (CS rfl (BG rfl rfl hk hl λbs F=>q bs F))
theorem Rb (ok:fB B) {K:KS} (hv:gT H v=IC (xs.map .int)) (UL:v≠dT (xs.map .int)) (hx:xs.length<=sizeLine)
 (q:∀(cells bs:List Int) (sc:List Nat),cells.length<=1000->LL sc bs.length->cA ps B (n+1) (FR (IC v) (IC (dL (cells.map .int))) (IC (.loc H.length)) (IC (nH sc)) ID (IC (dL (bs.map .int))) ID ID ID ID ID ID ID ID ID ID ID ID ID ID ID ID ID ID ID ID ID ID ID) (H++[jZ cells 1]) K):
 cA (iW 1 Yp::aZ (.var 2) Bn_::aZ (.var 3) B9_::iW 5 Yr::ps) B (n+1) (FR (IC v) ID ID ID ID ID ID ID ID ID ID ID ID ID ID ID ID ID ID ID ID ID ID ID ID ID ID ID ID) H K:=
 pA0 hv UL hx λcells hl=>pA1 (pA2 ok hl λsc hk=>pA3 hl hk λbs F=>q cells bs sc hl F)
variable {a b v:Int}
theorem O5 {d:et} (c:IP d) (h:∀v,eR d v->a<=v/\v<a+6):d.length<=3:=by
 rcases d with _|⟨p,_|⟨q,_|⟨r,_|⟨s,d⟩⟩⟩⟩
 ·exact aL _
 ·exact(by exact ak rfl:1<=3)
 ·exact(by exact ak rfl:2<=3)
 ·exact aq _
 ·have h1:=(List.pairwise_cons.mp c.1).1 q ae;have h2:=(List.pairwise_cons.mp c.tail.1).1 r ae;have h3:=(List.pairwise_cons.mp c.tail.tail.1).1 s ae;have g1:=c.2 p ae;have g2:=c.tail.2 q ae;have g3:=c.tail.tail.2 r ae;have g4:=c.tail.tail.tail.2 s ae;have k1:=h p.1 (bA p ae (bu _) g1);have k2:=h s.1 (bA s (ag _ (ag _ (ag _ ae))) (bu _) g4);exact absurd k2.2 (Qm k1.1 g1 h1 g2 h2 g3 h3)
theorem zI (v:Int):IP [(v,v)]/\∀w,eR [(v,v)] w↔w=v:=
 ⟨IP.nil.cons (bu _) (λ_=>de),λw=>⟨λf_=>cP f_ λp hp h1 h2=>by cases List.mem_singleton.mp hp;exact Int.le_antisymm h2 h1,λe=>(bA ((v,v)) (List.mem_singleton.mpr rfl) (dE e.symm) (dE e))⟩⟩
theorem zJ {g:et} (cg:IP g) (Mz:a<=b) (h:∀p∈g,p.2+1<a):IP (g++[(a,b)]):=
 ⟨List.pairwise_append.mpr ⟨cg.1,.cons (λ_=>de) .nil,λp hp q hq=>by cases List.mem_singleton.mp hq;exact h p hp⟩,λp hp=>(List.mem_append.mp hp).elim (cg.2 p) λhp=>by cases List.mem_singleton.mp hp;exact Mz⟩
theorem KB {w:Int}:eR [(a,b)] w↔a<=w/\w<=b:=⟨λk_=>aG k_ λp hp h=>by cases List.mem_singleton.mp hp;exact h,λh=>(aN ((a,b)) (List.mem_singleton.mpr rfl) h)⟩
theorem EZ {f:et} (c:IP f) (h:∀w,eR f w->w<=v):IP (qx f v v)/\∀w,eR (qx f v v) w↔eR f w∨w=v:=by
 unfold qx
 cases e:f.getLast? with
 |none=>
  cases List.getLast?_eq_none_iff.mp e;exact bh (zI v:_) λc1 h1=>⟨c1,λw=>(h1 w).trans ⟨.inr,λz=>z.elim (λj_=>aG j_ λZ hp Z=>de hp) id⟩⟩
 |some p=>
  obtain⟨a,b⟩:=p;refine bm (List.getLast?_eq_some_iff.mp e:_) λg f_=>?_;obtain rfl:=f_;have Mz:a<=b:=c.2 (a,b) (aR _ (List.mem_singleton.mpr rfl));have hbv:b<=v:=h b (JP.mpr (.inr (KB.mpr ⟨Mz,bu _⟩)));have cg:IP g:=⟨(List.pairwise_append.mp c.1).1,λp hp=>c.2 p (az _ hp)⟩;have hg:∀p∈g,p.2+1<a:=λp hp=>(List.pairwise_append.mp c.1).2.2 p hp (a,b) (List.mem_singleton.mpr rfl);show IP (if v<=b+1 then(if b<v then(g++[(a,b)]).dropLast++[(a,v)]else g++[(a,b)])else g++[(a,b)]++[(v,v)])/\∀w,eR (if v<=b+1 then(if b<v then(g++[(a,b)]).dropLast++[(a,v)]else g++[(a,b)])else g++[(a,b)]++[(v,v)]) w↔_;refine ah _ (Fq ..) ?_;by_cases h1:v<=b+1
  ·refine ah _ (if_pos h1 ..) ?_;by_cases h2:b<v
   ·refine ah _ (if_pos h2 ..) (⟨zJ cg (aX Mz hbv) hg,λw=>?_⟩);rw[JP,JP,KB,KB,or_assoc];exact or_congr Iff.rfl ⟨λz=>(Int.lt_or_eq_of_le z.2).imp (λh=>⟨z.1,kJ (cw h h1)⟩) id,λz=>z.elim (λz=>⟨z.1,aX z.2 (dF h2)⟩) λe=>⟨e▸aX Mz hbv,dE e⟩⟩
   ·refine ah _ (if_neg h2 ..) (⟨c,λw=>⟨.inl,λz=>z.elim id λz=>?_⟩⟩);exact JP.mpr (.inr (KB.mpr (⟨aX Mz (aX hbv (dE z.symm)),aX (dE z) (xN.1 h2)⟩)))
  ·refine ah _ (if_neg h1 ..) (⟨zJ c (bu _) λp hp=>?_,λw=>?_⟩)
   ·have:=h p.2 (bA p hp (c.2 p hp) (bu _));rcases List.mem_append.mp hp with hp|hp
    ·have:=hg p hp;exact Xu Mz h1 this
    ·cases List.mem_singleton.mp hp;show b+1<v;exact Int.lt_of_not_ge h1
   ·rw[JP,(zI v).2]
theorem F0:∀{ns:List Int} {f:et},ns.Pairwise (·<=·)->IP f->(∀w,eR f w->∀v∈ns,w<=v)->IP (ns.foldl (λf v=>qx f v v) f)/\∀w,eR (ns.foldl (λf v=>qx f v v) f) w↔eR f w∨w∈ns:=by
 intro ns
 induction ns with
 |nil=>intro f _ c _;exact⟨c,λw=>⟨.inl,λz=>z.elim id de⟩⟩
 |cons v ns ih=>
  intro f hs c h;exact bh (EZ c λw hw=>h w hw v ae:_) λc1 h1=>bh (List.pairwise_cons.mp hs:_) λhv K0=>bh (ih (f:=qx f v v) K0 c1 λw hw u hu=>((h1 w).mp hw).elim (λhw=>h w hw u (ag _ hu)) λe=>e▸hv u hu:_) λc2 h2=>⟨c2,λw=>(h2 w).trans (by rw[h1,or_assoc,cp])⟩
theorem BH (hs:ns.Pairwise (·<=·)):IP (qy ns)/\∀w,eR (qy ns) w↔w∈ns:=by
 exact bh (F0 (f:=[]) hs IP.nil λw p_=>aG p_ λZ hp Z=>de hp:_) λc h=>⟨c,λw=>(h w).trans ⟨λz=>z.elim (λs_=>aG s_ λZ hp Z=>de hp) id,.inr⟩⟩
structure BI (d:et):Prop where
 LQ:IP d
 ne:d≠[]
 three:d.length<=3
theorem HX (hs:ns.Pairwise (·<=·)) (hv:v∈ns) (h:∀v∈ns,a<=v/\v<a+6):BI (qy ns):=by
 refine bh (BH hs:_) λc e=>?_;exact⟨c,λz=>by have:=(e v).mpr hv;rw[z]at this;refine aG this λp hp Z=>?_;exact(de hp),O5 c λw hw=>h w ((e w).mp hw)⟩
theorem HY {z:Int} (hz:0<=z):BI [(b - z,b+z)]:=⟨IP.nil.cons (by show b - z<=b+z;exact aa8 hz) (λ_=>de),nL _ _,(by exact ak rfl:1<=3)⟩
variable {w:Nat}
structure LS (H:List a_) (l:Nat->Nat) (s:St) (w:Nat) (cells:List Int) (m:Nat):Prop where
 JN:e_ H l s
 L5:∃a,a<=m/\H[w]?=IC (jZ cells a)
 off:∀a,a<6->w≠l a
 H_:cells.length<=1000
theorem e_.other {o:a_} (S:e_ H l s) (hw:∀a,a<6->w≠l a) (ho:C5 H.length o=true):e_ (H.set w o) l s:=
 ⟨S.inj,λa ha=>(cE (hw a ha)).trans (S.obj a ha),mW S.cl ho⟩
theorem LS.kept (L:LS H l s w cells m) (K:g_ H H' l l') (S:e_ H' l' s'):LS H' l' s' w cells m:=
 aG L.L5 λa ha e=>⟨S,(aN a ha ((K.keep w (c8 e) L.off).trans e)),λb hb z=>(K.own b hb).elim (λf_=>aG f_ λc hc e2=>L.off c hc (z.trans e2)) λhle=>b7 _ (aP (c8 e) (z▸hle)),L.H_⟩
structure Jb (H H':List a_) (w:Nat):Prop where
 len:H'.length=H.length
 keep:∀j,j≠w->H'[j]?=H[j]?
theorem lp (ok:fB B) {many:Int} (L:LS H l s w cells m) (hm:m<1000) (hp:0<many) (q:∀(r:Int) H',0<=r->r<many->LS H' l s w cells (m+1)->Jb H H' w->Q (dI r) H'):Ap B (n+1) (.ref 436) [.loc w,dI many] H Q:=by
 refine aG L.L5 λa ha e=>rQ ok e (ab ha (bj hm)) L.H_ hp λr h0 h1=>q r _ h0 h1 ⟨L.JN.other L.off rfl,(aN (a+1) (aY ha) (cW (c8 e))),L.off,L.H_⟩ ⟨dC,λj hj=>cE (di hj)⟩
theorem LS.up {m':Nat} (L:LS H l s w cells m) (h:m<=m'):LS H l s w cells m':=⟨L.JN,aG L.L5 λa ha e=>(aN a (ab ha h) e),L.off,L.H_⟩
noncomputable def St.start (ds:List et):St:=⟨ds,ds,[],[],false,[],[]⟩
theorem HZ:∀(m:Fin 64) (k:Fin 6),eS (m.val:Int) ((2:Int)^k.val)=false:=by decide+kernel
theorem F1:∀k:Fin 6,(jS 2:Int)*(k.val:Int)<=2^27:=by decide+kernel
theorem F2:∀m:Fin 63,∃k:Fin 6,(Int.fdiv ((m.val+1:Nat):Int) ((2:Int)^k.val)).fmod 2=1:=by decide+kernel
noncomputable def zK (m:Int) (k:Nat):Bool:=decide ((Int.fdiv m ((2:Int)^k)).fmod 2=1)
noncomputable def CU (b m:Int):List Int:=((bl 6).filter (zK m)).map λk:Nat=>b+(k:Int) - 1
theorem I6 {m:Int} (h1:1<=m) (h2:m<64) (hp:ns.Perm (CU b m)) (hs:ns.Pairwise (·<=·)):BI (qy ns):=by
 refine bm (F2 ⟨(m - 1).toNat,(Int.toNat_lt' (ax 62)).2 (FF h2 1)⟩:_) λk hk=>?_;have e:(((m - 1).toNat+1:Nat):Int)=m:=abe h1;have hk:(Int.fdiv m ((2:Int)^k.val)).fmod 2=1:=e▸hk;refine HX (a:=b - 1) (v:=b+(k.val:Int) - 1) hs (hp.mem_iff.mpr (aO (List.mem_filter.mpr ⟨List.mem_range.mpr k.isLt,decide_eq_true hk⟩))) λv hv=>ig v (List.mem_map.mp (hp.mem_iff.mp hv):_) λj hj=>?_;have:=List.mem_range.mp (List.mem_filter.mp hj).1;exact X5 this
theorem F3 {m:Int} (h1:1<=m) (h2:m<64) (hi:vals[i]?=IC (IC (dI b))) (hj:vals[j]?=IC (IC (dI m))) (q:Q (dL ((CU b m).map .int)) H):
 (bO ⟨.bi .B_ [Tm],⟨false,[1]⟩,[ID,ID,IC i,IC j],IC Bj_⟩ (bK .sub (bK .add eG cT) lK)).wp B n vals H Q:=by
 refine aj (EX hi hj) ((bA (λk a H2=>H2=H/\k<=6/\a=(((bl k).filter (zK m)).map λk:Nat=>b+(k:Int) - 1).map aS) ⟨rfl,aL _,rfl⟩ ?_ ?_))
 ·intro k y a H2 hy k_;refine YN H k_ λUW p_=>?_;obtain rfl:=p_;refine bh (iV (m:=6) hy:_) λhk k_=>?_;obtain rfl:=k_;have RO:(((bl k).filter (zK m)).map λk:Nat=>b+(k:Int) - 1).length<=sizeLine:=by
   refine ah _ (af ..) ?_;exact ab (c9 _ _) (by refine ah _ (cH ..) ?_;exact ab UW (ba rfl))
  refine⟨trivial,(fv ⟨dJ _,?_⟩ ⟨?_,?_⟩ nofun ?_)⟩
  ·exact F1 ⟨k,hk⟩
  ·refine ah _ (bG ..) ?_;exact tU (Int.pow_pos (by decide))
  ·have:=HZ ⟨m.toNat,(Int.toNat_lt' (ax 63)).2 h2⟩ ⟨k,hk⟩;rw[show((m.toNat:Nat):Int)=m by exact gr (dF h1)]at this;exact this
  ·have ef:(bl (k+1)).filter (zK m)=(bl k).filter (zK m)++[k].filter (zK m):=by(refine ah _ (List.range_succ ..) ?_;refine ah _ (gQ ..) rfl)
   refine cr (λhb=>?_) λhb=>?_
   ·refine(fv (by refine ah _ (af ..) ?_;exact RO) rfl hk ?_)
    (refine ah _ ef ?_;refine ah _ (show[k].filter (zK m)=[k]from List.filter_cons_of_pos hb) ?_;refine ah _ (aT ..) ?_;refine ah _ (aT ..) ?_);rfl
   ·refine⟨rfl,hk,?_⟩
    (refine ah _ ef ?_;refine ah _ (show[k].filter (zK m)=[]from BJ (λz=>aA (hb.symm.trans z))) ?_;refine ah _ (dh ..) rfl)
 ·intro a H2 s_;refine ee s_ λC_ hk II=>?_;obtain rfl:=C_;obtain rfl:=II;exact⟨trivial,q⟩
variable {bs:List Int} {o0:Option V}
theorem n8 {a:PE} {vals:List (Option V)} {K:KS} (q:a.wp B n vals H λZ H1=>K .next vals H1):(dY a).wp B n vals H K:=q
theorem kA {f:Addr} {ps:List PE} {vals:List (Option V)} (q:m8 ps B n vals H λvs H1=>Ap B n (.ref f) vs H1 Q):(bn f ps).wp B n vals H Q:=q
theorem I7 (ok:fB B) {vals:List (Option V)} {b:Int} (h6:vals[6]?=IC (IC (.inst 311 (l 0)))) (h7:vals[7]?=IC (IC (dI b))) (S:e_ H l s) (hl:s.b_.length<=1000) (hf:s.c_.length<=1000)
 (q:∀d v H',BI d->e_ H' l {s with b_:=s.b_++[d],c_:=s.c_++[d]}->g_ H H' l l->Q v H'):(bZ 311 "new_var" 182 mA [ci [ci [bK .sub Qp (bK .pow XI Yw),bK .add Qp (bK .pow XI Yw)]]]).wp B (n+7) vals H Q:=by
 refine aj h6 (show aW (H[l 0]?.bind bc) _ from aj (aU (S.obj 0 (ax 5))) ⟨dD _ _ _,?_⟩);refine aj h7 ⟨⟨iv 25,by decide+kernel⟩,aj h7 ⟨⟨iv 25,by decide+kernel⟩,?_⟩⟩;have hz:∀z:Int,0<=z->Ap B (n+7) (.ref 182) [.inst 311 (l 0),.dat (bY [(b - z,b+z)])] H Q:=λz hz=>tS ok (nL _ _) S hl hf λH' S' K'=>q _ _ H' (HY hz) S' K';exact hz _ (Int.pow_nonneg (iv 10))
theorem I8 (ok:fB B) {vals:List (Option V)} {b m:Int} (h6:vals[6]?=IC (IC (.inst 311 (l 0)))) (h7:vals[7]?=IC (IC (dI b))) (h8:vals[8]?=IC (IC (dI m))) (h1:1<=m) (h2:m<64) (S:e_ H l s) (hl:s.b_.length<=1000) (hf:s.c_.length<=1000)
 (q:∀d v H',BI d->e_ H' l {s with b_:=s.b_++[d],c_:=s.c_++[d]}->g_ H H' l l->Q v H'):(bZ 311 "new_var" 182 mA [bn 76 [bO ⟨.bi .B_ [Tm],⟨false,[1]⟩,[ID,ID,IC 7,IC 8],IC Bj_⟩ (bK .sub (bK .add eG cT) lK)]]).wp B (n+7) vals H Q:=by
 refine aj h6 (show aW (H[l 0]?.bind bc) _ from aj (aU (S.obj 0 (ax 5))) ⟨dD _ _ _,?_⟩);refine kj (kA (kj (F3 h1 h2 h7 h8 ?_)));refine(show Ap B (n+7) (.ref 76) [dL ((CU b m).map .int)] H _ from tO ok S.cl ?_ λns hp hs=>?_)
 ·unfold CU;refine ah _ (af ..) ?_;exact aB (c9 _ _) (by decide)
 ·have D:=I6 h1 h2 hp hs;exact tS ok D.ne S hl hf λH' S' K'=>q _ _ H' D S' K'
theorem LS.new {w m:Nat} {cells:List Int} {H':List a_} {ds:List et} {d:et} (L:LS H l (St.start ds) w cells m) (S:e_ H' l {St.start ds with b_:=(St.start ds).b_++[d],c_:=(St.start ds).c_++[d]}) (K:g_ H H' l l):LS H' l (St.start (ds++[d])) w cells m:=L.kept K S
theorem zL {ds:List et} {d:et} (h:∀d∈ds,BI d) (hd:BI d):∀e∈ds++[d],BI e:=λe he=>(List.mem_append.mp he).elim (h e) λhe=>List.mem_singleton.mp he▸hd
noncomputable abbrev FP (o:Option V) (cells:List Int) (w:Nat) (sc:List Nat) (a:Option V) (bs:List Int) (i:Nat):Option V->Option V->Option V->Option V->Option V->Option V->Option V->Option V->Option V->Option V->Option V->Option V->Option V->Option V->Option V->Option V->Option V->Option V->Option V->Option V->Option V->Option V->List (Option V):=FR o (IC (dL (cells.map .int))) (IC (.loc w)) (IC (nH sc)) a (IC (dL (bs.map .int))) (IC (.inst 311 i))
theorem Oy (ok:fB B) {w k m:Nat} {cells bs:List Int} {sc:List Nat} {o0 a8:Option V} {b:Int} {ds:List et} {K:KS} (L:LS H l (St.start ds) w cells m) (hm:m+2<1000) (hd:ds.length<=3) (hb:∀d∈ds,BI d)
 (q:∀a8 d H',(∀e∈ds++[d],BI e)->LS H' l (St.start (ds++[d])) w cells (m+2)->K .next (FP o0 cells w sc ID bs (l 0) (IC (dI b)) a8 ID ID ID ID ID ID ID ID ID ID ID ID ID ID ID ID ID ID ID ID) H'):
 cA Ys B (n+7) (FP o0 cells w sc ID bs (l 0) (IC (dI b)) a8 ID ID ID ID ID ID ID ID ID ID ID ID ID ID ID ID ID ID ID ID) H K:=by
 have h3:∀{ds:List et},ds.length<=3->(St.start ds).b_.length<=1000/\(St.start ds).c_.length<=1000:=λh=>⟨ab h (ak rfl),ab h (ak rfl)⟩;refine bv (i8 (kX (lp ok L (jQ hm) (by decide) λr H1 h0 h1 L1 T1=>?_)));refine(show j7 (decide (r=0)) _ _ from cr (λZ=>?_) λZ=>?_)
 ·refine(show cA _ B (n+7) (FP o0 cells w sc ID bs (l 0) (IC (dI b)) a8 ID ID ID ID ID ID ID ID ID ID ID ID ID ID ID ID ID ID ID ID) H1 _ from bv (n8 (I7 ok rfl rfl L1.JN (h3 hd).1 (h3 hd).2 λd v H2 D S2 K2=>?_)));exact q a8 d H2 (zL hb D) ((L1.new S2 K2).up X_)
 ·refine bv (lH ?_);refine lp ok L1 (ug hm) (by decide) λr2 H2 g0 g1 L2 T2=>?_;refine(show cA _ B (n+7) (FP o0 cells w sc ID bs (l 0) (IC (dI b)) (IC (dI (1+r2))) ID ID ID ID ID ID ID ID ID ID ID ID ID ID ID ID ID ID ID ID) H2 _ from ?_);refine bv (n8 (I8 ok rfl rfl rfl (fw g0) (zV g1) L2.JN (h3 hd).1 (h3 hd).2 λd v H3 D S3 K3=>?_));exact q _ d H3 (zL hb D) (L2.new S3 K3)
theorem Ra (ok:fB B) (hM:nX B 311 175) {w a:Nat} {cells bs:List Int} {sc:List Nat} {o0:Option V} {ps:List PS} {K:KS} (hc:ea H) (hw:H[w]?=IC (jZ cells a)) (ha:a<=1) (hl:cells.length<=1000) (hb:bs.length<=3)
 (q:∀(l:Nat->Nat) a7 a8 ds H',ds.length=bs.length->(∀d∈ds,BI d)->LS H' l (St.start ds) w cells 7->cA ps B (n+7) (FP o0 cells w sc ID bs (l 0) a7 a8 ID ID ID ID ID ID ID ID ID ID ID ID ID ID ID ID ID ID ID ID) H' K):
 cA (aZ (.var 6) (bn 311 [])::eB (.var 7) (.val sL) Ys::ps) B (n+7) (FR o0 (IC (dL (cells.map .int))) (IC (.loc w)) (IC (nH sc)) ID (IC (dL (bs.map .int))) ID ID ID ID ID ID ID ID ID ID ID ID ID ID ID ID ID ID ID ID ID ID ID) H K:=by
 refine bv (lH (E6 ok hM hc λH1 S hlen he=>?_));have L1:LS H1 (λa=>H.length+a) (St.start []) w cells 1:=⟨S,(aN a ha ((he w (c8 hw)).trans hw)),λb Z e=>b7 _ (aP (c8 hw) (e▸b5 _ _)),hl⟩;refine(show cA (eB (.var 7) (.val sL) Ys::ps) B (n+7) (FR o0 (IC (dL (cells.map .int))) (IC (.loc w)) (IC (nH sc)) ID (IC (dL (bs.map .int))) (IC (.inst 311 H.length)) ID ID ID ID ID ID ID ID ID ID ID ID ID ID ID ID ID ID ID ID ID ID) H1 K from ?_);have l0:(λa=>H.length+a) 0=H.length:=rfl;refine ah _ (l0 ..).symm ?_;generalize (λa=>H.length+a)=l at L1;refine bv (oA (bA (λk vals H2=>∃a7 a8 ds,vals=(FP o0 cells w sc ID bs (l 0) a7 a8 ID ID ID ID ID ID ID ID ID ID ID ID ID ID ID ID ID ID ID ID)/\ds.length=k/\k<=bs.length/\(∀d∈ds,BI d)/\LS H2 l (St.start ds) w cells (1+2*k)) (FA ID ID ([]) rfl rfl (aL _) (λ_=>de) L1) ?_ ?_))
 ·intro k y vals H2 hy f_;refine Qv vals f_ λa7 a8 ds j_ hk hB L=>?_;obtain rfl:=j_;refine fX y (cM hy:_) λb e=>?_;have IZ:=c8 e;refine(show cA _ B (n+7) (FP o0 cells w sc ID bs (l 0) (IC (dI b)) a8 ID ID ID ID ID ID ID ID ID ID ID ID ID ID ID ID ID ID ID ID) H2 _ from Oy ok (k:=ds.length) L (WP hb IZ) (ab (bj IZ) hb) hB λa8 d H3 hB' L3=>?_);exact(FA _ a8 (ds++[d]) rfl (by refine ah _ (aw ..) ?_;rfl) IZ hB' (by refine ah _ (Ia ..) ?_;exact L3))
 ·intro vals H2 p_;refine Qv vals p_ λa7 a8 ds e hk hB L=>?_;rw[af]at e;exact q l a7 a8 ds H2 e hB (L.up (by refine ah _ (af ..) ?_;exact bb (cZ 2 hb) 1))
theorem CV {c:CC} {elt:PE} {K:KS} (hi:vals[i]?=IC o) (q:(bO c elt).wp B n vals H λv H1=>K .next (vals.set i (IC v)) H1):(iX i c elt).wp B n vals H K:=aj hi q
theorem xr {xs:List PyData} (hj:vals[j]?=IC (IC (dL xs))) (hl:xs.length<=sizeLine) (q:Q (dI xs.length) H):(bI .len [cO j]).wp B n vals H Q:=aj hj ⟨hl,q⟩
theorem Jb.refl:Jb H H w:=⟨rfl,λZ Z=>rfl⟩
theorem Jb.trans {H1:List a_} (a:Jb H H1 w) (b:Jb H1 H2 w):Jb H H2 w:=⟨b.len.trans a.len,λj hj=>(b.keep j hj).trans (a.keep j hj)⟩
structure F4 (bs:List Int) (sc:List Nat) (r:List Int):Prop where
 len:r.length=sc.length
 KZ:∀(i x:Nat) (v:Int),sc[i]?=IC x->r[i]?=IC v->bs.getD x 0<=v/\v<bs.getD x 0+5
theorem Ib (ok:fB B) (h2:vals[2]?=IC (IC (.loc w))) (h3:vals[3]?=IC (IC (nH sc))) (h5:vals[5]?=IC (IC (dL (bs.map .int)))) (L:LS H l s w cells m) (hm:m+3<1000) (F:LL sc bs.length)
 (q:∀r H',F4 bs sc r->LS H' l s w cells (m+3)->Jb H H' w->Q (dL (r.map .int)) H'):
 (bO ⟨.val gv,⟨false,[1]⟩,[ID,ID,IC 5,IC 2],ID⟩ (bK .add (cI eG cT) (bn 436 [gv,gb 5]))).wp B (n+1) vals H Q:=by
 have Q3:((ki sc).map aS).length=sc.length:=by unfold ki;(refine ah _ (af ..) ?_;refine ah _ (af ..) rfl)
 refine aj (EX h5 h2) (aj h3 ?_);refine(bA (λk a H2=>k<=sc.length/\∃r:List Int,r.length=k/\a=r.map .int/\(∀(i x:Nat) (v:Int),sc[i]?=IC x->r[i]?=IC v->bs.getD x 0<=v/\v<bs.getD x 0+5)/\LS H2 l s w cells (m+k)/\Jb H H2 w) (jp (aL _) (Aa ([]) rfl rfl (λi x v Z e=>(ft e)) L .refl)) ?_ ?_)
 ·intro k y a H2 hy f_;refine bh f_ λhk k_=>?_;refine NZ k_ λr j_ p_ hr L2 T2=>?_;obtain rfl:=j_;obtain rfl:=p_;refine aG (cM hy:_) λz hz f_=>?_;obtain rfl:=f_;unfold ki at hz;rw[aK]at hz;refine aG (Option.map_eq_some_iff.mp hz:_) λx hx k_=>?_;obtain rfl:=k_;have hxl:=F.lt x (an hx);have e:=aJ hxl;have IZ:=c8 hx;have h3:=F.H_;refine⟨trivial,i7 e (ab F.three (ak rfl)),(show aW (bs.map aS)[(x:Int).toNat]? _ from aj (iT e) (lp ok L2 (Wn hm IZ h3) (by decide) λt H3 t0 t1 L3 T3=>?_))⟩;refine(mB (by refine ah _ (af ..) ?_;exact ab hk (ab h3 (ba rfl))) IZ (Aa (r++[bs[x]+t]) (by refine ah _ (aw ..) ?_;rfl) (by refine ah _ (aT ..) ?_;rfl) (λi x' v hi hv=>?_) L3 (T2.trans T3)));by_cases hir:i<r.length
  ·rw[b8 hir]at hv;exact hr i x' v hi hv
  ·have:i=r.length:=by have:=c8 hv;rw[aw]at this;have:i<r.length+1:=this;exact lr this hir
   subst this;rw[bt (aq _),gZ]at hv;cases hv;cases hx.symm.trans hi
   (refine ah _ (bk ..) ?_;refine ah _ e ?_)
   show bs[x]<=bs[x]+t/\bs[x]+t<bs[x]+5;exact aa9 t0 t1
 ·intro a H2 s_;refine bh s_ λhk C_=>?_;refine NZ C_ λr UC II hr L2 T2=>?_;obtain rfl:=II;have UC:=UC.trans Q3;exact⟨trivial,q r H2 ⟨UC,hr⟩ (L2.up (by refine ah _ Q3 ?_;have:=F.H_;exact WL this)) T2⟩
variable {ri:Nat} {IK a7 a8 o9:Option V}
theorem CW {o:JC} {ps:List PE} (q:m8 ps B n vals H λvs H1=>o.go H1 vs Q):(bI o ps).wp B n vals H Q:=q
theorem LS.set {o:a_} (L:LS H l s w cells m) (hr:∀a,a<6->ri≠l a) (hw:ri≠w) (ho:C5 H.length o=true):LS (H.set ri o) l s w cells m:=
 ⟨L.JN.other hr ho,aG L.L5 λa ha e=>(aN a ha ((cE hw).trans e)),L.off,L.H_⟩
theorem F5 (ok:fB B) {K:KS} (L:LS H l s w cells m) (hm:m+3<1000) (F:LL sc bs.length) (hr:∀a,a<6->ri≠l a) (hw:ri≠w) (e:H[ri]?=IC (.list (rows.map ff))) (h6:rows.length<=6)
 (q:∀r H',F4 bs sc r->LS H' l s w cells (m+3)->H'[ri]?=IC (.list ((rows++[r]).map ff))->K .next (FP o0 cells w sc ID bs (l 0) a7 a8 o9 (IC (.loc ri)) IK ID ID ID ID ID ID ID ID ID ID ID ID ID ID ID ID ID) H'):
 cA Yq B (n+7) (FP o0 cells w sc ID bs (l 0) a7 a8 o9 (IC (.loc ri)) IK ID ID ID ID ID ID ID ID ID ID ID ID ID ID ID ID ID) H K:=by
 refine bv (n8 (show aW (H[ri]?.bind ch) _ from aj (bM e) ?_));refine CW (kj (Ib ok rfl rfl rfl L hm F λr H1 XT L1 T1=>?_));have e1:=(T1.keep ri hw).trans e;refine⟨by(refine ah _ (af ..) ?_;refine ah _ (XT.len ..) ?_);exact ab F.H_ (ba rfl),(show aW (H1[ri]?.bind ch) _ from aj (bM e1) ⟨by refine ah _ (af ..) ?_;exact ab h6 (ba rfl),?_⟩)⟩;refine q r _ XT (L1.set hr hw rfl) ?_
 (refine ah _ (cW (c8 e1) ..) ?_;refine ah _ (aT ..) ?_);rfl
theorem F6 (ok:fB B) {K:KS} (L:LS H l s w cells m) (hm:m+19<1000) (F:LL sc bs.length) (hr:∀a,a<6->ri≠l a) (hw:ri≠w) (e:H[ri]?=IC (.list []))
 (q:∀(IK:Option V) (rows:List (List Int)) H',(∀r∈rows,F4 bs sc r)->rows.length<=6->LS H' l s w cells (m+19)->H'[ri]?=IC (.list (rows.map ff))->cA ps B (n+7) (FP o0 cells w sc ID bs (l 0) a7 a8 o9 (IC (.loc ri)) IK ID ID ID ID ID ID ID ID ID ID ID ID ID ID ID ID ID) H' K):
 cA (eB (.var 11) (.bi .B_ Bi_) Yq::ps) B (n+7) (FP o0 cells w sc ID bs (l 0) a7 a8 o9 (IC (.loc ri)) IK ID ID ID ID ID ID ID ID ID ID ID ID ID ID ID ID ID) H K:=by
 refine bv (oA (lp ok L (jQ hm) (by decide) λr H1 h0 h1 L1 T1=>?_));obtain⟨t,ht⟩:∃t:Nat,1+r=t:=⟨(1+r).toNat,(gr (Int.add_nonneg Int.one_nonneg h0)).symm⟩;have t6:t<=6:=Xk h1 ht;refine(bA (λk vals H2=>∃(IK:Option V) (rows:List (List Int)),vals=(FP o0 cells w sc ID bs (l 0) a7 a8 o9 (IC (.loc ri)) IK ID ID ID ID ID ID ID ID ID ID ID ID ID ID ID ID ID)/\rows.length=k/\k<=t/\(∀r∈rows,F4 bs sc r)/\LS H2 l s w cells (m+1+3*k)/\H2[ri]?=IC (.list (rows.map ff))) (sZ IK ([]) rfl rfl (aL _) (λ_=>de) L1 ((T1.keep ri hw).trans e)) ?_ ?_)
 ·intro k y vals H2 hy f_;refine Ad vals f_ λa rows j_ hk hR L2 e2=>?_;obtain rfl:=j_;refine bh (iV (m:=t) (ht▸hy):_) λIZ f_=>?_;obtain rfl:=f_;refine(show cA _ B (n+7) (FP o0 cells w sc ID bs (l 0) a7 a8 o9 (IC (.loc ri)) (IC (dI (rows.length:Nat))) ID ID ID ID ID ID ID ID ID ID ID ID ID ID ID ID ID) H2 _ from F5 ok L2 (Wt hm t6 IZ) F hr hw e2 (ab (bj IZ) t6) λr H3 hr3 L3 e3=>?_);exact(sZ _ (rows++[r]) rfl (by refine ah _ (aw ..) ?_;rfl) IZ (λx hx=>(List.mem_append.mp hx).elim (hR x) λhx=>List.mem_singleton.mp hx▸hr3) (by refine ah _ (Ia ..) ?_;exact L3) e3)
 ·intro vals H2 p_;refine Ad vals p_ λa rows LD hk hR L2 e2=>?_;have Mw:(gd (dG 0 (1+r))).length=t:=ht▸kU;exact q a rows H2 hR (by(refine ah _ LD ?_;refine ah _ Mw ?_);exact t6) (L2.up (by refine ah _ Mw ?_;exact WK t6)) e2
theorem Sp (a b:Int):cons [0,1] [a,b]=true:=decide_eq_true rfl
theorem So (a b c:Int):cons [0,1,2] [a,b,c]=true:=decide_eq_true rfl
theorem Ic (a b c:Int):cons [0,1,0] [a,b,c]=true↔a=c:=decide_eq_true_iff.trans ⟨λh=>(cD h).1.symm,λh=>h▸rfl⟩
theorem Uj (h:r.length=2):∃a b,r=[a,b]:=by
 rcases r with _|⟨a,_|⟨b,_|⟨c,r⟩⟩⟩<;>first|exact(cY a b rfl)|cases h
theorem PV (h:r.length=3):∃a b c,r=[a,b,c]:=by
 rcases r with _|⟨a,_|⟨b,_|⟨c,_|⟨d,r⟩⟩⟩⟩<;>first|exact(Ab a b c rfl)|cases h
theorem F7 (h3:vals[3]?=IC (IC (nH sc))) (Pe:vals[10]?=IC (IC (.loc ri))) (e:H[ri]?=IC (.list (rows.map ff))) (F:LL sc m) (hR:∀r∈rows,F4 bs sc r) (h6:rows.length<=6)
 (q:Q (dL (fo sc (ln sc rows))) H):(bO ⟨.loc PC,⟨false,[1]⟩,[ID,ID,IC 3],IC B5_⟩ cT).wp B n vals H Q:=by
 have l6:rows.length<=sizeLine:=ab h6 (ba rfl);refine aj (xo h3) (aj Pe (show aW (H[ri]?.bind ch) _ from aj (bM e) ?_));refine(bA (Got (λr:List Int=>if cons sc r=true then IC (ff r)else ID) rows H) ⟨rfl,rfl⟩ (λk y a H2 hy g=>?_) (λa H2 g=>?_))
 ·refine fX y (cM hy:_) λr hr=>?_;refine bh (id g:_) λj_ p_=>?_;obtain rfl:=j_;obtain rfl:=p_;refine⟨e,?_⟩;have hl:=(hR r (an hr)).len;rcases F.kind with rfl|rfl|rfl
  ·refine lP (Uj hl:_) λa b s_=>?_;obtain rfl:=s_;exact⟨F8 rfl,g.yes hr (if_pos (Sp a b)) l6⟩
  ·refine Da (PV hl:_) λa b c C_=>?_;obtain rfl:=C_;exact⟨F8 rfl,g.yes hr (if_pos (So a b c)) l6⟩
  ·refine Da (PV hl:_) λa b c II=>?_;obtain rfl:=II;refine⟨F8 rfl,⟨⟨rfl,rfl⟩,(show j7 (aQ (.int a) (.int c)) _ _ from cr (λhb=>?_) λhb=>?_)⟩⟩
   ·exact g.yes hr (if_pos ((Ic a b c).mpr ((im a c).mp hb))) l6
   ·exact g.no hr (if_neg λz=>aA (hb.symm.trans ((im a c).mpr ((Ic a b c).mp z))))
 ·refine fq a g.end λJR=>?_;obtain rfl:=JR;refine⟨e,?_⟩
  (refine ah _ (j5 ..) ?_;refine ah _ (zD ..).symm ?_);exact q
structure Tb (H:List a_) (l:Nat->Nat) (w p:Nat) (sc:List Nat) (fs:List (Nat->Int)):Prop where
 tab:TabAt H p sc fs
 Re:p≠w
 off:∀a,a<6->p≠l a
 six:fs.length<=6
 KZ:∀x∈sc,∃a:Int,∀f∈fs,a<=f x/\f x<a+5
theorem Ie (hR:∀r∈rows,F4 bs sc r):∀x∈sc,∃a:Int,∀f∈ln sc rows,a<=f x/\f x<a+5:=λx hx=>⟨bs.getD x 0,λf hf=>by
 refine ig f (List.mem_map.mp hf:_) λr hr=>bh (List.mem_filter.mp hr:_) λXT hc=>bm (List.mem_iff_getElem?.mp hx:_) λi hi=>(hR r XT).KZ i x _ hi ?_;have e:sc.map (A1 sc r)=r:=of_decide_eq_true hc;have e2:(sc.map (A1 sc r))[i]?=IC (A1 sc r x):=by(refine ah _ (aK ..) ?_;refine ah _ hi ?_);rfl
 rw[e]at e2;exact e2⟩
theorem Ih (h:rows.length<=6):(ln sc rows).length<=6:=by
 unfold ln;refine ah _ (af ..) ?_;exact ab (c9 _ _) h
theorem R_ (ok:fB B) (Nw:XE B) (hM:nX B 427 kz) {K:KS} (L:LS H l (St.start ds) w cells 7) (hd:ds.length=bs.length) (F:LL sc bs.length)
 (q:∀(fs:List (Nat->Int)) p J0 IK H',LS H' l (St.start ds) w cells 26->Tb H' l w p sc fs->cA ps B (n+7) (FP o0 cells w sc ID bs (l 0) a7 a8 (IC (dL (ds.map bY))) J0 IK ID (IC (dL (fo sc fs))) (IC (.inst 427 p)) ID ID ID ID ID ID ID ID ID ID ID ID ID ID) H' K):
 cA (iX 9 ⟨.bi .B_ [bI .len [sL]],⟨false,[1]⟩,[ID,ID,IC 6],ID⟩ Tk::aZ (.var 10) fh::eB (.var 11) (.bi .B_ Bi_) Yq::iX 13 ⟨.loc PC,⟨false,[1]⟩,[ID,ID,IC 3],IC B5_⟩ cT::aZ (.var 14) (bn 427 [gv,PC])::ps) B (n+7) (FP o0 cells w sc ID bs (l 0) a7 a8 ID ID ID ID ID ID ID ID ID ID ID ID ID ID ID ID ID ID ID ID) H K:=by
 have h3:=F.three;refine bv (CV rfl (mw ok (s:=St.start ds) (xo rfl) (λQ q=>xr (xs:=bs.map .int) rfl (by refine ah _ (af ..) ?_;exact ab h3 (ba rfl)) (by(refine ah _ (af ..) ?_;refine ah _ hd.symm ?_);exact q)) L.JN (by show ds.length<=1000;exact ab (bd hd) (ab h3 (ak rfl))) ?_));refine bv (show cA _ B (n+7) (FP o0 cells w sc ID bs (l 0) a7 a8 (IC (dL (ds.map bY))) (IC (.loc H.length)) ID ID ID ID ID ID ID ID ID ID ID ID ID ID ID ID ID ID) (H++[.list []]) K from ?_);refine aG L.L5 λa ha e=>?_;have L1:LS (H++[.list []]) l (St.start ds) w cells 7:=⟨L.JN.app rfl,(aN a ha ((b8 (c8 e)).trans e)),L.off,L.H_⟩;have hrw:H.length≠w:=λz=>b7 _ (z▸c8 e);have UC:∀a,a<6->H.length≠l a:=λa ha z=>b7 _ (z▸L.JN.lt ha);refine F6 ok L1 (by decide) F UC hrw gp λIK rows H2 hR h6 L2 e2=>?_;refine bv (CV rfl (F7 rfl rfl e2 F hR h6 ?_));refine bv (lH (kA ?_));refine(show Ap B (n+7) (.ref 427) [nH sc,.loc H.length] H2 _ from EW ok Nw hM L2.JN.cl e2 F.H_ h6 (λr hr=>(hR r hr).len.symm) λH3 T hl hc hk=>?_);refine aG L2.L5 λb hb eb=>?_;have L3:LS H3 l (St.start ds) w cells 26:=⟨⟨L2.JN.inj,λa ha=>(hk _ (L2.JN.lt ha)).trans (L2.JN.obj a ha),hc⟩,(aN b hb ((hk _ (c8 eb)).trans eb)),L2.off,L2.H_⟩;exact q (ln sc rows) H2.length _ IK H3 L3 ⟨T,λz=>b7 _ (z▸c8 eb),λa ha z=>b7 _ (z▸L2.JN.lt ha),Ih h6,Ie hR⟩
structure Dec (ds:List et) (k:Nat) (s:St):Prop where
 h_:JA s
 c_:s.c_=ds
 good:s.failed=false
 H_:∀d∈s.b_,d.length<=3+k
 tl:s.d_.length<=k
 nl:s.news.length<=k
theorem Dec.start (h:∀d∈ds,BI d) (h3:ds.length<=3):Dec ds 0 (St.start ds):=
 ⟨⟨⟨h3,λd hd=>ab (h d hd).three (ak rfl),aL _,aL _⟩,λd hd=>⟨(h d hd).LQ,(h d hd).ne⟩,λd hd=>⟨(h d hd).LQ,(h d hd).ne⟩,rfl,λx v hv=>hv⟩,rfl,rfl,λd hd=>(h d hd).three,aq _,aq _⟩
theorem Dec.marks (D:Dec ds k s) (ms:List Nat):Dec ds k {s with marks:=ms}:=
 ⟨⟨⟨D.h_.ok.b_,D.h_.ok.len,D.h_.ok.d_,D.h_.ok.news⟩,D.h_.LQ,D.h_.KX,D.h_.len,D.h_.sub⟩,D.c_,D.good,D.H_,D.tl,D.nl⟩
theorem Dec.up (D:Dec ds k s) (h:k<=m):Dec ds m s:=
 ⟨D.h_,D.c_,D.good,λd hd=>ab (D.H_ d hd) (bb h 3),ab D.tl h,ab D.nl h⟩
theorem Dec.clean (D:Dec ds k s):Dec ds k {s with failed:=false,z_:=[],news:=[]}:=
 ⟨⟨⟨D.h_.ok.b_,D.h_.ok.len,D.h_.ok.d_,aL _⟩,D.h_.LQ,D.h_.KX,D.h_.len,D.h_.sub⟩,D.c_,rfl,D.H_,D.tl,aL _⟩
theorem Ij {k:Int} {d:et} (c:IP d):(fM sg k d).length<=d.length+1:=ue c
theorem Dec.go (D:Dec ds k s) (hk:k<390) (hx:x<s.b_.length) (h:fM sg v (s.b_.getD x [])≠[]):Dec ds (k+1) (s.enter x ⟨x,sg,v⟩ ID):=by
 refine ee (D.h_.at hx:_) λe cn nn=>bh (mi (s:=sg) (k:=v) cn:_) λcc cs=>?_;have hd:(s.enter x ⟨x,sg,v⟩ ID).b_=s.b_.set x (fM sg v (s.b_.getD x [])):=rfl;have Jl:∀d∈(s.enter x ⟨x,sg,v⟩ ID).b_,d∈s.b_∨d=fM sg v (s.b_.getD x []):=λd hd=>iS hd;have hl:(s.b_.set x (fM sg v (s.b_.getD x []))).length=s.b_.length:=dC;have H_:∀d∈(s.enter x ⟨x,sg,v⟩ ID).b_,d.length<=3+(k+1):=λd hd=>(Jl d hd).elim (λhd=>bP (D.H_ d hd)) λe2=>e2▸ab (Ij cn) (aY (D.H_ _ (an e)));have tl:(s.enter x ⟨x,sg,v⟩ ID).d_.length<=k+1:=by
  show(s.d_++[_]).length<=_;refine ah _ (aw ..) ?_;exact aY D.tl
 have nl:(s.enter x ⟨x,sg,v⟩ ID).news.length<=k+1:=by
  show(jV s.news x _).length<=_;unfold jV
  split
  ·refine ah _ (af ..) ?_;exact bP D.nl
  ·refine ah _ (aw ..) ?_;exact aY D.nl
 refine⟨⟨⟨by(refine ah _ hd ?_;refine ah _ hl ?_);exact D.h_.ok.b_,λd hd=>ab (H_ d hd) (Xf hk),ab tl (aP hk (f6 390 610)),ab nl (aP hk (f6 390 610))⟩,λd hd=>(Jl d hd).elim (D.h_.LQ d) λe2=>e2▸⟨cc,h⟩,D.h_.KX,by(refine ah _ hd ?_;refine ah _ hl ?_);exact D.h_.len,λy w hw=>?_⟩,D.c_,D.good,H_,tl,nl⟩;refine D.h_.sub y w ?_;rw[hd,zz hx]at hw;by_cases hy:y=x
 ·subst hy;rw[if_pos rfl]at hw;exact((cs w).mp hw).1
 ·rw[if_neg hy]at hw;exact hw
variable {R:Bool->List a_->Prop} {k:V->Prop}
theorem Tb.kept (T:Tb H l w p sc fs) (K:g_ H H' l l'):Tb H' l' w p sc fs:=
 ⟨T.tab.keep T.off K,T.Re,λa ha z=>(K.own a ha).elim (λf_=>aG f_ λb hb e=>T.off b hb (z.trans e)) λhle=>bm T.tab λZ e=>b7 _ (aP (c8 e) (z▸hle)),T.six,T.KZ⟩
theorem Tb.turn (T:Tb H l w p sc fs) (K:Jb H H' w):Tb H' l w p sc fs:=
 ⟨bm T.tab λr e=>⟨r,(K.keep p T.Re).trans e⟩,T.Re,T.off,T.six,T.KZ⟩
theorem rA {o:Option (Option V)} {v:V} (h:o=IC (IC v)) (q:k v):aW o λo=>aW o k:=aj h (aj rfl q)
theorem F9 {r:Int} (h0:0<=r) (h4:r<4):∃sg:Sg,[jd "<=",.str ">=",.str "!=",.str "="][r.toNat]?=IC (.str sg.str):=by
 have:r=0∨r=1∨r=2∨r=3:=abf h0 h4;rcases this with rfl|rfl|rfl|rfl
 ·exact⟨.le,rfl⟩
 ·exact⟨.ge,rfl⟩
 ·exact⟨.ne,rfl⟩
 ·exact⟨.eq,rfl⟩
theorem xt (q:t.wp B n vals H λb H1=>R (!b) H1):(gq t).wp B n vals H R:=q
theorem xu {a:PE} (q:a.wp B n vals H λv H1=>qk (λb=>R b H1) v):(fO a).wp B n vals H R:=q
theorem Ik (ok:fB B) (h2:vals[2]?=IC (IC (.loc w))) (h4:vals[4]?=IC (IC (dI x))) (h5:vals[5]?=IC (IC (dL (bs.map .int)))) (h6:vals[6]?=IC (IC (.inst 311 (l 0)))) (h15:vals[15]?=IC (IC (dS sg.str))) (hx:x<bs.length) (hb:bs.length<=3)
 (L:LS H l s w cells m) (hm:m<1000) (q:∀k H',LS H' l s w cells (m+1)->Jb H H' w->Ap B (n+7) (.ref 273) [.inst 311 (l 0),.dat (jt x sg k)] H' Q):(bZ 311 "decide" 273 mA [ci [qN,cO 15,bK .sub (bK .add (cI sL qN) (bn 436 [eG,gb 7])) lK]]).wp B (n+7) vals H Q:=by
 have e:=aJ hx;refine aj h6 (show aW (H[l 0]?.bind bc) _ from aj (aU (L.JN.obj 0 (ax 5))) ⟨dD _ _ _,?_⟩);refine rA h4 (rA h15 (rA h5 (rA h4 ⟨i7 e (ab hb (ak rfl)),(show aW (bs.map aS)[((x:Nat):Int).toNat]? _ from aj (iT e) (rA h2 ?_))⟩)));exact lp ok L hm (by decide) λr H1 h0 h1 L1 T1=>q _ H1 L1 T1
variable {J0:Option V}
theorem zM (s:St) (c:List Lt):({s with marks:=s.marks++[s.d_.length],failed:=true,z_:=c}:St).popped s.marks s.d_.length={s with failed:=false,z_:=[],news:=[]}:=by
 unfold St.popped;show St.mk (sz (s.d_.drop s.d_.length) s.b_) s.c_ (s.d_.take s.d_.length) s.marks false [] []=St.mk s.b_ s.c_ s.d_ s.marks false [] []
 (refine ah _ (bx ..) ?_;refine ah _ (fk ..) ?_);rfl
theorem Il (ok:fB B) {k:Nat} {a4 IT:Option V} {K:KS} (L:LS H l s w cells m) (hm:m+3<1000) (T:Tb H l w p sc fs) (D:Dec ds k s) (hk:k<390) (P6:s.marks.length<=k) (hd:ds.length=bs.length) (hb:bs.length<=3) (hb0:0<bs.length) (ht:∀e∈s.d_,e.x<s.b_.length)
 (q:∀l' s' a4 IT H',l' 0=l 0->LS H' l' s' w cells (m+3)->Tb H' l' w p sc fs->Dec ds (k+1) s'->s'.marks.length<=k+1->(∀e∈s'.d_,e.x<s'.b_.length)->K .next (FP o0 cells w sc a4 bs (l 0) a7 a8 (IC (dL (ds.map bY))) J0 IK ID (IC (dL (fo sc fs))) (IC (.inst 427 p)) IT ID ID ID ID ID ID ID ID ID ID ID ID ID) H'):
 cA Aw_ B (n+7) (FP o0 cells w sc a4 bs (l 0) a7 a8 (IC (dL (ds.map bY))) J0 IK ID (IC (dL (fo sc fs))) (IC (.inst 427 p)) IT ID ID ID ID ID ID ID ID ID ID ID ID ID) H K:=by
 have P1:s.b_.length=bs.length:=D.h_.len.symm.trans ((congrArg mL D.c_).trans hd);refine bv (lH (kA ⟨by refine ah _ (af ..) ?_;exact ab hb (ba rfl),?_⟩));refine(show Ap B (n+7) (.ref 436) [.loc w,dI ((bs.map aS).length:Nat)] H _ from lp ok L (jQ hm) (by refine ah _ (af ..) ?_;exact Int.natCast_pos.mpr hb0) λr H1 h0 h1 L1 T1=>?_);rw[af]at h1;obtain⟨x,rfl⟩:∃x:Nat,r=x:=⟨r.toNat,Int.eq_natCast_toNat.mpr h0⟩;have hx:x<bs.length:=Int.ofNat_lt.mp h1;refine(show cA _ B (n+7) (FP o0 cells w sc (IC (dI x)) bs (l 0) a7 a8 (IC (dL (ds.map bY))) J0 IK ID (IC (dL (fo sc fs))) (IC (.inst 427 p)) IT ID ID ID ID ID ID ID ID ID ID ID ID ID) H1 _ from bv (lH ?_));refine lp ok L1 (Xg hm) (by decide) λr2 H2 g0 g1 L2 T2=>?_;refine bm (F9 g0 g1:_) λsg es=>⟨⟨g0,cN g1 (by decide)⟩,(show aW [jd "<=",.str ">=",.str "!=",.str "="][r2.toNat]? _ from aj es ?_)⟩;refine(show cA _ B (n+7) (FP o0 cells w sc (IC (dI x)) bs (l 0) a7 a8 (IC (dL (ds.map bY))) J0 IK ID (IC (dL (fo sc fs))) (IC (.inst 427 p)) (IC (dS sg.str)) ID ID ID ID ID ID ID ID ID ID ID ID ID) H2 _ from bv (n8 ?_));have ml:s.marks.length<=sizeLine:=ab P6 (ab (bj hk) (ba rfl));have tl1:s.d_.length<=1000:=ab D.tl (ab (bj hk) (ak rfl));refine(show aW (H2[l 0]?.bind bc) _ from aj (aU (L2.JN.obj 0 (ax 5))) ⟨dD _ _ _,Cv ok L2.JN (ab tl1 (ba rfl)) ml λH3 S3 K3=>?_⟩);have L3:=L2.kept K3 S3;have T3:=((T.turn T1).turn T2).kept K3;have D3:=D.marks (s.marks++[s.d_.length]);have UO:(s.marks++[s.d_.length]).length<=k+1:=by refine ah _ (aw ..) ?_;exact aY P6
 have Nz:x<s.b_.length:=P1▸hx;refine ee (D3.h_.at Nz:_) λex cx nx=>(show cA _ B (n+7) (FP o0 cells w sc (IC (dI x)) bs (l 0) a7 a8 (IC (dL (ds.map bY))) J0 IK ID (IC (dL (fo sc fs))) (IC (.inst 427 p)) (IC (dS sg.str)) ID ID ID ID ID ID ID ID ID ID ID ID ID) H3 _ from bv (i8 (xt (xu (Ik ok (x:=x) (sg:=sg) rfl rfl rfl rfl rfl hx hb L3 (ug hm) λv H4 L4 T4=>E2 ok L4.JN D3.h_.ok ex ⟨λhc H5 S5 K5=>?_,λhc he=>?_,λhc he H5 S5 K5=>?_⟩)))))
 ·refine(show cA _ B (n+7) (FP o0 cells w sc (IC (dI x)) bs (l 0) a7 a8 (IC (dL (ds.map bY))) J0 IK ID (IC (dL (fo sc fs))) (IC (.inst 427 p)) (IC (dS sg.str)) ID ID ID ID ID ID ID ID ID ID ID ID ID) H5 _ from bv (n8 ?_));refine(show aW (H5[l 0]?.bind bc) _ from aj (aU (S5.obj 0 (ax 5))) ⟨dD _ _ _,?_⟩);refine GT ok S5 (ms:=s.marks) (m:=s.d_.length) rfl (ab P6 (bj (cy hk (by decide)))) (aq _) tl1 (by show s.b_.length<=1000;exact ar9 hb P1) ht (λd hd=>(D.h_.KX d hd).2) λH6 l6 S6 K6=>?_;rw[zM s]at S6;exact q l6 _ _ _ H6 K6.i ((L4.kept K5 S5).kept K6 S6) (((T3.turn T4).kept K5).kept K6) (D.clean.up (cL k)) (bP P6) ht
 ·exact q l _ _ _ H4 rfl L4 (T3.turn T4) (D3.up (cL k)) UO ht
 ·refine q l _ _ _ H5 rfl (L4.kept K5 S5) ((T3.turn T4).kept K5) (D3.go hk Nz hc) UO λe he=>?_;show e.x<(s.b_.set x _).length;exact ah _ (dC ..) ((List.mem_append.mp he).elim (ht e) λhe=>List.mem_singleton.mp he▸Nz)
theorem R9 (ok:fB B) {K:KS} (L:LS H l (St.start ds) w cells 26) (T:Tb H l w p sc fs) (hB:∀d∈ds,BI d) (hd:ds.length=bs.length) (F:LL sc bs.length)
 (q:∀l' s' a4 IK IT H',l' 0=l 0->e_ H' l' s'->Tb H' l' w p sc fs->Dec ds 3 s'->s'.marks.length<=3->(∀e∈s'.d_,e.x<s'.b_.length)->cA ps B (n+7) (FP o0 cells w sc a4 bs (l 0) a7 a8 (IC (dL (ds.map bY))) J0 IK ID (IC (dL (fo sc fs))) (IC (.inst 427 p)) IT ID ID ID ID ID ID ID ID ID ID ID ID ID) H' K):
 cA (eB (.var 11) (.bi .B_ [bn 436 [eG,gb 4]]) Aw_::ps) B (n+7) (FP o0 cells w sc ID bs (l 0) a7 a8 (IC (dL (ds.map bY))) J0 IK ID (IC (dL (fo sc fs))) (IC (.inst 427 p)) ID ID ID ID ID ID ID ID ID ID ID ID ID ID) H K:=by
 have hb0:0<bs.length:=aG F.top λt Z e=>e▸jP t;refine bv (oA (lp ok L (by decide) (by decide) λr H1 h0 h1 L1 T1=>?_));obtain⟨t,rfl⟩:∃t:Nat,r=t:=⟨r.toNat,Int.eq_natCast_toNat.mpr h0⟩;have t3:t<=3:=Int.ofNat_le.mp (kJ h1);obtain⟨i,l0⟩:∃i,l 0=i:=⟨_,rfl⟩;rw[l0]at q⊢;refine(bA (λk vals H2=>∃(l':Nat->Nat) (s':St) (a4 IK IT:Option V),vals=(FP o0 cells w sc a4 bs i a7 a8 (IC (dL (ds.map bY))) J0 IK ID (IC (dL (fo sc fs))) (IC (.inst 427 p)) IT ID ID ID ID ID ID ID ID ID ID ID ID ID)/\k<=t/\l' 0=i/\LS H2 l' s' w cells (27+3*k)/\Tb H2 l' w p sc fs/\Dec ds k s'/\s'.marks.length<=k/\(∀e∈s'.d_,e.x<s'.b_.length)) (TA l (St.start ds) ID IK ID rfl (aL _) l0 L1 (T.turn T1) (Dec.start hB (hd▸F.three)) (aq _) (λ_=>de)) ?_ ?_)
 ·intro k y vals H2 hy f_;refine Tq vals f_ λl' s' a4 IK IT hk j_ L2 T2 D2 KL Zx=>?_;obtain rfl:=j_;refine bh (iV (m:=t) hy:_) λIZ f_=>?_;obtain rfl:=f_;refine(show cA _ B (n+7) (FR o0 (IC (dL (cells.map .int))) (IC (.loc w)) (IC (nH sc)) a4 (IC (dL (bs.map .int))) (IC (.inst 311 (l' 0))) a7 a8 (IC (dL (ds.map bY))) J0 (IC (dI (k:Nat))) ID (IC (dL (fo sc fs))) (IC (.inst 427 p)) IT ID ID ID ID ID ID ID ID ID ID ID ID ID) H2 _ from Il ok L2 (WO t3 IZ) T2 D2 (aP IZ (ab t3 (ak rfl))) KL hd F.three hb0 Zx λl3 s3 a4 IT H3 e3 L3 T3 D3 ZN ht3=>?_);exact(TA l3 s3 _ _ _ rfl IZ e3 (by refine ah _ (Ia ..) ?_;exact L3) T3 D3 ZN ht3)
 ·intro vals H2 p_;refine Tq vals p_ λl' s' a4 IK IT hk e L2 T2 D2 KL Zx=>?_;have Mw:(gd (dG 0 (t:Nat))).length=t:=kU;exact q l' s' a4 IK IT H2 e L2.JN T2 (D2.up (by refine ah _ Mw ?_;exact t3)) (ab KL (by refine ah _ Mw ?_;exact t3)) Zx
structure Now (H:List a_) (l:Nat->Nat) (p ni:Nat) (c:Cx) (s:St):Prop where
 JN:e_ H l s
 Ms:NJ H l p c s
 run:Run c 3 s
 now:H[ni]?=IC (.list (c.ds.map bY))
 off:∀a,a<6->ni≠l a
 tab:p≠ni
structure Th (c:Cx) (bs:List Int):Prop where
 Nm:LL c.sc bs.length
 len:c.ds.length=bs.length
 marks:∃ms,c.marks=ms++[c.d_.length]/\ms.length<=3
 d_:c.d_.length<=3
 lt:∀e∈c.d_,e.x<c.ds.length
noncomputable abbrev FQ (c:Cx) (bs:List Int) (l:Nat) (p:Nat) (d e f g h i j k m n:Option V):Option V->Option V->Option V->Option V->Option V->Option V->Option V->Option V->Option V->List (Option V):=FR d e f (IC (nH c.sc)) g (IC (dL (bs.map .int))) (IC (.inst 311 l)) h i (IC (dL (c.c_.map bY))) j k m (IC (dL (fo c.sc c.fs))) (IC (.inst 427 p)) n (IC (dL (c.ds.map bY))) (IC (dI c.d_.length)) (IC (dL (fo c.sc (dm c)))) (IC (dL (fo c.sc c.bg)))
theorem R8 (ok:fB B) {o1 a4 IT:Option V} {K:KS} (S:e_ H l s) (T:Tb H l w p sc fs) (hB:∀d∈ds,BI d) (hd:ds.length=bs.length) (F:LL sc bs.length) (D:Dec ds 3 s) (hm:s.marks.length<=3) (ht:∀e∈s.d_,e.x<s.b_.length)
 (q:∀c ni H',Th c bs->Now H' l p ni c {s with marks:=s.marks++[s.d_.length]}->cA ps B (n+7) (FQ c bs (l 0) p o0 o1 o2 a4 a7 a8 J0 IK ID IT (IC (.loc ni)) ID ID ID ID ID ID ID ID) H' K):
 cA (c5 Bq_ NL []::dY (bZ 311 "push" 287 mA [])::jL [16,17] Bc_::qI [18,19,20] 20 Bk_::ps) B (n+7) (FR o0 o1 o2 (IC (nH sc)) a4 (IC (dL (bs.map .int))) (IC (.inst 311 (l 0))) a7 a8 (IC (dL (ds.map bY))) J0 IK ID (IC (dL (fo sc fs))) (IC (.inst 427 p)) IT ID ID ID ID ID ID ID ID ID ID ID ID ID) H K:=by
 have P1:s.b_.length=bs.length:=D.h_.len.symm.trans ((congrArg mL D.c_).trans hd);have b3:=F.three;have dl:s.b_.length<=1000:=ab (bd P1) (ab b3 (ak rfl));have C:rz s sc:=⟨λx hx=>P1▸F.lt x hx,F.H_⟩;have fl:∀d∈s.c_,d.length<=sizeLine:=λd T8=>ab (hB d (D.c_▸T8)).three (ba rfl);have l6:fs.length<=sizeLine:=ab T.six (ba rfl);have OO:sc.length<=sizeLine:=ab F.H_ (ba rfl);refine bv (i8 (xt (xu (kA ?_))));refine(show Ap B (n+7) (.ref 475) [.inst 427 p,.inst 311 (l 0),nH sc,dL (bs.map .int),dL (fo sc fs),dL (ds.map bY)] H _ from ?_);refine ah _ (D.c_ ..).symm (O8 ok T.tab S D.h_ C T.six F.lt (ab b3 (f6 3 997)) fl ?_);refine ah _ (D.c_ ..) ((show cA _ B (n+7) (FR o0 o1 o2 (IC (nH sc)) a4 (IC (dL (bs.map .int))) (IC (.inst 311 (l 0))) a7 a8 (IC (dL (ds.map bY))) J0 IK ID (IC (dL (fo sc fs))) (IC (.inst 427 p)) IT ID ID ID ID ID ID ID ID ID ID ID ID ID) H K from bv (n8 ?_)));refine(show aW (H[l 0]?.bind bc) _ from aj (aU (S.obj 0 (ax 5))) ⟨dD _ _ _,Cv ok S (ab D.tl (ba rfl)) (ab hm (ba rfl)) λH1 S1 K1=>?_⟩);have T1:=T.kept K1;refine(show cA _ B (n+7) (FR o0 o1 o2 (IC (nH sc)) a4 (IC (dL (bs.map .int))) (IC (.inst 311 (l 0))) a7 a8 (IC (dL (ds.map bY))) J0 IK ID (IC (dL (fo sc fs))) (IC (.inst 427 p)) IT ID ID ID ID ID ID ID ID ID ID ID ID ID) H1 K from bv (CR rfl (kj (mw ok (xo rfl) (λQ q=>xr (xs:=bs.map .int) rfl (by refine ah _ (af ..) ?_;exact ab b3 (ba rfl)) (by(refine ah _ (af ..) ?_;refine ah _ P1.symm ?_);exact q)) S1 dl (kj (kH rfl S1 (ab D.tl (ba rfl)) ?_))))));refine(show cA _ B (n+7) (FR o0 o1 o2 (IC (nH sc)) a4 (IC (dL (bs.map .int))) (IC (.inst 311 (l 0))) a7 a8 (IC (dL (ds.map bY))) J0 IK ID (IC (dL (fo sc fs))) (IC (.inst 427 p)) IT (IC (dL (s.b_.map bY))) (IC (dI s.d_.length)) ID ID ID ID ID ID ID ID ID ID ID) H1 K from bv (xp rfl (kj (kA ?_))));refine oR ok dl (λd hd=>ab (D.h_.ok.len d hd) (ba rfl)) OO C.lt l6 rfl (kj (kA ?_));refine oR ok (ds:=ds) (ab (bd hd) (ab b3 (ak rfl))) (λd hd=>fl d (D.c_▸hd)) OO (λx hx=>hd▸F.lt x hx) l6 rfl (kj (CW ?_));refine⟨by refine ah _ (af ..) ?_;exact ab dl (ba rfl),?_⟩;have D1:=D.marks (s.marks++[s.d_.length]);have R:Run ⟨sc,fs,s.b_,ds,s.d_,s.marks++[s.d_.length]⟩ 3 {s with marks:=s.marks++[s.d_.length]}:=
  ⟨D1.h_,⟨C.lt,C.H_⟩,D.c_,rfl,(aN ([]) ((dh _).symm) rfl),λf hf h=>h,D.H_,D.tl,D.nl,D.good⟩
 have g:∀{j:Nat} {o:a_},H1[j]?=IC o->(H1++[a_.list (s.b_.map bY)])[j]?=IC o:=λe=>(b8 (c8 e)).trans e;refine q ⟨sc,fs,s.b_,ds,s.d_,s.marks++[s.d_.length]⟩ H1.length _ ⟨F,P1,(aN s.marks rfl hm),D.tl,ht⟩ ⟨S1.app rfl,⟨bm T1.tab λr e=>⟨r,g e⟩,T1.off,T1.six,T1.KZ,rfl⟩,R,gp,λa ha z=>b7 _ (z▸S1.lt ha),λz=>bm T1.tab λr e=>b7 _ (z▸c8 e)⟩
structure XA (c:Cx) (s:St):Prop where
 run:Run c 24 s
 some:∃f,f∈dm c
 all:∀x∈c.sc,∀v,eR (s.b_.getD x []) v↔∃f∈dm c,f x=v
structure MK (H:List a_) (l:Nat->Nat) (p ni:Nat) (c:Cx) (s:St) (b:Bool) (nw:List et):Prop where
 JN:e_ H l s
 tab:TabAt H p c.sc c.fs
 U7:∀a,a<6->p≠l a
 six:c.fs.length<=6
 KZ:∀x∈c.sc,∃a:Int,∀f∈c.fs,a<=f x/\f x<a+5
 now:H[ni]?=IC (.list (nw.map bY))
 off:∀a,a<6->ni≠l a
 tn:p≠ni
 h_:JA s
 c_:s.c_=c.c_
 marks:s.marks=c.marks
 rep:∃es,s.d_=c.d_++es/\Rep c c.ds es s.b_
 begin:(∀d∈c.ds,IP d/\d≠[])/\(∀d∈c.ds,d.length<=6)
 bad:b=false->lG c s
 good:b=true->XA c s
theorem Fa {b:Bool} (h0:b=false->dm c=[]) (h1:b=true->∃f,f∈dm c):(!aQ (.list (fo c.sc (dm c))) (.list []))=b:=by
 cases b with
 |false=>refine ah _ (h0 rfl ..) ?_;rfl
 |true=>
  refine bm (h1 rfl:_) λf hf=>?_;cases e:aQ (.list (fo c.sc (dm c))) (.list [])with
  |false=>rfl
  |true=>rw[List.map_eq_nil_iff.mp (Jg.mp e)]at hf;exact de hf
theorem BK (h:∀f∈c.fs,dk c.ds c.sc f=false):dm c=[]:=List.filter_eq_nil_iff.mpr λf hf e=>aA ((h f hf).symm.trans e)
theorem CX (hj:vals[j]?=IC (IC (.inst 311 (l 0)))) (S:e_ H l s) (q:Q (dB s.failed) H):(bE 311 "is_failed" (cO j)).wp B n vals H Q:=
 rA hj (show aW (H[l 0]?.bind bc) _ from aj (aU (S.obj 0 (ax 5))) (aj (Rs _ _ _) q))
theorem Pt (b:Bool):(!aQ (.bool b) (.bool b))=false:=by cases b<;>rfl
theorem Im (b:Bool):aQ (.bool (!b)) (.bool b)=false:=by cases b<;>rfl
theorem R7 (ok:fB B) {ni:Nat} {o1 a4 IT:Option V} {K:KS} (N:Now H l p ni c s) (JB:c.sc≠[])
 (q:∀b s' H',MK H' l p ni c s' b c.ds->cA ps B (n+7) (FQ c bs (l 0) p o0 o1 o2 a4 a7 a8 J0 IK ID IT (IC (.loc ni)) (IC (dB b)) ID ID ID ID ID ID ID) H' K):
 cA (aZ (.var 21) Bl_::c5 B6_ NL []::ps) B (n+7) (FQ c bs (l 0) p o0 o1 o2 a4 a7 a8 J0 IK ID IT (IC (.loc ni)) ID ID ID ID ID ID ID ID) H K:=by
 have R:=N.run;have beg:(∀d∈c.ds,IP d/\d≠[])/\(∀d∈c.ds,d.length<=6):=by refine ah _ (N.Ms.c0 ..) ?_;exact⟨R.h_.LQ,R.six⟩
 have l6:6<=sizeLine:=ba rfl;have go:∀b s' H',MK H' l p ni c s' b c.ds->s'.failed=!b->cA (c5 B6_ NL []::ps) B (n+7) (FQ c bs (l 0) p o0 o1 o2 a4 a7 a8 J0 IK ID IT (IC (.loc ni)) (IC (dB b)) ID ID ID ID ID ID ID) H' K:=λb s' H' A hf=>by
  have e:=Fa (c:=c) (b:=b) (λe=>BK (A.bad e).none) λe=>(A.good e).some;refine bv (i8 (zH (kX ?_)));have e2:(!aQ (.bool b) (.bool (!aQ (.list (fo c.sc (dm c))) (.list []))))=false:=by refine ah _ e ?_;exact Pt b
  have e3:aQ (.bool s'.failed) (.bool b)=false:=by refine ah _ hf ?_;exact Im b
  refine⟨⟨(iA (i6 (λf=>BD (c.sc.map f)) _)).ok (ak rfl),rfl⟩,⟨⟨rfl,rfl⟩,(show j7 (!aQ (.bool b) (.bool (!aQ (.list (fo c.sc (dm c))) (.list [])))) _ _ from ju e2 ?_)⟩⟩;exact kX (CX rfl A.JN ⟨⟨rfl,rfl⟩,(show j7 (aQ (.bool s'.failed) (.bool b)) _ _ from ju e3 (q b s' H' A))⟩)
 refine bm N.Ms.tab λrows hT=>bv (lH (show aW (H[p]?.bind bc) _ from aj (aU hT) ⟨ud _ _ _,qD ok N.Ms N.JN R (by decide) JB ⟨λH' s' S' K' F'=>?_,λH' s' S' K' R' hs ha Z=>?_⟩⟩))
 ·exact go false s' H' ⟨S',N.Ms.tab.keep N.Ms.off K',N.Ms.off,N.Ms.six,N.Ms.KZ,(K'.keep ni (c8 N.now) N.off).trans N.now,N.off,N.tab,F'.h_,F'.c_,F'.marks,F'.rep,beg,λZ=>F',fP⟩ F'.failed
 ·exact go true s' H' ⟨S',N.Ms.tab.keep N.Ms.off K',N.Ms.off,N.Ms.six,N.Ms.KZ,(K'.keep ni (c8 N.now) N.off).trans N.now,N.off,N.tab,R'.h_,R'.c_,R'.marks,R'.rep,beg,SR,λZ=>⟨R',hs,ha⟩⟩ R'.good
theorem QG {ts:List PT} (q:Gn (t::ts) B n vals H R):(pT (t::ts)).wp B n vals H R:=q
structure Gd (m:Nat) (ds:List et):Prop where
 len:ds.length=m
 each:∀d∈ds,IP d/\d≠[]/\d.length<=7
theorem Gd.step {e:Ent} (G:Gd m ds) (E:EC c ds e):Gd m (ds.set e.x (fM e.lit.s e.lit.k e.old)):=
 ⟨List.length_set.trans G.len,λd hd=>(iS hd).elim (G.each d) λz=>z▸⟨(mi E.LQ).1,E.cut,ab (ue E.LQ) (aY E.six)⟩⟩
theorem Gd.ok (G:Gd m ds) (hm:m<=3) (h:∀x∈sc,x<m):BB ds sc:=
 ⟨by refine ah _ (G.len ..) ?_;exact ab hm (ak rfl),λx hx=>by
  have hl:x<ds.length:=by refine ah _ (G.len ..) ?_;exact h x hx
  have g:=G.each _ (an (mu hl));exact(fv hl g.1 g.2.1 (ab g.2.2 (ba rfl)))⟩
theorem Fb (ok:fB B) {ni:Nat} {old:et} {k:Int} {o1 IT Jt Lx:Option V} {K:KS} (hc:ea H) (h3:c.sc.length<=sizeLine) (hw:ws.length<=sizeLine) (Lu:∀t∈ws,EJ c.sc t) (hx:x∈c.sc) (hh:hits f ⟨x,sg,k⟩=true->∃w∈ws,hits f w=true)
 (q:K .next (FQ c bs (l 0) p o0 o1 o2 (IC (dI x)) a7 a8 J0 IK (IC (.dat (ff (c.sc.map f)))) IT (IC (.loc ni)) Lx (IC (.dat (bY old))) (IC (.dat (jt x sg k))) (IC (dT (ws.map Lt.d))) Jt ID ID ID) H):
 cA [c5 (pT [bo dW (bn 465 [Yu,gv,NN]) Fp,bo dX (bn 465 [dU [Ap_],gv,NN]) Fp]) NL []] B (n+7) (FQ c bs (l 0) p o0 o1 o2 (IC (dI x)) a7 a8 J0 IK (IC (.dat (ff (c.sc.map f)))) IT (IC (.loc ni)) Lx (IC (.dat (bY old))) (IC (.dat (jt x sg k))) (IC (dT (ws.map Lt.d))) Jt ID ID ID) H K:=by
 refine bv (i8 (QG (kX (kA ?_))));refine(show Ap B (n+7) (.ref 465) [.dat (.tuple (ws.map Lt.d)),nH c.sc,.dat (ff (c.sc.map f))] H _ from sW ok hc rfl hw h3 Lu ?_);refine⟨⟨(iA (i6 yS _)).ok (ak rfl),rfl⟩,(show j7 (aQ (.list ((ws.filter (hits f)).map Lt.d)) (.list [])) _ _ from cr (λhb=>?_) λZ=>q)⟩;have hn:hits f ⟨x,sg,k⟩=false:=by
  cases e:hits f ⟨x,sg,k⟩with
  |false=>rfl
  |true=>
   refine aG (hh e:_) λw hw1 Zr=>?_;have:w∈ws.filter (hits f):=List.mem_filter.mpr ⟨hw1,Zr⟩;rw[List.map_eq_nil_iff.mp (Jg.mp hb)]at this;exact de this
 refine kX (kA ?_);refine(show Ap B (n+7) (.ref 465) [.dat (.list [jt x sg k]),nH c.sc,.dat (ff (c.sc.map f))] H _ from sW ok hc (ls:=[⟨x,sg,k⟩]) rfl zG h3 (λt ht=>by refine ah _ (List.mem_singleton.mp ht ..) ?_;exact(aN x hx rfl)) ?_);have e2:[(⟨x,sg,k⟩:Lt)].filter (hits f)=[]:=BJ λz=>aA (hn.symm.trans z);exact ah _ e2 (⟨⟨rfl,rfl⟩,(show j7 (!aQ (.list []) (.list [])) _ _ from ju (mv rfl) q)⟩)
theorem BL (ok:fB B) {ni:Nat} {old:et} {k:Int} {o1 IT Jm Jt Lx:Option V} {K:KS} (hc:ea H) (hn:H[ni]?=IC (.list (ds.map bY))) (G:Gd m ds) (hm:m<=3) (JB:∀x∈c.sc,x<m) (h3:c.sc.length<=sizeLine) (hb6:c.bg.length<=sizeLine)
 (E:EC c ds ⟨x,old,⟨x,sg,k⟩,IC ws⟩) (q:∀Jm,K .next (FQ c bs (l 0) p o0 o1 o2 (IC (dI x)) a7 a8 J0 IK Jm IT (IC (.loc ni)) Lx (IC (.dat (bY old))) (IC (.dat (jt x sg k))) (IC (dT (ws.map Lt.d))) Jt ID ID ID) (H.set ni (.list ((ds.set x (fM sg k old)).map bY)))):
 cA Au_ B (n+7) (FQ c bs (l 0) p o0 o1 o2 (IC (dI x)) a7 a8 J0 IK Jm IT (IC (.loc ni)) Lx (IC (.dat (bY old))) (IC (.dat (jt x sg k))) (IC (dT (ws.map Lt.d))) Jt ID ID ID) H K:=by
 have ex:ds[x]?=IC (ds.getD x []):=mu E.lt;have H_:ds.length<=1000:=by refine ah _ (G.len ..) ?_;exact ab hm (ak rfl)
 have eo:old=ds.getD x []:=E.old;refine lO E.rs λws' e1 hw6 hh aam=>?_;cases e1;have hw:ws.length<=sizeLine:=ab hw6 (ba rfl);refine bv (i8 (zH (kX ?_)));refine(show aW (gT H (.loc ni)) _ from aj (bM hn) ⟨i7 ex H_,aj (iT ex) ⟨⟨(jn _).ok (ak rfl),(jn _).ok (ak rfl)⟩,(show j7 (!aQ (bY old) (bY (ds.getD x []))) _ _ from ju (by refine ah _ ((jJ _ _).mpr eo ..) ?_;rfl) ?_)⟩⟩);refine pQ ok Yu (j:=20) (vd:=.loc ni) (d:=.tuple (ws.map Lt.d)) (ws:=ws) (ds:=ds) (sc:=c.sc) (λQ q=>q) rfl rfl (bM hn) (G.ok hm JB) hh ((show cA _ B (n+7) (FQ c bs (l 0) p o0 o1 o2 (IC (dI x)) a7 a8 J0 IK Jm IT (IC (.loc ni)) Lx (IC (.dat (bY old))) (IC (.dat (jt x sg k))) (IC (dT (ws.map Lt.d))) Jt ID ID ID) H _ from bv (lH (kA ?_))));refine(show aW (gT H (.loc ni)) _ from aj (bM hn) ⟨i7 ex H_,aj (iT ex) ?_⟩);refine(show Ap B (n+7) (.ref 460) [.dat (bY (ds.getD x [])),.dat (jt x sg k)] H _ from ?_);refine ah _ eo.symm (Bw ok hc E.LQ E.ne E.has E.six E.three ?_);refine(show aW (H[ni]?.bind ch) _ from aj (bM hn) (aj (jk (by refine ah _ (af ..) ?_;exact E.lt)) ⟨⟨nC (2^63) x,t8 (ab (bj E.lt) H_)⟩,?_⟩));refine ah _ (Ct ..).symm ?_;have KN:ea (H.set ni (.list ((ds.set x (fM sg k old)).map bY))):=mW hc rfl;refine(show cA _ B (n+7) (FQ c bs (l 0) p o0 o1 o2 (IC (dI x)) a7 a8 J0 IK Jm IT (IC (.loc ni)) Lx (IC (.dat (bY old))) (IC (.dat (jt x sg k))) (IC (dT (ws.map Lt.d))) Jt ID ID ID) (H.set ni (.list ((ds.set x (fM sg k old)).map bY))) _ from ?_);generalize H.set ni (.list ((ds.set x (fM sg k old)).map bY))=H2 at KN q⊢;refine bv (oA (bA (λj vals H3=>H3=H2/\∃Jm,vals=(FQ c bs (l 0) p o0 o1 o2 (IC (dI x)) a7 a8 J0 IK Jm IT (IC (.loc ni)) Lx (IC (.dat (bY old))) (IC (.dat (jt x sg k))) (IC (dT (ws.map Lt.d))) Jt ID ID ID)) ⟨rfl,Jm,rfl⟩ ?_ ?_))
 ·intro j y vals H3 hy f_;refine bh f_ λk_ j_=>?_;obtain rfl:=k_;refine bm j_ λb12 p_=>?_;obtain rfl:=p_;refine aG (cM hy:_) λf hf f_=>?_;obtain rfl:=f_;exact(show cA _ B (n+7) (FQ c bs (l 0) p o0 o1 o2 (IC (dI x)) a7 a8 J0 IK (IC (.dat (ff (c.sc.map f)))) IT (IC (.loc ni)) Lx (IC (.dat (bY old))) (IC (.dat (jt x sg k))) (IC (dT (ws.map Lt.d))) Jt ID ID ID) H3 _ from Fb ok KN h3 hw (λt ht=>(hh t ht).sc) E.Lz (aam f (an hf)) ⟨rfl,_,rfl⟩)
 ·intro vals H3 s_;refine bh s_ λC_ II=>?_;obtain rfl:=C_;refine bm II λb12 IY=>?_;obtain rfl:=IY;exact q b12
variable {b:Bool} {ni:Nat}
theorem MK.set {nw nw':List et} (A:MK H l p ni c s b nw):MK (H.set ni (.list (nw'.map bY))) l p ni c s b nw':=
 ⟨A.JN.other A.off rfl,bm A.tab λr e=>⟨r,(cE (di A.tn)).trans e⟩,A.U7,A.six,A.KZ,cW (c8 A.now),A.off,A.tn,A.h_,A.c_,A.marks,A.rep,A.begin,A.bad,A.good⟩
theorem R6 (ok:fB B) {o1 a4 IT Jm Kb Ka K_ Jt Lx:Option V} {K:KS} (A:MK H l p ni c s b c.ds) (W:Th c bs)
 (q:∀a4 Jm Kb Ka K_ Jt H',MK H' l p ni c s b s.b_->cA ps B (n+7) (FQ c bs (l 0) p o0 o1 o2 a4 a7 a8 J0 IK Jm IT (IC (.loc ni)) Lx Kb Ka K_ Jt ID ID ID) H' K):
 cA (eB (.tup [4,22,23,24,25]) (.val (vZ (bE 311 "trail" mA) Ar_)) Au_::ps) B (n+7) (FQ c bs (l 0) p o0 o1 o2 a4 a7 a8 J0 IK Jm IT (IC (.loc ni)) Lx Kb Ka K_ Jt ID ID ID) H K:=by
 refine aG A.rep λes he hr=>?_;have h3:=W.Nm.three;have JB:c.sc.length<=sizeLine:=ab W.Nm.H_ (ba rfl);have hb6:c.bg.length<=sizeLine:=ab (c9 _ _) (ab A.six (ba rfl));have e0:=aU (A.JN.obj 0 (ax 5));have tl:(s.d_.map Ent.d).length<=sizeLine:=by refine ah _ (af ..) ?_;exact ab A.h_.ok.d_ (ba rfl)
 have Kv:(s.d_.map Ent.d).drop ((c.d_.length:Nat):Int).toNat=es.map Ent.d:=by
  (refine ah _ (bG ..) ?_;refine ah _ he ?_;refine ah _ (aT ..) ?_;refine ah _ (af (f:=Ent.d) ..).symm ?_;refine ah _ (List.drop_left ..) rfl)
 refine bv (oA (show aW (H[l 0]?.bind bc) _ from aj e0 (aj (rm _ _ _) (show aW (H[l 3]?.bind ch) _ from aj (bM (A.JN.obj 3 (by decide))) ⟨⟨dJ _,tl⟩,?_⟩))));refine ah _ Kv ((bA (λk vals H2=>∃(ds:List et) (a4 Jm Kb Ka K_ Jt:Option V),vals=(FQ c bs (l 0) p o0 o1 o2 a4 a7 a8 J0 IK Jm IT (IC (.loc ni)) Lx Kb Ka K_ Jt ID ID ID)/\k<=es.length/\H2=H.set ni (.list (ds.map bY))/\Gd bs.length ds/\Rep c ds (es.drop k) s.b_) ((Qz c.ds a4 Jm Kb Ka K_ Jt rfl (aL _) ((yQ A.now).symm) (⟨W.len,λd hd=>⟨(A.begin.1 d hd).1,(A.begin.1 d hd).2,bP (A.begin.2 d hd)⟩⟩) hr)) ?_ ?_))
 ·intro j y vals H2 hy f_;refine Tp vals f_ λds a4 Jm Kb Ka K_ Jt hk j_ G R=>?_;obtain rfl:=j_;refine fX y (cM hy:_) λe hek=>?_;have IZ:=c8 hek;have hd:es.drop j=e::es.drop (j+1):=(cU IZ).trans (by refine ah _ ((List.getElem?_eq_some_iff.mp hek).2 ..) rfl);rw[hd]at R;refine bh R λE R2=>?_;have G2:=G.step E;obtain⟨x,old,⟨lx,sg,k⟩,rs⟩:=e;refine aG (id E.rs:_) λws e1 Z=>?_;cases(show rs=IC ws from e1);cases(show lx=(x:Nat)from E.Zd);have A2:=A.set (nw':=ds);exact(show cA _ B (n+7) (FQ c bs (l 0) p o0 o1 o2 (IC (dI x)) a7 a8 J0 IK Jm IT (IC (.loc ni)) Lx (IC (.dat (bY old))) (IC (.dat (jt x sg k))) (IC (dT (ws.map Lt.d))) (IC (dI (-1))) ID ID ID) _ _ from BL ok A2.JN.cl A2.now G h3 W.Nm.lt JB hb6 E λJm=>(Qz _ _ Jm _ _ _ _ rfl IZ (sP _) G2 R2))
 ·intro vals H2 p_;refine Tp vals p_ λds a4 Jm Kb Ka K_ Jt hk C_ G R=>?_;obtain rfl:=C_;rw[af,fk]at R;have e:s.b_=ds:=R;exact ah _ e.symm (q a4 Jm Kb Ka K_ Jt _ A.set)
theorem zN (hj:vals[j]?=IC (IC (.inst 311 (l 0)))) (S:e_ H l s) (q:Q (dT (s.z_.map Lt.d)) H):(bE 311 "clash" (cO j)).wp B n vals H Q:=
 rA hj (show aW (H[l 0]?.bind bc) _ from aj (aU (S.obj 0 (ax 5))) (aj (Rt _ _ _) q))
theorem Fc (h18:vals[18]?=IC (IC (dL (fo c.sc (dm c))))) (h26:vals[26]?=IC (IC (dI i))) (hi:c.sc[i]?=IC x) (h3:c.sc.length<=3) (h6:(dm c).length<=6)
 (q:∀zs:List Int,zs.Pairwise (·<·)->(∀z,z∈zs↔∃f∈dm c,f x=z)->Q (dL (zs.map .int)) H):(bI .Lf [bI .Ok [bO ⟨.val Ao_,⟨false,[1]⟩,[ID,ID,IC 26],ID⟩ (cI cT eG)]]).wp B n vals H Q:=by
 have l6:(dm c).length<=sizeLine:=ab h6 (ba rfl);refine CW (kj (CW (kj (aj (xo h26) (rA h18 ?_)))));refine(bA (Got (λf:Nat->Int=>IC (aS (f x))) (dm c) H) ⟨rfl,rfl⟩ (λk y a H2 hy g=>⟨trivial,?_⟩) (λa H2 g=>⟨trivial,?_⟩))
 ·refine fX y (cM hy:_) λf hf=>?_;have OY:((c.sc.map f).map aS)[(i:Int).toNat]?=IC (.int (f x)):=by(refine ah _ (bG ..) ?_;refine ah _ (aK ..) ?_;refine ah _ (aK ..) ?_;refine ah _ hi ?_);rfl
  exact⟨i7 hi (ab h3 (ak rfl)),(show aW ((c.sc.map f).map aS)[(i:Int).toNat]? _ from aj OY (g.yes hf rfl l6))⟩
 ·refine fq a g.end λj_=>?_;obtain rfl:=j_;have e2:(dm c).filterMap (λf:Nat->Int=>IC (aS (f x)))=((dm c).map λf=>f x).map aS:=by refine ah _ (cV ..) ?_;exact congrFun gU _
  refine ah _ e2 ?_;refine(show qn _ (dL (((dm c).map λf=>f x).map .int))from oj ⟨by refine ah _ (af ..) ?_;exact aB h6 (by decide),?_⟩);exact(aN _ rfl (λzs pw hz=>q zs pw λz=>(hz z).trans C4))
theorem BM (ok:fB B) (h4:vals[4]?=IC (IC (dI x))) (h6:vals[6]?=IC (IC (.inst 311 (l 0)))) (h27:vals[27]?=IC (IC (dL (zs.map .int)))) (S:e_ H l s) (F:JA s) (hx:x<s.b_.length) (pw:zs.Pairwise (·<·)) (hz:∀z,z∈zs↔eR (s.b_.getD x []) z) (hl:zs.length<=1000) (q:R false H):
 (qG [bo qF (bZ 311 "width" 245 mA [qN]) (bI .len [Yt]),bo dX (bO ⟨.val Yt,⟨false,[1]⟩,[ID,ID,IC 6,IC 4],IC (gq (fO (bZ 311 "has" 224 eG [gv,cT])))⟩ cT) Fp]).wp B (n+7) vals H R:=by
 refine ee (F.at hx:_) λe cn nn=>?_;have dl:s.b_.length<=1000:=ab F.ok.b_ (ak rfl);have e0:=aU (S.obj 0 (ax 5));have es:(s.b_.getD x []).map (λp=>p.2 - p.1+1)=(s.b_.getD x []).map (λp=>p.2 - p.1+1):=rfl;have hv:iF (s.b_.getD x [])=zs:=HL (uh cn) pw λv=>JF.trans (hz v).symm;have hw:((s.b_.getD x []).map λp=>p.2 - p.1+1).sum=(zs.length:Int):=(Oc cn).trans (hv▸rfl);refine zH (kX (rA h6 (show aW (H[l 0]?.bind bc) _ from aj e0 ⟨dD _ _ _,rA h4 (O7 ok S dl e (ab (F.ok.len _ (an e)) (ba rfl)) (rA h27 ⟨by refine ah _ (af ..) ?_;exact ab hl (ba rfl),?_⟩))⟩)));have e2:(!decide (((s.b_.getD x []).map λp=>p.2 - p.1+1).sum=(((zs.map aS).length:Nat):Int)))=false:=by(refine ah _ hw ?_;refine ah _ (af ..) ?_;refine ah _ (decide_eq_true rfl ..) ?_);rfl
 refine(show j7 (!decide (((s.b_.getD x []).map λp=>p.2 - p.1+1).sum=(((zs.map aS).length:Nat):Int))) _ _ from ju e2 ?_);refine kX (aj (EX h6 h4) (rA h27 ?_));refine(bA (λk b H2=>b=[]/\H2=H) ⟨rfl,rfl⟩ (λk y b H2 hy IV=>⟨trivial,?_⟩) (λb H2 IV=>⟨trivial,?_⟩))
 ·refine fq b IV λs_=>?_;obtain rfl:=s_;refine fX y (cM hy:_) λv OZ=>(show aW (H2[l 0]?.bind bc) _ from aj e0 ⟨dD _ _ _,V5 ok S dl e ?_⟩);exact ah _ (xn cn ((hz v).mp (an OZ)) ..) (⟨rfl,rfl⟩)
 ·refine fq b IV λIY=>?_;obtain rfl:=IY;exact⟨⟨rfl,rfl⟩,(show j7 (!aQ (.list []) (.list [])) _ _ from ju (mv rfl) q)⟩
variable {nw:List et} {Jm IT Kb Ka K_ Jt KQ KP KY a4 o1:Option V}
theorem Io {v:V} (h:vals[i]?=IC (IC v)) (q:Q v H):(cO i).wp B n vals H Q:=rA h q
theorem Ow (ok:fB B) {K:KS} (A:MK H l p ni c s b s.b_) (hd:s.b_.length=bs.length) (h3:bs.length<=3)
 (q:cA ps B (n+7) (FQ c bs (l 0) p o0 o1 o2 a4 a7 a8 J0 IK Jm IT (IC (.loc ni)) (IC (dB b)) Kb Ka K_ Jt KQ KP KY) H K):cA (c5 Bd_ NL []::ps) B (n+7) (FQ c bs (l 0) p o0 o1 o2 a4 a7 a8 J0 IK Jm IT (IC (.loc ni)) (IC (dB b)) Kb Ka K_ Jt KQ KP KY) H K:=by
 have e:(!aQ (.list (s.b_.map bY)) (.list (s.b_.map bY)))=false:=by refine ah _ ((sQ jJ s.b_ s.b_).mpr rfl ..) ?_;rfl
 refine bv (i8 (kX (Io rfl (mw ok (xo rfl) (λQ q=>xr (xs:=bs.map .int) rfl (by refine ah _ (af ..) ?_;exact ab h3 (ba rfl)) (by(refine ah _ (af ..) ?_;refine ah _ hd.symm ?_);exact q)) A.JN (ab (bd hd) (ab h3 (ak rfl))) ?_))));exact(show aW (H[ni]?.bind ch) _ from aj (bM A.now) ⟨⟨(iA (i6 jn _)).ok (ak rfl),(iA (i6 jn _)).ok (ak rfl)⟩,(show j7 (!aQ (.list (s.b_.map bY)) (.list (s.b_.map bY))) _ _ from ju e q)⟩)
theorem Ov (ok:fB B) {K:KS} (A:MK H l p ni c s false s.b_) (W:Th c bs) (C:rz s c.sc)
 (q:K .next (FQ c bs (l 0) p o0 o1 o2 a4 a7 a8 J0 IK Jm IT (IC (.loc ni)) (IC (dB b)) Kb Ka K_ Jt KQ KP KY) H):cA Av_ B (n+7) (FQ c bs (l 0) p o0 o1 o2 a4 a7 a8 J0 IK Jm IT (IC (.loc ni)) (IC (dB b)) Kb Ka K_ Jt KQ KP KY) H K:=by
 have F:=A.bad rfl;have Pe:s.z_.length<=sizeLine:=ab F.aaJ (ba rfl);have JB:c.sc.length<=sizeLine:=ab C.H_ (ba rfl);refine bv (i8 (pQ ok (bE 311 "clash" mA) (j:=20) (vd:=.loc ni) (d:=.tuple (s.z_.map Lt.d)) (ws:=s.z_) (ds:=s.b_) (sc:=c.sc) (λQ q=>zN rfl A.JN q) rfl rfl (bM A.now) (A.h_.Nn C) F.holds ?_));refine bv (i8 (zF ok Aq_ (bE 311 "clash" gv) (c:=IC (.inst 311 (l 0))) (ws:=s.z_) (d:=.tuple (s.z_.map Lt.d)) (vr:=dL (fo c.sc c.bg)) (fs:=c.bg) (sc:=c.sc) (EX rfl rfl) A.JN.cl (λQ q=>q) rfl (λo Q q=>zN rfl A.JN q) rfl Pe JB (λt ht=>(F.holds t ht).sc) F.hits ?_));exact q
theorem Fd (pw:zs.Pairwise (·<·)) (hz:∀z,z∈zs↔∃f∈dm c,f x=z) (KZ:∀x∈c.sc,∃a:Int,∀f∈c.fs,a<=f x/\f x<a+5) (hx:x∈c.sc):zs.length<=5:=
 bm (KZ x hx:_) λa ha=>CP (a:=a) pw λv hv=>aG ((hz v).mp hv:_) λf hf e=>e▸ha f (E_.mp hf).1
theorem Ot (ok:fB B) {K:KS} (A:MK H l p ni c s true nw) (C:rz s c.sc)
 (q:∀a4 KQ KP,cA ps B (n+7) (FQ c bs (l 0) p o0 o1 o2 a4 a7 a8 J0 IK Jm IT (IC (.loc ni)) (IC (dB b)) Kb Ka K_ Jt KQ KP KY) H K):cA (eB (.tup [26,4]) (.bi .enum [gv]) Ax_::ps) B (n+7) (FQ c bs (l 0) p o0 o1 o2 a4 a7 a8 J0 IK Jm IT (IC (.loc ni)) (IC (dB b)) Kb Ka K_ Jt KQ KP KY) H K:=by
 have G:=A.good rfl;have h6:(dm c).length<=6:=ab (c9 _ _) A.six;refine bv (oA ?_);refine(bA (λj vals H2=>H2=H/\∃a4 KQ KP,vals=(FQ c bs (l 0) p o0 o1 o2 a4 a7 a8 J0 IK Jm IT (IC (.loc ni)) (IC (dB b)) Kb Ka K_ Jt KQ KP KY)) (jp rfl (Ab a4 KQ KP rfl)) ?_ ?_)
 ·intro j y vals H2 hy f_;refine bh f_ λk_ j_=>?_;obtain rfl:=k_;refine Da j_ λb4 b26 b27 p_=>?_;obtain rfl:=p_;refine aG (zB (k:=0) hy:_) λx hx f_=>?_;obtain rfl:=f_;refine ah _ (iN ..) ?_;have Mu:x∈c.sc:=an hx;refine(show cA _ B (n+7) (FQ c bs (l 0) p o0 o1 o2 (IC (dI x)) a7 a8 J0 IK Jm IT (IC (.loc ni)) (IC (dB b)) Kb Ka K_ Jt (IC (dI (j:Nat))) b27 KY) H2 _ from bv (lH (Fc rfl rfl hx C.H_ h6 λzs pw hz=>?_)));have hl:zs.length<=1000:=ab (Fd pw hz A.KZ Mu) (ak rfl);refine(show cA _ B (n+7) (FQ c bs (l 0) p o0 o1 o2 (IC (dI x)) a7 a8 J0 IK Jm IT (IC (.loc ni)) (IC (dB b)) Kb Ka K_ Jt (IC (dI (j:Nat))) (IC (dL (zs.map .int))) KY) H2 _ from bv (i8 (BM ok rfl rfl rfl A.JN A.h_ (C.lt x Mu) pw (λz=>(hz z).trans (G.all x Mu z).symm) hl ?_)));exact(jp rfl (Ab _ _ _ rfl))
 ·intro vals H2 s_;refine bh s_ λC_ II=>?_;obtain rfl:=C_;refine Da II λb4 b26 b27 IY=>?_;obtain rfl:=IY;exact q b4 b26 b27
theorem Ou (ok:fB B) {K:KS} (A:MK H l p ni c s true nw) (W:Th c bs) (C:rz s c.sc)
 (q:∀KY H',e_ H' l s->K .next (FQ c bs (l 0) p o0 o1 o2 a4 a7 a8 J0 IK Jm IT (IC (.loc ni)) (IC (dB b)) Kb Ka K_ Jt KQ KP KY) H'):cA [aZ (.var 28) (bI .len [bE 311 "trail" mA]),c5 (qG [gq (fO Bl_),bo qF (bI .len [bE 311 "trail" mA]) (cO 28)]) NL []] B (n+7) (FQ c bs (l 0) p o0 o1 o2 a4 a7 a8 J0 IK Jm IT (IC (.loc ni)) (IC (dB b)) Kb Ka K_ Jt KQ KP KY) H K:=by
 have G:=A.good rfl;have R:=G.run;refine bm G.some λf hf=>?_;have tl:s.d_.length<=sizeLine:=ab R.Ob (ba rfl);refine bm A.tab λrows hT=>?_;have sub:∀f∈dm c,f∈dm ⟨c.sc,c.fs,s.b_,c.c_,s.d_,c.marks⟩:=λf hf=>E_.mpr ⟨(E_.mp hf).1,R.left f (E_.mp hf).1 (E_.mp hf).2⟩;have P2:NJ H l p ⟨c.sc,c.fs,s.b_,c.c_,s.d_,c.marks⟩ s:=⟨A.tab,A.U7,A.six,A.KZ,rfl⟩;have R2:Run ⟨c.sc,c.fs,s.b_,c.c_,s.d_,c.marks⟩ 24 s:=⟨A.h_,R.sc,A.c_,A.marks,(aN ([]) ((dh _).symm) rfl),λf hf h=>h,R.six,R.Ob,R.OF,R.good⟩;refine bv (lH (kH rfl A.JN tl ?_));refine(show cA _ B (n+7) (FQ c bs (l 0) p o0 o1 o2 a4 a7 a8 J0 IK Jm IT (IC (.loc ni)) (IC (dB b)) Kb Ka K_ Jt KQ KP (IC (dI s.d_.length))) H _ from bv (i8 (zH (xt (xu ?_)))));refine(show aW (H[p]?.bind bc) _ from aj (aU hT) ⟨ud _ _ _,qD ok P2 A.JN R2 (by decide) W.Nm.ne ⟨λH' s' S' K' F'=>?_,λH' s' S' K' R' hs ha Uz=>?_⟩⟩)
 ·have:=F'.none f (E_.mp (sub f hf)).1;exact absurd (E_.mp (sub f hf)).2 (λz=>aA (this.symm.trans z))
 ·have e:=Uz λx hx v hv=>aG ((G.all x hx v).mp hv:_) λg hg e=>(aN g (sub g hg) e);subst e;refine(show O4 _ B (n+7) _ H' _ from(show(bo qF _ _).wp B (n+7) (FQ c bs (l 0) p o0 o1 o2 a4 a7 a8 J0 IK Jm IT (IC (.loc ni)) (IC (dB b)) Kb Ka K_ Jt KQ KP (IC (dI s'.d_.length))) H' _ from kX (kH rfl S' tl ?_)));refine(show j7 (!decide (((s'.d_.length:Nat):Int)=((s'.d_.length:Nat):Int))) _ _ from ju (by refine ah _ (decide_eq_true rfl ..) ?_;rfl) (q _ H' S'))
variable {ps:List PE} {p q:PE}
theorem zO:∀{es:List Ent} {ds M_:List et},Rep c ds es M_->sz es M_=ds/\M_.length=ds.length/\∀e∈es,e.x<ds.length:=by
 intro es
 induction es with
 |nil=>intro ds M_ h;cases(show M_=ds from h);exact⟨rfl,rfl,(λ_=>de)⟩
 |cons e es ih=>
  intro ds M_ h;refine ee (ih h.2:_) λh1 h2 h3=>?_;have E:=h.1;have hl:(ds.set e.x (fM e.lit.s e.lit.k e.old)).length=ds.length:=dC;refine⟨?_,h2.trans hl,λz hz=>(List.mem_cons.mp hz).elim (λq=>q▸E.lt) λhz=>hl▸h3 z hz⟩;show(sz es M_).set e.x e.old=ds
  (refine ah _ h1 ?_;refine ah _ (sP ..) ?_;refine ah _ (E.old ..) ?_)
  exact jI λi=>by
   refine ah _ (mE ..) ?_;by_cases hi:e.x=i
   ·subst hi;(refine ah _ (if_pos rfl ..) ?_;refine ah _ (if_pos E.lt ..) ?_;refine ah _ (mu E.lt ..) rfl)
   ·exact if_neg hi
theorem O0 (h:p.wp B n vals H λv H1=>qk (λb=>j7 b (pG (q::ps) B n vals H1 Q) (Q (dB false) H1)) v):(xy (p::q::ps)).wp B n vals H Q:=h
theorem O2 (h:p.wp B n vals H λv H1=>qk (λb=>j7 b (pG (q::ps) B n vals H1 Q) (Q (dB false) H1)) v):pG (p::q::ps) B n vals H Q:=h
theorem O3 (h:p.wp B n vals H Q):pG [p] B n vals H Q:=h
theorem O1 {a:PE} (h:a.wp B n vals H λva H1=>qk (λb=>Q (dB (!b)) H1) va):(BR a).wp B n vals H Q:=h
theorem R4 (ok:fB B) {p:Nat} {Lx:Option V} {K:KS} (S:e_ H l s) (W:Th c bs) (F:JA s) (UN:s.marks=c.marks) (hf:s.c_=c.c_) (hr:∃es,s.d_=c.d_++es/\Rep c c.ds es s.b_)
 (q:∀vals H',K (.ret (dB true)) vals H'):cA [dY (bZ 311 "pop" 294 mA [lK]),br B0_] B (n+7) (FQ c bs (l 0) p o0 o1 o2 a4 a7 a8 J0 IK Jm IT (IC (.loc ni)) Lx Kb Ka K_ Jt KQ KP KY) H K:=by
 refine aG hr λes he R=>ee (zO R:_) λhu hl hx=>aG W.marks λms NC ZN=>?_;have h3:=W.Nm.three;have P1:s.b_.length=bs.length:=hl.trans W.len;have sl:c.d_.length<=s.d_.length:=by(refine ah _ he ?_;refine ah _ (aw ..) ?_);exact b5 _ _
 refine bv (n8 (show aW (H[l 0]?.bind bc) _ from aj (aU (S.obj 0 (ax 5))) ⟨dD _ _ _,?_⟩));refine GT ok S (UN.trans NC) (ab ZN (ak rfl)) sl F.ok.d_ (ar9 h3 P1) (λe h=>?_) (λd hd=>(F.KX d hd).2) λH' l' S' K'=>?_
 ·rw[he]at h;exact ah _ hl ((List.mem_append.mp h).elim (W.lt e) (hx e))
 have e1:(s.popped ms c.d_.length).b_=c.ds:=by show sz (s.d_.drop c.d_.length) s.b_=c.ds;(refine ah _ he ?_;refine ah _ (List.drop_left ..) ?_);exact hu
 have e2:(s.popped ms c.d_.length).d_=c.d_:=by show s.d_.take c.d_.length=c.d_;(refine ah _ he ?_;refine ah _ (List.take_left ..) rfl)
 refine(show cA [br B0_] B (n+7) (FQ c bs (l 0) p o0 o1 o2 a4 a7 a8 J0 IK Jm IT (IC (.loc ni)) Lx Kb Ka K_ Jt KQ KP KY) H' K from ?_);refine ah _ (K'.i ..).symm ?_;have dl:(s.popped ms c.d_.length).b_.length=bs.length:=by refine ah _ e1 ?_;exact W.len
 refine bv (HV (O0 (xq (mw ok (xo rfl) (λQ q=>xr (xs:=bs.map .int) rfl (by refine ah _ (af ..) ?_;exact ab h3 (ba rfl)) (by(refine ah _ (af ..) ?_;refine ah _ (dl ..).symm ?_);exact q)) S' (ar9 h3 dl) ?_))));have e3:aQ (.list ((s.popped ms c.d_.length).b_.map bY)) (.list (c.ds.map bY))=true:=by refine ah _ e1 ?_;exact(sQ jJ _ _).mpr rfl
 refine⟨⟨(iA (i6 jn _)).ok (ak rfl),(iA (i6 jn _)).ok (ak rfl)⟩,(show j7 (aQ (.list ((s.popped ms c.d_.length).b_.map bY)) (.list (c.ds.map bY))) _ _ from iu e3 ?_)⟩;refine O2 (xq (kH rfl S' (by refine ah _ e2 ?_;exact ab W.d_ (ba rfl)) ?_));refine(show j7 (decide ((((s.popped ms c.d_.length).d_.length:Nat):Int)=((c.d_.length:Nat):Int))) _ _ from iu (by refine ah _ e2 ?_;exact decide_eq_true rfl) ?_);exact O3 (O1 (CX rfl S' (q _ H')))
theorem R5 (ok:fB B) {p:Nat} {ps:List PS} {K:KS} (A:MK H l p ni c s b s.b_) (W:Th c bs) (C:rz s c.sc)
 (q:∀a4 KQ KP KY H',e_ H' l s->cA ps B (n+7) (FQ c bs (l 0) p o0 o1 o2 a4 a7 a8 J0 IK Jm IT (IC (.loc ni)) (IC (dB b)) Kb Ka K_ Jt KQ KP KY) H' K):cA (c5 (gq (fO Yv)) Av_ B3_::ps) B (n+7) (FQ c bs (l 0) p o0 o1 o2 a4 a7 a8 J0 IK Jm IT (IC (.loc ni)) (IC (dB b)) Kb Ka K_ Jt KQ KP KY) H K:=by
 refine bv (i8 (xt (xu (Io rfl ?_))))
 cases b with
 |false=>exact Ov ok A W C (q _ _ _ _ H A.JN)
 |true=>exact Ot ok A C λa4 KQ KP=>Ou ok A W C λKY H' S'=>q _ _ _ _ H' S'
theorem Rx (ok:fB B) (Nw:XE B) (hM1:nX B 311 175) (hM2:nX B 427 kz) (hx:xs.length<=sizeLine) (q:∀H',Q (dB true) H'):PF.wp Qi B (n+7) [.Jz (xs.map .int)] [] Q:=by
 refine(show cA _ B (n+7) (FR (IC (.Jz (xs.map .int))) ID ID ID ID ID ID ID ID ID ID ID ID ID ID ID ID ID ID ID ID ID ID ID ID ID ID ID ID) [] _ from ?_);refine Rb ok rfl nofun hx λcells bs sc hl F=>Ra ok hM1 (a:=1) rfl rfl (aq _) hl F.three λl a7 a8 ds H1 hd hB L=>R_ ok Nw hM2 L hd F λfs p J0 IK H2 L2 T=>R9 ok L2 T hB hd F λl2 s2 a4 IK IT H3 e0 S3 T3 D3 hm ht=>ah _ e0.symm (R8 ok S3 T3 hB hd F D3 hm ht λc ni H4 W N=>?_);refine R7 ok N W.Nm.ne λb s5 H5 A5=>R6 ok A5 W λa4 Jm Kb Ka K_ Jt H6 A6=>?_;have Q3:s5.b_.length=bs.length:=by
  exact aG A6.rep λes Z R=>(zO R).2.1.trans W.len
 have C:rz s5 c.sc:=⟨λx hx=>Q3▸W.Nm.lt x hx,W.Nm.H_⟩;refine Ow ok A6 Q3 W.Nm.three (R5 ok A6 W C λa4 KQ KP KY H7 S7=>?_);exact R4 ok S7 W A6.h_ A6.marks A6.c_ A6.rep λvals H8=>(ie (dB true) H8 (.keep (aL _)) (q H8))
noncomputable def Yh (p:Addr×Nat×Option Nat):FuncData:=BV (w2 p.2.1 p.2.2) (BU p.2.1) (p.1 - 1) (Os p.2.1) [] .none
noncomputable def Vl (p:Addr×Nat×Option Nat):FD:=(tE (w2 p.2.1 p.2.2)).getD ⟨[],[],[]⟩
noncomputable def Kh:FuncData:=BV (w2 30 (IC 0)) (BU 30) 389 (Os 30) [(bR,380)] (.ref 385)
structure Qo (F:FuncData) (d:FD) (cl:List (Str×Addr)) (c:Addr):Prop where
 body:F.body=.stmts d.body
 names:F.scope.names=d.names
 kind:F.scope.kind=.function
 co:F.scope.isCoroutine=false
 gen:F.scope.isGenerator=false
 clo:F.closure=cl
 glob:F.globals=eZ
 LR:F.builtins=jN
 code:F.code=.ref c
 bind:∀vals:List Value,vals.length=d.ps.length->bindArgs F ⟨vals,[]⟩=pure (d.ps.zip vals)
noncomputable def Ip (F:FuncData) (n:Nat) (v:Nat->Value):FuncBody×(List (Str×bB)×ScopeKind×Bool×Bool)×(List (Str×Addr)×Addr×Addr×Value)×xU (List (Str×Value)):=(F.body,(F.scope.names,F.scope.kind,F.scope.isCoroutine,F.scope.isGenerator),(F.closure,F.globals,F.builtins,F.code),bindArgs F ⟨(bl n).map v,[]⟩)
noncomputable def Iq (d:FD) (cl:List (Str×Addr)) (c:Addr) (v:Nat->Value):FuncBody×(List (Str×bB)×ScopeKind×Bool×Bool)×(List (Str×Addr)×Addr×Addr×Value)×xU (List (Str×Value)):=(.stmts d.body,(d.names,.function,false,false),(cl,eZ,jN,.ref c),pure (d.ps.zip ((bl d.ps.length).map v)))
theorem BN (l:List Value):(bl l.length).map (λi=>l.getD i .none)=l:=List.ext_getElem (by(refine ah _ (af ..) ?_;refine ah _ (cH ..) rfl)) λi h1 h2=>by(refine ah _ (iI ..) ?_;refine ah _ (rI ..) ?_;refine ah _ (bk ..) ?_;refine ah _ (aJ h2 ..) ?_);rfl
theorem Qe {F:FuncData} {d:FD} {cl:List (Str×Addr)} {c:Addr} (h:∀v,Ip F d.ps.length v=Iq d cl c v):Qo F d cl c:=
 have e:=h λZ=>.none;have e1:=congrArg (·.2.1) e;have e2:=congrArg (·.2.2.1) e
 ⟨congrArg (·.1) e,congrArg (·.1) e1,congrArg (·.2.1) e1,congrArg (·.2.2.1) e1,congrArg (·.2.2.2) e1,congrArg (·.1) e2,congrArg (·.2.1) e2,congrArg (·.2.2.1) e2,congrArg (·.2.2.2) e2,λvals hl=>by
  have:=congrArg (·.2.2.2) (h λi=>vals.getD i .none)
  (refine ah _ (BN vals ..).symm ?_;refine ah _ hl ?_);exact this⟩
theorem CY (v:Nat->Value):(ftab.map λp=>(tE (w2 p.2.1 p.2.2),Ip (Yh p) (Vl p).ps.length v))=ftab.map λp=>(IC (Vl p),Iq (Vl p) [] (p.1 - 1) v):=by kernel_rfl
theorem OV (v:Nat->Value):Ip Kh y_.ps.length v=Iq y_ [(bR,380)] 389 v:=by kernel_rfl
theorem BO (P:jo):((iL P).map (·.1)).Nodup:=by
 refine ah _ (BX P ..).symm ?_;exact(by decide+kernel:theA.Nodup)
noncomputable def codeOk (P:jo) (p:Addr×Nat×Option Nat):Bool:=codeIn (iL P) (.ref (p.1 - 1)) (Yh p).qualname
theorem Ir (P:jo):(ftab.all (codeOk P))=true:=by kernel_rfl
theorem Fe (P:jo):codeIn (iL P) (.ref 389) Kh.qualname=true:=by kernel_rfl
theorem It (P:jo):(gtab.all λg=>keepIn (iL P) g.2)=true:=by kernel_rfl
theorem Iu (P:jo):(OH.all λt=>qe (iL P) (.ref t.1) t.2.1==IC (IC (.ref t.2.2))&&(isFn (iL P) (.ref t.2.2)&&keepIn (iL P) (.ref t.2.2)))=true:=by kernel_rfl
noncomputable def BP (P:jo) (C:Addr):Bool:=plainGet (iL P) C "__getattribute__"&&hasDictIn (iL P) C&&(qe (iL P) (.ref C) "__setattr__"==IC (IC (.builtin "object.__setattr__"))&&plainOver (iL P) C)
theorem zP (P:jo):BP P 311=true/\BP P 427=true:=⟨by kernel_rfl,by kernel_rfl⟩
theorem CZ (P:jo):(LK.all λx=>qe (iL P) (.ref 311) x==IC ID)=true/\(La.all λx=>qe (iL P) (.ref 427) x==IC ID)=true:=⟨by kernel_rfl,by kernel_rfl⟩
noncomputable def BQ (P:jo) (C f:Addr):Bool:=makesIn (iL P) C&&(qe (iL P) (.ref C) "__init__"==IC (IC (.ref f))&&typeIn (iL P) (.ref f)==IC (.type "function"))
theorem zQ (P:jo):BQ P 311 175=true/\BQ P 427 kz=true:=⟨by kernel_rfl,by kernel_rfl⟩
theorem Vu:(biS.all λg=>!(g.1=="__name__")&&bootBuiltins g.1==IC g.2)=true:=by decide+kernel
theorem Ff (names:List (Str×bB)) (t:Nat)
 (e1:env'.locals=B.s₁.heap.objs.size) (e2:dz env'=bU (B.s₁.heap.objs.size+1) names []) (e3:env'.globals=eZ) (e4:env'.builtins=jN) (e5:env'.scope.kind=.function)
 (nd:(ρ'.map (·.1)).Nodup) (hv:∀x e,(x,e)∈ρ'->FV B [] env' env' (bU (B.s₁.heap.objs.size+1) names []) x e):
 ∃W1,(∀a∈W1,B.s₁.heap.objs.size<=a)/\Inv B env' ρ' [] [] W1 {B.s₁ with heap:=nj (B.s₁.heap.push {cls:=.type "frame",data:=.dict #[]}) names,toks:=t}:=by
 have kp:∀b o,B.s₁.heap.get? b=IC o->(nj (B.s₁.heap.push {cls:=.type "frame",data:=.dict #[]}) names).get? b=IC o:=λb o e=>lV _ _ b o (av _ e);have ok:=cellsFrom_ok names (B.s₁.heap.push {cls:=.type "frame",data:=.dict #[]}) (B.s₁.heap.objs.size+1) [] ⟨λZ Z hm=>(de hm),xB⟩ (by refine ah _ (bz ..) ?_;exact aq _);rw[bz]at ok;have K9:(nj (B.s₁.heap.push {cls:=.type "frame",data:=.dict #[]}) names).Ns B.s₁.heap.objs.size λZ=>none:=(Heap.Ns.new B.s₁.heap (.type "frame")).keeps (lV _ _);have hW:∀a,a∈B.s₁.heap.objs.size::(bU (B.s₁.heap.objs.size+1) names []).map (·.2)->a=B.s₁.heap.objs.size∨∃m,(m,a)∈bU (B.s₁.heap.objs.size+1) names []:=λa ha=>
  (List.mem_cons.mp ha).imp id λha=>by refine xA ha λf_ hm k_=>?_;obtain⟨m,c⟩:=f_;obtain rfl:=k_;exact⟨m,hm⟩
 have V0:∀a,a∈B.s₁.heap.objs.size::(bU (B.s₁.heap.objs.size+1) names []).map (·.2)->B.s₁.heap.objs.size<=a:=λa ha=>
  (hW a ha).elim (λe=>bd e.symm) λf_=>bm f_ λm hm=>g6 (ok.empty m a hm).2
 have al:∀a,a∈B.s₁.heap.objs.size::(bU (B.s₁.heap.objs.size+1) names []).map (·.2)->∃o,(nj (B.s₁.heap.push {cls:=.type "frame",data:=.dict #[]}) names).get? a=IC o:=λa ha=>by
  rcases hW a ha with rfl|⟨m,hm⟩
  ·refine pt K9 λo Z Z q Z=>?_;exact⟨o,q⟩
  ·refine aG ((ok.empty m a hm).1:_) λo q Z=>?_;exact⟨o,q⟩
 refine(aN _ V0 (⟨⟨rfl,rfl⟩,kp,V0,al,(λ_=>de),.nil,rfl,λi a o q=>?_,⟨e5,e3,e4,⟨λZ=>ID,?_⟩,?_,de,λm a hm=>?_,?_,bd e1.symm⟩,nd,λx e hm=>?_⟩))
 ·exact ft q
 ·refine ah _ e1 ?_;exact K9
 ·refine ah _ e1 ?_;exact ae
 ·rw[e2]at hm;have q:=ok.empty m a hm;exact(fv (ag _ (aO (f:=(·.2)) hm)) (de) (e1▸d8 q.2) (A9 _ q.1))
 ·refine ah _ e2 ?_;exact ok.apart
 ·rcases hv x e hm with⟨rfl,hk⟩|⟨rfl,hk,a,ha⟩|⟨_,h2,_⟩|⟨h1,h2,c,h3,h4⟩|hs
  ·exact .inl ⟨rfl,hk,λv e=>ft e⟩
  ·refine bm (ly ha:_) λb hb=>?_;exact .inr (.inl (mB rfl hk (eu b ID (by refine ah _ e2 ?_;exact hb) ((ok.empty x b (cB hb)).1) (λv e=>ft e))))
  ·exact de h2
  ·exact .inr (.inr (.inl (mB h1 h2 (aN c h3 h4))))
  ·exact .inr (.inr (.inr hs))
theorem Iv {f:Value} {ps:List Str} {names:List (Str×bB)} (hf:SE B f ps body names) (hc:JW B [] names ρ0) (nd:(names.map (·.1)).Nodup) (Jd:∀k,(bR,k)∉names) (hs:Je ρ0 ps vs ρ1)
 (hE:Ex B n body ρ1 [] λfl Z H1=>∃v0 H0,K7 0 (pf fl) H1 v0 H0/\v0=dB true) (g:Good (n+1) A) (hl:cs.length=ps.length) (r:∀W h',(∀a∈W,B.s₁.heap.objs.size<=a)->(∀b o,B.s₁.heap.get? b=IC o->h'.get? b=IC o)->i_ B [] W h' vs cs):
 eY B.M A (.call f ⟨cs,[]⟩) (λr s'=>match r with|.ok (.ret v)=>v=.bool true/\(∀b o,B.s₁.heap.get? b=IC o->s'.heap.get? b=IC o)/\s'.os=B.s₁.os/\s'.gens=B.s₁.gens|.ok _=>False|.error _=>False) B.s₁:=by
 refine PD f hf.ex λfa oc od fd MX Mg LG KI Ja V4 RU M7 N7 p_=>?_;refine ee p_ λRY Nd Nh=>?_;have M5:A.depth<recursionLimit:=by have:=g.2.1;exact VA this
 refine codeAny_call_function M5 (B.KH _ _ Mg) rfl V4 RU LG (codeRec_of B.KH Nd) (ah _ (Nh cs hl ..) ?_);refine ai ?_;simp only[nv,Fk,gP,if_false];refine aa (zX ?_);refine aa (Dn _ (λname kind cells=>by cases UV:kind==cF<;>simp[UV]) _ _ _ _ ?_);refine ah _ (show({B.s₁ with heap:=B.s₁.heap.push {cls:=.type "frame",data:=.dict #[]}}:aD).heap.objs.size=B.s₁.heap.objs.size+1 from bz ..) ?_
 (refine ah _ (jC ..) ?_;refine ah _ KI ?_)
 generalize JT:({scope:=fd.scope,locals:=B.s₁.heap.objs.size,globals:=fd.globals,cells:=bU (B.s₁.heap.objs.size+1) names []++fd.closure,qual:=fd.qualname++am ".<locals>.",func:=IC fa,code:=fd.code,frame:=IC B.s₁.heap.objs.size,builtins:=fd.builtins}:pU)=env';have Y5:∀c,c∈bU (B.s₁.heap.objs.size+1) names []->c.1≠bR:=λc hm e=>by
  obtain⟨x,a⟩:=c;cases(show x=bR from e);exact Jd _ (jD _ _ _ _ hm)
 have k2:dz env'=bU (B.s₁.heap.objs.size+1) names []:=by
  refine ah _ JT.symm ?_;show(bU (B.s₁.heap.objs.size+1) names []++fd.closure).filter _=_
  (refine ah _ M7 ?_;refine ah _ (dh ..) ?_)
  exact List.filter_eq_self.mpr λc hm=>decide_eq_true (Y5 c hm)
 have kk:∀x k,(x,k)∈names->env'.kindOf x=IC k:=λx k hm=>by
  refine ah _ JT.symm ?_;show fd.scope.names.lookup x=IC k;refine ah _ KI ?_;exact eF nd hm
 refine aG (Ff (B:=B) (env':=env') (ρ':=ρ0) names B.s₁.toks (JT▸rfl) k2 (by refine ah _ JT.symm ?_;exact N7) (by refine ah _ JT.symm ?_;exact RY) (by refine ah _ JT.symm ?_;exact Ja) (by refine ah _ (hc.keys ..) ?_;exact nd) (λx e hm=>by
  rcases hc.mem hm with⟨a,rfl⟩|⟨a,rfl⟩|⟨_,_,h⟩|⟨a,b,c,d⟩|⟨a,rfl,b⟩
  ·exact .inl ⟨rfl,kk _ _ a⟩
  ·exact bm (jE names (B.s₁.heap.objs.size+1) x a:_) λad hh=>.inr (.inl ⟨rfl,kk _ _ a,ad,hh⟩)
  ·exact de h
  ·exact .inr (.inr (.inr (.inl ⟨b,kk _ _ a,c,d⟩)))
  ·exact absurd a (Jd _)):_) λW1 NE I1=>?_
 refine aa (rE _ (λZ Z=>rfl) I1 hs (r W1 _ NE I1.old) λs2 I2 x2=>ai ?_);refine⟨B.nolimit.keeps I2.old,ks_codeAny_funcAt ?_⟩;refine PySem.wpAt_mono (hE.at (A.deeper env') env' s2 [] W1 g.deeper I2) (λfl s3 h3=>?_) λZ Z e=>e.elim;refine xE h3 λTf ρ3 H3 μ3 W3 s_ I3 x3 rf=>?_;refine gV s_ λv0 H0 P3 C_=>?_;obtain rfl:=C_;have fin:∀c,l_ B μ3 W3 s3.heap (pf Tf) c->c=.bool true:=λc rv=>by
  generalize pf Tf=v at rv P3
  cases P3 with
  |keep=>cases(show Rp W3 s3.heap c (.bool true)from rv);rfl
  |drop=>cases(show Rp W3 s3.heap c (.bool true)from rv);rfl
 have same:=I3.same;have hold:=I3.old
 cases Tf with
 |next=>cases(show fl=.next from rf);cases fin _ Rp.none
 |ret v=>
  refine cX fl rf λc rr=>?_;cases fin c rr;exact(fv rfl hold same.2 same.1)
structure IS (B:Bs):Prop where
 K:B.K=iL B.w.params
 prog:B.prog=dn
 m:∀p∈topN,B.mg p.1=p.2
 bi:∀x:Str,x≠"__name__"->B.mb x=bootBuiltins x
theorem IS.look (T:IS B) {a:Addr} {o:Obj} (h:(a,o)∈iL B.w.params):B.K.lookup a=IC o:=by refine ah _ (T.K ..) ?_;exact eF (BO _) h
theorem IS.plain (T:IS B) (h:BP B.w.params C=true):nW B C:=by
 have e:=T.K;exact⟨e▸ay (ay h),e▸au (ay h),e▸eq_of_beq (ay (au h)),e▸au (au h)⟩
theorem IS.makes (T:IS B) {f:Addr} (h:BQ B.w.params C f=true):nX B C f:=by
 have e:=T.K;exact⟨e▸ay h,e▸eq_of_beq (ay (au h)),e▸eq_of_beq (au (au h))⟩
theorem IS.glob (T:IS B) {g:Str×Value} (h:g∈gtab∨g∈biS++Fu):xQ B g.1 g.2:=by
 have yes:g∈gtab++Fu->xQ B g.1 g.2:=λh=>.inl (T.m (g.1,IC g.2) (az _ (ag _ (aO (f:=λg:Str×Value=>(g.1,IC g.2)) h))));rcases h with h|h
 ·exact yes (az _ h)
 ·rcases List.mem_append.mp h with h|h
  ·have h1:=List.all_eq_true.mp Vu g h;have hn:g.1≠"__name__":=λe=>by have:=ay h1;rw[e,beq_self_eq_true]at this;exact fP this
   exact .inr ⟨T.m (g.1,ID) (aR _ (aO (f:=λg:Str×Value=>(g.1,(none:Option Value))) h)),(T.bi g.1 hn).trans (eq_of_beq (au h1))⟩
  ·exact yes (aR _ h)
theorem IS.okB (T:IS B):sK B where
 glob:=λg h=>T.glob h
 callee:=λg h=>.inr (.inr (T.K▸List.all_eq_true.mp (It B.w.params) g h))
 plainS:=T.plain (zP _).1
 plainT:=T.plain (zP _).2
 Qk:=λx h=>show qe B.K _ _=_ from T.K▸eq_of_beq (List.all_eq_true.mp (CZ B.w.params).1 x h)
 Qj:=λx h=>show qe B.K _ _=_ from T.K▸eq_of_beq (List.all_eq_true.mp (CZ B.w.params).2 x h)
 Ud:=λt h=>by
  have e:=T.K;have h1:=List.all_eq_true.mp (Iu B.w.params) t h;exact⟨e▸eq_of_beq (ay h1),e▸ay (au h1),e▸au (au h1)⟩
theorem IS.okF (T:IS B):fB B where
 ok:=T.okB
 fn:=λp hp=>by
  have hm:(p.1,Fv p)∈iL B.w.params:=az _ (aO (f:=λp=>(p.1,Fv p)) hp);have D:Qo (Yh p) (Vl p) [] (p.1 - 1):=Qe λv=>congrArg (·.2) (List.map_inj_left.mp (CY v) p hp);exact⟨Vl p,congrArg (·.1) (List.map_inj_left.mp (CY λZ=>.none) p hp),⟨p.1,.type "function",ID,Yh p,#[],rfl,T.look hm,D.body,D.names,D.kind,D.co,D.gen,D.clo,D.glob,D.LR,by refine ah _ (D.code ..) ?_;exact T.K▸List.all_eq_true.mp (Ir B.w.params) p hp,D.bind⟩⟩
noncomputable def TR (fd:FuncData):Bool:=fd.scope.names.lookup (am "super")==IC .globalImplicit&&fd.scope.names.lookup bR==IC .free&&((fd.params.posonlyargs++fd.params.args).head?.any λa=>a.arg==am "self")
theorem QP:TR Kh=true:=by decide+kernel
theorem Iw:(PySem.Challenge.pw_qd0018_01.main.scope.names.lookup (am "super")).isSome=false/\(PySem.Challenge.pw_qd0018_01.main.file==am "/claim/cut.py")=true:=⟨rfl,str_beq_self Challenge.pw_qd0018_01.main.file⟩
theorem IS.init (T:IS B):FW B (.ref kz) y_.ps y_.body y_.names (IC (.raw (.ref 427))):=by
 have D:=Qe OV;have hm:(kz,Fw)∈iL B.w.params:=aR _ ae;have Q8:B.K.lookup 389=IC BW:=T.look (aR _ (ag _ (D6 _)));have RX:B.K.lookup 380=IC ⟨.type "cell",ID,.cell (IC (.ref 427)),#[]⟩:=T.look (aR _ (ag _ (D7 _)));have hc:codeIn B.K (.ref 389) Kh.qualname=true:=T.K▸Fe B.w.params;have hs:TR Kh=true:=QP;have sf:FJ B Kh:=⟨eq_of_beq (ay (ay hs)),eq_of_beq (au (ay hs)),?_,(NV 389 BW _ (am "/claim/cut.py") _ D.code Q8 rfl rfl (T.prog▸Iw.2)),T.prog▸Iw.1⟩
 ·refine⟨kz,.type "function",ID,Kh,#[],rfl,T.look hm,D.body,D.names,D.kind,D.co,D.gen,λc hc=>?_,λv hv=>?_,D.glob,D.LR,D.code▸hc,D.bind⟩
  ·have:c∈[(bR,(380:Addr))]:=D.clo▸hc;refine ah _ (List.mem_singleton.mp this ..) rfl
  ·cases hv;exact(jp sf (YU 380 _ _ _ 427 rfl (by refine ah _ (D.clo ..) ?_;rfl) RX))
 ·have h:=au hs
  cases e:(Kh.params.posonlyargs++Kh.params.args).head? with
  |none=>rw[e]at h;exact fP h
  |some a=>rw[e]at h;exact(aN a rfl (eq_of_beq h))
theorem TQ (P:jo):(clsIn (iL P) 427).any (λcd=>alongIn (iL P) "__init__" ((cd.mro.dropWhile (·!=.ref 427)).drop 1)==IC (IC (.ref 329)))=true/\(mroIn (iL P) 427 (.ref 427)==IC true)=true/\(nsIn (iL P) cStatics "thirdparty.any"==IC ID)=true/\fnIn (iL P) 329=true/\((iL P).lookup 329).any (λo=>o.cls==.type "function")=true:=(sY (by kernel_rfl) (by kernel_rfl) (by kernel_rfl) (by kernel_rfl) (by kernel_rfl))
theorem Ix {o:Option α} {f:α->Bool} (h:o.any f=true):∃a,o=IC a/\f a=true:=by
 cases o with
 |none=>exact fP h
 |some a=>exact(aN a rfl h)
theorem IS.sup (T:IS B):Bk B 427 329:=by
 have e:=T.K;refine ux (TQ B.w.params:_) λh1 h2 h3 h4 h5=>?_;rw[←e]at h1 h2 h3 h4 h5;exact aG (Ix h1:_) λcd c1 c2=>aG (Ix h5:_) λo o1 o2=>⟨(aN cd c1 (eq_of_beq c2)),eq_of_beq h2,eq_of_beq h3,(aN o o1 (eq_of_beq o2)),h4⟩
theorem IS.Nw (T:IS B):XE B:=⟨T.init,T.sup⟩
theorem OD {h:Heap} {a:Addr} {m m':Str->Option Value} (x:h.Ns a m) (y:h.Ns a m') (n:Str):m n=m' n:=by
 refine qR x λo es ep h1 h2 Z h3=>?_;refine qR y λo' MB ep' k1 k2 Z k3=>?_;rw[h1]at k1;cases k1;rw[h2]at k2;cases k2;exact(h3 n).symm.trans (k3 n)
theorem Na {w:eQ} {s₁:aD} {mg mb:Str->Option Value} (hY:Says w s₁.heap) (hn:s₁.heap.NoLimit) (hg:s₁.heap.Ns eZ mg) (hb:s₁.heap.Ns jN mb) (hbi:∀x:Str,x≠"__name__"->mb x=bootBuiltins x):
 IS ⟨dn,w,iL w.params,mg,mb,s₁,hY.1,hn,hg,hb⟩where
 K:=rfl
 prog:=rfl
 m:=λp hp=>let⟨m,a,b⟩:=hY.2;(OD hg a p.1).trans (b p hp)
 bi:=hbi
theorem No {B:Bs} (T:IS B) {a:Addr} {vs:List Value} {xs:List Int} (hl:B.s₁.heap.IsList a vs.toArray) (hi:gO vs xs) (hx:xs.length<=63):
 eY B.M callerA (.call (.ref 480) ⟨[.ref a],[]⟩) (λr s'=>match r with|.ok (.ret v)=>v=.bool true/\(∀b o,B.s₁.heap.get? b=IC o->s'.heap.get? b=IC o)/\s'.os=B.s₁.os/\s'.gens=B.s₁.gens|.ok _=>False|.error _=>False) B.s₁:=by
 refine aG (List.any_eq_true.mp Ul:_) λp hp h1=>?_;have UE:=eq_of_beq (ay h1);refine uO (au h1) λd e h2=>?_;refine aG (T.okF.fn p hp:_) λd' e' hf=>?_;rw[e]at e';cases e';rw[UE]at hf;refine uy (PF.ready (n:=7) T.okB h2 (Rx (n:=0) T.okF T.Nw (T.makes (zQ _).1) (T.makes (zQ _).2) (Q:=λv Z=>v=dB true) (xs:=xs) (ab hx (ba rfl)) λZ=>rfl):_) λρ0 ρ1 h3 h4 h5 h6 h7=>?_;have ZG:d.ps.length=1:=by
  have:∀{ρ ρ':fF} {ps:List Str} {vs:List V},Je ρ ps vs ρ'->vs.length=ps.length:=by
   intro ρ ρ' ps vs z
   induction z with
   |nil=>rfl
   |cons _ _ ih=>exact congrArg (·+1) ih
  exact(this h6).symm
 refine Iv hf h3 h4 h5 h6 h7 ⟨rfl,by decide,by decide⟩ ZG.symm λW h' hW hk=>.cons ?_ .nil;refine aG hl λo ho q=>?_;refine(pv a _ rfl (λha=>?_) (aN o (hk _ _ ho) q) (qV hi));exact absurd (b0 ho) (Nat.not_lt.mpr (hW a ha))
end QD
theorem PySem.Challenge.cw_qd0018_01_holds : PySem.Challenge.rw_qd0018_01.Holds := by
 refine holds_law (by kernel_rfl) λsaid=>?_;refine holds_open (q:=QD.viewP dn) (loose:=QD.loose) (Xt:=λs=>xlAt (QD.viewP dn) [] s&&recOk (RowW.records PySem.Challenge.rw_qd0018_01.row.toRowW) s) (XP:=XL (QD.viewP dn) []) (Yf:=QD.hookO) (Ya:=QD.hookV) (YP:=QD.Says) (N:=6080) ?hl (Hook.of QD.UJ) (Hook.keeps QD.UJ) (λs e=>xl_of s (Bool.and_eq_true_iff.mp e).1) XL.keeps (by rfl) (by rfl) (by rfl) (λs e=>recFacts_of (Bool.and_eq_true_iff.mp e).2) (by rfl) (by first|assumption|decide+kernel) (by decide+kernel) ⟨rfl,rfl,rfl,rfl,rfl,by decide+kernel⟩ ?hw ?hc
 case hl=>exact QD.Pf
 case hw=>exact⟨[.list [.int 3,.int 1]],by decide+kernel,by decide+kernel⟩
 case hc=>
  intro w s₀ s₁ mg mb G Y fa o pm cd doc dV kV ho hd Q8 hD hmg hg args vals as M3 RN ZE SX P7;obtain⟨a,vs,xs,rfl,hl,hi,hx⟩:=QD.Np M3 RN ZE SX P7;have T:=QD.Na Y G.T.nolimit G.T.g G.T.b G.T.builtins;have e:fa=480:=by
   have h1:=T.m ((am "law"),IC (.ref 480)) (az _ ae);have h2:IC (dK fa)=IC (.ref 480):=hmg.symm.trans h1;cases h2;rfl
  subst e;refine enter_call (qf (QD.No T hl hi hx) λr s' g=>?_)
  cases r with
  |error e=>exact g.elim
  |ok x=>
   cases x with
   |ret v=>
    obtain⟨rfl,h1,h2,h3⟩:=g;refine GoodW.toG ⟨.inl ⟨_,_,_,rfl,raisesW_false allW_false_nil,.bool true,?_,λZ=>⟨.nil,nofun⟩⟩,h1,h2,h3.trans hg⟩;exact postW_of (by wrow_shape) (by wtm_val) (by w_fin)
   |_=>exact g.elim
