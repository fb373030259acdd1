import PyProof.Rows.All
import Wide.All
import Wide.FinOn
import KE.KBytesCut
import KE.KRevSl
import KE.IntBitsLaws
import KE.KDictList
import KE.KDictOf
import KE.KStateDown
import Lean
import PySem.Challenge.RW_rg0159_01
set_option tactic.hygienic false
set_option Elab.async false
set_option autoImplicit false
set_option linter.all false
set_option maxRecDepth 100000
set_option maxHeartbeats 0
set_option genInjectivity false
set_option genSizeOfSpec false
namespace Mine
open Array renaming length_toList → du, getElem?_toList → eK, toArray_toList → kI, getElem?_eq_some_iff → lR, any_toList → tS, getElem?_eq_getElem → xu, toList_append → Dz
open Bool renaming and_eq_true_iff → aR, false_ne_true → fN, and_eq_true → gJ, eq_iff_iff → kY, not_eq_true' → m7, false_or → ng, and_false → qq, false_and → xr, and_true → yU, false_eq_true → Fu, eq_false_iff → Ja, or_eq_true → L8, true_and → QF, or_false → QS
open Classical renaming byContradiction → um
open Decidable renaming not_not → jk, of_not_not → yG
open Eq renaming symm → fZ, trans → ow
open Exists renaming elim → al
open False renaming elim → eu
open ForInStep renaming yield → iP
open Int renaming eq_ofNat_of_zero_le → cG, ofNat_lt → cZ, le_refl → dQ, ofNat_le → dY, natCast_nonneg → fR, toNat_natCast → gm, le_of_lt → iY, not_lt → jE, emod_lt_of_pos → jF, emod_nonneg → lA, le_trans → lP, max_eq_right → og, add_zero → pw, le_of_eq → pA, add_nonneg → qS, toNat_of_nonneg → rP, min_eq_right → vR, mul_one → wb, neg_one_mul → wJ, min_eq_left → wK, fdiv_eq_ediv_of_nonneg → yH, zero_add → Cb, le_total → Cd, pow_succ → Cf, sub_nonpos_of_le → EY, sub_nonneg_of_le → EZ, add_le_add_right → E4, toNat_of_nonpos → Fl, toNat → Mg, max_eq_left → Nt, le_antisymm → NB, add_assoc → Rh, ofNat_sub → Ri
open Int.ofNat renaming inj → fY
open List renaming length_map → aa, length_append → ah, getElem?_eq_some_iff → ao, getElem?_eq_getElem → aw, getElem?_append_left → aC, map_append → aF, mem_cons_of_mem → aG, mem_cons_self → aI, length_drop → aJ, getElem?_map → aK, getElem?_append_right → aY, length_range → a8, mem_of_getElem? → a9, all_eq_true → ba, range → bh, mem_cons → br, getD_eq_getElem?_getD → bt, length_singleton → bA, replicate → bH, not_mem_nil → bY, length_take → cg, getElem?_drop → cD, getElem?_eq_none → cF, getElem?_range → cH, append_nil → cK, length_cons → cL, getElem?_set_ne → cN, mem_singleton → cT, mem_range → de, nodup_cons → dq, map_map → dx, length_eq_zero_iff → dD, lookup → dF, length_set → dG, mem_map → dI, lookup_cons → dJ, take_of_length_le → dK, drop_eq_nil_of_le → dM, map_cons → et, getElem?_set_self → ew, mem_append → eG, mem_iff_getElem? → eO, length_replicate → eP, isEmpty_iff → fL, take_add_one → gi, forall_mem_cons → gj, nodup_nil → gF, lookup_eq_none_iff → gG, drop_eq_getElem_cons → i0, map_congr_left → i6, replicate_succ → i7, length_nil → jl, take_length → kC, mem_of_mem_drop → kN, range_eq_range' → kP, set_set → lI, nodup_append → mZ, length → m6, size_toArray → m8, foldl_cons → pB, mem_of_mem_take → qt, filterMap_cons → rd, any_cons → rQ, append_ne_nil_of_right_ne_nil → rT, any_eq_true → uo, nodup_range → ur, getElem_mem → uu, range' → vZ, find?_cons → wd, forIn_cons → wh, drop_drop → xq, getElem?_take_of_lt → yS, map_drop → yV, eq_of_mem_replicate → yW, range_succ_eq_map → AP, length_eq_one_iff → AQ, all_map → AS, filter_eq_nil_iff → AY, length_mergeSort → Cg, getElem?_toArray → Cn, set_append_right → Cr, eq_nil_or_concat → Cs, concat_eq_append → Cu, set_getElem_self → Cv, mem_append_left → Dy, getLast?_concat → DA, dropLast_concat → DB, mem_filterMap → Fj, zip_cons_cons → FA, getElem?_inj → Jb, ext_getElem? → Je, reverse_cons → Jh, flatten_cons → Jn, map_inj_left → Jo, cons_ne_nil → JD, filter_cons → JJ, getElem_map → JK, drop_take → Nu, mergeSort → Nw, map → NC, all_cons → QP, map_take → QQ, map_nil → Rr
open List.MergeSort.Internal renaming splitInTwo → lC
open List.Perm renaming eq_of_pairwise → v5
open List.cons renaming inj → Fq
open Nat renaming le_add_left → ay, le_trans → az, le_refl → aA, le_of_ble_eq_true → aE, le_of_not_lt → aS, lt_of_lt_of_le → aV, lt_of_not_le → bp, le_succ_of_le → bz, le_add_right → bC, le_of_eq → bF, not_lt_of_le → bL, ne_of_lt → bV, le_succ → bX, lt_of_le_of_lt → cj, ble → cv, zero_le → cQ, add_le_add_right → cR, succ_le_of_lt → di, le_of_lt → dz, lt_succ_self → d6, ble_eq_true_of_le → eQ, le_of_lt_succ → fp, add_sub_cancel_left → fq, min_eq_left → fv, add_comm → fJ, le_of_sub_eq_zero → fV, lt_irrefl → gq, add_le_add_left → gI, succ_le_succ → gR, ne_of_gt → gY, sub_self → gZ, eq_of_beq_eq_true → ig, blt → ik, not_le_of_lt → iZ, lt_of_add_lt_add_left → i5, le_zero → jI, exists_eq_add_of_le → jJ, lt_succ_of_le → j5, lt_succ_of_lt → j6, lt_of_le_of_ne → mz, le_of_succ_le → m9, sub_pos_of_lt → nc, add_assoc → nL, min_eq_right → oa, succ_ne_zero → oh, zero_add → pz, lt_or_ge → pC, mul_le_mul_right → qT, sub_le → sM, add_right_comm → sN, beq → tQ, lt_of_succ_lt → tR, sub_sub_self → vU, mod_eq_of_lt → vV, succ_lt_succ → v3, one_mul → wi, le_total → Cc, le_of_succ_le_succ → Ce, sub_eq_zero_of_le → Dv, le_sub_of_add_le' → Dw, sub_ne_zero_of_lt → Dx, sub_lt_sub_left → Fo, sub_le_sub_left → Fp, add_sub_cancel' → Fz, not_lt → Jf, div_eq_of_lt → L5, pred_le_pred → L6, mul_add_mod → Nq, mul_add_div → Nr, le_antisymm → Nv
open Nat.succ renaming inj → q9
open Ne renaming symm → gS
open Option renaming map_eq_some_iff → bB, isSome_map → dg, map → ke, not_isSome_iff_eq_none → kB, isNone_iff_eq_none → md, map_some → oj, elim_some → tE, map_map → wc, isNone_eq_false_iff → wj, isSome_iff_exists → xt, bind_some → Fv, getD_some → Fx, elim_none → Fy
open Option.some renaming inj → ae
open Prod renaming ext → gH
open PyProof renaming noPylong_small → yI
open PyProof.Rows renaming IsTup → dn, slot_tuple_getitem → nM, IntsAre → oC, Subscript_ → QM
open PySem renaming Value → ai, wpAny_bind → ak, wpAny_mono → au, Addr → aD, Shared → aH, wpAny_pure → aQ, Around → aU, NameKind → bc, wpAny → bj, Str → bu, Heap → cb, wpAny_holding → cu, sizeLine_eq → cw, Env → dH, starEach → dR, DictEntry → ej, mainGlobals → eo, Stmt → eF, FuncData → eJ, wpAny_newObj_type → eL, binaryOp → fb, sysModules → gh, eval → gr, wpAny_loadPart_at → gz, foldedSetIterable → gA, relabel → gB, wpAny_is_plain → g0, wpAny_field → g9, intKind → ia, rawInt → ib, codeAny → ic, Pos → ij, importedModules → iz, wpAny_standAt → iB, assignInOrder → iC, assign → iL, World → iN, wpAny_truthy_bool → iO, swappedStores → jO, compEnvC → jP, wpAny_execs_nil → jR, treeTable → kc, model → kg, getMethod → kh, recursionLimit → kG, swapsWith → lD, holding → lG, behindInMarks → lH, callWith → lS, backTo → mA, letOwnedTupleGo → mB, CmpOp → mC, wpAny_isSubtype_exc → mD, Program → mX, OsState → mY, intKind_is → nN, sizeLine → nO, cameBackBy → nP, Scope → nQ, Obj → ou, slot_list_getitem → oA, wpAny_getItem_list_slice → pD, GenState → p8, storeName → p9, cellsFrom → qa, wpAny_callSpecial?_slot → qb, wpAny_call_entry → qc, wpAny_execs_cons → qd, codeAny_mono → qU, standAt → qV, assignEach → qW, wpAny_ite_split → qZ, Sem → rU, wpAny_loadName_local → sO, Result → sP, keywordEach → sQ, wpAny_loadPart → sR, excClassObj → sS, strIterType → sU, noteFrame → tA, notedBy → tC, Params → vQ, wpAny_pyIter_tuple → vY, BindsTo → wM, concat_meets → wN, plainObj_wpAny_Assign_Attribute → xv, wpAny_comp_letGo → yK, noFill_tuple_add → yL, Flow → AD, wpAny_updateSeq → AG, wpAny_loadPart' → AH, valueAt → AR, Keyword → AX, Drawn → Ch, wpAny_Name → Ci, Operator → Cj, wpAny_newFunctionEnv_cells → Ck, backToKw → Cm, closureFor → Co, newFunctionEnv → Cp, wpAny_rule → Cq, comprehension → E0, seq_tuple_add → E1, plainId_quiet → E2, attributeBase → E3, Arguments → Fi, Model → Ft, bootBuiltins → I9, wpAny_noteFrame_againW → Jc, aRefKeyMayBeTheName_at → Jg, IsPart → Ji, call_meetsIn → Jj, pyIter → Jl, wpAny_typeOf → Jm, wpAny_storeName_local → JE, codeAny_call_function → JF, cLine → L7, interactive → Mc, wpAny_newFunctionEnv → Me, wpAny_throw → Mf, codeAny_forLoop_any → Ny, builtinsNs → QE, wpAny_Constant_int → QG, wpAny_call → QH, clipAt → QK, typeLookup → QL, call_meets → QN, wpAny_Return_some → Rj, bindL → Rl, getItem → Rm, wpAny_sequenceKey → Rn, slot_list_setitem → Ro, getMethod_builtin → Rp, wpAny_pyIter_list → Rt, wpAny_assign_Name → Ru, Const → Rw
open PySem.Around renaming under_plainId → AW
open PySem.BindsTo renaming of_defaults → AZ
open PySem.Builtin.Int renaming intBits → fc
open PySem.Builtin.List renaming listExtendWith → fj, listLengthHint → rS, listSameRef → tD, listItems → uq
open PySem.Builtin.ObjectAttr renaming storeInDict → JG, newKeyGuard → JH
open PySem.Builtin.Range renaming rangeSize → cS, small → wg
open PySem.Builtin.Slice renaming sliceAdjust → d7, sliceApplied → rR, slicePlaces → rV
open PySem.Builtin.SmallTypes renaming nextOf → qe
open PySem.Builtin.Tuple renaming tupleExact → ie
open PySem.Calls renaming Name_function_global → lQ, loadGlobal_global → wL, spliced_nil → L9
open PySem.Code renaming quiet_builtin → Fw
open PySem.Env renaming kindOf → yJ
open PySem.F renaming slot_tuple_iterator_next → AI, plain_list_iadd → NA, entry_dict_get → QO, slot_dict_get → Rq, slot_int_rmul → Rv
open PySem.Heap renaming get?_push_of_some → aT, get?_push_size → aX, lt_size → bU, get?_update_other → cO, get?_update_self → dw, SameBut → dy, get?_none_of_le → gk, size_push → gK
open PySem.Heap.IsSliceOf renaming new → we
open PySem.Heap.SameBut renaming update → j7
open PySem.IsRange renaming new → AE
open PySem.Obj renaming mapSeq → ez, putName → jK, data_mapFields → Jd, mapFields → Rk
open PySem.PyData renaming keyHash → cY
open PySem.Str renaming ofString → fa
open PySem.Value renaming isInt_shape → sV
open PySem.Value.bytes renaming inj → AU
open PySem.W renaming hideAll_none → fS, Frag → gg, boot_heap → jj, typeIs_bytes → kH, hideAll → lF, emptyDict → nh, behindTheImports → p6, findIn → qQ, boot_drawn → qR, boot_toks → tx, instObj → tB, SharedT → wH, openSeen → wI, callWith_of → yT, topFrame → B9, openGood → Ca, nsIn → EX, look_both → FD, looks_findIn → Jk, plainGet → L4, plainGet_of → Ma, looks_clsIn → Mb, keepIn → QD, putL → QJ, takerIn → Rg
open PySem.W.FB renaming slot_bytes_getitem → qr
open PySem.W.KBw renaming pyIter_bytes → vW, walks → Md, IsBytesIter → Nz
open PySem.W.Looks renaming of_pure → Nx
open PySem.W.OpenLaw renaming wellSaid → E5
open UInt8 renaming toNat_inj → JI
section
theorem nS {α:Type}{x:α}{P:Prop}(h:none=some x):P:=nomatch h
noncomputable def iq {α:Type}(o:Option α) (d:Bool) (P:α→Bool):Bool:=match o with
 |none=>d
 |some x=>P x
end
section
open PySem PySem.W PySem.Calls PyProof.Rows
inductive AV where
 |none
 |bool (b:Bool)
 |int (i:Int)
 |str (s:bu)
 |d8 (b:List UInt8)
 |fix (v:ai)
 |tup (vs:List AV)
 |obj (n:Nat)
 |iR (kvs:List (Int×AV))
end
section
open PySem PySem.W PySem.Calls PyProof.Rows
noncomputable def refOf:ai→Option aD
 |.ref a=>some a
 |_=>none
noncomputable abbrev IC:List ai:=[.type "ValueError",.type "Exception",.type "BaseException",.type "object"]
noncomputable def nI:List ai→Bool
 |[]=>false
 |v::r=>bif (refOf v).isSome then nI r else v::r==IC
noncomputable def Bg (K:gg) (C:aD):Bool:=(clsIn K C).any fun cd=>nI cd.mro
end
section
open PySem PySem.W PySem.Calls PyProof.Rows
set_option backward.match.sparseCases false
noncomputable def jn {α β:Type}(o:Option α) (f:α→Option β):Option β:=match o with
 |none=>none
 |some x=>f x
end
section
open PySem PySem.W PySem.Calls PyProof.Rows
noncomputable def iI:Option eF→List eF
 |some (.FunctionDef _ _ b _ _ _ _ _ _ _)=>b
 |some (.ClassDef _ _ _ b _ _ _ _ _ _ _)=>b
 |_=>[]
noncomputable def namesOf:Option eF→List (bu×bc)
 |some (.FunctionDef _ _ _ _ _ _ sc _ _ _)=>sc.names
 |_=>[]
noncomputable abbrev rp:mX:=PySem.Challenge.rw_rg0159_01.row.toRowW.prog
noncomputable def df (i:Nat):Option eF:=rp.main.body[i]?
noncomputable def mf (i j:Nat):Option eF:=(iI (df i))[j]?
noncomputable abbrev LI:AV:=.iR [(65,.int 5),(97,.int (-3)),(200,.int 70000)]
noncomputable abbrev xD:AV:=.iR [(66,.int 9),(98,.int 0),(255,.int 1073741823)]
noncomputable def Za:List (String×AV):=[("SET_1",.int 128),("SET_RULE",.int 132),("PUT_1",.int 133),("PUT_RULE",.int 137),("NO_OPERATION",.int 138),("PAGE_BEGIN",.int 139),("PAGE_END",.int 140),("PUSH",.int 141),("POP",.int 142),("RIGHT_1",.int 143),("DOWN_1",.int 157),("FONT_0",.int 171),("FONT_1",.int 235),("SPECIAL_1",.int 239),("FONT_DEF_1",.int 243),("PREAMBLE",.int 247),("POSTAMBLE",.int 248),("POST_POST",.int 249),("FILLING",.int 223),("IDENTITY",.int 2),("BadArgument",.fix (.ref 64)),("BadFont",.fix (.ref 76)),("BadDevice",.fix (.ref 88)),("MAX_DIMEN",.int 1073741823),("MAX_NUMBER",.int 2147483647),("is_whole",.fix (.ref 97)),("EDGE",.int 256),("MOST_FONTS",.int 255),("MOST_PARAMS",.int 64),("MOST_SIZE",.int 134217727),("PLAIN_SORT",.int 0),("PROGRAM_SORT",.int 1),("LARGER_SORT",.int 2),("PIECES_SORT",.int 3),("STOP_SKIP",.int 128),("KERN_OP",.int 128),("LEAD",.int 255),("is_size",.fix (.ref 114)),("check_sizes",.fix (.ref 121)),("check_chars",.fix (.ref 135)),("check_larger",.fix (.ref 142)),("check_program",.fix (.ref 149)),("left_start",.fix (.ref 156)),("Font",.fix (.ref 246)),("font_name",.fix (.ref 257)),("font_of_rows",.fix (.ref 267)),("CHAR_ROW",.int 0),("RULE_ROW",.int 1),("SPECIAL_ROW",.int 2),("OctetStream",.fix (.ref 309)),("PageState",.fix (.ref 351)),("Device",.fix (.ref 372)),("read_units",.fix (.ref 383)),("read_font",.fix (.ref 388)),("is_font_definition",.fix (.ref 395)),("read_move",.fix (.ref 402)),("read_letter",.fix (.ref 409)),("read_rule",.fix (.ref 416)),("choose_font",.fix (.ref 423)),("add_font",.fix (.ref 430)),("page_step",.fix (.ref 437)),("read_page",.fix (.ref 442)),("read_post_fonts",.fix (.ref 449)),("read_postamble",.fix (.ref 454)),("read_file",.fix (.ref 461)),("_law_box",.fix (.ref 469)),("_law_take",.fix (.ref 476)),("_law_put",.fix (.ref 481)),("_law_font_put",.fix (.ref 486)),("_law_choice",.fix (.ref 493)),("_law_letter",.fix (.ref 500)),("_law_move",.fix (.ref 507)),("_law_command",.fix (.ref 512)),("_law_page",.fix (.ref 519)),("_law_between",.fix (.ref 526)),("_law_built",.fix (.ref 531)),("_law_spoilt",.fix (.ref 538)),("_law_whole",.fix (.ref 545)),("_law_signed",.fix (.ref 552)),("_law_lengths",.fix (.ref 559)),("_law_cut",.fix (.ref 566)),("_law_font",.fix (.ref 571)),("_law_gone",.fix (.ref 578)),("_law_drawn",.fix (.ref 585)),("_law_rows",.fix (.ref 592)),("_law_known",.fix (.ref 599)),("_law_three",.fix (.ref 604)),("_law_end",.fix (.ref 611)),("_law_file",.fix (.ref 616)),("_law_told",.fix (.ref 621)),("law",.fix (.ref 626)),("abs",.fix (.builtin "abs")),("len",.fix (.builtin "len")),("sum",.fix (.builtin "sum")),("max",.fix (.builtin "max")),("min",.fix (.builtin "min")),("sorted",.fix (.builtin "sorted")),("isinstance",.fix (.builtin "isinstance")),("ord",.fix (.builtin "ord")),("int",.fix (.type "int")),("bool",.fix (.type "bool")),("str",.fix (.type "str")),("tuple",.fix (.type "tuple")),("list",.fix (.type "list")),("dict",.fix (.type "dict")),("bytes",.fix (.type "bytes")),("range",.fix (.type "range")),("enumerate",.fix (.type "enumerate")),("LETTERS",.str "abcdefghjklmnopqrstuvwxyz"),("NO_CHARACTER",.tup [.int 0,.int 0,.int 0,.int 0,.int 0,.int 0]),("SMALL_PARAMS",.tup [.int 0,.int 196608,.int 98304,.int 65536,.int 262144,.int 655360,.int 65536]),("_law_widths",.iR [(3,LI),(200,xD)])]
noncomputable def FT:List (aD×List bu):=[(246,["number","name","size","design","check","params","chars","program","kerns","boundary","edge_start","hyphen_char","skew_char"]),(309,["octets","at"]),(351,["h","v","w","x","y","z","font","stack","deepest","rows"]),(372,["units","comment","pages","fonts","tallest","widest","deepest"])]
noncomputable def MT:List (aD×List (bu×aD)):=[(246,[("has",180),("width",187)]),(309,[("number",292),("signed",299),("taken",306)]),(351,[("push",334),("pop",341),("go",348)])]
noncomputable def MK:List (aD×aD):=[(246,173),(309,285),(351,327),(372,369)]
noncomputable def FN:List (aD×Option eF×List Nat):=[(173,mf 30 0,[25,27,97,101,29,21,26,92,28,38,39,40,41,103,104,102,42]),(180,mf 30 1,[]),(187,mf 30 2,[109]),(285,mf 35 0,[97,105,20]),(292,mf 35 1,[92,22,106]),(299,mf 35 2,[]),(306,mf 35 3,[92,22]),(327,mf 36 0,[]),(334,mf 36 1,[94,92]),(341,mf 36 2,[92,22]),(348,mf 36 3,[91,24,22]),(369,mf 37 0,[]),(97,df 12,[97,99,100]),(114,df 23,[25,23]),(121,df 24,[37,21]),(135,df 26,[25,97,102,92,21,38,30,33,31]),(142,df 27,[32,92,21]),(149,df 28,[92,107,97,102,21,25,34,35]),(156,df 29,[92,36]),(257,df 31,[108]),(267,df 32,[25,27,21,92,102,43,44]),(383,df 38,[95,22]),(388,df 39,[14,29,22,103,98]),(395,df 40,[14]),(402,df 41,[]),(409,df 42,[22,46]),(416,df 43,[47]),(423,df 44,[22]),(430,df 45,[53,22]),(437,df 46,[0,56,1,57,3,2,4,7,8,9,10,55,11,12,58,13,14,48,54,59,22]),(442,df 47,[102,106,22,50,6,60,92]),(449,df 48,[17,54,53,22,4,92]),(454,df 49,[22,52,92,62,19,18]),(461,df 50,[49,15,19,22,52,51,16,5,61,102,94,54,59,4,63]),(469,df 53,[92,91,99,93]),(476,df 54,[]),(481,df 55,[106]),(486,df 56,[67,92,98]),(493,df 57,[68,67]),(500,df 58,[96,111,67]),(507,df 59,[]),(512,df 60,[66,70,69,67,94,71,106]),(519,df 61,[67,66,106,72]),(526,df 62,[68]),(531,df 63,[65,67,66,106,92,74,73,68]),(538,df 64,[66,92]),(545,df 65,[]),(552,df 66,[77,92]),(559,df 67,[]),(566,df 68,[79,92,77,93]),(571,df 69,[77,103,98]),(578,df 70,[92,78]),(585,df 71,[78,95,77,111]),(592,df 72,[92,83,103,94,82,77,85,91]),(599,df 73,[81]),(604,df 74,[102,106,78]),(611,df 75,[81,92,77,96,105]),(616,df 76,[80,95,86,78,84,102,106,94,85,87,77,92,96]),(621,df 77,[64,22,96]),(626,df 78,[96,111,45,105,76,65,75,89,88])]
end
section
open PySem PySem.W PySem.Calls PyProof.Rows
noncomputable abbrev Au:AV:=.tup [.int 0,.int 196608,.int 98304,.int 65536,.int 262144,.int 655360,.int 65536]
end
section
open PySem PySem.W PySem.Calls PyProof.Rows
theorem Bp {a:aD}{o:ou}{K:gg}:K.lookup a=some o→(a,o)∈K:=by
 induction K with
 |nil=>exact nS
 |cons p r ih=>
  intro e
  replace e:(match a==p.1 with | true=>some p.2 | false=>r.lookup a)=some o:=e
  cases q:a==p.1 with
  |true=>rw[q] at e;replace e:=ae e;subst e;rw[beq_iff_eq.mp q];exact aI
  |false=>rw[q] at e;exact aG _ (ih e)
noncomputable def vInt:ai→Option Int
 |.int j _=>some j
 |_=>none
noncomputable def vStr:ai→Option bu
 |.str j _=>some j
 |_=>none
noncomputable def Ov:ai→Option aD
 |.ref a=>some a
 |_=>none
noncomputable def vTy:ai→Option String
 |.type T=>some T
 |_=>none
noncomputable def OG:Data→Option (Array ai)
 |.seq xs _=>some xs
 |_=>none
noncomputable def ME:Data→Option (Array ej)
 |.dict es _=>some es
 |_=>none
noncomputable def G8 (K:gg) (v:ai) (T:String):Option ou:=jn (Ov v) fun a=>jn (K.lookup a) fun o=>bif vTy o.cls==some T then some o else none
noncomputable def HP (K:gg) (v:ai):Option (Array ai):=jn (G8 K v "tuple") fun o=>OG o.data
noncomputable def dictAt (K:gg) (v:ai):Option (Array ej):=jn (G8 K v "dict") fun o=>bif !(v==.ref gh)&&(o.dict.isNone&&o.slots.size==0) then ME o.data else none
mutual
noncomputable def B2 (K:gg):AV→ai→Bool
 |.int i,v=>vInt v==some i
 |.str s,v=>vStr v==some s
 |.fix x,v=>v==x
 |.tup vs,v=>iq (HP K v) false fun l=>w0 K vs l.toList
 |.iR kvs,v=>iq (dictAt K v) false fun l=>HO K kvs l.toList&&decide ((kvs.map (·.1)).Nodup)
 |_,_=>false
noncomputable def w0 (K:gg):List AV→List ai→Bool
 |[],l=>l.isEmpty
 |x::xs,l=>iq l.head? false fun v=>B2 K x v&&w0 K xs l.tail
noncomputable def HO (K:gg):List (Int×AV)→List ej→Bool
 |[],l=>l.isEmpty
 |(k,x)::xs,l=>iq l.head? false fun e=>(vInt e.key==some k)&&(decide (e.hash=hashInt k)&&(B2 K x e.val&&HO K xs l.tail))
end
noncomputable def UY:ai→Bool
 |.builtin _=>true
 |.type _=>true
 |_=>false
noncomputable def FQ:AV→Option ai
 |.fix v=>some v
 |_=>none
noncomputable def VH (K:gg) (x:bu) (a:AV):Bool:=iq (EX K eo x) false fun r=>iq r
 (iq (FQ a) false fun v=>(I9 x==some v)&&(UY v&&!(x=="__name__")))
 fun v=>B2 K a v&&iq (FQ a) true (QD K)
noncomputable def R9 (K:gg) (over:Bool) (C:aD) (x:bu):Bool:=(qQ K (.ref C) "__setattr__"==some (some (.builtin "object.__setattr__")))&&(over&&((Rg K C x==some none)&&(clsIn K C).any (·.hasDict)))
noncomputable def ftB (K:gg) (C:aD) (x:bu):Bool:=L4 K C x&&(hasDictIn K C&&(iq (qQ K (.ref C) x) false (noGet K)&&R9 K (plainOver K C) C x))
noncomputable def mtB (K:gg) (C:aD) (x:bu) (f:aD):Bool:=L4 K C x&&((qQ K (.ref C) x==some (some (.ref f)))&&(isFn K (.ref f)&&QD K (.ref f)))
noncomputable def mkB (K:gg) (p:aD×aD):Bool:=makesIn K p.1&&((qQ K (.ref p.1) "__init__"==some (some (.ref p.2)))&&(typeIn K (.ref p.2)==some (.type "function")))
structure lZ where
 body:FuncBody
 params:Fi
 names:List (bu×bc)
 ok:Bool
noncomputable def Hk:Data→Option eJ
 |.func fd=>some fd
 |_=>none
noncomputable def Nl:ScopeKind→Bool
 |.function=>true
 |_=>false
noncomputable def Ut (K:gg) (v:ai):Bool:=v==.none||iq (Ov v) false fun T=>iq (K.lookup T) false fun o=>(OG o.data).isSome
noncomputable def GA (K:gg) (fd:eJ):Bool:=fd.closure.isEmpty&&(tQ fd.globals eo&&(tQ fd.builtins QE&&(!fd.scope.isCoroutine&&(!fd.scope.isGenerator&&(Nl fd.scope.kind&&(codeIn K fd.code fd.qualname&&Ut K fd.defaults))))))
noncomputable def pG (K:gg) (f:aD):Option lZ:=jn (K.lookup f) fun o=>jn (Hk o.data) fun fd=>some ⟨fd.body,fd.params,fd.scope.names,GA K fd⟩
noncomputable def qD:Option eF→Fi
 |some (.FunctionDef _ p _ _ _ _ _ _ _ _)=>p
 |_=>⟨[],[],none,[],[],none,[]⟩
noncomputable def pE (s:Option eF):Option lZ:=some ⟨.stmts (iI s),qD s,namesOf s,true⟩
end
section
open PySem PySem.W PySem.Calls PyProof.Rows
structure s6 where
 defs:List (Option lZ)
 init:Option lZ
 bd:Option ou
 ok:Bool
noncomputable def Sg (K:gg):Bool:=iq (K.lookup 267) false fun o=>iq (Hk o.data) false fun fd=>iq (HP K fd.defaults) false fun l=>w0 K [Au,.tup [],.tup [],.int 256] l.toList
noncomputable def rsB (K:gg):Bool:=(qQ K (.ref 88) "__init__"==some (some (.ref 48)))&&((typeIn K (.ref 48)==some (.type "function"))&&(R9 K (Bg K 88) 88 "reason"&&(QD K (.ref 88)&&(EX K eo "BadDevice"==some (some (.ref 88))))))
noncomputable def YN (K:gg):Bool:=Za.all (fun p=>VH K (fa p.1) p.2)&&(FT.all (fun e=>e.2.all fun x=>ftB K e.1 x)&&(MT.all (fun e=>e.2.all fun p=>mtB K e.1 p.1 p.2)&&(MK.all (mkB K)&&(rsB K&&Sg K))))
noncomputable def rq (K:gg):s6:=⟨FN.map (fun e=>pG K e.1),pG K 48,K.lookup 88,YN K⟩
noncomputable def bdO:ou:={ cls:=.type "type",data:=.cls { name:="BadDevice",bases:=[.ref 51],mro:=[.ref 88,.ref 51,.type "ValueError",.type "Exception",.type "BaseException",.type "object"],ns:=87,qualname:="BadDevice" },slots:=#[some (.ref 79),none,some (.str "BadDevice" 296),some (.str "BadDevice" 304),some (.builtin "ValueError.__new__"),some (.bool true)] }
noncomputable def rl:s6:=⟨FN.map (fun e=>pE e.2.1),pE (mf 5 0),some bdO,true⟩
end
section
open PySem PySem.W PySem.Calls PyProof.Rows
noncomputable def Hi:dH:={ scope:=rp.main.scope,locals:=mainNs,globals:=mainNs,cells:=[],code:=ai.ref 13,frame:=some 14 }
noncomputable def p0:ij:=⟨0,0,0,0⟩
noncomputable abbrev cE:Code:=Code.body (p6 rp) Hi
noncomputable abbrev an:Option ai:=some (.ref 6)
noncomputable def XW (P:vQ):ou:={ cls:=.type "tuple",data:=.seq #[] }
noncomputable def q12 (P:vQ):ou:={ cls:=.none,data:=.fields #[] }
noncomputable def ZW (P:vQ):ou:={ cls:=.type "code",data:=.fields #[.str "<module>" 182,.str "<module>" 183,.str "/claim/cut.py" 184,.int 1 0,.int 0 0,.int 0 0,.int 0 0,.int 0 0,.ref 11,.bool false,
 .int 181 0,.ref 12,.none,.none,.none,.none,.int 185 0,.int 1 0,.str "/claim/cut.py" 186] }
noncomputable def Wk (P:vQ):ou:={ cls:=.type "frame",slots:=#[some (.ref 13),some (.ref 3),some (.ref 3),none,some (.str "__main__" 164),none,some (.ref 0)] }
noncomputable def Ha (P:vQ):cb:={ objs:=#[boot_o_0 P,boot_o_1 P,boot_o_2 P,boot_o_3 P,boot_o_4 P,boot_o_5 P,boot_o_6 P,boot_o_7 P,boot_o_8 P,boot_o_9 P,boot_o_10 P,XW P,q12 P,ZW P,Wk P] }
noncomputable def Tb (P:vQ):BT:=.node (boot_o_0 P)
  (.node (boot_o_1 P) (.node (boot_o_3 P) (.node (boot_o_7 P) .nil .nil) (.node (XW P) .nil .nil)) (.node (boot_o_5 P) (.node (boot_o_9 P) .nil .nil) (.node (ZW P) .nil .nil)))
  (.node (boot_o_2 P) (.node (boot_o_4 P) (.node (boot_o_8 P) .nil .nil) (.node (q12 P) .nil .nil)) (.node (boot_o_6 P) (.node (boot_o_10 P) .nil .nil) (.node (Wk P) .nil .nil)))
theorem KR (w:iN):(fun os=>topGo kc rp w 11 an 12 ⟨jj w.params,#[],qR,tx,os⟩ (topStub rp))=fun os=>some (⟨Ha w.params,#[],{},187,os⟩,⟨denote kc cE,cE,p0,[B9 p0]⟩):=by kernel_rfl
theorem Ep (w:iN):(fun os=>segRun kc rp w 11 an 1 1 ⟨Ha w.params,#[],{},187,os⟩ (blockOf (p6 rp) Hi cE p0 [B9 p0])) =
  fun os=>some (.next,wH.abs ⟨Tb w.params,15,{},#[],{},187,os⟩,cE,p0):=by kernel_rfl
noncomputable def zY (x:String) (n:Nat):ai:=.str (.ofString x) n
noncomputable def zE (P:vQ) (x:String) (n:Nat) (v:ai):ej:={ hash:=cY P (.ofString x),key:=zY x n,val:=v }
noncomputable def zF (x:String) (l:List ai):ou:={ cls:=.type x,data:=.fields ⟨l⟩ }
noncomputable def zS (x:String) (l:List ai):ou:={ cls:=.type x,data:=.seq ⟨l⟩ }
noncomputable def zN (l:List ai):ou:={ cls:=.none,data:=.fields ⟨l⟩ }
noncomputable def zL (x:String) (l:List (Option ai)):ou:={ cls:=.type x,slots:=⟨l⟩ }
noncomputable def zD (l:List ej) (n:Nat):ou:={ cls:=.type "dict",data:=.dict ⟨l⟩ n }
noncomputable def zt:ou:=zS "tuple" []
noncomputable def MV:ou:=zF "builtin_function_or_method" [.builtin "type.__prepare__",.type "type"]
noncomputable def Xw:List bu→Nat→List ai
 |[],_=>[]
 |x::r,t=>.str x t::Xw r (t+1)
noncomputable def Wa:List Int→Nat→List ai
 |[],_=>[]
 |x::r,t=>.int x t::Wa r (t+1)
noncomputable def VK (l:List String) (t:Nat):ou:=zS "tuple" (Xw (l.map .ofString) t)
noncomputable def SM (l:List (Int×Nat)):ou:=zN (l.flatMap fun p=>[.int p.1 0,.int 4 0,.ref p.2])
noncomputable def Vx:String:="/claim/cut.py"
noncomputable def Q5 (l:List Int) (t a:Nat):List ou:=[zS "tuple" (Wa l t),zF "tuple_iterator" [.none,.int l.length 0],zt,zF "StopIteration" [.ref a,.none,.none,.none,.bool false,.none]]
noncomputable def Vz (x:String) (i t u:Nat):ou:={ cls:=.type "type",data:=.cls { name:=.ofString x,bases:=[.type "object"],mro:=[.ref i,.type "object"],ns:=i-1,qualname:=.ofString x },slots:=#[none,none,some (zY x t),some (zY x u),some (.builtin "object.__new__"),some (.bool true)] }
noncomputable def ZL (x:String) (i t u:Nat):ou:={ cls:=.type "type",data:=.cls { name:=.ofString x,bases:=[.ref 51],mro:=[.ref i,.ref 51,.type "ValueError",.type "Exception",.type "BaseException",.type "object"],ns:=i-1,qualname:=.ofString x },slots:=#[some (.ref (i-9)),none,some (zY x t),some (zY x u),some (.builtin "ValueError.__new__"),some (.bool true)] }
noncomputable def Nb (x:String) (t a:Nat) (n:Int):ou:=zF "code" [zY x t,zY x (t+1),zY Vx (t+2),.int n 0,.int 0 0,.int 0 0,.int 0 0,.int 0 0,.ref a,.bool false,.int 181 0,.ref (a+1),.none,.none,.none,.none,.int (t+3:Nat) 0,.int n 0,zY Vx (t+4)]
noncomputable def MC (a b:Nat) (m:ai):ou:=zL "frame" [some (.ref a),some (.ref 3),some (.ref b),none,some m,none,some (.ref 0)]
noncomputable def MX (a:Nat):List ou:=[zF "super" [.ref a,.ref a,.ref a],zF "builtin_function_or_method" [.builtin "object.__init_subclass__",.ref a]]
noncomputable def VI (t a:Nat):List ou:=[zF "getset_descriptor" [zY "__dict__" t,.ref a,.builtin "function.__dict__",.builtin "function.__dict__#set"],zF "getset_descriptor" [zY "__weakref__" (t+2),.ref a,.builtin "ExceptionGroup.__weakref__",.none]]
noncomputable def XE:bc→Bool
 |.local=>true
 |_=>false
noncomputable def qk (s:Option eF) (q:String) (m:ai) (a t:Nat) (df:ai:=.none):List ou:=match s with
 |some (.FunctionDef nm ar bd _ _ _ sc _ _ ps)=>
  [zt,zN [],zS "tuple" (Xw ((sc.names.filter fun p=>XE p.2).map (·.1)) (t+3)),zt,{ cls:=.none,data:=.func ⟨nm,.ofString q,ar,.stmts bd,sc,0,[],.none,.none,.none,.none,none,.none,.none,0⟩ },
   zF "code" [.str nm t,zY q (t+1),zY Vx (t+2),.int ps.line 0,.int ar.args.length 0,.int 0 0,.int 0 0,.int 3 0,.ref a,.bool true,.int 181 0,.ref (a+1),.none,.ref (a+2),.ref (a+3),.ref (a+4),
    .int (t+3+(sc.names.filter fun p=>XE p.2).length:Nat) 0,.int ps.line 0,zY Vx (t+4+(sc.names.filter fun p=>XE p.2).length)],
   { cls:=.type "function",data:=.func ⟨nm,.ofString q,ar,.stmts bd,sc,3,[],df,.none,.none,m,none,.ref (a+5),.none,0⟩ }]
 |_=>[]
noncomputable def zm0:ai:=zY "__main__" 164
noncomputable def Ew:ai:=zY "gluepage.errors" 234
noncomputable def zm2:ai:=zY "gluepage.scaled" 312
noncomputable def vH:ai:=zY "gluepage.fonts" 335
noncomputable def yb:ai:=zY "gluepage.dviread" 610
noncomputable def os1 (P:vQ):List ou:=
 let E:=zE P
 List.flatten [[boot_o_0 P,boot_o_1 P,boot_o_2 P,zD [E "__name__" 165 (yb),E "__doc__" 166 (.none),E "__package__" 167 (.none),E "__loader__" 168 (.builtin "__main__.__loader__#opaque"),E "__spec__" 169 (.none),E "__annotations__" 170 (.ref 6),E "__builtins__" 171 (.ref 4),E "__file__" 173 (zY "/claim/cut.py" 172),E "__cached__" 174 (.none),E "_wall" 193 (.ref 21),E "SET_1" 203 (.int 128 194),E "SET_RULE" 204 (.int 132 195),E "PUT_1" 205 (.int 133 196),E "PUT_RULE" 206 (.int 137 197),E "NO_OPERATION" 207 (.int 138 198),E "PAGE_BEGIN" 208 (.int 139 199),E "PAGE_END" 209 (.int 140 200),E "PUSH" 210 (.int 141 201),E "POP" 211 (.int 142 202),E "RIGHT_1" 221 (.int 143 212),E "DOWN_1" 222 (.int 157 213),E "FONT_0" 223 (.int 171 214),E "FONT_1" 224 (.int 235 215),E "SPECIAL_1" 225 (.int 239 216),E "FONT_DEF_1" 226 (.int 243 217),E "PREAMBLE" 227 (.int 247 218),E "POSTAMBLE" 228 (.int 248 219),E "POST_POST" 229 (.int 249 220),E "FILLING" 232 (.int 223 230),E "IDENTITY" 233 (.int 2 231),E "PageError" 263 (.ref 51),E "BadArgument" 279 (.ref 64),E "BadFont" 295 (.ref 76),E "BadDevice" 311 (.ref 88),E "MAX_DIMEN" 319 (.int 1073741823 318),E "MAX_NUMBER" 325 (.int 2147483647 324),E "is_whole" 334 (.ref 97),E "EDGE" 338 (.int 256 337),E "MOST_FONTS" 340 (.int 255 339),E "MOST_PARAMS" 342 (.int 64 341),E "MOST_SIZE" 348 (.int 134217727 347),E "PLAIN_SORT" 353 (.int 0 349),E "PROGRAM_SORT" 354 (.int 1 350),E "LARGER_SORT" 355 (.int 2 351),E "PIECES_SORT" 356 (.int 3 352),E "STOP_SKIP" 360 (.int 128 357),E "KERN_OP" 361 (.int 128 358),E "LEAD" 362 (.int 255 359),E "NO_CHARACTER" 369 (.ref 106),E "LETTERS" 371 (zY "abcdefghjklmnopqrstuvwxyz" 370),E "SMALL_PARAMS" 379 (.ref 107),E "is_size" 386 (.ref 114),E "check_sizes" 394 (.ref 121),E "check_pieces" 404 (.ref 128),E "check_chars" 416 (.ref 135),E "check_larger" 426 (.ref 142),E "check_program" 444 (.ref 149),E "left_start" 455 (.ref 156),E "Font" 586 (.ref 246),E "font_name" 595 (.ref 257),E "font_of_rows" 609 (.ref 267),E "CHAR_ROW" 615 (.int 0 612),E "RULE_ROW" 616 (.int 1 613),E "SPECIAL_ROW" 617 (.int 2 614),E "OctetStream" 678 (.ref 309),E "PageState" 740 (.ref 351),E "Device" 776 (.ref 372)] 67,boot_o_4 P,boot_o_5 P,boot_o_6 P,boot_o_7 P,boot_o_8 P,boot_o_9 P,boot_o_10 P,XW P,zN [.int 1 0,.int 0 0,.ref 20,.int 8 0,.int 0 0,.ref 39,.int 12 0,.int 0 0,.ref 60,.int 14 0,.int 0 0,.ref 72,.int 16 0,.int 0 0,.ref 84,.int 21 0,.int 0 0,.ref 96,.int 33 0,.int 0 0,.ref 113,.int 35 0,.int 0 0,.ref 120,.int 39 0,.int 0 0,.ref 127,.int 45 0,.int 0 0,.ref 134,.int 57 0,.int 0 0,.ref 141,.int 65 0,.int 0 0,.ref 148,.int 84 0,.int 0 0,.ref 155,.int 89 0,.int 0 0,.ref 162,.int 146 0,.int 0 0,.ref 256,.int 153 0,.int 0 0,.ref 266,.int 164 0,.int 0 0,.ref 277,.int 196 0,.int 0 0,.ref 319,.int 225 0,.int 0 0,.ref 361],ZW P,Wk P],
  qk (df 0) "_wall" zm0 15 187,
  Q5 [128,132,133,137,138,139,140,141,142] 194 24,
  Q5 [143,157,171,235,239,243,247,248,249] 212 28,
  Q5 [223,2] 230 32,
  [zS "tuple" [.type "ValueError"],MV,zD [E "__module__" 243 (Ew),E "__qualname__" 245 (zY "PageError" 244),E "__firstlineno__" 247 (.int 8 246),E "__init__" 256 (.ref 48),E "__static_attributes__" 258 (.ref 49)] 5,zt,SM [(10,47)],Nb "PageError" 238 37 8,MC 39 36 Ew,zS "tuple" [zY "" 248]],
  qk (mf 5 0) "PageError.__init__" Ew 42 249 (.ref 41),
  [zS "tuple" [zY "reason" 257],zD [E "__module__" 243 (Ew),E "__firstlineno__" 247 (.int 8 246),E "__init__" 256 (.ref 48),E "__static_attributes__" 258 (.ref 49),E "__weakref__" 260 (.ref 52),E "__doc__" 261 (.none)] 3,{ cls:=.type "type",data:=Data.cls { name:="PageError",bases:=[.type "ValueError"],mro:=[.ref 51,.type "ValueError",.type "Exception",.type "BaseException",.type "object"],ns:=50,qualname:="PageError",subclasses:=[.ref 64,.ref 76,.ref 88] },slots:=#[some (.ref 34),none,some (zY "PageError" 236),some (zY "PageError" 244),some (.builtin "ValueError.__new__"),some (.bool true)] },zF "getset_descriptor" [zY "__weakref__" 259,.ref 51,.builtin "ExceptionGroup.__weakref__",.none]],
  MX 51,
  [zS "tuple" [.ref 51],MV,zD [E "__module__" 271 (Ew),E "__qualname__" 273 (zY "BadArgument" 272),E "__firstlineno__" 275 (.int 12 274),E "__static_attributes__" 276 (.ref 62)] 4,zt,zN [],Nb "BadArgument" 266 58 12,MC 60 57 Ew,zt,zD [E "__module__" 271 (Ew),E "__firstlineno__" 275 (.int 12 274),E "__static_attributes__" 276 (.ref 62),E "__doc__" 277 (.none)] 2,ZL "BadArgument" 64 264 272],
  MX 64,
  [zS "tuple" [.ref 51],MV,zD [E "__module__" 287 (Ew),E "__qualname__" 289 (zY "BadFont" 288),E "__firstlineno__" 291 (.int 14 290),E "__static_attributes__" 292 (.ref 74)] 4,zt,zN [],Nb "BadFont" 282 70 14,MC 72 69 Ew,zt,zD [E "__module__" 287 (Ew),E "__firstlineno__" 291 (.int 14 290),E "__static_attributes__" 292 (.ref 74),E "__doc__" 293 (.none)] 2,ZL "BadFont" 76 280 288],
  MX 76,
  [zS "tuple" [.ref 51],MV,zD [E "__module__" 303 (Ew),E "__qualname__" 305 (zY "BadDevice" 304),E "__firstlineno__" 307 (.int 16 306),E "__static_attributes__" 308 (.ref 86)] 4,zt,zN [],Nb "BadDevice" 298 82 16,MC 84 81 Ew,zt,zD [E "__module__" 303 (Ew),E "__firstlineno__" 307 (.int 16 306),E "__static_attributes__" 308 (.ref 86),E "__doc__" 309 (.none)] 2,ZL "BadDevice" 88 296 304],
  MX 88,
  qk (df 12) "is_whole" zm2 91 326,
  Q5 [0,1,2,3] 349 100,
  Q5 [128,128,255] 357 104,
  [zS "tuple" (Wa [0,0,0,0,0,0] 363),zS "tuple" (Wa [0,196608,98304,65536,262144,655360,65536] 372)],
  qk (df 23) "is_size" vH 108 380,
  qk (df 24) "check_sizes" vH 115 387,
  qk (df 25) "check_pieces" vH 122 395,
  qk (df 26) "check_chars" vH 129 405,
  qk (df 27) "check_larger" vH 136 417,
  qk (df 28) "check_program" vH 143 427,
  qk (df 29) "left_start" vH 150 445,
  [zt,MV,zD [E "__module__" 463 (vH),E "__qualname__" 465 (zY "Font" 464),E "__firstlineno__" 467 (.int 89 466),E "__init__" 482 (.ref 173),E "has" 490 (.ref 180),E "width" 498 (.ref 187),E "height" 506 (.ref 194),E "depth" 514 (.ref 201),E "italic" 522 (.ref 208),E "starts" 530 (.ref 215),E "larger" 539 (.ref 222),E "pieces" 548 (.ref 229),E "param" 556 (.ref 236),E "set_param" 565 (.ref 243),E "__static_attributes__" 579 (.ref 244)] 15,zt,SM [(91,172),(115,179),(118,186),(121,193),(124,200),(127,207),(130,214),(133,221),(137,228),(141,235),(144,242)],Nb "Font" 458 160 89,MC 162 159 vH,zt,zt,zS "tuple" [.ref 164,.ref 165,.int 256 337]],
  qk (mf 30 0) "Font.__init__" vH 167 468 (.ref 166),
  qk (mf 30 1) "Font.has" vH 174 483,
  qk (mf 30 2) "Font.width" vH 181 491,
  qk (mf 30 3) "Font.height" vH 188 499,
  qk (mf 30 4) "Font.depth" vH 195 507,
  qk (mf 30 5) "Font.italic" vH 202 515,
  qk (mf 30 6) "Font.starts" vH 209 523,
  qk (mf 30 7) "Font.larger" vH 216 531,
  qk (mf 30 8) "Font.pieces" vH 223 540,
  qk (mf 30 9) "Font.param" vH 230 549,
  qk (mf 30 10) "Font.set_param" vH 237 557,
  [VK ["boundary","chars","check","design","edge_start","hyphen_char","kerns","name","number","params","program","size","skew_char"] 566,zD [E "__module__" 463 (vH),E "__firstlineno__" 467 (.int 89 466),E "__init__" 482 (.ref 173),E "has" 490 (.ref 180),E "width" 498 (.ref 187),E "height" 506 (.ref 194),E "depth" 514 (.ref 201),E "italic" 522 (.ref 208),E "starts" 530 (.ref 215),E "larger" 539 (.ref 222),E "pieces" 548 (.ref 229),E "param" 556 (.ref 236),E "set_param" 565 (.ref 243),E "__static_attributes__" 579 (.ref 244),E "__dict__" 581 (.ref 247),E "__weakref__" 583 (.ref 248),E "__doc__" 584 (.none)] 4,Vz "Font" 246 456 464],
  VI 580 246,
  MX 246,
  qk (df 31) "font_name" vH 251 587,
  [zt,zt,zS "tuple" [.ref 107,.ref 258,.ref 259,.int 256 337]],
  qk (df 32) "font_of_rows" vH 261 596 (.ref 260),
  Q5 [0,1,2] 612 270,
  [zt,MV,zD [E "__module__" 625 (yb),E "__qualname__" 627 (zY "OctetStream" 626),E "__firstlineno__" 629 (.int 164 628),E "__init__" 637 (.ref 285),E "number" 648 (.ref 292),E "signed" 658 (.ref 299),E "taken" 668 (.ref 306),E "__static_attributes__" 671 (.ref 307)] 8,zt,SM [(166,284),(172,291),(182,298),(189,305)],Nb "OctetStream" 620 275 164,MC 277 274 yb],
  qk (mf 35 0) "OctetStream.__init__" yb 279 630,
  qk (mf 35 1) "OctetStream.number" yb 286 638,
  qk (mf 35 2) "OctetStream.signed" yb 293 649,
  qk (mf 35 3) "OctetStream.taken" yb 300 659,
  [VK ["at","octets"] 669,zD [E "__module__" 625 (yb),E "__firstlineno__" 629 (.int 164 628),E "__init__" 637 (.ref 285),E "number" 648 (.ref 292),E "signed" 658 (.ref 299),E "taken" 668 (.ref 306),E "__static_attributes__" 671 (.ref 307),E "__dict__" 673 (.ref 310),E "__weakref__" 675 (.ref 311),E "__doc__" 676 (.none)] 4,Vz "OctetStream" 309 618 626],
  VI 672 309,
  MX 309,
  [zt,MV,zD [E "__module__" 686 (yb),E "__qualname__" 688 (zY "PageState" 687),E "__firstlineno__" 690 (.int 196 689),E "__init__" 697 (.ref 327),E "push" 704 (.ref 334),E "pop" 711 (.ref 341),E "go" 722 (.ref 348),E "__static_attributes__" 733 (.ref 349)] 8,zt,SM [(198,326),(210,333),(214,340),(219,347)],Nb "PageState" 681 317 196,MC 319 316 yb],
  qk (mf 36 0) "PageState.__init__" yb 321 691,
  qk (mf 36 1) "PageState.push" yb 328 698,
  qk (mf 36 2) "PageState.pop" yb 335 705,
  qk (mf 36 3) "PageState.go" yb 342 712,
  [VK ["deepest","font","h","rows","stack","v","w","x","y","z"] 723,zD [E "__module__" 686 (yb),E "__firstlineno__" 690 (.int 196 689),E "__init__" 697 (.ref 327),E "push" 704 (.ref 334),E "pop" 711 (.ref 341),E "go" 722 (.ref 348),E "__static_attributes__" 733 (.ref 349),E "__dict__" 735 (.ref 352),E "__weakref__" 737 (.ref 353),E "__doc__" 738 (.none)] 4,Vz "PageState" 351 679 687],
  VI 734 351,
  MX 351,
  [zt,MV,zD [E "__module__" 748 (yb),E "__qualname__" 750 (zY "Device" 749),E "__firstlineno__" 752 (.int 225 751),E "__init__" 761 (.ref 369),E "__static_attributes__" 769 (.ref 370)] 5,zt,SM [(227,368)],Nb "Device" 743 359 225,MC 361 358 yb],
  qk (mf 37 0) "Device.__init__" yb 363 753,
  [VK ["comment","deepest","fonts","pages","tallest","units","widest"] 762,zD [E "__module__" 748 (yb),E "__firstlineno__" 752 (.int 225 751),E "__init__" 761 (.ref 369),E "__static_attributes__" 769 (.ref 370),E "__dict__" 771 (.ref 373),E "__weakref__" 773 (.ref 374),E "__doc__" 774 (.none)] 4,Vz "Device" 372 741 749],
  VI 770 372,
  MX 372]
noncomputable def YT:List ou→List ou
 |x::_::r=>x::YT r
 |r=>r
noncomputable def YY:Nat→List ou→BT
 |n+1,x::r=>.node x (YY n (YT r)) (YY n (YT r.tail))
 |_,_=>.nil
noncomputable def T1 (P:vQ):BT:=YY 10 (os1 P)
noncomputable def p5:ij:=⟨225,0,234,24⟩
noncomputable def JO (w:iN) (os:mY):Option (AD×wH×Code×ij):=
 segRunT kc rp w 11 an 1 3563 ⟨Tb w.params,15,{},#[],{},187,os⟩ (piecesOf ((p6 rp).take 38) Hi cE p0 [B9 p0])
noncomputable def s1 (w:iN) (os:mY):wH:=⟨T1 w.params,377,{},#[],{},777,os⟩
noncomputable def EH (w:iN) (os:mY):Option (AD×wH×Code×ij):=
 segRunT kc rp w 11 an 1 1334 (s1 w os) (piecesOf ((p6 rp).drop 38) Hi cE p5 [B9 p0])
noncomputable def si:AD→Bool
 |.next=>true
 |_=>false
noncomputable def qv:mX:=view rp [78]
noncomputable def lo:List bu:=rp.boundNames.filter fun n=>!(n=="law")
noncomputable def Xt (s:aH):Bool:=xlAt qv [] s&&recOk (RowW.records PySem.Challenge.rw_rg0159_01.row.toRowW) s
noncomputable def w3 (w:iN) (s:aH):Bool:=staticsOk (iz rp.main.body) (jj w.params) s.heap&&namesBound rp s.heap&&gensDone s&&laidKept (jj w.params) s.heap
noncomputable def Tv:List aD:=[3,88,87,51,50,48,47,41,64,76,246,245,309,308,351,350,372,371,106,107,462,463,464,166,258,259,260]++FN.flatMap fun e=>[e.1,e.1-1]
noncomputable def atT (s:wH) (a:aD):Option ou:=match ik a s.n with
 |true=>(match s.tree.get a with
  |some o=>alive o
  |none=>none)
 |false=>none
noncomputable def xo (s:wH) (as:List aD):gg:=as.filterMap fun a=>(atT s a).map fun o=>(a,o)
set_option tactic.hygienic true in
theorem HX (s:wH) (as:List aD):(xo s as).In s.abs.heap:=fun a o e=>by
 obtain⟨i,_,hi⟩:=Fj.mp (Bp e)
 obtain⟨x,hx,q⟩:=bB.mp hi
 cases q
 unfold atT at hx
 split at hx
 ·rename_i hb
  split at hx
  ·rename_i o' ho
   exact(abs_get (aE hb) ho).trans hx
  ·cases hx
 ·cases hx
theorem YO (w:iN) (s:aH) (c:Code) (p:ij):topRun kc rp w 11 an 2 s ⟨doneF .next,c,p,[B9 p0]⟩=some s:=by kernel_rfl
theorem aaf (w:iN):JO (w.withFollow "special-get-raises" false)=fun os=>some (.next,s1 (w.withFollow "special-get-raises" false) os,cE,p5):=by kernel_rfl
theorem X7 (w:iN):JO (w.withFollow "special-get-raises" true)=fun os=>some (.next,s1 (w.withFollow "special-get-raises" true) os,cE,p5):=by kernel_rfl
theorem LX (w:iN):JO w=fun os=>some (.next,s1 w os,cE,p5):=byRow2 "special-get-raises" (P:=fun w=>JO w=fun os=>some (.next,s1 w os,cE,p5)) aaf X7 w
theorem Xf (w:iN):(fun os=>(EH (w.withFollow "special-get-raises" false) os).map fun r=>(si r.1,r.2.2.1,w3 (w.withFollow "special-get-raises" false) r.2.1.abs,wI qv lo (iz rp.main.body) Xt true r.2.1.abs,rq (xo r.2.1 Tv)))=fun _=>some (true,cE,true,Ca qv lo,rl):=by kernel_rfl
theorem Wz (w:iN):(fun os=>(EH (w.withFollow "special-get-raises" true) os).map fun r=>(si r.1,r.2.2.1,w3 (w.withFollow "special-get-raises" true) r.2.1.abs,wI qv lo (iz rp.main.body) Xt true r.2.1.abs,rq (xo r.2.1 Tv)))=fun _=>some (true,cE,true,Ca qv lo,rl):=by kernel_rfl
theorem fin (w:iN):(fun os=>(EH w os).map fun r=>(si r.1,r.2.2.1,w3 w r.2.1.abs,wI qv lo (iz rp.main.body) Xt true r.2.1.abs,rq (xo r.2.1 Tv)))=fun _=>some (true,cE,true,Ca qv lo,rl):=
 byRow2 "special-get-raises" (P:=fun w=>(fun os=>(EH w os).map fun r=>(si r.1,r.2.2.1,w3 w r.2.1.abs,wI qv lo (iz rp.main.body) Xt true r.2.1.abs,rq (xo r.2.1 Tv)))=fun _=>some (true,cE,true,Ca qv lo,rl)) Xf Wz w
theorem Sn (w:iN):((jj w.params).isNs eo&&(Array.mk []:Array p8).size==0,(jj w.params).objs.size,(jj w.params).nsMap eo "__annotations__")=(true,11,an):=by kernel_rfl
theorem Sl:∀w:iN,(fencedOpening kc rp w 6000).map (fun s=>(s.heap,s.gens,s.drawn,s.toks))=some (jj w.params,Array.mk [],qR,tx):=
 boot_open (by kernel_rfl) (by decide) (fun s=>by kernel_rfl)
theorem P9 {w:iN}{os:mY}{r:AD×wH×Code×ij}(h:EH w os=some r) (hn:si r.1=true) (hc:r.2.2.1=cE):topRun kc rp w 11 an 6000 ⟨jj w.params,#[],qR,tx,os⟩ (topStub rp)=some r.2.1.abs:=by
 obtain⟨f,sT,c,pos⟩:=r
 change c=cE at hc
 subst hc
 cases f with
 |next=>
  unfold EH at h
  have k0:=YO w sT.abs cE pos
  have k1:=piece_app (rest:=[]) (segRun_of h) (piece_nil (env:=Hi) k0)
  rw[cK] at k1
  have k3:=piece_app (segRun_of (congrFun (LX w) os)) k1
  rw[List.take_append_drop] at k3
  have k2:=piece_block (congrFun (Ep w) os) k3
  exact topRun_mono (6000-4912) _ _ _ _ (go_top (congrFun (KR w) os) k2)
 |_=>cases hn
noncomputable def Lz (s:aH):Prop:=∃K:gg,K.In s.heap∧rq K=rl
theorem left:LeftO rp qv lo Xt Lz (fun _=>True) 6000:=fun w=>by
 obtain⟨⟨h,gs,d,k,os⟩,e,e'⟩:=bB.mp (Sl w)
 obtain⟨rfl,rfl,rfl,rfl⟩:h=jj w.params∧gs=Array.mk []∧d=qR∧k=tx:=by simpa using e'
 obtain⟨z1,z2,z3⟩:_∧_∧_:=by simpa only[Prod.mk.injEq] using Sn w
 obtain⟨r,r1,r2⟩:=bB.mp (congrFun (fin w) os)
 have l0:=congrArg Prod.fst r2
 have lc:=congrArg (fun x=>x.2.1) r2
 have l1:=congrArg (fun x=>x.2.2.1) r2
 have l2:=congrArg (fun x=>x.2.2.2.1) r2
 have l3:=congrArg (fun x=>x.2.2.2.2) r2
 change r.2.2.1=cE at lc
 change si r.1=true at l0
 change w3 w r.2.1.abs=true at l1
 change wI qv lo (iz rp.main.body) Xt true r.2.1.abs=Ca qv lo at l2
 change rq (xo r.2.1 Tv)=rl at l3
 have t:topFrom kc rp w 6000 ⟨jj w.params,Array.mk [],qR,tx,os⟩=some r.2.1.abs:=by
  unfold topFrom
  dsimp only
  rw[z1,z2,z3,P9 r1 l0 lc]
  show(match w3 w r.2.1.abs with | true=>some r.2.1.abs | false=>none)=_
  rw[l1]
 unfold openEnds
 rw[e]
 show(topFrom kc rp w 6000 ⟨jj w.params,Array.mk [],qR,tx,os⟩).map _=_
 rw[t]
 show some (wI qv lo (iz rp.main.body) Xt true r.2.1.abs,Lz r.2.1.abs)=_
 rw[l2,show Lz r.2.1.abs=True from eq_true ⟨_,HX _ _,l3⟩]
end
section
inductive Tm
 |v (i:Nat) | w (i:Nat) | l (n:Nat) | a (x y:Tm) | s (x y:Tm) | m (k:Nat) (x:Tm) | n (x:Tm) | c (x:Tm)
inductive Fm
 |L (x y:Tm) | T (x y:Tm) | E (x y:Tm) | l (x y:Tm) | t (x y:Tm) | e (x y:Tm) | N (p:Fm) | A (p q:Fm) | O (p q:Fm)
inductive Ct
 |k (ms:List Nat) | o (x y:Ct)
noncomputable def at_ {α:Type}(d:α):List α→Nat→α
 |[],_=>d
 |x::r,i=>match i with
  |0=>x
  |i+1=>at_ d r i
section
variable (xs:List Nat) (ys:List Int)
noncomputable def Tm.f:Tm→Nat
 |.v i=>at_ 0 xs i
 |.l k=>k
 |.a x y=>x.f+y.f
 |.m k x=>k*x.f
 |_=>0
noncomputable def Tm.g:Tm→Int
 |.v i=>(at_ 0 xs i:Nat)
 |.w i=>at_ 0 ys i
 |.l k=>@OfNat.ofNat Int k instOfNat
 |.a x y=>x.g+y.g
 |.s x y=>x.g-y.g
 |.m k x=>@OfNat.ofNat Int k instOfNat*x.g
 |.n x=>- x.g
 |.c x=>(x.f xs:Nat)
noncomputable def Fm.D:Fm→Prop
 |.L x y=>x.f xs≤y.f xs
 |.T x y=>x.f xs<y.f xs
 |.E x y=>x.f xs=y.f xs
 |.l x y=>x.g xs ys≤y.g xs ys
 |.t x y=>x.g xs ys<y.g xs ys
 |.e x y=>x.g xs ys=y.g xs ys
 |.N p=>¬p.D
 |.A p q=>p.D∧q.D
 |.O p q=>p.D∨q.D
noncomputable def sg (i:Nat):Int:=bif i==0 then 1 else bif i%2==1 then (at_ 0 xs (i / 2):Nat) else at_ 0 ys (i / 2-1)
noncomputable def oo (f:Nat→Int):Nat→List Int→Int
 |_,[]=>0
 |i,a::v=>a*f i+oo f (i+1) v
end
noncomputable def yw:List Int→List Int→List Int
 |[],v=>v
 |a::u,v=>match v with
  |[]=>a::u
  |b::v=>(a+b)::yw u v
noncomputable def yp (k:Int):List Int→List Int
 |[]=>[]
 |a::u=>(k*a)::yp k u
noncomputable def vu:Nat→List Int
 |0=>[1]
 |n+1=>0::vu n
noncomputable def Tm.p:Tm→List Int
 |.v i=>vu (2*i+1)
 |.l k=>[(k:Int)]
 |.a x y=>yw x.p y.p
 |.m k x=>yp k x.p
 |_=>[]
noncomputable def Tm.q:Tm→List Int
 |.v i=>vu (2*i+1)
 |.w i=>vu (2*i+2)
 |.l k=>[(k:Int)]
 |.a x y=>yw x.q y.q
 |.s x y=>yw x.q (yp (-1) y.q)
 |.m k x=>yp k x.q
 |.n x=>yp (-1) x.q
 |.c x=>x.p
noncomputable def N4 (u v:List Int):List Int:=yw u (yp (-1) v)
noncomputable def Q9 (u v:List Int):List Int:=yw [1] (N4 u v)
noncomputable abbrev KT:=Ct→List (List Int)→Bool
noncomputable def XX (b:Bool) (u v:List Int) (K:KT) (c:Ct) (fs:List (List Int)):Bool:=K c ((bif b then N4 u v else Q9 v u)::fs)
noncomputable def Yr (b:Bool) (u v:List Int) (K:KT) (c:Ct) (fs:List (List Int)):Bool:=K c ((bif b then Q9 u v else N4 v u)::fs)
noncomputable def Lv (f g:Ct→Bool) (c:Ct):Bool:=match c with
 |.o x y=>f x&&g y
 |_=>false
noncomputable def ZX (b:Bool) (u v:List Int) (K:KT) (c:Ct) (fs:List (List Int)):Bool:=match b with
 |true=>K c (N4 u v::N4 v u::fs)
 |false=>Lv (fun c=>K c (Q9 u v::fs)) (fun c=>K c (Q9 v u::fs)) c
noncomputable def Fm.go:Fm→Bool→KT→KT
 |.L x y,b,K=>XX b x.p y.p K
 |.T x y,b,K=>Yr b x.p y.p K
 |.E x y,b,K=>ZX b x.p y.p K
 |.l x y,b,K=>XX b x.q y.q K
 |.t x y,b,K=>Yr b x.q y.q K
 |.e x y,b,K=>ZX b x.q y.q K
 |.N p,b,K=>p.go (!b) K
 |.A p q,b,K=>fun c fs=>match b with
  |true=>p.go true (q.go true K) c fs
  |false=>Lv (fun c=>p.go false K c fs) (fun c=>q.go false K c fs) c
 |.O p q,b,K=>fun c fs=>match b with
  |false=>p.go false (q.go false K) c fs
  |true=>Lv (fun c=>p.go true K c fs) (fun c=>q.go true K c fs) c
noncomputable def Ik:List Nat→List (List Int)→List Int
 |[],_=>[]
 |m::ms,fs=>match fs with
  |[]=>[]
  |f::fs=>yw (yp m f) (Ik ms fs)
noncomputable def VB:Nat→List Int→Bool
 |_,[]=>true
 |i,a::r=>(bif i%2==1 then decide (0≤a) else decide (a=0))&&VB (i+1) r
noncomputable def SD (c:Ct) (fs:List (List Int)):Bool:=match c with
 |.k ms=>match Ik ms fs with
  |a::r=>decide (0<a)&&VB 1 r
  |[]=>false
 |.o _ _=>false
noncomputable def UP (g:Fm):List Fm→KT
 |[]=>g.go false SD
 |p::ps=>p.go true (UP g ps)
noncomputable def PO (xs:List Nat) (ys:List Int) (g:Fm):List Fm→Prop
 |[]=>g.D xs ys
 |p::ps=>p.D xs ys→PO xs ys g ps
noncomputable def N2 (xs:List Nat) (ys:List Int):List Fm→Prop
 |[]=>True
 |p::ps=>p.D xs ys∧N2 xs ys ps
section
variable {N:List Nat}{Z:List Int}{f:Nat→Int}{u v:List Int}{i:Nat}
theorem YM {a b c d:Int}:a+b+(c+d)=a+c+(b+d):=by rw[Rh,Int.add_left_comm b,←Rh]
theorem pR {u:List Int}:∀{i:Nat}{v:List Int},oo f i (yw u v)=oo f i u+oo f i v:=by
 induction u with
 |nil=>exact(Cb _).symm
 |cons a u ih=>
  intro i v
  cases v with
  |nil=>exact(pw _).symm
  |cons b v=>show(a+b)*f i+oo f (i+1) (yw u v)=_;rw[ih,Int.add_mul];exact YM
theorem pO {k:Int}{u:List Int}:∀{i:Nat},oo f i (yp k u)=k*oo f i u:=by
 induction u with
 |nil=>exact(Int.mul_zero _).symm
 |cons a u ih=>intro i;show k*a*f i+oo f (i+1) (yp k u)=_;rw[ih,Int.mul_assoc];exact(Int.mul_add ..).symm
theorem ML {n:Nat}:∀{i:Nat},oo f i (vu n)=f (i+n):=by
 induction n with
 |zero=>exact(pw _).trans (Int.one_mul _)
 |succ n ih=>intro i;exact((congrArg (·+_) (Int.zero_mul _)).trans ((Cb _).trans ih)).trans (congrArg f (Nat.succ_add ..))
theorem F0:oo f i (N4 u v)=oo f i u-oo f i v:=pR.trans (congrArg (_+·) (pO.trans (wJ _)))
theorem FJ {k:Int}:oo (sg N Z) 0 [k]=k:=(pw _).trans (wb _)
theorem N9:oo (sg N Z) 0 (Q9 u v)=1+(oo (sg N Z) 0 u-oo (sg N Z) 0 v):=pR.trans (congr (congrArg _ FJ) F0)
theorem R0:oo (sg N Z) 0 (vu (2*i+1))=(at_ 0 N i:Nat):=by
 rw[ML,pz,sg,Nq,Nr Nat.two_pos];rfl
theorem YB:oo (sg N Z) 0 (vu (2*i+2))=at_ 0 Z i:=by
 rw[ML,pz,sg,Nq,Nr Nat.two_pos];rfl
theorem Tm.BN (t:Tm):oo (sg N Z) 0 t.p=(t.f N:Nat):=by
 induction t with
 |v i=>exact R0
 |l n=>exact FJ
 |a x y h1 h2=>exact pR.trans (congr (congrArg _ h1) h2)
 |m k x h=>exact pO.trans (congrArg _ h)
 |_=>rfl
theorem Tm.Ea (t:Tm):oo (sg N Z) 0 t.q=t.g N Z:=by
 induction t with
 |v i=>exact R0
 |w i=>exact YB
 |l n=>exact FJ
 |a x y h1 h2=>exact pR.trans (congr (congrArg _ h1) h2)
 |s x y h1 h2=>exact(show _=x.g N Z+- y.g N Z from pR.trans (congr (congrArg HAdd.hAdd h1) (pO.trans ((wJ _).trans (congrArg Neg.neg h2)))))
 |m k x h=>exact pO.trans (congrArg _ h)
 |n x h=>exact pO.trans ((wJ _).trans (congrArg Neg.neg h))
 |c x h=>exact x.BN
noncomputable def rg (N:List Nat) (Z:List Int) (fs:List (List Int)):Prop:=∀f∈fs,oo (sg N Z) 0 f≤0
noncomputable def Q2 (N:List Nat) (Z:List Int) (K:KT):Prop:=∀c fs,K c fs=true→rg N Z fs→False
variable {fs:List (List Int)}{c:Ct}{K:KT}{b:Bool}{p:Prop}
theorem rg.cons (h:rg N Z fs) (h2:oo (sg N Z) 0 u≤0):rg N Z (u::fs):=fun f hf=>by
 cases hf with
 |head=>exact h2
 |tail _ hf=>exact h f hf
theorem Kl {x y:Int}(h1:oo (sg N Z) 0 u=x) (h2:oo (sg N Z) 0 v=y) (h:x≤y):oo (sg N Z) 0 (N4 u v)≤0:=lP (pA (F0.trans (congr (congrArg _ h1) h2))) (EY h)
theorem JV {x y:Int}(h1:oo (sg N Z) 0 u=x) (h2:oo (sg N Z) 0 v=y) (h:x<y):oo (sg N Z) 0 (Q9 u v)≤0:=lP (pA (N9.trans (congrArg _ (congr (congrArg _ h1) h2)))) (by rw[Int.add_comm];exact Int.sub_neg_of_lt h)
noncomputable def Vw (b:Bool) (p:Prop):Prop:=bif b then p else ¬p
theorem GG {x y:Int}(h1:oo (sg N Z) 0 u=x) (h2:oo (sg N Z) 0 v=y) (hK:Q2 N Z K) (e:p↔x≤y) (h:Vw b p) (hc:XX b u v K c fs=true) (hf:rg N Z fs):False:=by
 cases b with
 |true=>exact hK _ _ hc (hf.cons (Kl h1 h2 (e.mp h)))
 |false=>exact hK _ _ hc (hf.cons (JV h2 h1 (Int.not_le.mp fun q=>h (e.mpr q))))
theorem HS {x y:Int}(h1:oo (sg N Z) 0 u=x) (h2:oo (sg N Z) 0 v=y) (hK:Q2 N Z K) (e:p↔x<y) (h:Vw b p) (hc:Yr b u v K c fs=true) (hf:rg N Z fs):False:=by
 cases b with
 |true=>exact hK _ _ hc (hf.cons (JV h1 h2 (e.mp h)))
 |false=>exact hK _ _ hc (hf.cons (Kl h2 h1 (jE.mp fun q=>h (e.mpr q))))
theorem Bt {f g:Ct→Bool}(h:Lv f g c=true):∃x y,f x=true∧g y=true:=by
 cases c with
 |k ms=>cases h
 |o x y=>exact⟨x,y,(aR.mp h).1,(aR.mp h).2⟩
theorem IU {x y:Int}(h1:oo (sg N Z) 0 u=x) (h2:oo (sg N Z) 0 v=y) (hK:Q2 N Z K) (e:p↔x=y) (h:Vw b p) (hc:ZX b u v K c fs=true) (hf:rg N Z fs):False:=by
 cases b with
 |true=>exact hK _ _ hc ((hf.cons (Kl h2 h1 (pA (e.mp h).symm))).cons (Kl h1 h2 (pA (e.mp h))))
 |false=>
  obtain⟨c1,c2,k1,k2⟩:=Bt hc
  exact(Int.lt_or_gt_of_ne fun q=>h (e.mpr q)).elim (fun q=>hK _ _ k1 (hf.cons (JV h1 h2 q))) fun q=>hK _ _ k2 (hf.cons (JV h2 h1 q))
theorem Fm.Np (p:Fm):∀{b:Bool}{K:KT}{c:Ct}{fs:List (List Int)},Q2 N Z K→Vw b (p.D N Z)→p.go b K c fs=true→rg N Z fs→False:=by
 induction p with
 |L x y=>exact fun hK h=>GG x.BN y.BN hK dY.symm h
 |T x y=>exact fun hK h=>HS x.BN y.BN hK cZ.symm h
 |E x y=>exact fun hK h=>IU x.BN y.BN hK Int.ofNat_inj.symm h
 |l x y=>exact fun hK h=>GG x.Ea y.Ea hK Iff.rfl h
 |t x y=>exact fun hK h=>HS x.Ea y.Ea hK Iff.rfl h
 |e x y=>exact fun hK h=>IU x.Ea y.Ea hK Iff.rfl h
 |N p ih=>exact fun{b K c fs} hK h=>by cases b with
  |true=>exact ih (b:=false) hK h
  |false=>exact ih (b:=true) hK (um h)
 |A p q h1 h2=>exact fun{b K c fs} hK h hc hf=>by cases b with
  |true=>exact h1 (b:=true) (fun _ _ k f=>h2 (b:=true) hK h.2 k f) h.1 hc hf
  |false=>
   obtain⟨c1,c2,k1,k2⟩:=Bt hc
   exact(Classical.not_and_iff_not_or_not.mp h).elim (fun q=>h1 (b:=false) hK q k1 hf) fun q=>h2 (b:=false) hK q k2 hf
 |O p q h1 h2=>exact fun{b K c fs} hK h hc hf=>by cases b with
  |false=>exact h1 (b:=false) (fun _ _ k f=>h2 (b:=false) hK (fun z=>h (.inr z)) k f) (fun z=>h (.inl z)) hc hf
  |true=>
   obtain⟨c1,c2,k1,k2⟩:=Bt hc
   exact Or.elim h (fun q=>h1 (b:=true) hK q k1 hf) fun q=>h2 (b:=true) hK q k2 hf
theorem Kg {ms:List Nat}:∀{fs:List (List Int)},rg N Z fs→oo (sg N Z) 0 (Ik ms fs)≤0:=by
 induction ms with
 |nil=>exact fun _=>dQ 0
 |cons m ms ih=>
  intro fs h
  cases fs with
  |nil=>exact dQ 0
  |cons f fs=>exact lP (pA (pR.trans (congrArg (·+_) pO))) (Int.add_nonpos (Int.mul_nonpos_of_nonneg_of_nonpos (fR m) (h f aI)) (ih fun g hg=>h g (aG _ hg)))
theorem PC {v:List Int}:∀{i:Nat},VB (i+1) v=true→0≤oo (sg N Z) (i+1) v:=by
 induction v with
 |nil=>exact fun _=>dQ 0
 |cons a r ih=>
  intro i h
  have h:=aR.mp h
  refine qS ?_ (ih h.2)
  have h:=h.1
  show 0≤a*bif (i+1)%2==1 then _ else _
  cases e:(i+1)%2==1 with
  |false=>rw[e] at h;rw[of_decide_eq_true h,Int.zero_mul];exact dQ 0
  |true=>rw[e] at h;exact Int.mul_nonneg (of_decide_eq_true h) (fR _)
theorem Qy:Q2 N Z SD:=fun c fs h hf=>by
 cases c with
 |o x y=>cases h
 |k ms=>
  have h0:=Kg (ms:=ms) hf
  replace h:(match Ik ms fs with | a::r=>decide (0<a)&&VB 1 r | []=>false)=true:=h
  generalize Ik ms fs=v at h h0
  cases v with
  |nil=>cases h
  |cons a r=>
   have h:=aR.mp h
   have h1:0<a*1:=(wb a).symm▸of_decide_eq_true h.1
   exact absurd h0 (Int.not_le.mpr (Int.add_pos_of_pos_of_nonneg h1 (PC h.2)))
theorem PG {g:Fm}(h:¬g.D N Z):∀{ps:List Fm},N2 N Z ps→Q2 N Z (UP g ps):=by
 intro us
 induction us with
 |nil=>
  intro _
  exact fun _ _ hc hf=>g.Np (b:=false) Qy h hc hf
 |cons p ps ih=>
  intro hp
  exact fun _ _ hc hf=>p.Np (b:=true) (ih hp.2) hp.1 hc hf
theorem LU {g:Fm}:∀{ps:List Fm},(N2 N Z ps→g.D N Z)→PO N Z g ps:=by
 intro us
 induction us with
 |nil=>
  intro h
  exact h trivial
 |cons p ps ih=>
  intro h
  exact fun hp=>ih fun q=>h ⟨hp,q⟩
end
theorem aW (N:List Nat) (Z:List Int) (ps:List Fm) (g:Fm) (c:Ct) (h:UP g ps c []=true):PO N Z g ps:=
 LU fun hp=>um fun q=>PG q hp c [] h fun _ hf=>by cases hf
noncomputable def Fm.fs (v x y:Tm):Fm:=.O (.A (.E (.a v y) x) (.L y x)) (.A (.E v (.l 0)) (.L x y))
noncomputable def Fm.fd (k:Nat) (q r x:Tm):Fm:=.A (.E (.a (.m k q) r) x) (.T r (.l k))
noncomputable def Fm.fD (k:Nat) (q r x:Tm):Fm:=.A (.e (.a (.m k q) r) x) (.A (.l (.l 0) r) (.t r (.l k)))
noncomputable def Fm.fm (v x y:Tm):Fm:=.O (.A (.E v x) (.L x y)) (.A (.E v y) (.L y x))
noncomputable def Fm.fi (v x y:Tm):Fm:=.O (.A (.e v x) (.l x y)) (.A (.e v y) (.l y x))
noncomputable def Fm.fI (v x y:Tm):Fm:=.O (.A (.e v x) (.l y x)) (.A (.e v y) (.l x y))
noncomputable def Fm.ft (v x:Tm):Fm:=.O (.A (.e v x) (.l (.l 0) x)) (.A (.E v (.l 0)) (.l x (.l 0)))
theorem eR (a b:Nat):(a-b+b=a∧b≤a)∨(a-b=0∧a≤b):=(Cc b a).imp (fun h=>⟨Nat.sub_add_cancel h,h⟩) fun h=>⟨Dv h,h⟩
theorem f_d (k a:Nat) (h:cv 1 k=true):k*(a / k)+a%k=a∧a%k<k:=⟨Nat.div_add_mod a k,Nat.mod_lt a (aE h)⟩
theorem kb (k:Nat) (i:Int) (h:cv 1 k=true):@OfNat.ofNat Int k instOfNat*(i / @OfNat.ofNat Int k instOfNat)+i%@OfNat.ofNat Int k instOfNat=i∧0≤i%@OfNat.ofNat Int k instOfNat∧i%@OfNat.ofNat Int k instOfNat<@OfNat.ofNat Int k instOfNat:=
 have p:(0:Int)<(k:Int):=cZ.mpr (aE h)
 ⟨Int.mul_ediv_add_emod i k,lA i (Int.ne_of_gt p),jF i p⟩
theorem AJ (a b:Nat):(min a b=a∧a≤b)∨(min a b=b∧b≤a):=(Cc a b).imp (fun h=>⟨fv h,h⟩) fun h=>⟨oa h,h⟩
theorem MP (a b:Int):(min a b=a∧a≤b)∨(min a b=b∧b≤a):=(Cd a b).imp (fun h=>⟨wK h,h⟩) fun h=>⟨vR h,h⟩
theorem f_I (a b:Int):(max a b=a∧b≤a)∨(max a b=b∧a≤b):=(Cd b a).imp (fun h=>⟨Nt h,h⟩) fun h=>⟨og h,h⟩
theorem kL (i:Int):((i.toNat:Int)=i∧0≤i)∨(i.toNat=0∧i≤0):=(Cd 0 i).imp (fun h=>⟨rP h,h⟩) fun h=>⟨Fl h,h⟩
noncomputable abbrev aB:Tm:=.v 0
noncomputable abbrev aM:Tm:=.v 1
noncomputable abbrev cf:Tm:=.v 2
noncomputable abbrev fz:Tm:=.v 3
noncomputable abbrev jh:Tm:=.v 4
noncomputable abbrev qE:Tm:=.v 5
noncomputable abbrev bJ:Tm:=.w 0
noncomputable abbrev dN:Tm:=.w 1
noncomputable abbrev hM:Tm:=.w 2
noncomputable abbrev yl:Tm:=.w 3
noncomputable abbrev dE:Tm:=.l 0
noncomputable abbrev bP:Tm:=.l 1
noncomputable abbrev jN:Tm:=.l 2
noncomputable abbrev pM:Tm:=.l 3
noncomputable abbrev iE:Tm:=.l 4
noncomputable abbrev jg:Tm:=.l 1000000
noncomputable abbrev r7:Tm:=.l 100000
noncomputable abbrev tL:Tm:=.l 4611686018427387904
noncomputable abbrev DS:Tm:=.l 9223372036854775808
noncomputable abbrev cM:Ct:=.k [1,0,1]
noncomputable abbrev cI:Ct:=.k [1,1]
noncomputable abbrev jf:Ct:=.k [1,0,0,1]
noncomputable abbrev jM:Ct:=.k [1,0,1,0,1]
noncomputable abbrev ni:Ct:=.k [1]
noncomputable abbrev pJ:Ct:=.k [1,0,0,0,0,1]
noncomputable abbrev ui:Ct:=.k [1,0,1,0,0,1]
noncomputable abbrev uc:Ct:=.k [1,1,1]
noncomputable abbrev xn:Ct:=.k [0,1,1]
noncomputable abbrev xM:Ct:=.k [0,1]
noncomputable abbrev nY:Ct:=.k [1,0,0,1,1]
noncomputable abbrev qO:Ct:=.k [1,1,0,1]
noncomputable abbrev rh:Ct:=.k [1,0,1,0,1,1]
noncomputable abbrev rj:Ct:=.k [1,1,0,0,1]
noncomputable abbrev tJ:Ct:=.k [1,1,1,1]
noncomputable abbrev vF:Ct:=.k [0,1,0,0,1]
end
section
theorem xQ {α:Type}{o:Option α}{d:Bool}{P:α→Bool}{W:Prop}(h:iq o d P=true) (k:∀x,o=some x→P x=true→W) (k0:o=none→d=true→W):W:=by
 cases o with
 |none=>exact k0 rfl h
 |some x=>exact k x rfl h
theorem oB {α:Type}{o:Option α}{d:Bool}{P:α→Bool}{x:α}(e:o=some x):iq o d P=P x:=by rw[e];rfl
theorem oN {α:Type}{o:Option α}{d:Bool}{P:α→Bool}(e:o=none):iq o d P=d:=by rw[e];rfl
theorem dX {a b:Bool}(h:(a&&b)=true):a=true∧b=true:=aR.mp h
theorem fT {P:Prop}(h:false=true):P:=nomatch h
theorem ei {α:Type}{o:Option α}{P:α→Bool}(h:iq o false P=true):∃x,o=some x∧P x=true:=xQ h (fun x e q=>⟨x,e,q⟩) fun _ h=>fT h
section
variable {a b c d n m k:Nat}{i j:Int}
theorem b9 (h:a≤b) (e:cv b n=true):a≤n:=az h (aE e)
theorem ky (h:a<b) (e:cv b n=true):a<n:=b9 h e
theorem rD (h:a<b) (e:cv b (n+1)=true):a≤n:=fp (b9 h e)
theorem oH (h:a≤b) (e:cv (b+1) n=true):a<n:=az (gR h) (aE e)
theorem A2 (h:b≤a) (e:cv n b=true):n≤a:=az (aE e) h
theorem Ur (h:¬a<b) (e:cv n b=true):n≤a:=A2 (aS h) e
theorem T9 (h:b≤a) (e:cv (n+1) b=true):¬a=n:=gY (A2 h e)
theorem Ag (h:a<b) (e:cv b n=true):¬a=n:=bV (ky h e)
theorem Ax (h:b≤a) (e:cv n b=true):¬a<n:=bL (A2 h e)
theorem Zy (h:¬a<b) (e:cv n b=true):¬a<n:=bL (Ur h e)
theorem Li (h:b≤a) (e:cv n b=true):¬(m≤a∧a<n):=fun q=>Ax h e q.2
theorem Xo (h:a<b) (e:cv b m=true):¬(m≤a∧a<n):=fun q=>gq _ (aV (ky h e) q.1)
theorem Sp (h:a≤b) (h':b≤c) (e:cv c n=true):a≤n:=b9 (az h h') e
theorem w4 (h:a≤b) (h':b<c) (pK:c≤d) (e:cv d n=true):a≤n:=b9 (az (az h (dz h')) pK) e
theorem QY (h:a≤b):a≤b+1:=bz h
theorem lM (k:Nat) (e:a+k=b):a≤b:=e▸bC a k
theorem f9 (k:Nat) (h:b≤c) (e:a+k=b):a≤c:=az (lM k e) h
theorem zX (h:¬a<b):b<a+1:=j5 (aS h)
theorem oS (h:a=b) (h':b≤c):a≤c:=h▸h'
theorem EI (h:a=b) (h':¬b≤c):c<a:=h▸bp h'
theorem XZ (h:b≤a) (e:cv (n+1) b=true):n<a:=A2 h e
theorem SN (h:¬a<b) (h':¬a=b) (e:cv n b=true):n<a:=cj (aE e) (mz (aS h) (gS h'))
theorem HL (h:¬a<b) (h':¬a=b) (e:cv n (b+1)=true):¬a<n:=bL (az (aE e) (SN h h' (Nat.ble_self_eq_true b)))
theorem vc (h:a=b) (e:cv (b+1) n=true):a<n:=h▸aE e
theorem n8 (h:a=b) (e:cv b n=true):a≤n:=h▸aE e
theorem DH (h:a=b) (e:cv n b=true):n≤a:=h▸aE e
theorem uO (h:a=b) (e:cv n b=true):¬a<n:=bL (DH h e)
theorem Yp (h:a=b) (e:cv n b=true):¬(m≤a∧a<n):=fun q=>uO h e q.2
theorem Kb (h:¬(b≤a∧a<c)) (e:cv b m=true) (e':cv n c=true):¬(m≤a∧a<n):=fun q=>h ⟨az (aE e) q.1,aV q.2 (aE e')⟩
theorem LO {p q:Prop}(h:¬p):¬(p∧q):=fun z=>h z.1
theorem rE (h:k≤a):(a:Int)-@OfNat.ofNat Int k instOfNat=((a-k:Nat):Int):=(Ri h).symm
theorem gV (h:(a:Int)<@OfNat.ofNat Int k instOfNat):a<k:=cZ.mp h
theorem pT (h:@OfNat.ofNat Int k instOfNat≤(a:Int)):k≤a:=dY.mp h
theorem CE (h:¬(a:Int)<@OfNat.ofNat Int k instOfNat):k≤a:=aS fun q=>h (cZ.mpr q)
theorem SA (h:¬@OfNat.ofNat Int k instOfNat≤(a:Int)):a<k:=bp fun q=>h (dY.mpr q)
theorem mF (h:(a:Int)=@OfNat.ofNat Int k instOfNat):a=k:=fY h
theorem hU (h:¬(a:Int)=@OfNat.ofNat Int k instOfNat):¬a=k:=fun q=>h (q▸rfl)
theorem Xe (h:@OfNat.ofNat Int k instOfNat≤(a:Int)) (e:cv n k=true):n≤a:=A2 (pT h) e
theorem dW (h:¬(a:Int)<@OfNat.ofNat Int k instOfNat) (e:cv n k=true):¬a<n:=Ax (CE h) e
theorem u0 (h:¬(a:Int)<@OfNat.ofNat Int k instOfNat) (e:cv n k=true):¬(m≤a∧a<n):=Li (CE h) e
theorem vI (h:¬@OfNat.ofNat Int k instOfNat≤(a:Int)) (e:cv k m=true):¬(m≤a∧a<n):=Xo (SA h) e
theorem Ib (h:(a:Int)<(b:Int)):a<b:=cZ.mp h
theorem GN (h:¬(a:Int)<(b:Int)):b≤a:=aS fun q=>h (cZ.mpr q)
theorem MB (h:(a:Int)=(b:Int)):a=b:=fY h
theorem Gf (h:¬(a:Int)=(b:Int)):¬a=b:=fun q=>h (q▸rfl)
theorem rC (h:@OfNat.ofNat Int k instOfNat<(a:Int)) (e:cv n k=true):n<a:=cj (aE e) (cZ.mp h)
theorem ti (h:¬@OfNat.ofNat Int k instOfNat<(a:Int)) (e:cv k n=true):¬n<a:=fun q=>h (cZ.mpr (cj (aE e) q))
theorem ZM (h:¬(a:Int)>@OfNat.ofNat Int k instOfNat) (e:cv k n=true):a≤n:=aS (ti h e)
theorem vm (h:a≤k) (e:cv (k+1) 9223372036854775808=true):(a:Int)<2^63:=Int.lt_of_lt_of_le (cZ.mpr (cj h (aE e))) (by decide)
theorem HW (h:a<b) (h':b≤k) (e:cv (k+1) 9223372036854775808=true):(a:Int)<2^63:=vm (az (dz h) h') e
theorem rG (h:a≤n):a-k≤n:=az (sM a k) h
theorem Hz (h:a≤b) (e:cv b n=true):a-k≤n:=rG (b9 h e)
theorem UX (h:a=b) (e:cv n (b-k)=true):n≤a-k:=h▸aE e
theorem qP (h:a=b) (e:cv (n+1) b=true):n<a:=h▸aE e
theorem wG (h:a<b):b-(a+1)<b-a:=Fo h (d6 a)
theorem mc (h:¬(a:Int)≠@OfNat.ofNat Int k instOfNat):a=k:=mF (yG h)
theorem Tu:((0:Int)+(a:Int)).toNat=a:=by rw[Cb];rfl
theorem BM {x:Int}(h:x≤(a:Int)):x≤((a+1:Nat):Int):=lP h (dY.mpr (bX a))
theorem MZ (h:a≤b) (h':b<c) (pK:c≤d) (h3:d≤k) (e:cv k n=true):a≤n:=w4 h h' (az pK h3) e
theorem BH (h:a<b) (h':b≤c) (pK:c≤k) (e:cv (k+1) 9223372036854775808=true):(a:Int)<2^63:=vm (az (dz h) (az h' pK)) e
theorem OZ (h:(a:Int)<@OfNat.ofNat Int k instOfNat) (e:cv (k+1) 9223372036854775808=true):(a:Int)<2^63:=vm (dz (gV h)) e
theorem HD (h:@OfNat.ofNat Int k instOfNat≤(a:Int)):(a:Int)-@OfNat.ofNat Int k instOfNat=((a-k:Nat):Int):=rE (pT h)
theorem uW (h:¬(k≤a∧a<m)):¬(@OfNat.ofNat Int k instOfNat≤(a:Int)∧(a:Int)<@OfNat.ofNat Int m instOfNat):=fun q=>h ⟨dY.mp q.1,cZ.mp q.2⟩
theorem BU {m:Nat}(h:0≤i) (h2:i<(m:Int)):i.natAbs<m:=by
 obtain⟨n,rfl⟩:=cG h
 exact cZ.mp h2
theorem NF (h:i=1∨i = -1):i.natAbs<1073741824:=by rcases h with rfl | rfl<;>decide
theorem ite_abs (i:Int):(if i<0 then -i else i)=(i.natAbs:Int):=by
 split
 ·exact(Int.ofNat_natAbs_of_nonpos (iY ‹_›)).symm
 ·exact(Int.natAbs_of_nonneg (jE.mp ‹_›)).symm
theorem Av {r a n:Nat}(h:r≤a) (h1:a<n):r≤n-(n-(a+1)):=by rw[vU h1];exact bz h
theorem PS {L p e i n:Nat}(h:L-p≤i) (hn:i=n+1) (hg:p<e):L-e≤n:=by exact aW [_,_,_,_,_,_,_] [] [.L aB aM,.E aM (.a cf bP),.T fz jh,.fs qE (.v 6) jh,.fs aB (.v 6) fz] (.L qE cf) (.o (.o (.k [1,0,0,1,0,1,0,1,1,0,1]) (.k [1,1,0,0,0,1,0,1])) (.o pJ pJ)) rfl h hn hg (eR _ _) (eR _ _)
theorem Uk {i:Nat}{m:Int}(h:i<(m-0).toNat) (h2:m<3):i+1≤2:=by exact aW [_,_] [_] [.T aB aM,.t bJ pM,.ft aM (.s bJ dE)] (.L (.a aB bP) jN) (.o rh ui) rfl h h2 (kL _)
theorem tn1 {v:Int}(h:0≤v):1+v=((1+v).toNat:Int):=(rP (qS (by decide) h)).symm
theorem W3 {v m:Int}(h:0≤v) (h2:v<m) (hm:m≤4):1≤(1+v).toNat∧(1+v).toNat≤4:=by exact aW [_] [_,_] [.l dE bJ,.t bJ dN,.l dN iE,.ft aB (.a bP bJ)] (.A (.L bP aB) (.L aB iE)) (.o (.o (.k [1,0,0,1,0,0,1]) rh) (.o (.k [0,1,0,0,0,0,1]) cM)) rfl h h2 hm (kL _)
theorem Ig {a b:Int}:(if a<b then b-a else 0).toNat=(b-a).toNat:=by
 split
 ·rfl
 ·exact(Fl (EY (jE.mp ‹_›))).symm
theorem F5 (k:Nat) (h:¬(a:Int)<(k:Int)):(a:Int)-((k+1:Nat):Int)+1=((a-k:Nat):Int):=by exact aW [_,_,_] [] [.N (.t aB aM),.fs cf aB aM] (.e (.a (.s aB (.c (.a aM bP))) bP) cf) (.o (.o cM jf) (.o jM cI)) rfl h (eR _ _)
theorem Po (k:Nat) (h:¬(a:Int)<((k+1:Nat):Int)):(a:Int)-((k+1:Nat):Int)+1=((a-k:Nat):Int):=F5 k fun q=>h (Int.lt_trans q (cZ.mpr (d6 k)))
theorem UG (h:n≤64):(n:Int)*5≤2^27:=lP (dY.mpr (qT 5 h)) (by decide)
theorem UE {r k:Int}{t:Nat}(h2:0≤k) (h3:k≤t) (h4:0≤r) (h5:r<1000003) (ht:t≤100000):(r+7103*(k+1)+20023).natAbs<2^64:=
 BU (by exact aW [] [_,_] [.l dE bJ,.l dE dN] (.l dE (.a (.a dN (.m 7103 (.a bJ bP))) (.l 20023))) (.k [1,1,7103]) rfl h2 h4) (show _<(18446744073709551616:Int) by exact aW [_] [_,_] [.l bJ aB,.t dN (.l 1000003),.L aB r7] (.t (.a (.a dN (.m 7103 (.a bJ bP))) (.l 20023)) (.l 18446744073709551616)) (.k [1,7103,1,7103]) rfl h3 h5 ht)
theorem k6:(0:Int)≤(a:Int):=fR a
end
theorem nq {a b:Bool}(h:a=true) (h2:b=true):(a&&b)=true:=aR.mpr ⟨h,h2⟩
theorem s9 {α:Type}{a b:α}{l m:List α}(h:a=b) (h2:l=m):a::l=b::m:=by rw[h,h2]
theorem RU {α β γ:Type}{P:α→Prop}{Q:α→β→γ→Prop}(h:∃o a b,P o∧Q o a b):∃o,P o:=al h fun o h=>al h fun _ h=>al h fun _ h=>⟨o,h.1⟩
theorem bG {P1:Prop}{P2:Prop}{G:Prop}(h:(P1)∧P2) (k:P1→P2→G):G:=k  h.1 h.2
theorem fX {gE jG:Type}{P1:gE→jG→Prop}{G:Prop}(h:∃x1,∃x2,P1 x1 x2) (k:∀x1:gE,∀x2:jG,P1 x1 x2→G):G:=al h fun x0 h0=>al h0 (k x0)
theorem aq {gE:Type}{P1:gE→Prop}{P2:gE→Prop}{G:Prop}(h:∃x1,(P1 x1)∧P2 x1) (k:∀x1:gE,P1 x1→P2 x1→G):G:=al h fun x0 h0=>bG h0 (k x0)
theorem cB {gE jG:Type}{P1:gE→jG→Prop}{P2:gE→jG→Prop}{G:Prop}(h:∃x1,∃x2,(P1 x1 x2)∧P2 x1 x2) (k:∀x1:gE,∀x2:jG,P1 x1 x2→P2 x1 x2→G):G:=al h fun x0 h0=>aq h0 (k x0)
theorem bQ {P1:Prop}{P2:Prop}{P3:Prop}{G:Prop}(h:(P1)∧(P2)∧P3) (k:P1→P2→P3→G):G:=bG h.2 (k h.1)
theorem aL {gE:Type}{P1:gE→Prop}{P2:gE→Prop}{P3:gE→Prop}{G:Prop}(h:∃x1,(P1 x1)∧(P2 x1)∧P3 x1) (k:∀x1:gE,P1 x1→P2 x1→P3 x1→G):G:=al h fun x0 h0=>bQ h0 (k x0)
theorem eD {gE jG uk:Type}{P1:gE→jG→uk→Prop}{P2:gE→jG→uk→Prop}{G:Prop}(h:∃x1,∃x2,∃x3,(P1 x1 x2 x3)∧P2 x1 x2 x3) (k:∀x1:gE,∀x2:jG,∀x3:uk,P1 x1 x2 x3→P2 x1 x2 x3→G):G:=al h fun x0 h0=>cB h0 (k x0)
theorem aN {gE jG:Type}{P1:gE→jG→Prop}{P2:gE→jG→Prop}{P3:gE→jG→Prop}{G:Prop}(h:∃x1,∃x2,(P1 x1 x2)∧(P2 x1 x2)∧P3 x1 x2) (k:∀x1:gE,∀x2:jG,P1 x1 x2→P2 x1 x2→P3 x1 x2→G):G:=al h fun x0 h0=>aL h0 (k x0)
theorem fU {gE jG:Type}{P1:gE→Prop}{P2:gE→Prop}{P3:gE→jG→Prop}{G:Prop}(h:∃x1,(P1 x1)∧(P2 x1)∧∃x2,P3 x1 x2) (k:∀x1:gE,P1 x1→P2 x1→∀x2:jG,P3 x1 x2→G):G:=al h fun x0 h0=>al h0.2.2 (k x0 h0.1 h0.2.1)
theorem dm {P1:Prop}{P2:Prop}{P3:Prop}{P4:Prop}{G:Prop}(h:(P1)∧(P2)∧(P3)∧P4) (k:P1→P2→P3→P4→G):G:=bQ h.2 (k h.1)
theorem fG {gE:Type}{P1:gE→Prop}{P2:gE→Prop}{P3:gE→Prop}{P4:gE→Prop}{G:Prop}(h:∃x1,(P1 x1)∧(P2 x1)∧(P3 x1)∧P4 x1) (k:∀x1:gE,P1 x1→P2 x1→P3 x1→P4 x1→G):G:=al h fun x0 h0=>dm h0 (k x0)
theorem i8 {gE:Type}{P1:Prop}{P2:Prop}{P3:gE→Prop}{P4:gE→Prop}{G:Prop}(h:(P1)∧(P2)∧∃x1,(P3 x1)∧P4 x1) (k:P1→P2→∀x1:gE,P3 x1→P4 x1→G):G:=aq h.2.2 (k h.1 h.2.1)
theorem b0 {gE jG:Type}{P1:gE→jG→Prop}{P2:gE→jG→Prop}{P3:gE→jG→Prop}{P4:gE→jG→Prop}{G:Prop}(h:∃x1,∃x2,(P1 x1 x2)∧(P2 x1 x2)∧(P3 x1 x2)∧P4 x1 x2) (k:∀x1:gE,∀x2:jG,P1 x1 x2→P2 x1 x2→P3 x1 x2→P4 x1 x2→G):G:=al h fun x0 h0=>fG h0 (k x0)
theorem eU {gE jG uk Q3:Type}{P1:gE→jG→uk→Q3→Prop}{P2:gE→jG→uk→Q3→Prop}{P3:gE→Prop}{G:Prop}(h:∃x1,(∃x2,∃x3,∃x4,(P1 x1 x2 x3 x4)∧P2 x1 x2 x3 x4)∧P3 x1) (k:∀x1:gE,∀x2:jG,∀x3:uk,∀x4:Q3,P1 x1 x2 x3 x4→P2 x1 x2 x3 x4→P3 x1→G):G:=al h fun x0 h0=>eD h0.1 fun Z1 Yn Ze Xv aab=>k x0 Z1 Yn Ze Xv aab h0.2
theorem cx {gE jG uk:Type}{P1:gE→jG→uk→Prop}{P2:gE→jG→uk→Prop}{P3:gE→jG→uk→Prop}{P4:gE→jG→uk→Prop}{G:Prop}(h:∃x1,∃x2,∃x3,(P1 x1 x2 x3)∧(P2 x1 x2 x3)∧(P3 x1 x2 x3)∧P4 x1 x2 x3) (k:∀x1:gE,∀x2:jG,∀x3:uk,P1 x1 x2 x3→P2 x1 x2 x3→P3 x1 x2 x3→P4 x1 x2 x3→G):G:=al h fun x0 h0=>b0 h0 (k x0)
theorem gN {gE jG uk:Type}{P1:gE→jG→Prop}{P2:gE→jG→uk→Prop}{P3:gE→jG→uk→Prop}{P4:gE→jG→Prop}{G:Prop}(h:∃x1,∃x2,(P1 x1 x2)∧(∃x3,(P2 x1 x2 x3)∧P3 x1 x2 x3)∧P4 x1 x2) (k:∀x1:gE,∀x2:jG,P1 x1 x2→∀x3:uk,P2 x1 x2 x3→P3 x1 x2 x3→P4 x1 x2→G):G:=al h fun x0 h0=>al h0 fun x1 h1=>aq h1.2.1 fun Qr Pe Pa=>k x0 x1 h1.1 Qr Pe Pa h1.2.2
theorem gf {gE jG:Type}{P1:gE→jG→Prop}{P2:gE→jG→Prop}{P3:gE→jG→Prop}{P4:gE→jG→Prop}{P5:gE→jG→Prop}{G:Prop}(h:∃x1,∃x2,(P1 x1 x2)∧(P2 x1 x2)∧(P3 x1 x2)∧(P4 x1 x2)∧P5 x1 x2) (k:∀x1:gE,∀x2:jG,P1 x1 x2→P2 x1 x2→P3 x1 x2→P4 x1 x2→P5 x1 x2→G):G:=al h fun x0 h0=>al h0 fun x1 h1=>dm h1.2 (k x0 x1 h1.1)
theorem eH {gE jG uk:Type}{P1:gE→jG→Prop}{P2:gE→jG→uk→Prop}{P3:gE→jG→uk→Prop}{P4:gE→jG→Prop}{P5:gE→jG→Prop}{P6:gE→jG→Prop}{G:Prop}(h:∃x1,∃x2,(P1 x1 x2)∧(∃x3,(P2 x1 x2 x3)∧P3 x1 x2 x3)∧(P4 x1 x2)∧(P5 x1 x2)∧P6 x1 x2) (k:∀x1:gE,∀x2:jG,P1 x1 x2→∀x3:uk,P2 x1 x2 x3→P3 x1 x2 x3→P4 x1 x2→P5 x1 x2→P6 x1 x2→G):G:=al h fun x0 h0=>al h0 fun x1 h1=>aq h1.2.1 fun Qr Pe Pa=>bQ h1.2.2 (k x0 x1 h1.1 Qr Pe Pa)
theorem g7 {gE jG uk Q3 α5 α6 α7 α8 α9 U2 TA Vl RC Sf:Type}{P1:gE→jG→uk→Q3→α5→α6→α7→α8→α9→U2→TA→Vl→RC→Sf→Prop}{G:Prop}(h:∃x1,∃x2,∃x3,∃x4,∃x5,∃x6,∃x7,∃x8,∃x9,∃O6,∃OH,∃XH,∃XY,∃Zo,P1 x1 x2 x3 x4 x5 x6 x7 x8 x9 O6 OH XH XY Zo) (k:∀x1:gE,∀x2:jG,∀x3:uk,∀x4:Q3,∀x5:α5,∀x6:α6,∀x7:α7,∀x8:α8,∀x9:α9,∀O6:U2,∀OH:TA,∀XH:Vl,∀XY:RC,∀Zo:Sf,P1 x1 x2 x3 x4 x5 x6 x7 x8 x9 O6 OH XH XY Zo→G):G:=al h fun x0 h0=>al h0 fun x1 h1=>al h1 fun x2 h2=>al h2 fun x3 h3=>al h3 fun x4 h4=>al h4 fun x5 h5=>al h5 fun x6 h6=>al h6 fun x7 h7=>al h7 fun x8 h8=>al h8 fun x9 h9=>al h9 fun O6 h10=>al h10 fun OH Uh=>fX Uh (k x0 x1 x2 x3 x4 x5 x6 x7 x8 x9 O6 OH)
end
section
noncomputable def be (bs:List UInt8):Nat:=bs.foldl (fun v x=>256*v+x.toNat) 0
noncomputable def gu (b:List UInt8) (a r:Nat):Option (Nat×Nat):=if a+r≤b.length then some (be ((b.drop a).take r),a+r) else none
noncomputable def Rd (v r:Nat):Int:=if v≥128*256^(r-1) then (v:Int)-2*(128*256^(r-1)) else v
noncomputable def mJ (b:List UInt8) (a r:Nat):Option (Int×Nat):=(gu b a r).map fun p=>(Rd p.1 r,p.2)
noncomputable def wu (b:List UInt8) (a r:Nat):Option (List UInt8×Nat):=if a+r≤b.length then some ((b.drop a).take r,a+r) else none
structure E6 where
 (h v w x y z:Int)
inductive n9 where
 |char (h v f c:Int)
 |rule (h v a b:Int)
 |spec (h v:Int) (t:List UInt8)
structure mj where
 (check size bW fk:Nat)
 name:List UInt8
deriving DecidableEq
noncomputable abbrev Known:=List (Int×mj)
structure fE where
 cz:E6
 qK:Int
 stack:List E6
 deep:Int
 rows:List n9
noncomputable def tg:List (Int×Int):=[(65,5),(97,-3),(200,70000)]
noncomputable def gT:List (Int×Int):=[(66,9),(98,0),(255,1073741823)]
noncomputable def sE (n:Int):List (Int×Int):=if n=3 then tg else if n=200 then gT else []
noncomputable def sm (n:Int):Option (Nat×List UInt8):=if n=3 then some (0,[102,99]) else if n=200 then some (77,[102,104,122]) else none
noncomputable def un3 (x y:Int) (p:Int×Nat):Option ((Int×Int×Int)×Nat):=if min (min x y) p.1≤0 then none else some ((x,y,p.1),p.2)
noncomputable def un2 (b:List UInt8) (x:Int) (p:Int×Nat):=(mJ b p.2 4).bind (un3 x p.1)
noncomputable def un1 (b:List UInt8) (p:Int×Nat):=(mJ b p.2 4).bind (un2 b p.1)
noncomputable def nu (b:List UInt8) (a:Nat):Option ((Int×Int×Int)×Nat):=(mJ b a 4).bind (un1 b)
noncomputable def jq (dk check size bW:Nat) (nm:List UInt8):Bool:=match sm dk with
 |none=>false
 |some (ck,nm')=>size==655360&&decide (0<bW)&&decide (bW≤134217727)&&(check==ck||check==0||ck==0)&&nm==nm'
noncomputable def VT (dk check size bW fk:Nat) (p:List UInt8×Nat):Option ((Nat×mj)×Nat):=if jq dk check size bW (p.1.drop fk) then some ((dk,⟨check,size,bW,fk,p.1⟩),p.2) else none
section
variable (b:List UInt8) (dk check size bW fk:Nat) (p:Nat×Nat)
noncomputable def fo6:=(wu b p.2 (fk+p.1)).bind (VT dk check size bW fk)
noncomputable def fo5:=(gu b p.2 1).bind (fo6 b dk check size bW p.1)
noncomputable def fo4:=(gu b p.2 1).bind (fo5 b dk check size p.1)
noncomputable def fo3:=(gu b p.2 4).bind (fo4 b dk check p.1)
noncomputable def fo2:=(gu b p.2 4).bind (fo3 b dk p.1)
noncomputable def fo1:=(gu b p.2 4).bind (fo2 b p.1)
end
noncomputable def me (b:List UInt8) (op a:Nat):Option ((Nat×mj)×Nat):=(gu b a (op-242)).bind (fo1 b)
noncomputable def nG (b:List UInt8) (w a:Nat) (first vC:Int):Option ((Int×Int×Int)×Nat):=
 if w<4 then (mJ b a (w+1)).map fun p=>((p.1,first,vC),p.2)
 else if w<9 then
  if w>4 then (mJ b a (w-4)).map fun p=>((p.1,p.1,vC),p.2) else some ((first,first,vC),a)
 else if w>9 then (mJ b a (w-9)).map fun p=>((p.1,first,p.1),p.2) else some ((vC,first,vC),a)
noncomputable def fE.go (s:fE) (x y:Int):Option fE:=
 if (s.cz.h+x).natAbs≤2147483647∧(s.cz.v+y).natAbs≤2147483647 then some { s with cz:={ s.cz with h:=s.cz.h+x,v:=s.cz.v+y } } else none
noncomputable def fE.push (s:fE):fE:={ s with stack:=s.stack++[s.cz],deep:=max s.deep (s.stack.length+1) }
noncomputable def fE.pop (s:fE):Option fE:=s.stack.getLast?.map fun t=>{ s with stack:=s.stack.dropLast,cz:=t }
noncomputable def fE.row (s:fE) (r:n9):fE:={ s with rows:=s.rows++[r] }
noncomputable def Qg (s:fE) (code:Nat) (rA:Bool) (w:Int):Option fE:=if rA then (s.row (.char s.cz.h s.cz.v s.qK code)).go w 0 else some (s.row (.char s.cz.h s.cz.v s.qK code))
noncomputable def fE.uL (s:fE) (code:Nat) (rA:Bool):Option fE:=((sE s.qK).lookup (code:Int)).bind (Qg s code rA)
noncomputable def MI (s:fE) (h w:Int):fE:=if h>0∧w>0 then s.row (.rule s.cz.h s.cz.v h w) else s
noncomputable def UW (s:fE) (rA:Bool) (h:Int) (p:Int×Nat):Option (fE×Nat):=if rA then ((MI s h p.1).go p.1 0).map fun t=>(t,p.2) else some (MI s h p.1,p.2)
noncomputable def ru1 (b:List UInt8) (s:fE) (rA:Bool) (p:Int×Nat):=(mJ b p.2 4).bind (UW s rA p.1)
noncomputable def qx (b:List UInt8) (a:Nat) (s:fE) (rA:Bool):Option (fE×Nat):=(mJ b a 4).bind (ru1 b s rA)
noncomputable def fE.choose (s:fE) (n:Int) (kn:Known):Option fE:=if (kn.lookup n).isSome then some { s with qK:=n } else none
noncomputable def ZS (kn:Known) (p:(Nat×mj)×Nat):Option (Known×Nat):=if (kn.lookup (p.1.1:Int)).isSome then none else some (kn++[((p.1.1:Int),p.1.2)],p.2)
noncomputable def lT (b:List UInt8) (op a:Nat) (kn:Known):Option (Known×Nat):=(me b op a).bind (ZS kn)
noncomputable abbrev pH:=fE×Known×Nat
section
variable (b:List UInt8) (s:fE) (kn:Known)
noncomputable def ltr (mv:Bool) (p:Nat×Nat):Option pH:=(s.uL p.1 mv).map fun t=>(t,kn,p.2)
noncomputable def mvA (r:(Int×Int×Int)×Nat):Option pH:=(fE.go { s with cz:={ s.cz with w:=r.1.2.1,x:=r.1.2.2 } } r.1.1 0).map fun t=>(t,kn,r.2)
noncomputable def mvD (r:(Int×Int×Int)×Nat):Option pH:=(fE.go { s with cz:={ s.cz with y:=r.1.2.1,z:=r.1.2.2 } } 0 r.1.1).map fun t=>(t,kn,r.2)
noncomputable def chs (p:Nat×Nat):Option pH:=(s.choose p.1 kn).map fun t=>(t,kn,p.2)
noncomputable def spc (p:Nat×Nat):Option pH:=(wu b p.2 p.1).map fun t=>(s.row (.spec s.cz.h s.cz.v t.1),kn,t.2)
variable (op a:Nat)
noncomputable def stE:Option pH:=if 243≤op∧op<247 then (lT b op a kn).map fun p=>(s,p.1,p.2) else none
noncomputable def stD:Option pH:=if 239≤op∧op<243 then (gu b a (op-238)).bind (spc b s kn) else stE b s kn op a
noncomputable def stC:Option pH:=if 235≤op∧op<239 then (gu b a (op-234)).bind (chs s kn) else stD b s kn op a
noncomputable def stB:Option pH:=if 171≤op∧op<235 then (s.choose ((op-171:Nat):Int) kn).map fun t=>(t,kn,a) else stC b s kn op a
noncomputable def stA:Option pH:=if 157≤op∧op<171 then (nG b (op-157) a s.cz.y s.cz.z).bind (mvD s kn) else stB b s kn op a
noncomputable def st9:Option pH:=if 143≤op∧op<157 then (nG b (op-143) a s.cz.w s.cz.x).bind (mvA s kn) else stA b s kn op a
noncomputable def st8:Option pH:=if op=142 then s.pop.map fun t=>(t,kn,a) else st9 b s kn op a
noncomputable def st7:Option pH:=if op=141 then some (s.push,kn,a) else st8 b s kn op a
noncomputable def st6:Option pH:=if op=138 then some (s,kn,a) else st7 b s kn op a
noncomputable def st5:Option pH:=if op=137 then (qx b a s false).map fun p=>(p.1,kn,p.2) else st6 b s kn op a
noncomputable def st4:Option pH:=if op<137 then (gu b a (op-132)).bind (ltr s kn false) else st5 b s kn op a
noncomputable def st3:Option pH:=if op=132 then (qx b a s true).map fun p=>(p.1,kn,p.2) else st4 b s kn op a
noncomputable def Zs:Option pH:=if op<132 then (gu b a (op-127)).bind (ltr s kn true) else st3 b s kn op a
end
noncomputable def kD (b:List UInt8) (op a:Nat) (s:fE) (kn:Known):Option pH:=if op<128 then (s.uL op true).map fun t=>(t,kn,a) else Zs b s kn op a
noncomputable def V4 (L:Nat→Nat→fE→Known→Option pH) (s:fE) (kn:Known) (z:Nat×Nat):=L z.1 z.2 s kn
noncomputable def pgK (b:List UInt8) (L:Nat→Nat→fE→Known→Option pH) (q:pH):=(gu b q.2.2 1).bind (V4 L q.1 q.2.1)
noncomputable def gQ (b:List UInt8):Nat→Nat→Nat→fE→Known→Option pH
 |n,op,a,s,kn=>if op=140 then some (s,kn,a) else match n with
  |0=>none
  |n+1=>(kD b op a s kn).bind (pgK b (gQ b n))
noncomputable def AN:fE:=⟨⟨0,0,0,0,0,0⟩,-1,[],0,[]⟩
noncomputable def sgC (v:Int) (q:List Int×Nat):List Int×Nat:=(v::q.1,q.2)
noncomputable def zT (b:List UInt8):Nat→Nat→Option (List Int×Nat)
 |0,a=>some ([],a)
 |k+1,a=>(mJ b a 4).bind fun p=>(zT b k p.2).map (sgC p.1)
noncomputable def VJ (iG:List Int) (q:pH):Option ((List Int×fE)×Known×Nat):=if q.1.stack.length>0 then none else some ((iG,q.1),q.2.1,q.2.2)
noncomputable def pa3 (b:List UInt8) (kn:Known) (iG:List Int) (p:Nat×Nat):=(gQ b (b.length-p.2) p.1 p.2 AN kn).bind (VJ iG)
noncomputable def W8 (b:List UInt8) (last:Int) (kn:Known) (iG:List Int) (p:Int×Nat):=if p.1≠last then none else (gu b p.2 1).bind (pa3 b kn iG)
noncomputable def pa1 (b:List UInt8) (last:Int) (kn:Known) (p:List Int×Nat):=(mJ b p.2 4).bind (W8 b last kn p.1)
noncomputable def nC (b:List UInt8) (last:Int) (a:Nat) (kn:Known):Option ((List Int×fE)×Known×Nat):=(zT b 10 a).bind (pa1 b last kn)
noncomputable abbrev UJ:=Nat×Nat×Known
noncomputable def pf1 (b:List UInt8) (kn told:Known) (p:(Nat×mj)×Nat):Option UJ:=if (told.lookup (p.1.1:Int)).isSome∨kn.lookup (p.1.1:Int)≠some p.1.2 then none else (gu b p.2 1).map fun z=>(z.1,z.2,told++[((p.1.1:Int),p.1.2)])
noncomputable def pf2 (b:List UInt8) (op a:Nat) (told:Known):Option UJ:=if op≠138 then none else (gu b a 1).map fun z=>(z.1,z.2,told)
noncomputable def mn (b:List UInt8) (kn:Known) (op a:Nat) (told:Known):Option UJ:=if 243≤op∧op<247 then (me b op a).bind (pf1 b kn told) else pf2 b op a told
noncomputable def gO (b:List UInt8) (kn:Known):Nat→Nat→Nat→Known→Option (Known×Nat)
 |n,op,a,told=>if op=249 then some (told,a) else match n with
  |0=>none
  |n+1=>(mn b kn op a told).bind fun q=>gO b kn n q.1 q.2.1 q.2.2
noncomputable def Vp (kn:Known) (q:Known×Nat):Option Nat:=if q.1.length≠kn.length then none else some q.2
noncomputable def pn1 (b:List UInt8) (kn:Known) (p:Nat×Nat):=(gO b kn (b.length-p.2) p.1 p.2 []).bind (Vp kn)
noncomputable def jc (b:List UInt8) (a:Nat) (kn:Known):Option Nat:=(gu b a 1).bind (pn1 b kn)
structure g6 where
 units:Int×Int×Int
 comment:List UInt8
 ca:List (List Int×List n9)
 cJ:Known
 lX:Int
 widest:Int
 il:Int
noncomputable abbrev LV:=Nat×Nat×Int×g6
noncomputable def g6.LG (v:g6) (q:(List Int×fE)×Known×Nat):g6:={ v with ca:=v.ca++[(q.1.1,q.1.2.rows)],il:=max v.il q.1.2.deep,cJ:=q.2.1 }
noncomputable def mn1 (b:List UInt8) (a:Nat) (v:g6) (q:(List Int×fE)×Known×Nat):Option LV:=(gu b q.2.2 1).map fun z=>(z.1,z.2,(a:Int)-1,v.LG q)
noncomputable def mn2 (b:List UInt8) (last:Int) (v:g6) (q:Known×Nat):Option LV:=(gu b q.2 1).map fun z=>(z.1,z.2,last,{ v with cJ:=q.1 })
noncomputable def mn3 (b:List UInt8) (op a:Nat) (last:Int) (v:g6):Option LV:=if op≠138 then none else (gu b a 1).map fun z=>(z.1,z.2,last,v)
noncomputable def mn4 (b:List UInt8) (op a:Nat) (last:Int) (v:g6):Option LV:=if 243≤op∧op<247 then (lT b op a v.cJ).bind (mn2 b last v) else mn3 b op a last v
noncomputable def kE (b:List UInt8) (op a:Nat) (last:Int) (v:g6):Option LV:=if op=139 then (nC b last a v.cJ).bind (mn1 b a v) else mn4 b op a last v
noncomputable def fQ (b:List UInt8):Nat→Nat→Nat→Int→g6→Option (Int×g6×Nat)
 |n,op,a,last,v=>if op=248 then some (last,v,a) else match n with
  |0=>none
  |n+1=>(kE b op a last v).bind fun q=>fQ b n q.1 q.2.1 q.2.2.1 q.2.2.2
section
variable (b:List UInt8) (a0:Nat) (last:Int) (v:g6) (pX wide:Int)
noncomputable def Y3 (p:Nat×Nat):Option g6:=if p.1≠2 then none else if b.length-p.2<4∨((b.drop p.2).any fun x=>x != 223) then none else some { v with lX:=pX,widest:=wide }
noncomputable def Zf (p:Nat×Nat):Option g6:=if p.1≠a0-1 then none else (gu b p.2 1).bind (Y3 b v pX wide)
noncomputable def V6 (a:Nat):Option g6:=(gu b a 4).bind (Zf b a0 v pX wide)
noncomputable def V2 (p:Nat×Nat):Option g6:=if p.1≠v.ca.length%65536 then none else (jc b p.2 v.cJ).bind (V6 b a0 v pX wide)
noncomputable def Wm (p:Nat×Nat):Option g6:=if (p.1:Int)<v.il then none else (gu b p.2 2).bind (V2 b a0 v pX wide)
noncomputable def po5 (p:Int×Nat):Option g6:=(gu b p.2 2).bind (Wm b a0 v pX p.1)
noncomputable def po4 (p:Int×Nat):Option g6:=(mJ b p.2 4).bind (po5 b a0 v p.1)
noncomputable def Vm (p:(Int×Int×Int)×Nat):Option g6:=if p.1≠v.units then none else (mJ b p.2 4).bind (po4 b a0 v)
noncomputable def WD (p:Int×Nat):Option g6:=if p.1≠last then none else (nu b p.2).bind (Vm b a0 v)
end
noncomputable def sb (b:List UInt8) (a:Nat) (last:Int) (v:g6):Option g6:=(mJ b a 4).bind (WD b a last v)
section
variable (b:List UInt8) (u:Int×Int×Int)
noncomputable def fi6 (q:Int×g6×Nat):Option g6:=sb b q.2.2 q.1 q.2.1
noncomputable def fi5 (cm:List UInt8) (p:Nat×Nat):Option g6:=(fQ b (b.length-p.2) p.1 p.2 (-1) ⟨u,cm,[],[],0,0,0⟩).bind (fi6 b)
noncomputable def fi4 (p:List UInt8×Nat):Option g6:=(gu b p.2 1).bind (fi5 b u p.1)
noncomputable def fi3 (p:Nat×Nat):Option g6:=(wu b p.2 p.1).bind (fi4 b u)
noncomputable def Iq (p:(Int×Int×Int)×Nat):Option g6:=(gu b p.2 1).bind (fi3 b p.1)
noncomputable def VY (p:Nat×Nat):Option g6:=if p.1≠2 then none else (nu b p.2).bind (Iq b)
noncomputable def ZR (p:Nat×Nat):Option g6:=if p.1≠247 then none else (gu b p.2 1).bind (VY b)
end
noncomputable def iK (b:List UInt8):Option g6:=(gu b 0 1).bind (ZR b)
theorem CC (bs:List UInt8) (x:UInt8):be (bs++[x])=256*be bs+x.toNat:=by unfold be;rw[List.foldl_append];rfl
theorem J4 (b:List UInt8) (a i:Nat) (h:a+i<b.length):be ((b.drop a).take (i+1))=256*be ((b.drop a).take i)+(b.getD (a+i) 0).toNat:=by
 have:(b.drop a).take (i+1)=(b.drop a).take i++[b.getD (a+i) 0]:=by
  rw[gi,cD]
  congr 1
  rw[bt,aw h];rfl
 rw[this,CC]
theorem Mi (bs:List UInt8):be bs<256^bs.length:=by
 suffices h:∀(bs:List UInt8) (v k:Nat),v<256^k→bs.foldl (fun v x=>256*v+x.toNat) v<256^(k+bs.length) by
  have:=h bs 0 0 (by simp);simpa [be] using this
 intro bs
 induction bs with
 |nil=>intro v k h;simpa using h
 |cons x xs ih=>
  intro v k h
  have hx:=x.toNat_lt
  have:=ih (256*v+x.toNat) (k+1) (by rw[Nat.pow_succ];lia)
  rw[pB,cL]
  rwa [show k+(xs.length+1)=k+1+xs.length by exact aW [_,_] [] [] (.E (.a aB (.a aM bP)) (.a (.a aB bP) aM)) (.o ni ni) rfl]
theorem gL {b:List UInt8}{a r v a':Nat}(h:gu b a r=some (v,a')):a'=a+r∧a'≤b.length∧v<256^r:=by
 unfold gu at h
 split at h
 ·cases h
  have:=Mi ((b.drop a).take r)
  rw[cg,aJ,fv (by lia)] at this
  exact⟨rfl,by omega,this⟩
 ·exact nS h
theorem IB {b:List UInt8}{a r v a':Nat}(h:gu b a r=some (v,a')):mJ b a r=some (Rd v r,a'):=by unfold mJ;rw[h];rfl
theorem Ge {b:List UInt8}{a r:Nat}(h:gu b a r=none):mJ b a r=none:=by unfold mJ;rw[h];rfl
theorem oW {b:List UInt8}{a r a':Nat}{v:Int}(h:mJ b a r=some (v,a')):a'=a+r∧a'≤b.length:=by
 unfold mJ at h
 cases e:gu b a r with
 |none=>rw[e] at h;exact nS h
 |some p=>
  obtain⟨v0,a0⟩:=p
  rw[e] at h
  cases h
  have:=gL e
  exact⟨this.1,this.2.1⟩
theorem bS {α β:Type}{x:Option α}{y:α}{f:α→Option β}{r:Option β}(e:x=some y) (q:f y=r):x.bind f=r:=by rw[e];exact q
theorem bN {α β:Type}{x:Option α}{f:α→Option β}{r:Option β}(e:x=none) (q:none=r):x.bind f=r:=by rw[e];exact q
theorem mS {α β:Type}{x:Option α}{y:α}{f:α→β}{r:Option β}(e:x=some y) (q:some (f y)=r):x.map f=r:=by rw[e];exact q
theorem mN {α β:Type}{x:Option α}{f:α→β}{r:Option β}(e:x=none) (q:none=r):x.map f=r:=by rw[e];exact q
theorem iT {α:Type}{c:Prop} [Decidable c] {x y r:α}(h:c) (q:x=r):(if c then x else y)=r:=(if_pos h).trans q
theorem iF {α:Type}{c:Prop} [Decidable c] {x y r:α}(h:¬c) (q:y=r):(if c then x else y)=r:=(if_neg h).trans q
noncomputable def hN {α:Type}(o:Option α) (P:α→Prop):Prop:=∀x,o=some x→P x
section
variable {α β:Type}{P Q:α→Prop}{R:β→Prop}
theorem hN.none:hN (none:Option α) P:=fun _ e=>nomatch e
theorem hN.some {x:α}(h:P x):hN (some x) P:=fun _ e=>ae e▸h
theorem hN.ite {p:Prop} [d:Decidable p] {x y:Option α}(h1:p→hN x P) (h2:¬p→hN y P):hN (if p then x else y) P:=by
 cases d with
 |isTrue h=>exact h1 h
 |isFalse h=>exact h2 h
theorem hN.bind {o:Option β}{f:β→Option α}(h:∀x,o=.some x→hN (f x) P):hN (o.bind f) P:=by
 cases o with
 |none=>exact .none
 |some x=>exact h x rfl
theorem hN.cU {o:Option β}{f:β→Option α}(k:hN o R) (h:∀x,R x→hN (f x) P):hN (o.bind f) P:=.bind fun x e=>h x (k x e)
theorem hN.map {o:Option β}{f:β→α}(h:∀x,o=.some x→P (f x)):hN (o.map f) P:=by
 cases o with
 |none=>exact .none
 |some x=>exact .some (h x rfl)
theorem hN.jo {o:Option β}{f:β→α}(k:hN o R) (h:∀x,R x→P (f x)):hN (o.map f) P:=.map fun x e=>h x (k x e)
theorem hN.no {o:Option α}{p:Prop}(k:hN o fun _=>p) (h:¬p):o=.none:=by
 cases e:o with
 |none=>rfl
 |some x=>exact absurd (k x e) h
theorem hN.mono {o:Option α}(k:hN o P) (h:∀x,P x→Q x):hN o Q:=fun x e=>h x (k x e)
end
theorem HM {b t:List UInt8}{a r a':Nat}(h:wu b a r=some (t,a')):a'=a+r∧a'≤b.length:=by
 have k:hN (wu b a r) fun z=>z.2=a+r∧z.2≤b.length:=.ite (fun h=>.some ⟨rfl,h⟩) fun _=>.none
 exact k _ h
theorem Kt {b t:List UInt8}{a r a':Nat}(h:wu b a r=some (t,a')):t.length=r:=by
 have k:hN (wu b a r) fun z=>z.1.length=r:=.ite (fun h=>.some (by rw[cg,aJ];exact fv (Dw h))) fun _=>.none
 exact k _ h
noncomputable def eZ (kn:Known):Prop:=(kn.map (·.1)).Nodup∧∀k∈kn.map (·.1),k=3∨k=200
theorem eZ.nil:eZ []:=⟨gF,fun _ h=>by cases h⟩
theorem BC {l:List Int}(h:l.Nodup) (h2:∀k∈l,k=3∨k=200):l.length≤2:=by
 rcases l with _ | ⟨x,_ | ⟨y,_ | ⟨z,r⟩⟩⟩
 ·exact cQ _
 ·exact bX _
 ·exact aA _
 ·exfalso
  rw[dq,dq] at h
  have h1:x≠y:=fun e=>h.1 (e▸aI)
  have h3:x≠z:=fun e=>h.1 (e▸aG _ aI)
  have h4:y≠z:=fun e=>h.2.1 (e▸aI)
  have a:=h2 x aI
  have b:=h2 y (aG _ aI)
  have c:=h2 z (aG _ (aG _ aI))
  lia
theorem eZ.le {kn:Known}(h:eZ kn):kn.length≤2:=by
 have:=BC h.1 h.2
 rwa [aa] at this
theorem eZ.snoc {kn:Known}{k:Int}{r:mj}(h:eZ kn) (hk:kn.lookup k=none) (h3:k=3∨k=200):eZ (kn++[(k,r)]):=by
 unfold eZ
 rw[aF]
 refine⟨mZ.mpr ⟨h.1,dq.mpr ⟨bY,gF⟩,fun x hx y hy e=>?_⟩,fun x hx=>(eG.mp hx).elim (h.2 x) fun hx=>cT.mp hx▸h3⟩
 refine aq (dI.mp hx) fun p hp e2=>?_
 have h1:=gG.mp hk p hp
 have h2:k=p.1:=(cT.mp hy).symm.trans (e.symm.trans e2.symm)
 rw[h2,bne_self_eq_false] at h1
 exact fT h1
theorem uR {dk check size bW:Nat}{nm:List UInt8}(h:jq dk check size bW nm=true):(dk:Int)=3∨(dk:Int)=200:=by
 unfold jq sm at h
 by_cases h3:(dk:Int)=3
 ·exact .inl h3
 by_cases h4:(dk:Int)=200
 ·exact .inr h4
 rw[if_neg h3,if_neg h4] at h
 exact fT h
section
variable {b:List UInt8}{a r op w code:Nat}{s:fE}{mv:Bool}{x y f g n:Int}{kn:Known}
theorem DN:hN (gu b a r) fun z=>z.2=a+r∧z.2≤b.length:=.ite (fun h=>.some ⟨rfl,h⟩) fun _=>.none
theorem Jq:hN (mJ b a r) fun z=>z.2=a+r∧z.2≤b.length:=.jo DN fun _ h=>h
theorem DG:hN (gu b a r) fun z=>a≤z.2∧z.2≤b.length:=.ite (fun h=>.some ⟨bC a r,h⟩) fun _=>.none
theorem J2:hN (mJ b a r) fun z=>a≤z.2∧z.2≤b.length:=.jo DG fun _ h=>h
theorem tkO:hN (wu b a r) fun z=>a≤z.2∧z.2≤b.length:=.ite (fun h=>.some ⟨bC a r,h⟩) fun _=>.none
structure SR (n m:Nat) (s':fE):Prop where
 st:s'.stack.length≤n+1
 rw:s'.rows.length≤m+1
theorem VV {m k:Nat}(h:s.stack.length≤m+1) (h':s.rows.length≤k+1):hN (s.go x y) (SR m k):=.ite (fun _=>.some ⟨h,h'⟩) fun _=>.none
theorem SR.refl:SR s.stack.length s.rows.length s:=⟨bX _,bX _⟩
theorem yz:hN (s.uL code mv) (SR s.stack.length s.rows.length):=.bind fun _ _=>.ite (fun _=>VV (bX _) (bF ah)) fun _=>.some ⟨bX _,bF ah⟩
theorem Ml:hN (qx b a s mv) fun r=>SR s.stack.length s.rows.length r.1∧a≤r.2∧r.2≤b.length:=by
 refine .cU J2 fun u hu=>.cU J2 fun v hv=>?_
 have k:SR s.stack.length s.rows.length (MI s u.1 v.1):=by
  unfold MI
  split
  ·exact⟨bX _,bF ah⟩
  ·exact .refl
 exact .ite (fun _=>.jo (VV k.st k.rw) fun t ht=>⟨ht,az hu.1 hv.1,hv.2⟩) fun _=>.some ⟨k,az hu.1 hv.1,hv.2⟩
theorem CL:hN (s.choose n kn) (SR s.stack.length s.rows.length):=.ite (fun _=>.some ⟨bX _,bX _⟩) fun _=>.none
theorem Ye:hN s.pop (SR s.stack.length s.rows.length):=.map fun _ _=>⟨by rw[List.length_dropLast];exact bz (sM _ _),bX _⟩
theorem M9:hN (nG b w a f g) fun r=>a≤r.2∧(a≤b.length→r.2≤b.length):=
 .ite (fun _=>.jo J2 fun _ h=>⟨h.1,fun _=>h.2⟩) fun _=>.ite (fun _=>.ite (fun _=>.jo J2 fun _ h=>⟨h.1,fun _=>h.2⟩) fun _=>.some ⟨aA _,id⟩) fun _=>
  .ite (fun _=>.jo J2 fun _ h=>⟨h.1,fun _=>h.2⟩) fun _=>.some ⟨aA _,id⟩
theorem I6:hN (me b op a) fun r=>(a≤r.2∧r.2≤b.length)∧((r.1.1:Int)=3∨(r.1.1:Int)=200):=
 .cU DG fun _ h1=>.cU DG fun _ h2=>.cU DG fun _ h3=>.cU DG fun _ h4=>.cU DG fun _ h5=>.cU DG fun _ h6=>.cU tkO fun _ h7=>
  .ite (fun h=>.some ⟨⟨az h1.1 (az h2.1 (az h3.1 (az h4.1 (az h5.1 (az h6.1 h7.1))))),h7.2⟩,uR h⟩) fun _=>.none
theorem Er {a':Nat}{r:Nat×mj}(h:me b op a=some (r,a')):a≤a'∧a'≤b.length:=(I6 _ h).1
theorem NT:hN (lT b op a kn) fun r=>(a≤r.2∧r.2≤b.length∧r.1.length=kn.length+1)∧(eZ kn→eZ r.1):=
 .cU I6 fun _ h=>.ite (fun _=>.none) fun k=>.some ⟨⟨h.1.1,h.1.2,ah⟩,fun q=>q.snoc (kB.mp k) h.2⟩
structure uV (b:List UInt8) (a:Nat) (s:fE) (kn:Known) (r:fE×Known×Nat):Prop where
 le:a≤r.2.2
 in_:a≤b.length→r.2.2≤b.length
 sr:SR s.stack.length s.rows.length r.1
 kl:r.2.1.length≤kn.length+1
 ok:eZ kn→eZ r.2.1
theorem uV.same {s':fE}(h:SR s.stack.length s.rows.length s'):uV b a s kn (s',kn,a):=⟨aA _,id,h,bX _,id⟩
theorem uV.on {s':fE}{a':Nat}(h:SR s.stack.length s.rows.length s') (k:a≤a'∧a'≤b.length):uV b a s kn (s',kn,a'):=⟨k.1,fun _=>k.2,h,bX _,id⟩
theorem FG:hN (kD b op a s kn) (uV b a s kn):=
 .ite (fun _=>.jo yz fun _ h=>.same h) fun _=>.ite (fun _=>.cU DG fun _ k=>.jo yz fun _ h=>.on h k) fun _=>
 .ite (fun _=>.jo Ml fun _ h=>.on h.1 h.2) fun _=>.ite (fun _=>.cU DG fun _ k=>.jo yz fun _ h=>.on h k) fun _=>
 .ite (fun _=>.jo Ml fun _ h=>.on h.1 h.2) fun _=>.ite (fun _=>.some (.same .refl)) fun _=>
 .ite (fun _=>.some (.same ⟨bF ah,bX _⟩)) fun _=>.ite (fun _=>.jo Ye fun _ h=>.same h) fun _=>
 .ite (fun _=>.cU M9 fun _ k=>.jo (VV (bX _) (bX _)) fun _ h=>⟨k.1,k.2,h,bX _,id⟩) fun _=>
 .ite (fun _=>.cU M9 fun _ k=>.jo (VV (bX _) (bX _)) fun _ h=>⟨k.1,k.2,h,bX _,id⟩) fun _=>
 .ite (fun _=>.jo CL fun _ h=>.same h) fun _=>.ite (fun _=>.cU DG fun _ k=>.jo CL fun _ h=>.on h k) fun _=>
 .ite (fun _=>.cU DG fun _ k=>.jo tkO fun _ k'=>.on ⟨bX _,bF ah⟩ ⟨az k.1 k'.1,k'.2⟩) fun _=>
 .ite (fun _=>.jo NT fun _ h=>⟨h.1.1,fun _=>h.1.2.1,.refl,bF h.1.2.2,h.2⟩) fun _=>.none
end
end
section
theorem vJ (b:List UInt8) (i:Nat):∀a:Nat,zT b (i+1) a=(zT b i a).bind fun p=>(mJ b p.2 4).map fun q=>(p.1++[q.1],q.2):=by
 induction i with
 |zero=>
  intro a
  show(mJ b a 4).bind _=(mJ b a 4).map _
  cases mJ b a 4<;>rfl
 |succ i ih=>
  intro a
  show(mJ b a 4).bind _=((mJ b a 4).bind _).bind _
  cases mJ b a 4 with
  |none=>rfl
  |some p=>
   show(zT b (i+1) p.2).map _=((zT b i p.2).map _).bind _
   rw[ih]
   cases zT b i p.2 with
   |none=>rfl
   |some q=>
    show((mJ b q.2 4).map _).map _=(mJ b q.2 4).map _
    cases mJ b q.2 4<;>rfl
theorem Gj {b:List UInt8}{a j i:Nat}(h:zT b i a=none) (hi:i≤j):zT b j a=none:=by
 induction hi with
 |refl=>exact h
 |step _ ih=>rw[vJ,ih];rfl
theorem Ox {b:List UInt8}{i:Nat}:∀{a:Nat},hN (zT b i a) fun r=>r.2=a+4*i∧(a≤b.length→r.2≤b.length)∧r.1.length=i:=by
 induction i with
 |zero=>exact .some ⟨rfl,id,rfl⟩
 |succ i ih=>exact .cU Jq fun p h1=>.jo ih fun q h2=>⟨h2.1.trans (by rw[h1.1,Nat.mul_succ,nL,fJ 4]),fun _=>h2.2.1 h1.2,congrArg (·+1) h2.2.2⟩
theorem BJ {b:List UInt8}{a' i a:Nat}{vs:List Int}(h:zT b i a=some (vs,a')) (ha:a≤b.length):a'=a+4*i∧a'≤b.length∧vs.length=i:=
 have k:=Ox _ h
 ⟨k.1,k.2.1 ha,k.2.2⟩
theorem Eo {b:List UInt8}{op a a':Nat}{s s':fE}{kn pf:Known}(h:kD b op a s kn=some (s',pf,a')) (ha:a≤b.length) :
  a≤a'∧s'.stack.length≤s.stack.length+1∧s'.rows.length≤s.rows.length+1∧pf.length≤kn.length+1:=
 have k:=FG _ h
 ⟨k.le,k.sr.st,k.sr.rw,k.kl⟩
section
variable {b:List UInt8}{n op a a' tc VQ:Nat}{s s':fE}{kn pf told:Known}
theorem uv (n:Nat):gQ b n 140 a s kn=some (s,kn,a):=by cases n<;>exact if_pos rfl
theorem vj (ho:op≠140) (h:kD b op a s kn=none):gQ b n op a s kn=none:=by
 cases n with
 |zero=>exact if_neg ho
 |succ n=>exact iF ho (bN h rfl)
theorem Bf (ho:op≠140) (h:kD b op a s kn=some (s',pf,a')) (h2:gu b a' 1=none):gQ b n op a s kn=none:=by
 cases n with
 |zero=>exact if_neg ho
 |succ n=>exact iF ho (bS h (bN h2 rfl))
theorem EW (ho:op≠140) (hn:b.length-a≤n) (ha:a≤b.length) (h:kD b op a s kn=some (s',pf,a')) (h2:gu b a' 1=some (tc,VQ)) :
  ∃n',n=n'+1∧gQ b n op a s kn=gQ b n' tc VQ s' pf∧b.length-VQ≤n':=by
 have h3:=gL h2
 have h4:=Eo h ha
 cases n with
 |zero=>exact(aW [_,_,_,_,_] [] [.E aB (.a aM bP),.L aB cf,.L fz aM,.fs jh cf fz] (.N (.L jh dE)) (.o (.k [1,0,0,1,1,1,0,1]) (.k [0,1,0,0,1,1,0,1])) rfl h3.1 h3.2.1 h4.1 (eR _ _) hn).elim
 |succ n=>
  exact⟨n,rfl,iF ho (bS h (bS h2 rfl)),by exact aW [_,_,_,_,_,_,_] [] [.E aB (.a aM bP),.L cf aM,.L fz (.a jh bP),.fs qE (.v 6) aB,.fs fz (.v 6) cf] (.L qE jh) (.o (.o (.k [1,0,0,1,0,1,0,1,1,0,1]) (.k [1,1,0,0,0,1,0,0,1,0,1])) (.o pJ pJ)) rfl h3.1 h4.1 hn (eR _ _) (eR _ _)⟩
end
end
section
section
variable {b:List UInt8}{n op a a' tc VQ dk:Nat}{s s':fE}{kn pf told:Known}{row:mj}{last:Int}{v:g6}
theorem sf {a a' n:Nat}(h:a+1≤a'∧a'≤b.length) (hn:b.length-a≤n):∃n',n=n'+1∧b.length-a'≤n':=by
 cases n with
 |zero=>exact(aW [_,_,_,_] [] [.A (.L (.a aB bP) aM) (.L aM cf),.fs fz cf aB] (.N (.L fz dE)) (.o (.k [1,0,0,1,1,1]) (.k [0,1,0,0,1,1])) rfl h (eR _ _) hn).elim
 |succ n=>exact⟨n,rfl,fp (aV (Fo (aV h.1 h.2) h.1) hn)⟩
theorem EU:hN (gu b a 1) fun z=>a+1≤z.2∧z.2≤b.length:=.ite (fun h=>.some ⟨aA _,h⟩) fun _=>.none
theorem uC (n:Nat):gO b kn n 249 a told=some (told,a):=by cases n<;>exact if_pos rfl
theorem w8 (ho:op≠249) (h:mn b kn op a told=none):gO b kn n op a told=none:=by
 cases n with
 |zero=>exact if_neg ho
 |succ n=>exact iF ho (bN h rfl)
theorem CI:hN (mn b kn op a told) fun q=>a+1≤q.2.1∧q.2.1≤b.length:=
 .ite (fun _=>.cU I6 fun _ h=>.ite (fun _=>.none) fun _=>.jo EU fun _ k=>⟨az (gR h.1.1) k.1,k.2⟩) fun _=>.ite (fun _=>.none) fun _=>.jo EU fun _ k=>k
theorem Ei {q:UJ}(ho:op≠249) (h:mn b kn op a told=some q) (hn:b.length-a≤n):∃n',n=n'+1∧gO b kn n op a told=gO b kn n' q.1 q.2.1 q.2.2∧b.length-q.2.1≤n':=by
 refine aq (sf (CI _ h) hn) fun n' e k=>?_
 subst e
 exact⟨n',rfl,iF ho (bS h rfl),k⟩
theorem vk (n:Nat):fQ b n 248 a last v=some (last,v,a):=by cases n<;>exact if_pos rfl
theorem sv (ho:op≠248) (h:kE b op a last v=none):fQ b n op a last v=none:=by
 cases n with
 |zero=>exact if_neg ho
 |succ n=>exact iF ho (bN h rfl)
theorem Ki {n:Nat}:∀{op a:Nat}{s:fE}{kn:Known},hN (gQ b n op a s kn) fun r=>a≤r.2.2∧(eZ kn→eZ r.2.1):=by
 induction n with
 |zero=>exact .ite (fun _=>.some ⟨aA _,id⟩) fun _=>.none
 |succ n ih=>exact .ite (fun _=>.some ⟨aA _,id⟩) fun _=>.cU FG fun _ h1=>.cU DG fun _ h2=>ih.mono fun _ h3=>⟨az h1.le (az h2.1 h3.1),fun k=>h3.2 (h1.ok k)⟩
theorem Dg:hN (nC b last a kn) fun r=>a+40≤r.2.2∧(eZ kn→eZ r.2.1):=
 .cU Ox fun _ h1=>.cU J2 fun _ h2=>.ite (fun _=>.none) fun _=>.cU DG fun _ h3=>.cU Ki fun _ h4=>.ite (fun _=>.none) fun _=>.some ⟨az (bF h1.1.symm) (az h2.1 (az h3.1 h4.1)),h4.2⟩
structure MnK (b:List UInt8) (a:Nat) (v:g6) (q:LV):Prop where
 le:a+1≤q.2.1∧q.2.1≤b.length
 u:q.2.2.2.units=v.units
 c:q.2.2.2.comment=v.comment
 p:40*v.ca.length≤a→40*q.2.2.2.ca.length≤q.2.1
 k:eZ v.cJ→eZ q.2.2.2.cJ
 n:q.2.2.2.ca.length≤v.ca.length+1
theorem tW:hN (kE b op a last v) (MnK b a v):=
 .ite (fun _=>.cU Dg fun _ h=>.jo EU fun _ k=>⟨⟨az (az (bC (a+1) 40) (bF (sN a 1 40))) (az (gR h.1) k.1),k.2⟩,rfl,rfl,fun hp=>by
   show 40*(_++[_]).length≤_
   rw[ah]
   exact az (cR hp 40) (az h.1 (m9 k.1)),h.2,bF ah⟩) fun _=>
 .ite (fun _=>.cU NT fun _ h=>.jo EU fun _ k=>⟨⟨az (gR h.1.1) k.1,k.2⟩,rfl,rfl,fun hp=>az hp (az h.1.1 (m9 k.1)),h.2,bX _⟩) fun _=>
 .ite (fun _=>.none) fun _=>.jo EU fun _ k=>⟨k,rfl,rfl,fun hp=>az hp (m9 k.1),id,bX _⟩
theorem D0 {q:LV}(ho:op≠248) (h:kE b op a last v=some q) (hn:b.length-a≤n):∃n',n=n'+1∧fQ b n op a last v=fQ b n' q.1 q.2.1 q.2.2.1 q.2.2.2∧b.length-q.2.1≤n':=by
 refine aq (sf (tW _ h).le hn) fun n' e k=>?_
 subst e
 exact⟨n',rfl,iF ho (bS h rfl),k⟩
theorem TJ:hN (sb b a last v) fun v'=>v'.ca=v.ca∧v'.cJ=v.cJ:=
 .bind fun _ _=>.ite (fun _=>.none) fun _=>.bind fun _ _=>.ite (fun _=>.none) fun _=>.bind fun _ _=>.bind fun _ _=>.bind fun _ _=>.ite (fun _=>.none) fun _=>.bind fun _ _=>.ite (fun _=>.none) fun _=>
 .bind fun _ _=>.bind fun _ _=>.ite (fun _=>.none) fun _=>.bind fun _ _=>.ite (fun _=>.none) fun _=>.ite (fun _=>.none) fun _=>.some ⟨rfl,rfl⟩
end
end
section
section
variable {b:List UInt8}{op a a' n:Nat}{s s':fE}{kn pf:Known}{last td:Int}{v v':g6}
theorem Mu {n:Nat}:∀{op a:Nat}{last:Int}{v:g6},hN (fQ b n op a last v) fun r=>eZ v.cJ→eZ r.2.1.cJ:=by
 induction n with
 |zero=>exact .ite (fun _=>.some id) fun _=>.none
 |succ n ih=>exact .ite (fun _=>.some id) fun _=>.cU tW fun _ h=>ih.mono fun _ k q=>k (h.k q)
theorem Tt:hN (iK b) fun v=>eZ v.cJ:=
 .bind fun _ _=>.ite (fun _=>.none) fun _=>.bind fun _ _=>.ite (fun _=>.none) fun _=>.bind fun _ _=>.bind fun _ _=>.bind fun _ _=>.bind fun _ _=>.cU Mu fun _ h=>.mono TJ fun _ k=>k.2▸h eZ.nil
theorem DE (h:iK b=some v):eZ v.cJ:=Tt _ h
end
end
section
structure fK where
 (op place:Nat)
 args:List UInt8
noncomputable def Mo:List Nat:=[1,2,3,4,0,1,2,3,4,0,1,2,3,4]
noncomputable def qM:List Nat:=bH 128 0++[1,2,3,4,8,1,2,3,4,8]++[0,44,0,0,0]++(Mo++Mo)++bH 64 0++[1,2,3,4]
noncomputable def c0 (b:List UInt8) (x y:Nat):List UInt8:=(b.drop x).take (y-x)
noncomputable def Ai (b:List UInt8):Nat:=(b.map UInt8.toNat).sum
noncomputable def aO (b:List UInt8) (op p:Nat):Nat:=
 if op<239 then p+1+qM.getD op 0
 else if op<243 then p+1+(op-238)+be (c0 b (p+1) (p+1+(op-238)))
 else if op<247 then p+1+(op-242+14)+Ai (c0 b (p+1+(op-242+14)-2) (p+1+(op-242+14)))
 else if op=247 then p+1+14+Ai (c0 b (p+1+14-1) (p+1+14))
 else if op=248 then p+1+28
 else if op=249 then b.length
 else p+1
noncomputable def jB (b:List UInt8):Nat→Nat→List fK→Option (List fK)
 |n,p,found=>if p<b.length then match n with
   |0=>none
   |n+1=>
    let op:=(b.getD p 0).toNat
    let e:=aO b op p
    if op>249∨e>b.length then none
    else if op=249 then some (found++[⟨op,p,c0 b (p+1) e⟩])
    else jB b n e (found++[⟨op,p,c0 b (p+1) e⟩])
  else none
noncomputable def jH (bs:List UInt8):Int:=(be bs:Int)-(if (bs.getD 0 0).toNat>127 then (256:Int)^bs.length else 0)
noncomputable def three (bs:List UInt8):Int×Int×Int:=(jH (c0 bs 0 4),jH (c0 bs 4 8),jH (c0 bs 8 12))
noncomputable def Wc (dk check size bW fk:Nat) (name:List UInt8):Option (Nat×mj):=if jq dk check size bW (name.drop fk) then some (dk,⟨check,size,bW,fk,name⟩) else none
@[irreducible] noncomputable def ma (args:List UInt8) (room:Nat):Option (Nat×mj):=Wc (be (c0 args 0 room)) (be (c0 args room (room+4))) (be (c0 args (room+4) (room+8))) (be (c0 args (room+8) (room+12))) (args.getD (room+12) 0).toNat (args.drop (room+14))
theorem qN (b:List UInt8) (x y:Nat):(c0 b x y).length≤b.length:=by
 unfold c0;rw[cg,aJ];exact aW [_,_,_,_,_] [] [.fs aB aM cf,.fm fz jh aB] (.L fz aM) (.o (.o (.k [1,1,1,0,0,1]) ui) (.o (.k [1,1,1,0,0,1]) ui)) rfl (eR _ _) (AJ _ _)
theorem kQ (b:List UInt8){x y:Nat}(h:y≤b.length):(c0 b x y).length=y-x:=by
 unfold c0;rw[cg,aJ];exact aW [_,_,_,_,_,_] [] [.L aB aM,.fs cf aB fz,.fs jh aM fz,.fm qE cf jh] (.E qE cf) (.o (.o (.o (.o jf cM) (.o (.k [1,0,0,1,0,0,1,0,1,0,1]) uc)) (.o (.o jf cM) (.o (.k [1,0,0,0,1,0,0,0,1,0,1]) uc))) (.o (.o (.o jf cM) (.o (.k [1,0,0,0,0,0,0,0,1]) uc)) (.o (.o jf cM) (.o (.k [1,0,0,0,0,0,0,0,1]) uc)))) rfl h (eR _ _) (eR _ _) (AJ _ _)
theorem jV {b:List UInt8}{op p:Nat}(hp:p<b.length):p<aO b op p:=by
 unfold aO
 repeat' split
 all_goals omega
noncomputable def uG (fn ck:Nat) (codes:List UInt8) (dk check size bW:Nat) (nm:List UInt8):Prop:=dk=fn∧size=655360∧nm=codes∧0<bW∧bW<134217728∧(check*ck=0∨check*ck=ck*ck)
theorem qu {dk check size bW:Nat}{nm:List UInt8}:jq dk check size bW nm=true↔uG 3 0 [102,99] dk check size bW nm∨uG 200 77 [102,104,122] dk check size bW nm:=by
 unfold jq sm uG
 by_cases h:dk=3
 ·subst h
  simp
  exact⟨fun⟨⟨⟨h1,h2⟩,h3⟩,h4⟩=>⟨h1,h4,h2,by exact oH h3 rfl⟩,fun⟨h1,h4,h2,h3⟩=>⟨⟨⟨h1,h2⟩,by exact rD h3 rfl⟩,h4⟩⟩
 ·by_cases h':dk=200
  ·subst h'
   simp
   constructor
   ·rintro⟨⟨⟨⟨h1,h2⟩,h3⟩,h4⟩,h5⟩
    exact⟨h1,h5,h2,by exact oH h3 rfl,by lia⟩
   ·rintro⟨h1,h5,h2,h3,h4⟩
    exact⟨⟨⟨⟨h1,h2⟩,by exact rD h3 rfl⟩,by lia⟩,h5⟩
  ·simp[show ¬((dk:Int)=3) by exact aW [_] [] [.N (.E aB pM)] (.N (.e aB pM)) (.o xn cM) rfl h,show ¬((dk:Int)=200) by exact aW [_] [] [.N (.E aB (.l 200))] (.N (.e aB (.l 200))) (.o xn cM) rfl h',h,h']
end
section
structure ka where
 sp:List Int
 kept:List (List Int)
 rows:List n9
 deep:Int
 chosen:Int
section
variable (ax w:Nat) (args:List UInt8) (sp:List Int)
noncomputable def Jw:Nat:=2+2*ax+(if w>8 then 1 else 0)
noncomputable def KO:Int:=if args.length=0 then sp.getD (Jw ax w) 0 else jH args
noncomputable def Q0:List Int:=if w>3 then sp.set (Jw ax w) (KO ax w args sp) else sp
noncomputable def I8:List Int:=(Q0 ax w args sp).set ax ((Q0 ax w args sp).getD ax 0+KO ax w args sp)
end
noncomputable def lg (op:Nat) (args:List UInt8) (sp:List Int):List Int:=I8 ((op-143) / 14) ((op-143)%14) args sp
section
variable (op:Nat) (args:List UInt8) (sp:List Int) (chosen:Int) (rows:List n9) (h w:Int)
noncomputable def xj:List Int:=if op<133 then sp.set 0 (sp.getD 0 0+w) else sp
noncomputable def drR:List Int×List n9:=(xj op sp w,if min h w>0 then rows++[.rule (sp.getD 0 0) (sp.getD 1 0) h w] else rows)
noncomputable def drC (code:Nat):List Int×List n9:=(xj op sp w,rows++[.char (sp.getD 0 0) (sp.getD 1 0) chosen code])
noncomputable def Tz (code:Nat):Option (List Int×List n9):=((sE chosen).lookup (code:Int)).map fun w=>drC op sp chosen rows w code
noncomputable def mi:Option (List Int×List n9):=if op=132∨op=137 then some (drR op sp rows (jH (c0 args 0 4)) (jH (args.drop 4))) else Tz op sp chosen rows (if op<128 then op else be args)
end
noncomputable def Qb (kn:Known) (q:Nat×mj):Option Known:=if (kn.lookup (q.1:Int)).isSome then none else some (kn++[((q.1:Int),q.2)])
noncomputable def iD (op:Nat) (args:List UInt8) (kn:Known):Option Known:=(ma args (op-242)).bind (Qb kn)
noncomputable def ZO (c:fK):Int:=if c.op>234 then (be c.args:Int) else (c.op:Int)-171
section
variable (c:fK) (s:ka) (kn:Known)
noncomputable def XU:Option (ka×Known):=if c.op≠138 then none else some (s,kn)
noncomputable def R3:Option (ka×Known):=if 243≤c.op∧c.op<247 then (iD c.op c.args kn).map fun k=>(s,k) else XU c s kn
noncomputable def S8:Option (ka×Known):=if 239≤c.op∧c.op<243 then some ({ s with rows:=s.rows++[.spec (s.sp.getD 0 0) (s.sp.getD 1 0) (c.args.drop (c.op-238))] },kn) else R3 c s kn
noncomputable def II:Option (ka×Known):=if (kn.lookup (ZO c)).isSome then some ({ s with chosen:=ZO c },kn) else none
noncomputable def TB:Option (ka×Known):=if 171≤c.op∧c.op<239 then II c s kn else S8 c s kn
noncomputable def RM:Option (ka×Known):=if 143≤c.op∧c.op<171 then some ({ s with sp:=lg c.op c.args s.sp },kn) else TB c s kn
noncomputable def Zg:Option (ka×Known):=if c.op=142∧s.kept≠[] then some ({ s with kept:=s.kept.dropLast,sp:=s.kept.getLast?.getD [] },kn) else RM c s kn
noncomputable def YZ:Option (ka×Known):=if c.op=141 then some ({ s with kept:=s.kept++[s.sp],deep:=max s.deep (s.kept.length+1) },kn) else Zg c s kn
noncomputable def g8:Option (ka×Known):=if c.op<138 then (mi c.op c.args s.sp s.chosen s.rows).map fun p=>({ s with sp:=p.1,rows:=p.2 },kn) else YZ c s kn
end
section
variable {c:fK}{s:ka}{kn:Known}
theorem CB (h:143≤c.op):g8 c s kn=RM c s kn:=iF (Ax h rfl) (iF (T9 h rfl) (if_neg (LO (T9 h rfl))))
theorem Dn (h:171≤c.op):g8 c s kn=TB c s kn:=(CB (f9 28 h rfl)).trans (if_neg (Li h rfl))
theorem CK (h:239≤c.op):g8 c s kn=S8 c s kn:=(Dn (f9 68 h rfl)).trans (if_neg (Li h rfl))
theorem C3 (h:243≤c.op):g8 c s kn=R3 c s kn:=(CK (f9 4 h rfl)).trans (if_neg (Li h rfl))
theorem uU (h:143≤c.op∧c.op<171):g8 c s kn=some ({ s with sp:=lg c.op c.args s.sp },kn):=(CB h.1).trans (if_pos h)
theorem uN (h:171≤c.op∧c.op<239):g8 c s kn=II c s kn:=(Dn h.1).trans (if_pos h)
theorem zi (h:239≤c.op∧c.op<243):g8 c s kn=some ({ s with rows:=s.rows++[.spec (s.sp.getD 0 0) (s.sp.getD 1 0) (c.args.drop (c.op-238))] },kn):=(CK h.1).trans (if_pos h)
theorem zB (h:243≤c.op∧c.op<247):g8 c s kn=(iD c.op c.args kn).map fun k=>(s,k):=(C3 h.1).trans (if_pos h)
theorem Di (h1:¬c.op<138) (h2:c.op≠141) (h3:¬(c.op=142∧s.kept≠[])) (h4:¬(143≤c.op∧c.op<247)) (h5:c.op≠138):g8 c s kn=none:=
 iF h1 (iF h2 (iF h3 (iF (Kb h4 rfl rfl) (iF (Kb h4 rfl rfl) (iF (Kb h4 rfl rfl) (iF (Kb h4 rfl rfl) (if_pos h5)))))))
end
noncomputable def Le (sp:List Int):Bool:=decide ((sp.getD 0 0).natAbs≤2147483647∧(sp.getD 1 0).natAbs≤2147483647)
noncomputable def ZP (q:ka×Known):Option (ka×Known):=if Le q.1.sp then some q else none
noncomputable def Es (c:fK) (s:ka) (kn:Known):Option (ka×Known):=(g8 c s kn).bind ZP
noncomputable def la:List fK→ka→Known→Option (ka×Known×List fK)
 |[],_,_=>none
 |c::r,s,kn=>if c.op=140 then (if s.kept=[] then some (s,kn,r) else none) else (Es c s kn).bind fun q=>la r q.1 q.2
noncomputable def TZ:ka:=⟨[0,0,0,0,0,0],[],[],0,-1⟩
noncomputable def BI (ks:List Int):List Int:=ks.mergeSort fun a b=>decide (a≤b)
noncomputable def Dh (args:List UInt8) (told kn:Known):Bool:=decide (BI (told.map (·.1))=BI (kn.map (·.1)))&&decide (args.drop 5=bH (args.length-5) 223)
noncomputable def YV (args:List UInt8) (told kn:Known):Bool:=if (args.getD 4 0).toNat≠2 then false else Dh args told kn
noncomputable def Z3 (place:Nat) (args:List UInt8) (told kn:Known):Bool:=if be (c0 args 0 4)≠place then false else YV args told kn
noncomputable def vz (place:Nat) (args:List UInt8) (told kn:Known):Bool:=if args.length<9 then false else Z3 place args told kn
noncomputable def Yi (kn told:Known) (q:Nat×mj):Option Known:=if (told.lookup (q.1:Int)).isSome∨kn.lookup (q.1:Int)≠some q.2 then none else some (told++[((q.1:Int),q.2)])
noncomputable def le2 (c:fK) (told:Known):Option Known:=if c.op≠138 then none else some told
noncomputable def oX (kn:Known) (c:fK) (told:Known):Option Known:=if 243≤c.op∧c.op<247 then (ma c.args (c.op-242)).bind (Yi kn told) else le2 c told
noncomputable def nX (place:Nat) (kn:Known):List fK→Known→Bool
 |[],_=>false
 |c::r,told=>if c.op=249 then vz place c.args told kn else iq (oX kn c told) false (nX place kn r)
structure k8 where
 known:Known
 ca:List (List Int×List n9)
 last:Int
 deep:Int
noncomputable def yc (args:List UInt8):List Int:=(bh 10).map fun k=>jH (c0 args (4*k) (4*k+4))
noncomputable abbrev OJ:=List fK×k8
noncomputable def lm1 (c:fK) (v:k8) (q:ka×Known×List fK):OJ:=(q.2.2,{ known:=q.2.1,ca:=v.ca++[(yc c.args,q.1.rows)],last:=c.place,deep:=max v.deep q.1.deep })
noncomputable def lm2 (r:List fK) (v:k8) (kn:Known):OJ:=(r,{ v with known:=kn })
noncomputable def lm3 (c:fK) (r:List fK) (v:k8):Option OJ:=if c.op≠138 then none else some (r,v)
noncomputable def lm4 (c:fK) (r:List fK) (v:k8):Option OJ:=if 243≤c.op∧c.op<247 then (iD c.op c.args v.known).map (lm2 r v) else lm3 c r v
noncomputable def lp (c:fK) (r:List fK) (v:k8):Option OJ:=if c.op=139∧jH (c.args.drop 40)=v.last then (la r TZ v.known).map (lm1 c v) else lm4 c r v
noncomputable def mV:Nat→List fK→k8→Option (k8×List fK)
 |_,[],_=>none
 |n,c::r,v=>if c.op=248 then some (v,c::r) else match n with
  |0=>none
  |n+1=>(lp c r v).bind fun q=>mV n q.1 q.2
structure wo where
 scale:Int×Int×Int
 comment:List UInt8
 ca:List (List Int×List n9)
 pX:Int
 wide:Int
 deep:Int
 known:Known
noncomputable def lf5 (sc:Int×Int×Int) (cm:List UInt8) (v:k8) (p:fK):Option wo:=if (be (c0 p.args 24 26):Int)<v.deep∨be (p.args.drop 26)≠v.ca.length then none else
 some ⟨sc,cm,v.ca,jH (c0 p.args 16 20),jH (c0 p.args 20 24),v.deep,v.known⟩
noncomputable def VF (sc:Int×Int×Int) (cm:List UInt8) (v:k8) (p:fK) (r:List fK):Option wo:=if jH (c0 p.args 0 4)≠v.last∨three (p.args.drop 4)≠sc∨nX p.place v.known r []=false then none else lf5 sc cm v p
noncomputable def QX (sc:Int×Int×Int) (cm:List UInt8) (q:k8×List fK):Option wo:=match q.2 with
 |[]=>none
 |p::r=>VF sc cm q.1 p r
noncomputable def Vr (sc:Int×Int×Int) (cm:List UInt8) (cs:List fK):Option wo:=if min (min sc.1 sc.2.1) sc.2.2≤0 then none else (mV cs.length cs ⟨[],[],-1,0⟩).bind (QX sc cm)
noncomputable def Oc (c:fK) (cs:List fK):Option wo:=if c.op≠247∨(c.args.getD 0 0).toNat≠2 then none else Vr (three (c.args.drop 1)) (c.args.drop 14) cs
noncomputable def V9:List fK→Option wo
 |[]=>none
 |c::cs=>Oc c cs
noncomputable def rF (b:List UInt8):Option wo:=(jB b b.length 0 []).bind V9
structure rN (c:fK):Prop where
 op:c.op≤249
 short:c.op<239→c.args.length=qM.getD c.op 0
 spec:239≤c.op→c.op<243→c.op-238≤c.args.length
 qK:243≤c.op→c.op<247→c.op-242+14≤c.args.length
 pre:c.op=247→14≤c.args.length
 post:c.op=248→c.args.length=28
 small:c.args.length≤100000
noncomputable def Ends (l:List fK):Prop:=∃l' c,l=l'++[c]∧c.op=249
theorem Ends.tail {c:fK}{r:List fK}(h:Ends (c::r)) (hc:c.op≠249):Ends r:=by
 refine cB h fun l' d e hd=>?_
 clear h
 cases l' with
 |nil=>cases e;exact absurd hd hc
 |cons x l'=>cases e;exact⟨l',d,rfl,hd⟩
theorem Ends.ne {l:List fK}(h:Ends l):l≠[]:=by
 refine cB h fun l' c e _=>?_;clear h;rw[e];exact rT _ (JD _ _)
theorem DX {b:List UInt8}{op p:Nat}(hb:b.length≤100000) (hp:p<b.length) (ho:op≤249) (he:aO b op p≤b.length):rN ⟨op,p,c0 b (p+1) (aO b op p)⟩:=by
 have hl:(c0 b (p+1) (aO b op p)).length=aO b op p-(p+1):=kQ b he
 refine⟨ho,fun h=>?_,fun h1 h2=>?_,fun h1 h2=>?_,fun h=>?_,fun h=>?_,?_⟩
 all_goals dsimp only at *
 ·rw[hl];unfold aO;rw[if_pos h];exact aW [_,_,_] [] [.fs aB (.a (.a aM bP) cf) (.a aM bP)] (.E aB cf) (.o (.o jf cM) (.o cI cM)) rfl (eR _ _)
 ·rw[hl];unfold aO;rw[if_neg (by exact bL h1),if_pos h2];exact aW [_,_,_,_] [] [.fs aB (.a (.a (.a aM bP) cf) fz) (.a aM bP)] (.L cf aB) (.o jf cI) rfl (eR _ _)
 ·rw[hl];unfold aO;rw[if_neg (by exact Ax h1 rfl),if_neg (by exact bL h1),if_pos h2];exact aW [_,_,_,_] [] [.fs aB (.a (.a (.a aM bP) (.a cf (.l 14))) fz) (.a aM bP)] (.L (.a cf (.l 14)) aB) (.o jf xM) rfl (eR _ _)
 ·rw[hl];unfold aO;rw[if_neg (by exact uO h rfl),if_neg (by exact uO h rfl),if_neg (by exact uO h rfl),if_pos h];exact aW [_,_,_] [] [.fs aB (.a (.a (.a aM bP) (.l 14)) cf) (.a aM bP)] (.L (.l 14) aB) (.o jf xM) rfl (eR _ _)
 ·rw[hl];unfold aO;rw[if_neg (by exact uO h rfl),if_neg (by exact uO h rfl),if_neg (by exact uO h rfl),if_neg (by exact gY (qP h rfl)),if_pos h];exact aW [_,_] [] [.fs aB (.a (.a aM bP) (.l 28)) (.a aM bP)] (.E aB (.l 28)) (.o (.o jf cM) (.o xM cM)) rfl (eR _ _)
 ·rw[hl];exact rG (az he hb)
theorem Lo {b:List UInt8}(hb:b.length≤100000){n:Nat}:∀{p:Nat}{found cs:List fK},jB b n p found=some cs→(∀c∈found,rN c)→(∀c∈cs,rN c)∧Ends cs:=by
 suffices H:∀{p:Nat}{found:List fK},(∀c∈found,rN c)→hN (jB b n p found) fun cs=>(∀c∈cs,rN c)∧Ends cs from fun{p found cs} h hf=>H hf _ h
 induction n with
 |zero=>exact fun _=>by unfold jB;exact .ite (fun _=>.none) fun _=>.none
 |succ n ih=>
  intro p found hf
  unfold jB
  refine .ite (fun hp=>.ite (fun _=>.none) fun h1=>?_) fun _=>.none
  have hf':∀c∈found++[⟨(b.getD p 0).toNat,p,c0 b (p+1) (aO b (b.getD p 0).toNat p)⟩],rN c:=fun c hc=>(eG.mp hc).elim (hf c) fun hc=>
   cT.mp hc▸DX hb hp (aS fun q=>h1 (.inl q)) (aS fun q=>h1 (.inr q))
  exact .ite (fun h2=>.some ⟨hf',_,_,rfl,h2⟩) fun _=>ih hf'
end
section
section
variable {place op p dk n:Nat}{kn told:Known}{args:List UInt8}{r:List fK}{c:fK}{v:k8}
theorem HR (h:c.op=249):nX place kn (c::r) told=vz place c.args told kn:=if_pos h
theorem CY (h1:c.op≠249) (h:oX kn c told=none):nX place kn (c::r) told=false:=iF h1 (oN h)
theorem yo {t:Known}(h1:c.op≠249) (h:oX kn c told=some t):nX place kn (c::r) told=nX place kn r t:=iF h1 (oB h)
theorem pQ (h:c.op=248):mV n (c::r) v=some (v,c::r):=by cases n<;>exact if_pos h
theorem kA (h1:c.op≠248) (h:lp c r v=none):mV n (c::r) v=none:=by
 cases n with
 |zero=>exact if_neg h1
 |succ n=>exact iF h1 (bN h rfl)
theorem mP {q:OJ}(h1:c.op≠248) (h:lp c r v=some q):mV (n+1) (c::r) v=mV n q.1 q.2:=iF h1 (bS h rfl)
theorem Hf {room:Nat}:hN (ma args room) fun q=>(q.1:Int)=3∨(q.1:Int)=200:=by
 unfold ma
 exact .ite (fun h=>.some (uR h)) fun _=>.none
theorem DO {room dk:Nat}{row:mj}(h:ma args room=some (dk,row)):(dk:Int)=3∨(dk:Int)=200:=Hf _ h
theorem BR:hN (iD op args kn) fun k=>(eZ kn→eZ k)∧k.length=kn.length+1:=
 .cU Hf fun _ h=>.ite (fun _=>.none) fun k=>.some ⟨fun q=>q.snoc (kB.mp k) h,ah⟩
theorem Em {pf:Known}(h:iD op args kn=some pf) (hk:eZ kn):eZ pf:=(BR _ h).1 hk
theorem Yg {s:ka}(hk:eZ kn):hN (g8 c s kn) fun q=>eZ q.2:=
 .ite (fun _=>.map fun _ _=>hk) fun _=>.ite (fun _=>.some hk) fun _=>.ite (fun _=>.some hk) fun _=>.ite (fun _=>.some hk) fun _=>.ite (fun _=>.ite (fun _=>.some hk) fun _=>.none) fun _=>
 .ite (fun _=>.some hk) fun _=>.ite (fun _=>.jo BR fun _ h=>h.1 hk) fun _=>.ite (fun _=>.none) fun _=>.some hk
theorem HG {s:ka}(h:c.op=249):g8 c s kn=none:=(C3 (DH h rfl)).trans (iF (Yp h rfl) (if_pos (gY (qP h rfl))))
structure RwK (l:List fK) (kn:Known) (q:ka×Known×List fK):Prop where
 k:eZ kn→eZ q.2.1
 e:Ends l→Ends q.2.2
 n:q.2.2.length<l.length
theorem Mq:∀{s:ka}{kn:Known},eZ kn→hN (la r s kn) (RwK r kn):=by
 induction r with
 |nil=>exact fun _=>.none
 |cons c r ih=>
  intro s kn hk
  refine .ite (fun h=>.ite (fun _=>.some ⟨id,fun e=>e.tail (bV (vc h rfl)),d6 _⟩) fun _=>.none) fun h=>.bind fun q e=>?_
  have k:hN (Es c s kn) fun q=>eZ q.2∧c.op≠249:=.bind fun q e=>.ite (fun _=>.some ⟨Yg hk _ e,fun z=>by rw[HG z] at e;exact nS e⟩) fun _=>.none
  exact(ih (k _ e).1).mono fun _ z=>⟨fun _=>z.k (k _ e).1,fun y=>z.e (y.tail (k _ e).2),j6 z.n⟩
theorem Cy:∀{s:ka}{kn:Known},hN (la r s kn) fun q=>q.2.2.length<r.length:=by
 induction r with
 |nil=>exact fun{_ _}=>.none
 |cons c r ih=>exact fun{_ _}=>.ite (fun _=>.ite (fun _=>.some (d6 _)) fun _=>.none) fun _=>.bind fun _ _=>ih.mono fun _ h=>j6 h
theorem Dj:hN (lp c r v) fun q=>q.1.length≤r.length:=
 .ite (fun _=>.jo Cy fun _ h=>dz h) fun _=>.ite (fun _=>.map fun _ _=>aA _) fun _=>.ite (fun _=>.none) fun _=>.some (aA _)
theorem Be:∀{m:Nat}{cs:List fK}{v:k8},cs.length≤n→cs.length≤m→mV n cs v=mV m cs v:=by
 induction n with
 |zero=>
  intro m cs v hn hm
  cases dD.mp (jI.mp hn)
  cases m<;>rfl
 |succ n ih=>
  intro m cs v hn hm
  cases cs with
  |nil=>cases m<;>rfl
  |cons c r=>
   cases m with
   |zero=>exact absurd hm (Nat.not_succ_le_zero _)
   |succ m=>
    by_cases h:c.op=248
    ·exact(pQ h).trans (pQ h).symm
    cases e:lp c r v with
    |none=>exact(kA h e).trans (kA h e).symm
    |some q=>
     have k:=Dj _ e
     exact(mP h e).trans ((ih (az k (Ce hn)) (az k (Ce hm))).trans (mP h e).symm)
theorem Iw {s s':ka}{pf:Known}{r':List fK}(h:la r s kn=some (s',pf,r')) (hk:eZ kn):eZ pf∧(Ends r→Ends r'):=⟨(Mq hk _ h).k hk,(Mq hk _ h).e⟩
end
end
section
theorem Gm (bs:List UInt8):∀v:Nat,bs.foldl (fun v x=>256*v+x.toNat) v=v*256^bs.length+be bs:=by
 induction bs with
 |nil=>intro v;simp[be]
 |cons x xs ih=>
  intro v
  unfold be
  rw[pB,pB,ih,ih,cL,Nat.pow_succ]
  rw[Nat.mul_zero,pz,Nat.add_mul,Nat.mul_comm 256 v,Nat.mul_assoc,Nat.mul_comm 256 (256^xs.length),nL]
theorem Lb (x:UInt8) (xs:List UInt8):be (x::xs)=x.toNat*256^xs.length+be xs:=by
 conv=>lhs;unfold be
 rw[pB,Gm];simp
theorem KI {bs:List UInt8}{r:Nat}(h:bs.length=r+1):Rd (be bs) (r+1)=jH bs:=by
 cases bs with
 |nil=>simp at h
 |cons x xs=>
  have hl:xs.length=r:=by simpa using h
  have h1:=Lb x xs
  have h2:=Mi xs
  rw[hl] at h1 h2
  have h3:=x.toNat_lt
  unfold Rd jH
  rw[h,show r+1-1=r by exact rfl,show((256:Int)^(r+1))=2*(128*256^r) by rw[Cf];lia,show((x::xs).getD 0 0)=x from rfl]
  have h4:be (x::xs)≥128*256^r↔x.toNat>127:=by
   rw[h1]
   constructor
   ·intro g
    by_cases q:x.toNat>127
    ·exact q
    ·exfalso
     have:x.toNat*256^r≤127*256^r:=qT _ (by exact aS q)
     exact aW [_,_,_] [] [.T aB aM,.L (.m 128 aM) (.a cf aB)] (.N (.L cf (.m 127 aM))) uc rfl h2 g this
   ·intro g
    have:128*256^r≤x.toNat*256^r:=qT _ (by exact di g)
    exact az this (bC _ _)
  by_cases q:x.toNat>127
  ·rw[if_pos (h4.mpr q),if_pos q]
  ·rw[if_neg (fun g=>q (h4.mp g)),if_neg q];exact rfl
theorem oJ {b:List UInt8}{a r:Nat}(h:a+r≤b.length):gu b a r=some (be (c0 b a (a+r)),a+r):=by
 unfold gu c0;rw[if_pos h,show a+r-a=r by exact aW [_,_,_] [] [.fs aB (.a aM cf) aM] (.E aB cf) (.o (.o jf cM) (.o cI cM)) rfl (eR _ _)]
theorem jC {b:List UInt8}{a r:Nat}(h:b.length<a+r):gu b a r=none:=by
 unfold gu;rw[if_neg (by exact iZ h)]
theorem nU {b:List UInt8}{a r:Nat}(h:a+r≤b.length) (hr:0<r):mJ b a r=some (jH (c0 b a (a+r)),a+r):=by
 obtain⟨r,rfl⟩:∃k,r=k+1:=⟨r-1,by exact aW [_,_] [] [.T dE aB,.fs aM aB bP] (.E aB (.a aM bP)) (.o (.o cM jf) (.o jM cI)) rfl hr (eR _ _)⟩
 rw[IB (oJ h),KI]
 rw[kQ b h];exact aW [_,_,_] [] [.fs aB (.a aM (.a cf bP)) aM] (.E aB (.a cf bP)) (.o (.o jf cM) (.o xM cM)) rfl (eR _ _)
theorem yy {b:List UInt8}{a r:Nat}(h:b.length<a+r):mJ b a r=none:=Ge (jC h)
theorem HN {b:List UInt8}{a r:Nat}(h:a+r≤b.length):wu b a r=some (c0 b a (a+r),a+r):=by
 unfold wu c0;rw[if_pos h,show a+r-a=r by exact aW [_,_,_] [] [.fs aB (.a aM cf) aM] (.E aB cf) (.o (.o jf cM) (.o cI cM)) rfl (eR _ _)]
theorem BO {b:List UInt8}{a r:Nat}(h:b.length<a+r):wu b a r=none:=by
 unfold wu;rw[if_neg (by exact iZ h)]
theorem eg {b:List UInt8}{p e i j:Nat}(h:p+j≤e):c0 (c0 b p e) i j=c0 b (p+i) (p+j):=by
 unfold c0
 rw[Nu,List.take_take,xq,fv (by exact aW [_,_,_,_,_,_,_] [] [.L (.a aB aM) cf,.fs fz aM jh,.fs qE cf aB,.fs (.v 6) qE jh] (.L fz (.v 6)) (.o (.o (.o (.k [1,0,0,1,0,0,1,0,1,0,1]) (.k [1,1,0,0,0,0,1,0,1,0,1])) (.o (.k [1,0,0,0,1,0,0,0,1,0,1]) (.k [1,0,0,0,1,0,0,0,1,0,1]))) (.o (.o (.k [1,0,0,0,0,0,0,0,1]) (.k [1,0,0,0,0,0,0,0,1])) (.o (.k [1,0,0,0,0,0,0,0,1]) (.k [1,0,0,0,0,0,0,0,1])))) rfl h (eR _ _) (eR _ _) (eR _ _)),show p+j-(p+i)=j-i by exact aW [_,_,_,_,_] [] [.fs aB (.a aM cf) (.a aM fz),.fs jh cf fz] (.E aB jh) (.o (.o (.o (.k [1,0,1,0,0,0,1]) (.k [1,0,0,1,0,1])) (.o cM (.k [1,1,0,0,0,1]))) (.o (.o jM pJ) (.o cM pJ))) rfl (eR _ _) (eR _ _)]
theorem jr {b:List UInt8}{p e i:Nat}:(c0 b p e).drop i=c0 b (p+i) e:=by
 unfold c0
 rw[Nu,xq,show e-p-i=e-(p+i) by lia]
theorem ym {b:List UInt8}{p e i:Nat}(h:p+i<e):(c0 b p e).getD i 0=b.getD (p+i) 0:=by
 unfold c0
 rw[bt,List.getElem?_take,if_pos (by exact aW [_,_,_,_] [] [.T (.a aB aM) cf,.fs fz cf aB] (.T aM fz) (.o nY vF) rfl h (eR _ _)),cD,←bt]
theorem uf {b:List UInt8}{x:Nat}(h:x<b.length):c0 b x (x+1)=[b.getD x 0]:=by
 unfold c0
 rw[show x+1-x=1 by exact aW [_,_] [] [.fs aB (.a aM bP) aM] (.E aB bP) (.o (.o jf cM) (.o xM cM)) rfl (eR _ _),bt,aw h]
 rw[i0 h];rfl
theorem Qv (x:UInt8):be [x]=x.toNat:=by simp[be]
theorem j4 {b:List UInt8}{a:Nat}(h:a<b.length):gu b a 1=some ((b.getD a 0).toNat,a+1):=by
 rw[oJ (by exact f9 0 h rfl),uf h,Qv]
theorem Lm {b:List UInt8}{x:Nat}(h:x+1<b.length):c0 b x (x+2)=[b.getD x 0,b.getD (x+1) 0]:=by
 have h1:=uf (b:=b) (x:=x) (by exact f9 1 h rfl)
 have h2:=uf h
 unfold c0 at *
 rw[show x+1-x=1 by exact aW [_,_] [] [.fs aB (.a aM bP) aM] (.E aB bP) (.o (.o jf cM) (.o xM cM)) rfl (eR _ _)] at h1
 rw[show x+1+1-(x+1)=1 by exact aW [_,_] [] [.fs aB (.a (.a aM bP) bP) (.a aM bP)] (.E aB bP) (.o (.o jf cM) (.o xM cM)) rfl (eR _ _)] at h2
 rw[show x+2-x=1+1 by exact aW [_,_] [] [.fs aB (.a aM jN) aM] (.E aB jN) (.o (.o jf cM) (.o xM cM)) rfl (eR _ _),List.take_add,h1,xq,h2];rfl
noncomputable def cut (b:List UInt8) (p:Nat):Option (List fK):=jB b (b.length-p) p []
theorem Hr {b:List UInt8}:∀{n p:Nat}{found:List fK},b.length-p≤n→jB b n p found=(cut b p).map (found++·):=by
 suffices H:∀(k:Nat){n m p:Nat}{found:List fK},b.length-p≤k→b.length-p≤n→b.length-p≤m→jB b n p found=(jB b m p []).map (found++·) from
  fun{n p found} h=>H (b.length-p) (aA _) h (aA _)
 intro k
 induction k with
 |zero=>
  intro n m p found hk hn hm
  unfold jB
  rw[if_neg (by exact aW [_,_,_] [] [.L aB dE,.fs aB aM cf] (.N (.T cf aM)) (.o nY cI) rfl hk (eR _ _)),if_neg (by exact aW [_,_,_] [] [.L aB dE,.fs aB aM cf] (.N (.T cf aM)) (.o nY cI) rfl hk (eR _ _))];rfl
 |succ k ih=>
  intro n m p found hk hn hm
  unfold jB
  by_cases hp:p<b.length
  ·rw[if_pos hp,if_pos hp]
   obtain⟨n,rfl⟩:∃i,n=i+1:=⟨n-1,by exact aW [_,_,_,_,_] [] [.L aB aM,.T cf fz,.fs jh aM bP,.fs aB fz cf] (.E aM (.a jh bP)) (.o (.o (.o pJ (.k [1,0,0,0,0,0,1])) (.o pJ (.k [1,0,0,0,0,0,1]))) (.o (.o (.k [1,0,0,1,0,1,0,1,1]) (.k [1,0,0,0,1])) (.o (.k [0,1,0,0,0,0,0,1]) (.k [1,0,0,0,1])))) rfl hn hp (eR _ _) (eR _ _)⟩
   obtain⟨m,rfl⟩:∃i,m=i+1:=⟨m-1,by exact aW [_,_,_,_,_] [] [.L aB aM,.T cf fz,.fs jh aM bP,.fs aB fz cf] (.E aM (.a jh bP)) (.o (.o (.o pJ (.k [1,0,0,0,0,0,1])) (.o pJ (.k [1,0,0,0,0,0,1]))) (.o (.o (.k [1,0,0,1,0,1,0,1,1]) (.k [1,0,0,0,1])) (.o (.k [0,1,0,0,0,0,0,1]) (.k [1,0,0,0,1])))) rfl hm hp (eR _ _) (eR _ _)⟩
   dsimp only
   have hg:=jV (op:=(b.getD p 0).toNat) hp
   by_cases h1:(b.getD p 0).toNat>249∨aO b (b.getD p 0).toNat p>b.length
   ·rw[if_pos h1,if_pos h1];rfl
   rw[if_neg h1,if_neg h1]
   by_cases h2:(b.getD p 0).toNat=249
   ·rw[if_pos h2,if_pos h2];rfl
   rw[if_neg h2,if_neg h2,ih (m:=m) (by exact aW [_,_,_,_,_,_] [] [.L aB (.a aM bP),.T cf fz,.fs jh qE fz,.fs aB qE cf] (.L jh aM) (.o (.o (.k [1,0,0,1,0,1,0,1,1]) (.k [1,1,0,0,0,1,0,1])) (.o pJ pJ)) rfl hk hg (eR _ _) (eR _ _)) (by exact aW [_,_,_,_,_,_] [] [.L aB (.a aM bP),.T cf fz,.fs jh qE fz,.fs aB qE cf] (.L jh aM) (.o (.o (.k [1,0,0,1,0,1,0,1,1]) (.k [1,1,0,0,0,1,0,1])) (.o pJ pJ)) rfl hn hg (eR _ _) (eR _ _)) (by exact aW [_,_,_,_,_,_] [] [.L aB (.a aM bP),.T cf fz,.fs jh qE fz,.fs aB qE cf] (.L jh aM) (.o (.o (.k [1,0,0,1,0,1,0,1,1]) (.k [1,1,0,0,0,1,0,1])) (.o pJ pJ)) rfl hm hg (eR _ _) (eR _ _))]
   conv=>rhs;rw[ih (m:=m) (by exact aW [_,_,_,_,_,_] [] [.L aB (.a aM bP),.T cf fz,.fs jh qE fz,.fs aB qE cf] (.L jh aM) (.o (.o (.k [1,0,0,1,0,1,0,1,1]) (.k [1,1,0,0,0,1,0,1])) (.o pJ pJ)) rfl hk hg (eR _ _) (eR _ _)) (by exact aW [_,_,_,_,_,_] [] [.L aB (.a aM bP),.T cf fz,.fs jh qE fz,.fs aB qE cf] (.L jh aM) (.o (.o (.k [1,0,0,1,0,1,0,1,1]) (.k [1,1,0,0,0,1,0,1])) (.o pJ pJ)) rfl hm hg (eR _ _) (eR _ _)) (by exact aW [_,_,_,_,_,_] [] [.L aB (.a aM bP),.T cf fz,.fs jh qE fz,.fs aB qE cf] (.L jh aM) (.o (.o (.k [1,0,0,1,0,1,0,1,1]) (.k [1,1,0,0,0,1,0,1])) (.o pJ pJ)) rfl hm hg (eR _ _) (eR _ _))]
   rw[wc]
   congr 1
   funext x
   simp
  ·rw[if_neg hp,if_neg hp];rfl
section
variable {b:List UInt8}{p:Nat}
theorem ua (h:b.length≤p):cut b p=none:=by
 unfold cut jB;rw[if_neg (by exact bL h)]
theorem IZ (h:p<b.length) (h1:(b.getD p 0).toNat>249∨aO b (b.getD p 0).toNat p>b.length):cut b p=none:=by
 unfold cut jB;rw[if_pos h]
 obtain⟨n,hn⟩:∃i,b.length-p=i+1:=⟨b.length-p-1,by exact aW [_,_,_,_] [] [.T aB aM,.fs cf aM aB,.fs fz cf bP] (.E cf (.a fz bP)) (.o (.o (.o cM jf) (.o (.k [1,0,1,0,0,0,1,1]) cI)) (.o (.o cM pJ) (.o (.k [0,0,0,0,1,0,0,1]) pJ))) rfl h (eR _ _) (eR _ _)⟩
 rw[hn]
 dsimp only
 rw[if_pos h1]
theorem C2 (h:p<b.length) (h1:(b.getD p 0).toNat=249):cut b p=some [⟨249,p,c0 b (p+1) b.length⟩]:=by
 unfold cut jB;rw[if_pos h]
 obtain⟨n,hn⟩:∃i,b.length-p=i+1:=⟨b.length-p-1,by exact aW [_,_,_,_] [] [.T aB aM,.fs cf aM aB,.fs fz cf bP] (.E cf (.a fz bP)) (.o (.o (.o cM jf) (.o (.k [1,0,1,0,0,0,1,1]) cI)) (.o (.o cM pJ) (.o (.k [0,0,0,0,1,0,0,1]) pJ))) rfl h (eR _ _) (eR _ _)⟩
 rw[hn]
 dsimp only
 have e:aO b 249 p=b.length:=by unfold aO;simp
 rw[h1,e,if_neg (by exact aW [_] [] [] (.N (.O (.T (.l 249) (.l 249)) (.T aB aB))) (.o ni ni) rfl),if_pos rfl];rfl
theorem mw (h:p<b.length){op:Nat}(ho:(b.getD p 0).toNat=op) (h1:op<249) (h2:aO b op p≤b.length):cut b p=(cut b (aO b op p)).map (⟨op,p,c0 b (p+1) (aO b op p)⟩::·):=by
 conv=>lhs;unfold cut jB
 rw[if_pos h]
 have hg:=jV (op:=op) h
 obtain⟨n,hn⟩:∃i,b.length-p=i+1:=⟨b.length-p-1,by exact aW [_,_,_,_] [] [.T aB aM,.fs cf aM aB,.fs fz cf bP] (.E cf (.a fz bP)) (.o (.o (.o cM jf) (.o (.k [1,0,1,0,0,0,1,1]) cI)) (.o (.o cM pJ) (.o (.k [0,0,0,0,1,0,0,1]) pJ))) rfl h (eR _ _) (eR _ _)⟩
 rw[hn]
 dsimp only
 rw[ho,if_neg (by exact aW [_,_,_] [] [.T aB (.l 249),.L aM cf] (.N (.O (.T (.l 249) aB) (.T cf aM))) (.o cM cI) rfl h1 h2),if_neg (by exact bV h1),Hr (by exact aW [_,_,_,_,_,_] [] [.T aB aM,.E cf (.a fz bP),.fs jh qE aM,.fs cf qE aB] (.L jh fz) (.o (.o (.k [1,0,0,1,0,1,0,1,0,1]) (.k [1,1,0,0,0,1,0,0,0,1])) (.o pJ pJ)) rfl hg hn (eR _ _) (eR _ _))];rfl
end
end
section
noncomputable def rX (s:E6):List Int:=[s.h,s.v,s.w,s.x,s.y,s.z]
noncomputable def fE.l (s:fE):ka:=⟨rX s.cz,s.stack.map rX,s.rows,s.deep,s.qK⟩
noncomputable def CR (s:E6):Prop:=s.h.natAbs≤2147483647∧s.v.natAbs≤2147483647
noncomputable def fE.Ok (s:fE):Prop:=CR s.cz∧∀t∈s.stack,CR t
noncomputable def ct (b:List UInt8) (op p:Nat):fK:=⟨op,p,c0 b (p+1) (aO b op p)⟩
noncomputable def gP (b:List UInt8) (op p:Nat) (s:fE) (kn:Known):Option (fE×Known×Nat)→Prop
 |none=>b.length<aO b op p∨Es (ct b op p) s.l kn=none
 |some (s',pf,a')=>a'=aO b op p∧a'≤b.length∧s'.Ok∧g8 (ct b op p) s.l kn=some (s'.l,pf)
noncomputable def tG (op:Nat):Nat:=
 if op<128 then 0 else if op<132 then op-127 else if op=132 then 8 else if op<137 then op-132 else if op=137 then 8 else if op=139 then 44 else if op<143 then 0
 else if op<147 then op-142 else if op=147 then 0 else if op<152 then op-147 else if op=152 then 0 else if op<157 then op-152
 else if op<161 then op-156 else if op=161 then 0 else if op<166 then op-161 else if op=166 then 0 else if op<171 then op-166 else if op<235 then 0 else op-234
theorem GO:(bh 239).all (fun op=>qM.getD op 0==tG op)=true:=by decide +kernel
theorem JX {op:Nat}(h:op<239):qM.getD op 0=tG op:=by
 have:=ba.mp GO op (de.mpr h)
 simpa using this
section
variable {b:List UInt8}{op p:Nat}{s:fE}{kn:Known}
theorem eE {k:Nat}(h:op<239) (hk:tG op=k):aO b op p=p+1+k:=iT h (by rw[JX h,hk])
theorem PF (h:CR s.cz):Le s.l.sp=true:=decide_eq_true h
theorem K0 {x y:Int}:hN (s.go x y) fun s'=>s'={ s with cz:={ s.cz with h:=s.cz.h+x,v:=s.cz.v+y } }∧CR s'.cz:=.ite (fun h=>.some ⟨rfl,h⟩) fun _=>.none
theorem Lk {x y:Int}(h:s.go x y=none):Le ({ s with cz:={ s.cz with h:=s.cz.h+x,v:=s.cz.v+y } }:fE).l.sp=false:=
 decide_eq_false fun q=>nS (h.symm.trans (if_pos q))
theorem A8 {r:n9}(h:s.Ok):(s.row r).Ok:=h
theorem ux {k:Nat}(h:aO b op p=p+1+k):(ct b op p).args=c0 b (p+1) (p+1+k):=congrArg (c0 b (p+1)) h
theorem pk {k:Nat}(h:aO b op p=p+1+k) (he:aO b op p≤b.length):(ct b op p).args.length=k:=
 (kQ b he).trans (by rw[h];exact fq ..)
theorem gP.cut (h:b.length<aO b op p):gP b op p s kn none:=.inl h
theorem gP.mid (h:g8 (ct b op p) s.l kn=none):gP b op p s kn none:=.inr (bN h rfl)
theorem gP.ite {c:Prop} [Decidable c] {x y:Option pH}(h1:c→gP b op p s kn x) (h2:¬c→gP b op p s kn y):gP b op p s kn (if c then x else y):=by
 by_cases h:c
 ·rw[if_pos h];exact h1 h
 ·rw[if_neg h];exact h2 h
theorem gP.Ls {β:Type}{c:Prop} [Decidable c] {x y:Option β}{f:β→Option pH}(h1:c→gP b op p s kn (x.bind f)) (h2:¬c→gP b op p s kn (y.bind f)):gP b op p s kn ((if c then x else y).bind f):=by
 by_cases h:c
 ·rw[if_pos h];exact h1 h
 ·rw[if_neg h];exact h2 h
theorem gP.nm {k:Nat}{f:Nat×Nat→Option pH}(kM:aO b op p=p+1+k) (h:aO b op p≤b.length→gP b op p s kn (f (be (ct b op p).args,aO b op p))):gP b op p s kn ((gu b (p+1) k).bind f):=by
 by_cases he:p+1+k≤b.length
 ·rw[oJ he,←ux kM,←kM];exact h (oS kM he)
 ·rw[jC (bp he)];exact .cut (EI kM he)
theorem gP.sg {k:Nat}{β:Type}{F:Int×Nat→β}{f:β→Option pH}(kM:aO b op p=p+1+k) (hk:0<k) (h:aO b op p≤b.length→gP b op p s kn (f (F (jH (ct b op p).args,aO b op p)))):gP b op p s kn (((mJ b (p+1) k).map F).bind f):=by
 by_cases he:p+1+k≤b.length
 ·rw[nU he hk,←ux kM,←kM];exact h (oS kM he)
 ·rw[yy (bp he)];exact .cut (EI kM he)
theorem C7 {x y:Int}{s0:fE}(h:s0.Ok) (he:aO b op p≤b.length)
  (hm:g8 (ct b op p) s.l kn=some (({ s0 with cz:={ s0.cz with h:=s0.cz.h+x,v:=s0.cz.v+y } }:fE).l,kn)):gP b op p s kn ((s0.go x y).map fun t=>(t,kn,aO b op p)):=by
 cases e:s0.go x y with
 |none=>exact .inr (bS hm (if_neg (by rw[Lk e];exact fN)))
 |some t=>
  have k:=K0 _ e
  exact⟨rfl,he,⟨k.2,k.1▸h.2⟩,k.1▸hm⟩
theorem oD {x:Int}{s0:fE}(h:s0.Ok) (he:aO b op p≤b.length) (hm:g8 (ct b op p) s.l kn=some (({ s0 with cz:={ s0.cz with h:=s0.cz.h+x } }:fE).l,kn)):gP b op p s kn ((s0.go x 0).map fun t=>(t,kn,aO b op p)):=
 C7 h he (hm.trans (by rw[pw]))
theorem vN {y:Int}{s0:fE}(h:s0.Ok) (he:aO b op p≤b.length) (hm:g8 (ct b op p) s.l kn=some (({ s0 with cz:={ s0.cz with v:=s0.cz.v+y } }:fE).l,kn)):gP b op p s kn ((s0.go 0 y).map fun t=>(t,kn,aO b op p)):=
 C7 h he (hm.trans (by rw[pw]))
theorem oO {code:Nat}(hs:s.Ok) (mv:Bool) (WZ:mv=decide (op<133)) (h1:op<138) (h2:op≠132) (h3:op≠137) (he:aO b op p≤b.length) (hc:(if op<128 then op else be (ct b op p).args)=code) :
  gP b op p s kn ((s.uL code mv).map fun t=>(t,kn,aO b op p)):=by
 have hm:g8 (ct b op p) s.l kn=_:=if_pos h1
 have hd:mi op (ct b op p).args (rX s.cz) s.qK s.rows=Tz op (rX s.cz) s.qK s.rows code:=iF (fun h=>h.elim h2 h3) (congrArg _ hc)
 have hm:=hm.trans (congrArg (ke _) hd)
 subst WZ
 show gP b op p s kn ((((sE s.qK).lookup (code:Int)).bind _).map _)
 replace hm:_=(((sE s.qK).lookup (code:Int)).map _).map _:=hm
 cases e:(sE s.qK).lookup (code:Int) with
 |none=>rw[e] at hm;exact .mid hm
 |some w=>
  rw[e] at hm
  show gP b op p s kn ((if decide (op<133)=true then _ else _:Option fE).map _)
  by_cases q:op<133
  ·rw[if_pos (decide_eq_true q)]
   exact oD (A8 hs) he (hm.trans (congrArg some (gH (by show ka.mk (xj _ _ _) _ _ _ _=_;rw[xj,if_pos q];rfl) rfl)))
  ·rw[if_neg (by rw[decide_eq_false q];exact fN)]
   exact⟨rfl,he,A8 hs,hm.trans (congrArg some (gH (by show ka.mk (xj _ _ _) _ _ _ _=_;rw[xj,if_neg q];rfl) rfl))⟩
theorem C0 {x y:Int}:min x y>0↔x>0∧y>0:=Int.lt_min
theorem xe (hs:s.Ok) (mv:Bool) (WZ:mv=decide (op<133)) (h:op=132∨op=137):gP b op p s kn ((qx b (p+1) s mv).map fun q=>(q.1,kn,q.2)):=by
 have lJ:op<138:=h.elim (fun h=>vc h rfl) fun h=>vc h rfl
 have kM:aO b op p=p+1+8:=eE (ky lJ rfl) (h.elim (fun h=>h▸rfl) fun h=>h▸rfl)
 by_cases h8:p+1+8≤b.length
 rotate_left
 ·have:qx b (p+1) s mv=none:=by
   by_cases h4:p+1+4≤b.length
   ·exact bS (nU h4 (by decide)) (bN (yy (bp h8)) rfl)
   ·exact bN (yy (bp h4)) rfl
  rw[this]
  exact .cut (EI kM h8)
 have he:=oS kM h8
 have hm:g8 (ct b op p) s.l kn=_:=iT lJ (congrArg (ke _) (if_pos h))
 have a1:c0 (ct b op p).args 0 4=c0 b (p+1) (p+1+4):=by rw[ux kM,eg (show p+1+4≤p+1+8 from lM 4 rfl)]
 have a2:(ct b op p).args.drop 4=c0 b (p+1+4) (p+1+4+4):=by rw[ux kM,jr]
 rw[show(ct b op p).op=op from rfl,a1,a2] at hm
 have e:qx b (p+1) s mv=UW s mv (jH (c0 b (p+1) (p+1+4))) (jH (c0 b (p+1+4) (p+1+4+4)),aO b op p):=bS (nU (f9 4 h8 rfl) (by decide)) (bS (nU h8 (by decide)) (congrArg (fun x=>UW s mv _ (_,x)) kM.symm))
 rw[e]
 generalize jH (c0 b (p+1) (p+1+4))=x at *
 generalize jH (c0 b (p+1+4) (p+1+4+4))=y at *
 have hr:MI s x y={ s with rows:=if min x y>0 then s.rows++[.rule s.cz.h s.cz.v x y] else s.rows }:=by
  unfold MI
  by_cases q:x>0∧y>0
  ·rw[if_pos q,if_pos (C0.mpr q)];rfl
  ·rw[if_neg q,if_neg fun z=>q (C0.mp z)]
 subst WZ
 show gP b op p s kn ((if decide (op<133)=true then _ else _:Option _).map _)
 rw[hr]
 by_cases q:op<133
 ·rw[if_pos (decide_eq_true q),wc]
  exact oD (s0:={ s with rows:=if min x y>0 then s.rows++[.rule s.cz.h s.cz.v x y] else s.rows }) hs he (hm.trans (congrArg some (gH (by show ka.mk (xj _ _ _) _ _ _ _=_;rw[xj,if_pos q];rfl) rfl)))
 ·rw[if_neg (by rw[decide_eq_false q];exact fN)]
  exact⟨rfl,he,hs,hm.trans (congrArg some (gH (by show ka.mk (xj _ _ _) _ _ _ _=_;rw[xj,if_neg q];rfl) rfl))⟩
end
end
section
section
variable {b:List UInt8}{op p:Nat}{s:fE}{kn:Known}
theorem Kd {w:Nat}{args:List UInt8}{sp:List Int}(hw:w<14):lg (143+w) args sp=I8 0 w args sp:=by
 unfold lg;rw[fq,L5 hw,vV hw]
theorem Ka {w:Nat}{args:List UInt8}{sp:List Int}(hw:w<14):lg (157+w) args sp=I8 1 w args sp:=by
 unfold lg
 rw[show 157+w-143=w+14*1 by rw[fJ 157];rfl,Nat.add_mul_div_left _ _ (by decide),Nat.add_mul_mod_self_left,L5 hw,vV hw]
noncomputable def RR (w:Nat):Nat:=if w<4 then w+1 else if w=4 then 0 else if w<9 then w-4 else if w=9 then 0 else w-9
theorem Lj:(bh 14).all (fun w=>tG (143+w)==RR w&&tG (157+w)==RR w)=true:=by decide +kernel
theorem HU {w:Nat}(h:w<14):tG (143+w)=RR w∧tG (157+w)=RR w:=
 have k:=dX (ba.mp Lj w (de.mpr h))
 ⟨eq_of_beq k.1,eq_of_beq k.2⟩
theorem PI {ax w:Nat}{args:List UInt8}{sp:List Int}(h:¬3<w):I8 ax w args sp=sp.set ax (sp.getD ax 0+KO ax w args sp):=by
 unfold I8 Q0;rw[if_neg h]
theorem xR {ax w:Nat}{args:List UInt8}{sp:List Int}(h:3<w):I8 ax w args sp=(sp.set (Jw ax w) (KO ax w args sp)).set ax ((sp.set (Jw ax w) (KO ax w args sp)).getD ax 0+KO ax w args sp):=by
 unfold I8 Q0;rw[if_pos h]
theorem G0 {ax w:Nat}{args:List UInt8}{sp:List Int}(h:args.length≠0):KO ax w args sp=jH args:=if_neg h
theorem Mm {ax w:Nat}{args:List UInt8}{sp:List Int}(h:args.length=0):KO ax w args sp=sp.getD (Jw ax w) 0:=if_pos h
theorem Gv {ax w:Nat}(h:¬8<w):Jw ax w=2+2*ax:=by unfold Jw;rw[if_neg h];rfl
theorem HA {ax w:Nat}(h:8<w):Jw ax w=3+2*ax:=by unfold Jw;rw[if_pos h,sN]
theorem wU {ax w:Nat}{f g:Int}{F:(Int×Int×Int)×Nat→Option pH}(hp:p<b.length) (hw:w<14) (lJ:op<239) (hl:tG op=RR w)
  (hf:(rX s.cz).getD (2+2*ax) 0=f) (hg:(rX s.cz).getD (3+2*ax) 0=g)
  (h1:∀z,aO b op p≤b.length→I8 ax w (ct b op p).args (rX s.cz)=(rX s.cz).set ax ((rX s.cz).getD ax 0+z)→gP b op p s kn (F ((z,f,g),aO b op p)))
  (h2:∀z,aO b op p≤b.length→I8 ax w (ct b op p).args (rX s.cz)=((rX s.cz).set (2+2*ax) z).set ax (((rX s.cz).set (2+2*ax) z).getD ax 0+z)→gP b op p s kn (F ((z,z,g),aO b op p)))
  (h3:∀z,aO b op p≤b.length→I8 ax w (ct b op p).args (rX s.cz)=((rX s.cz).set (3+2*ax) z).set ax (((rX s.cz).set (3+2*ax) z).getD ax 0+z)→gP b op p s kn (F ((z,f,z),aO b op p))) :
  gP b op p s kn ((nG b w (p+1) f g).bind F):=by
 refine .Ls (fun c1=>?_) fun c1=>.Ls (fun c3=>.Ls (fun c2=>?_) fun c2=>?_) fun c3=>.Ls (fun c4=>?_) fun c4=>?_
 ·have kM:aO b op p=p+1+(w+1):=eE lJ (hl.trans (if_pos c1))
  exact .sg kM (Nat.succ_pos _) fun he=>h1 _ he ((PI (bL (fp c1))).trans (by rw[G0 (pk kM he▸oh _)]))
 ·have kM:aO b op p=p+1+(w-4):=eE lJ (hl.trans (iF c1 (iF (gY c2) (if_pos c3))))
  exact .sg kM (nc c2) fun he=>h2 _ he ((xR (tR c2)).trans (by rw[G0 (pk kM he▸Dx c2),Gv (bL (fp c3))]))
 ·have e:w=4:=Nv (aS c2) (aS c1)
  have kM:aO b op p=p+1+0:=eE lJ (hl.trans (e▸rfl))
  have he:aO b op p≤b.length:=oS kM hp
  rw[show p+1=aO b op p from kM.symm]
  exact h2 f he ((xR (e▸by decide)).trans (by rw[Mm (pk kM he),Gv (bL (fp c3)),hf]))
 ·have kM:aO b op p=p+1+(w-9):=eE lJ (hl.trans (iF c1 (iF (fun e=>c3 (e▸by decide)) (iF c3 (if_neg (gY c4))))))
  have c8:8<w:=tR c4
  exact .sg kM (nc c4) fun he=>h3 _ he ((xR (bp fun q=>c1 (j5 q))).trans (by rw[G0 (pk kM he▸Dx c4),HA c8]))
 ·have e:w=9:=Nv (aS c4) (aS c3)
  have kM:aO b op p=p+1+0:=eE lJ (hl.trans (e▸rfl))
  have he:aO b op p≤b.length:=oS kM hp
  rw[show p+1=aO b op p from kM.symm]
  exact h3 g he ((xR (e▸by decide)).trans (by rw[Mm (pk kM he),HA (e▸by decide),hg]))
theorem Al (hs:s.Ok) (hp:p<b.length) (h:143≤op∧op<157):gP b op p s kn ((nG b (op-143) (p+1) s.cz.w s.cz.x).bind (mvA s kn)):=by
 have hm:g8 (ct b op p) s.l kn=_:=uU (c:=ct b op p) ⟨h.1,ky h.2 rfl⟩
 refine al (jJ h.1) fun w gD=>?_
 subst gD
 have hw:w<14:=i5 h.2
 rw[show lg (ct b (143+w) p).op _ _=_ from Kd hw] at hm
 rw[fq]
 exact wU (ax:=0) hp hw (ky h.2 rfl) (HU hw).1 rfl rfl (fun z he e=>oD hs he (hm.trans (congrArg some (gH (congrArg (ka.mk · _ _ _ _) e) rfl))))
  (fun z he e=>oD (s0:={ s with cz:={ s.cz with w:=z } }) hs he (hm.trans (congrArg some (gH (congrArg (ka.mk · _ _ _ _) e) rfl))))
  (fun z he e=>oD (s0:={ s with cz:={ s.cz with x:=z } }) hs he (hm.trans (congrArg some (gH (congrArg (ka.mk · _ _ _ _) e) rfl))))
theorem Ey (hs:s.Ok) (hp:p<b.length) (h:157≤op∧op<171):gP b op p s kn ((nG b (op-157) (p+1) s.cz.y s.cz.z).bind (mvD s kn)):=by
 have hm:g8 (ct b op p) s.l kn=_:=uU (c:=ct b op p) ⟨f9 14 h.1 rfl,h.2⟩
 refine al (jJ h.1) fun w ix=>?_
 subst ix
 have hw:w<14:=i5 h.2
 rw[show lg (ct b (157+w) p).op _ _=_ from Ka hw] at hm
 rw[fq]
 exact wU (ax:=1) hp hw (ky h.2 rfl) (HU hw).2 rfl rfl (fun z he e=>vN hs he (hm.trans (congrArg some (gH (congrArg (ka.mk · _ _ _ _) e) rfl))))
  (fun z he e=>vN (s0:={ s with cz:={ s.cz with y:=z } }) hs he (hm.trans (congrArg some (gH (congrArg (ka.mk · _ _ _ _) e) rfl))))
  (fun z he e=>vN (s0:={ s with cz:={ s.cz with z:=z } }) hs he (hm.trans (congrArg some (gH (congrArg (ka.mk · _ _ _ _) e) rfl))))
end
end
section
section
variable {b:List UInt8}{op p:Nat}{s:fE}{kn:Known}
theorem zl (h:243≤op∧op<247):aO b op p=p+1+(op-242+14)+Ai (c0 b (p+1+(op-242+14)-2) (p+1+(op-242+14))):=by
 unfold aO;rw[if_neg (by exact Ax h.1 rfl),if_neg (by exact bL h.1),if_pos (by exact h.2)]
theorem D5 (h:243≤op∧op<247) (hl:p+1+(op-242+14)≤b.length):aO b op p=p+1+(op-242)+14+((b.getD (p+1+(op-242)+12) 0).toNat+(b.getD (p+1+(op-242)+12+1) 0).toNat):=by
 rw[zl h,show p+1+(op-242+14)-2=p+1+(op-242)+12 by exact rfl,show p+1+(op-242+14)=p+1+(op-242)+12+2 by exact rfl,Lm (by exact f9 0 hl rfl)]
 simp[Ai]
theorem Qi {dk check size bW fk:Nat}{q:List UInt8×Nat}:VT dk check size bW fk q=(Wc dk check size bW fk q.1).map fun x=>(x,q.2):=by
 unfold VT Wc
 split<;>rfl
theorem Kw {e k q:Nat}(h:q+(k+14)≤e):ma (c0 b q e) k=Wc (be (c0 b q (q+k))) (be (c0 b (q+k) (q+k+4))) (be (c0 b (q+k+4) (q+k+8))) (be (c0 b (q+k+8) (q+k+12))) (b.getD (q+k+12) 0).toNat (c0 b (q+k+14) e):=by
 unfold ma
 rw[eg (show q+k≤e from f9 14 h rfl),eg (show q+(k+4)≤e from f9 10 h rfl),eg (show q+(k+8)≤e from f9 6 h rfl),eg (show q+(k+12)≤e from f9 2 h rfl),ym (show q+(k+12)<e from f9 1 h rfl),jr];rfl
theorem Th {a:Nat}:hN (me b op a) fun _=>a+(op-242+14)≤b.length:=
 .cU DN fun _ h1=>.cU DN fun _ h2=>.cU DN fun _ h3=>.cU DN fun _ h4=>.cU DN fun _ h5=>.cU DN fun _ h6=>fun _ _=>by
  have:=h6.2
  rw[h6.1,h5.1,h4.1,h3.1,h2.1,h1.1] at this
  exact this
theorem C4 (h:243≤op∧op<247):me b op (p+1)=if aO b op p≤b.length then (ma (ct b op p).args (op-242)).map fun q=>(q,aO b op p) else none:=by
 by_cases hl:p+1+(op-242+14)≤b.length
 ·have kM:=D5 h hl
  have hx:p+1+(op-242)+4+4+4+1+1+((b.getD (p+1+(op-242)+4+4+4) 0).toNat+(b.getD (p+1+(op-242)+4+4+4+1) 0).toNat)=aO b op p:=kM.symm
  have e:me b op (p+1)=(wu b (p+1+(op-242)+4+4+4+1+1) ((b.getD (p+1+(op-242)+4+4+4) 0).toNat+(b.getD (p+1+(op-242)+4+4+4+1) 0).toNat)).bind _:=
   bS (oJ (f9 14 hl rfl)) (bS (oJ (f9 10 hl rfl)) (bS (oJ (f9 6 hl rfl)) (bS (oJ (f9 2 hl rfl)) (bS (j4 (f9 1 hl rfl)) (bS (j4 (f9 0 hl rfl)) rfl)))))
  rw[e]
  by_cases yQ:aO b op p≤b.length
  ·rw[if_pos yQ,show(ct b op p).args=c0 b (p+1) (aO b op p) from rfl,Kw (show p+1+(op-242+14)≤aO b op p from kM▸bC _ _)]
   exact bS (HN (hx▸yQ)) (Qi.trans (by rw[hx]))
  ·rw[if_neg yQ]
   exact bN (BO (bp (hx▸yQ))) rfl
 ·rw[if_neg fun q=>hl (az (by rw[zl h];exact bC _ _) q)]
  exact Th.no hl
theorem zR (h:243≤op∧op<247):lT b op (p+1) kn=if aO b op p≤b.length then (iD op (ct b op p).args kn).map fun q=>(q,aO b op p) else none:=by
 unfold lT iD
 rw[C4 h]
 by_cases hl:aO b op p≤b.length
 ·rw[if_pos hl,if_pos hl]
  cases ma (ct b op p).args (op-242) with
  |none=>rfl
  |some q=>
   show ZS kn (q,_)=(Qb kn q).map _
   unfold ZS Qb
   split<;>rfl
 ·rw[if_neg hl,if_neg hl];rfl
theorem EP (hs:s.Ok) (h:243≤op∧op<247):gP b op p s kn ((lT b op (p+1) kn).map fun q=>(s,q.1,q.2)):=by
 rw[zR h]
 by_cases hl:aO b op p≤b.length
 ·rw[if_pos hl]
  have hm:g8 (ct b op p) s.l kn=_:=zB (c:=ct b op p) h
  replace hm:_=(iD op (ct b op p).args kn).map _:=hm
  cases e:iD op (ct b op p).args kn with
  |none=>rw[e] at hm;exact .mid hm
  |some k=>rw[e] at hm;exact⟨rfl,hl,hs,hm⟩
 ·rw[if_neg hl];exact .cut (bp hl)
theorem sZ (hs:s.Ok){n:Nat}(h:171≤op∧op<239) (he:aO b op p≤b.length) (hn:ZO (ct b op p)=n):gP b op p s kn ((s.choose n kn).map fun t=>(t,kn,aO b op p)):=by
 have hm:g8 (ct b op p) s.l kn=_:=uN (c:=ct b op p) h
 unfold II at hm
 unfold fE.choose
 rw[hn] at hm
 by_cases hk:(kn.lookup (n:Int)).isSome
 ·rw[if_pos hk] at hm ⊢;exact⟨rfl,he,hs,hm⟩
 ·rw[if_neg hk] at hm ⊢;exact .mid hm
theorem DR (hs:s.Ok) (h:239≤op∧op<243):gP b op p s kn ((gu b (p+1) (op-238)).bind (spc b s kn)):=by
 have kM:aO b op p=p+1+(op-238)+be (c0 b (p+1) (p+1+(op-238))):=iF (bL h.1) (if_pos h.2)
 by_cases h1:p+1+(op-238)≤b.length
 ·rw[oJ h1]
  show gP b op p s kn ((wu b _ _).map _)
  by_cases h2:aO b op p≤b.length
  ·rw[HN (kM▸h2),←kM]
   exact⟨rfl,h2,A8 hs,(zi (c:=ct b op p) h).trans (congrArg some (gH (congrArg (ka.mk _ _ · _ _) (congrArg (fun t=>s.rows++[n9.spec _ _ t]) jr)) rfl))⟩
  ·rw[BO (bp (kM▸h2))];exact .cut (bp h2)
 ·rw[jC (bp h1)];exact .cut (aV (bp h1) (kM▸bC _ _))
theorem Lq:(bh 64).all (fun w=>tG (171+w)==0)=true:=by decide +kernel
theorem LP:(bh 4).all (fun w=>tG (235+w)==w+1)=true:=by decide +kernel
theorem OD (h:171≤op∧op<235):tG op=0:=by
 refine al (jJ h.1) fun w gD=>?_
 subst gD
 exact eq_of_beq (ba.mp Lq w (de.mpr (i5 h.2)))
theorem OM (h:235≤op∧op<239):tG op=op-234:=by
 refine al (jJ h.1) fun w ix=>?_
 subst ix
 rw[show 235+w-234=w+1 by rw[fJ];rfl]
 exact eq_of_beq (ba.mp LP w (de.mpr (i5 h.2)))
theorem wD {α:Type}{l:List α}{x:α}(h:l.getLast?=some x):l=l.dropLast++[x]:=by
 cases l with
 |nil=>exact nS h
 |cons y ys=>
  rw[List.getLast?_eq_some_getLast (by simp)] at h
  replace h:=ae h
  subst h
  exact(List.dropLast_concat_getLast (by simp)).symm
theorem EE (hs:s.Ok) (hp:p<b.length):gP b 141 p s kn (some (s.push,kn,p+1)):=by
 refine⟨(eE (op:=141) (by decide) rfl).symm,hp,⟨hs.1,fun t ht=>(eG.mp ht).elim (hs.2 t) fun h=>cT.mp h▸hs.1⟩,?_⟩
 refine iF (by exact(by decide:¬141<138)) (iT rfl (congrArg some (gH ?_ rfl)))
 show ka.mk _ (s.stack.map rX++[rX s.cz]) _ (max s.deep ((s.stack.map rX).length+1)) _=ka.mk _ ((s.stack++[s.cz]).map rX) _ _ _
 rw[aF,aa];rfl
theorem Go (hs:s.Ok) (hp:p<b.length):gP b 142 p s kn (s.pop.map fun t=>(t,kn,p+1)):=by
 unfold fE.pop
 cases e:s.stack.getLast? with
 |none=>
  have e:=List.getLast?_eq_none_iff.mp e
  refine .mid (Di (c:=ct b 142 p) (by exact(by decide:¬142<138)) (by exact(by decide:142≠141)) (fun h=>h.2 ?_) (by exact(by decide:¬(143≤142∧142<247))) (by exact(by decide:142≠138)))
  show s.stack.map rX=[]
  rw[e];rfl
 |some t=>
  have Z0:=wD e
  refine⟨(eE (op:=142) (by decide) rfl).symm,hp,⟨hs.2 t (Z0▸List.mem_append_right _ aI),fun x hx=>hs.2 x (Z0▸Dy _ hx)⟩,?_⟩
  have v9:s.stack.map rX≠[]:=by rw[Z0,aF];exact rT _ (JD _ _)
  refine iF (by exact(by decide:¬142<138)) (iF (by exact(by decide:¬142=141)) (iT ⟨rfl,v9⟩ (congrArg some (gH ?_ rfl))))
  show ka.mk ((s.stack.map rX).getLast?.getD []) (s.stack.map rX).dropLast _ _ _=ka.mk (rX t) (s.stack.dropLast.map rX) _ _ _
  rw[List.map_dropLast,List.getLast?_map,e];rfl
theorem DW (hs:s.Ok) (hp:p<b.length) (aam:op≠140):gP b op p s kn (kD b op (p+1) s kn):=by
 have one:∀{k:Nat},aO b op p=p+1+0→p+1=aO b op p∧aO b op p≤b.length:=fun h=>⟨h.symm,oS h hp⟩
 refine .ite (fun c1=>?_) fun c1=>.ite (fun c2=>?_) fun c2=>.ite (fun c3=>?_) fun c3=>.ite (fun c4=>?_) fun c4=>.ite (fun c5=>?_) fun c5=>.ite (fun c6=>?_) fun c6=>.ite (fun c7=>?_) fun c7=>
  .ite (fun c8=>?_) fun c8=>.ite (fun c9=>?_) fun c9=>.ite (fun Wi=>?_) fun Wi=>.ite (fun M8=>?_) fun M8=>.ite (fun OS=>?_) fun OS=>.ite (fun YC=>?_) fun YC=>.ite (fun ZN=>?_) fun ZN=>?_
 ·have k:=one (k:=0) (eE (ky c1 rfl) (if_pos c1))
  rw[k.1]
  exact oO hs _ (decide_eq_true (ky c1 rfl)).symm (ky c1 rfl) (Ag c1 rfl) (Ag c1 rfl) k.2 (if_pos c1)
 ·exact .nm (eE (ky c2 rfl) (iF c1 (if_pos c2))) fun he=>oO hs _ (decide_eq_true (ky c2 rfl)).symm (ky c2 rfl) (bV c2) (Ag c2 rfl) he (if_neg c1)
 ·exact xe hs _ (decide_eq_true (vc c3 rfl)).symm (.inl c3)
 ·exact .nm (eE (ky c4 rfl) (iF c1 (iF c2 (iF c3 (if_pos c4))))) fun he=>oO hs _ (decide_eq_false (HL c2 c3 rfl)).symm (ky c4 rfl) c3 (bV c4) he (if_neg c1)
 ·exact xe hs _ (decide_eq_false (HL c2 c3 rfl)).symm (.inr c5)
 ·subst c6
  have k:=one (k:=0) (eE (by decide) rfl)
  exact⟨k.1,hp,hs,rfl⟩
 ·subst c7;exact EE hs hp
 ·subst c8;exact Go hs hp
 ·exact Al hs hp c9
 ·exact Ey hs hp Wi
 ·have k:=one (k:=0) (eE (ky M8.2 rfl) (OD M8))
  rw[k.1]
  exact sZ hs ⟨M8.1,ky M8.2 rfl⟩ k.2 (iF (bL (rD M8.2 rfl)) (rE M8.1))
 ·exact .nm (eE OS.2 (OM OS)) fun he=>sZ hs ⟨f9 64 OS.1 rfl,OS.2⟩ he (if_pos (XZ OS.1 rfl))
 ·exact DR hs YC
 ·exact EP hs ZN
 ·refine .mid (Di (c:=ct b op p) (HL c4 c5 rfl) c7 (LO c8) (fun z=>?_) c6)
  exact(pC op 157).elim (fun q=>c9 ⟨z.1,q⟩) fun q1=>(pC op 171).elim (fun q=>Wi ⟨q1,q⟩) fun q2=>(pC op 235).elim (fun q=>M8 ⟨q2,q⟩) fun q3=>(pC op 239).elim (fun q=>OS ⟨q3,q⟩) fun q4=>(pC op 243).elim (fun q=>YC ⟨q4,q⟩) fun q5=>ZN ⟨q5,z.2⟩
end
end
section
section
variable {b:List UInt8}{op p:Nat}{s:fE}{kn:Known}
theorem EM {c:fK}{s:ka}{s':fE}{pf:Known}(h:g8 c s kn=some (s'.l,pf)) (ok:s'.Ok):Es c s kn=some (s'.l,pf):=bS h (if_pos (PF ok.1))
theorem TL {c:fK}{s:ka}:hN (g8 c s kn) fun _=>c.op<249:=
 .ite (fun h=>.map fun _ _=>ky h rfl) fun _=>.ite (fun h=>.some (vc h rfl)) fun _=>.ite (fun h=>.some (vc h.1 rfl)) fun _=>.ite (fun h=>.some (ky h.2 rfl)) fun _=>
 .ite (fun h=>.ite (fun _=>.some (ky h.2 rfl)) fun _=>.none) fun _=>.ite (fun h=>.some (ky h.2 rfl)) fun _=>.ite (fun h=>.map fun _ _=>ky h.2 rfl) fun _=>.ite (fun _=>.none) fun h=>.some (vc (jk.mp h) rfl)
theorem my (hp:p<b.length) (ho:(b.getD p 0).toNat=op):cut b p=none∨∃r,cut b p=some (ct b op p::r):=by
 by_cases h1:op>249∨aO b op p>b.length
 ·exact .inl (IZ hp (ho▸h1))
 by_cases h2:op=249
 ·refine .inr ⟨[],(C2 hp (ho.trans h2)).trans ?_⟩
  subst h2
  exact congrArg (fun e=>some [fK.mk 249 p (c0 b (p+1) e)]) (show b.length=aO b 249 p from rfl)
 rw[mw hp ho (mz (aS fun q=>h1 (.inl q)) h2) (aS fun q=>h1 (.inr q))]
 cases cut b (aO b op p) with
 |none=>exact .inl rfl
 |some r=>exact .inr ⟨r,rfl⟩
theorem nt (hp:p<b.length) (ho:(b.getD p 0).toNat=op) (h:b.length<aO b op p):cut b p=none:=IZ hp (ho▸.inr h)
noncomputable def G3 (b:List UInt8) (p:Nat) (s:fE) (kn:Known):Option (ka×Known×List fK):=(cut b p).bind fun cs=>la cs s.l kn
noncomputable def GK (b:List UInt8) (q:pH):Option (ka×Known×List fK):=if q.1.stack.length>0 then none else (cut b q.2.2).map fun r=>(q.1.l,q.2.1,r)
noncomputable def yf (b:List UInt8) (o:Option pH):Option (ka×Known×List fK):=o.bind (GK b)
theorem Eu {n:Nat}{q:pH}(ho:op≠140) (h:kD b op (p+1) s kn=some q) (hn:b.length-(p+1)≤n) (ha:p+1≤q.2.2):gQ b n op (p+1) s kn=(gu b q.2.2 1).bind (V4 (gQ b (n-1)) q.1 q.2.1):=by
 cases n with
 |zero=>exact iF ho (bN (jC (j5 (az (fV (jI.mp hn)) ha))) rfl).symm
 |succ n=>exact iF ho (bS h rfl)
theorem sub_le {a p m:Nat}(ha:p+1≤a) (h:b.length-p≤m+1):b.length-a≤m:=az (Fp ha _) (by rw[Nat.sub_succ];exact L6 h)
theorem yx {a p n:Nat}(ha:p+1≤a) (h:b.length-(p+1)≤n):b.length-(a+1)≤n-1:=az (Fp (gR ha) _) (by rw[Nat.sub_succ];exact L6 h)
theorem EL (b:List UInt8) (m:Nat):∀{n p:Nat}{s:fE}{kn:Known},b.length-p≤m→b.length-(p+1)≤n→s.Ok→G3 b p s kn=yf b ((gu b p 1).bind (V4 (gQ b n) s kn)):=by
 have out:∀{n p:Nat}{s:fE}{kn:Known},¬p<b.length→G3 b p s kn=yf b ((gu b p 1).bind (V4 (gQ b n) s kn)):=fun hp=>(bN (ua (aS hp)) rfl).trans (congrArg (yf b) (bN (jC (zX hp)) rfl).symm)
 induction m with
 |zero=>exact fun hm _ _=>out (bL (fV (jI.mp hm)))
 |succ m ih=>
  intro n p s kn hm hn hs
  by_cases hp:p<b.length
  rotate_left
  ·exact out hp
  rw[j4 hp]
  generalize ho:(b.getD p 0).toNat=op
  show _=yf b (gQ b n op (p+1) s kn)
  by_cases h3:op=140
  ·subst h3
   have hc:aO b 140 p=p+1:=eE (op:=140) (by decide) rfl
   rw[uv]
   show(cut b p).bind _=if s.stack.length>0 then none else (cut b (p+1)).map _
   rw[mw hp ho (by decide) (oS hc hp),hc]
   by_cases i4:s.stack.length>0
   ·rw[if_pos i4]
    cases cut b (p+1) with
    |none=>rfl
    |some r=>exact if_neg fun(z:s.stack.map rX=[])=>gY i4 ((aa rX).symm.trans (congrArg m6 z))
   ·rw[if_neg i4]
    cases cut b (p+1) with
    |none=>rfl
    |some r=>exact if_pos (List.map_eq_nil_iff.mpr (dD.mp (Nat.eq_zero_of_not_pos i4)))
  have i4:=DW (kn:=kn) hs hp h3
  cases Cw:kD b op (p+1) s kn with
  |none=>
   rw[Cw] at i4
   rw[vj h3 Cw]
   refine i4.elim (fun h=>bN (nt hp ho h) rfl) fun h=>(my hp ho).elim (fun e=>bN e rfl) ?_
   rintro⟨r,e⟩
   exact bS e (iF h3 (bN h rfl))
  |some q=>
   rw[Cw] at i4
   obtain⟨s',pf,a'⟩:=q
   have ha:p+1≤a':=i4.1▸jV hp
   rw[Eu h3 Cw hn ha]
   refine ow ?_ (ih (sub_le ha hm) (yx ha hn) i4.2.2.1)
   show(cut b p).bind _=(cut b a').bind _
   rw[mw hp ho (TL _ i4.2.2.2) (i4.1▸i4.2.1),←i4.1]
   cases cut b a' with
   |none=>rfl
   |some r=>
    have e:(fK.mk op p (c0 b (p+1) a'))=ct b op p:=congrArg (fun e=>fK.mk op p (c0 b (p+1) e)) i4.1
    exact e▸iF h3 (bS (EM i4.2.2.2 i4.2.2.1) rfl)
theorem Pu:AN.Ok:=⟨⟨by decide,by decide⟩,fun t h=>by cases h⟩
theorem Hc {k:Nat}:∀{a:Nat},a+4*k≤b.length→zT b k a=some ((bh k).map fun i=>jH (c0 b (a+4*i) (a+4*i+4)),a+4*k):=by
 induction k with
 |zero=>exact fun _=>rfl
 |succ k ih=>
  intro a h
  have e:∀i,a+4+4*i=a+4*(i+1):=fun i=>by rw[Nat.mul_succ,nL,fJ 4]
  refine bS (nU (az (gI (Nat.le_mul_of_pos_right 4 (Nat.succ_pos k)) a) h) (by decide)) ((congrArg (ke _) (ih (e k▸h))).trans ?_)
  refine congrArg some (gH ?_ (e k))
  rw[AP,et,dx]
  exact congrArg (_::·) (i6 fun i _=>congrArg (fun x=>jH (c0 b x (x+4))) (e i))
theorem Ky {k a:Nat}(h:b.length<a+4*k) (ha:a≤b.length):zT b k a=none:=
 hN.no (p:=a+4*k≤b.length) (Ox.mono fun _ h=>h.1▸h.2.1 ha) (iZ h)
theorem th:aO b 139 p=p+1+44:=eE (op:=139) (by decide) rfl
noncomputable def MD (b:List UInt8) (q:(List Int×fE)×Known×Nat):Option ((List Int×ka)×Known×List fK):=(cut b q.2.2).map fun r=>((q.1.1,q.1.2.l),q.2.1,r)
theorem LW {last:Int}(hp:p<b.length) :
  ((nC b last (p+1) kn).bind (MD b)) =
   if aO b 139 p≤b.length∧jH ((ct b 139 p).args.drop 40)=last then (G3 b (aO b 139 p) AN kn).map fun q=>((yc (ct b 139 p).args,q.1),q.2.1,q.2.2) else none:=by
 have a0:(ct b 139 p).args=c0 b (p+1) (p+1+44):=ux th
 rw[a0,jr,th]
 by_cases hl:p+1+44≤b.length
 rotate_left
 ·rw[if_neg fun h=>hl h.1]
  by_cases h4:p+1+4*10≤b.length
  ·exact bN (bS (Hc h4) (bN (yy (bp hl)) rfl)) rfl
  ·exact bN (bN (Ky (bp h4) hp) rfl) rfl
 have e:nC b last (p+1) kn=W8 b last kn _ (jH (c0 b (p+1+40) (p+1+44)),p+1+44):=bS (Hc (f9 4 hl rfl)) (bS (nU hl (by decide)) rfl)
 rw[e]
 unfold W8
 by_cases hq:jH (c0 b (p+1+40) (p+1+44))=last
 rotate_left
 ·rw[if_pos hq,if_neg fun h=>hq h.2];rfl
 rw[if_neg fun h=>h hq,if_pos ⟨hl,hq⟩]
 have a2:yc (c0 b (p+1) (p+1+44))=(bh 10).map fun i=>jH (c0 b (p+1+4*i) (p+1+4*i+4)):=
  i6 fun i hi=>congrArg jH (eg (gI (az (cR (Nat.mul_le_mul_left 4 (fp (de.mp hi))) 4) (by decide:4*9+4≤44)) _))
 rw[a2,EL b _ (n:=b.length-(p+1+44+1)) (aA _) (aA _) Pu]
 by_cases hx:p+1+44<b.length
 rotate_left
 ·rw[jC (zX hx)];rfl
 rw[j4 hx]
 show((gQ b (b.length-(p+1+44+1)) _ _ _ _).bind _).bind _=((gQ b (b.length-(p+1+44+1)) _ _ _ _).bind _).map _
 cases gQ b (b.length-(p+1+44+1)) (b.getD (p+1+44) 0).toNat (p+1+44+1) AN kn with
 |none=>rfl
 |some q=>
  show(VJ _ q).bind _=(GK b q).map _
  unfold VJ GK
  by_cases i4:q.1.stack.length>0
  ·rw[if_pos i4,if_pos i4];rfl
  ·rw[if_neg i4,if_neg i4]
   show(cut b q.2.2).map _=((cut b q.2.2).map _).map _
   rw[wc];rfl
end
end
section
section
variable {b:List UInt8}{op p:Nat}{s:fE}{kn:Known}
noncomputable def g6.l (v:g6) (last:Int):k8:=⟨v.cJ,v.ca,last,v.il⟩
noncomputable def Iy (v:k8) (cs:List fK):Option (k8×List fK):=mV cs.length cs v
noncomputable def rI (b:List UInt8) (p:Nat) (v:k8):Option (k8×List fK):=(cut b p).bind (Iy v)
noncomputable def TK (b:List UInt8) (q:Int×g6×Nat):Option (k8×List fK):=(cut b (q.2.2-1)).map fun r=>(q.2.1.l q.1,r)
noncomputable def sy (b:List UInt8) (o:Option (Int×g6×Nat)):Option (k8×List fK):=o.bind (TK b)
noncomputable def XK (L:Nat→Nat→Int→g6→Option (Int×g6×Nat)) (last:Int) (v:g6) (z:Nat×Nat):=L z.1 z.2 last v
theorem xE {c:fK}{r:List fK}{v:k8}{q:OJ}(h1:c.op≠248) (h:lp c r v=some q):Iy v (c::r)=Iy q.2 q.1:=(mP h1 h).trans (Be (Dj _ h) (aA _))
theorem DQ {n a:Nat}{last td:Int}{v v':g6}(ho:op≠248) (h:kE b op (p+1) last v=(gu b a 1).map fun z=>(z.1,z.2,td,v')) (hn:b.length-(p+1)≤n) (ha:p+1≤a) :
  fQ b n op (p+1) last v=(gu b a 1).bind (XK (fQ b (n-1)) td v'):=by
 cases n with
 |zero=>exact iF ho (bN (jC (j5 (az (fV (jI.mp hn)) ha))) rfl).symm
 |succ n=>
  refine iF ho ?_
  rw[h]
  cases gu b a 1<;>rfl
theorem D6 (b:List UInt8) (m:Nat):∀{n p:Nat}{last:Int}{v:g6},b.length-p≤m→b.length-(p+1)≤n→rI b p (v.l last)=sy b ((gu b p 1).bind (XK (fQ b n) last v)):=by
 have out:∀{n p:Nat}{last:Int}{v:g6},¬p<b.length→rI b p (v.l last)=sy b ((gu b p 1).bind (XK (fQ b n) last v)):=fun hp=>(bN (ua (aS hp)) rfl).trans (congrArg (sy b) (bN (jC (zX hp)) rfl).symm)
 induction m with
 |zero=>exact fun hm _=>out (bL (fV (jI.mp hm)))
 |succ m ih=>
  intro n p last v hm hn
  by_cases hp:p<b.length
  rotate_left
  ·exact out hp
  rw[j4 hp]
  generalize ho:(b.getD p 0).toNat=op
  show _=sy b (fQ b n op (p+1) last v)
  by_cases h8:op=248
  ·subst h8
   rw[vk]
   show(cut b p).bind _=(cut b p).map _
   refine(my hp ho).elim (fun e=>by rw[e];rfl) ?_
   rintro⟨r,e⟩
   rw[e]
   exact pQ rfl
  -- T3 is VA,and T3 aan on
  have no:kE b op (p+1) last v=none→(∀r,cut b p=some (ct b op p::r)→lp (ct b op p) r (v.l last)=none)→rI b p (v.l last)=sy b (fQ b n op (p+1) last v):=fun h k=>by
   rw[sv h8 h]
   refine(my hp ho).elim (fun e=>bN e rfl) ?_
   rintro⟨r,e⟩
   exact bS e (kA h8 (k r e))
  have go:∀{a:Nat}{td:Int}{v':g6},kE b op (p+1) last v=((gu b a 1).map fun z=>(z.1,z.2,td,v'))→p+1≤a→rI b p (v.l last)=rI b a (v'.l td)→rI b p (v.l last)=sy b (fQ b n op (p+1) last v):=fun h ha e=>by
   rw[DQ h8 h hn ha]
   exact e.trans (ih (sub_le ha hm) (yx ha hn))
  by_cases h1:op=139
  ·subst h1
   have key:=LW (kn:=v.cJ) (last:=last) hp
   have hs:kE b 139 (p+1) last v=(nC b last (p+1) v.cJ).bind (mn1 b (p+1) v):=if_pos rfl
   have e1:rI b p (v.l last)=((nC b last (p+1) v.cJ).bind (MD b)).bind fun q=>Iy ⟨q.2.1,v.ca++[(q.1.1,q.1.2.rows)],(p:Int),max v.il q.1.2.deep⟩ q.2.2:=by
    rw[key]
    by_cases hc:aO b 139 p≤b.length∧jH ((ct b 139 p).args.drop 40)=last
    ·rw[if_pos hc]
     show(cut b p).bind _=(((cut b _).bind _).map _).bind _
     rw[mw hp ho (by decide) hc.1]
     cases cut b (aO b 139 p) with
     |none=>rfl
     |some r=>
      have hl:lp (ct b 139 p) r (v.l last)=(la r AN.l v.cJ).map (lm1 (ct b 139 p) (v.l last)):=if_pos ⟨rfl,hc.2⟩
      show Iy _ (ct b 139 p::r)=((la r AN.l v.cJ).map _).bind _
      cases e:la r AN.l v.cJ with
      |none=>rw[e] at hl;exact kA (by exact h8) hl
      |some q=>rw[e] at hl;exact xE (by exact h8) hl
    ·rw[if_neg hc]
     refine(my hp ho).elim (fun e=>bN e rfl) ?_
     rintro⟨r,e⟩
     by_cases hf:b.length<aO b 139 p
     ·rw[nt hp ho hf] at e;exact nS e
     ·exact bS e (kA h8 (iF (fun z=>hc ⟨aS hf,z.2⟩) (iF (by exact(by decide:¬(243≤139∧139<247))) (if_pos (by exact(by decide:139≠138))))))
   cases hr:nC b last (p+1) v.cJ with
   |none=>
    rw[hr] at e1 hs
    rw[e1,sv h8 hs];rfl
   |some q=>
    rw[hr] at e1 hs
    refine go (a:=q.2.2) (hs.trans (by show(gu b q.2.2 1).map _=_;rw[show(((p+1:Nat):Int)-1)=(p:Int) from(show(p:Int)+1-1=p from Int.add_sub_cancel _ _)])) (az (bC _ 40) (Dg _ hr).1) (e1.trans ?_)
    show((cut b q.2.2).map _).bind _=(cut b q.2.2).bind _
    cases cut b q.2.2<;>rfl
  by_cases h3:243≤op∧op<247
  ·have hs:kE b op (p+1) last v=(lT b op (p+1) v.cJ).bind (mn2 b last v):=iF h1 (if_pos h3)
   have hl:∀r,lp (ct b op p) r (v.l last)=(iD op (ct b op p).args v.cJ).map (lm2 r (v.l last)):=fun r=>iF (fun z=>h1 z.1) (if_pos h3)
   rw[zR h3] at hs
   by_cases he:aO b op p≤b.length
   ·rw[if_pos he] at hs
    cases hk:iD op (ct b op p).args v.cJ with
    |none=>rw[hk] at hs hl;exact no hs fun r _=>hl r
    |some k=>
     rw[hk] at hs hl
     refine go (a:=aO b op p) (v':={ v with cJ:=k }) hs (jV hp) ?_
     show(cut b p).bind _=(cut b _).bind _
     rw[mw hp ho (ky h3.2 rfl) he]
     cases cut b (aO b op p) with
     |none=>rfl
     |some r=>exact xE h8 (hl r)
   ·rw[if_neg he] at hs
    exact no hs fun r e=>nS ((nt hp ho (bp he)).symm.trans e)
  by_cases h4:op=138
  ·subst h4
   have hc:aO b 138 p=p+1:=eE (op:=138) (by decide) rfl
   refine go (a:=p+1) (iF h1 (iF h3 (if_neg fun z=>z rfl))) (aA _) ?_
   show(cut b p).bind _=(cut b _).bind _
   rw[mw hp ho (by decide) (oS hc hp),hc]
   cases cut b (p+1) with
   |none=>rfl
   |some r=>exact xE h8 (iF (fun z=>h1 z.1) (iF h3 (if_neg fun z=>z rfl)))
  ·exact no (iF h1 (iF h3 (if_pos h4))) fun r _=>iF (fun z=>h1 z.1) (iF h3 (if_pos h4))
theorem RJ {n:Nat}:∀{op a:Nat}{last:Int}{v:g6},a≤b.length→40*v.ca.length≤a→hN (fQ b n op a last v) fun r=>r.2.1.units=v.units∧r.2.1.comment=v.comment∧40*r.2.1.ca.length≤b.length:=by
 induction n with
 |zero=>exact fun ha hp=>.ite (fun _=>.some ⟨rfl,rfl,az hp ha⟩) fun _=>.none
 |succ n ih=>exact fun ha hp=>.ite (fun _=>.some ⟨rfl,rfl,az hp ha⟩) fun _=>.cU tW fun _ h=>(ih h.le.2 (h.p hp)).mono fun _ k=>⟨k.1.trans h.u,k.2.1.trans h.c,k.2.2⟩
end
end
section
section
variable {b:List UInt8}{op p:Nat}{s:fE}{kn told:Known}
structure Sub (told kn:Known):Prop where
 nd:(told.map (·.1)).Nodup
 sub:∀k∈told.map (·.1),k∈kn.map (·.1)
theorem EN {l:Known}{k:Int}{r:mj}(h:l.lookup k=some r):k∈l.map (·.1):=by
 induction l with
 |nil=>exact nS h
 |cons x xs ih=>
  rw[dJ] at h
  cases e:k==x.1 with
  |true=>exact eq_of_beq e▸aI
  |false=>rw[e] at h;exact aG _ (ih h)
theorem Sub.snoc {k:Int}{r:mj}(h:Sub told kn) (h1:told.lookup k=none) (h2:kn.lookup k=some r):Sub (told++[(k,r)]) kn:=by
 refine⟨?_,fun x hx=>?_⟩
 ·rw[aF,mZ]
  refine⟨h.nd,dq.mpr ⟨bY,gF⟩,fun x hx y hy e=>?_⟩
  refine aq (dI.mp hx) fun q hq e2=>?_
  have h1:=gG.mp h1 q hq
  rw[show k=q.1 from(cT.mp hy).symm.trans (e.symm.trans e2.symm),bne_self_eq_false] at h1
  exact fT h1
 ·rw[aF,eG] at hx
  exact hx.elim (h.sub x) fun hx=>cT.mp hx▸EN h2
theorem Y6 {l:List Int}(h:l.Nodup) (h2:∀k∈l,k=3∨k=200) (hl:l.length=2):l=[3,200]∨l=[200,3]:=by
 obtain⟨a,b,rfl⟩:∃a b,l=[a,b]:=by
  rcases l with _ | ⟨a,_ | ⟨b,_ | ⟨c,r⟩⟩⟩
  ·cases hl
  ·cases hl
  ·exact⟨a,b,rfl⟩
  ·cases hl
 have AO:a≠b:=fun e=>(dq.mp h).1 (e▸aI)
 rcases h2 a aI with rfl | rfl<;>rcases h2 b (aG _ aI) with rfl | rfl
 ·exact absurd rfl AO
 ·exact .inl rfl
 ·exact .inr rfl
 ·exact absurd rfl AO
theorem Ww:BI [3,200]=[3,200]:=by unfold BI;rw[Nw];simp[lC]
theorem Zn:BI [200,3]=[3,200]:=by unfold BI;rw[Nw];simp[lC]
theorem Ts {l:List Int}(h:l.Nodup) (h2:∀k∈l,k=3∨k=200) (hl:l.length=2):BI l=[3,200]:=(Y6 h h2 hl).elim (fun e=>e▸Ww) fun e=>e▸Zn
theorem Lc (hk:eZ kn) (h:Sub told kn):BI (told.map (·.1))=BI (kn.map (·.1))↔told.length=kn.length:=by
 have e1:told.length=(told.map (·.1)).length:=aa _ |>.symm
 have e2:kn.length=(kn.map (·.1)).length:=aa _ |>.symm
 rw[e1,e2]
 have c1:=BC hk.1 hk.2
 have c2:∀k∈told.map (·.1),k=3∨k=200:=fun k hh=>hk.2 k (h.sub k hh)
 have c3:=h.sub
 have c4:=h.nd
 have c5:=hk.1
 have c6:=hk.2
 generalize told.map (·.1)=x at *
 generalize kn.map (·.1)=y at *
 refine⟨fun q=>?_,fun q=>?_⟩
 ·have:=congrArg m6 q
  unfold BI at this
  rw[Cg,Cg] at this
  exact this
 ·by_cases l2:y.length=2
  ·exact(Ts c4 c2 (q.trans l2)).trans (Ts c5 c6 l2).symm
  by_cases l1:y.length=1
  ·obtain⟨a,rfl⟩:=AQ.mp l1
   obtain⟨c,rfl⟩:=AQ.mp (q.trans l1)
   rw[cT.mp (c3 c aI)]
  ·have l0:y.length=0:=jI.mp (fp (mz (fp (mz c1 l2)) l1))
   rw[dD.mp l0,dD.mp (q.trans l0)]
noncomputable def RD (b:List UInt8) (y:Nat×Nat):Bool:=if y.1≠2 then false else !(decide (b.length-y.2<4)||(b.drop y.2).any fun x=>x != 223)
noncomputable def YK (b:List UInt8) (place:Nat) (z:Nat×Nat):Bool:=if z.1≠place then false else iq (gu b z.2 1) false (RD b)
noncomputable def oM (b:List UInt8) (place a:Nat):Bool:=iq (gu b a 4) false (YK b place)
theorem LF (l:List UInt8):(l.any fun x=>x != 223)=!decide (l=bH l.length 223):=by
 induction l with
 |nil=>rfl
 |cons x r ih=>
  rw[rQ,ih,cL,i7]
  by_cases h:x=223
  ·subst h
   rw[bne_self_eq_false,ng]
   exact congrArg not (decide_eq_decide.mpr ⟨fun e=>congrArg _ e,fun e=>(Fq e).2⟩)
  ·rw[bne_iff_ne.mpr h,Bool.true_or,decide_eq_false fun e=>h (Fq e).1];rfl
theorem Ve {c:Prop} [Decidable c] {x:Bool}(h:(if c then false else x)=true):¬c∧x=true:=by
 by_cases k:c
 ·rw[if_pos k] at h;exact fT h
 ·rw[if_neg k] at h;exact⟨k,h⟩
theorem J1 {place a:Nat}(h:b.length-a<9):oM b place a=false:=Ja.mpr fun e=>by
 refine aq (ei e) fun z hz e=>?_
 refine aq (ei (Ve e).2) fun y hy e=>?_
 have k:=Bool.or_eq_false_iff.mp ((m7 _).mp (Ve e).2)
 have k:=of_decide_eq_false k.1
 rw[(DN _ hy).1,(DN _ hz).1] at k
 exact k (by rw[nL,←Nat.sub_sub];exact Nat.sub_lt_left_of_lt_add (aS fun z=>k (cj (by rw[nL,←Nat.sub_sub];exact bF (Dv (dz z))) (by decide))) h)
theorem tail_eq {place q:Nat}(hk:eZ kn) (hs:Sub told kn) (hq:q<b.length) :
  vz place (c0 b (q+1) b.length) told kn=(decide (told.length=kn.length)&&oM b place (q+1)):=by
 have hl:(c0 b (q+1) b.length).length=b.length-(q+1):=kQ b (aA _)
 unfold vz
 by_cases h9:b.length-(q+1)<9
 ·rw[if_pos (hl▸h9),J1 h9,qq]
 have Sy:q+1+9≤b.length:=by rw[fJ];exact Nat.add_le_of_le_sub hq (aS h9)
 have t1:oM b place (q+1)=if be (c0 b (q+1) (q+1+4))≠place then false else iq (gu b (q+1+4) 1) false (RD b):=oB (oJ (show q+1+4≤b.length from f9 5 Sy rfl))
 have t2:iq (gu b (q+1+4) 1) false (RD b)=if (b.getD (q+1+4) 0).toNat≠2 then false else !(decide (b.length-(q+1+4+1)<4)||(b.drop (q+1+5)).any fun x=>x != 223):=oB (j4 (show q+1+4<b.length from f9 4 Sy rfl))
 rw[if_neg (hl▸h9),t1,t2]
 unfold Z3
 rw[eg (show q+1+4≤b.length from f9 5 Sy rfl)]
 by_cases hb:be (c0 b (q+1) (q+1+4))≠place
 ·exact iT hb (by rw[if_pos hb,qq])
 refine iF hb ?_
 rw[if_neg hb]
 unfold YV
 rw[ym (show q+1+4<b.length from f9 4 Sy rfl)]
 by_cases h2:(b.getD (q+1+4) 0).toNat≠2
 ·rw[if_pos h2,if_pos h2,qq]
 rw[if_neg h2,if_neg h2,decide_eq_false (show ¬b.length-(q+1+4+1)<4 from bL (Dw Sy)),ng,LF,Bool.not_not]
 unfold Dh
 rw[decide_eq_decide.mpr (Lc hk hs),hl,jr,show c0 b (q+1+5) b.length=b.drop (q+1+5) from dK (bF aJ),aJ]
 rfl
noncomputable def ZG (L:Nat→Nat→Known→Option (Known×Nat)) (told:Known) (z:Nat×Nat):=L z.1 z.2 told
noncomputable def rK (b:List UInt8) (place q:Nat) (kn told:Known):Bool:=iq (cut b q) false fun r=>nX place kn r told
noncomputable def SS (b:List UInt8) (place:Nat) (kn:Known) (z:Known×Nat):Bool:=decide (z.1.length=kn.length)&&oM b place z.2
noncomputable def uA (b:List UInt8) (place:Nat) (kn:Known) (o:Option (Known×Nat)):Bool:=iq o false (SS b place kn)
theorem DY {n a:Nat}{wR:Known}(ho:op≠249) (h:mn b kn op (p+1) told=(gu b a 1).map fun z=>(z.1,z.2,wR)) (hn:b.length-(p+1)≤n) (ha:p+1≤a) :
  gO b kn n op (p+1) told=(gu b a 1).bind (ZG (gO b kn (n-1)) wR):=by
 cases n with
 |zero=>exact iF ho (bN (jC (j5 (az (fV (jI.mp hn)) ha))) rfl).symm
 |succ n=>
  refine iF ho ?_
  rw[h]
  cases gu b a 1<;>rfl
theorem Eb (b:List UInt8) (place:Nat) (kn:Known) (hk:eZ kn) (m:Nat):∀{n p:Nat}{told:Known},b.length-p≤m→b.length-(p+1)≤n→Sub told kn →
  rK b place p kn told=uA b place kn ((gu b p 1).bind (ZG (gO b kn n) told)):=by
 have out:∀{n p:Nat}{told:Known},¬p<b.length→rK b place p kn told=uA b place kn ((gu b p 1).bind (ZG (gO b kn n) told)):=fun hp=>(oN (ua (aS hp))).trans (oN (bN (jC (zX hp)) rfl)).symm
 induction m with
 |zero=>exact fun hm _ _=>out (bL (fV (jI.mp hm)))
 |succ m ih=>
  intro n p told hm hn hs
  by_cases hp:p<b.length
  rotate_left
  ·exact out hp
  rw[j4 hp]
  generalize ho:(b.getD p 0).toNat=op
  show _=uA b place kn (gO b kn n op (p+1) told)
  by_cases h9:op=249
  ·subst h9
   rw[uC]
   exact(oB (C2 hp ho)).trans ((HR rfl).trans (tail_eq hk hs hp))
  have no:mn b kn op (p+1) told=none→(∀r,cut b p=some (ct b op p::r)→oX kn (ct b op p) told=none)→rK b place p kn told=uA b place kn (gO b kn n op (p+1) told):=fun h k=>by
   rw[w8 h9 h]
   refine(my hp ho).elim (fun e=>oN e) ?_
   rintro⟨r,e⟩
   exact(oB e).trans (CY h9 (k r e))
  have go:∀{a:Nat}{wR:Known},mn b kn op (p+1) told=((gu b a 1).map fun z=>(z.1,z.2,wR))→p+1≤a→Sub wR kn→rK b place p kn told=rK b place a kn wR→rK b place p kn told=uA b place kn (gO b kn n op (p+1) told):=fun h ha hs e=>by
   rw[DY h9 h hn ha]
   exact e.trans (ih (sub_le ha hm) (yx ha hn) hs)
  by_cases h3:243≤op∧op<247
  ·have hf:mn b kn op (p+1) told=(me b op (p+1)).bind (pf1 b kn told):=if_pos h3
   have hl:oX kn (ct b op p) told=(ma (ct b op p).args (op-242)).bind (Yi kn told):=if_pos h3
   rw[C4 h3] at hf
   by_cases he:aO b op p≤b.length
   ·rw[if_pos he] at hf
    cases e:ma (ct b op p).args (op-242) with
    |none=>rw[e] at hf hl;exact no hf fun _ _=>hl
    |some z=>
     rw[e] at hf hl
     by_cases h5:(told.lookup (z.1:Int)).isSome∨kn.lookup (z.1:Int)≠some z.2
     ·exact no (hf.trans (if_pos h5)) fun _ _=>hl.trans (if_pos h5)
     ·refine go (a:=aO b op p) (hf.trans (if_neg h5)) (jV hp) (hs.snoc (kB.mp fun q=>h5 (.inl q)) (jk.mp fun q=>h5 (.inr q))) ?_
      show iq (cut b p) _ _=iq (cut b _) _ _
      rw[mw hp ho (ky h3.2 rfl) he]
      cases cut b (aO b op p) with
      |none=>rfl
      |some r=>exact yo h9 (hl.trans (if_neg h5))
   ·rw[if_neg he] at hf
    exact no hf fun r e=>nS ((nt hp ho (bp he)).symm.trans e)
  by_cases h4:op=138
  ·subst h4
   have hc:aO b 138 p=p+1:=eE (op:=138) (by decide) rfl
   refine go (a:=p+1) (iF h3 (if_neg fun z=>z rfl)) (aA _) hs ?_
   show iq (cut b p) _ _=iq (cut b _) _ _
   rw[mw hp ho (by decide) (oS hc hp),hc]
   cases cut b (p+1) with
   |none=>rfl
   |some r=>exact yo h9 (iF h3 (if_neg fun z=>z rfl))
  ·exact no (iF h3 (if_pos h4)) fun _ _=>iF h3 (if_pos h4)
noncomputable def g6.out (v:g6):wo:=⟨v.units,v.comment,v.ca,v.lX,v.widest,v.il,v.cJ⟩
noncomputable def V5 (u:Int×Int×Int) (a:Nat):Option ((Int×Int×Int)×Nat):=if min (min u.1 u.2.1) u.2.2≤0 then none else some (u,a)
theorem za {a:Nat}(h:a+12≤b.length):nu b a=V5 (three (c0 b a (a+12))) (a+12):=
 bS (nU (f9 8 h rfl) (by decide)) (bS (nU (f9 4 h rfl) (by decide)) (bS (nU h (by decide)) (by
  unfold three
  rw[eg (show a+4≤a+12 from lM 8 rfl),eg (show a+8≤a+12 from lM 4 rfl),eg (show a+12≤a+12 from aA _)]
  rfl)))
end
end
section
section
variable {b:List UInt8}{op p:Nat}{kn:Known}
theorem BG {a x a':Nat}(h:gu b a 1=some (x,a')):a'=a+1∧a<b.length∧(b.getD a 0).toNat=x:=by
 by_cases hp:a<b.length
 ·rw[j4 hp] at h;cases h;exact⟨rfl,hp,rfl⟩
 ·rw[jC (zX hp)] at h;exact nS h
noncomputable def KL (b:List UInt8) (op a':Nat):Prop:=∃p,a'=p+1∧p<b.length∧(b.getD p 0).toNat=op
theorem Pn {a:Nat}:hN (gu b a 1) fun z=>KL b z.1 z.2:=fun z e=>⟨a,BG e⟩
theorem Ow {a:Nat}{last:Int}{v:g6}:hN (kE b op a last v) fun q=>KL b q.1 q.2.1:=
 .ite (fun _=>.bind fun _ _=>.jo Pn fun _ h=>h) fun _=>.ite (fun _=>.bind fun _ _=>.jo Pn fun _ h=>h) fun _=>.ite (fun _=>.none) fun _=>.jo Pn fun _ h=>h
theorem atO {n:Nat}:∀{op a:Nat}{last:Int}{v:g6},KL b op a→hN (fQ b n op a last v) fun r=>KL b 248 r.2.2:=by
 induction n with
 |zero=>exact fun h=>.ite (fun e=>.some (e▸h)) fun _=>.none
 |succ n ih=>exact fun h=>.ite (fun e=>.some (e▸h)) fun _=>.cU Ow fun _ k=>ih k
theorem xK {q place:Nat}(hk:eZ kn):rK b place q kn []=iq (jc b q kn) false (oM b place):=by
 rw[Eb b place kn hk _ (told:=[]) (n:=b.length-(q+1)) (aA _) (aA _) ⟨gF,fun k h=>by cases h⟩]
 unfold jc
 by_cases hq:q<b.length
 ·rw[j4 hq]
  show iq (gO b kn (b.length-(q+1)) _ _ _) _ _=iq ((gO b kn (b.length-(q+1)) _ _ _).bind _) _ _
  cases gO b kn (b.length-(q+1)) (b.getD q 0).toNat (q+1) [] with
  |none=>rfl
  |some z=>
   show(decide (z.1.length=kn.length)&&_)=iq (Vp kn z) _ _
   unfold Vp
   by_cases h1:z.1.length=kn.length
   ·rw[decide_eq_true h1,QF,if_neg fun k=>k h1];rfl
   ·rw[decide_eq_false h1,xr,if_pos h1];rfl
 ·rw[jC (zX hq)];rfl
theorem GI {place a:Nat}{v:g6}{pX wide:Int}:V6 b (place+1) v pX wide a=cond (oM b place a) (some { v with lX:=pX,widest:=wide }) none:=by
 show(gu b a 4).bind _=cond (iq (gu b a 4) _ _) _ _
 cases gu b a 4 with
 |none=>rfl
 |some z=>
  show Zf b (place+1) v pX wide z=cond (YK b place z) _ _
  unfold Zf YK
  by_cases h1:z.1≠place
  ·rw[if_pos h1];exact if_pos h1
  rw[if_neg h1]
  refine iF h1 ?_
  cases gu b z.2 1 with
  |none=>rfl
  |some y=>
   show Y3 b v pX wide y=cond (RD b y) _ _
   unfold Y3 RD
   by_cases h2:y.1≠2
   ·rw[if_pos h2,if_pos h2];rfl
   rw[if_neg h2,if_neg h2]
   by_cases h3:b.length-y.2<4
   ·rw[if_pos (.inl h3),decide_eq_true h3];rfl
   ·rw[decide_eq_false h3,ng]
    cases e:(b.drop y.2).any fun x=>x != 223 with
    |true=>exact if_pos (.inr rfl)
    |false=>exact if_neg fun k=>k.elim h3 fT
theorem Qh {a:Nat}{last:Int}{v:g6}:hN (sb b a last v) fun _=>a+28≤b.length:=
 .cU Jq fun _ h1=>.ite (fun _=>.none) fun _=>.cU (R:=fun z=>∃x,x≤b.length∧z.2=x∧x=_+12) (.cU Jq fun _ h1=>.cU Jq fun _ h2=>.cU Jq fun _ h3=>.ite (fun _=>.none) fun _=>.some ⟨_,h3.2,rfl,by rw[h3.1,h2.1,h1.1]⟩) fun _ h2=>
 .ite (fun _=>.none) fun _=>.cU Jq fun _ h3=>.cU Jq fun _ h4=>.cU DN fun _ h5=>.ite (fun _=>.none) fun _=>.cU DN fun _ h6=>.ite (fun _=>.none) fun _=>
 fun _ _=>by refine aL h2 fun x _ e h=>?_;clear h2;have:=h6.2;rw[h6.1,h5.1,h4.1,h3.1,e,h,h1.1] at this;exact this
theorem xZ {α:Type}{c d:Prop} [Decidable c] [Decidable d] {x y:α}:(if c∨d then x else y)=if c then x else if d then x else y:=by
 by_cases h:c
 ·rw[if_pos h,if_pos (.inl h)]
 ·rw[if_neg h]
  by_cases k:d
  ·rw[if_pos k,if_pos (.inr k)]
  ·rw[if_neg k,if_neg fun z=>z.elim h k]
theorem IY (e:aO b 248 p=p+1+28):(ct b 248 p).args=c0 b (p+1) (p+1+28):=congrArg (c0 b (p+1)) e
theorem post_eq {sc:Int×Int×Int}{cm:List UInt8}{last:Int}{v:g6}(hp:p<b.length) (ho:(b.getD p 0).toNat=248) (hu:v.units=sc) (hcm:v.comment=cm) (h0:¬min (min sc.1 sc.2.1) sc.2.2≤0) (hk:eZ v.cJ)
  (hpg:v.ca.length<65536):((cut b p).bind fun cs=>QX sc cm (v.l last,cs))=(sb b (p+1) last v).map g6.out:=by
 subst hu
 subst hcm
 have hc:aO b 248 p=p+1+28:=iF (by decide) (iF (by decide) (iF (by decide) (iF (by decide) (if_pos rfl))))
 by_cases he:p+1+28≤b.length
 rotate_left
 ·exact(bN (nt hp ho (hc▸bp he)) rfl).trans (mN (Qh.no he) rfl).symm
 have e1:sb b (p+1) last v=WD b (p+1) last v (jH (c0 b (p+1) (p+1+4)),p+1+4):=bS (nU (f9 24 he rfl) (by decide)) rfl
 have a0:∀i j,j≤28→c0 (c0 b (p+1) (p+1+28)) i j=c0 b (p+1+i) (p+1+j):=fun i j h=>eg (gI h _)
 have a2:three (c0 b (p+1+4) (p+1+28))=three (c0 b (p+1+4) (p+1+4+12)):=by
  unfold three
  rw[eg (show p+1+4+4≤p+1+28 from lM 20 rfl),eg (show p+1+4+8≤p+1+28 from lM 16 rfl),eg (show p+1+4+12≤p+1+28 from lM 12 rfl),eg (show p+1+4+4≤p+1+4+12 from lM 8 rfl),eg (show p+1+4+8≤p+1+4+12 from lM 4 rfl),eg (show p+1+4+12≤p+1+4+12 from aA _)]
 have hl:∀r,QX v.units v.comment (v.l last,ct b 248 p::r)=if jH (c0 b (p+1) (p+1+4))≠last then none else if three (c0 b (p+1+4) (p+1+4+12))≠v.units then none else
   if nX p v.cJ r []=false then none else if (be (c0 b (p+1+24) (p+1+26)):Int)<v.il then none else if be (c0 b (p+1+26) (p+1+28))≠v.ca.length then none else
   some ⟨v.units,v.comment,v.ca,jH (c0 b (p+1+16) (p+1+20)),jH (c0 b (p+1+20) (p+1+24)),v.il,v.cJ⟩:=fun r=>by
  show VF _ _ _ (ct b 248 p) r=_
  unfold VF lf5
  rw[IY hc,a0 0 4 (by decide),jr,a2,a0 24 26 (by decide),jr,a0 16 20 (by decide),a0 20 24 (by decide),xZ,xZ,xZ]
  rfl
 rw[e1]
 unfold WD
 by_cases h1:jH (c0 b (p+1) (p+1+4))≠last
 ·rw[if_pos h1]
  refine(my hp ho).elim (fun e=>bN e rfl) ?_
  rintro⟨r,e⟩
  exact bS e ((hl r).trans (if_pos h1))
 rw[if_neg h1,za (show p+1+4+12≤b.length from f9 12 he rfl)]
 unfold V5
 by_cases h2:three (c0 b (p+1+4) (p+1+4+12))≠v.units
 ·have:((if min (min (three (c0 b (p+1+4) (p+1+4+12))).1 (three (c0 b (p+1+4) (p+1+4+12))).2.1) (three (c0 b (p+1+4) (p+1+4+12))).2.2≤0 then none else some (three (c0 b (p+1+4) (p+1+4+12)),p+1+4+12)).bind (Vm b (p+1) v))=none:=
   hN.no (p:=False) (.cU (R:=fun z=>z.1≠v.units) (.ite (fun _=>.none) fun _=>.some h2) fun _ k=>.ite (fun _=>.none) fun q=>absurd k q) id
  rw[this]
  refine(my hp ho).elim (fun e=>bN e rfl) ?_
  rintro⟨r,e⟩
  exact bS e ((hl r).trans (iF h1 (if_pos h2)))
 have h2':=jk.mp h2
 rw[if_neg (h2'▸h0)]
 have e2:Vm b (p+1) v (three (c0 b (p+1+4) (p+1+4+12)),p+1+4+12)=Wm b (p+1) v (jH (c0 b (p+1+16) (p+1+20))) (jH (c0 b (p+1+20) (p+1+24))) (be (c0 b (p+1+24) (p+1+26)),p+1+26):=
  iF h2 (bS (nU (show p+1+4+12+4≤b.length from f9 8 he rfl) (by decide)) (bS (nU (show p+1+4+12+4+4≤b.length from f9 4 he rfl) (by decide)) (bS (oJ (show p+1+4+12+4+4+2≤b.length from f9 2 he rfl)) rfl)))
 show _=(Vm b (p+1) v _).map _
 rw[e2]
 unfold Wm
 by_cases h3:(be (c0 b (p+1+24) (p+1+26)):Int)<v.il
 ·rw[if_pos h3]
  refine(my hp ho).elim (fun e=>bN e rfl) ?_
  rintro⟨r,e⟩
  refine bS e ((hl r).trans (iF h1 (iF h2 ?_)))
  by_cases k:nX p v.cJ r []=false
  ·exact if_pos k
  ·exact iF k (if_pos h3)
 have e3:(gu b (p+1+26) 2).bind (V2 b (p+1) v (jH (c0 b (p+1+16) (p+1+20))) (jH (c0 b (p+1+20) (p+1+24))))=V2 b (p+1) v (jH (c0 b (p+1+16) (p+1+20))) (jH (c0 b (p+1+20) (p+1+24))) (be (c0 b (p+1+26) (p+1+28)),p+1+28):=bS (oJ he) rfl
 refine ow ?_ (congrArg (ke g6.out) (iF h3 e3)).symm
 unfold V2
 rw[vV hpg]
 by_cases h4:be (c0 b (p+1+26) (p+1+28))≠v.ca.length
 ·refine ow ?_ (congrArg (ke g6.out) (if_pos h4)).symm
  refine(my hp ho).elim (fun e=>bN e rfl) ?_
  rintro⟨r,e⟩
  refine bS e ((hl r).trans (iF h1 (iF h2 ?_)))
  by_cases k:nX p v.cJ r []=false
  ·exact if_pos k
  ·exact iF k (iF h3 (if_pos h4))
 refine ow ?_ (congrArg (ke g6.out) (if_neg h4)).symm
 have key:=xK (b:=b) (q:=p+1+28) (place:=p) hk
 have e5:(((jc b (p+1+28) v.cJ).bind (V6 b (p+1) v (jH (c0 b (p+1+16) (p+1+20))) (jH (c0 b (p+1+20) (p+1+24))))).map g6.out)=cond (rK b p (p+1+28) v.cJ []) (some ⟨v.units,v.comment,v.ca,jH (c0 b (p+1+16) (p+1+20)),jH (c0 b (p+1+20) (p+1+24)),v.il,v.cJ⟩) none:=by
  rw[key]
  cases jc b (p+1+28) v.cJ with
  |none=>rfl
  |some a=>
   show(V6 b (p+1) v _ _ a).map _=cond (oM b p a) _ _
   rw[GI]
   cases oM b p a<;>rfl
 refine ow ?_ e5.symm
 unfold rK
 rw[mw hp ho (by decide) (oS hc he),hc]
 cases cut b (p+1+28) with
 |none=>rfl
 |some r=>
  have e:fK.mk 248 p (c0 b (p+1) (p+1+28))=ct b 248 p:=congrArg (fun e=>fK.mk 248 p (c0 b (p+1) e)) hc.symm
  show QX _ _ (_,fK.mk 248 p (c0 b (p+1) (p+1+28))::r)=cond (nX p v.cJ r []) _ _
  rw[e]
  refine(hl r).trans (iF h1 (iF h2 ?_))
  cases nX p v.cJ r [] with
  |false=>rfl
  |true=>exact iF Bool.noConfusion (iF h3 (if_neg h4))
theorem Dm (b:List UInt8) (hb:b.length≤100000):rF b=(iK b).map g6.out:=by
 show(cut b 0).bind V9=((gu b 0 1).bind _).map _
 by_cases hp:0<b.length
 rotate_left
 ·exact(bN (ua (aS hp)) rfl).trans (mN (bN (jC (zX hp)) rfl) rfl).symm
 rw[j4 hp]
 generalize ho:(b.getD 0 0).toNat=op
 have no:(∀r,Oc (ct b op 0) r=none)→(cut b 0).bind V9=none:=fun h=>(my hp ho).elim (fun e=>bN e rfl) (by rintro⟨r,e⟩;exact bS e (h r))
 show _=(ZR b (op,0+1)).map _
 by_cases h7:op≠247
 ·exact(no fun r=>if_pos (.inl h7)).trans (mN (if_pos h7) rfl).symm
 have h7:op=247:=jk.mp h7
 subst h7
 have kM:aO b 247 0=15+Ai (c0 b 14 15):=iF (by decide) (iF (by decide) (iF (by decide) (if_pos rfl)))
 have e1:ZR b (247,0+1)=(gu b 1 1).bind (VY b):=if_neg fun h=>h rfl
 rw[e1]
 by_cases Q4:15≤b.length
 rotate_left
 ·refine(bN (nt hp ho (aV (bp Q4) (kM▸bC _ _))) rfl).trans (mN ?_ rfl).symm
  exact hN.no (p:=15≤b.length) (.cU DN fun _ h1=>.ite (fun _=>.none) fun _=>.cU (R:=fun z=>∃x,x≤b.length∧z.2=x∧x=_+12) (.cU Jq fun _ h1=>.cU Jq fun _ h2=>.cU Jq fun _ h3=>.ite (fun _=>.none) fun _=>.some ⟨_,h3.2,rfl,by rw[h3.1,h2.1,h1.1]⟩) fun _ h2=>
   .cU DN fun _ h3=>fun _ _=>by refine aL h2 fun x _ e h=>?_;clear h2;have:=h3.2;rw[h3.1,e,h,h1.1] at this;exact this) Q4
 have hm:Ai (c0 b 14 15)=(b.getD 14 0).toNat:=by rw[uf (b:=b) (x:=14) Q4];exact Nat.add_zero _
 rw[hm] at kM
 generalize RF:(b.getD 14 0).toNat=hV at *
 have a0:(ct b 247 0).args.getD 0 0=b.getD 1 0:=ym (kM▸aV (by decide) (bC 15 hV))
 have a2:(ct b 247 0).args.drop 14=c0 b 15 (15+hV):=(jr).trans (by rw[kM])
 have a1:three ((ct b 247 0).args.drop 1)=three (c0 b 2 14):=by
  have h:∀j,j≤12→2+j≤aO b 247 0:=fun j h=>kM▸az (gI h 2) (az (by decide) (bC 15 hV))
  show three ((c0 b 1 (aO b 247 0)).drop 1)=_
  unfold three
  rw[jr,eg (h 4 (by decide)),eg (h 8 (by decide)),eg (h 12 (by decide)),eg (show 2+4≤14 by decide),eg (show 2+8≤14 by decide),eg (show 2+12≤14 by decide)]
 rw[j4 (show 1<b.length from f9 13 Q4 rfl)]
 have l1:∀r,Oc (ct b 247 0) r=if (b.getD 1 0).toNat≠2 then none else Vr (three (c0 b 2 14)) (c0 b 15 (15+hV)) r:=fun r=>by
  unfold Oc
  rw[a0,a1,a2,xZ]
  exact if_neg fun h=>h rfl
 show _=(VY b ((b.getD 1 0).toNat,1+1)).map _
 by_cases h2:(b.getD 1 0).toNat≠2
 ·exact(no fun r=>(l1 r).trans (if_pos h2)).trans (mN (if_pos h2) rfl).symm
 have l2:∀r,Oc (ct b 247 0) r=Vr (three (c0 b 2 14)) (c0 b 15 (15+hV)) r:=fun r=>(l1 r).trans (if_neg h2)
 have e2:VY b ((b.getD 1 0).toNat,1+1)=(V5 (three (c0 b 2 14)) 14).bind (Iq b):=iF h2 (congrArg (Option.bind · (Iq b)) (za (a:=2) (f9 1 Q4 rfl)))
 rw[e2]
 generalize three (c0 b 2 14)=sc at *
 unfold V5
 by_cases h3:min (min sc.1 sc.2.1) sc.2.2≤0
 ·rw[if_pos h3]
  exact no fun r=>(l2 r).trans (if_pos h3)
 rw[if_neg h3]
 have e3:Iq b (sc,14)=(wu b 15 hV).bind (fi4 b sc):=bS (j4 (show 14<b.length from Q4)) (by rw[RF];rfl)
 show _=(Iq b (sc,14)).map _
 rw[e3]
 by_cases he:15+hV≤b.length
 rotate_left
 ·exact(bN (nt hp ho (kM▸bp he)) rfl).trans (mN (bN (BO (bp he)) rfl) rfl).symm
 rw[HN he,mw hp ho (by decide) (oS kM he),kM]
 generalize hE:15+hV=e at *
 have key:=D6 b _ (n:=b.length-(e+1)) (p:=e) (last:=-1) (v:=⟨sc,c0 b 15 e,[],[],0,0,0⟩) (aA _) (aA _)
 have L1:((cut b e).map (fK.mk 247 0 (c0 b (0+1) e)::·)).bind V9=(rI b e (g6.l ⟨sc,c0 b 15 e,[],[],0,0,0⟩ (-1))).bind (QX sc (c0 b 15 e)):=by
  unfold rI
  cases hc:cut b e with
  |none=>rfl
  |some cs=>
   have e':fK.mk 247 0 (c0 b (0+1) e)=ct b 247 0:=congrArg (fun e=>fK.mk 247 0 (c0 b (0+1) e)) kM.symm
   show Oc (fK.mk 247 0 (c0 b (0+1) e)) cs=(mV cs.length cs _).bind _
   rw[e']
   exact(l2 cs).trans (if_neg h3)
 refine L1.trans ?_
 rw[key]
 show _=((gu b e 1).bind (fi5 b sc (c0 b 15 e))).map _
 by_cases hx:e<b.length
 rotate_left
 ·rw[jC (zX hx)];rfl
 rw[j4 hx]
 show((fQ b (b.length-(e+1)) _ _ _ _).bind _).bind _=((fQ b (b.length-(e+1)) _ _ _ _).bind _).map _
 cases ZZ:fQ b (b.length-(e+1)) (b.getD e 0).toNat (e+1) (-1) ⟨sc,c0 b 15 e,[],[],0,0,0⟩ with
 |none=>rfl
 |some q=>
  obtain⟨td,v',a'⟩:=q
  refine aL (atO ⟨e,rfl,hx,rfl⟩ _ ZZ) fun p ha WK hp8=>?_
  have ha:a'=p+1:=ha
  subst ha
  have hs:=RJ hx (cQ _) _ ZZ
  have Jt:=Mu _ ZZ eZ.nil
  refine ow ?_ (post_eq (b:=b) (p:=p) (sc:=sc) (cm:=c0 b 15 e) (last:=td) (v:=v') WK hp8 hs.1 hs.2.1 h3 Jt (aW [_,_] [] [.L aB r7,.L (.m 40 aM) aB] (.T aM (.l 65536)) (.k [40,1,1]) rfl hb hs.2.2))
  show((cut b p).map _).bind _=_
  cases cut b p<;>rfl
end
end
section
open PySem PySem.W PySem.Calls PyProof.Rows
inductive ag where
 |list (vs:List AV)
 |dict (kvs:List (Int×AV))
 |eV (kvs:List (Int×AV)) (ep:Nat)
 |inst (C:aD) (fs:List (bu×AV))
structure Cx where
 prog:mX
 w:iN
 hb:cb
 K:gg
 pv:mX
 loose:List bu
 mg:bu→Option ai
 mb:bu→Option ai
 bd:aD
 sd:Array p8×mY
structure Cx.Ok (c:Cx):Prop where
 X:c.K.In c.hb
 T:TopRead c.pv c.loose c.mg c.mb c.hb
noncomputable abbrev Cx.M (c:Cx):Ft:=kg c.prog c.w
noncomputable abbrev Am:=List (aD×aD)
noncomputable abbrev Sd:=Array p8×mY
noncomputable abbrev gM (s:aH):Sd:=(s.gens,s.os)
mutual
noncomputable def bO (c:Cx) (h:cb) (α:Am):AV→ai→Prop
 |.none,v=>v=.none
 |.bool b,v=>v=.bool b
 |.int i,v=>∃t,v=.int i t
 |.str s,v=>∃t,v=.str s t
 |.d8 b,v=>∃t,v=.bytes b.toArray t
 |.fix x,v=>v=x
 |.tup vs,v=>∃a items,v=.ref a∧dn h a items∧bq c h α vs items.toList
 |.obj n,v=>∃p,α[n]?=some p∧v=.ref p.1
 |.iR kvs,v=>∃a kv,v=.ref a∧(a==gh)=false∧c.hb.DictOf (ia c.prog c.w) a kv∧da c h α kvs kv
noncomputable def bq (c:Cx) (h:cb) (α:Am):List AV→List ai→Prop
 |[],l=>l=[]
 |x::xs,l=>∃v r,l=v::r∧bO c h α x v∧bq c h α xs r
noncomputable def da (c:Cx) (h:cb) (α:Am):List (Int×AV)→List (Int×ai)→Prop
 |[],l=>l=[]
 |(k,x)::xs,l=>∃v r,l=(k,v)::r∧bO c h α x v∧da c h α xs r
end
noncomputable def eN (c:Cx) (h:cb) (α:Am):List (bu×AV)→List ej→Prop
 |[],l=>l=[]
 |(k,x)::xs,l=>∃e r t,l=e::r∧e.key=.str k t∧bO c h α x e.val∧eN c h α xs r
mutual
noncomputable def oq (f:Nat→Nat):AV→AV
 |.obj n=>.obj (f n)
 |.tup vs=>.tup (lK f vs)
 |.iR kvs=>.iR (qL f kvs)
 |a=>a
noncomputable def lK (f:Nat→Nat):List AV→List AV
 |[]=>[]
 |x::xs=>oq f x::lK f xs
noncomputable def qL (f:Nat→Nat):List (Int×AV)→List (Int×AV)
 |[]=>[]
 |(k,x)::xs=>(k,oq f x)::qL f xs
end
noncomputable def wx (f:Nat→Nat):List (bu×AV)→List (bu×AV)
 |[]=>[]
 |(k,x)::xs=>(k,oq f x)::wx f xs
inductive iW (α:Am) (b:aD):Prop
 |mk (n:Nat) (p:aD×aD) (e:α[n]?=some p) (q:b=p.1∨b=p.2)
inductive Tp (c:Cx) (h:cb) (α:Am) (p:aD×aD) (vs:List AV):Prop
 |mk (items:Array ai) (n:Nat) (ho:h.get? p.1=some ⟨.type "list",none,.seq items n,#[]⟩) (rs:bq c h α vs items.toList) (q:p.2=p.1)
inductive Sh (c:Cx) (h:cb) (α:Am) (p:aD×aD) (kvs:List (Int×AV)):Prop
 |mk (kv:List (Int×ai)) (ho:h.DictOf (ia c.prog c.w) p.1 kv) (rs:da c h α kvs kv) (q:p.2=p.1∧(p.1==gh)=false)
inductive PA (c:Cx) (h:cb) (α:Am) (p:aD×aD) (kvs:List (Int×AV)) (ep:Nat):Prop
 |mk (kv:List (Int×ai)) (ho:h.DictAt (ia c.prog c.w) p.1 kv ep) (rs:da c h α kvs kv) (q:p.2=p.1∧(p.1==gh)=false)
inductive Tw (c:Cx) (h:cb) (α:Am) (p:aD×aD) (C:aD) (fs:List (bu×AV)):Prop
 |mk (es:List ej) (n:Nat) (sl:Array (Option ai)) (h1:h.get? p.1=some ⟨.ref C,some p.2,.plain,sl⟩) (h2:h.get? p.2=some (dictOf es n)) (rs:eN c h α fs es)
noncomputable def k9 (c:Cx) (h:cb) (α:Am) (p:aD×aD):ag→Prop
 |.list vs=>Tp c h α p vs
 |.dict kvs=>Sh c h α p kvs
 |.eV kvs ep=>PA c h α p kvs ep
 |.inst C fs=>Tw c h α p C fs
structure gw (c:Cx) (h:cb) (α:Am) (H:List ag):Prop where
 len:α.length=H.length
 cell:∀{n:Nat}{x:ag}{p:aD×aD},H[n]?=some x→α[n]?=some p→k9 c h α p x
 apart:∀{i j:Nat}{p q:aD×aD},α[i]?=some p→α[j]?=some q→i≠j→p.1≠q.1∧p.1≠q.2∧p.2≠q.1∧p.2≠q.2
 base:∀b o,c.hb.get? b=some o→h.get? b=some o
 new:∀b,iW α b→c.hb.get? b=none
inductive Xi (fr:Option (List dH)) (b:aD):Prop
 |mk (l:List dH) (env:dH) (e:fr=some l) (m:env∈l) (f:env.frame=some b)
noncomputable def AK (A:aU) (b:aD):Prop:=Xi A.frames b
structure bM (A:aU) (own:aD→Prop) (α:Am) (h:cb) (bD:Am) (h':cb):Prop where
 pre:∀{n:Nat}{p:aD×aD},α[n]?=some p→bD[n]?=some p
 fresh:∀{b},iW bD b→iW α b∨h.get? b=none
 alive:∀{b o},h.get? b=some o→∃o',h'.get? b=some o'
 keep:∀{b o},h.get? b=some o→¬iW α b→¬own b→¬AK A b→h'.get? b=some o
 slot:∀{b o},h.get? b=some o→¬iW α b→¬own b→∃sl,h'.get? b=some { o with slots:=sl }
theorem bM.refl (A:aU) (own:aD→Prop) (α:Am) (h:cb):bM A own α h α h:=
 ⟨id,.inl,fun e=>⟨_,e⟩,fun e _ _ _=>e,fun{_ o} e _ _=>⟨o.slots,e⟩⟩
theorem bM.trans {A:aU}{own:aD→Prop}{α bD je:Am}{h h' pK:cb}(x:bM A own α h bD h') (y:bM A own bD h' je pK):bM A own α h je pK:=by
 have na:∀{b o},h.get? b=some o→¬iW α b→¬iW bD b:=fun{b o} e n q=>by
  rcases x.fresh q with q | q
  ·exact n q
  ·rw[q] at e;exact nS e
 refine⟨fun e=>y.pre (x.pre e),fun{b} q=>?_,fun e=>?_,fun e n1 n2 n3=>y.keep (x.keep e n1 n2 n3) (na e n1) n2 n3,fun e n1 n2=>?_⟩
 ·rcases y.fresh q with q | q
  ·exact x.fresh q
  ·right
   cases e:h.get? b with
   |none=>rfl
   |some o=>refine al (x.alive e) fun o' e'=>?_;rw[q] at e';exact nS e'
 ·refine al (x.alive e) fun _ e'=>?_;exact y.alive e'
 ·refine al (x.slot e n1 n2) fun sl e'=>?_
  refine al (y.slot e' (na e n1) n2) fun MQ Xh=>?_
  exact⟨MQ,Xh⟩
theorem gw.at {c:Cx}{h:cb}{α:Am}{H:List ag}(O:gw c h α H){b:aD}(a:iW α b):∃o,h.get? b=some o∧∀items n,o.data=.seq items n→o.cls=.type "list":=by
 obtain⟨n,p,e,q⟩:=a
 have hn:n<H.length:=by
  rw[←O.len];exact(ao.mp e).1
 have e2:=aw hn
 have cr:=O.cell e2 e
 cases hc:H[n] with
 |list vs=>
  rw[hc] at cr
  obtain⟨items,n,ho,_,h3⟩:=cr
  have:b=p.1:=by rcases q with q | q;exact q;rw[q,h3]
  exact⟨_,this▸ho,fun _ _ _=>rfl⟩
 |dict kvs=>
  rw[hc] at cr
  obtain⟨kv,⟨o,es,ep,ho,_,hd,_⟩,_,h3,_⟩:=cr
  have:b=p.1:=by rcases q with q | q;exact q;rw[q,h3]
  exact⟨o,this▸ho,fun _ _ e=>by rw[hd] at e;cases e⟩
 |eV kvs ep=>
  rw[hc] at cr
  obtain⟨kv,⟨o,es,ho,_,hd,_⟩,_,h3,_⟩:=cr
  have:b=p.1:=by rcases q with q | q;exact q;rw[q,h3]
  exact⟨o,this▸ho,fun _ _ e=>by rw[hd] at e;cases e⟩
 |inst C fs=>
  rw[hc] at cr
  obtain⟨es,n,sl,h1,h2,_⟩:=cr
  rcases q with q | q
  ·exact⟨_,q▸h1,fun _ _ e=>by cases e⟩
  ·exact⟨_,q▸h2,fun _ _ e=>by cases e⟩
theorem gw.Ng {c:Cx}{h:cb}{α:Am}{H:List ag}(O:gw c h α H){b:aD}{items:Array ai}(t:dn h b items):¬iW α b:=fun a=>by
 refine aq (O.at a) fun o ho hs=>?_
 refine fU t fun o' jQ hc n hd=>?_
 clear t
 rw[ho] at jQ;replace jQ:=ae jQ;subst jQ
 have:=hs _ _ hd
 rw[hc] at this
 exact absurd (ai.type.inj this) (by decide)
noncomputable def eM (h:cb) (own:aD→Prop):Prop:=∀b,own b→∃o,h.get? b=some o∧(∀xs n,o.data≠.seq xs n)∧∀vs,o.data≠.fields vs
section
variable {c:Cx}{A:aU}{own:aD→Prop}{α bD:Am}{h h':cb}{H:List ag}
theorem bM.tup (x:bM A own α h bD h') (O:gw c h α H) (S:eM h own){a:aD}{items:Array ai}(t:dn h a items):dn h' a items:=by
 have n1:=O.Ng t
 refine fU t fun o ho hc n hd=>?_
 clear t
 have n2:¬own a:=fun q=>by
  refine aL (S a q) fun o' jQ hs _=>?_
  rw[ho] at jQ;replace jQ:=ae jQ;subst jQ
  exact hs _ _ hd
 refine al (x.slot ho n1 n2) fun sl e=>?_
 exact⟨_,e,hc,n,hd⟩
section carry
variable {f g:Nat→Nat}{T:AV→Prop}
structure Mv (c:Cx) (h h':cb) (α bD:Am) (f g:Nat→Nat) (T:AV→Prop):Prop where
 t:∀{vs:List AV},T (.tup vs)→∀x∈vs,T x
 d:∀{kvs:List (Int×AV)},T (.iR kvs)→∀p∈kvs,T p.2
 b:∀{n:Nat}{p:aD×aD},T (.obj n)→α[f n]?=some p→bD[g n]?=some p
 i:∀{a:aD}{items:Array ai},dn h a items→dn h' a items
theorem AV.ind {P:AV→Prop}(h0:P .none) (h1:∀b,P (.bool b)) (h2:∀i,P (.int i)) (h3:∀s,P (.str s)) (h4:∀b,P (.d8 b)) (h5:∀v,P (.fix v)) (h6:∀n,P (.obj n)) (ht:∀vs,(∀x∈vs,P x)→P (.tup vs)) (hd:∀kvs:List (Int×AV),(∀p∈kvs,P p.2)→P (.iR kvs)) (a:AV):P a:=
 AV.rec (motive_1:=P) (motive_2:=fun l=>∀x∈l,P x) (motive_3:=fun l=>∀p∈l,P p.2) (motive_4:=fun p=>P p.2) h0 h1 h2 h3 h4 h5 ht h6 hd (fun _ h=>nomatch h) (fun _ _ p q=>gj.mpr ⟨p,q⟩) (fun _ h=>nomatch h) (fun _ _ p q=>gj.mpr ⟨p,q⟩) (fun _ _ p=>p) a
theorem bq.mo {xs:List AV}:∀{vs:List ai},(∀x∈xs,∀{v},bO c h α (oq f x) v→bO c h' bD (oq g x) v)→bq c h α (lK f xs) vs→bq c h' bD (lK g xs) vs:=by
 induction xs with
 |nil=>exact fun _ r=>r
 |cons x xs ih=>exact fun k r=>aN r fun v l e r1 r2=>⟨v,l,e,k x aI r1,ih (fun y hy=>k y (aG _ hy)) r2⟩
theorem da.mo {xs:List (Int×AV)}:∀{vs:List (Int×ai)},(∀x∈xs,∀{v},bO c h α (oq f x.2) v→bO c h' bD (oq g x.2) v)→da c h α (qL f xs) vs→da c h' bD (qL g xs) vs:=by
 induction xs with
 |nil=>exact fun _ r=>r
 |cons x xs ih=>exact fun k r=>aN r fun v l e r1 r2=>⟨v,l,e,k x aI r1,ih (fun y hy=>k y (aG _ hy)) r2⟩
theorem eN.mo {xs:List (bu×AV)}:∀{vs:List ej},(∀x∈xs,∀{v},bO c h α (oq f x.2) v→bO c h' bD (oq g x.2) v)→eN c h α (wx f xs) vs→eN c h' bD (wx g xs) vs:=by
 induction xs with
 |nil=>exact fun _ r=>r
 |cons x xs ih=>exact fun k r=>cx r fun v l t e q r1 r2=>⟨v,l,t,e,q,k x aI r1,ih (fun y hy=>k y (aG _ hy)) r2⟩
theorem Mv.V (M:Mv c h h' α bD f g T) (a:AV):T a→∀{v:ai},bO c h α (oq f a) v→bO c h' bD (oq g a) v:=
 AV.ind (P:=fun a=>T a→∀{v:ai},bO c h α (oq f a) v→bO c h' bD (oq g a) v) (fun _ _ r=>r) (fun _ _ _ r=>r) (fun _ _ _ r=>r) (fun _ _ _ r=>r) (fun _ _ _ r=>r) (fun _ _ _ r=>r)
  (fun n t _ r=>aq r fun p e q=>⟨p,M.b t e,q⟩)
  (fun vs ih t _ r=>aN r fun a items e y r=>⟨a,items,e,M.i y,bq.mo (fun x hx=>ih x hx (M.t t x hx)) r⟩)
  (fun kvs ih t _ r=>b0 r fun a kv e q d r=>⟨a,kv,e,q,d,da.mo (fun x hx=>ih x hx (M.d t x hx)) r⟩) a
theorem uJ {xs:List AV}(h:∀x∈xs,oq f x=x):lK f xs=xs:=by
 induction xs with
 |nil=>rfl
 |cons x xs ih=>exact(congrArg (·::lK f xs) (h x aI)).trans (congrArg (x::·) (ih fun y hy=>h y (aG _ hy)))
theorem vv {xs:List (Int×AV)}(h:∀x∈xs,oq f x.2=x.2):qL f xs=xs:=by
 induction xs with
 |nil=>rfl
 |cons x xs ih=>exact(congrArg (fun y=>(x.1,y)::qL f xs) (h x aI)).trans (congrArg (x::·) (ih fun y hy=>h y (aG _ hy)))
theorem zv {xs:List (bu×AV)}(h:∀x∈xs,oq f x.2=x.2):wx f xs=xs:=by
 induction xs with
 |nil=>rfl
 |cons x xs ih=>exact(congrArg (fun y=>(x.1,y)::wx f xs) (h x aI)).trans (congrArg (x::·) (ih fun y hy=>h y (aG _ hy)))
theorem Df (t:∀{vs:List AV},T (.tup vs)→∀x∈vs,T x) (d:∀{kvs:List (Int×AV)},T (.iR kvs)→∀p∈kvs,T p.2) (b:∀{n:Nat},T (.obj n)→f n=n) (a:AV):T a→oq f a=a:=
 AV.ind (P:=fun a=>T a→oq f a=a) (fun _=>rfl) (fun _ _=>rfl) (fun _ _=>rfl) (fun _ _=>rfl) (fun _ _=>rfl) (fun _ _=>rfl) (fun _ h=>congrArg AV.obj (b h))
  (fun _ ih h=>congrArg AV.tup (uJ fun x hx=>ih x hx (t h x hx))) (fun _ ih h=>congrArg AV.iR (vv fun x hx=>ih x hx (d h x hx))) a
theorem mM {a:AV}:oq id a=a:=Df (T:=fun _=>True) (fun _ _ _=>trivial) (fun _ _ _=>trivial) (fun _=>rfl) a trivial
theorem pS {a:List AV}:lK id a=a:=uJ fun _ _=>mM
theorem r6 {a:List (Int×AV)}:qL id a=a:=vv fun _ _=>mM
theorem sH {a:List (bu×AV)}:wx id a=a:=zv fun _ _=>mM
section
variable (pre:∀{n:Nat}{p:aD×aD},α[n]?=some p→bD[n]?=some p) (ht:∀{a:aD}{items:Array ai},dn h a items→dn h' a items)
include pre ht
theorem VE:Mv c h h' α bD id id fun _=>True:=⟨fun _ _ _=>trivial,fun _ _ _=>trivial,fun _=>pre,ht⟩
theorem bO.carry {a:AV}{v:ai}(r:bO c h α a v):bO c h' bD a v:=by
 have:=(VE (c:=c) pre ht).V a trivial (v:=v);rw[mM] at this;exact this r
theorem bq.carry {a:List AV}{v:List ai}(r:bq c h α a v):bq c h' bD a v:=by
 have:=bq.mo (vs:=v) fun x (_:x∈a)=>(VE (c:=c) pre ht).V x trivial;rw[pS] at this;exact this r
theorem da.carry {a:List (Int×AV)}{v:List (Int×ai)}(r:da c h α a v):da c h' bD a v:=by
 have:=da.mo (vs:=v) fun x (_:x∈a)=>(VE (c:=c) pre ht).V x.2 trivial;rw[r6] at this;exact this r
theorem eN.carry {a:List (bu×AV)}{v:List ej}(r:eN c h α a v):eN c h' bD a v:=by
 have:=eN.mo (vs:=v) fun x (_:x∈a)=>(VE (c:=c) pre ht).V x.2 trivial;rw[sH] at this;exact this r
end
end carry
theorem k9.ql {p:aD×aD}{x:ag}(pre:∀{n:Nat}{q:aD×aD},α[n]?=some q→bD[n]?=some q) (ht:∀{a:aD}{items:Array ai},dn h a items→dn h' a items)
  (hk:∀b o,b=p.1∨b=p.2→h.get? b=some o→h'.get? b=some o) (r:k9 c h α p x):k9 c h' bD p x:=by
 cases x with
 |list vs=>obtain⟨items,n,ho,rs,q⟩:=r;exact⟨items,n,hk _ _ (.inl rfl) ho,rs.carry pre ht,q⟩
 |dict kvs=>obtain⟨kv,⟨o,es,ep,ho,rr⟩,rs,q⟩:=r;exact⟨kv,⟨o,es,ep,hk _ _ (.inl rfl) ho,rr⟩,rs.carry pre ht,q⟩
 |eV kvs ep=>obtain⟨kv,⟨o,es,ho,rr⟩,rs,q⟩:=r;exact⟨kv,⟨o,es,hk _ _ (.inl rfl) ho,rr⟩,rs.carry pre ht,q⟩
 |inst C fs=>obtain⟨es,n,sl,h1,h2,rs⟩:=r;exact⟨es,n,sl,hk _ _ (.inl rfl) h1,hk _ _ (.inr rfl) h2,rs.carry pre ht⟩
theorem gw.ql (O:gw c h α H) (ht:∀{a:aD}{items:Array ai},dn h a items→dn h' a items) (hk:∀b o,iW α b→h.get? b=some o→h'.get? b=some o) (hb:∀b o,c.hb.get? b=some o→h'.get? b=some o):gw c h' α H:=
 ⟨O.len,fun{n _ p} e e'=>(O.cell e e').ql id ht fun b o q=>hk b o ⟨n,p,e',q⟩,O.apart,hb,O.new⟩
theorem gw.keeps (O:gw c h α H) (hk:∀b o,h.get? b=some o→h'.get? b=some o):gw c h' α H:=O.ql (fun t=>t.keeps hk) (fun b o _=>hk b o) fun b o e=>hk b o (O.base b o e)
theorem bO.mono (x:bM A own α h bD h') (O:gw c h α H) (S:eM h own){a:AV}{v:ai}(r:bO c h α a v):bO c h' bD a v:=r.carry x.pre (x.tup O S)
theorem bq.mono (x:bM A own α h bD h') (O:gw c h α H) (S:eM h own){a:List AV}{v:List ai}(r:bq c h α a v):bq c h' bD a v:=r.carry x.pre (x.tup O S)
theorem da.mono (x:bM A own α h bD h') (O:gw c h α H) (S:eM h own){a:List (Int×AV)}{v:List (Int×ai)}(r:da c h α a v):da c h' bD a v:=r.carry x.pre (x.tup O S)
end
structure dC (m:Nat) (A:aU) (own:aD→Prop) (α:Am) (h:cb) (bD:Am) (h':cb):Prop where
 pre:∀{n:Nat}{p:aD×aD},n<m→α[n]?=some p→bD[n]?=some p
 fresh:∀{b},iW bD b→iW α b∨h.get? b=none
 alive:∀{b o},h.get? b=some o→∃o',h'.get? b=some o'
 keep:∀{b o},h.get? b=some o→¬iW α b→¬own b→¬AK A b→h'.get? b=some o
 slot:∀{b o},h.get? b=some o→¬iW α b→¬own b→∃sl,h'.get? b=some { o with slots:=sl }
section
variable {c:Cx}{m k:Nat}{A:aU}{α bD je cq:Am}{h h' pK h₀:cb}{H H':List ag}{own own':aD→Prop}
theorem bM.toM (x:bM A own α h bD h'):dC m A own α h bD h':=⟨fun _=>x.pre,x.fresh,x.alive,x.keep,x.slot⟩
theorem dC.refl:dC m A own α h α h:=(bM.refl A own α h).toM
theorem dC.na (x:dC m A own α h bD h'){b:aD}{o:ou}(e:h.get? b=some o) (n:¬iW α b):¬iW bD b:=fun q=>by
 rcases x.fresh q with q | q
 ·exact n q
 ·rw[q] at e;exact nS e
theorem dC.trans (x:dC m A own α h bD h') (y:dC m A own bD h' je pK):dC m A own α h je pK:=by
 refine⟨fun hn e=>y.pre hn (x.pre hn e),fun{b} q=>?_,fun e=>?_,fun e n1 n2 n3=>y.keep (x.keep e n1 n2 n3) (x.na e n1) n2 n3,fun e n1 n2=>?_⟩
 ·rcases y.fresh q with q | q
  ·exact x.fresh q
  ·right
   cases e:h.get? b with
   |none=>rfl
   |some o=>refine al (x.alive e) fun o' e'=>?_;rw[q] at e';exact nS e'
 ·refine al (x.alive e) fun _ e'=>?_;exact y.alive e'
 ·refine al (x.slot e n1 n2) fun sl e'=>?_
  refine al (y.slot e' (x.na e n1) n2) fun MQ Xh=>?_
  exact⟨MQ,Xh⟩
theorem dC.le (x:dC k A own α h bD h') (hm:m≤k):dC m A own α h bD h':=⟨fun hn=>x.pre (aV hn hm),x.fresh,x.alive,x.keep,x.slot⟩
theorem dC.full (x:dC m A own α h bD h') (hm:α.length≤m):bM A own α h bD h':=⟨fun e=>x.pre (aV (ao.mp e).1 hm) e,x.fresh,x.alive,x.keep,x.slot⟩
theorem dC.nR (x:dC m A own α h bD h') (hw:∀b,own b→own' b):dC m A own' α h bD h':=
 ⟨x.pre,x.fresh,x.alive,fun e n1 n2 n3=>x.keep e n1 (fun q=>n2 (hw _ q)) n3,fun e n1 n2=>x.slot e n1 fun q=>n2 (hw _ q)⟩
theorem dC.drop (x:dC m A own' α h bD h') (hw:∀b o,own' b→¬own b→h.get? b=some o→False):dC m A own α h bD h':=
 ⟨x.pre,x.fresh,x.alive,fun{b o} e n1 n2 n3=>x.keep e n1 (fun q=>hw b o q n2 e) n3,fun{b o} e n1 n2=>x.slot e n1 fun q=>hw b o q n2 e⟩
theorem dC.gone (x:dC m A own α h bD h'){b:aD}(e:h'.get? b=none):h.get? b=none:=by
 cases q:h.get? b with
 |none=>rfl
 |some o=>refine al (x.alive q) fun o' e'=>?_;rw[e] at e';exact nS e'
theorem dC.tup (x:dC m A own α h bD h') (O:gw c h α H) (S:eM h own){a:aD}{items:Array ai}(t:dn h a items):dn h' a items:=by
 have n1:=O.Ng t
 refine fU t fun o ho hc n hd=>?_
 clear t
 have n2:¬own a:=fun q=>by
  refine aL (S a q) fun o' jQ hs _=>?_
  rw[ho] at jQ;replace jQ:=ae jQ;subst jQ
  exact hs _ _ hd
 refine al (x.slot ho n1 n2) fun sl e=>?_
 exact⟨_,e,hc,n,hd⟩
end
end
section
open PySem PySem.W PySem.Calls PyProof.Rows
noncomputable def xA (k:bc):Prop:=k=.cell∨k=.free
noncomputable def cy (env:dH) (b:aD):Prop:=b=env.locals∨env.frame=some env.locals∧∃(i:Nat) (x:bu) (k:bc),env.scope.names[i]?=some (x,k)∧xA k∧env.cells.lookup x=some b
structure Gi (env:dH):Prop where
 kind:env.scope.kind=.function
 glob:env.globals=eo
 bi:env.builtins=QE
 nodup:(env.scope.names.map (·.1)).Nodup
 apart:∀{x y:bu}{b:aD},env.cells.lookup x=some b→env.cells.lookup y=some b→x=y
 A4:∀{x:bu}{b:aD},env.cells.lookup x=some b→b≠env.locals
 frame:∃F,env.frame=some F
noncomputable abbrev Loc:=List (Option AV)
structure oZ (c:Cx) (env:dH) (h:cb) (α:Am) (l:Loc):Prop where
 ns:∃m,h.Ns env.locals m∧∀{i:Nat}{x:bu}{v:AV},env.scope.names[i]?=some (x,.local)→l[i]?=some (some v)→∃val,m x=some val∧bO c h α v val
 cl:∀{i:Nat}{x:bu}{k:bc},env.scope.names[i]?=some (x,k)→xA k→∃b ov,env.cells.lookup x=some b∧h.IsCell b ov∧¬iW α b∧c.hb.get? b=none ∧
  ∀{v:AV},l[i]?=some (some v)→∃val,ov=some val∧bO c h α v val
 no:¬iW α env.locals
 new:c.hb.get? env.locals=none
structure dP (c:Cx) (A:aU) (g:Sd) (h:cb) (α:Am):Prop where
 fr:∃l,A.frames=some l∧h.FunFrames c.hb l∧∀env∈l,∀b,env.frame=some b→¬iW α b
 lq:g=c.sd
structure uB (d:Nat) (A:aU):Prop where
 depth:A.depth+4*d<kG
 units:A.units+40*d<L7
 hd:A.handled=none
structure Inv (c:Cx) (d:Nat) (A:aU) (env:dH) (l:Loc) (α:Am) (H:List ag) (s:aH):Prop where
 ok:c.Ok
 e:Gi env
 r:uB d A
 top:∃en o,A.frames=some (en::o)∧en.frame=env.frame
 h:gw c s.heap α H
 f:oZ c env s.heap α l
 k:dP c A (gM s) s.heap α
inductive Zw (c:Cx) (h₀ h:cb) (α:Am) (e:aD) (f:ai) (vs:Array ai):Prop
 |mk (T:aD) (oT:ou) (ts:Array ai) (y1:vs[1]?=some (.ref T)) (y2:T≠e) (y3:h.get? T=some oT) (y4:oT.data=.fields ts) (y5:ts[3]?=some f) (y6:¬iW α T) (y7:c.hb.get? T=none) (y8:h₀.get? T=none)
noncomputable def Zu (c:Cx) (h₀ h:cb) (α:Am) (e:aD) (vs:Array ai):Option ai→Prop
 |none=>vs[1]?=some .none
 |some f=>Zw c h₀ h α e f vs
inductive iV (c:Cx) (h₀ h:cb) (α:Am) (e:aD) (fl:Option ai):Prop
 |mk (n1:¬iW α e) (n2:c.hb.get? e=none) (n3:h₀.get? e=none) (oe:ou) (vs:Array ai) (a0:ai) (e1:h.get? e=some oe) (e2:oe.cls=.ref c.bd) (e3:oe.data=.fields vs) (e4:vs[0]?=some a0) (tl:Zu c h₀ h α e vs fl)
noncomputable def wA (env:dH) (fl:Option ai):Prop:=fl=none∨fl=some .none∨∃L,env.frame=some L∧fl=some (ib L)
inductive kF (c:Cx) (A:aU) (env:dH) (α:Am) (h:cb) (X:List ag→Prop) (x:ai) (s':aH):Prop
 |mk (e:aD) (fl:Option ai) (bD:Am) (H':List ag) (q:x=.ref e) (f:wA env fl) (z:iV c h s'.heap bD e fl) (m:bM A (cy env) α h bD s'.heap) (r1:gw c s'.heap bD H') (r2:dP c A (gM s') s'.heap bD) (r3:X H') (mm:bu→Option ai) (r4:s'.heap.Ns env.locals mm)
inductive pV (c:Cx) (d:Nat) (A:aU) (env:dH) (l:Loc) (α:Am) (h:cb) (Q:AV→List ag→Prop) (v:ai) (s':aH):Prop
 |mk (a:AV) (bD:Am) (H':List ag) (m:bM A (cy env) α h bD s'.heap) (i:Inv c d A env l bD H' s') (r:bO c s'.heap bD a v) (q:Q a H')
inductive rk (c:Cx) (d:Nat) (A:aU) (env:dH) (l:Loc) (α:Am) (h:cb) (Q:Bool→List ag→Prop) (b:Bool) (s':aH):Prop
 |mk (bD:Am) (H':List ag) (m:bM A (cy env) α h bD s'.heap) (i:Inv c d A env l bD H' s') (q:Q b H')
inductive vf (c:Cx) (d:Nat) (A:aU) (env:dH) (α:Am) (h:cb) (Q:Loc→List ag→Prop) (u:Unit) (s':aH):Prop
 |mk (l':Loc) (bD:Am) (H':List ag) (m:bM A (cy env) α h bD s'.heap) (i:Inv c d A env l' bD H' s') (q:Q l' H')
inductive AF where
 |next | brk | cont
 |ret (v:AV)
noncomputable def Nm (c:Cx) (h:cb) (α:Am):AF→AD→Prop
 |.next,f=>f=.next
 |.brk,f=>f=.brk
 |.cont,f=>f=.cont
 |.ret a,f=>∃v,f=.ret v∧bO c h α a v
inductive s8 (c:Cx) (d:Nat) (A:aU) (env:dH) (α:Am) (h:cb) (Q:AF→Loc→List ag→Prop) (f:AD) (s':aH):Prop
 |mk (af:AF) (l':Loc) (bD:Am) (H':List ag) (m:bM A (cy env) α h bD s'.heap) (i:Inv c d A env l' bD H' s') (fr:Nm c s'.heap bD af f) (q:Q af l' H')
noncomputable def WE (c:Cx) (d:Nat) (A:aU) (env:dH) (e:Expr) (l:Loc) (H:List ag) (Q:AV→List ag→Prop) (X:List ag→Prop):Prop:=
 ∀α s,Inv c d A env l α H s→bj c.M A (gr e env) (pV c d A env l α s.heap Q) (kF c A env α s.heap X) s
noncomputable def WB (c:Cx) (d:Nat) (A:aU) (env:dH) (e:Expr) (l:Loc) (H:List ag) (Q:Bool→List ag→Prop) (X:List ag→Prop):Prop:=
 ∀α s,Inv c d A env l α H s→bj c.M A (isTrue e env (gr e env)) (rk c d A env l α s.heap Q) (kF c A env α s.heap X) s
noncomputable def WV (c:Cx) (d:Nat) (A:aU) (env:dH) (t:List ai→rU ai) (as:List AV) (l:Loc) (H:List ag) (Q:AV→List ag→Prop) (X:List ag→Prop):Prop:=
 ∀α s vs,Inv c d A env l α H s→bq c s.heap α as vs→bj c.M A (t vs) (pV c d A env l α s.heap Q) (kF c A env α s.heap X) s
noncomputable def WU (c:Cx) (d:Nat) (A:aU) (env:dH) (t:List ai→rU Unit) (as:List AV) (l:Loc) (H:List ag) (Q:Loc→List ag→Prop) (X:List ag→Prop):Prop:=
 ∀α s vs,Inv c d A env l α H s→bq c s.heap α as vs→bj c.M A (t vs) (vf c d A env α s.heap Q) (kF c A env α s.heap X) s
noncomputable def yR (c:Cx) (d:Nat) (A:aU) (env:dH) (a:AV) (l:Loc) (H:List ag) (Q:Bool→List ag→Prop) (X:List ag→Prop):Prop:=
 ∀α s v,Inv c d A env l α H s→bO c s.heap α a v→bj c.M A (truthy v) (rk c d A env l α s.heap Q) (kF c A env α s.heap X) s
noncomputable def WX (c:Cx) (d:Nat) (A:aU) (env:dH) (st:eF) (l:Loc) (H:List ag) (Q:AF→Loc→List ag→Prop) (X:List ag→Prop):Prop:=
 ∀α s,Inv c d A env l α H s→bj c.M A (exec st env) (s8 c d A env α s.heap Q) (kF c A env α s.heap X) s
section
variable {c:Cx}{d:Nat}{A:aU}{env:dH}{l l':Loc}{α bD:Am}{h h':cb}{H H':List ag}{s s':aH}
theorem oZ.solid (F:oZ c env h α l):eM h (cy env):=by
 rintro b (rfl | ⟨-,i,x,k,e,hk,hb⟩)
 ·refine eU F.ns fun m o es ep ho gD _=>?_
  refine bG gD fun hd _=>?_
  exact⟨o,ho,(fun _ _ q=>by rw[hd] at q;cases q),(fun _ q=>by rw[hd] at q;cases q)⟩
 ·refine gN (F.cl e hk) fun b' ov e' o ho hd _=>?_
  rw[hb] at e';replace e':=ae e';subst e'
  exact⟨o,ho,(fun _ _ q=>by rw[hd] at q;cases q),(fun _ q=>by rw[hd] at q;cases q)⟩
theorem Inv.solid (I:Inv c d A env l α H s):eM s.heap (cy env):=I.f.solid
theorem bM.gone (m:bM A (cy env) α h bD h'){b:aD}(e:h'.get? b=.none):h.get? b=.none:=by
 cases q:h.get? b with
 |none=>rfl
 |some o=>obtain⟨o',e'⟩:=m.alive q;rw[e] at e';exact nS e'
theorem iV.back {eX:cb}{bE:Am}{e:aD}{fl:Option ai}(m:bM A (cy env) α h bD h') (z:iV c h' eX bE e fl):iV c h eX bE e fl:=by
 obtain⟨z1,z2,z3,oe,vs,a0,z4,z5,z6,z7,z8⟩:=z
 refine⟨z1,z2,m.gone z3,oe,vs,a0,z4,z5,z6,z7,?_⟩
 cases fl with
 |none=>exact z8
 |some f=>
  obtain⟨T,oT,ts,y1,y2,y3,y4,y5,y6,y7,y8⟩:=z8
  exact⟨T,oT,ts,y1,y2,y3,y4,y5,y6,y7,m.gone y8⟩
theorem kF.weak {X:List ag→Prop}{x:ai}(m:bM A (cy env) α h bD h') (e:kF c A env bD h' X x s'):kF c A env α h X x s':=by
 obtain⟨e,fl,je,H',q,f,z,m',r1,r2,r3,mm,r4⟩:=e
 exact⟨e,fl,je,H',q,f,z.back m,m.trans m',r1,r2,r3,mm,r4⟩
theorem kF.mono {X X':List ag→Prop}{x:ai}(hX:∀H,X H→X' H) (e:kF c A env α h X x s'):kF c A env α h X' x s':=by
 obtain⟨e,fl,je,H',q,f,z,m',r1,r2,r3,mm,r4⟩:=e
 exact⟨e,fl,je,H',q,f,z,m',r1,r2,hX _ r3,mm,r4⟩
theorem pV.weak {Q:AV→List ag→Prop}{x:ai}(m:bM A (cy env) α h bD h') (e:pV c d A env l bD h' Q x s'):pV c d A env l α h Q x s':=by
 obtain⟨a,je,H',m',i,r,q⟩:=e
 exact⟨a,je,H',m.trans m',i,r,q⟩
theorem rk.weak {Q:Bool→List ag→Prop}{x:Bool}(m:bM A (cy env) α h bD h') (e:rk c d A env l bD h' Q x s'):rk c d A env l α h Q x s':=by
 obtain⟨je,H',m',i,q⟩:=e
 exact⟨je,H',m.trans m',i,q⟩
theorem vf.weak {Q:Loc→List ag→Prop}{x:Unit}(m:bM A (cy env) α h bD h') (e:vf c d A env bD h' Q x s'):vf c d A env α h Q x s':=by
 obtain⟨a,je,H',m',i,q⟩:=e
 exact⟨a,je,H',m.trans m',i,q⟩
theorem TR {t:rU ai}{Q:AV→List ag→Prop}{X:List ag→Prop}{P:ai→aH→Prop}
  (h1:bj c.M A t (pV c d A env l α s.heap Q) (kF c A env α s.heap X) s)
  (h2:∀v bf a aP H₁,bM A (cy env) α s.heap aP bf.heap→Inv c d A env l aP H₁ bf→bO c bf.heap aP a v→Q a H₁→P v bf) :
  bj c.M A t P (kF c A env α s.heap X) s:=
 au h1 (by rintro v bf ⟨a,aP,H₁,m,i,r,q⟩;exact h2 v bf a aP H₁ m i r q) fun _ _ e=>e
theorem o7 {t:rU ai}{Q:AV→List ag→Prop}{X:List ag→Prop}(m:bM A (cy env) α h bD s.heap)
  (h1:bj c.M A t (pV c d A env l bD s.heap Q) (kF c A env bD s.heap X) s):bj c.M A t (pV c d A env l α h Q) (kF c A env α h X) s:=
 au h1 (fun _ _ p=>p.weak m) fun _ _ p=>p.weak m
theorem F6 {t:rU Bool}{Q:Bool→List ag→Prop}{X:List ag→Prop}(m:bM A (cy env) α h bD s.heap)
  (h1:bj c.M A t (rk c d A env l bD s.heap Q) (kF c A env bD s.heap X) s):bj c.M A t (rk c d A env l α h Q) (kF c A env α h X) s:=
 au h1 (fun _ _ p=>p.weak m) fun _ _ p=>p.weak m
theorem MU {t:rU Unit}{Q:Loc→List ag→Prop}{X:List ag→Prop}(m:bM A (cy env) α h bD s.heap)
  (h1:bj c.M A t (vf c d A env bD s.heap Q) (kF c A env bD s.heap X) s):bj c.M A t (vf c d A env α h Q) (kF c A env α h X) s:=
 au h1 (fun _ _ p=>p.weak m) fun _ _ p=>p.weak m
theorem Inv.toks {dr:Ch}{tk:Nat}(I:Inv c d A env l α H s):Inv c d A env l α H ⟨s.heap,s.gens,dr,tk,s.os⟩:=⟨I.ok,I.e,I.r,I.top,I.h,I.f,I.k⟩
theorem Inv.done {dr:Ch}{tk:Nat}{a:AV}{v:ai}{Q:AV→List ag→Prop}(I:Inv c d A env l α H s) (r:bO c s.heap α a v) (q:Q a H) :
  pV c d A env l α s.heap Q v ⟨s.heap,s.gens,dr,tk,s.os⟩:=⟨a,α,H,.refl ..,I.toks,r,q⟩
theorem Inv.GQ {dr:Ch}{tk:Nat}{b:Bool}{Q:Bool→List ag→Prop}(I:Inv c d A env l α H s) (q:Q b H) :
  rk c d A env l α s.heap Q b ⟨s.heap,s.gens,dr,tk,s.os⟩:=⟨α,H,.refl ..,I.toks,q⟩
theorem iy {i:Int}{t:Tok}:bO c h α (.int i) (.int i t):=⟨t,rfl⟩
theorem Ko {i:bu}{t:Tok}:bO c h α (.str i) (.str i t):=⟨t,rfl⟩
theorem Uv {b:List UInt8}{t:Tok}:bO c h α (.d8 b) (.bytes b.toArray t):=⟨t,rfl⟩
theorem qo {b:Bool}:bO c h α (.bool b) (.bool b):=rfl
theorem wY:bO c h α .none .none:=rfl
theorem So {v:ai}:bO c h α (.fix v) v:=rfl
theorem jD:bq c h α [] []:=rfl
theorem eC {x:AV}{xs:List AV}{v:ai}{vs:List ai}(r:bO c h α x v) (rs:bq c h α xs vs):bq c h α (x::xs) (v::vs):=⟨v,vs,rfl,r,rs⟩
theorem RB {vs:List AV}{a:aD}{items:Array ai}(t:dn h a items) (r:bq c h α vs items.toList):bO c h α (.tup vs) (.ref a):=⟨a,items,rfl,t,r⟩
theorem yi {n:Nat}{p:aD×aD}(e:α[n]?=some p):bO c h α (.obj n) (.ref p.1):=⟨p,e,rfl⟩
theorem bO.int {i:Int}{v:ai}(r:bO c h α (.int i) v):∃t,v=.int i t:=r
theorem bO.str {i:bu}{v:ai}(r:bO c h α (.str i) v):∃t,v=.str i t:=r
theorem bO.d8 {i:List UInt8}{v:ai}(r:bO c h α (.d8 i) v):∃t,v=.bytes i.toArray t:=r
theorem bO.bool {b:Bool}{v:ai}(r:bO c h α (.bool b) v):v=.bool b:=r
theorem bO.none {v:ai}(r:bO c h α .none v):v=.none:=r
theorem bO.fix {x v:ai}(r:bO c h α (.fix x) v):v=x:=r
theorem bO.tup {vs:List AV}{v:ai}(r:bO c h α (.tup vs) v):∃a items,v=.ref a∧dn h a items∧bq c h α vs items.toList:=r
theorem bO.obj {n:Nat}{v:ai}(r:bO c h α (.obj n) v):∃p,α[n]?=some p∧v=.ref p.1:=r
theorem bq.nil {vs:List ai}(r:bq c h α [] vs):vs=[]:=r
theorem bq.cons {x:AV}{xs:List AV}{vs:List ai}(r:bq c h α (x::xs) vs):∃v r',vs=v::r'∧bO c h α x v∧bq c h α xs r':=r
theorem bq.one {x:AV}{vs:List ai}(r:bq c h α [x] vs):∃v,vs=[v]∧bO c h α x v:=by
 refine aN r.cons fun v r' lh h1 h2=>?_
 subst lh
 cases h2.nil;exact⟨v,rfl,h1⟩
theorem bq.two {x y:AV}{vs:List ai}(r:bq c h α [x,y] vs):∃v w,vs=[v,w]∧bO c h α x v∧bO c h α y w:=by
 refine aN r.cons fun v r' j3 h1 h2=>?_
 subst j3
 refine aq h2.one fun w vL h3=>?_;subst vL;exact⟨v,w,rfl,h1,h3⟩
theorem bq.three {x y z:AV}{vs:List ai}(r:bq c h α [x,y,z] vs):∃v w u,vs=[v,w,u]∧bO c h α x v∧bO c h α y w∧bO c h α z u:=by
 refine aN r.cons fun v r' se h1 h2=>?_
 subst se
 refine aN h2.two fun w u mh h3 h4=>?_;subst mh;exact⟨v,w,u,rfl,h1,h3,h4⟩
theorem bq.length {xs:List AV}:∀{vs:List ai},bq c h α xs vs→vs.length=xs.length:=by
 induction xs with
 |nil=>intro vs r;rw[r.nil];rfl
 |cons x xs ih=>intro vs r;refine aN r.cons fun v r' qI _ h2=>?_;subst qI;exact congrArg Nat.succ (ih h2)
theorem bq.get {xs:List AV}:∀{vs:List ai}{i:Nat}{x:AV},bq c h α xs vs→xs[i]?=some x→∃v,vs[i]?=some v∧bO c h α x v:=by
 induction xs with
 |nil=>exact fun _ e=>nS e
 |cons y ys ih=>
  intro vs i x r e
  refine aN r.cons fun v r' gD h1 h2=>?_
  subst gD
  cases i with
  |zero=>exact⟨v,rfl,ae e▸h1⟩
  |succ i=>exact ih (i:=i) h2 e
theorem bq.append {xs:List AV}:∀{ys:List AV}{vs ws:List ai},bq c h α xs vs→bq c h α ys ws→bq c h α (xs++ys) (vs++ws):=by
 induction xs with
 |nil=>intro ys vs ws r r2;cases r.nil;exact r2
 |cons x xs ih=>intro ys vs ws r r2;refine aN r.cons fun v r' uM h1 h2=>?_;subst uM;exact eC h1 (ih h2 r2)
theorem cW {names:List (bu×bc)}:∀{i:Nat}{x:bu}{k:bc},(names.map (·.1)).Nodup→names[i]?=some (x,k)→names.lookup x=some k:=by
 induction names with
 |nil=>exact fun _ e=>nS e
 |cons p r ih=>
  intro i x k nd e
  have nd:=dq.mp nd
  cases i with
  |zero=>
   replace e:=ae e
   subst e
   simp[dF]
  |succ i=>
   have e':r[i]?=some (x,k):=e
   have hb:(x==p.1)=false:=beq_eq_false_iff_ne.mpr fun q=>nd.1 (dI.mpr ⟨_,a9 e',q⟩)
   simp only[dF,hb]
   exact ih nd.2 e'
theorem sk {names:List (bu×bc)}(nd:(names.map (·.1)).Nodup){i j:Nat}{x:bu}{k k':bc}(e:names[i]?=some (x,k)) (e':names[j]?=some (x,k')):i=j:=by
 have h1:(names.map (·.1))[i]?=some x:=by simp[e]
 have h2:(names.map (·.1))[j]?=some x:=by simp[e']
 have l1:=(ao.mp h1).1
 exact(Jb l1 nd).mp (h1.trans h2.symm)
variable {Q:AV→List ag→Prop}{X:List ag→Prop}{pos:ij}
theorem WE.YU {i:Int}{k:Nat}(q:Q (.int i) H):WE c d A env (.Constant (.int i) k pos) l H Q X:=fun _ _ I=>QG (I.done iy q)
theorem WE.WN {i:bu}{k:Nat}(q:Q (.str i) H):WE c d A env (.Constant (.str i) k pos) l H Q X:=fun _ _ I=>Constant_str (I.done Ko q)
theorem WE.Tl {k:Nat}(q:Q .none H):WE c d A env (.Constant .none k pos) l H Q X:=fun _ _ I=>Constant_none (I.done wY q)
theorem WE.RS {b:Bool}{k:Nat}(q:Q (.bool b) H):WE c d A env (.Constant (.bool b) k pos) l H Q X:=fun _ _ I=>Constant_bool (I.done qo q)
theorem WE.loc {x:bu}{v:AV}(i:Nat) (hn:env.scope.names[i]?=some (x,.local)) (hv:l[i]?=some (some v)) (hd:(x==("__debug__":bu))=false) (q:Q v H):WE c d A env (.Name x pos) l H Q X:=fun α s I=>by
 refine aq I.f.ns fun m hm hr=>?_
 refine aq (hr hn hv) fun val e r=>?_
 exact Ci (sO I.e.kind (cW I.e.nodup hn) hm e (I.done r q)) hd
theorem WE.cell {x:bu}{v:AV}(i:Nat) (hn:env.scope.names[i]?=some (x,.cell)) (hv:l[i]?=some (some v)) (hd:(x==("__debug__":bu))=false) (q:Q v H):WE c d A env (.Name x pos) l H Q X:=fun α s I=>by
 refine gf (I.f.cl hn (.inl rfl)) fun b ov e1 e2 _ _ hr=>?_
 refine aq (hr hv) fun val Hl r=>?_
 subst Hl
 exact Ci (wpAny_loadName_cell I.e.kind (cW I.e.nodup hn) e1 e2 (I.done r q)) hd
theorem Inv.g (I:Inv c d A env l α H s):s.heap.Ns env.globals c.mg:=I.e.glob▸I.ok.T.g.keeps I.h.base
theorem Inv.b (I:Inv c d A env l α H s):s.heap.Ns env.builtins c.mb:=I.e.bi▸I.ok.T.b.keeps I.h.base
theorem Inv.qn (I:Inv c d A env l α H s):c.K.In s.heap:=I.ok.X.keeps I.h.base
theorem WE.glob {x:bu}{v:ai}{a:AV}(i:Nat) (hn:env.scope.names[i]?=some (x,.globalImplicit)) (hv:EX c.K eo x=some (some v)) (hd:(x==("__debug__":bu))=false)
  (hr:∀h α,(∀b o,c.hb.get? b=some o→h.get? b=some o)→bO c h α a v) (q:Q a H):WE c d A env (.Name x pos) l H Q X:=fun α s I=>
 lQ I.e.kind (cW I.e.nodup hn) (wL I.g (mg_of I.ok.X I.ok.T.g hv) (I.done (hr _ _ I.h.base) q)) hd
theorem WE.Mh {x:bu}{v:ai}(i:Nat) (hn:env.scope.names[i]?=some (x,.globalImplicit)) (hv:EX c.K eo x=some none) (hb:I9 x=some v) (hx:x≠"__name__") (hd:(x==("__debug__":bu))=false)
  (q:Q (.fix v) H):WE c d A env (.Name x pos) l H Q X:=fun α s I=>
 lQ I.e.kind (cW I.e.nodup hn) (loadGlobal_builtin I.g (mg_none_of I.ok.X I.ok.T.g hv) I.b ((I.ok.T.builtins x hx).trans hb) (I.done So q)) hd
theorem WE.bin {e1 e2:Expr}{op:Cj}(w:WE c d A env e1 l H (fun a H1=>WE c d A env e2 l H1 (fun b H2=>WV c d A env (fun vs=>fb op (vs[0]?.getD .none) (vs[1]?.getD .none)) [a,b] l H2 Q X) X) X) :
  WE c d A env (.BinOp e1 op e2 pos) l H Q X:=fun α s I=>by
 refine wpAny_BinOp (TR (w α s I) fun v bf a aP H₁ bZ bl fF i9=>?_)
 refine au (i9 aP bf bl) (fun oE cX eT=>?_) fun _ _ e=>e.weak bZ
 obtain⟨b,bE,e8,cV,cA,jA,nJ⟩:=eT
 have m:=bZ.trans cV
 refine o7 m (nJ bE cX [v,oE] cA (eC (fF.mono cV bl.h bl.solid) (eC jA jD)))
theorem WE.mono {e:Expr}{Q':AV→List ag→Prop}{X':List ag→Prop}(w:WE c d A env e l H Q X) (hq:∀a H,Q a H→Q' a H) (hx:∀H,X H→X' H):WE c d A env e l H Q' X':=fun α s I=>
 au (w α s I) (by rintro u' u' ⟨a,bD,H',m,i,r,q⟩;exact⟨a,bD,H',m,i,r,hq _ _ q⟩) fun _ _ e=>e.mono hx
end
end
section
open PySem PySem.W PySem.Calls PyProof.Rows
section
variable {c:Cx}{d:Nat}{A:aU}{env:dH}{l l':Loc}{α bD:Am}{h h':cb}{H H':List ag}{s s':aH}
variable {Q:AV→List ag→Prop}{X:List ag→Prop}{pos:ij}
theorem FunFrames.none {hb h:cb}{l:List dH}(F:h.FunFrames hb l):∀env∈l,∀b,env.frame=some b→hb.get? b=none∧∃o,h.get? b=some o∧∀vs,o.data≠.fields vs:=by
 induction l with
 |nil=>intro e he;cases he
 |cons env r ih=>
  refine bQ F fun _ hx hr=>?_
  clear F
  refine b0 hx fun L o hf hn ho hd=>?_
  clear hx
  intro e he b nW
  rcases br.mp he with rfl | he
  ·rw[hf] at nW;replace nW:=ae nW;subst nW;exact⟨hn,o,ho,hd⟩
  ·exact ih hr e he b nW
theorem dP.none {g:Sd}(K:dP c A g h α){b:aD}(x:AK A b):c.hb.get? b=none∧¬iW α b∧∃o,h.get? b=some o∧∀vs,o.data≠.fields vs:=by
 obtain⟨l,env,e,he,hf⟩:=x
 refine aL K.fr fun l' e' F n=>?_
 rw[e] at e';replace e':=ae e';subst e'
 have:=FunFrames.none F env he b hf
 exact⟨this.1,n env he b hf,this.2⟩
theorem oZ.Kp (F:oZ c env h α l){b:aD}(x:cy env b):c.hb.get? b=none∧¬iW α b:=by
 rcases x with rfl | ⟨-,i,x,k,e,hk,hb⟩
 ·exact⟨F.new,F.no⟩
 ·refine gf (F.cl e hk) fun b' ov e' _ h1 h2 _=>?_
  rw[hb] at e';replace e':=ae e';subst e';exact⟨h2,h1⟩
theorem bM.base {g:Sd}{own:aD→Prop}(m:bM A own α h bD h') (O:gw c h α H) (K:dP c A g h α) (hw:∀b,own b→c.hb.get? b=none):∀b o,c.hb.get? b=some o→h'.get? b=some o:=fun b o e=>by
 refine m.keep (O.base b o e) (fun q=>?_) (fun q=>?_) fun q=>?_
 ·rw[O.new b q] at e;exact nS e
 ·rw[hw b q] at e;exact nS e
 ·rw[(K.none q).1] at e;exact nS e
theorem gw.same {g:Sd}{own:aD→Prop}(m:bM A own α h α h') (O:gw c h α H) (S:eM h own) (K:dP c A g h α) (hw:∀b,own b→c.hb.get? b=none) (hk:∀b o,iW α b→h.get? b=some o→h'.get? b=some o):gw c h' α H:=O.ql (fun t=>m.tup O S t) hk (m.base O K hw)
theorem Inv.hw (I:Inv c d A env l α H s):∀b,cy env b→c.hb.get? b=.none:=fun _ x=>(I.f.Kp x).1
theorem Inv.U6 (I:Inv c d A env l α H s) (m:bM A (cy env) α s.heap bD h') (F:oZ c env h' bD l'):dP c A (gM s) h' bD:=by
 refine aL I.k.fr fun lf e Fs n=>?_
 refine cB I.top fun en0 o e2 ix=>?_
 clear ix
 rw[e] at e2;replace e2:=ae e2;subst e2
 have na:∀{b},(∃o,s.heap.get? b=some o)→¬iW α b→¬iW bD b:=fun{b} ⟨o,q⟩ hn x=>by
  rcases m.fresh x with x | x
  ·exact hn x
  ·rw[q] at x;exact nS (fZ x)
 have key:∀(l2:List dH),s.heap.FunFrames c.hb l2→(∀env∈l2,∀b,env.frame=some b→¬iW α b)→h'.FunFrames c.hb l2:=by
  intro l2
  induction l2 with
  |nil=>intro _ _;trivial
  |cons en r ih=>
   intro lE hna
   refine bQ lE fun hk ix hr=>?_
   clear lE
   refine b0 ix fun L o hf hn ho hd=>?_
   refine⟨hk,?_,ih hr fun e he=>hna e (.tail _ he)⟩
   by_cases jL:cy env L
   ·refine aL (F.solid L jL) fun o' jQ _ qG=>?_
    exact⟨L,o',hf,hn,jQ,qG⟩
   ·obtain⟨sl,hs⟩:=m.slot ho (hna en (.head _) L hf) jL
    exact⟨L,_,hf,hn,hs,hd⟩
 refine⟨⟨_,e,key _ Fs n,fun en he b hb=>na ?_ (n en he b hb)⟩,I.k.lq⟩
 refine bG (FunFrames.none Fs en he b hb) fun _ jS=>?_
 refine aq jS fun o ho _=>?_
 exact⟨o,ho⟩
theorem Inv.next (I:Inv c d A env l α H s) (m:bM A (cy env) α s.heap bD s'.heap) (O:gw c s'.heap bD H') (F:oZ c env s'.heap bD l') (zH:gM s'=gM s:=by rfl):Inv c d A env l' bD H' s':=
 ⟨I.ok,I.e,I.r,I.top,O,F,zH▸I.U6 m F⟩
theorem oZ.keep {own:aD→Prop}(F:oZ c env h α l) (m:bM A own α h bD h') (O:gw c h α H) (S:eM h own) (hl:¬own env.locals) (jL:∀(i:Nat) x k b,env.scope.names[i]?=some (x,k)→xA k→env.cells.lookup x=some b→¬own b):oZ c env h' bD l:=by
 have na:∀{b},(∃o,h.get? b=some o)→¬iW α b→¬iW bD b:=fun{b} ⟨o,q⟩ hn x=>by
  rcases m.fresh x with x | x
  ·exact hn x
  ·rw[q] at x;exact nS (fZ x)
 refine⟨?_,fun{i x k} e hk=>?_,?_,F.new⟩
 ·refine eU F.ns fun mm o es ep ho r hr=>?_
  obtain⟨sl,hs⟩:=m.slot ho F.no hl
  refine⟨mm,⟨_,es,ep,hs,r⟩,fun{i x v} e1 e2=>?_⟩
  refine aq (hr e1 e2) fun val q rr=>?_
  exact⟨val,q,rr.mono m O S⟩
 ·refine eH (F.cl e hk) fun b ov e1 o ho hd n1 n2 hr=>?_
  obtain⟨sl,hs⟩:=m.slot ho n1 (jL i x k b e hk e1)
  exact⟨b,ov,e1,⟨_,hs,hd⟩,na ⟨o,ho⟩ n1,n2,fun{v} q=>by refine aq (hr q) fun val q1 q2=>?_;exact⟨val,q1,q2.mono m O S⟩⟩
 ·refine eU F.ns fun mm o es ep ho r hr=>?_
  exact na ⟨o,ho⟩ F.no
theorem nK {own:aD→Prop}{b:aD}(hs:dy b h h') (hb:own b) (ho:∃o,h'.get? b=some o):bM A own α h α h':=by
 refine⟨id,.inl,fun{x o} e=>?_,fun{x o} e _ n _=>?_,fun{x o} e _ n=>⟨o.slots,?_⟩⟩
 ·by_cases q:x=b
  ·subst q;exact ho
  ·exact⟨o,(hs.2 x q).trans e⟩
 ·exact(hs.2 x fun q=>n (q▸hb)).trans e
 ·exact(hs.2 x fun q=>n (q▸hb)).trans e
theorem WU.stLoc {x:bu}{a:AV}{Q:Loc→List ag→Prop}(i:Nat) (hn:env.scope.names[i]?=some (x,.local)) (hi:i<l.length) (q:Q (l.set i (some a)) H) :
  WU c d A env (fun vs=>p9 env x (vs[0]?.getD .none)) [a] l H Q X:=fun α s vs I rs=>by
 refine aq rs.one fun v jW r=>?_
 subst jW
 refine aq I.f.ns fun m hm hr=>?_
 refine JE (cW I.e.nodup hn) hm (fun h' ud hs=>?_) (by rw[I.e.kind];rfl)
 have wX:bM A (cy env) α s.heap α h':=nK hs (.inl rfl) (RU ud)
 have O:gw c h' α H:=I.h.same wX I.solid I.k I.hw fun b o ad e=>(hs.2 b fun q=>I.f.no (q▸ad)).trans e
 refine⟨_,α,H,wX,I.next (s':={ s with heap:=h',toks:=s.toks+1 }) wX O ⟨⟨_,ud,fun{j y w} e1 e2=>?_⟩,fun{j y k} e1 hk=>?_,I.f.no,I.f.new⟩,q⟩
 ·by_cases hj:j=i
  ·subst hj
   rw[hn] at e1;cases e1
   rw[ew hi] at e2
   cases e2
   exact⟨v,by simp,r.mono wX I.h I.solid⟩
  ·rw[cN (fun q=>hj q.symm)] at e2
   refine aq (hr e1 e2) fun val q1 q2=>?_
   have Wj:y≠x:=fun q=>hj (sk I.e.nodup (q▸e1) hn)
   exact⟨val,by simp[Wj,q1],q2.mono wX I.h I.solid⟩
 ·refine eH (I.f.cl e1 hk) fun b ov e2 o ho hd n1 n2 QW=>?_
  refine⟨b,ov,e2,⟨o,(hs.2 b (I.e.A4 e2)).trans ho,hd⟩,n1,n2,fun{w} e3=>?_⟩
  have hj:i≠j:=fun q=>by
   subst q;rw[hn] at e1;cases e1
   rcases hk with hk | hk<;>cases hk
  rw[cN hj] at e3
  refine aq (QW e3) fun val q1 q2=>?_
  exact⟨val,q1,q2.mono wX I.h I.solid⟩
theorem WU.P0 {x:bu}{a:AV}{Q:Loc→List ag→Prop}(ml:env.frame=some env.locals) (i:Nat) (hn:env.scope.names[i]?=some (x,.cell)) (hi:i<l.length) (q:Q (l.set i (some a)) H) :
  WU c d A env (fun vs=>p9 env x (vs[0]?.getD .none)) [a] l H Q X:=fun α s vs I rs=>by
 refine aq rs.one fun v jY r=>?_
 subst jY
 refine gf (I.f.cl hn (.inl rfl)) fun b ov e0 hc n1 n2 hr0=>?_
 refine wpAny_storeName_cell I.e.kind (cW I.e.nodup hn) e0 hc fun h' Jy hs=>?_
 have wX:bM A (cy env) α s.heap α h':=nK hs (.inr ⟨ml,i,x,_,hn,.inl rfl,e0⟩) (let⟨o,ho,_⟩:=Jy;⟨o,ho⟩)
 have O:gw c h' α H:=I.h.same wX I.solid I.k I.hw fun b' o ad e=>(hs.2 b' fun q=>n1 (q▸ad)).trans e
 refine⟨_,α,H,wX,I.next (s':={ s with heap:=h' }) wX O ⟨?_,fun{j y k} e1 hk=>?_,I.f.no,I.f.new⟩,q⟩
 ·refine aq I.f.ns fun m hm hr=>?_
  refine⟨m,hm.sameBut hs (gS (I.e.A4 e0)),fun{j y w} e1 e2=>?_⟩
  have hj:i≠j:=fun q=>by subst q;rw[hn] at e1;cases e1
  rw[cN hj] at e2
  refine aq (hr e1 e2) fun val q1 q2=>?_
  exact⟨val,q1,q2.mono wX I.h I.solid⟩
 ·by_cases hj:j=i
  ·subst hj
   rw[hn] at e1;cases e1
   refine⟨b,_,e0,Jy,n1,n2,fun{w} e3=>?_⟩
   rw[ew hi] at e3;replace e3:=ae (ae e3);subst e3
   exact⟨v,rfl,r.mono wX I.h I.solid⟩
  ·refine eH (I.f.cl e1 hk) fun b' Vy e2 o ho hd m1 m2 QW=>?_
   have hbb:b'≠b:=fun q=>hj (by
    subst q
    have:=I.e.apart e2 e0
    subst this
    exact sk I.e.nodup e1 hn)
   refine⟨b',Vy,e2,⟨o,(hs.2 b' hbb).trans ho,hd⟩,m1,m2,fun{w} e3=>?_⟩
   rw[cN (fun q=>hj q.symm)] at e3
   refine aq (QW e3) fun val q1 q2=>?_
   exact⟨val,q1,q2.mono wX I.h I.solid⟩
variable {SQ:AF→Loc→List ag→Prop}
theorem WX.ret {e:Expr}(w:WE c d A env e l H (fun a H'=>SQ (.ret a) l H') X):WX c d A env (.Return (some e) pos) l H SQ X:=fun α s I=>
 Rj (au (w α s I) (by intro v bf mr;obtain⟨a,aP,H₁,m,bl,r,q⟩:=mr;exact⟨.ret a,l,aP,H₁,m,bl,⟨v,rfl,r⟩,q⟩) fun _ _ e=>e)
theorem WX.KU (q:SQ (.ret .none) l H):WX c d A env (.Return none pos) l H SQ X:=fun α s I=>
 wpAny_Return_none ⟨.ret .none,l,α,H,.refl ..,I,⟨_,rfl,wY⟩,q⟩
theorem WX.cont (q:SQ .cont l H):WX c d A env (.Continue pos) l H SQ X:=fun α s I=>wpAny_Continue ⟨.cont,l,α,H,.refl ..,I,rfl,q⟩
theorem WX.asg {x:bu}{e:Expr}{np:ij}(w:WE c d A env e l H (fun a H'=>WU c d A env (fun vs=>p9 env x (vs[0]?.getD .none)) [a] l H' (fun l' yn=>SQ .next l' yn) X) X)
  (hs:lD e (some (.Name x np)) pos.line env=pure false):WX c d A env (.Assign [.Name x np] e pos) l H SQ X:=fun α s I=>by
 refine wpAny_Assign_Name (au (w α s I) (fun v bf eT=>?_) fun _ _ e=>e) hs
 obtain⟨a,aP,H₁,m,bl,r,q⟩:=eT
 exact au (q aP bf [v] bl (eC r jD)) (by intro u' cX pU;obtain⟨l₂,bE,e8,cV,cA,pY⟩:=pU;exact⟨.next,l₂,bE,e8,m.trans cV,cA,rfl,pY⟩) fun _ _ e=>e.weak m
end
end
section
open PySem PySem.W PySem.Calls PyProof.Rows
section
variable {c:Cx}{d:Nat}{A:aU}{env:dH}{l l':Loc}{α bD cq:Am}{h h' h₀:cb}{H H':List ag}{s s':aH}{k:Nat}
variable {Q:AV→List ag→Prop}{X:List ag→Prop}{pos:ij}{own:aD→Prop}
inductive Gn (c:Cx) (h₀ h:cb) (α:Am) (b:aD):Prop
 |mk (n1:¬iW α b) (n2:c.hb.get? b=none) (n3:h₀.get? b=none) (o:ou) (vs:Array ai) (e:h.get? b=some o) (f:o.data=.fields vs)
theorem Rz {e:aD}(b:Gn c h₀ h α e):∀x∈[e],Gn c h₀ h α x:=fun x hx=>by simp at hx;subst hx;exact b
theorem L0 {e T:aD}(b:Gn c h₀ h α e) (b2:Gn c h₀ h α T):∀x∈[e,T],Gn c h₀ h α x:=fun x hx=>by
 simp at hx
 rcases hx with rfl | rfl
 ·exact b
 ·exact b2
theorem qy {fl:List dH}{b:aD}:b∈fl.filterMap (·.frame)↔∃env∈fl,env.frame=some b:=Fj
theorem gw.live (O:gw c h α H){b:aD}(e:h.get? b=none):¬iW α b:=fun a=>by
 refine aq (O.at a) fun o ho _=>?_
 rw[e] at ho;exact nS ho
theorem LC {fs:List aD}{b:aD}{o:ou}(st:(lF h fs).StaysIn h') (e:h.get? b=some o) (n:b∉fs):h'.get? b=some o:=st b o (hideAll_get fs e n)
theorem mL {g:Sd}{fl:List dH}{bads:List aD}{e:aD}{a0 f:ai}(ml:A.frames=some fl) (m:dC k A own cq h₀ α h) (O:gw c h α H) (K:dP c A g h α)
  (zr:∀b∈bads,Gn c h₀ h α b) (he:e∈bads) (st:(lF h (fl.filterMap (·.frame)++bads)).StaysIn h') (sl:h.UpToSlots h')
  (T:h'.TracedAtW (lF h (fl.filterMap (·.frame)++bads)) e (.ref c.bd) a0 f) :
  iV c h₀ h' α e (some f)∧dC k A own cq h₀ α h'∧gw c h' α H∧dP c A g h' α:=by
 have Sz:∀b,b∈fl.filterMap (·.frame)→AK A b:=fun b hb=>by
  refine aq (qy.mp hb) fun env he hf=>?_
  exact⟨fl,env,ml,he,hf⟩
 have aaq:∀b,AK A b→b∈fl.filterMap (·.frame):=fun b ⟨l',env,e1,e2,e3⟩=>by
  rw[ml] at e1;replace e1:=ae e1;subst e1;exact qy.mpr ⟨env,e2,e3⟩
 have keep:∀{b o},h.get? b=some o→¬AK A b→b∉bads→h'.get? b=some o:=fun{b o} e n1 n2=>LC st e fun q=>by
  rcases eG.mp q with q | q
  ·exact n1 (Sz b q)
  ·exact n2 q
 have aao:∀{b o},h.get? b=some o→(∀vs,o.data≠.fields vs)→b∉bads:=fun{b o} e n q=>by
  obtain⟨_,_,_,o',vs,e',hd⟩:=zr b q
  rw[e] at e';replace e':=ae e';subst e';exact n vs hd
 have Y2:∀{a:aD}{items:Array ai},dn h a items→dn h' a items:=fun{a items} ⟨o,ho,hc,n,hd⟩=>by
  refine al (sl a o ho fun vs q=>by rw[hd] at q;cases q) fun MQ hs=>?_
  exact⟨_,hs,hc,n,hd⟩
 have Vb:∀b o,iW α b→h.get? b=some o→h'.get? b=some o:=fun b o ha e=>keep e (fun q=>(K.none q).2.1 ha) fun q=>(zr b q).1 ha
 have Ta:∀b o,c.hb.get? b=some o→h'.get? b=some o:=fun b o e=>keep (O.base b o e) (fun q=>by rw[(K.none q).1] at e;exact nS e) fun q=>by rw[(zr b q).2] at e;exact nS e
 have old:∀{b o},h₀.get? b=some o→b∉bads:=fun{b o} e q=>by rw[(zr b q).3] at e;exact nS e
 obtain⟨be1,be2,be3,_⟩:=zr e he
 refine⟨?_,⟨m.pre,m.fresh,fun{b o} e=>?_,fun{b o} e n1 n2 n3=>keep (m.keep e n1 n2 n3) n3 (old e),fun{b o} e n1 n2=>?_⟩,⟨O.len,fun{n x p} e e'=>?_,O.apart,Ta,O.new⟩,?_⟩
 ·refine fX T fun oe vs jS=>?_
  clear T
  refine cx jS fun Tb oT ts t1 jW t4 jY=>?_
  refine bG jW fun t2 t3=>?_
  refine dm jY fun t5 t6 t7 nr=>?_
  refine bQ nr fun t8 t9 t10=>?_
  have hT:¬iW α Tb∧c.hb.get? Tb=none∧h₀.get? Tb=none:=by
   cases q:h.get? Tb with
   |none=>
    refine⟨O.live q,?_,?_⟩
    ·cases q2:c.hb.get? Tb with
     |none=>rfl
     |some o=>rw[O.base _ _ q2] at q;exact nS (fZ q)
    ·cases q2:h₀.get? Tb with
     |none=>rfl
     |some o=>refine al (m.alive q2) fun o' q3=>?_;rw[q] at q3;exact nS q3
   |some o=>
    by_cases z1:Tb∈bads
    ·exact⟨(zr _ z1).1,(zr _ z1).2,(zr _ z1).3⟩
    ·by_cases z2:AK A Tb
     ·refine i8 (K.none z2) fun _ _ o2 q2 q3=>?_
      refine al (sl _ _ q2 q3) fun MQ q4=>?_
      rw[t8] at q4;replace q4:=ae q4;subst q4
      exact absurd t9 (q3 _)
     ·rw[hideAll_get _ q (fun w=>by
       rcases eG.mp w with w | w
       ·exact z2 (Sz _ w)
       ·exact z1 w)] at t6
      exact nS (fZ t6)
  exact⟨be1,be2,be3,oe,vs,a0,t1,t2,t4,t3,Tb,oT,ts,t5,t7,t8,t9,t10,hT.1,hT.2.1,hT.2.2⟩
 ·refine al (m.alive e) fun o' e'=>?_
  by_cases q:AK A b
  ·refine i8 (K.none q) fun _ _ o2 q2 q3=>?_
   refine al (sl _ _ q2 q3) fun MQ q4=>?_
   exact⟨_,q4⟩
  ·exact⟨o',keep e' q (old e)⟩
 ·refine al (m.slot e n1 n2) fun sl1 e1=>?_
  by_cases q:AK A b
  ·refine i8 (K.none q) fun _ _ o2 q2 q3=>?_
   rw[e1] at q2;replace q2:=ae q2;subst q2
   refine al (sl _ _ e1 q3) fun MQ q4=>?_
   exact⟨_,q4⟩
  ·exact⟨sl1,keep e1 q (old e)⟩
 ·exact(O.cell e e').ql id Y2 fun b o q=>Vb b o ⟨n,p,e',q⟩
 ·refine aL K.fr fun lf e Fs n=>?_
  refine⟨⟨lf,e,Fs.of_keeps fun b o e hn=>?_,n⟩,K.lq⟩
  refine al (sl b o e hn) fun MQ hs=>?_
  exact⟨_,hs,rfl⟩
theorem iV.HE {e:aD}{fl:Option ai}(z:iV c h₀ h α e fl):Gn c h₀ h α e:=by
 obtain⟨z1,z2,z3,oe,vs,a0,z4,z5,z6,z7,z8⟩:=z
 exact⟨z1,z2,z3,oe,vs,z4,z6⟩
theorem funFrames_hide {fl:List dH}{as:List aD}(F:h.FunFrames c.hb fl):h.FunFrames (lF h (fl.filterMap (·.frame)++as)) fl:=by
 have key:∀(l2:List dH),(∀e∈l2,e∈fl)→h.FunFrames c.hb l2→h.FunFrames (lF h (fl.filterMap (·.frame)++as)) l2:=by
  intro l2
  induction l2 with
  |nil=>intro _ _;trivial
  |cons en r ih=>
   intro hin lE
   refine bQ lE fun hk jW hr=>?_
   clear lE
   refine b0 jW fun L o hf hn ho hd=>?_
   exact⟨hk,⟨L,o,hf,fS _ (Dy _ (qy.mpr ⟨en,hin en (.head _),hf⟩)),ho,hd⟩,ih (fun e he=>hin e (.tail _ he)) hr⟩
 exact key fl (fun _ h=>h) F
theorem ll (as:List aD):(lF h as).StaysIn h:=fun _ _ e=>of_hideAll _ e
theorem O7 {en:dH}{o:List dH}{L:aD}{e:aD}{fl:Option ai}{P:Unit→aH→Prop}{E:ai→aH→Prop}(ml:A.frames=some (en::o)) (hL:en.frame=some L) (ub:wA en fl)
  (m:dC k A own cq h₀ α s.heap) (O:gw c s.heap α H) (K:dP c A (gM s) s.heap α) (z:iV c h₀ s.heap α e fl)
  (h:∀h',iV c h₀ h' α e (some .none)→dC k A own cq h₀ α h'→gw c h' α H→dP c A (gM s) h' α→P () { s with heap:=h' }):bj c.M A (leaving en (.ref e)) P E s:=by
 refine aL K.fr fun lf e1 Fs nf=>?_
 rw[ml] at e1;replace e1:=ae e1;subst e1
 have be:=z.HE
 obtain⟨z1,z2,z3,oe,vs,a0,z4,z5,z6,z7,z8⟩:=z
 rcases ub with rfl | rfl | ⟨L',Qj,rfl⟩
 ·-- fresh
  refine wpAny_leaving_firstW (base:=lF s.heap ((en::o).filterMap (·.frame)++[e])) ml (funFrames_hide Fs) hL z4 (ll _) (fS _ (by simp)) z6 z8 z7 fun h' eT=>?_
  refine dm eT fun k1 k2 k3 k4=>?_
  clear eT
  refine dm (mL (e:=e) (bads:=[e]) ml m O K (Rz be) (by simp) k1 k4 (by rw[z5] at k3;exact k3.at)) fun r1 r2 r3 r4=>?_
  exact h h' r1 r2 r3 r4
 ·obtain⟨T,oT,ts,y1,y2,y3,y4,y5,y6,y7,y8⟩:=z8
  have bT:Gn c h₀ s.heap α T:=⟨y6,y7,y8,oT,ts,y3,y4⟩
  refine wpAny_leaving_nextW (base:=lF s.heap ((en::o).filterMap (·.frame)++[e,T])) ml (funFrames_hide Fs) hL ⟨oe,vs,T,oT,ts,z4,⟨z5,z7⟩,z6,y1,fS _ (by simp),y2,y3,y4,y5⟩ (ll _) (fS _ (by simp)) fun h' eT=>?_
  refine dm eT fun k1 k2 k3 k4=>?_
  clear eT
  refine dm (mL (e:=e) (bads:=[e,T]) ml m O K (L0 be bT) (by simp) k1 k4 k3.at) fun r1 r2 r3 r4=>?_
  exact h h' r1 r2 r3 r4
 ·obtain⟨T,oT,ts,y1,y2,y3,y4,y5,y6,y7,y8⟩:=z8
  have bT:Gn c h₀ s.heap α T:=⟨y6,y7,y8,oT,ts,y3,y4⟩
  have tr:s.heap.TracedAtW (lF s.heap ((en::o).filterMap (·.frame)++[e,T])) e (.ref c.bd) a0 (ib L'):=⟨oe,vs,T,oT,ts,z4,⟨z5,z7⟩,z6,y1,fS _ (by simp),y2,y3,y4,y5⟩
  unfold leaving
  refine ak (Jc Qj tr ?_)
  refine wpAny_setFlight_noneW (ll _) (funFrames_hide Fs) tr fun h' k1 k2 k3 k4=>?_
  refine dm (mL (e:=e) (bads:=[e,T]) ml m O K (L0 be bT) (by simp) k1 (fun b o hb hn=>⟨o.slots,k4 b o hb hn⟩) k3.at) fun r1 r2 r3 r4=>?_
  exact h h' r1 r2 r3 r4
theorem Nj {en:dH}{o:List dH}{L:aD}{e:aD}{fl:Option ai}{P:Unit→aH→Prop}{E:ai→aH→Prop}(ml:A.frames=some (en::o)) (hL:en.frame=some L) (ub:wA en fl)
  (m:dC k A own cq h₀ α s.heap) (O:gw c s.heap α H) (K:dP c A (gM s) s.heap α) (z:iV c h₀ s.heap α e fl)
  (h:∀h',iV c h₀ h' α e (some (ib L))→dC k A own cq h₀ α h'→gw c h' α H→dP c A (gM s) h' α→s.heap.UpToSlots h'→P () { s with heap:=h' }):bj c.M A (tA (.ref e) en) P E s:=by
 refine aL K.fr fun lf e1 Fs nf=>?_
 rw[ml] at e1;replace e1:=ae e1;subst e1
 have be:=z.HE
 have z':=z
 obtain⟨z1,z2,z3,oe,vs,a0,z4,z5,z6,z7,z8⟩:=z
 rcases ub with rfl | rfl | ⟨L',Qj,rfl⟩
 ·unfold tA
  simp only[hL]
  refine ak (g9 z4 z6 z8 ?_)
  rw[if_neg (by decide)]
  refine wpAny_entryW (base:=lF s.heap ((en::o).filterMap (·.frame)++[e])) ml (funFrames_hide Fs) hL z4 (ll _) (fS _ (by simp)) z6 (lR.mp z8).1 z7 fun h' u'2=>?_
  refine dm u'2 fun k1 k2 k3 k4=>?_
  refine dm (mL (e:=e) (bads:=[e]) ml m O K (Rz be) (by simp) k1 k4 (by rw[z5] at k3;exact k3)) fun r1 r2 r3 r4=>?_
  exact h h' r1 r2 r3 r4 k4
 ·obtain⟨T,oT,ts,y1,y2,y3,y4,y5,y6,y7,y8⟩:=z8
  have bT:Gn c h₀ s.heap α T:=⟨y6,y7,y8,oT,ts,y3,y4⟩
  refine wpAny_noteFrame_onW (base:=lF s.heap ((en::o).filterMap (·.frame)++[e,T])) ml (funFrames_hide Fs) hL ⟨oe,vs,T,oT,ts,z4,⟨z5,z7⟩,z6,y1,fS _ (by simp),y2,y3,y4,y5⟩ (ll _) (fS _ (by simp)) fun h' eT=>?_
  refine dm eT fun k1 k2 k3 k4=>?_
  clear eT
  refine dm (mL (e:=e) (bads:=[e,T]) ml m O K (L0 be bT) (by simp) k1 k4 k3) fun r1 r2 r3 r4=>?_
  exact h h' r1 r2 r3 r4 k4
 ·obtain⟨T,oT,ts,y1,y2,y3,y4,y5,y6,y7,y8⟩:=z8
  have tr:s.heap.TracedAtW (lF s.heap ((en::o).filterMap (·.frame)++[e,T])) e (.ref c.bd) a0 (ib L'):=⟨oe,vs,T,oT,ts,z4,⟨z5,z7⟩,z6,y1,fS _ (by simp),y2,y3,y4,y5⟩
  refine Jc Qj tr ?_
  rw[hL] at Qj;replace Qj:=ae Qj;subst Qj
  exact h s.heap z' m O K fun _ o e _=>⟨o.slots,e⟩
theorem uX {fr:Option aD}{fl:List dH}{e:aD}{f:ai}{P:Unit→aH→Prop}{E:ai→aH→Prop}(ml:A.frames=some fl)
  (m:dC k A own cq h₀ α s.heap) (O:gw c s.heap α H) (K:dP c A (gM s) s.heap α) (z:iV c h₀ s.heap α e (some f))
  (h:∀h',iV c h₀ h' α e (some (fr.elim .none fun x=>ib x))→dC k A own cq h₀ α h'→gw c h' α H→dP c A (gM s) h' α→s.heap.UpToSlots h'→P () { s with heap:=h' }):bj c.M A (setFlight (.ref e) fr) P E s:=by
 have be:=z.HE
 obtain⟨z1,z2,z3,oe,vs,a0,z4,z5,z6,z7,T,oT,ts,y1,y2,y3,y4,y5,y6,y7,y8⟩:=z
 have bT:Gn c h₀ s.heap α T:=⟨y6,y7,y8,oT,ts,y3,y4⟩
 have Tr:3<ts.size:=(lR.mp y5).1
 have CT:∀b,b≠T→(s.heap.update T (Rk (·.setIfInBounds 3 (fr.elim ai.none fun f=>ib f)))).get? b=s.heap.get? b:=fun b hb=>cO _ _ (gS hb)
 unfold setFlight
 refine ak (g9 z4 z6 y1 ?_)
 rw[if_pos (show(ai.ref T != ai.none)=true from by simp)]
 refine wpAny_setField y3 y4 Tr ?_
 obtain⟨r1,r2,r3,r4⟩:=mL (e:=e) (h':=s.heap.update T (Rk (·.setIfInBounds 3 (fr.elim ai.none fun f=>ib f)))) (bads:=[e,T]) (a0:=a0) (f:=fr.elim ai.none fun f=>ib f) ml m O K (L0 be bT) (by simp)
  (fun b o hb=>(CT b fun q=>by rw[q,fS _ (by simp)] at hb;exact nS hb).trans (of_hideAll _ hb))
  (fun b o hb hn=>⟨o.slots,(CT b fun q=>by rw[q,y3] at hb;replace hb:=ae hb;subst hb;exact hn _ y4).trans hb⟩)
  ⟨oe,vs,T,_,_,(CT e (gS y2)).trans z4,⟨z5,z7⟩,z6,y1,fS _ (by simp),y2,dw _ y3 (ou.isFreed_of_fields (Jd y4 _)),Jd y4 _,by simp[Tr]⟩
 exact h _ r1 r2 r3 r4 fun b o hb hn=>⟨o.slots,(CT b fun q=>by rw[q,y3] at hb;replace hb:=ae hb;subst hb;exact hn _ y4).trans hb⟩
theorem leave {en:dH}{o:List dH}{L:aD}{e:aD}{fl:Option ai}{P:Unit→aH→Prop}{E:ai→aH→Prop}(ml:A.frames=some (en::o)) (hL:en.frame=some L) (ub:wA en fl)
  (m:bM A own cq h₀ α s.heap) (O:gw c s.heap α H) (K:dP c A (gM s) s.heap α) (z:iV c h₀ s.heap α e fl)
  (h:∀h',iV c h₀ h' α e (some .none)→bM A own cq h₀ α h'→gw c h' α H→dP c A (gM s) h' α→P () { s with heap:=h' }):bj c.M A (leaving en (.ref e)) P E s:=
 O7 ml hL ub (m.toM (m:=cq.length)) O K z fun h' a b=>h h' a (b.full (aA _))
theorem PK {en:dH}{o:List dH}{L:aD}{e:aD}{fl:Option ai}{P:Unit→aH→Prop}{E:ai→aH→Prop}(ml:A.frames=some (en::o)) (hL:en.frame=some L) (ub:wA en fl)
  (m:bM A own cq h₀ α s.heap) (O:gw c s.heap α H) (K:dP c A (gM s) s.heap α) (z:iV c h₀ s.heap α e fl)
  (h:∀h',iV c h₀ h' α e (some (ib L))→bM A own cq h₀ α h'→gw c h' α H→dP c A (gM s) h' α→s.heap.UpToSlots h'→P () { s with heap:=h' }):bj c.M A (tA (.ref e) en) P E s:=
 Nj ml hL ub (m.toM (m:=cq.length)) O K z fun h' a b=>h h' a (b.full (aA _))
theorem pL {fr:Option aD}{fl:List dH}{e:aD}{f:ai}{P:Unit→aH→Prop}{E:ai→aH→Prop}(ml:A.frames=some fl)
  (m:bM A own cq h₀ α s.heap) (O:gw c s.heap α H) (K:dP c A (gM s) s.heap α) (z:iV c h₀ s.heap α e (some f))
  (h:∀h',iV c h₀ h' α e (some (fr.elim .none fun x=>ib x))→bM A own cq h₀ α h'→gw c h' α H→dP c A (gM s) h' α→s.heap.UpToSlots h'→P () { s with heap:=h' }):bj c.M A (setFlight (.ref e) fr) P E s:=
 uX ml (m.toM (m:=cq.length)) O K z fun h' a b=>h h' a (b.full (aA _))
theorem jy {en:dH}(h:en.frame=env.frame) (e:ai):tA e env=tA e en:=by
 unfold tA PySem.frameOf
 rw[h]
theorem Ns.upTo {h h':cb}{a:aD}{m:bu→Option ai}(x:h.Ns a m) (u:h.UpToSlots h'):h'.Ns a m:=by
 refine eD x fun o es ep ho qI=>?_
 clear x
 refine bG qI fun hd r=>?_
 refine al (u a o ho fun vs q=>by rw[hd] at q;cases q) fun sl e=>?_
 exact⟨_,es,ep,e,hd,r⟩
end
end
section
open PySem PySem.W PySem.Calls PyProof.Rows
structure Ht (c:Cx) (d:Nat) (A:aU) (α:Am) (H:List ag) (s:aH):Prop where
 ok:c.Ok
 r:uB d A
 h:gw c s.heap α H
 k:dP c A (gM s) s.heap α
noncomputable def iQ:aD→Prop:=fun _=>False
inductive Ul (c:Cx) (A:aU) (α:Am) (h:cb) (Q:AV→List ag→Prop) (v:ai) (s':aH):Prop
 |mk (a:AV) (bD:Am) (H':List ag) (m:bM A iQ α h bD s'.heap) (o:gw c s'.heap bD H') (k:dP c A (gM s') s'.heap bD) (r:bO c s'.heap bD a v) (q:Q a H')
inductive aac (c:Cx) (A:aU) (α:Am) (h:cb) (X:List ag→Prop) (x:ai) (s':aH):Prop
 |mk (e:aD) (bD:Am) (H':List ag) (q:x=.ref e) (z:iV c h s'.heap bD e (some .none)) (m:bM A iQ α h bD s'.heap) (o:gw c s'.heap bD H') (k:dP c A (gM s') s'.heap bD) (p:X H')
noncomputable def TF (c:Cx) (A:aU) (α:Am) (h:cb) (Q:AV→List ag→Prop) (X:List ag→Prop):sP→aH→Prop:=fun r s'=>match r with
 |.ok (.ret v)=>Ul c A α h Q v s'
 |.ok _=>False
 |.error e=>aac c A α h X e s'
noncomputable def WC (c:Cx) (d:Nat) (f:ai) (as:List AV) (H:List ag) (Q:AV→List ag→Prop) (X:List ag→Prop):Prop:=
 ∀A α s vs,Ht c d A α H s→bq c s.heap α as vs→ic c.M A (.call f ⟨vs,[]⟩) (TF c A α s.heap Q X) s
theorem uB.le {d d':Nat}{A:aU}(h:d'≤d) (r:uB d A):uB d' A:=⟨by have:=r.depth;exact aW [_,_,_] [] [.L aB aM,.T (.a cf (.m 4 aM)) (.l 1000)] (.T (.a cf (.m 4 aB)) (.l 1000)) (.k [1,1,4]) rfl h this,by have:=r.units;exact aW [_,_,_] [] [.L aB aM,.T (.a cf (.m 40 aM)) (.l 9900)] (.T (.a cf (.m 40 aB)) (.l 9900)) (.k [1,1,40]) rfl h this,r.hd⟩
theorem uB.deeper {d:Nat}{A:aU}{env:dH}(r:uB (d+1) A):uB d (A.deeper env):=by
 refine⟨?_,?_,r.hd⟩
 ·have:=r.depth;show A.depth+1+4*d<kG;exact aW [_,_] [] [.T (.a aB (.m 4 (.a aM bP))) (.l 1000)] (.T (.a (.a aB bP) (.m 4 aM)) (.l 1000)) cI rfl this
 ·have:=r.units;show A.units+3+40*d<L7;exact aW [_,_] [] [.T (.a aB (.m 40 (.a aM bP))) (.l 9900)] (.T (.a (.a aB pM) (.m 40 aM)) (.l 9900)) cI rfl this
theorem B0 {kindOf:bu→Option bc}{x:bu}:∀{mQ:List (bu×ai)}{m:bu→Option ai},x∉mQ.map (·.1)→Rl kindOf mQ m x=m x:=by
 intro us
 induction us with
 |nil=>
  intro _ _
  exact rfl
 |cons hd r ih=>
  obtain⟨n,v⟩:=hd
  intro m h
  unfold Rl
  rw[ih (fun q=>h (aG _ q))]
  split
  ·exact if_neg (fun q:x=n=>h (by rw[q];exact aI))
  ·rfl
theorem so {kindOf:bu→Option bc}{x:bu}{v:ai}(hk:kindOf x=some .local):∀{mQ:List (bu×ai)}{m:bu→Option ai},(mQ.map (·.1)).Nodup→(x,v)∈mQ→Rl kindOf mQ m x=some v:=by
 intro us
 induction us with
 |nil=>
  intros;first | contradiction | simp at *
 |cons hd r ih=>
  obtain⟨n,w⟩:=hd
  intro m nd h
  unfold Rl
  simp only[et,dq] at nd
  rcases br.mp h with e | h
  ·cases e
   rw[B0 nd.1,if_pos hk,if_pos rfl]
  ·exact ih nd.2 h
theorem Bc {kindOf:bu→Option bc}{x:bu}:∀{mQ:List (bu×ai)}{m:bu→Option ai},x∉mQ.map (·.1)→bindC kindOf mQ m x=m x:=by
 intro us
 induction us with
 |nil=>
  intro _ _
  exact rfl
 |cons hd r ih=>
  obtain⟨n,v⟩:=hd
  intro m h
  unfold bindC
  rw[ih (fun q=>h (aG _ q))]
  split
  ·rfl
  ·exact if_neg (fun q:x=n=>h (by rw[q];exact aI))
theorem DT {kindOf:bu→Option bc}{x:bu}{v:ai}(hk:kindOf x≠some .local):∀{mQ:List (bu×ai)}{m:bu→Option ai},(mQ.map (·.1)).Nodup→(x,v)∈mQ→bindC kindOf mQ m x=some v:=by
 intro us
 induction us with
 |nil=>
  intros;first | contradiction | simp at *
 |cons hd r ih=>
  obtain⟨n,w⟩:=hd
  intro m nd h
  unfold bindC
  simp only[et,dq] at nd
  rcases br.mp h with e | h
  ·cases e
   rw[Bc nd.1,if_neg hk,if_pos rfl]
  ·exact ih nd.2 h
theorem wq {x:bu}:∀{names:List (bu×bc)}{n:Nat}{acc:List (bu×aD)},(acc.lookup x).isSome=true→((qa n names acc).lookup x).isSome=true:=by
 intro us
 induction us with
 |nil=>
  intro _ _ h
  exact h
 |cons hd r ih=>
  obtain⟨y,k⟩:=hd
  intro n acc h
  unfold qa
  split
  ·refine ih ?_
   rw[dJ]
   split
   ·rfl
   ·exact h
  ·exact ih h
theorem qh {x:bu}:∀{names:List (bu×bc)}{n:Nat}{acc:List (bu×aD)},(x,bc.cell)∈names→((qa n names acc).lookup x).isSome=true:=by
 intro us
 induction us with
 |nil=>
  intros;first | contradiction | simp at *
 |cons hd r ih=>
  obtain⟨y,k⟩:=hd
  intro n acc h
  unfold qa
  rcases br.mp h with e | h
  ·cases e
   rw[if_pos (by decide)]
   refine wq ?_
   simp[dF]
  ·split
   ·exact ih h
   ·exact ih h
noncomputable def u4 (as:List AV) (n:Nat):Loc:=as.map some++bH n none
section
variable {c:Cx}{d:Nat}{A:aU}{l l':Loc}{α bD:Am}{h h':cb}{H H':List ag}{s s':aH}
variable {Q:AV→List ag→Prop}{X:List ag→Prop}{pos:ij}
structure qf (K:gg) (f:aD) (fd:eJ) (body:List eF) (ps:List bu):Prop where
 at_:∃oc od sl,K.lookup f=some ⟨oc,od,.func fd,sl⟩
 body:fd.body=.stmts body
 clo:fd.closure=[]
 glob:fd.globals=eo
 bi:fd.builtins=QE
 co:fd.scope.isCoroutine=false
 gen:fd.scope.isGenerator=false
 kind:fd.scope.kind=.function
 code:codeIn K fd.code fd.qualname=true
 nodup:(fd.scope.names.map (·.1)).Nodup
 Qa:∀p∈fd.scope.names,p.2≠.free
 par:(bh ps.length).all (fun j=>match ps[j]?,fd.scope.names[j]? with
  |some x,some (y,k)=>x==y&&(k==.local||k==.cell)
  |_,_=>false)=true
theorem qf.BP {K:gg}{f:aD}{fd:eJ}{body:List eF}{ps:List bu}(D:qf K f fd body ps){j:Nat}{x:bu}(e:ps[j]?=some x) :
  ∃k,fd.scope.names[j]?=some (x,k)∧(k=.local∨k=.cell):=by
 have hj:j<ps.length:=(ao.mp e).1
 have:=ba.mp D.par j (de.mpr hj)
 rw[e] at this
 cases q:fd.scope.names[j]? with
 |none=>rw[q] at this;exact fT this
 |some p=>
  obtain⟨y,k⟩:=p
  rw[q] at this
  simp only[gJ,L8,beq_iff_eq] at this
  refine bG this fun nF hk=>?_
  clear this
  subst nF
  exact⟨k,rfl,hk⟩
theorem zip_get {β γ:Type}{as:List β}:∀{bs:List γ}{j:Nat}{a:β}{b:γ},as[j]?=some a→bs[j]?=some b→(a,b)∈as.zip bs:=by
 induction as with
 |nil=>exact fun e=>nS e
 |cons x as ih=>
  intro bs j a b e e'
  cases bs with
  |nil=>exact nS e'
  |cons y bs=>cases j with
   |zero=>exact br.mpr (.inl (congr (congrArg Prod.mk (ae e).symm) (ae e').symm))
   |succ j=>exact aG _ (ih (j:=j) e e')
theorem Lu {β γ:Type}{as:List β}:∀{bs:List γ}{a:β}{b:γ},(a,b)∈as.zip bs→∃j:Nat,as[j]?=some a∧bs[j]?=some b:=by
 induction as with
 |nil=>exact fun h=>nomatch h
 |cons x as ih=>
  intro bs a b h
  cases bs with
  |nil=>exact absurd h bY
  |cons y bs=>exact(br.mp h).elim (fun e=>⟨0,congrArg (fun p:β×γ=>some p.1) e.symm,congrArg (fun p:β×γ=>some p.2) e.symm⟩) fun h=>aq (ih h) fun j e1 e2=>⟨j+1,e1,e2⟩
theorem qf.Gd {K:gg}{f:aD}{fd:eJ}{body:List eF}{ps:List bu}(D:qf K f fd body ps):ps.Nodup:=by
 have UO:ps=(fd.scope.names.map (·.1)).take ps.length:=by
  apply Je
  intro j
  by_cases hj:j<ps.length
  ·refine aq (D.BP (aw hj)) fun k e _=>?_
   rw[yS hj,aK,e,aw hj];rfl
  ·rw[cF (by exact aS hj),cF (by rw[cg];exact aW [_,_,_,_] [] [.N (.T aB aM),.fm cf aM fz] (.L cf aB) (.o jM (.k [1,1,1,0,1])) rfl hj (AJ _ _))]
 rw[UO]
 exact D.nodup.sublist (List.take_sublist _ _)
noncomputable def qB (Q:AV→List ag→Prop):AF→Loc→List ag→Prop
 |.ret a,_,H=>Q a H
 |_,_,H=>Q .none H
noncomputable def YD (c:Cx) (h:cb) (α:Am) (a:AV):AD→Prop
 |.ret v=>bO c h α a v
 |_=>a=.none
inductive Ij (c:Cx) (A:aU) (env:dH) (α:Am) (h:cb) (Q:AV→List ag→Prop) (f:AD) (s':aH):Prop
 |mk (a:AV) (bD:Am) (H':List ag) (m:bM A (cy env) α h bD s'.heap) (o:gw c s'.heap bD H') (k:dP c A (gM s') s'.heap bD) (r:YD c s'.heap bD a f) (q:Q a H')
theorem s8.toR {env:dH}{f:AD}(p:s8 c d A env α h (qB Q) f s'):Ij c A env α h Q f s':=by
 obtain⟨af,l₂,bE,e8,cV,cA,fr,q⟩:=p
 cases af with
 |next=>cases fr;exact⟨.none,bE,e8,cV,cA.h,cA.k,rfl,q⟩
 |brk=>cases fr;exact⟨.none,bE,e8,cV,cA.h,cA.k,rfl,q⟩
 |cont=>cases fr;exact⟨.none,bE,e8,cV,cA.h,cA.k,rfl,q⟩
 |ret a=>refine aq fr fun v lh rv=>?_;clear fr;subst lh;exact⟨a,bE,e8,cV,cA.h,cA.k,rv,q⟩
theorem WC.Pq {K:gg}(hK:c.K=K){f:aD}{fd:eJ}{body:List eF}{ps:List bu}(D:qf K f fd body ps){as as':List AV}
  (qz:as'.length=ps.length)
  (hb:∀(α:Am) (s:aH) (vs:List ai),Ht c (d+1) A α H s→bq c s.heap α as vs→∃As,bq c s.heap α as' As∧wM s fd ⟨vs,[]⟩ (ps.zip As))
  (w:∀A env,env.scope=fd.scope→env.frame=some env.locals→∀α s,Inv c d A env (u4 as' (fd.scope.names.length-as'.length)) α H s→bj c.M A (execs body env) (Ij c A env α s.heap Q) (kF c A env α s.heap X) s) :
  ∀α s vs,Ht c (d+1) A α H s→bq c s.heap α as vs→ic c.M A (.call (.ref f) ⟨vs,[]⟩) (TF c A α s.heap Q X) s:=fun α s vs I r=>by
 subst hK
 have qn:=I.ok.X.keeps I.h.base
 refine fX D.at_ fun oc od j3=>?_
 refine al j3 fun sl Nc=>?_
 refine aq (hb α s vs I r) fun As r' S5=>?_
 have hvl:As.length=ps.length:=by rw[r'.length,qz]
 have BE:s.heap.NoLimit:=I.ok.T.nolimit.keeps I.h.base
 refine JF (by have:=I.r.depth;exact aW [_,_] [] [.T (.a aB (.m 4 (.a aM bP))) (.l 1000)] (.T aB (.l 1000)) cI rfl this) (qn _ _ Nc) rfl D.co D.gen D.body (codeRec_of qn D.code) (S5 _ _ _ _ ?_)
 have hkb:∀x∈ps.zip As,fd.scope.names.lookup x.1=some .local∨(fd.scope.names.lookup x.1=some .cell∧((qa (s.heap.objs.size+1) fd.scope.names []).lookup x.1).isSome=true):=by
  rintro⟨x,v⟩ hx
  refine aq (Lu hx) fun j e1 e2=>?_
  refine aq (D.BP e1) fun k e3 hk=>?_
  have lk:=cW D.nodup e3
  rcases hk with rfl | rfl
  ·exact .inl lk
  ·exact .inr ⟨lk,qh (a9 e3)⟩
 rw[D.clo]
 refine Ck D.kind hkb fun env he bf x=>⟨BE.keeps x.toInCall.keep,codeAny_func ?_⟩
 have keep:=x.toInCall.keep
 have zH:gM bf=gM s:=by refine cB x.done fun h' tk e _=>?_;rw[e]
 have hL:env.locals=s.heap.objs.size:=by rw[he];rfl
 have xk:env.scope=fd.scope:=by rw[he];rfl
 have Vt:env.cells=qa (s.heap.objs.size+1) fd.scope.names []:=by rw[he];rfl
 have B5:env.frame=some env.locals:=by rw[he];rfl
 have U4:∀y,env.kindOf y=fd.scope.names.lookup y:=fun y=>by rw[he];rfl
 have fresh:∀{b},s.heap.objs.size≤b→¬iW α b∧c.hb.get? b=none∧s.heap.get? b=none:=fun{b} yQ=>by
  have e:s.heap.get? b=none:=gk yQ
  refine⟨I.h.live e,?_,e⟩
  cases q:c.hb.get? b with
  |none=>rfl
  |some o=>rw[I.h.base b o q] at e;exact nS (fZ e)
 have above:∀{y b},env.cells.lookup y=some b→s.heap.objs.size≤b∧b≠env.locals:=fun{y b} e=>by
  have h1:env.locals<b:=x.above y b (mem_of_lookup e)
  exact⟨by rw[←hL];exact dz h1,gY h1⟩
 have eok:Gi env:=⟨xk▸D.kind,by rw[he];exact D.glob,by rw[he];exact D.bi,xk▸D.nodup,fun{y z b} e1 e2=>name_of_addr x.apart (mem_of_lookup e1) (mem_of_lookup e2),fun e=>(above e).2,⟨_,B5⟩⟩
 have jL:∀{b},cy env b→s.heap.objs.size≤b:=fun{b} q=>by
  rcases q with rfl | ⟨_,_,y,_,_,_,e⟩
  ·rw[hL];exact aA _
  ·exact(above e).1
 refine aL I.k.fr fun lf ml Fs nfr=>?_
 have DU:(A.deeper env).frames=some (env::lf):=aU.frames_deeper ml
 have m1:bM (A.deeper env) (cy env) α s.heap α bf.heap:=⟨id,.inl,fun e=>⟨_,keep _ _ e⟩,fun e _ _ _=>keep _ _ e,fun{_ o} e _ _=>⟨o.slots,keep _ _ e⟩⟩
 have O1:gw c bf.heap α H:=I.h.keeps fun b o=>keep b o
 have r1:bq c bf.heap α as' As:=r'.carry id fun t=>t.keeps keep
 have Hj:∀{i:Nat}{y:bu}{k:bc}{v:AV},env.scope.names[i]?=some (y,k)→(u4 as' (fd.scope.names.length-as'.length))[i]?=some (some v)→∃val,(y,val)∈ps.zip As∧bO c bf.heap α v val:=by
  intro i y k v e1 e2
  unfold u4 at e2
  by_cases hi:i<as'.length
  ·rw[aC (by simpa using hi),aK] at e2
   rw[aw hi] at e2
   have hv:as'[i]?=some v:=by
    rw[aw hi]
    simpa using e2
   refine aq (r1.get hv) fun val e3 r3=>?_
   have Jr:i<ps.length:=qz▸hi
   refine aq (D.BP (aw Jr)) fun k' e4 _=>?_
   rw[xk,e4] at e1
   cases e1
   exact⟨val,zip_get (aw Jr) e3,r3⟩
  ·rw[aY (by simpa using hi)] at e2
   have:=a9 e2
   simp at this
 have Hm:((ps.zip As).map (·.1)).Nodup:=by
  rw[List.map_fst_zip (by exact aW [_,_] [] [.E aB aM] (.L aM aB) cM rfl hvl)];exact D.Gd
 have F1:oZ c env bf.heap α (u4 as' (fd.scope.names.length-as'.length)):=by
  refine⟨⟨_,x.toInCall.ns,fun{i y v} e1 e2=>?_⟩,fun{i y k} e1 hk=>?_,?_,?_⟩
  ·refine aq (Hj e1 e2) fun val hm rv=>?_
   exact⟨val,so (by rw[U4];exact cW D.nodup (xk▸e1)) Hm hm,rv⟩
  ·have hkc:k=.cell:=by
    rcases hk with rfl | rfl
    ·rfl
    ·exact absurd rfl (D.Qa _ (a9 (xk▸e1)))
   subst hkc
   have hs:=qh (n:=s.heap.objs.size+1) (acc:=[]) (a9 (xk▸e1))
   refine al (xt.mp hs) fun b nW=>?_
   have Z2:env.cells.lookup y=some b:=Vt▸nW
   have fr:=fresh (above Z2).1
   refine⟨b,_,Z2,x.cell y b Z2,fr.1,fr.2.1,fun{v} e2=>?_⟩
   refine aq (Hj e1 e2) fun val hm rv=>?_
   exact⟨val,DT (by rw[U4,cW D.nodup (xk▸e1)];decide) Hm hm,rv⟩
  ·exact(fresh (by rw[hL];exact aA _)).1
  ·exact(fresh (by rw[hL];exact aA _)).2.1
 have K1:dP c (A.deeper env) (gM bf) bf.heap α:=by
  refine⟨⟨_,DU,.cons (by rw[xk,D.kind];decide) B5 x.toInCall.ns F1.new (Fs.of_keeps fun b o e _=>⟨o,keep _ _ e,rfl⟩),fun en he b hb=>?_⟩,zH.trans I.k.lq⟩
  rcases br.mp he with e | he
  ·rw[e,B5] at hb;replace hb:=ae hb;subst hb;exact F1.no
  ·exact nfr en he b hb
 have I1:Inv c d (A.deeper env) env (u4 as' (fd.scope.names.length-as'.length)) α H bf:=⟨I.ok,eok,I.r.deeper,⟨env,lf,DU,rfl⟩,O1,F1,K1⟩
 -- T3 is shown of the Wh,told VC
 have out:∀{bD h'},bM (A.deeper env) (cy env) α bf.heap bD h'→bM A iQ α s.heap bD h':=fun{bD h'} m2=>by
  have m:=m1.trans m2
  have no:∀{b o},s.heap.get? b=some o→¬cy env b:=fun{b o} e q=>absurd (bU e) (Jf.mpr (jL q))
  refine⟨m.pre,m.fresh,m.alive,fun{b o} e n1 _ n3=>m.keep e n1 (no e) fun q=>?_,fun{b o} e n1 _=>m.slot e n1 (no e)⟩
  obtain⟨l2,en,q1,q2,q3⟩:=q
  rw[DU] at q1;replace q1:=ae q1;subst q1
  rcases br.mp q2 with e2 | q2
  ·rw[e2,B5] at q3;replace q3:=ae q3;subst q3;exact no e (.inl rfl)
  ·exact n3 ⟨lf,en,ml,q2,q3⟩
 have Pf:∀{g bD h'},dP c (A.deeper env) g h' bD→dP c A g h' bD:=fun{g bD h'} k=>by
  refine aL k.fr fun l2 q1 q2 q3=>?_
  rw[DU] at q1;replace q1:=ae q1;subst q1
  exact⟨⟨lf,ml,q2.2.2,fun en he=>q3 en (.tail _ he)⟩,k.lq⟩
 refine au (w (A.deeper env) env xk B5 α bf I1) (fun fl cX ⟨a,bE,e8,cV,Uz,zb,fr,q⟩=>?_) fun e cX ⟨e',flx,bE,e8,q1,q2,q3,q4,q5,q6,q7,mm,q8⟩=>?_
 ·cases fl with
  |ret v=>exact⟨a,bE,e8,out cV,Uz,Pf zb,fr,q⟩
  |_=>subst fr;exact⟨.none,bE,e8,out cV,Uz,Pf zb,wY,q⟩
 ·subst q1
  refine leave (own:=iQ) (h₀:=s.heap) (cq:=α) DU B5 q2 ?_ q5 q6 (q3.back m1) fun h3 z3 m3 O3 K3=>?_
  ·have m:=m1.trans q4
   refine⟨m.pre,m.fresh,m.alive,fun{b o} e n1 _ n3=>m.keep e n1 (fun q=>absurd (bU e) (Jf.mpr (jL q))) n3,fun{b o} e n1 _=>m.slot e n1 fun q=>absurd (bU e) (Jf.mpr (jL q))⟩
  ·refine⟨e',bE,e8,rfl,z3,?_,O3,Pf K3,q7⟩
   refine⟨m3.pre,m3.fresh,m3.alive,fun{b o} e n1 n2 n3=>m3.keep e n1 n2 fun q=>?_,m3.slot⟩
   obtain⟨l2,en,y1,y2,y3⟩:=q
   rw[DU] at y1;replace y1:=ae y1;subst y1
   rcases br.mp y2 with e2 | y2
   ·rw[e2,B5] at y3;replace y3:=ae y3;subst y3
    exact absurd (bU e) (by rw[hL];exact gq _)
   ·exact n3 ⟨lf,en,ml,y2,y3⟩
end
end
section
open PySem PySem.W PySem.Calls PyProof.Rows
inductive SE (c:Cx) (d:Nat) (A:aU) (env:dH) (l:Loc) (α:Am) (h:cb) (Q:List AV→List ag→Prop) (vs:List ai) (s':aH):Prop
 |mk (as:List AV) (bD:Am) (H':List ag) (m:bM A (cy env) α h bD s'.heap) (i:Inv c d A env l bD H' s') (r:bq c s'.heap bD as vs) (q:Q as H')
noncomputable def WA (c:Cx) (d:Nat) (A:aU) (env:dH) (es:List Expr) (l:Loc) (H:List ag) (Q:List AV→List ag→Prop) (X:List ag→Prop):Prop:=
 ∀α s,Inv c d A env l α H s→bj c.M A (spliced (es.map fun e=>(false,gr e env))) (SE c d A env l α s.heap Q) (kF c A env α s.heap X) s
section
variable {c:Cx}{d:Nat}{A:aU}{env:dH}{l l':Loc}{α bD:Am}{h h':cb}{H H':List ag}{s s':aH}
variable {Q:AV→List ag→Prop}{X:List ag→Prop}{pos:ij}
theorem WA.nil {Q:List AV→List ag→Prop}(q:Q [] H):WA c d A env [] l H Q X:=fun α s I=>L9 ⟨[],α,H,.refl ..,I,jD,q⟩
theorem WA.cons {e:Expr}{es:List Expr}{Q:List AV→List ag→Prop}(w:WE c d A env e l H (fun a H1=>WA c d A env es l H1 (fun as H2=>Q (a::as) H2) X) X):WA c d A env (e::es) l H Q X:=fun α s I=>by
 refine spliced_cons (au (w α s I) (fun v bf eT=>?_) fun _ _ e=>e)
 obtain⟨a,aP,H₁,bZ,bl,fF,yk⟩:=eT
 refine au (yk aP bf bl) (fun vs cX eT=>?_) fun _ _ e=>e.weak bZ
 obtain⟨as,bE,e8,cV,cA,jA,pY⟩:=eT
 exact⟨a::as,bE,e8,bZ.trans cV,cA,eC (fF.mono cV bl.h bl.solid) jA,pY⟩
theorem j9 {M:Ft}{E:ai→aH→Prop}{f:ai}{P:Args→aH→Prop}:∀{es:List Expr},bj M A (spliced (es.map fun e=>(false,gr e env))) (fun vs s'=>P ⟨vs,[]⟩ s') E s →
  bj M A (evalArgs f true (es.map fun e=>(false,gr e env)) []) P E s
 |[],h=>by
  unfold evalArgs
  show bj M A (spliced [] >>= _) _ _ _
  refine ak (au h (fun vs s' h'=>?_) fun _ _ x=>x)
  refine cu ?_
  exact ak (aQ (ak (aQ (aQ h'))))
 |_::_,h=>evalArgs_plain h
noncomputable def gX (c:Cx) (v:ai):Prop:=QD c.K v=true∨(∃id,v=.builtin id)∨∃T,v=.type T
theorem gX.CO {v:ai}(k:gX c v){M:Ft}(h:cb) (X:c.K.In h):∃k,(k=Keeper.frame∨k=Keeper.machine∨k=Keeper.boundFrame)∧Looks M h (keeperOf v) k:=by
 rcases k with k | ⟨id,rfl⟩ | ⟨T,rfl⟩
 ·exact keeps_K k h X
 ·exact⟨.machine,.inr (.inl rfl),Nx rfl⟩
 ·exact⟨.machine,.inr (.inl rfl),Nx rfl⟩
theorem M4 {v:ai}{first:List ai}{as0:List AV}{es:List Expr}(k:gX c v) (I:Inv c d A env l α H s) (r0:bq c s.heap α as0 first)
  (i4:mA pos (dR es env)=es.map fun e=>(false,gr e env))
  (w:WA c d A env es l H (fun as H2=>WV c d A env (fun vs=>PySem.call v vs) (as0++as) l H2 Q X) X) :
  bj c.M A (lS pos v first (mA pos (dR es env)) []) (pV c d A env l α s.heap Q) (kF c A env α s.heap X) s:=by
 rw[i4]
 refine yT (P:=fun h=>c.K.In h) (by simp) (fun h X=>k.CO h X) (j9 ?_)
 refine au (w α s I) (fun vs bf ⟨as,aP,H₁,bZ,bl,fF,yk⟩=>⟨bl.qn,?_⟩) fun _ _ e=>e
 exact o7 bZ (yk aP bf (first++vs) bl ((r0.mono bZ I.h I.solid).append fF))
theorem oU {es:List Expr}(h:dR es env=es.map fun e=>(false,gr e env)):mA pos (dR es env)=es.map fun e=>(false,gr e env):=by
 rw[h]
 unfold mA
 rw[dx]
 rfl
theorem WE.call {f:Expr}{es:List Expr}(w:WE c d A env f l H (fun a H1=>∃v,a=.fix v∧gX c v∧WA c d A env es l H1 (fun as H2=>WV c d A env (fun vs=>PySem.call v vs) as l H2 Q X) X) X)
  (G5:gr (.Call f es [] pos) env=(do lS pos (←gr f env) [] (mA pos (dR es env)) [])) (i4:dR es env=es.map fun e=>(false,gr e env)) :
  WE c d A env (.Call f es [] pos) l H Q X:=fun α s I=>by
 rw[G5]
 refine ak (au (w α s I) (fun v bf p=>?_) fun _ _ e=>e)
 obtain⟨a,aP,H₁,bZ,bl,fF,v',rfl,k,yk⟩:=p
 cases fF.fix
 exact o7 bZ (M4 (as0:=[]) k bl jD (oU i4) yk)
theorem bM.toOwn {own:aD→Prop}(m:bM A iQ α h bD h'):bM A own α h bD h':=⟨m.pre,m.fresh,m.alive,fun e n1 _ n3=>m.keep e n1 id n3,fun e n1 _=>m.slot e n1 id⟩
theorem eM.no (h:cb):eM h iQ:=fun _ x=>x.elim
theorem WV.ofC {d':Nat}{f:ai}{as:List AV}(w:WC c d' f as H Q X) (hd:d'≤d):WV c d A env (fun vs=>PySem.call f vs) as l H Q X:=fun α s vs I r=>by
 refine QH (qU (w A α s vs ⟨I.ok,I.r.le hd,I.h,I.k⟩ r) fun Js bf p=>?_)
 rcases Js with x | (v | _ | _ | _)<;>first | exact p.elim | skip
 rotate_left
 ·obtain⟨a,aP,H₁,m,O,K,rv,q⟩:=p
  exact⟨a,aP,H₁,m.toOwn,⟨I.ok,I.e,I.r,I.top,O,I.f.keep m I.h (eM.no _) id (fun _ _ _ _ _ _ _=>id),K⟩,rv,q⟩
 ·obtain⟨e,aP,H₁,rfl,z,m,O,K,q⟩:=p
  refine aq ((I.f.keep m I.h (eM.no _) id fun _ _ _ _ _ _ _=>id).ns) fun mm ud _=>?_
  exact⟨e,_,aP,H₁,rfl,.inr (.inl rfl),z,m.toOwn,O,K,q,mm,ud⟩
theorem WE.YQ {o:Expr}{name:bu}{pd:ij}{es:List Expr}{pl:rU Bool}
  (G5:gr (.Call (.Attribute o name pd) es [] pos) env=(do
   let ov ←gr o env
   qV pd.atName
   let(f,first) ←lG [ov] (kh ov name pl)
   lS pos f first (mA pos (dR es env)) (Cm pos (sQ [] env))))
  (i4:dR es env=es.map fun e=>(false,gr e env))
  (w:WE c d A env o l H (fun a H1=>∃v,gX c v ∧
   (∀α s x,Inv c d A env l α H1 s→bO c s.heap α a x→∀P:ai×List ai→aH→Prop,∀E,P (v,[x]) s→bj c.M A (kh x name pl) P E s) ∧
   WA c d A env es l H1 (fun as H2=>WV c d A env (fun vs=>PySem.call v vs) (a::as) l H2 Q X) X) X) :
  WE c d A env (.Call (.Attribute o name pd) es [] pos) l H Q X:=fun α s I=>by
 rw[G5]
 refine ak (au (w α s I) (fun x bf SZ=>?_) fun _ _ e=>e)
 obtain⟨a,aP,H₁,bZ,bl,fF,i9⟩:=SZ
 refine aL i9 fun v k hm yk=>?_
 refine ak (iB (ak (cu ?_)))
 refine hm aP bf x bl fF _ _ ?_
 exact o7 bZ (M4 (as0:=[a]) k bl (eC fF jD) (oU i4) yk)
theorem k9.Bj {C:aD}{fs:List (bu×AV)}{p:aD×aD}(r:k9 c h α p (.inst C fs)):∃es n sl,InstAt h p.1 ⟨.ref C,some p.2,.plain,sl⟩ C (some (dictOf es n))∧eN c h α fs es:=by
 obtain⟨es,n,sl,h1,h2,r⟩:=r
 exact⟨es,n,sl,⟨h1,rfl,rfl,h2⟩,r⟩
theorem gw.look (O:gw c h α H){n:Nat}{x:ag}(e:H[n]?=some x){v:ai}(r:bO c h α (.obj n) v):∃p,α[n]?=some p∧v=.ref p.1∧k9 c h α p x:=by
 refine aq r.obj fun p e' nF=>?_
 subst nF
 exact⟨p,e',rfl,O.cell e e'⟩
theorem eN.get {name:bu}:∀{fs:List (bu×AV)}{es:List ej},eN c h α fs es →
  match fs.lookup name with
  |some a=>∃v,getL name es=some (some v)∧bO c h α a v
  |none=>getL name es=some none:=by
 intro us
 induction us with
 |nil=>
  intro es r
  subst r
  rfl
 |cons hd xs ih=>
  obtain⟨k,x⟩:=hd
  intro es r
  refine cx r fun e r' t lh hk rv rr=>?_
  clear r
  subst lh
  have ih:=ih rr
  have hb:e.key.isStr name=(k==name):=by rw[hk];rfl
  by_cases q:name=k
  ·subst q
   simp only[dF,beq_self_eq_true]
   refine⟨e.val,?_,rv⟩
   unfold getL
   rw[wd,hb,beq_self_eq_true]
  ·have q1:(name==k)=false:=beq_eq_false_iff_ne.mpr q
   have q2:(k==name)=false:=beq_eq_false_iff_ne.mpr (gS q)
   have hr:e.refKey=false:=by unfold ej.refKey;rw[hk]
   have:getL name (e::r')=getL name r':=by
    unfold getL
    rw[wd,hb,q2,rQ,hr,ng]
   simp only[dF,q1,this]
   exact ih
end
end
section
open PySem PySem.W PySem.Calls PyProof.Rows
section
variable {c:Cx}{d:Nat}{A:aU}{env:dH}{l l':Loc}{α bD:Am}{h h':cb}{H H':List ag}{s s':aH}
variable {Q:AV→List ag→Prop}{X:List ag→Prop}{pos:ij}{own:aD→Prop}
theorem kq {b:aD}(hb:iW α b) (hs:dy b h h') (ha:∃o,h'.get? b=some o):bM A own α h α h':=by
 refine⟨id,.inl,fun{x o} e=>?_,fun{x o} e n _ _=>?_,fun{x o} e n _=>⟨o.slots,?_⟩⟩
 ·by_cases q:x=b
  ·subst q;exact ha
  ·exact⟨o,(hs.2 x q).trans e⟩
 ·exact(hs.2 x fun q=>n (q▸hb)).trans e
 ·exact(hs.2 x fun q=>n (q▸hb)).trans e
theorem oI {n:Nat}{p:aD×aD}(e:α[n]?=some p):iW α p.1∧iW α p.2:=⟨⟨n,p,e,.inl rfl⟩,⟨n,p,e,.inr rfl⟩⟩
theorem gw.upd {n:Nat}{p:aD×aD}{b:aD}{x:ag}(O:gw c h α H) (e:α[n]?=some p) (hb:b=p.1∨b=p.2) (hs:dy b h h') (ha:∃o,h'.get? b=some o) (cr:k9 c h' α p x):gw c h' α (H.set n x):=by
 have ad:iW α b:=⟨n,p,e,hb⟩
 have m:bM ({}:aU) iQ α h α h':=kq ad hs ha
 have tk:∀{a:aD}{items:Array ai},dn h a items→dn h' a items:=fun t=>m.tup O (eM.no h) t
 refine⟨by rw[dG];exact O.len,fun{k y q} e1 e2=>?_,O.apart,fun y o e1=>?_,O.new⟩
 ·by_cases hk:n=k
  ·subst hk
   rw[e] at e2;replace e2:=ae e2;subst e2
   have:n<H.length:=by rw[←O.len];exact(ao.mp e).1
   rw[ew this] at e1
   replace e1:=ae e1;subst e1;exact cr
  ·rw[cN hk] at e1
   have ap:=O.apart e e2 hk
   refine(O.cell e1 e2).ql id tk fun y o q ho=>(hs.2 y fun z=>?_).trans ho
   rcases hb with rfl | rfl<;>rcases q with rfl | rfl
   ·exact ap.1 z.symm
   ·exact ap.2.1 z.symm
   ·exact ap.2.2.1 z.symm
   ·exact ap.2.2.2 z.symm
 ·exact(hs.2 y fun q=>by subst q;rw[O.new y ad] at e1;exact nS e1).trans (O.base _ _ e1)
theorem Inv.upd {n:Nat}{p:aD×aD}{b:aD}{x:ag}(I:Inv c d A env l α H s) (e:α[n]?=some p) (hb:b=p.1∨b=p.2) (hs:dy b s.heap s'.heap) (ha:∃o,s'.heap.get? b=some o) (cr:k9 c s'.heap α p x) (zH:gM s'=gM s:=by rfl) :
  bM A (cy env) α s.heap α s'.heap∧Inv c d A env l α (H.set n x) s':=by
 have ad:iW α b:=⟨n,p,e,hb⟩
 have m:bM A iQ α s.heap α s'.heap:=kq ad hs ha
 exact⟨m.toOwn,I.next m.toOwn (I.h.upd e hb hs ha cr) (I.f.keep m I.h (eM.no _) id fun _ _ _ _ _ _ _=>id) zH⟩
theorem iX {β:Type}{xs:List β}{y:β}{n:Nat}{x:β}(e:xs[n]?=some x):(xs++[y])[n]?=some x:=by
 rw[aC (ao.mp e).1];exact e
theorem nH {β:Type}{xs:List β}{y:β}{n:Nat}{x:β}(e:(xs++[y])[n]?=some x):xs[n]?=some x∨(n=xs.length∧x=y):=by
 by_cases h:n<xs.length
 ·rw[aC h] at e;exact .inl e
 ·rw[aY (by exact aS h)] at e
  have:n-xs.length=0:=by
   cases q:n-xs.length with
   |zero=>rfl
   |succ k=>rw[q] at e;simp at e
  rw[this] at e
  replace e:=ae e
  subst e
  exact .inr ⟨by exact aW [_,_,_] [] [.N (.T aB aM),.E cf dE,.fs cf aB aM] (.E aB aM) (.o (.o (.k [1,0,0,0,0,0,1]) nY) (.o (.k [1,0,0,0,0,0,1]) cI)) rfl h this (eR _ _),rfl⟩
theorem HC {p:aD×aD}{b:aD}(a:iW (α++[p]) b):iW α b∨b=p.1∨b=p.2:=by
 obtain⟨n,q,e,hb⟩:=a
 rcases nH e with e | ⟨_,rfl⟩
 ·exact .inl ⟨n,q,e,hb⟩
 ·exact .inr hb
theorem gw.alloc {p:aD×aD}{x:ag}(O:gw c h α H) (hk:∀b o,h.get? b=some o→h'.get? b=some o) (n1:h.get? p.1=none) (n2:h.get? p.2=none)
  (cr:k9 c h' (α++[p]) p x):bM A iQ α h (α++[p]) h'∧gw c h' (α++[p]) (H++[x]):=by
 have old:∀{b},iW (α++[p]) b→iW α b∨h.get? b=none:=fun{b} a=>(HC a).imp id fun q=>q.elim (fun q=>q▸n1) fun q=>q▸n2
 have live:∀{b},iW α b→b≠p.1∧b≠p.2:=fun{b} a=>by
  refine aq (O.at a) fun o ho _=>?_
  exact⟨(fun q=>by rw[q,n1] at ho;exact nS ho),(fun q=>by rw[q,n2] at ho;exact nS ho)⟩
 have ap:∀{i:Nat}{q:aD×aD},α[i]?=some q→(q.1≠p.1∧q.1≠p.2)∧q.2≠p.1∧q.2≠p.2:=fun e=>⟨live (oI e).1,live (oI e).2⟩
 refine⟨⟨fun e=>iX e,old,fun e=>⟨_,hk _ _ e⟩,fun e _ _ _=>hk _ _ e,fun{_ o} e _ _=>⟨o.slots,hk _ _ e⟩⟩,
  ⟨by rw[ah,ah,O.len];rfl,fun{k y q} e1 e2=>?_,fun{i j q r} e1 e2 hij=>?_,fun b o e=>hk _ _ (O.base b o e),fun b a=>?_⟩⟩
 ·rcases nH e2 with e2 | ⟨hk1,hq⟩
  ·rw[aC (by rw[←O.len];exact(ao.mp e2).1)] at e1
   exact(O.cell e1 e2).ql iX (fun t=>t.keeps hk) fun b o _=>hk b o
  ·rw[hk1,O.len,aY (aA _),gZ] at e1
   replace e1:=ae e1
   subst e1
   exact hq▸cr
 ·rcases nH e1 with f1 | ⟨h1,q1⟩<;>rcases nH e2 with f2 | ⟨h2,q2⟩
  ·exact O.apart f1 f2 hij
  ·have a:=ap f1
   exact q2▸⟨a.1.1,a.1.2,a.2.1,a.2.2⟩
  ·have a:=ap f2
   exact q1▸⟨gS a.1.1,gS a.2.1,gS a.1.2,gS a.2.2⟩
  ·exact absurd (h1.trans h2.symm) hij
 ·rcases old a with a | a
  ·exact O.new b a
  ·cases q:c.hb.get? b with
   |none=>rfl
   |some o=>rw[O.base _ _ q] at a;exact nS (fZ a)
theorem Inv.alloc {p:aD×aD}{x:ag}(I:Inv c d A env l α H s) (hk:∀b o,s.heap.get? b=some o→s'.heap.get? b=some o) (n1:s.heap.get? p.1=none) (n2:s.heap.get? p.2=none)
  (cr:k9 c s'.heap (α++[p]) p x) (zH:gM s'=gM s:=by rfl):bM A (cy env) α s.heap (α++[p]) s'.heap∧Inv c d A env l (α++[p]) (H++[x]) s':=
 have⟨m,O⟩:=I.h.alloc (A:=A) hk n1 n2 cr
 ⟨m.toOwn,I.next m.toOwn O (I.f.keep m I.h (eM.no _) id fun _ _ _ _ _ _ _=>id) zH⟩
theorem Inv.grow (I:Inv c d A env l α H s) (hk:∀b o,s.heap.get? b=some o→s'.heap.get? b=some o) (zH:gM s'=gM s:=by rfl):bM A (cy env) α s.heap α s'.heap∧Inv c d A env l α H s':=by
 have m:bM A iQ α s.heap α s'.heap:=⟨id,.inl,fun e=>⟨_,hk _ _ e⟩,fun e _ _ _=>hk _ _ e,fun{_ o} e _ _=>⟨o.slots,hk _ _ e⟩⟩
 exact⟨m.toOwn,I.next m.toOwn (I.h.same m (eM.no _) I.k (fun _ q=>q.elim) fun b o _ e=>hk b o e) (I.f.keep m I.h (eM.no _) id fun _ _ _ _ _ _ _=>id) zH⟩
theorem gd {o:ou}:∀b o',h.get? b=some o'→(h.push o).get? b=some o':=fun _ _ e=>aT _ e
theorem bR:h.get? h.objs.size=none:=gk (aA _)
theorem Inv.newList {vs:List ai}{as:List AV}(I:Inv c d A env l α H s) (r:bq c s.heap α as vs) (q:Q (.obj H.length) (H++[.list as])) :
  pV c d A env l α s.heap Q (.ref s.heap.objs.size) { s with heap:=s.heap.push { cls:=.type "list",data:=.seq vs.toArray } }:=by
 obtain⟨m,I'⟩:=I.alloc (s':={ s with heap:=s.heap.push { cls:=.type "list",data:=.seq vs.toArray } }) (p:=(s.heap.objs.size,s.heap.objs.size)) (x:=.list as) gd bR bR
  ⟨vs.toArray,0,aX _ rfl,by simpa using r.carry iX fun t=>t.push _,rfl⟩
 refine⟨.obj H.length,_,_,m,I',?_,q⟩
 have:(α++[(s.heap.objs.size,s.heap.objs.size)])[H.length]?=some (s.heap.objs.size,s.heap.objs.size):=by rw[←I.h.len];simp
 exact yi this
theorem Inv.xw {vs:List ai}{as:List AV}(I:Inv c d A env l α H s) (r:bq c s.heap α as vs) (q:Q (.tup as) H) :
  pV c d A env l α s.heap Q (.ref s.heap.objs.size) { s with heap:=s.heap.push { cls:=.type "tuple",data:=.seq vs.toArray } }:=by
 obtain⟨m,I'⟩:=I.grow (s':={ s with heap:=s.heap.push { cls:=.type "tuple",data:=.seq vs.toArray } }) gd
 exact⟨.tup as,α,H,m,I',RB (.new _ _) (by simpa using r.carry id fun t=>t.push _),q⟩
theorem WE.tup {es:List Expr}{k:Nat}(i4:dR es env=es.map fun e=>(false,gr e env)) (w:WA c d A env es l H (fun as H'=>as.length≤1000∧Q (.tup as) H') X):WE c d A env (.Tuple es k pos) l H Q X:=fun α s I=>by
 refine wpAny_Tuple ?_
 rw[oU i4]
 refine au (w α s I) (fun vs bf ⟨as,aP,H₁,m,bl,r,hq,q⟩=>⟨?_,(bl.xw r q).weak m⟩) fun _ _ e=>e
 rw[r.length,cw];exact b9 hq rfl
theorem WE.list {es:List Expr}(i4:dR es env=es.map fun e=>(false,gr e env)) (w:WA c d A env es l H (fun as H'=>as.length≤1000∧Q (.obj H'.length) (H'++[.list as])) X):WE c d A env (.List es pos) l H Q X:=fun α s I=>by
 refine wpAny_List ?_
 rw[oU i4]
 refine au (w α s I) (fun vs bf ⟨as,aP,H₁,m,bl,r,hq,q⟩=>⟨?_,(bl.newList r q).weak m⟩) fun _ _ e=>e
 rw[r.length,cw];exact b9 hq rfl
theorem WE.Uw (q:Q (.obj H.length) (H++[.dict []])):WE c d A env (.Dict [] [] pos) l H Q X:=fun α s I=>by
 refine wpAny_Dict_empty ?_
 have kR:s.heap.objs.size≠gh:=fun q=>by
  have h1:s.heap.Ns cStatics _:=(I.ok.T.nolimit.keeps I.h.base).choose_spec.1
  have:=h1.lt
  rw[q] at this
  exact absurd this (by decide)
 obtain⟨m,I'⟩:=I.alloc (s':={ s with heap:=s.heap.push { cls:=.type "dict",data:=.dict #[] } }) (p:=(s.heap.objs.size,s.heap.objs.size)) (x:=.dict []) gd bR bR
  ⟨[],⟨_,#[],0,aX _ rfl,⟨rfl,rfl,rfl⟩,rfl,fun e he=>by simp at he,.nil,gF⟩,rfl,rfl,by simpa using kR⟩
 have:(α++[(s.heap.objs.size,s.heap.objs.size)])[H.length]?=some (s.heap.objs.size,s.heap.objs.size):=by rw[←I.h.len];simp
 exact⟨.obj H.length,_,_,m,I',yi this,q⟩
structure yA (K:gg) (C:aD) (name:bu):Prop where
 get:L4 K C name=true
 dict:hasDictIn K C=true
 cls:∃attr,qQ K (.ref C) name=some attr∧noGet K attr=true
noncomputable def uH:AV→Bool
 |.fix _=>false
 |_=>true
theorem handed {a:AV}{v:ai}(r:bO c h α a v) (n:uH a=true):handedIn v=true:=by
 cases a with
 |none=>rw[r.none];rfl
 |bool=>rw[r.bool];rfl
 |int=>obtain⟨t,rfl⟩:=r.int;rfl
 |str=>obtain⟨t,rfl⟩:=r.str;rfl
 |d8=>obtain⟨t,rfl⟩:=r.d8;rfl
 |fix=>cases n
 |tup=>refine cB r.tup fun a i jY _=>?_;subst jY;rfl
 |obj=>refine aq r.obj fun p _ nr=>?_;subst nr;rfl
 |iR=>refine cB r fun a kv mU _=>?_;clear r;subst mU;rfl
theorem WE.attr {e:Expr}{name:bu}(w:WE c d A env e l H (fun a H1=>∃n C fs v,a=.obj n∧H1[n]?=some (.inst C fs)∧fs.lookup name=some v∧yA c.K C name∧uH v=true∧Q v H1) X)
  (he:gr (.Attribute e name pos) env=(do
   let o ←gr e env
   qV pos.atName
   let r ←lG [o] (getAttr o name true)
   letTemporaryGo e o r
   pure r)):WE c d A env (.Attribute e name pos) l H Q X:=fun α s I=>by
 refine Attribute_any_ (au (w α s I) (fun v bf p=>?_) fun _ _ e=>e) he
 obtain⟨a,aP,H₁,m,bl,r,n,C,fs,x,rfl,e1,e2,ok,nf,q⟩:=p
 refine aL (bl.h.look e1 r) fun p e3 tM cr=>?_
 subst tM
 refine eD cr.Bj fun es nn sl inst fr=>?_
 have fg:=eN.get (name:=name) fr
 rw[e2] at fg
 refine aq fg fun y hy ry=>?_
 clear fg
 refine aq ok.cls fun attr c1 c2=>?_
 exact get_value bl.qn inst (Ma ok.get).1 (findObj_own ok.dict c1 c2 hy) (handed ry nf) ((bl.done ry q).weak m)
noncomputable def xx (name:bu) (a:AV):List (bu×AV)→List (bu×AV)
 |[]=>[(name,a)]
 |(k,x)::r=>if k==name then (k,a)::r else (k,x)::xx name a r
theorem eN.put {name:bu}{a:AV}{v:ai}{hsh:Int}{t:Tok}(ra:bO c h α a v):∀{fs:List (bu×AV)}{es:List ej},eN c h α fs es→eN c h α (xx name a fs) (QJ name hsh (.str name t) v es):=by
 intro us
 induction us with
 |nil=>
  intro es r
  subst r
  unfold xx QJ eN
  exact⟨_,[],t,rfl,rfl,ra,rfl⟩
 |cons hd xs ih=>
  obtain⟨k,x⟩:=hd
  intro es r
  refine cx r fun e r' t' j3 hk rv rr=>?_
  clear r
  subst j3
  have hb:e.key.isStr name=(k==name):=by rw[hk];rfl
  unfold xx QJ
  rw[hb]
  cases k==name with
  |true=>exact⟨_,_,t',rfl,hk,ra,rr⟩
  |false=>exact⟨_,_,t',rfl,hk,rv,ih rr⟩
structure Dq (K:gg) (C:aD) (name:bu):Prop where
 set:qQ K (.ref C) "__setattr__"=some (some (.builtin "object.__setattr__"))
 over:plainOver K C=true
 Hs:Rg K C name=some none
 dict:(clsIn K C).any (·.hasDict)=true
theorem eN.KS {name:bu}{fs:List (bu×AV)}{es:List ej}(r:eN c h α fs es):(getL name es).isSome=true:=by
 have:=eN.get (name:=name) r
 cases q:fs.lookup name with
 |none=>rw[q] at this;rw[this];rfl
 |some x=>rw[q] at this;refine aq this fun v e _=>?_;clear this;rw[e];rfl
theorem eN.length:∀{fs:List (bu×AV)}{es:List ej},eN c h α fs es→es.length=fs.length:=by
 intro us
 induction us with
 |nil=>
  intro es r
  subst r;rfl
 |cons _ _ ih=>
  intro es r
  refine cx r fun e r' t' vL _ _ rr=>?_
  clear r
  subst vL
  simp[ih rr]
theorem AA (name:bu) (a:AV) (fs:List (bu×AV)):(xx name a fs).length≤fs.length+1:=by
 induction fs with
 |nil=>exact aA _
 |cons p r ih=>
  unfold xx
  split
  ·exact bX _
  ·exact gR ih
set_option tactic.hygienic true in
theorem WU.setAttr {n:Nat}{C:aD}{fs:List (bu×AV)}{name:bu}{a:AV}{Q:Loc→List ag→Prop}(e:H[n]?=some (.inst C fs)) (ok:Dq c.K C name) (hz:fs.length≤100)
  (q:Q l (H.set n (.inst C (xx name a fs)))):WU c d A env (fun vs=>setAttr (vs[0]?.getD .none) name (vs[1]?.getD .none)) [.obj n,a] l H Q X:=fun α s vs I rs=>by
 refine aN rs.two fun x v se rx ra=>?_
 subst se
 refine aL (I.h.look e rx) fun p e3 mh cr=>?_
 subst mh
 refine eD cr.Bj fun es nn sl inst fr=>?_
 have D:=inst.dict
 dsimp only at D
 refine set_plain I.qn inst ok.set ?_
 refine osa_open (s:={ s with toks:=s.toks+1 }) I.qn inst ok.over ok.Hs fun b=>?_
 refine aq (any_some ok.dict) fun cd hc qG=>?_
 obtain⟨hx,rW,hn,-⟩:=inst
 dsimp only at rW
 have qz:=eN.length fr
 have hl:=eN.KS (name:=name) fr
 have RK:jK name (cY c.w.params name) (.str name (s.toks+1)) v (dictOf es nn)=dictOf (QJ name (cY c.w.params name) (.str name (s.toks+1)) v es) (putN name es nn):=putName_dict ..
 have D':(s.heap.update p.2 (jK name (cY c.w.params name) (.str name (s.toks+1)) v)).get? p.2=some (dictOf (QJ name (cY c.w.params name) (.str name (s.toks+1)) v es) (putN name es nn)):=by
  rw[dw _ D (by rw[RK];rfl),RK]
 refine ak (aQ (ak (ak (sR hx (ak (Looks.here (s:={ s with toks:=s.toks+1 }) (Mb I.qn hc) ?_))))))
 rw[qG]
 refine aQ (a:=some p.2) (ak (aQ (ak ?_)))
 unfold nsSet
 refine ak (ak (wpAny_askSetting (aQ (ak (wpAny_mkText (ak (sR D ?_)))))))
 dsimp only
 have cc:(!es.toArray.any (·.key.isStr name)&&es.toArray.any (·.refKey))=false:=by
  rw[←tS,←tS]
  show(!es.any _&&es.any _)=false
  unfold getL at hl
  split at hl
  ·rename_i en he
   rw[uo.mpr ⟨en,List.mem_of_find?_eq_some he,List.find?_some he⟩];rfl
  ·split at hl
   ·cases hl
   ·rename_i z;rw[Bool.not_eq_true] at z;rw[z,qq]
 rw[Jg,cc]
 refine wpAny_updatePart D ?_
 have hz':(QJ name (cY c.w.params name) (.str name (s.toks+1)) v es).length≤1000:=by
  have h1:=eN.length (eN.put (name:=name) (hsh:=cY c.w.params name) (t:=s.toks+1) ra fr)
  have h2:=AA name a fs
  exact aW [_,_,_] [] [.L aB (.l 100),.E aM cf,.L cf (.a aB bP)] (.L aM (.l 1000)) (.k [1,1,1,0,1]) rfl hz h1 h2
 refine ak (wpAny_lookBehind D' (pastItsLine_dict (by rw[m8,cw];exact b9 hz' rfl)) ?_)
 refine aQ ?_
 have hs:dy p.2 s.heap (s.heap.update p.2 (jK name (cY c.w.params name) (.str name (s.toks+1)) v)):=j7 ..
 have m0:bM A iQ α s.heap α (s.heap.update p.2 (jK name (cY c.w.params name) (.str name (s.toks+1)) v)):=kq (oI e3).2 hs ⟨_,D'⟩
 have v9:p.1≠p.2:=fun z=>by rw[z,D] at hx;cases hx
 obtain⟨m,I'⟩:=I.upd (s':={ s with heap:=s.heap.update p.2 (jK name (cY c.w.params name) (.str name (s.toks+1)) v),toks:=s.toks+1+1 }) (x:=.inst C (xx name a fs)) e3 (.inr rfl) hs ⟨_,D'⟩
  ⟨_,_,sl,(hs.2 _ v9).trans hx,D',eN.put (ra.mono m0 I.h (eM.no _)) (fr.carry id fun t=>m0.tup I.h (eM.no _) t)⟩
 exact⟨l,α,_,m,I',q⟩
end
end
section
open PySem PySem.W PySem.Calls PyProof.Rows
inductive Dt (c:Cx) (d:Nat) (A:aU) (env:dH) (l:Loc) (α:Am) (h:cb) (Q:Bool→List ag→Prop) (v:ai) (s':aH):Prop
 |mk (t:Bool) (bD:Am) (H':List ag) (e:v=.bool t) (m:bM A (cy env) α h bD s'.heap) (i:Inv c d A env l bD H' s') (q:Q t H')
noncomputable def WO (c:Cx) (d:Nat) (A:aU) (env:dH) (op:mC) (a b:AV) (l:Loc) (H:List ag) (Q:Bool→List ag→Prop) (X:List ag→Prop):Prop:=
 ∀α s v w,Inv c d A env l α H s→bO c s.heap α a v→bO c s.heap α b w→bj c.M A (compareOp op v w) (Dt c d A env l α s.heap Q) (kF c A env α s.heap X) s
section
variable {c:Cx}{d:Nat}{A:aU}{env:dH}{l l':Loc}{α bD:Am}{h h':cb}{H H':List ag}{s s':aH}
variable {Q:AV→List ag→Prop}{QB:Bool→List ag→Prop}{X:List ag→Prop}{pos:ij}{own:aD→Prop}
theorem Inv.iS {dr:Ch}{tk:Nat}{t:Bool}(I:Inv c d A env l α H s) (q:QB t H) :
  Dt c d A env l α s.heap QB (.bool t) ⟨s.heap,s.gens,dr,tk,s.os⟩:=⟨t,α,H,rfl,.refl ..,I.toks,q⟩
variable {i j:Int}
theorem WV.YR (q:Q (.int (i+j)) H):WV c d A env (fun vs=>fb .Add (vs[0]?.getD .none) (vs[1]?.getD .none)) [.int i,.int j] l H Q X:=fun α s vs I rs=>by
 refine aN rs.two fun _ _ ix ra rb=>?_;subst ix;obtain⟨_,rfl⟩:=ra.int;obtain⟨_,rfl⟩:=rb.int
 exact P.add_int (I.done iy q)
theorem WV.Yc (q:Q (.int (i-j)) H):WV c d A env (fun vs=>fb .Sub (vs[0]?.getD .none) (vs[1]?.getD .none)) [.int i,.int j] l H Q X:=fun α s vs I rs=>by
 refine aN rs.two fun _ _ jY ra rb=>?_;subst jY;obtain⟨_,rfl⟩:=ra.int;obtain⟨_,rfl⟩:=rb.int
 exact P.sub_int (I.done iy q)
theorem WV.ZT (hm:IntMulOk i j) (q:Q (.int (i*j)) H):WV c d A env (fun vs=>fb .Mult (vs[0]?.getD .none) (vs[1]?.getD .none)) [.int i,.int j] l H Q X:=fun α s vs I rs=>by
 refine aN rs.two fun _ _ nF ra rb=>?_;subst nF;obtain⟨_,rfl⟩:=ra.int;obtain⟨_,rfl⟩:=rb.int
 exact P.mul_int (I.done iy q) hm
theorem WV.WL (hj:0<j) (q:Q (.int (i%j)) H):WV c d A env (fun vs=>fb .Mod (vs[0]?.getD .none) (vs[1]?.getD .none)) [.int i,.int j] l H Q X:=fun α s vs I rs=>by
 refine aN rs.two fun _ _ j3 ra rb=>?_;subst j3;obtain⟨_,rfl⟩:=ra.int;obtain⟨_,rfl⟩:=rb.int
 exact mod_int' (by exact aW [] [_] [.t dE bJ] (.N (.e bJ dE)) cM rfl hj) (I.done (by rw[Int.fmod_eq_emod_of_nonneg _ (by exact aW [] [_] [.t dE bJ] (.l dE bJ) cI rfl hj)];exact iy) q)
theorem WV.BS {n:Int}(hn:0≤n) (kR:(fc i:Int)*n≤2^27) (q:Q (.int (i^n.toNat)) H):WV c d A env (fun vs=>fb .Pow (vs[0]?.getD .none) (vs[1]?.getD .none)) [.int i,.int n] l H Q X:=fun α s vs I rs=>by
 refine aN rs.two fun _ _ mh ra rb=>?_;subst mh;obtain⟨_,rfl⟩:=ra.int;obtain⟨_,rfl⟩:=rb.int
 exact pow_int hn kR (I.done iy q)
theorem WV.W2 {n:Int}(hn:0≤n) (q:Q (.int (i / (2^n.toNat))) H):WV c d A env (fun vs=>fb .RShift (vs[0]?.getD .none) (vs[1]?.getD .none)) [.int i,.int n] l H Q X:=fun α s vs I rs=>by
 refine aN rs.two fun _ _ uD ra rb=>?_;subst uD;obtain⟨_,rfl⟩:=ra.int;obtain⟨_,rfl⟩:=rb.int
 exact rshift_int hn (I.done (by rw[yH _ (iY (Int.pow_pos (by decide)))];exact iy) q)
theorem WE.neg {e:Expr}(w:WE c d A env e l H (fun a H'=>∃i,a=.int i∧Q (.int (-i)) H') X):WE c d A env (.UnaryOp .USub e pos) l H Q X:=fun α s I=>by
 refine UnaryOp_ (au (w α s I) (fun v bf p=>?_) fun _ _ e=>e)
 obtain⟨a,aP,H₁,m,bl,r,i,rfl,q⟩:=p
 obtain⟨_,rfl⟩:=r.int
 exact P.neg_int ((bl.done iy q).weak m)
theorem WO.eqI (q:QB (decide (i=j)) H):WO c d A env .Eq (.int i) (.int j) l H QB X:=fun α s v w I ra rb=>by
 obtain⟨_,rfl⟩:=ra.int;obtain⟨_,rfl⟩:=rb.int
 exact P.eq_int (I.iS (by rw[show(i==j)=decide (i=j) from rfl];exact q))
theorem WO.neI (q:QB (decide (i≠j)) H):WO c d A env .NotEq (.int i) (.int j) l H QB X:=fun α s v w I ra rb=>by
 obtain⟨_,rfl⟩:=ra.int;obtain⟨_,rfl⟩:=rb.int
 refine P.ne_int (I.iS ?_)
 rw[show(i != j)=decide (i≠j) from by by_cases h:i=j<;>simp[h,bne]];exact q
theorem WO.ltI (q:QB (decide (i<j)) H):WO c d A env .Lt (.int i) (.int j) l H QB X:=fun α s v w I ra rb=>by
 obtain⟨_,rfl⟩:=ra.int;obtain⟨_,rfl⟩:=rb.int
 exact P.lt_int (I.iS q)
theorem WO.leI (q:QB (decide (i≤j)) H):WO c d A env .LtE (.int i) (.int j) l H QB X:=fun α s v w I ra rb=>by
 obtain⟨_,rfl⟩:=ra.int;obtain⟨_,rfl⟩:=rb.int
 exact P.le_int (I.iS q)
theorem WO.gtI (q:QB (decide (i>j)) H):WO c d A env .Gt (.int i) (.int j) l H QB X:=fun α s v w I ra rb=>by
 obtain⟨_,rfl⟩:=ra.int;obtain⟨_,rfl⟩:=rb.int
 exact P.gt_int (I.iS q)
theorem WO.geI (q:QB (decide (i≥j)) H):WO c d A env .GtE (.int i) (.int j) l H QB X:=fun α s v w I ra rb=>by
 obtain⟨_,rfl⟩:=ra.int;obtain⟨_,rfl⟩:=rb.int
 exact P.ge_int (I.iS q)
theorem WB.cmp {e1 e2:Expr}{op:mC}(w:WE c d A env e1 l H (fun a H1=>WE c d A env e2 l H1 (fun b H2=>WO c d A env op a b l H2 QB X) X) X) (hm:lH op e2=false:=by with_unfolding_all rfl) :
  WB c d A env (.Compare e1 [op] [e2] pos) l H QB X:=fun α s I=>by
 refine wpAny_isTrue_Compare1 (au (w α s I) (fun v bf eT=>?_) fun _ _ e=>e) hm
 obtain⟨a,aP,H₁,bZ,bl,fF,i9⟩:=eT
 refine au (i9 aP bf bl) (fun oE cX eT=>?_) fun _ _ e=>e.weak bZ
 obtain⟨b,bE,e8,cV,cA,jA,nJ⟩:=eT
 have m:=bZ.trans cV
 refine au (nJ bE cX v oE cA (fF.mono cV bl.h bl.solid) jA) (fun x hG p=>?_) fun _ _ e=>e.weak m
 obtain⟨t,fh,kZ,rfl,gW,fP,q⟩:=p
 exact iO ⟨fh,kZ,m.trans gW,fP,q⟩
theorem WE.cmp {e1 e2:Expr}{op:mC}(w:WE c d A env e1 l H (fun a H1=>WE c d A env e2 l H1 (fun b H2=>WO c d A env op a b l H2 (fun t H3=>Q (.bool t) H3) X) X) X) (hm:lH op e2=false:=by with_unfolding_all rfl) :
  WE c d A env (.Compare e1 [op] [e2] pos) l H Q X:=fun α s I=>by
 refine wpAny_Compare1 (au (w α s I) (fun v bf eT=>?_) fun _ _ e=>e) hm
 obtain⟨a,aP,H₁,bZ,bl,fF,i9⟩:=eT
 refine au (i9 aP bf bl) (fun oE cX eT=>?_) fun _ _ e=>e.weak bZ
 obtain⟨b,bE,e8,cV,cA,jA,nJ⟩:=eT
 have m:=bZ.trans cV
 refine au (nJ bE cX v oE cA (fF.mono cV bl.h bl.solid) jA) (fun x hG p=>?_) fun _ _ e=>e.weak m
 obtain⟨t,fh,kZ,rfl,gW,fP,q⟩:=p
 exact⟨.bool t,fh,kZ,m.trans gW,fP,qo,q⟩
theorem WB.NN {e1 e2 e3:Expr}{op tc:mC}(w:WE c d A env e1 l H (fun a H1=>WE c d A env e2 l H1 (fun b H2=>WO c d A env op a b l H2 (fun t H3=>
   if t then WE c d A env e3 l H3 (fun z H4=>WO c d A env tc b z l H4 QB X) X else QB false H3) X) X) X) (hm:lastMarks [op,tc] [e2,e3]=false:=by with_unfolding_all rfl) :
  WB c d A env (.Compare e1 [op,tc] [e2,e3] pos) l H QB X:=fun α s I=>by
 refine isTrue_chain (au (w α s I) (fun v bf SZ=>?_) fun _ _ e=>e) hm
 obtain⟨a,aP,H₁,bZ,bl,fF,i9⟩:=SZ
 refine test_link ?_
 refine au (i9 aP bf bl) (fun oE cX eT=>?_) fun _ _ e=>e.weak bZ
 obtain⟨b,bE,e8,cV,cA,jA,nJ⟩:=eT
 have m:=bZ.trans cV
 refine au (nJ bE cX v oE cA (fF.mono cV bl.h bl.solid) jA) (fun x hG p=>?_) fun _ _ e=>e.weak m
 obtain⟨t,fh,kZ,rfl,gW,fP,q⟩:=p
 refine iO ?_
 cases t with
 |false=>exact⟨fh,kZ,m.trans gW,fP,q⟩
 |true=>
  refine test_last (au (q fh hG fP) (fun Oi n5 eT=>?_) fun _ _ e=>e.weak (m.trans gW))
  obtain⟨z,rM,Gs,ku,jU,Hv,PZ⟩:=eT
  have mm:=(m.trans gW).trans ku
  have rb:=(jA.mono gW cA.h cA.solid).mono ku fP.h fP.solid
  refine au (PZ rM n5 oE Oi jU rb Hv) (fun x Bm p=>?_) fun _ _ e=>e.weak mm
  obtain⟨t,mG,Ar,rfl,pW,k7,q⟩:=p
  exact iO ⟨mG,Ar,mm.trans pW,k7,q⟩
theorem WE.NN {e1 e2 e3:Expr}{op tc:mC}(w:WE c d A env e1 l H (fun a H1=>WE c d A env e2 l H1 (fun b H2=>WO c d A env op a b l H2 (fun t H3=>
   if t then WE c d A env e3 l H3 (fun z H4=>WO c d A env tc b z l H4 (fun t H=>Q (.bool t) H) X) X else Q (.bool false) H3) X) X) X) (hm:lastMarks [op,tc] [e2,e3]=false:=by with_unfolding_all rfl) :
  WE c d A env (.Compare e1 [op,tc] [e2,e3] pos) l H Q X:=fun α s I=>by
 refine Compare_chain (au (w α s I) (fun v bf SZ=>?_) fun _ _ e=>e) hm
 obtain⟨a,aP,H₁,bZ,bl,fF,i9⟩:=SZ
 refine chain_link ?_
 refine au (i9 aP bf bl) (fun oE cX eT=>?_) fun _ _ e=>e.weak bZ
 obtain⟨b,bE,e8,cV,cA,jA,nJ⟩:=eT
 have m:=bZ.trans cV
 refine au (nJ bE cX v oE cA (fF.mono cV bl.h bl.solid) jA) (fun x hG p=>?_) fun _ _ e=>e.weak m
 obtain⟨t,fh,kZ,rfl,gW,fP,q⟩:=p
 refine iO ?_
 cases t with
 |false=>exact⟨.bool false,fh,kZ,m.trans gW,fP,qo,q⟩
 |true=>
  refine chain_last (au (q fh hG fP) (fun Oi n5 eT=>?_) fun _ _ e=>e.weak (m.trans gW))
  obtain⟨z,rM,Gs,ku,jU,Hv,PZ⟩:=eT
  have mm:=(m.trans gW).trans ku
  have rb:=(jA.mono gW cA.h cA.solid).mono ku fP.h fP.solid
  refine au (PZ rM n5 oE Oi jU rb Hv) (fun x Bm p=>?_) fun _ _ e=>e.weak mm
  obtain⟨t,mG,Ar,rfl,pW,k7,q⟩:=p
  exact⟨.bool t,mG,Ar,mm.trans pW,k7,qo,q⟩
theorem yR.bool {b:Bool}(q:QB b H):yR c d A env (.bool b) l H QB X:=fun α s v I r=>by
 cases r.bool;exact iO (I.GQ q)
theorem yR.none (q:QB false H):yR c d A env .none l H QB X:=fun α s v I r=>by
 cases r.none;exact truthy_none (I.GQ q)
theorem yR.int (q:QB (decide (i≠0)) H):yR c d A env (.int i) l H QB X:=fun α s v I r=>by
 obtain⟨_,rfl⟩:=r.int
 refine P.truthy_int (I.GQ ?_)
 rw[show(i != 0)=decide (i≠0) from by by_cases h:i=0<;>simp[h,bne]];exact q
theorem WB.plain {e:Expr}(w:WE c d A env e l H (fun a H1=>yR c d A env a l H1 QB X) X) (he:isTrue e env (gr e env)=(do let v ←gr e env;qV e.pos;lG [v] (truthy v))):WB c d A env e l H QB X:=fun α s I=>
 isTrue_plain (au (w α s I) (by rintro v bf ⟨a,aP,H₁,bZ,bl,fF,i9⟩;exact F6 bZ (i9 aP bf v bl fF)) fun _ _ e=>e) he
theorem WB.not {e:Expr}(w:WB c d A env e l H (fun t H1=>QB (!t) H1) X):WB c d A env (.UnaryOp .Not e pos) l H QB X:=fun α s I=>
 isTrue_not (au (w α s I) (by rintro t bf ⟨aP,H₁,bZ,bl,q⟩;exact⟨aP,H₁,bZ,bl,q⟩) fun _ _ e=>e)
theorem WB.W6 (q:QB true H):WB c d A env (.BoolOp .And [] pos) l H QB X:=fun α s I=>isTrue_and_nil ⟨α,H,.refl ..,I,q⟩
theorem WB.orN (q:QB false H):WB c d A env (.BoolOp .Or [] pos) l H QB X:=fun α s I=>isTrue_or_nil ⟨α,H,.refl ..,I,q⟩
theorem WB.and {e:Expr}{es:List Expr}(w:WB c d A env e l H (fun t H1=>if t then WB c d A env (.BoolOp .And es pos) l H1 QB X else QB false H1) X):WB c d A env (.BoolOp .And (e::es) pos) l H QB X:=fun α s I=>by
 refine isTrue_and (au (w α s I) (fun t bf eT=>?_) fun _ _ e=>e)
 obtain⟨aP,H₁,bZ,bl,q⟩:=eT
 cases t with
 |true=>exact F6 bZ (q aP bf bl)
 |false=>exact⟨aP,H₁,bZ,bl,q⟩
theorem WB.or {e:Expr}{es:List Expr}(w:WB c d A env e l H (fun t H1=>if t then QB true H1 else WB c d A env (.BoolOp .Or es pos) l H1 QB X) X):WB c d A env (.BoolOp .Or (e::es) pos) l H QB X:=fun α s I=>by
 refine isTrue_or (au (w α s I) (fun t bf eT=>?_) fun _ _ e=>e)
 obtain⟨aP,H₁,bZ,bl,q⟩:=eT
 cases t with
 |true=>exact⟨aP,H₁,bZ,bl,q⟩
 |false=>exact F6 bZ (q aP bf bl)
theorem WE.not {e:Expr}(w:WE c d A env e l H (fun a H1=>yR c d A env a l H1 (fun t H2=>Q (.bool (!t)) H2) X) X):WE c d A env (.UnaryOp .Not e pos) l H Q X:=fun α s I=>by
 refine UnaryOp_ (au (w α s I) (fun v bf ⟨a,aP,H₁,m,bl,r,q⟩=>not_of ?_) fun _ _ e=>e)
 exact au (q aP bf v bl r) (by rintro t cX ⟨bE,e8,cV,cA,pY⟩;exact⟨.bool (!t),bE,e8,m.trans cV,cA,qo,pY⟩) fun _ _ e=>e.weak m
theorem WE.one {op:BoolOp}{e:Expr}(w:WE c d A env e l H Q X):WE c d A env (.BoolOp op [e] pos) l H Q X:=fun α s I=>BoolOp_one (w α s I)
theorem WE.and {e e2:Expr}{es:List Expr}(w:WE c d A env e l H (fun a H1=>yR c d A env a l H1 (fun t H2=>if t then WE c d A env (.BoolOp .And (e2::es) pos) l H2 Q X else Q a H2) X) X):WE c d A env (.BoolOp .And (e::e2::es) pos) l H Q X:=fun α s I=>by
 refine BoolOp_and (au (w α s I) (fun v bf eT=>?_) fun _ _ e=>e)
 obtain⟨a,aP,H₁,m,bl,r,q⟩:=eT
 refine au (q aP bf v bl r) (fun t cX eT=>?_) fun _ _ e=>e.weak m
 obtain⟨bE,e8,cV,cA,pY⟩:=eT
 cases t with
 |true=>exact o7 (m.trans cV) (pY bE cX cA)
 |false=>exact⟨a,bE,e8,m.trans cV,cA,r.mono cV bl.h bl.solid,pY⟩
theorem WE.or {e e2:Expr}{es:List Expr}(w:WE c d A env e l H (fun a H1=>yR c d A env a l H1 (fun t H2=>if t then Q a H2 else WE c d A env (.BoolOp .Or (e2::es) pos) l H2 Q X) X) X):WE c d A env (.BoolOp .Or (e::e2::es) pos) l H Q X:=fun α s I=>by
 refine BoolOp_or (au (w α s I) (fun v bf eT=>?_) fun _ _ e=>e)
 obtain⟨a,aP,H₁,m,bl,r,q⟩:=eT
 refine au (q aP bf v bl r) (fun t cX eT=>?_) fun _ _ e=>e.weak m
 obtain⟨bE,e8,cV,cA,pY⟩:=eT
 cases t with
 |true=>exact⟨a,bE,e8,m.trans cV,cA,r.mono cV bl.h bl.solid,pY⟩
 |false=>exact o7 (m.trans cV) (pY bE cX cA)
theorem WE.ite {e1 e2 e3:Expr}(w:WB c d A env e1 l H (fun t H1=>if t then WE c d A env e2 l H1 Q X else WE c d A env e3 l H1 Q X) X):WE c d A env (.IfExp e1 e2 e3 pos) l H Q X:=fun α s I=>by
 refine IfExp_ (au (w α s I) (fun t bf eT=>?_) fun _ _ e=>e)
 obtain⟨aP,H₁,bZ,bl,q⟩:=eT
 cases t with
 |true=>exact o7 bZ (q aP bf bl)
 |false=>exact o7 bZ (q aP bf bl)
theorem WO.isNone {a:AV}(ha:uH a=true) (q:QB (match a with | .none=>true | _=>false) H):WO c d A env .Is a .none l H QB X:=fun α s v w I ra rb=>by
 cases rb.none
 cases a with
 |none=>cases ra.none;exact g0 rfl (I.iS q)
 |bool=>cases ra.bool;exact g0 rfl (I.iS q)
 |int=>obtain⟨_,rfl⟩:=ra.int;exact g0 rfl (I.iS q)
 |str=>obtain⟨_,rfl⟩:=ra.str;exact g0 rfl (I.iS q)
 |d8=>obtain⟨_,rfl⟩:=ra.d8;exact g0 rfl (I.iS q)
 |fix=>cases ha
 |tup=>refine cB ra.tup fun _ _ Y8 _=>?_;subst Y8;exact g0 rfl (I.iS q)
 |obj=>refine aq ra.obj fun _ _ Wl=>?_;subst Wl;exact g0 rfl (I.iS q)
 |iR=>refine cB ra fun _ _ W5 _=>?_;clear ra;subst W5;exact g0 rfl (I.iS q)
end
end
section
open PySem PySem.W PySem.Calls PyProof.Rows
noncomputable def lL {β:Type}(lo hi:Option Int) (xs:List β):List β:=(xs.drop (lo.elim 0 (QK xs.length))).take (hi.elim xs.length (QK xs.length)-lo.elim 0 (QK xs.length))
theorem qg (items:Array ai) (lo hi:Option Int):slicePick items lo hi none=(lL lo hi items.toList).toArray:=by
 unfold slicePick lL
 rw[sliceBounds_plain]
 simp only[sliceRange_one,pick_run,du]
theorem uT (b:List UInt8) (lo hi:Option Int):KBy.picked b.toArray lo hi=(lL lo hi b).toArray:=by
 rw[KBc.picked_eq]
 unfold lL
 simp
section
variable {c:Cx}{d:Nat}{A:aU}{env:dH}{l l':Loc}{α bD:Am}{h h':cb}{H H':List ag}{s s':aH}
variable {Q:AV→List ag→Prop}{QB:Bool→List ag→Prop}{X:List ag→Prop}{pos:ij}{own:aD→Prop}
theorem bq.drop {xs:List AV}{vs:List ai}(k:Nat) (r:bq c h α xs vs):bq c h α (xs.drop k) (vs.drop k):=by
 induction k generalizing xs vs with
 |zero=>exact r
 |succ k ih=>cases xs with
  |nil=>cases r.nil;exact jD
  |cons x xs=>refine aN r.cons fun v r' gD _ h2=>?_;subst gD;exact ih h2
theorem bq.take {xs:List AV}{vs:List ai}(k:Nat) (r:bq c h α xs vs):bq c h α (xs.take k) (vs.take k):=by
 induction k generalizing xs vs with
 |zero=>exact jD
 |succ k ih=>cases xs with
  |nil=>cases r.nil;exact jD
  |cons x xs=>refine aN r.cons fun v r' gD h1 h2=>?_;subst gD;exact eC h1 (ih h2)
theorem bq.lL {xs:List AV}{vs:List ai}(lo hi:Option Int) (r:bq c h α xs vs):bq c h α (lL lo hi xs) (Mine.lL lo hi vs):=by
 unfold Mine.lL
 rw[r.length]
 exact(r.drop _).take _
theorem bq.rev {xs:List AV}:∀{vs:List ai},bq c h α xs vs→bq c h α xs.reverse vs.reverse:=by
 induction xs with
 |nil=>intro vs r;cases r.nil;exact jD
 |cons x xs ih=>
  intro vs r
  refine aN r.cons fun v r' jS h1 h2=>?_
  subst jS
  rw[Jh,Jh]
  exact(ih h2).append (eC h1 jD)
noncomputable def WG (c:Cx) (d:Nat) (A:aU) (env:dH) (a b:AV) (l:Loc) (H:List ag) (Q:AV→List ag→Prop) (X:List ag→Prop):Prop:=
 ∀α s v w,Inv c d A env l α H s→bO c s.heap α a v→bO c s.heap α b w→∃T id,s.TypeIs v T∧QL (.type T) "__getitem__"=pure (some (.builtin id)) ∧
  bj c.M A (Rm v w) (pV c d A env l α s.heap Q) (kF c A env α s.heap X) s
theorem WE.sub {e1 e2:Expr}(w:WE c d A env e1 l H (fun a H1=>WE c d A env e2 l H1 (fun b H2=>WG c d A env a b l H2 Q X) X) X)
  (hs:∀o i,subscripted e2 false o i=operate [o,i] (Rm o i)):WE c d A env (.Subscript e1 e2 pos) l H Q X:=fun α s I=>by
 refine QM (au (w α s I) (fun v bf eT=>?_) fun _ _ e=>e)
 obtain⟨a,aP,H₁,bZ,bl,fF,i9⟩:=eT
 refine au (i9 aP bf bl) (fun oE cX eT=>?_) fun _ _ e=>e.weak bZ
 obtain⟨b,bE,e8,cV,cA,jA,nJ⟩:=eT
 refine aN (nJ bE cX v oE cA (fF.mono cV bl.h bl.solid) jA) fun T id hT hl hg=>?_
 exact tail_any hT hl (o7 (bZ.trans cV) hg) (hs _ _)
theorem k9.isList {vs:List AV}{p:aD×aD}(r:k9 c h α p (.list vs)):∃items,h.IsList p.1 items∧bq c h α vs items.toList:=by
 obtain⟨items,n,ho,rs,_⟩:=r
 exact⟨items,⟨_,ho,rfl,n,rfl⟩,rs⟩
theorem WG.list {n:Nat}{vs:List AV}{k:Int}{x:AV}(e:H[n]?=some (.list vs)) (h0:0≤k) (hk:k<2^63) (hx:vs[k.toNat]?=some x) (q:Q x H):WG c d A env (.obj n) (.int k) l H Q X:=fun α s v w I ra rb=>by
 refine aL (I.h.look e ra) fun p e3 mU cr=>?_
 subst mU
 refine aq cr.isList fun items hl rs=>?_
 obtain⟨_,rfl⟩:=rb.int
 refine aq (rs.get hx) fun y hy ry=>?_
 exact⟨_,_,hl.typeIs,oA.lookup,wpAny_getItem_list hl h0 hk (by simpa using hy) (I.done ry q)⟩
theorem WG.tup {vs:List AV}{k:Int}{x:AV}(h0:0≤k) (hk:k<2^63) (hx:vs[k.toNat]?=some x) (q:Q x H):WG c d A env (.tup vs) (.int k) l H Q X:=fun α s v w I ra rb=>by
 refine aN ra.tup fun a items tM ht rs=>?_
 subst tM
 obtain⟨_,rfl⟩:=rb.int
 refine aq (rs.get hx) fun y hy ry=>?_
 have iU:k.toNat<items.size:=by
  have:=(ao.mp hy).1
  simpa using this
 refine⟨_,_,ht.typeIs,nM.lookup,getItem_tuple ht (by exact aW [] [_] [.l dE bJ] (.l (.n DS) bJ) cI rfl h0) hk (j:=k.toNat) ?_ (by simpa using hy) (I.done ry q)⟩
 have h1:¬k<0:=by exact aW [] [_] [.l dE bJ] (.N (.t bJ dE)) cI rfl h0
 have h2:k<(items.size:Int):=by exact aW [_,_] [_] [.T aB aM,.ft aB bJ] (.t bJ aM) (.o nY rj) rfl iU (kL _)
 simp[seqIndex?,h1,h0,h2]
theorem WG.d8 {b:List UInt8}{k:Int}(h0:0≤k) (hk:k<b.length) (hf:b.length≤1099511627776) (q:Q (.int (b.getD k.toNat 0).toNat) H):WG c d A env (.d8 b) (.int k) l H Q X:=fun α s v w I ra rb=>by
 obtain⟨_,rfl⟩:=ra.d8
 obtain⟨_,rfl⟩:=rb.int
 exact⟨_,_,kH _ _ _,qr.lookup,getItem_bytes hf h0 hk (I.done iy q)⟩
noncomputable def DictAt (c:Cx) (H:List ag) (a:AV) (kvs:List (Int×AV)):Prop:=a=.iR kvs∨∃n:Nat,a=.obj n∧(H[n]?=some (.dict kvs)∨∃ep,H[n]?=some (.eV kvs ep))
theorem da.val {k:Int}{kvs:List (Int×AV)}:∀{kv:List (Int×ai)},da c h α kvs kv →
  match kvs.lookup k with
  |some a=>∃v,AR kv k=some v∧bO c h α a v
  |none=>AR kv k=none:=by
 induction kvs with
 |nil=>intro kv r;subst r;rfl
 |cons p xs ih=>
  intro kv r
  refine aN r fun v r' e rv rr=>?_
  subst e
  have ih:=ih rr
  by_cases q:k=p.1
  ·subst q
   simp only[dF,beq_self_eq_true]
   exact⟨v,by simp[AR],rv⟩
  ·have q1:(k==p.1)=false:=beq_eq_false_iff_ne.mpr q
   have:AR ((p.1,v)::r') k=AR r' k:=by
    unfold AR
    rw[wd]
    have:decide (p.1=k)=false:=decide_eq_false fun e=>q e.symm
    simp only[this]
   simp only[dF,q1,this]
   exact ih
theorem DictAt.look {a:AV}{kvs:List (Int×AV)}{v:ai}(D:DictAt c H a kvs) (O:gw c h α H) (r:bO c h α a v) :
  ∃b kv,v=.ref b∧(b==gh)=false∧h.DictOf (ia c.prog c.w) b kv∧da c h α kvs kv:=by
 rcases D with rfl | ⟨n,rfl,e | ⟨ep,e⟩⟩
 ·refine b0 r fun b kv mh hm qI dr=>?_
  clear r
  refine eD qI fun o es ep ho rr=>?_
  subst mh
  exact⟨b,kv,rfl,hm,⟨o,es,ep,O.base _ _ ho,rr⟩,dr⟩
 ·refine aL (O.look e r) fun p e3 sL cr=>?_
  subst sL
  obtain⟨kv,hd,dr,_,hm⟩:=cr
  exact⟨p.1,kv,rfl,hm,hd,dr⟩
 ·refine aL (O.look e r) fun p e3 uM cr=>?_
  subst uM
  obtain⟨kv,hd,dr,_,hm⟩:=cr
  exact⟨p.1,kv,rfl,hm,hd.dictOf,dr⟩
theorem WG.dict {a x:AV}{kvs:List (Int×AV)}{k:Int}(D:DictAt c H a kvs) (hx:kvs.lookup k=some x) (q:Q x H):WG c d A env a (.int k) l H Q X:=fun α s v w I ra rb=>by
 refine b0 (D.look I.h ra) fun b kv xF hm hd dr=>?_
 subst xF
 obtain⟨_,rfl⟩:=rb.int
 have dv:=da.val (k:=k) dr
 rw[hx] at dv
 refine aq dv fun y hy ry=>?_
 clear dv
 exact⟨_,_,hd.mapOf.typeIs,slot_dict_getitem.lookup,wpAny_getItem_of (nN _ _ _ _) hd.mapOf hy (I.done ry q)⟩
theorem WO.inD {a:AV}{kvs:List (Int×AV)}{k:Int}(D:DictAt c H a kvs) (q:QB (kvs.lookup k).isSome H):WO c d A env .In (.int k) a l H QB X:=fun α s v w I ra rb=>by
 refine b0 (D.look I.h rb) fun b kv Hg hm hd dr=>?_
 subst Hg
 obtain⟨_,rfl⟩:=ra.int
 refine wpAny_in_of (nN _ _ _ _) hm hd.mapOf (I.iS ?_)
 have dv:=da.val (k:=k) dr
 cases e:kvs.lookup k with
 |none=>rw[e] at dv q;rw[dv];exact q
 |some x=>rw[e] at dv q;refine aq dv fun y hy _=>?_;clear dv;rw[hy];exact q
theorem WO.Z6 {a:AV}{kvs:List (Int×AV)}{k:Int}(D:DictAt c H a kvs) (q:QB (!(kvs.lookup k).isSome) H):WO c d A env .NotIn (.int k) a l H QB X:=fun α s v w I ra rb=>by
 refine b0 (D.look I.h rb) fun b kv xV hm hd dr=>?_
 subst xV
 obtain⟨_,rfl⟩:=ra.int
 refine wpAny_notIn_of (nN _ _ _ _) hm hd.mapOf (I.iS ?_)
 have dv:=da.val (k:=k) dr
 cases e:kvs.lookup k with
 |none=>rw[e] at dv q;rw[dv];exact q
 |some x=>rw[e] at dv q;refine aq dv fun y hy _=>?_;clear dv;rw[hy];exact q
noncomputable def WP (c:Cx) (d:Nat) (A:aU) (env:dH) (e:Option Expr) (l:Loc) (H:List ag) (Q:Option Int→List ag→Prop) (X:List ag→Prop):Prop:=
 match e with
 |none=>Q none H
 |some e=>WE c d A env e l H (fun a H'=>∃i,a=.int i∧Q (some i) H') X
theorem WP.run {e:Option Expr}{Q:Option Int→List ag→Prop}(w:WP c d A env e l H Q X) (I:Inv c d A env l α H s) :
  bj c.M A (evalPart e env) (fun v bf=>∃o aP H₁,bM A (cy env) α s.heap aP bf.heap∧Inv c d A env l aP H₁ bf∧Ji v o∧Q o H₁) (kF c A env α s.heap X) s:=by
 cases e with
 |none=>exact aQ ⟨none,α,H,.refl ..,I,.none,w⟩
 |some e=>
  refine au (w α s I) (fun v bf p=>?_) fun _ _ e=>e
  obtain⟨a,aP,H₁,m,bl,r,i,rfl,q⟩:=p
  obtain⟨_,rfl⟩:=r.int
  exact⟨some i,aP,H₁,m,bl,.int _ _,q⟩
noncomputable def AM (c:Cx) (d:Nat) (A:aU) (env:dH) (a:AV) (lo hi:Option Int) (l:Loc) (H:List ag) (Q:AV→List ag→Prop) (X:List ag→Prop):Prop:=
 ∀α s v sl x y,Inv c d A env l α H s→bO c s.heap α a v→s.heap.IsSliceOf sl x y .none→Ji x lo→Ji y hi→∃T id,s.TypeIs v T∧QL (.type T) "__getitem__"=pure (some (.builtin id)) ∧
  bj c.M A (Rm v (.ref sl)) (pV c d A env l α s.heap Q) (kF c A env α s.heap X) s
theorem WE.slice {e:Expr}{e1 e2:Option Expr}{p:ij}(w:WE c d A env e l H (fun a H1=>WP c d A env e1 l H1 (fun lo H2=>WP c d A env e2 l H2 (fun hi H3=>AM c d A env a lo hi l H3 Q X) X) X) X) :
  WE c d A env (.Subscript e (.Slice e1 e2 none p) pos) l H Q X:=fun α s I=>by
 refine QM (au (w α s I) (fun v bf eT=>?_) fun _ _ e=>e)
 obtain⟨a,aP,H₁,bZ,bl,fF,i9⟩:=eT
 refine wpAny_Slice (au (i9.run bl) (fun x cX eT=>?_) fun _ _ e=>e.weak bZ)
 refine cx eT fun lo bE e8 cV cA ZA nJ=>?_
 clear eT
 refine au (nJ.run cA) (fun y hG eT=>?_) fun _ _ e=>e.weak (bZ.trans cV)
 refine cx eT fun hi fh kZ gW fP XO Pj=>?_
 clear eT
 refine aQ ?_
 have m:=(bZ.trans cV).trans gW
 obtain⟨ku,jU⟩:=fP.grow (s':={ hG with heap:=hG.heap.push { cls:=.type "slice",data:=.fields #[x,y,.none] } }) gd
 have r:=((fF.mono cV bl.h bl.solid).mono gW cA.h cA.solid).mono ku fP.h fP.solid
 refine aN (Pj fh _ v hG.heap.objs.size x y jU r (we ..) ZA XO) fun T id hT hl hg=>?_
 exact tail_any hT hl (o7 (m.trans ku) hg) rfl
theorem wB {β:Type}(lo hi:Option Int) (xs:List β):(lL lo hi xs).length≤xs.length:=by
 unfold lL
 rw[cg,aJ];exact aW [_,_,_,_,_] [] [.fs aB aM cf,.fm fz jh aB] (.L fz aM) (.o (.o (.k [1,1,1,0,0,1]) ui) (.o (.k [1,1,1,0,0,1]) ui)) rfl (eR _ _) (AJ _ _)
theorem AM.list {n:Nat}{vs:List AV}{lo hi:Option Int}(e:H[n]?=some (.list vs)) (hz:vs.length≤1000000) (q:Q (.obj H.length) (H++[.list (lL lo hi vs)])):AM c d A env (.obj n) lo hi l H Q X:=fun α s v sl x y I ra hs p1 p2=>by
 refine aL (I.h.look e ra) fun p e3 G9 cr=>?_
 subst G9
 refine aq cr.isList fun items hl rs=>?_
 have kR:items.size=vs.length:=by rw[←rs.length];simp
 refine⟨_,_,hl.typeIs,oA.lookup,pD hl hs p1 p2 .none (by simp) ?_ (by rw[kR,cw];exact b9 hz rfl)⟩
 rw[qg]
 exact I.newList (rs.lL lo hi) q
theorem AM.d8 {b:List UInt8}{lo hi:Option Int}(hz:b.length≤1000000) (q:Q (.d8 (lL lo hi b)) H):AM c d A env (.d8 b) lo hi l H Q X:=fun α s v sl x y I ra hs p1 p2=>by
 obtain⟨_,rfl⟩:=ra.d8
 refine⟨_,_,kH _ _ _,qr.lookup,getItem_meets (kH _ _ _) (by decide) qr FB.entry_bytes_getitem (FB.args_bytes_getitem_2 _ _) (KBc.meets_slice2 b.toArray _ sl p1 p2) ⟨hs,?_,fun t' k=>?_⟩⟩
 ·rw[uT,cw]
  have:=wB lo hi b
  simp;exact Sp this hz rfl
 ·rw[uT];exact I.done Uv q
end
end
section
open PySem PySem.W PySem.Calls PyProof.Rows
noncomputable def mu (k:Int) (v:AV) (kvs:List (Int×AV)):List (Int×AV):=
 if kvs.any (fun kv=>kv.1=k) then kvs.map (fun kv=>if kv.1=k then (kv.1,v) else kv) else kvs++[(k,v)]
section
variable {c:Cx}{d:Nat}{A:aU}{env:dH}{l l':Loc}{α bD:Am}{h h':cb}{H H':List ag}{s s':aH}
variable {Q:AV→List ag→Prop}{QB:Bool→List ag→Prop}{X:List ag→Prop}{pos:ij}{own:aD→Prop}{QU:Loc→List ag→Prop}{SQ:AF→Loc→List ag→Prop}
theorem da.length:∀{kvs:List (Int×AV)}{kv:List (Int×ai)},da c h α kvs kv→kv.length=kvs.length:=by
 intro us
 induction us with
 |nil=>
  intro kv r
  subst r;rfl
 |cons hd xs ih=>
  obtain⟨_,_⟩:=hd
  intro kv r
  refine aN r fun v r' ix _ rr=>?_
  clear r
  subst ix
  simp[ih rr]
theorem C8 {k:Int}{x:AV}{v:ai}{xs:List (Int×AV)}{vs:List (Int×ai)}(r:bO c h α x v) (rs:da c h α xs vs):da c h α ((k,x)::xs) ((k,v)::vs):=by
 exact⟨v,vs,rfl,r,rs⟩
theorem SX:da c h α [] []:=rfl
theorem da.any {k:Int}:∀{kvs:List (Int×AV)}{kv:List (Int×ai)},da c h α kvs kv→kv.any (fun p=>decide (p.1=k))=kvs.any (fun p=>decide (p.1=k)):=by
 intro us
 induction us with
 |nil=>
  intro kv r
  subst r;rfl
 |cons hd xs ih=>
  obtain⟨_,_⟩:=hd
  intro kv r
  refine aN r fun v r' jW _ rr=>?_
  clear r
  subst jW
  simp[ih rr]
theorem da.map {k:Int}{a:AV}{v:ai}(ra:bO c h α a v):∀{kvs:List (Int×AV)}{kv:List (Int×ai)},da c h α kvs kv →
  da c h α (kvs.map fun p=>if p.1=k then (p.1,a) else p) (kv.map fun p=>if p.1=k then (p.1,v) else p):=by
 intro us
 induction us with
 |nil=>
  intro kv r
  subst r;exact SX
 |cons hd xs ih=>
  obtain⟨k',_⟩:=hd
  intro kv r
  refine aN r fun w r' nr Ju rr=>?_
  clear r
  subst nr
  simp only[et]
  by_cases q:k'=k
  ·rw[if_pos q,if_pos q];exact C8 ra (ih rr)
  ·rw[if_neg q,if_neg q];exact C8 Ju (ih rr)
theorem da.snoc {k:Int}{a:AV}{v:ai}(ra:bO c h α a v):∀{kvs:List (Int×AV)}{kv:List (Int×ai)},da c h α kvs kv→da c h α (kvs++[(k,a)]) (kv++[(k,v)]):=by
 intro us
 induction us with
 |nil=>
  intro kv r
  subst r;exact C8 ra SX
 |cons hd xs ih=>
  obtain⟨k',_⟩:=hd
  intro kv r
  refine aN r fun w r' nF Ju rr=>?_
  clear r
  subst nF
  exact C8 Ju (ih rr)
theorem da.put {k:Int}{a:AV}{v:ai}{kvs:List (Int×AV)}{kv:List (Int×ai)}(ra:bO c h α a v) (r:da c h α kvs kv):da c h α (mu k a kvs) (stored kv k v):=by
 unfold mu stored
 rw[r.any]
 split
 ·exact r.map ra
 ·exact r.snoc ra
theorem bq.setAt {c:Cx}{h:cb}{α:Am}{a:AV}{v:ai}{xs:List AV}:∀{ws:List ai}{j:Nat},bq c h α xs ws→bO c h α a v→bq c h α (xs.set j a) (ws.set j v):=by
 induction xs with
 |nil=>intro ws j r _;cases r.nil;exact jD
 |cons x xs ih=>
  intro ws j r ra
  refine aN r.cons fun w r' mh h1 h2=>?_
  subst mh
  cases j with
  |zero=>exact eC ra h2
  |succ j=>exact eC h1 (ih h2 ra)
theorem WU.Ku {n:Nat}{vs:List AV}{k:Int}{a:AV}(e:H[n]?=some (.list vs)) (h0:0≤k) (hk:k<vs.length) (hz:vs.length≤1000000) (q:QU l (H.set n (.list (vs.set k.toNat a)))) :
  WU c d A env (fun xs=>setItem (xs[0]?.getD .none) (xs[1]?.getD .none) (xs[2]?.getD .none)) [.obj n,.int k,a] l H QU X:=fun α s xs I rs=>by
 refine cx rs.three fun x y v tM rx ry rv=>?_
 subst tM
 refine aL (I.h.look e rx) fun p e3 lh cr=>?_
 subst lh
 obtain⟨items,nn,ho,ri,e2⟩:=cr
 refine al ry.int fun t vL=>?_
 subst vL
 have kR:items.size=vs.length:=by rw[←ri.length];simp
 have hl:s.heap.IsList p.1 items:=⟨_,ho,rfl,nn,rfl⟩
 show bj _ _ (setItem (.ref p.1) (.int k t) v) _ _ _
 unfold setItem
 try with_reducible refine cu ?_
 first | refine ak (aQ ?_) | skip
 refine ak (Rn hl.typeIs (by decide) ?_)
 refine ak (qb (name:=fa "__setitem__") hl.typeIs Ro
  (qc Ro hl.typeIs entry_list_setitem ?_ (args_list_setitem _ _ _)))
 show bj _ _ (Builtin.List.listSubscript? (.int k t) >>= _) _ _ s
 have RP:k<2^63:=by exact aW [_] [_] [.t bJ aB,.L aB jg] (.t bJ DS) uc rfl hk hz
 refine ak (wpAny_listSubscript_int (fitsIndex_of h0 RP) ?_)
 clear RP
 refine al (cG h0) fun j se=>?_
 subst se
 have hj:j<items.size:=by exact aW [_,_,_] [] [.E aB aM,.t cf aM] (.T cf aB) qO rfl kR hk
 have QZ:items[j]?=some items[j]:=xu hj
 show bj _ _ ((seqItemAt p.1 j >>= fun r=>pure (r.map (j,·))) >>= _) _ _ s
 refine ak (ak (wpAny_seqItemAt ho rfl (aQ ?_)))
 rw[QZ]
 show bj _ _ (setSeqItemAt p.1 j v >>= _) _ _ s
 have hs:dy p.1 s.heap (s.heap.update p.1 (ez (·.setIfInBounds j v))):=j7 ..
 have hg:∃n',(s.heap.update p.1 (ez (·.setIfInBounds j v))).get? p.1=some ⟨.type "list",none,.seq (items.setIfInBounds j v) n',#[]⟩:=by
  exact⟨if (items.setIfInBounds j v).size==items.size then nn else nn+1,(dw _ ho rfl).trans rfl⟩
 refine al hg fun n' hg=>?_
 have m0:bM A iQ α s.heap α (s.heap.update p.1 (ez (·.setIfInBounds j v))):=kq (oI e3).1 hs ⟨_,hg⟩
 have cr:bq c (s.heap.update p.1 (ez (·.setIfInBounds j v))) α (vs.set j a) (items.setIfInBounds j v).toList:=by
  rw[Array.toList_setIfInBounds]
  exact bq.setAt (ri.mono m0 I.h (eM.no _)) (rv.mono m0 I.h (eM.no _))
 refine bG (I.upd (s':={ s with heap:=s.heap.update p.1 (ez (·.setIfInBounds j v)) }) (x:=.list (vs.set j a)) e3 (.inl rfl) hs ⟨_,hg⟩ ⟨_,_,hg,cr,e2⟩) fun m I'=>?_
 have fin:vf c d A env α s.heap QU () { s with heap:=s.heap.update p.1 (ez (·.setIfInBounds j v)) }:=⟨l,α,_,m,I',by simpa using q⟩
 refine ak (wpAny_setSeqItemAt ho rfl ?_)
 first
  |exact ak (aQ (aQ ⟨.none,rfl,aQ fin⟩))
  |exact aQ ⟨.none,rfl,aQ fin⟩
theorem WU.LK {n:Nat}{kvs:List (Int×AV)}{k:Int}{a:AV}(e:H[n]?=some (.dict kvs)) (hz:kvs.length≤1000000) (q:QU l (H.set n (.dict (mu k a kvs)))) :
  WU c d A env (fun xs=>setItem (xs[0]?.getD .none) (xs[1]?.getD .none) (xs[2]?.getD .none)) [.obj n,.int k,a] l H QU X:=fun α s xs I rs=>by
 refine cx rs.three fun x y v sL rx ry rv=>?_
 subst sL
 refine aL (I.h.look e rx) fun p e3 uD cr=>?_
 subst uD
 obtain⟨kv,hd,dr,e2,hm⟩:=cr
 refine al ry.int fun t Hl=>?_
 subst Hl
 refine wpAny_setItem_pairs (nN _ _ _ _) hd (fun h' qG hs=>?_) (by rw[dr.length,cw];exact b9 hz rfl)
 have ha:∃o,h'.get? p.1=some o:=RU qG
 have m0:bM A iQ α s.heap α h':=kq (oI e3).1 hs ha
 obtain⟨m,I'⟩:=I.upd (s':={ s with heap:=h',toks:=s.toks+1 }) (x:=.dict (mu k a kvs)) e3 (.inl rfl) hs ha
  ⟨_,qG,(da.put (rv.mono m0 I.h (eM.no _)) (dr.mono m0 I.h (eM.no _))),e2,hm⟩
 exact⟨l,α,_,m,I',q⟩
theorem WV.append {n:Nat}{vs:List AV}{a:AV}(e:H[n]?=some (.list vs)) (hz:vs.length≤1000000) (q:Q .none (H.set n (.list (vs++[a])))) :
  WV c d A env (fun xs=>PySem.call (.builtin "list.append") xs) [.obj n,a] l H Q X:=fun α s xs I rs=>by
 refine aN rs.two fun x v xF rx rv=>?_
 subst xF
 refine aL (I.h.look e rx) fun p e3 NX cr=>?_
 subst NX
 obtain⟨items,nn,ho,ri,e2⟩:=cr
 have kR:items.size=vs.length:=by rw[←ri.length];simp
 refine wpAny_list_append_plain ⟨nn,ho⟩ (fun h' hl hs=>?_) (by rw[kR,cw];exact b9 hz rfl)
 refine al hl fun n' hg=>?_
 clear hl
 have m0:bM A iQ α s.heap α h':=kq (oI e3).1 hs ⟨_,hg⟩
 obtain⟨m,I'⟩:=I.upd (s':={ s with heap:=h' }) (x:=.list (vs++[a])) e3 (.inl rfl) hs ⟨_,hg⟩
  ⟨_,n',hg,by rw[Array.toList_push];exact(ri.mono m0 I.h (eM.no _)).append (eC (rv.mono m0 I.h (eM.no _)) jD),e2⟩
 exact⟨.none,α,_,m,I',wY,q⟩
theorem WV.pop {n:Nat}{vs:List AV}{a:AV}(e:H[n]?=some (.list (vs++[a]))) (hz:vs.length≤1000000) (q:Q a (H.set n (.list vs))) :
  WV c d A env (fun xs=>PySem.call (.builtin "list.pop") xs) [.obj n] l H Q X:=fun α s xs I rs=>by
 refine aq rs.one fun x HT rx=>?_
 subst HT
 refine aL (I.h.look e rx) fun p e3 xV cr=>?_
 subst xV
 obtain⟨items,nn,ho,ri,e2⟩:=cr
 have kR:items.size=vs.length+1:=by
  have:=ri.length
  simp at this;exact this
 have M1:∃ws y,items.toList=ws++[y]∧bq c s.heap α vs ws∧bO c s.heap α a y:=by
  have:∀{vs:List AV}{zs:List ai},bq c s.heap α (vs++[a]) zs→∃ws y,zs=ws++[y]∧bq c s.heap α vs ws∧bO c s.heap α a y:=by
   intro vs
   induction vs with
   |nil=>intro zs r;refine aq (bq.one r) fun v ZQ r1=>?_;subst ZQ;exact⟨[],v,rfl,jD,r1⟩
   |cons b r ih=>
    intro zs rr
    refine aN (bq.cons rr) fun v r' WY h1 h2=>?_
    subst WY
    refine aN (ih h2) fun ws y OT h3 h4=>?_
    subst OT
    exact⟨v::ws,y,rfl,eC h1 h3,h4⟩
  exact this ri
 refine aN M1 fun ws y hw rws ry=>?_
 clear M1
 have Fh:items=(ws++[y]).toArray:=by rw[←hw]
 subst Fh
 have hy:(ws++[y]).toArray[(ws++[y]).toArray.size-1]?=some y:=by simp
 have U9:ez (fun xs=>xs.eraseIdxIfInBounds ((ws++[y]).toArray.size-1)) ⟨.type "list",none,.seq (ws++[y]).toArray nn,#[]⟩=⟨.type "list",none,.seq ws.toArray (nn+1),#[]⟩:=by
  have h1:(ws++[y]).toArray.eraseIdxIfInBounds ((ws++[y]).toArray.size-1)=ws.toArray:=by
   simp only[Array.eraseIdxIfInBounds,m8,ah,cL,jl,pz,Nat.add_sub_cancel,Nat.lt_add_one,dite_true,List.eraseIdx_toArray]
   rw[List.eraseIdx_append_of_length_le (aA _)]
   simp
  simp only[ez,h1]
  simp
 refine QN PySem.F.slot_list_pop ⟨_,ho,rfl⟩ PySem.F.entry_list_pop (PySem.F.args_list_pop_1 _) (PySem.MeetsSeq.list_pop_last p.1 (ws++[y]).toArray nn y hy (by rw[kR,cw];exact di (oH hz rfl))) ⟨ho,?_⟩
 have hs:dy p.1 s.heap (s.heap.update p.1 (ez fun xs=>xs.eraseIdxIfInBounds ((ws++[y]).toArray.size-1))):=j7 ..
 have hg:(s.heap.update p.1 (ez fun xs=>xs.eraseIdxIfInBounds ((ws++[y]).toArray.size-1))).get? p.1=some ⟨.type "list",none,.seq ws.toArray (nn+1),#[]⟩:=by
  rw[dw _ ho (by rw[U9];rfl),U9]
 have m0:bM A iQ α s.heap α (s.heap.update p.1 (ez fun xs=>xs.eraseIdxIfInBounds ((ws++[y]).toArray.size-1))):=kq (oI e3).1 hs ⟨_,hg⟩
 obtain⟨m,I'⟩:=I.upd (s':={ s with heap:=s.heap.update p.1 (ez fun xs=>xs.eraseIdxIfInBounds ((ws++[y]).toArray.size-1)) }) (x:=.list vs) e3 (.inl rfl) hs ⟨_,hg⟩
  ⟨_,_,hg,by simpa using rws.mono m0 I.h (eM.no _),e2⟩
 exact⟨a,α,_,m,I',ry.mono m0 I.h (eM.no _),q⟩
theorem IM {n:Nat}{vs:List AV}{name:bu}{id:String}{pl:rU Bool}(slot:Slot "list" name id) (XI:typeOf (.builtin id)=pure (.type "method_descriptor")) (e:H[n]?=some (.list vs)) :
  ∀α s x,Inv c d A env l α H s→bO c s.heap α (.obj n) x→∀P:ai×List ai→aH→Prop,∀E,P (.builtin id,[x]) s→bj c.M A (kh x name pl) P E s:=fun α s x I r P E q=>by
 refine aL (I.h.look e r) fun p e3 G9 cr=>?_
 subst G9
 obtain⟨items,nn,ho,ri,e2⟩:=cr
 exact Rp ⟨_,ho,rfl⟩ PySem.F.plainAttrs_list slot XI (fun a e=>by cases e;exact⟨_,ho,rfl⟩) q
structure yg (K:gg) (C:aD) (name:bu) (f:aD):Prop where
 get:L4 K C name=true
 cls:qQ K (.ref C) name=some (some (.ref f))
 fn:isFn K (.ref f)=true
 keep:QD K (.ref f)=true
theorem PV {n:Nat}{C f:aD}{fs:List (bu×AV)}{name:bu}{pl:rU Bool}(ok:yg c.K C name f) (e:H[n]?=some (.inst C fs)) (hn:fs.lookup name=none) :
  ∀α s x,Inv c d A env l α H s→bO c s.heap α (.obj n) x→∀P:ai×List ai→aH→Prop,∀E,P (.ref f,[x]) s→bj c.M A (kh x name pl) P E s:=fun α s x I r P E q=>by
 refine aL (I.h.look e r) fun p e3 PJ cr=>?_
 subst PJ
 refine eD cr.Bj fun es nn sl inst fr=>?_
 have fg:=eN.get (name:=name) fr
 rw[hn] at fg
 exact method_fn I.qn inst (Ma ok.get).1 (Ma ok.get).2 ok.cls (beq_iff_eq.mp ok.fn) (by show(lookIn name (dictOf es nn)).map _=_;rw[lookIn_dict,fg];rfl) q
theorem H7 {a:AV}{kvs:List (Int×AV)}{name:bu}{id:String}{pl:rU Bool}(slot:Slot "dict" name id) (XI:typeOf (.builtin id)=pure (.type "method_descriptor")) (D:DictAt c H a kvs) :
  ∀α s x,Inv c d A env l α H s→bO c s.heap α a x→∀P:ai×List ai→aH→Prop,∀E,P (.builtin id,[x]) s→bj c.M A (kh x name pl) P E s:=fun α s x I r P E q=>by
 refine b0 (D.look I.h r) fun b kv Ol hm hd dr=>?_
 subst Ol
 exact Rp hd.mapOf.typeIs PySem.F.plainAttrs_dict slot XI hd.mapOf.noDict q
theorem WV.RE {a:AV}{kvs:List (Int×AV)}{k:Int}(D:DictAt c H a kvs) (q:Q ((kvs.lookup k).getD .none) H):WV c d A env (fun xs=>PySem.call (.builtin "dict.get") xs) [a,.int k] l H Q X:=fun α s xs I rs=>by
 refine aN rs.two fun x y Qn rx ry=>?_
 subst Qn
 refine b0 (D.look I.h rx) fun b kv NQ hm hd dr=>?_
 subst NQ
 refine al ry.int fun t OI=>?_
 subst OI
 refine Jj Rq hd.mapOf.typeIs QO (F.args_dict_get_2 _ _) (meets_dict_get (ia c.prog c.w) b (nN _ _ _ _) hm) ⟨_,hd.mapOf,?_⟩
 have dv:=da.val (k:=k) dr
 cases e:kvs.lookup k with
 |none=>rw[e] at dv q;rw[dv];exact I.done wY q
 |some z=>rw[e] at dv q;refine aq dv fun y hy Wy=>?_;clear dv;rw[hy];exact I.done Wy q
theorem WV.TG {a dv:AV}{kvs:List (Int×AV)}{k:Int}(D:DictAt c H a kvs) (q:Q ((kvs.lookup k).getD dv) H):WV c d A env (fun xs=>PySem.call (.builtin "dict.get") xs) [a,.int k,dv] l H Q X:=fun α s xs I rs=>by
 refine cx rs.three fun x y z Pb rx ry rz=>?_
 subst Pb
 refine b0 (D.look I.h rx) fun b kv NL hm hd dr=>?_
 subst NL
 refine al ry.int fun t OW=>?_
 subst OW
 refine Jj Rq hd.mapOf.typeIs QO (F.args_dict_get_3 _ _ _) (meets_dict_get_default (ia c.prog c.w) b (nN _ _ _ _) hm z) ⟨_,hd.mapOf,?_⟩
 have T2:=da.val (k:=k) dr
 cases e:kvs.lookup k with
 |none=>rw[e] at T2 q;rw[T2];exact I.done rz q
 |some z=>rw[e] at T2 q;refine aq T2 fun y hy Wy=>?_;clear T2;rw[hy];exact I.done Wy q
theorem WV.ZF {n:Nat}{vs:List AV}(e:H[n]?=some (.list vs)) (hz:vs.length≤1000000) (q:Q (.int vs.length) H):WV c d A env (fun xs=>PySem.call (.builtin "len") xs) [.obj n] l H Q X:=fun α s xs I rs=>by
 refine aq rs.one fun x Qk rx=>?_
 subst Qk
 refine aL (I.h.look e rx) fun p e3 Pp cr=>?_
 subst Pp
 refine aq cr.isList fun items hl ri=>?_
 have kR:items.size=vs.length:=by rw[←ri.length];simp
 exact call_len_list hl (by rw[kR];exact vm hz rfl) (I.done (by rw[kR];exact iy) q)
theorem WV.WR {a:AV}{kvs:List (Int×AV)}(D:DictAt c H a kvs) (hz:kvs.length≤1000000) (q:Q (.int kvs.length) H):WV c d A env (fun xs=>PySem.call (.builtin "len") xs) [a] l H Q X:=fun α s xs I rs=>by
 refine aq rs.one fun x aae rx=>?_
 subst aae
 refine b0 (D.look I.h rx) fun b kv Yq hm hd dr=>?_
 subst Yq
 exact call_len_dict hm hd (by rw[dr.length];exact vm hz rfl) (I.done (by rw[dr.length];exact iy) q)
theorem WV.YG {b:List UInt8}(hz:b.length≤1000000) (q:Q (.int b.length) H):WV c d A env (fun xs=>PySem.call (.builtin "len") xs) [.d8 b] l H Q X:=fun α s xs I rs=>by
 refine aq rs.one fun x Xg rx=>?_
 subst Xg
 refine al rx.d8 fun t XN=>?_
 subst XN
 exact len_bytes (by simp;exact b9 hz rfl) (I.done (by simpa using iy) q)
theorem WV.W0 {vs:List AV}(hz:vs.length≤1000000) (q:Q (.int vs.length) H):WV c d A env (fun xs=>PySem.call (.builtin "len") xs) [.tup vs] l H Q X:=fun α s xs I rs=>by
 refine aq rs.one fun x YL rx=>?_
 subst YL
 refine aN rx.tup fun a items Xp ht ri=>?_
 subst Xp
 have kR:items.size=vs.length:=by rw[←ri.length];simp
 exact len_tuple ht (by rw[kR];exact vm hz rfl) (I.done (by rw[kR];exact iy) q)
theorem WX.JS {o e:Expr}{name:bu}{p:ij}(w:WE c d A env e l H (fun a H1=>WE c d A env o l H1 (fun b H2=>WU c d A env (fun vs=>setAttr (vs[0]?.getD .none) name (vs[1]?.getD .none)) [b,a] l H2 (fun l' H'=>SQ .next l' H') X) X) X)
  (hs:lD e (some (.Attribute o name p)) pos.line env=pure false):WX c d A env (.Assign [.Attribute o name p] e pos) l H SQ X:=fun α s I=>by
 refine xv (au (w α s I) (fun v bf eT=>?_) fun _ _ e=>e) hs
 obtain⟨a,aP,H₁,bZ,bl,fF,i9⟩:=eT
 refine au (i9 aP bf bl) (fun oE cX eT=>?_) fun _ _ e=>e.weak bZ
 obtain⟨b,bE,e8,cV,cA,jA,nJ⟩:=eT
 have m:=bZ.trans cV
 exact au (nJ bE cX [oE,v] cA (eC jA (eC (fF.mono cV bl.h bl.solid) jD))) (by rintro u' hG ⟨sj,fh,kZ,gW,fP,q⟩;exact⟨.next,sj,fh,kZ,m.trans gW,fP,rfl,q⟩) fun _ _ e=>e.weak m
theorem WX.OE {o i e:Expr}{p:ij}(w:WE c d A env e l H (fun a H1=>WE c d A env o l H1 (fun b H2=>WE c d A env i l H2 (fun k H3=>
   WU c d A env (fun xs=>setItem (xs[0]?.getD .none) (xs[1]?.getD .none) (xs[2]?.getD .none)) [b,k,a] l H3 (fun l' H'=>SQ .next l' H') X) X) X) X)
  (hs:lD e (some (.Subscript o i p)) pos.line env=pure false):WX c d A env (.Assign [.Subscript o i p] e pos) l H SQ X:=fun α s I=>by
 refine wpAny_Assign_Subscript (au (w α s I) (fun v bf eT=>?_) fun _ _ e=>e) hs
 obtain⟨a,aP,H₁,bZ,bl,fF,i9⟩:=eT
 refine au (i9 aP bf bl) (fun oE cX eT=>?_) fun _ _ e=>e.weak bZ
 obtain⟨b,bE,e8,cV,cA,jA,nJ⟩:=eT
 refine au (nJ bE cX cA) (fun Xy hG eT=>?_) fun _ _ e=>e.weak (bZ.trans cV)
 obtain⟨k,fh,kZ,gW,fP,FH,Pj⟩:=eT
 have m:=(bZ.trans cV).trans gW
 exact au (Pj fh hG [oE,Xy,v] fP (eC (jA.mono gW cA.h cA.solid) (eC FH (eC ((fF.mono cV bl.h bl.solid).mono gW cA.h cA.solid) jD))))
  (by rintro u' n5 ⟨OX,rM,Gs,ku,jU,q⟩;exact⟨.next,OX,rM,Gs,m.trans ku,jU,rfl,q⟩) fun _ _ e=>e.weak m
theorem WX.expr {e:Expr}(w:WE c d A env e l H (fun a H'=>a=.none∧SQ .next l H') X) (hi:Mc env=false) (hs:lD e none pos.line env=pure false):WX c d A env (.Expr e pos) l H SQ X:=fun α s I=>by
 refine wpAny_Expr (au (w α s I) (fun v bf p=>?_) fun _ _ e=>e) hi hs
 obtain⟨a,aP,H₁,bZ,bl,fF,rfl,q⟩:=p
 cases fF.none
 exact⟨.next,l,aP,H₁,bZ,bl,rfl,q⟩
end
end
section
open PySem PySem.W PySem.Calls PyProof.Rows
section
variable {c:Cx}{d:Nat}{A:aU}{env:dH}{l l':Loc}{α bD:Am}{h h':cb}{H H':List ag}{s s':aH}
variable {Q:AV→List ag→Prop}{QB:Bool→List ag→Prop}{X:List ag→Prop}{pos:ij}{own:aD→Prop}{QU:Loc→List ag→Prop}{SQ:AF→Loc→List ag→Prop}
theorem dP.grow {g:Sd}(K:dP c A g h α) (hk:∀b o,h.get? b=some o→h'.get? b=some o) (ha:∀b,iW bD b→iW α b∨h.get? b=Option.none):dP c A g h' bD:=by
 refine aL K.fr fun l e F n=>?_
 refine⟨⟨l,e,F.of_keeps fun b o e _=>⟨o,hk _ _ e,rfl⟩,fun en he b hb q=>?_⟩,K.lq⟩
 rcases ha b q with q | q
 ·exact n en he b hb q
 ·refine bG (FunFrames.none F en he b hb) fun _ gD=>?_
  refine aq gD fun o ho _=>?_
  rw[ho] at q;exact nS (fZ q)
structure Bz (K:gg) (C fI:aD):Prop where
 makes:makesIn K C=true
 init:qQ K (.ref C) "__init__"=some (some (.ref fI))
 fn:typeIn K (.ref fI)=some (.type "function")
theorem WC.make {C fI:aD}{as:List AV}(ok:Bz c.K C fI)
  (w:WC c d (.ref fI) (.obj H.length::as) (H++[.inst C []]) (fun a H'=>a=.none∧Q (.obj H.length) H') X):WC c (d+1) (.ref C) as H Q X:=fun A α s vs I r=>by
 have qn:=I.ok.X.keeps I.h.base
 obtain⟨hh,g,dr,t,os⟩:=s
 refine make_core (makes_of qn ok.makes) (Jk qn ok.init) (fun self=>bind_fn qn self ok.fn) (.inl rfl) ?_
 have hk:∀b o,hh.get? b=some o→((hh.push nh).push (tB C hh.objs.size)).get? b=some o:=fun b o e=>aT _ (aT _ e)
 have n2:hh.get? hh.objs.size=none:=bR
 have n1:hh.get? (hh.objs.size+1)=none:=gk (bX _)
 have hx:((hh.push nh).push (tB C hh.objs.size)).get? (hh.objs.size+1)=some (tB C hh.objs.size):=by heap_get
 have hd:((hh.push nh).push (tB C hh.objs.size)).get? hh.objs.size=some nh:=by heap_get
 have O:=I.h
 refine bG (gw.alloc (A:=A) (p:=(hh.objs.size+1,hh.objs.size)) (x:=.inst C []) O hk n1 n2 ⟨[],0,_,hx,hd,rfl⟩) fun m O'=>?_
 have K':dP c A (g,os) ((hh.push nh).push (tB C hh.objs.size)) (α++[(hh.objs.size+1,hh.objs.size)]):=I.k.grow hk fun b a=>m.fresh a
 have ro:bO c ((hh.push nh).push (tB C hh.objs.size)) (α++[(hh.objs.size+1,hh.objs.size)]) (.obj H.length) (.ref (hh.objs.size+1)):=by
  have:(α++[(hh.objs.size+1,hh.objs.size)])[H.length]?=some (hh.objs.size+1,hh.objs.size):=by rw[←O.len];simp
  exact yi this
 have R':uB d (A.under (.builtin "type.__call__" ⟨.ref C::vs,[]⟩)):=by
  refine⟨?_,?_,I.r.hd⟩
  ·have:=I.r.depth;show A.depth+1+4*d<kG;exact aW [_,_] [] [.T (.a aB (.m 4 (.a aM bP))) (.l 1000)] (.T (.a (.a aB bP) (.m 4 aM)) (.l 1000)) cI rfl this
  ·have:=I.r.units;show A.units+1+40*d<L7;exact aW [_,_] [] [.T (.a aB (.m 40 (.a aM bP))) (.l 9900)] (.T (.a (.a aB bP) (.m 40 aM)) (.l 9900)) cI rfl this
 refine qU (w (A.under (.builtin "type.__call__" ⟨.ref C::vs,[]⟩)) _ _ _ ⟨I.ok,R',O',⟨K'.fr,K'.lq⟩⟩ (eC ro (r.carry m.pre fun t=>m.tup O (eM.no _) t))) fun Js bf p=>?_
 rcases Js with x | (v | _ | _ | _)<;>first | exact p.elim | skip
 ·obtain⟨e,aP,H₁,rfl,z,bZ,Qe,Hb,q⟩:=p
  have Aj:bM A iQ (α++[(hh.objs.size+1,hh.objs.size)]) ((hh.push nh).push (tB C hh.objs.size)) aP bf.heap:=⟨bZ.pre,bZ.fresh,bZ.alive,bZ.keep,bZ.slot⟩
  refine⟨e,aP,H₁,rfl,?_,m.trans Aj,Qe,⟨Hb.fr,Hb.lq⟩,q⟩
  exact iV.Hu m z
 ·obtain⟨a,aP,H₁,bZ,Qe,Hb,rv,rfl,q⟩:=p
  have Aj:bM A iQ (α++[(hh.objs.size+1,hh.objs.size)]) ((hh.push nh).push (tB C hh.objs.size)) aP bf.heap:=⟨bZ.pre,bZ.fresh,bZ.alive,bZ.keep,bZ.slot⟩
  exact⟨rv.none,⟨_,aP,H₁,m.trans Aj,Qe,⟨Hb.fr,Hb.lq⟩,ro.carry Aj.pre (fun t=>Aj.tup O' (eM.no _) t),q⟩⟩
where
 iV.Hu {c:Cx}{A:aU}{own:aD→Prop}{α bD bE:Am}{h h' eX:cb}{e:aD}{fl:Option ai}(m:bM A own α h bD h') (z:iV c h' eX bE e fl):iV c h eX bE e fl:=by
  have gone:∀{b},h'.get? b=.none→h.get? b=.none:=fun{b} e=>by
   cases q:h.get? b with
   |none=>rfl
   |some o=>refine al (m.alive q) fun o' e'=>?_;rw[e] at e';exact nS e'
  obtain⟨z1,z2,z3,oe,vs,a0,z4,z5,z6,z7,z8⟩:=z
  refine⟨z1,z2,gone z3,oe,vs,a0,z4,z5,z6,z7,?_⟩
  cases fl with
  |none=>exact z8
  |some f=>
   obtain⟨T,oT,ts,y1,y2,y3,y4,y5,y6,y7,y8⟩:=z8
   exact⟨T,oT,ts,y1,y2,y3,y4,y5,y6,y7,gone y8⟩
end
end
section
open PySem PySem.W PySem.Calls PyProof.Rows
section
variable {M:Ft}{A:aU}{E:ai→aH→Prop}{h:cb}{g:Array p8}{d:Ch}{t:Nat}{os:mY}
variable {nm q:bu}{C N:aD}{bs bm:List ai}{hdct:Bool}{sn:List bu}{sub:List ai}{ab:Bool}{col:Option Bool}{dd:Option aD}{k0 k1 k2 k3 k5:Option ai}{newId:String}
theorem Hy {Bn newId X2:String}{Zi:List ai}(Fn:ExcBaseFacts Bn newId X2 Zi) (Se:(ai.ref C::bm).contains (.type Bn)=true){rest:List ai}{Q:Unit→aH→Prop}(hC:h.get? C=some (sS nm q C N bs bm hdct sn sub ab col dd k0 k1 k2 k3 k5 newId))
  (hq:Q () ⟨h,g,d,t,os⟩):bj M A (checkBuiltinCall newId ⟨.ref C::rest,[]⟩) Q E ⟨h,g,d,t,os⟩:=by
 have MG:=Fn.noStar
 simp only[checkBuiltinCall,Fn.newKind,Fn.newSplit,Fn.newRow]
 repeat (first | refine gz hC ?_ | (refine mD hC ?_;rw[Se]) | refine wpAny_staticBase_exc hC ?_ | refine wpAny_madeBy_exc hC ?_ | simp only[bne_self_eq_false,Fu,if_false] | wp_step)
 exact hq
theorem Oe {prog:mX}{w:iN}{R:sP→aH→Prop}{Bn newId X2:String}{Zi:List ai}(Fn:ExcBaseFacts Bn newId X2 Zi) (Lf:(ai.ref C::bm).contains (.type Bn)=true)
  (Q6:(ai.ref C::bm).contains (.type "AttributeError")=false) (Rb:(ai.ref C::bm).contains (.type "NameError")=false){rest:List ai}
  (hC:h.get? C=some (sS nm q C N bs bm hdct sn sub ab col dd k0 k1 k2 k3 k5 newId))
  (hq:R (.ok (.ret (.ref (h.objs.size+1)))) ⟨(h.push { cls:=.type "tuple",data:=.seq rest.toArray }).push
   { cls:=.ref C,data:=.fields #[.ref h.objs.size,.none,.none,.none,.bool false,.none] },g,d,t,os⟩) (xd:rest.length≤nO) :
  ic (kg prog w) A (.builtin newId ⟨.ref C::rest,[]⟩) R ⟨h,g,d,t,os⟩:=by
 have C1:=Fn.ends
 refine codeAny_builtinAt Fn.entry ?_
 unfold Builtin.«BaseException.__new__»
 refine PySem.wpAt_bind ?_
 show PySem.wpAt _ _ _ (stack >>= _) _ _ _
 refine PySem.wpAt_bind (PySem.wpAt_stack fun p aah=>PySem.wpAt_of_wpAny ?_)
 wp_walk
 refine PySem.wpAt_of_wpAny ?_
 rw[Fn.owner]
 repeat (first | with_reducible refine wpAny_madeHere_exc Fn.canon hC ?_ | with_reducible refine gz hC ?_ | (with_reducible refine mD hC ?_;first | rw[Lf] | rw[Q6] | rw[Rb]) | wp_step)
 show R _ _
 rw[gK]
 exact hq
theorem Gk {env:dH}{s:aH}{x:rU ai}{Q:AD→aH→Prop}(Lf:(ai.ref C::bm).contains (.type "BaseException")=true) (hh:A.handled=none)
  (h:bj M A x (fun v bf=>∃e t0 d0,v=.ref e∧bf.heap.get? C=some (sS nm q C N bs bm hdct sn sub ab col dd k0 k1 k2 k3 k5 newId) ∧
   bf.heap.get? e=some { cls:=.ref C,dict:=d0,data:=.fields #[.ref t0,.none,.none,.none,.bool false,.none] }∧E (.ref e) bf) E s) :
  bj M A (raiseStmt env (some x) none) Q E s:=by
 unfold raiseStmt
 refine ak (au h (fun v bf gp=>?_) fun _ _ x=>x)
 refine cx gp fun e t0 d0 gD hC he hE=>?_
 clear gp
 subst gD
 obtain⟨hp,g,d,tk,os⟩:=bf
 repeat (first | with_reducible refine gz he ?_ | with_reducible refine gz hC ?_ | (with_reducible refine mD hC ?_;rw[Lf]) | wp_step)
 exact wpAny_raiseNew_none hh hE
end
end
section
open PySem PySem.W PySem.Calls PyProof.Rows
theorem Ic {v:ai}{a:aD}(h:refOf v=some a):v=.ref a:=by cases v<;>cases h;rfl
theorem nI.ind {P:List ai→Prop}(h1:∀c r,P r→P (.ref c::r)) (h2:P IC):∀{l:List ai},nI l=true→P l:=fun{l}=>by
 induction l with
 |nil=>exact fun h=>nomatch h
 |cons v r ih=>
  intro h
  replace h:(bif (refOf v).isSome then nI r else v::r==IC)=true:=h
  cases e:refOf v with
  |none=>rw[e] at h;exact eq_of_beq h▸h2
  |some c=>rw[e] at h;exact Ic e▸h1 c r (ih h)
theorem Eg (self:ai){l:List ai}:nI l=true→refuseLoop self "__setattr__" l=pure ():=
 nI.ind (P:=fun l=>refuseLoop self "__setattr__" l=pure ()) (fun c r h=>by rw[refuseLoop_ref];exact h) (PySem.F.store_ValueError.passes self)
theorem Oo {l:List ai}:nI l=true→l.contains (.type "object")=true:=
 nI.ind (P:=fun l=>l.contains (.type "object")=true) (fun c r h=>by rw[List.contains_cons,h,Bool.or_true]) (by decide +kernel)
open Builtin.ObjectAttr in
theorem EF {prog:mX}{w:iN}{A:aU}{K:gg}{C x:aD}{s:aH}{R:sP→aH→Prop}{ox:ou}{od:Option ou}{name:bu}{tk:Tok}{v:ai}{r:Option ai}(X:K.In s.heap) (I:InstAt s.heap x ox C od) (hp:Bg K C=true) (ht:Rg K C name=some r)
  (h:∀b,bj (kg prog w) A.in1 (match r with | some a=>setByDescriptor a (.ref x) v | none=>storeInOwnDict (.ref x) (.ref C) (.str name tk) name v b)
   (fun fin s'=>match fin with | .done f=>R (.ok f) s' | .again c'=>c'.quiet=true∧ic (kg prog w) A c' R s') (fun e s'=>R (.error e) s') s) :
  ic (kg prog w) A (.call (.builtin "object.__setattr__") ⟨[.ref x,.str name tk,v],[]⟩) R s:=by
 have SF:=PySem.F.store_object
 refine aq (any_some hp) fun cd hc ho=>?_
 have ne:cd.mro.isEmpty=false:=by cases q:cd.mro with | nil=>rw[q] at ho;cases ho | cons _ _=>rfl
 have sub:Looks (kg prog w) s.heap (isInstance (.ref x) (.type "object")) true:=I.type.andThen (looks_mroIn X (by unfold mroIn;rw[hc,Fv,if_neg (by rw[ne];decide),Oo ho]))
 refine codeAny_call_builtin SF.slot.plain SF.entry (@check_slot (kg prog w) _ _ s "object.__setattr__" "object" "__setattr__" (.ref x) [.str name tk,v] [] _ SF.kind SF.split sub (SF.args (.ref x) (.str name tk) v) ?_)
 refine aq (Option.bind_eq_some_iff.mp ht) fun attr ha hr=>?_
 have hm:Looks (kg prog w) s.heap (mroOf (.ref C)) cd.mro:=(Mb X hc).andThen .now
 have L3:Looks (kg prog w) s.heap (storeTaker? attr) r:=by
  cases attr with
  |none=>replace hr:=ae hr;subst hr;exact .now
  |some a=>
   refine aq (bB.mp hr) fun b hb gD=>?_
   subst gD
   refine(looks_takesIn X hb).andThen ?_
   cases b<;>exact .now
 rw[osa_eq,refuse_eq]
 refine ak (ak (I.type.here (ak (hm.here ?_))))
 rw[Eg _ ho]
 refine aQ (ak (I.type.here (ak ((Jk X ha).here (ak (L3.here ?_))))))
 exact h _
structure P7 (K:gg) (C:aD) (name:bu):Prop where
 set:qQ K (.ref C) "__setattr__"=some (some (.builtin "object.__setattr__"))
 over:Bg K C=true
 Hs:Rg K C name=some none
 dict:(clsIn K C).any (·.hasDict)=true
structure lW (K:gg) (bd fI:aD) (fd:eJ):Prop where
 cls:∃nm q N bs bm hdct sn sub ab col dd k0 k1 k2 k3 k5,K.lookup bd=some (sS nm q bd N bs bm hdct sn sub ab col dd k0 k1 k2 k3 k5 "ValueError.__new__") ∧
  (ai.ref bd::bm).contains (.type "ValueError")=true∧(ai.ref bd::bm).contains (.type "AttributeError")=false∧(ai.ref bd::bm).contains (.type "NameError")=false ∧
  (ai.ref bd::bm).contains (.type "BaseException")=true∧bm.contains (.type "BaseException")=true
 init:qQ K (.ref bd) "__init__"=some (some (.ref fI))
 fn:typeIn K (.ref fI)=some (.type "function")
 set:P7 K bd "reason"
 body:∃p1 p2 p3 p4,qf K fI fd [.Assign [.Attribute (.Name "self" p1) "reason" p2] (.Name "reason" p3) p4] ["self","reason"]
 loc:fd.scope.names=[(("self":bu),bc.local),(("reason":bu),bc.local)]
 bind:∀(x y:ai) (s:aH),K.In s.heap→wM s fd ⟨[x,y],[]⟩ [(("self":bu),x),(("reason":bu),y)]
section
variable {c:Cx}{d:Nat}{A:aU}{env:dH}{l l':Loc}{α bD:Am}{h h':cb}{H H':List ag}{s s':aH}
variable {Q:AV→List ag→Prop}{QB:Bool→List ag→Prop}{X:List ag→Prop}{pos:ij}{own:aD→Prop}{QU:Loc→List ag→Prop}{SQ:AF→Loc→List ag→Prop}
theorem HY {fI:aD}{fd:eJ}(ok:lW c.K c.bd fI fd) (qn:c.K.In h) (BE:h.NoLimit){e t0:aD}{m:bu}{tm:Tok}{R:sP→aH→Prop}{g:Array p8}{dr:Ch}{t:Nat}{os:mY}
  (he:h.get? e=some { cls:=.ref c.bd,data:=.fields #[.ref t0,.none,.none,.none,.bool false,.none] }) (hA:A.depth<kG)
  (hq:∀h' t',(∀b o,b≠e→h.get? b=some o→h'.get? b=some o)→(∃d0,h'.get? e=some { cls:=.ref c.bd,dict:=some d0,data:=.fields #[.ref t0,.none,.none,.none,.bool false,.none] }) →
   R (.ok (.ret .none)) ⟨h',g,dr,t',os⟩) :
  ic c.M A (.call (.ref fI) ⟨[.ref e,.str m tm],[]⟩) R ⟨h,g,dr,t,os⟩:=by
 refine fX ok.body fun p1 p2 ix=>?_
 refine fX ix fun p3 p4 D=>?_
 refine fX D.at_ fun oc od jS=>?_
 refine al jS fun sl Nc=>?_
 have S:=ok.set
 refine JF hA (qn _ _ Nc) rfl D.co D.gen D.body (codeRec_of qn D.code) (ok.bind _ _ ⟨h,g,dr,t,os⟩ qn _ _ _ _ ?_)
 rw[D.clo]
 have S6:∀x∈[(("self":bu),ai.ref e),("reason",.str m tm)],fd.scope.names.lookup x.1=some .local∨(fd.scope.names.lookup x.1=some .cell∧((qa (h.objs.size+1) fd.scope.names []).lookup x.1).isSome=true):=by
  rw[ok.loc]
  intro x hx
  simp only[br,bY,or_false] at hx
  rcases hx with rfl | rfl
  ·exact .inl (by dsimp only;decide +kernel)
  ·exact .inl (by dsimp only;decide +kernel)
 refine Ck (s:=⟨h,g,dr,t,os⟩) D.kind S6 fun env he' bf x=>⟨BE.keeps x.toInCall.keep,codeAny_func ?_⟩
 have keep:=x.toInCall.keep
 have xk:env.scope=fd.scope:=by rw[he'];rfl
 have V3:env.scope.kind=.function:=xk▸D.kind
 refine fX x.toInCall.same fun h1 cI Fb=>?_
 have ns:=x.toInCall.ns
 subst Fb
 dsimp only at keep ns ⊢
 have RI:=keep _ _ he
 have Qc:=qn.keeps keep
 have nk:∀y,env.kindOf y=fd.scope.names.lookup y:=fun y=>by rw[he'];rfl
 have Qb:env.scope.names.lookup ("self":bu)=some bc.local:=by rw[xk,ok.loc];decide +kernel
 have lk2:env.scope.names.lookup ("reason":bu)=some bc.local:=by rw[xk,ok.loc];decide +kernel
 have nd:([(("self":bu),ai.ref e),("reason",.str m tm)].map (·.1)).Nodup:=by simp only[et,Rr];decide +kernel
 have v1:Rl env.kindOf [(("self":bu),ai.ref e),("reason",.str m tm)] (fun _=>none) "self"=some (.ref e):=so (by rw[nk,←xk];exact Qb) nd (by simp)
 have v2:Rl env.kindOf [(("self":bu),ai.ref e),("reason",.str m tm)] (fun _=>none) "reason"=some (.str m tm):=so (by rw[nk,←xk];exact lk2) nd (by simp)
 have inst:InstAt h1 e { cls:=.ref c.bd,data:=.fields #[.ref t0,.none,.none,.none,.bool false,.none] } c.bd none:=⟨RI,rfl,rfl,trivial⟩
 refine qd (xv (Ci (sO V3 lk2 ns v2 ?_) (by decide +kernel)) rfl)
 refine Ci (sO V3 Qb ns v1 ?_) (by decide +kernel)
 refine set_plain Qc inst S.set ?_
 refine EF Qc inst S.over S.Hs fun b=>?_
 refine aq (any_some S.dict) fun cd hc qG=>?_
 refine ak (aQ (ak (ak (sR RI (ak (Looks.here (s:=⟨h1,g,dr,cI+1,os⟩) (Mb Qc hc) ?_))))))
 rw[qG]
 let d0:=h1.objs.size
 have v9:d0≠e:=fun q=>by
  have:=bU RI
  exact absurd this (by rw[←q];exact gq _)
 refine ak (wpAny_alloc (ak (wpAny_update (aT _ RI) (aQ ?_))))
 have eA:((h1.push { cls:=.type "dict",data:=.dict #[] }).update e fun o=>{ o with dict:=some d0 }).get? e=some { cls:=.ref c.bd,dict:=some d0,data:=.fields #[.ref t0,.none,.none,.none,.bool false,.none] }:=
  dw _ (aT _ RI) rfl
 have dA:((h1.push { cls:=.type "dict",data:=.dict #[] }).update e fun o=>{ o with dict:=some d0 }).get? d0=some (dictOf [] 0):=by
  rw[cO _ _ (gS v9)]
  exact aX _ rfl
 generalize hh2:(h1.push { cls:=.type "dict",data:=.dict #[] }).update e (fun o=>{ o with dict:=some d0 })=h2 at eA dA ⊢
 dsimp only
 unfold JG JH
 refine ak (aQ (ak ?_))
 unfold nsSet
 refine ak (ak (wpAny_askSetting (aQ (ak (wpAny_mkText (ak (sR dA ?_)))))))
 dsimp only
 rw[Jg,if_neg (by simp)]
 have RK:jK ("reason":bu) (cY c.w.params "reason") (.str "reason" (cI+1)) (.str m tm) (dictOf [] 0)=dictOf (QJ "reason" (cY c.w.params "reason") (.str "reason" (cI+1)) (.str m tm) []) (putN "reason" [] 0):=putName_dict ..
 have dB:(h2.update d0 (jK ("reason":bu) (cY c.w.params "reason") (.str "reason" (cI+1)) (.str m tm))).get? d0=some (dictOf (QJ "reason" (cY c.w.params "reason") (.str "reason" (cI+1)) (.str m tm) []) (putN "reason" [] 0)):=by
  rw[dw _ dA (by rw[RK];rfl),RK]
 have eB:(h2.update d0 (jK ("reason":bu) (cY c.w.params "reason") (.str "reason" (cI+1)) (.str m tm))).get? e=some { cls:=.ref c.bd,dict:=some d0,data:=.fields #[.ref t0,.none,.none,.none,.bool false,.none] }:=by
  rw[cO _ _ v9];exact eA
 refine wpAny_updatePart dA ?_
 refine ak (wpAny_lookBehind dB (pastItsLine_dict (by rw[cw];unfold QJ;simp)) ?_)
 refine aQ ?_
 dsimp only
 refine jR ?_
 refine hq _ _ (fun b o hb hbo=>?_) ⟨d0,eB⟩
 have hb1:=keep _ _ hbo
 have Jp:d0≠b:=fun q=>by
  have:=bU hb1
  exact absurd this (by rw[←q];exact gq _)
 rw[cO _ _ Jp,←hh2,cO _ _ (gS hb)]
 exact aT _ hb1
theorem D9 {fI:aD}{fd:eJ}(ok:lW c.K c.bd fI fd) (qn:c.K.In h){rest:List ai}{Q:Fin→aH→Prop}{E:ai→aH→Prop}{g:Array p8}{dr:Ch}{t:Nat}{os:mY}(xd:rest.length≤nO)
  (hq:∀h' e t0,(∀b o,h.get? b=some o→h'.get? b=some o)→h.get? e=none→h'.get? e=some { cls:=.ref c.bd,data:=.fields #[.ref t0,.none,.none,.none,.bool false,.none] } →
   bj c.M A (PySem.call (.ref fI) (.ref e::rest)) (fun r s'=>r=.none∧Q (.done (.ret (.ref e))) s') E ⟨h',g,dr,t,os⟩):bj c.M A (Builtin.«type.__call__» ⟨.ref c.bd::rest,[]⟩) Q E ⟨h,g,dr,t,os⟩:=by
 refine g7 ok.cls fun nm q N bs bm hdct sn sub ab col dd k0 k1 k2 jW=>?_
 obtain⟨k3,k5,xp,Lf,Q6,Rb,Vn,V7⟩:=jW
 have hC:=qn _ _ xp
 repeat (first | with_reducible refine gz hC ?_ | with_reducible refine wpAny_madeBy_exc hC ?_ | wp_step)
 have F:=PySem.F.excBase_ValueError
 refine codeAny_call_builtin_code (Fw _ F.quiet) (Hy F Lf hC ?_)
 refine Oe F Lf Q6 Rb hC ?_ xd
 show bj _ _ _ _ _ _
 have hk:∀b o,h.get? b=some o→((h.push { cls:=.type "tuple",data:=.seq rest.toArray }).push { cls:=.ref c.bd,data:=.fields #[.ref h.objs.size,.none,.none,.none,.bool false,.none] }).get? b=some o:=
  fun b o e=>aT _ (aT _ e)
 have TM:=hk _ _ hC
 have Hj:((h.push { cls:=.type "tuple",data:=.seq rest.toArray }).push
   { cls:=.ref c.bd,data:=.fields #[.ref h.objs.size,.none,.none,.none,.bool false,.none] }).get? (h.objs.size+1)=some
   { cls:=.ref c.bd,data:=.fields #[.ref h.objs.size,.none,.none,.none,.bool false,.none] }:=by heap_get
 have hcC:(ai.ref c.bd::bm).contains (.ref c.bd)=true:=by simp
 have Gg:=qn.keeps hk
 unfold isInstance
 repeat (first | with_reducible refine gz Hj ?_ | (with_reducible refine mD TM ?_;rw[hcC]) | wp_step)
 show bj _ _ (QL (.ref c.bd) _) _ _ _
 refine(Jk Gg ok.init).here ?_
 refine cu (ak ?_)
 refine(bind_fn Gg (.ref (h.objs.size+1)) ok.fn).here ?_
 refine(ak (au (hq _ (h.objs.size+1) h.objs.size hk (gk (bX _)) Hj) (fun r s' hr=>?_) fun _ _ x=>x))
 obtain⟨rfl,hQ⟩:=hr
 wp_walk
 exact hQ
theorem Hp {fI:aD}{fd:eJ}(ok:lW c.K c.bd fI fd) (qn:c.K.In h){rest:List ai}{Q:ai→aH→Prop}{E:ai→aH→Prop}{g:Array p8}{dr:Ch}{t:Nat}{os:mY}(xd:rest.length≤nO)
  (hq:∀h' e t0,(∀b o,h.get? b=some o→h'.get? b=some o)→h.get? e=none→h'.get? e=some { cls:=.ref c.bd,data:=.fields #[.ref t0,.none,.none,.none,.bool false,.none] } →
   bj c.M (A.under (.builtin "type.__call__" ⟨.ref c.bd::rest,[]⟩)) (PySem.call (.ref fI) (.ref e::rest)) (fun r s'=>r=.none∧Q (.ref e) s') E ⟨h',g,dr,t,os⟩):bj c.M A (PySem.call (.ref c.bd) rest) Q E ⟨h,g,dr,t,os⟩:=by
 refine g7 ok.cls fun nm q N bs bm hdct sn sub ab col dd k0 k1 k2 nr=>?_
 obtain⟨k3,k5,xp,Lf,Q6,Rb,Vn,V7⟩:=nr
 have hC:=qn _ _ xp
 have f1:=tc_lookup
 have f2:=tc_bind (.ref c.bd)
 have hT:(⟨h,g,dr,t,os⟩:aH).TypeIs (.ref c.bd) "type":=⟨_,hC,rfl⟩
 refine QH (codeAny_of_tree ?_)
 show bj _ _ (callAny (.ref c.bd) _) _ _ _
 repeat (any_goals (first | assumption | with_reducible refine gz hC ?_ | wp_step))
 refine⟨rfl,?_⟩
 refine codeAny_call_builtin_at (Fw _ (by decide +kernel)) entry_typeCall (wpAny_check_type_call_sub hC ?_)
 exact D9 ok qn xd hq
theorem new_exc {fI:aD}{fd:eJ}(ok:lW c.K c.bd fI fd) (qn:c.K.In h) (BE:h.NoLimit){m:bu}{tm:Tok}{Q:ai→aH→Prop}{E:ai→aH→Prop}{g:Array p8}{dr:Ch}{t:Nat}{os:mY}
  (hA:A.depth+1<kG)
  (hq:∀h' t' e,(∀b o,h.get? b=some o→h'.get? b=some o)→h.get? e=none→(∃t0 d0,h'.get? e=some { cls:=.ref c.bd,dict:=d0,data:=.fields #[.ref t0,.none,.none,.none,.bool false,.none] }) →
   Q (.ref e) ⟨h',g,dr,t',os⟩):bj c.M A (PySem.call (.ref c.bd) [.str m tm]) Q E ⟨h,g,dr,t,os⟩:=by
 refine Hp ok qn (by rw[cw];simp) fun h1 e t0 hk hn he=>?_
 refine QH (HY ok (qn.keeps hk) (BE.keeps hk) he (by show A.depth+1<_;exact hA) fun h2 t2 k2 eT=>?_)
 obtain⟨d0,e2⟩:=eT
 exact⟨rfl,hq _ _ _ (fun b o hb=>k2 b o (fun q=>by rw[q,hn] at hb;exact nS hb) (hk _ _ hb)) hn ⟨t0,_,e2⟩⟩
end
end
section
open PySem PySem.W PySem.Calls PyProof.Rows
section
variable {c:Cx}{d:Nat}{A:aU}{env:dH}{l l':Loc}{α bD:Am}{h h':cb}{H H':List ag}{s s':aH}
variable {Q:AV→List ag→Prop}{QB:Bool→List ag→Prop}{X:List ag→Prop}{pos:ij}{own:aD→Prop}{QU:Loc→List ag→Prop}{SQ:AF→Loc→List ag→Prop}
theorem WX.raise {fI:aD}{fd:eJ}{x m:bu}{np r9 p:ij}{k:Nat}(ok:lW c.K c.bd fI fd) (hko:gX c (.ref c.bd)) (Fg:1≤d) (i:Nat) (hn:env.scope.names[i]?=some (x,.globalImplicit))
  (hv:EX c.K eo x=some (some (.ref c.bd))) (D3:(x==("__debug__":bu))=false) (q:X H) :
  WX c d A env (.Raise (some (.Call (.Name x np) [.Constant (.str m) k p] [] r9)) none pos) l H SQ X:=fun α s I=>by
 rw[arm_exec_Raise]
 refine g7 ok.cls fun nm q' N bs bm hdct sn sub ab col dd k0 k1 k2 gD=>?_
 obtain⟨k3,k5,xp,Lf,Q6,Rb,Vn,V7⟩:=gD
 have key:bj c.M A (gr (.Call (.Name x np) [.Constant (.str m) k p] [] r9) env) (fun v bf=>∃e t0 d0,v=.ref e∧bf.heap.get? c.bd=some (sS nm q' c.bd N bs bm hdct sn sub ab col dd k0 k1 k2 k3 k5 "ValueError.__new__") ∧
   bf.heap.get? e=some { cls:=.ref c.bd,dict:=d0,data:=.fields #[.ref t0,.none,.none,.none,.bool false,.none] }∧kF c A env α s.heap X (.ref e) bf) (kF c A env α s.heap X) s:=by
  refine wpAny_Call_ofName (lQ I.e.kind (cW I.e.nodup hn) (wL I.g (mg_of I.ok.X I.ok.T.g hv) ?_) D3)
  rw[oU (pos:=r9) (es:=[.Constant (.str m) k p]) rfl]
  show bj c.M A (lS r9 (.ref c.bd) [] _ []) _ _ _
  refine yT (P:=fun h=>c.K.In h) (by simp) (fun h X=>hko.CO h X) (j9 ?_)
  refine spliced_cons (Constant_str (L9 ⟨I.qn,?_⟩))
  have BE:s.heap.NoLimit:=I.ok.T.nolimit.keeps I.h.base
  have hA:A.depth+1<kG:=by have:=I.r.depth;exact aW [_,_] [] [.L bP aB,.T (.a aM (.m 4 aB)) (.l 1000)] (.T (.a aM bP) (.l 1000)) (.k [1,1,4]) rfl Fg this
  refine new_exc ok I.qn BE hA fun h' t' e hk he eT=>?_
  refine fX eT fun t0 d0 e1=>?_
  clear eT
  obtain⟨m1,I1⟩:=I.grow (s':=⟨h',s.gens,s.drawn,t',s.os⟩) hk
  have na:¬iW α e:=I.h.live he
  have hbn:c.hb.get? e=none:=by
   cases z:c.hb.get? e with
   |none=>rfl
   |some o=>rw[I.h.base _ _ z] at he;exact nS (fZ he)
  refine aq I1.f.ns fun mm hm _=>?_
  exact⟨e,t0,d0,rfl,I1.qn _ _ xp,e1,e,none,α,H,rfl,.inl rfl,⟨na,hbn,he,_,_,_,e1,rfl,rfl,rfl,rfl⟩,m1,I1.h,I1.k,q,mm,hm⟩
 refine ak (iB (Gk (C:=c.bd) (nm:=nm) (q:=q') (N:=N) (bs:=bs) (bm:=bm) (hdct:=hdct) (sn:=sn) (sub:=sub) (ab:=ab) (col:=col) (dd:=dd) (k0:=k0) (k1:=k1) (k2:=k2) (k3:=k3) (k5:=k5) (newId:="ValueError.__new__") Vn I.r.hd ?_))
 exact ak (au key (fun v bf z=>ak (iB (aQ z))) fun _ _ z=>z)
end
end
section
open PySem PySem.W PySem.Calls PyProof.Rows
section
variable {c:Cx}{d m k:Nat}{A:aU}{env:dH}{l l':Loc}{α bD je cq:Am}{h h' pK h₀:cb}{H H':List ag}{s s':aH}{own own':aD→Prop}
inductive lN (c:Cx) (m:Nat) (A:aU) (env:dH) (α:Am) (h:cb) (X:List ag→Prop) (x:ai) (s':aH):Prop
 |mk (e:aD) (fl:Option ai) (bD:Am) (H':List ag) (q:x=.ref e) (f:wA env fl) (z:iV c h s'.heap bD e fl) (m:dC m A (cy env) α h bD s'.heap) (r1:gw c s'.heap bD H') (r2:dP c A (gM s') s'.heap bD) (r3:X H') (mm:bu→Option ai) (r4:s'.heap.Ns env.locals mm)
inductive hZ (c:Cx) (d m:Nat) (A:aU) (env:dH) (α:Am) (h:cb) (Q:AF→Loc→List ag→Prop) (f:AD) (s':aH):Prop
 |mk (af:AF) (l':Loc) (bD:Am) (H':List ag) (m:dC m A (cy env) α h bD s'.heap) (i:Inv c d A env l' bD H' s') (fr:Nm c s'.heap bD af f) (q:Q af l' H')
theorem iV.Us {eX:cb}{bE:Am}{e:aD}{fl:Option ai}(x:dC m A own α h bD h') (z:iV c h' eX bE e fl):iV c h eX bE e fl:=by
 obtain⟨z1,z2,z3,oe,vs,a0,z4,z5,z6,z7,z8⟩:=z
 refine⟨z1,z2,x.gone z3,oe,vs,a0,z4,z5,z6,z7,?_⟩
 cases fl with
 |none=>exact z8
 |some f=>
  obtain⟨T,oT,ts,y1,y2,y3,y4,y5,y6,y7,y8⟩:=z8
  exact⟨T,oT,ts,y1,y2,y3,y4,y5,y6,y7,x.gone y8⟩
variable {X:List ag→Prop}{x:ai}{SQ SQ':AF→Loc→List ag→Prop}{f:AD}{pos:ij}
theorem kF.toM (e:kF c A env α h X x s'):lN c m A env α h X x s':=by
 obtain⟨e,fl,je,H',q,f,z,m',r1,r2,r3,mm,r4⟩:=e
 exact⟨e,fl,je,H',q,f,z,m'.toM,r1,r2,r3,mm,r4⟩
theorem lN.weak (y:dC m A (cy env) α h bD h') (e:lN c m A env bD h' X x s'):lN c m A env α h X x s':=by
 obtain⟨e,fl,je,H',q,f,z,m',r1,r2,r3,mm,r4⟩:=e
 exact⟨e,fl,je,H',q,f,z.Us y,y.trans m',r1,r2,r3,mm,r4⟩
theorem lN.le (e:lN c k A env α h X x s') (hm:m≤k):lN c m A env α h X x s':=by
 obtain⟨e,fl,je,H',q,f,z,m',r1,r2,r3,mm,r4⟩:=e
 exact⟨e,fl,je,H',q,f,z,m'.le hm,r1,r2,r3,mm,r4⟩
theorem lN.full (e:lN c m A env α h X x s') (hm:α.length≤m):kF c A env α h X x s':=by
 obtain⟨e,fl,je,H',q,f,z,m',r1,r2,r3,mm,r4⟩:=e
 exact⟨e,fl,je,H',q,f,z,m'.full hm,r1,r2,r3,mm,r4⟩
theorem hZ.full (e:hZ c d m A env α h SQ f s') (hm:α.length≤m):s8 c d A env α h SQ f s':=by
 obtain⟨a,l,je,H',m',i,r,q⟩:=e
 exact⟨a,l,je,H',m'.full hm,i,r,q⟩
theorem s8.toM (e:s8 c d A env α h SQ f s'):hZ c d m A env α h SQ f s':=by
 obtain⟨a,l,je,H',m',i,r,q⟩:=e
 exact⟨a,l,je,H',m'.toM,i,r,q⟩
theorem hZ.weak (y:dC m A (cy env) α h bD h') (e:hZ c d m A env bD h' SQ f s'):hZ c d m A env α h SQ f s':=by
 obtain⟨a,l,je,H',m',i,r,q⟩:=e
 exact⟨a,l,je,H',y.trans m',i,r,q⟩
theorem Dc {t:rU AD}(y:dC m A (cy env) α h bD s.heap) (h1:bj c.M A t (hZ c d m A env bD s.heap SQ) (lN c m A env bD s.heap X) s):bj c.M A t (hZ c d m A env α h SQ) (lN c m A env α h X) s:=
 au h1 (fun _ _ p=>p.weak y) fun _ _ p=>p.weak y
noncomputable def VX (c:Cx) (d m:Nat) (A:aU) (env:dH) (st:eF) (l:Loc) (H:List ag) (Q:AF→Loc→List ag→Prop) (X:List ag→Prop):Prop:=
 ∀α s,Inv c d A env l α H s→bj c.M A (exec st env) (hZ c d m A env α s.heap Q) (lN c m A env α s.heap X) s
noncomputable def VS (c:Cx) (d m:Nat) (A:aU) (env:dH) (ss:List eF) (l:Loc) (H:List ag) (Q:AF→Loc→List ag→Prop) (X:List ag→Prop):Prop:=
 ∀α s,Inv c d A env l α H s→bj c.M A (execs ss env) (hZ c d m A env α s.heap Q) (lN c m A env α s.heap X) s
theorem VX.of {st:eF}(w:WX c d A env st l H SQ X):VX c d m A env st l H SQ X:=fun α s I=>au (w α s I) (fun _ _ p=>p.toM) fun _ _ e=>e.toM
noncomputable def Yu (c:Cx) (d m:Nat) (A:aU) (env:dH) (ss:List eF) (SQ:AF→Loc→List ag→Prop) (X:List ag→Prop):AF→Loc→List ag→Prop
 |.next,l,H=>VS c d m A env ss l H SQ X
 |f,l,H=>SQ f l H
theorem VS.nil (q:SQ .next l H):VS c d m A env [] l H SQ X:=fun α s I=>jR ⟨.next,l,α,H,.refl,I,rfl,q⟩
theorem VS.cons {st:eF}{ss:List eF}(w:VX c d m A env st l H (Yu c d m A env ss SQ X) X):VS c d m A env (st::ss) l H SQ X:=fun α s I=>by
 refine qd (au (w α s I) (fun f bf eT=>?_) fun _ _ e=>e)
 obtain⟨af,l₁,aP,H₁,m,bl,fr,q⟩:=eT
 cases af with
 |next=>cases fr;exact Dc m (q aP bf bl)
 |brk=>cases fr;exact⟨.brk,l₁,aP,H₁,m,bl,rfl,q⟩
 |cont=>cases fr;exact⟨.cont,l₁,aP,H₁,m,bl,rfl,q⟩
 |ret a=>refine aq fr fun v j3 r=>?_;clear fr;subst j3;exact⟨.ret a,l₁,aP,H₁,m,bl,⟨v,rfl,r⟩,q⟩
theorem VX.if_ {e:Expr}{b1 b2:List eF}(w:WB c d A env e l H (fun b H'=>match b with | true=>VS c d m A env b1 l H' SQ X | false=>VS c d m A env b2 l H' SQ X) X):VX c d m A env (.If e b1 b2 pos) l H SQ X:=fun α s I=>
 wpAny_If (au (w α s I) (by
  rintro b bf ⟨aP,H₁,m,bl,q⟩
  cases b with
  |true=>exact Dc m.toM (q aP bf bl)
  |false=>exact Dc m.toM (q aP bf bl)) fun _ _ e=>e.toM)
theorem VS.mono {ss:List eF}{X':List ag→Prop}(w:VS c d m A env ss l H SQ X) (hq:∀f l H,SQ f l H→SQ' f l H):VS c d m A env ss l H SQ' X:=fun α s I=>
 au (w α s I) (by rintro u' u' ⟨a,l',bD,H',m,i,r,q⟩;exact⟨a,l',bD,H',m,i,r,hq _ _ _ q⟩) fun _ _ e=>e
theorem lN.loop (he:Gi env) (ht:∃en o,A.frames=some (en::o)∧en.frame=env.frame) (z:lN c m A env α h X x s'):tC c.M A env (nP c.M A env (lN c m A env α h X)) x s':=by
 obtain⟨e,fl,bD,H',rfl,ub,z,y,O,K,hX,mm,ud⟩:=z
 refine cB ht fun en o ml uh=>?_
 clear ht
 refine al he.frame fun F hF=>?_
 unfold tC
 rw[jy uh]
 refine Nj ml (uh.trans hF) (by unfold wA at ub ⊢;rw[uh];exact ub) y O K z fun h1 z1 m1 O1 K1 u1=>?_
 unfold nP
 have z1':=z1
 obtain⟨_,_,_,oe,vs,a0,z4,z5,z6,z7,T,oT,ts,y1,_⟩:=z1'
 refine ak (g9 (s:={ s' with heap:=h1 }) z4 z6 y1 ?_)
 rw[if_neg (by simp)]
 refine uX (s:={ s' with heap:=h1 }) ml m1 O1 K1 z1 fun h2 z2 m2 O2 K2 u2=>?_
 refine⟨e,_,bD,H',rfl,.inr (.inr ⟨F,hF,rfl⟩),?_,m2,O2,K2,hX,mm,Ns.upTo (Ns.upTo ud u1) u2⟩
 rw[hF] at z2
 exact z2
end
mutual
noncomputable def vq (k:Nat):AV→Bool
 |.obj n=>ik n k
 |.tup vs=>mT k vs
 |.iR kvs=>mx k kvs
 |_=>true
noncomputable def mT (k:Nat):List AV→Bool
 |[]=>true
 |x::xs=>vq k x&&mT k xs
noncomputable def mx (k:Nat):List (Int×AV)→Bool
 |[]=>true
 |(_,x)::xs=>vq k x&&mx k xs
end
section
variable {c:Cx}{k:Nat}{α bD:Am}{h h':cb}
theorem pn {xs:List AV}:mT k xs=true→∀x∈xs,vq k x=true:=by
 induction xs with
 |nil=>exact fun _ _ h=>nomatch h
 |cons x xs ih=>exact fun o=>gj.mpr ⟨(aR.mp o).1,ih (aR.mp o).2⟩
theorem ru {xs:List (Int×AV)}:mx k xs=true→∀x∈xs,vq k x.2=true:=by
 induction xs with
 |nil=>exact fun _ _ h=>nomatch h
 |cons x xs ih=>exact fun o=>gj.mpr ⟨(aR.mp o).1,ih (aR.mp o).2⟩
theorem Mv.ok {f g:Nat→Nat}(b:∀{n:Nat}{p:aD×aD},n<k→α[f n]?=some p→bD[g n]?=some p) (ht:∀{a:aD}{items:Array ai},dn h a items→dn h' a items):Mv c h h' α bD f g (vq k ·=true):=
 ⟨pn,ru,fun o=>b (aE o),ht⟩
section carry
variable (pre:∀{n:Nat}{p:aD×aD},n<k→α[n]?=some p→bD[n]?=some p) (ht:∀{a:aD}{items:Array ai},dn h a items→dn h' a items)
include pre ht
theorem bq.Pk {a:List AV}{v:List ai}(o:mT k a=true) (r:bq c h α a v):bq c h' bD a v:=by
 have:=bq.mo (vs:=v) fun x (hx:x∈a)=>(Mv.ok (c:=c) (f:=id) (g:=id) pre ht).V x (pn o x hx);rw[pS] at this;exact this r
end carry
end
end
section
open PySem PySem.W PySem.Calls PyProof.Rows
section
variable {c:Cx}{d:Nat}{A:aU}{env:dH}{l l':Loc}{α bD cq:Am}{h h' h₀:cb}{H H':List ag}{s s':aH}
variable {Q:AV→List ag→Prop}{QB:Bool→List ag→Prop}{X:List ag→Prop}{pos:ij}{own own':aD→Prop}{QU:Loc→List ag→Prop}{SQ:AF→Loc→List ag→Prop}
theorem bM.nR (m:bM A own α h bD h') (hw:∀b,own b→own' b):bM A own' α h bD h':=
 ⟨m.pre,m.fresh,m.alive,fun e n1 n2 n3=>m.keep e n1 (fun q=>n2 (hw _ q)) n3,fun e n1 n2=>m.slot e n1 fun q=>n2 (hw _ q)⟩
theorem bM.drop (m:bM A own' α h bD h') (hw:∀b o,own' b→¬own b→h.get? b=some o→False):bM A own α h bD h':=
 ⟨m.pre,m.fresh,m.alive,fun{b o} e n1 n2 n3=>m.keep e n1 (fun q=>hw _ _ q n2 e) n3,fun{b o} e n1 n2=>m.slot e n1 fun q=>hw _ _ q n2 e⟩
noncomputable def zP (J:Loc→List ag→Prop) (SQ:AF→Loc→List ag→Prop):AF→Loc→List ag→Prop
 |.next,l,H=>J l H
 |.cont,l,H=>J l H
 |.brk,l,H=>SQ .next l H
 |.ret a,l,H=>SQ (.ret a) l H
theorem oZ.off {I₀:aD}(F:oZ c env h α l) (hk:∀b o,b≠I₀→h.get? b=some o→h'.get? b=some o) (ha:∃o vs,h.get? I₀=some o∧o.data=.fields vs):oZ c env h' α l:=by
 have tk:∀{a:aD}{items:Array ai},dn h a items→dn h' a items:=fun{a items} ⟨o,ho,hc,n,hd⟩=>by
  refine⟨o,hk a o (fun q=>?_) ho,hc,n,hd⟩
  refine cB ha fun o' vs jQ hs=>?_
  clear ha
  rw[q,jQ] at ho;replace ho:=ae ho;subst ho;rw[hs] at hd;cases hd
 refine⟨?_,fun{i x k} e ya=>?_,F.no,F.new⟩
 ·refine eU F.ns fun mm o es ep ho gD hr=>?_
  refine bG gD fun hd r=>?_
  refine⟨mm,⟨o,es,ep,hk _ _ (fun q=>?_) ho,hd,r⟩,fun{i x v} e1 e2=>by refine aq (hr e1 e2) fun val q1 q2=>?_;exact⟨val,q1,q2.carry id tk⟩⟩
  refine cB ha fun o' vs jQ hs=>?_
  clear ha
  rw[q,jQ] at ho;replace ho:=ae ho;subst ho;rw[hs] at hd;cases hd
 ·refine eH (F.cl e ya) fun b ov e1 o ho hd n1 n2 hr=>?_
  refine⟨b,ov,e1,⟨o,hk _ _ (fun q=>?_) ho,hd⟩,n1,n2,fun{v} q=>by refine aq (hr q) fun val q1 q2=>?_;exact⟨val,q1,q2.carry id tk⟩⟩
  refine cB ha fun o' vs jQ hs=>?_
  clear ha
  rw[q,jQ] at ho;replace ho:=ae ho;subst ho;rw[hs] at hd;cases hd
theorem Inv.vt {I₀:aD}(I:Inv c d A env l α H s) (hk:∀b o,b≠I₀→s.heap.get? b=some o→s'.heap.get? b=some o) (ha:∃o vs,s.heap.get? I₀=some o∧o.data=.fields vs)
  (hb:c.hb.get? I₀=none) (na:¬iW α I₀) (no:¬cy env I₀) (zH:gM s'=gM s:=by rfl):Inv c d A env l α H s':=by
 have tk:∀{a:aD}{items:Array ai},dn s.heap a items→dn s'.heap a items:=fun{a items} ⟨o,ho,hc,n,hd⟩=>by
  refine⟨o,hk a o (fun q=>?_) ho,hc,n,hd⟩
  refine cB ha fun o' vs jQ hs=>?_
  clear ha
  rw[q,jQ] at ho;replace ho:=ae ho;subst ho;rw[hs] at hd;cases hd
 have nea:∀{b},iW α b→b≠I₀:=fun a q=>na (q▸a)
 refine⟨I.ok,I.e,I.r,I.top,⟨I.h.len,fun{n x p} e e'=>?_,I.h.apart,fun b o e=>hk b o (fun q=>by rw[q,hb] at e;exact nS e) (I.h.base b o e),I.h.new⟩,⟨?_,fun{i x k} e ya=>?_,I.f.no,I.f.new⟩,?_⟩
 ·exact(I.h.cell e e').ql id tk fun b o q=>hk b o (nea ⟨n,p,e',q⟩)
 ·refine eU I.f.ns fun mm o es ep ho r hr=>?_
  exact⟨mm,⟨o,es,ep,hk _ _ (fun q=>no (.inl q.symm)) ho,r⟩,fun{i x v} e1 e2=>by refine aq (hr e1 e2) fun val q1 q2=>?_;exact⟨val,q1,q2.carry id tk⟩⟩
 ·refine eH (I.f.cl e ya) fun b ov e1 o ho hd n1 n2 hr=>?_
  refine⟨b,ov,e1,⟨o,hk _ _ (fun q=>?_) ho,hd⟩,n1,n2,fun{v} q=>by refine aq (hr q) fun val q1 q2=>?_;exact⟨val,q1,q2.carry id tk⟩⟩
  refine cB ha fun o' vs jQ hs=>?_
  clear ha
  rw[q,jQ] at ho;replace ho:=ae ho;subst ho;rw[hs] at hd;cases hd
 ·refine aL I.k.fr fun lf e F n=>?_
  refine⟨⟨lf,e,F.of_keeps fun b o e hn=>⟨o,hk b o (fun q=>?_) e,rfl⟩,n⟩,zH.trans I.k.lq⟩
  refine cB ha fun o' vs jQ hs=>?_
  clear ha
  rw[q,jQ] at e;replace e:=ae e;subst e;exact hn _ hs
theorem Inv.side {I₀:aD}(I:Inv c d A env l α H s) (hk:∀b o,b≠I₀→s.heap.get? b=some o→s'.heap.get? b=some o) (ha:∃o vs,s.heap.get? I₀=some o∧o.data=.fields vs) (ha':∃o,s'.heap.get? I₀=some o)
  (hb:c.hb.get? I₀=none) (na:¬iW α I₀) (no:¬cy env I₀) (zH:gM s'=gM s:=by rfl):bM A (fun b=>cy env b∨b=I₀) α s.heap α s'.heap∧Inv c d A env l α H s':=by
 have m:bM A (fun b=>cy env b∨b=I₀) α s.heap α s'.heap:=by
  refine⟨id,.inl,fun{b o} e=>?_,fun{b o} e _ n _=>hk b o (fun q=>n (.inr q)) e,fun{b o} e _ n=>⟨o.slots,hk b o (fun q=>n (.inr q)) e⟩⟩
  by_cases q:b=I₀
  ·exact q▸ha'
  ·exact⟨o,hk b o q e⟩
 exact⟨m,I.vt hk ha hb na no zH⟩
theorem bM.ta {I₀:aD}(m:bM A own cq h₀ α h) (e:h₀.get? I₀=none) (hk:∀b o,b≠I₀→h.get? b=some o→h'.get? b=some o):bM A own cq h₀ α h':=by
 have ne:∀{b o},h₀.get? b=some o→b≠I₀:=fun{b o} e1 q=>by rw[q,e] at e1;exact nS e1
 exact⟨m.pre,m.fresh,fun e1=>by refine al (m.alive e1) fun o' e2=>?_;exact⟨o',hk _ _ (ne e1) e2⟩,fun e1 n1 n2 n3=>hk _ _ (ne e1) (m.keep e1 n1 n2 n3),fun e1 n1 n2=>by refine al (m.slot e1 n1 n2) fun sl e2=>?_;exact⟨sl,hk _ _ (ne e1) e2⟩⟩
noncomputable def xB (t:Expr):Prop:=(∃x p,t=.Name x p)∨∃es k p,t=.Tuple es k p
structure mq (c:Cx) (A:aU) (I₀:aD) (α:Am) (h:cb):Prop where
 base:c.hb.get? I₀=none
 na:¬iW α I₀
 ns:¬AK A I₀
 at_:∃o vs,h.get? I₀=some o∧o.data=.fields vs
theorem mq.mono {k:Nat}{I₀:aD}(b:mq c A I₀ α h) (m:dC k A own α h bD h') (no:¬own I₀):mq c A I₀ bD h':=by
 refine cB b.at_ fun o vs ho hd=>?_
 refine⟨b.base,fun a=>?_,b.ns,o,vs,m.keep ho b.na no b.ns,hd⟩
 rcases m.fresh a with q | q
 ·exact b.na q
 ·rw[ho] at q;exact nS (fZ q)
structure Fd (k:Nat) (c:Cx) (d:Nat) (A:aU) (T:Expr→Prop) (xs:List AV) (gC:List ag→Prop) (I₀:aD) (St:Nat→Am→cb→Prop):Prop where
 ok:∀{i α h},St i α h→mq c A I₀ α h
 mono:∀{i α h bD h' H own},St i α h→gw c h α H→eM h own→¬own I₀→dC k A own α h bD h'→St i bD h'
 item:∀{env i x l α H s t},T t→xs[i]?=some x→Inv c d A env l α H s→¬cy env I₀→gC H→St i α s.heap→∀(PP:Option ai→aH→Prop) (E:ai→aH→Prop),
  (∀v bf,(∀P:aH→Prop,(∀s',(∀b o,b≠I₀→s.heap.get? b=some o→s'.heap.get? b=some o)→bM A (fun b=>cy env b∨b=I₀) α s.heap α s'.heap→Inv c d A env l α H s'→bO c s'.heap α x v→St (i+1) α s'.heap→P s')→∀E',bj c.M A (mB t (.ref I₀) v) (fun _=>P) E' bf)→PP (some v) bf) →
  bj c.M A (pyNext (.ref I₀)) PP E s
 done:∀{env l α H s},Inv c d A env l α H s→¬cy env I₀→gC H→St xs.length α s.heap→∀(PP:Option ai→aH→Prop) (E:ai→aH→Prop),
  (∀s',(∀b o,b≠I₀→s.heap.get? b=some o→s'.heap.get? b=some o)→Inv c d A env l α H s'→PP none s')→bj c.M A (pyNext (.ref I₀)) PP E s
 self:∀{i α s},(∃x p,T (.Name x p))→∀(P:ai→aH→Prop) (E:ai→aH→Prop),St i α s.heap→P (.ref I₀) s→bj c.M A (Jl (.ref I₀)) P E s
noncomputable def eS (k:Nat) (c:Cx) (d:Nat) (A:aU) (T:Expr→Prop) (a:AV) (xs:List AV) (gC:List ag→Prop):Prop:=
 ∀env l α H s v,Inv c d A env l α H s→bO c s.heap α a v→gC H→∀(P:ai→aH→Prop) (E:ai→aH→Prop),
  (∀I₀ St s',Fd k c d A T xs gC I₀ St→bM A (cy env) α s.heap α s'.heap→Inv c d A env l α H s'→St 0 α s'.heap→s.heap.get? I₀=none→P (.ref I₀) s')→bj c.M A (Jl v) P E s
theorem Inv.xy {I₀:aD}(I:Inv c d A env l α H s) (e:s.heap.get? I₀=none):¬cy env I₀:=fun q=>by
 refine aq (I.solid _ q) fun o ho _=>?_
 rw[e] at ho;exact nS ho
inductive IL (k:Nat) (c:Cx) (d:Nat) (A:aU) (env:dH) (T:Expr→Prop) (l:Loc) (α:Am) (h:cb) (QI:List AV→(List ag→Prop)→List ag→Prop) (it:ai) (cX:aH):Prop
 |mk (I₀:aD) (St:Nat→Am→cb→Prop) (xs:List AV) (gC:List ag→Prop) (e8:List ag) (bE:Am) (e:it=.ref I₀) (i:Fd k c d A T xs gC I₀ St) (m:bM A (cy env) α h bE cX.heap) (I:Inv c d A env l bE e8 cX)
  (st:St 0 bE cX.heap) (new:h.get? I₀=none) (no:¬cy env I₀) (q:QI xs gC e8)
noncomputable def WI (k:Nat) (c:Cx) (d:Nat) (A:aU) (env:dH) (T:Expr→Prop) (e:Expr) (l:Loc) (H:List ag) (QI:List AV→(List ag→Prop)→List ag→Prop) (X:List ag→Prop):Prop:=
 ∀α s,Inv c d A env l α H s→bj c.M A (gr e env) (fun v bf=>bj c.M A (Jl v) (IL k c d A env T l α s.heap QI) (kF c A env α s.heap X) bf) (kF c A env α s.heap X) s
theorem WI.mono {k:Nat}{T:Expr→Prop}{e:Expr}{QI QI':List AV→(List ag→Prop)→List ag→Prop}(w:WI k c d A env T e l H QI X) (h:∀xs gC H,QI xs gC H→QI' xs gC H):WI k c d A env T e l H QI' X:=fun α s I=>
 au (w α s I) (fun _ _ p=>au p (fun _ _ p=>by
  obtain⟨I₀,St,xs,gC,e8,bE,e,i,m,I,st,new,no,q⟩:=p
  exact⟨I₀,St,xs,gC,e8,bE,e,i,m,I,st,new,no,h _ _ _ q⟩) fun _ _ e=>e) fun _ _ e=>e
theorem WI.of {k:Nat}{T:Expr→Prop}{e:Expr}{QI:List AV→(List ag→Prop)→List ag→Prop}(w:WE c d A env e l H (fun a H1=>∃xs gC,eS k c d A T a xs gC∧gC H1∧QI xs gC H1) X)  :WI k c d A env T e l H QI X:=fun α s I=>by
 refine au (w α s I) (fun v bf eT=>?_) fun _ _ e=>e
 obtain⟨a,aP,H₁,bZ,bl,fF,xs,gC,Fh,nx,q⟩:=eT
 refine Fh env l aP H₁ bf v bl fF nx _ _ fun I₀ St cX it cV cA jw new=>?_
 exact⟨I₀,St,xs,gC,H₁,aP,rfl,it,bZ.trans cV,cA,jw,bZ.gone new,bl.xy new,q⟩
variable {k m:Nat}
inductive JP (m:Nat) (c:Cx) (d:Nat) (A:aU) (env:dH) (α:Am) (h:cb) (J:Nat→Loc→List ag→Prop) (n:Nat) (s':aH):Prop
 |mk (l':Loc) (bD:Am) (H':List ag) (mm:dC m A (cy env) α h bD s'.heap) (I:Inv c d A env l' bD H' s') (j:J n l' H')
theorem VX.OU {JY:Expr}{body:List eF}(J:Nat→Loc→List ag→Prop) (n:Nat) (init:J n l H)
  (Zc:∀n l H,J n l H→WB c d A env JY l H (fun b H'=>match b with | true=>VS c d m A env body l H' (zP (fun l2 H2=>∃m,m<n∧J m l2 H2) SQ) X | false=>SQ .next l H') X) :
  VX c d m A env (.While JY body [] pos) l H SQ X:=fun α s I=>by
 refine wpAny_While (codeAny_whileLoop (R:=fun r s'=>match r with | .ok f=>hZ c d m A env α s.heap SQ f s' | .error e=>nP c.M A env (lN c m A env α s.heap X) e s')
  (JP m c d A env α s.heap J) (fun n bf p=>?_) n ⟨l,α,H,.refl,I,init⟩)
 obtain⟨l₁,aP,H₁,bZ,bl,xX⟩:=p
 have fin:∀{bE:Am}{cX:aH}{x:ai}{hG:aH},dC m A (cy env) α s.heap bE cX.heap→lN c m A env bE cX.heap X x hG→tC c.M A env (nP c.M A env (lN c m A env α s.heap X)) x hG:=fun m z=>(z.weak m).loop I.e I.top
 refine au (Zc n l₁ H₁ xX aP bf bl) (fun b cX eT=>?_) fun _ _ z=>fin bZ z.toM
 obtain⟨bE,e8,cV,cA,pY⟩:=eT
 have mm:=bZ.trans cV.toM
 cases b with
 |false=>exact jR ⟨.next,l₁,bE,e8,mm,cA,rfl,pY⟩
 |true=>
  refine au (pY bE cX cA) (fun f hG eT=>?_) fun _ _ z=>fin mm z
  obtain⟨af,sj,fh,kZ,gW,fP,fr,ED⟩:=eT
  have mm:=mm.trans gW
  cases af with
  |next=>cases fr;refine aq ED fun k hk j=>?_;clear ED;exact⟨k,hk,sj,fh,kZ,mm,fP,j⟩
  |cont=>cases fr;refine aq ED fun k hk j=>?_;clear ED;exact⟨k,hk,sj,fh,kZ,mm,fP,j⟩
  |brk=>cases fr;exact⟨.next,sj,fh,kZ,mm,fP,rfl,ED⟩
  |ret a=>refine aq fr fun v mU rv=>?_;clear fr;subst mU;exact⟨.ret a,sj,fh,kZ,mm,fP,⟨v,rfl,rv⟩,ED⟩
inductive Xa (k:Nat) (c:Cx) (d:Nat) (A:aU) (env:dH) (t:Expr) (body:List eF) (X:List ag→Prop) (l:Loc) (SQ:AF→Loc→List ag→Prop) (xs:List AV) (gC:List ag→Prop) (H1:List ag):Prop
 |mk (J:Nat→Loc→List ag→Prop) (j0:J 0 l H1) (V8:∀i l' H',i≤xs.length→J i l' H'→gC H')
  (step:∀i x l' H',xs[i]?=some x→J i l' H'→WU c d A env (fun vs=>iL t env (vs[0]?.getD .none)) [x] l' H' (fun l2 H2=>VS c d k A env body l2 H2 (zP (J (i+1)) SQ) X) X)
  (fin:∀l' H',J xs.length l' H'→SQ .next l' H')
inductive R6 (k:Nat) (c:Cx) (d:Nat) (A:aU) (env:dH) (I₀:aD) (α:Am) (h:cb) (N:Nat) (St:Nat→Am→cb→Prop) (J:Nat→Loc→List ag→Prop) (n:Nat) (s':aH):Prop
 |mk (i:Nat) (l':Loc) (bD:Am) (H':List ag) (hn:n=N-i) (hi:i≤N) (mm:dC k A (fun b=>cy env b∨b=I₀) α h bD s'.heap) (I:Inv c d A env l' bD H' s') (st:St i bD s'.heap) (j:J i l' H')
theorem VX.SG {T:Expr→Prop}{t iter:Expr}{body:List eF}(k:Nat) (hk:m≤k) (ht:T t) (hs:∀x,gA iter env x=pure x)
  (w:WI k c d A env T iter l H (Xa k c d A env t body X l SQ) X):VX c d m A env (.For t iter body [] pos) l H SQ X:=fun α s I=>by
 refine wpAny_For (au (w α s I) (fun v bf p=>au p (fun ZC cX p=>?_) fun _ _ e=>e.toM) fun _ _ e=>e.toM) hs
 obtain⟨I₀,St,xs,gC,H₁,aP,rfl,it,hm,cA,jw,s7,no,q⟩:=p
 obtain⟨J,Pl,Tg,step,fin⟩:=q
 have back:∀{fh:Am}{sq:cb},dC k A (fun b=>cy env b∨b=I₀) α s.heap fh sq→dC k A (cy env) α s.heap fh sq:=fun m=>m.drop fun b o q n e=>by
  rcases q with q | q
  ·exact n q
  ·rw[q,s7] at e;exact nS e
 have TI:∀{bE:Am}{cX:aH}{x:ai}{hG:aH},dC k A (cy env) α s.heap bE cX.heap→lN c k A env bE cX.heap X x hG→tC c.M A env (nP c.M A env (lN c m A env α s.heap X)) x hG:=fun m z=>((z.weak m).le hk).loop I.e I.top
 refine Ny (R:=fun r s'=>match r with | .ok f=>hZ c d m A env α s.heap SQ f s' | .error e=>nP c.M A env (lN c m A env α s.heap X) e s')
  (R6 k c d A env I₀ α s.heap xs.length St J) (fun n hG p=>?_) xs.length
  ⟨0,l,aP,H₁,rfl,cQ _,(hm.nR fun b q=>.inl q).toM,cA,jw,Pl⟩
 obtain⟨i,sj,fh,kZ,rfl,hi,gW,fP,wV,KV⟩:=p
 by_cases iU:i<xs.length
 ·have hx:xs[i]?=some xs[i]:=aw iU
  refine it.item ht hx fP no (Tg i sj kZ hi KV) wV _ _ fun v aag go=>?_
  refine go _ (fun n5 _ ku jU Hv zz=>?_) _
  have m34:=gW.trans ku.toM
  refine au (step i _ sj kZ hx KV fh n5 [v] jU (eC Hv jD)) (fun _ Bm eT=>?_) fun _ _ z=>TI (back m34) z.toM
  obtain⟨aas,mG,Ar,pW,k7,ZE⟩:=eT
  have m35:=m34.trans (pW.nR fun b q=>.inl q).toM
  refine au (ZE mG Bm k7) (fun f Lh eT=>?_) fun _ _ z=>TI (back m35) z
  obtain⟨af,Kx,tf,Bo,tI,n7,fr,DC⟩:=eT
  have Wb:=m35.trans (tI.nR fun b q=>.inl q)
  have uz:=it.mono zz jU.h jU.solid no pW.toM
  have xg:=it.mono uz k7.h k7.solid no tI
  cases af with
  |next=>cases fr;exact⟨xs.length-(i+1),by exact wG iU,i+1,Kx,tf,Bo,rfl,iU,Wb,n7,xg,DC⟩
  |cont=>cases fr;exact⟨xs.length-(i+1),by exact wG iU,i+1,Kx,tf,Bo,rfl,iU,Wb,n7,xg,DC⟩
  |brk=>cases fr;exact⟨.next,Kx,tf,Bo,(back Wb).le hk,n7,rfl,DC⟩
  |ret a=>refine aq fr fun v se rv=>?_;clear fr;subst se;exact⟨.ret a,Kx,tf,Bo,(back Wb).le hk,n7,⟨v,rfl,rv⟩,DC⟩
 ·obtain rfl:i=xs.length:=by exact aW [_,_] [] [.L aB aM,.N (.T aB aM)] (.E aB aM) (.o cI cM) rfl hi iU
  refine it.done fP no (Tg _ sj kZ hi KV) wV _ _ fun n5 ku jU=>?_
  refine jR ⟨.next,sj,fh,kZ,?_,jU,rfl,fin _ _ KV⟩
  exact(back ⟨gW.pre,gW.fresh,fun{b o} e=>by
    refine al (gW.alive e) fun o' e'=>?_
    exact⟨o',ku b o' (fun q=>by rw[q,s7] at e;exact nS e) e'⟩,fun{b o} e n1 n2 n3=>ku b o (fun q=>n2 (.inr q)) (gW.keep e n1 n2 n3),
   fun{b o} e n1 n2=>by
    refine al (gW.slot e n1 n2) fun sl e'=>?_
    exact⟨sl,ku b _ (fun q=>n2 (.inr q)) e'⟩⟩).le hk
end
end
section
open PySem PySem.W PySem.Calls PyProof.Rows
noncomputable def xT (n:String):Bool:=!["enumerate","zip","dict_itemiterator","dict_reverseitemiterator","odict_iterator","itertools.zip_longest","itertools.pairwise"].contains n
section
variable {c:Cx}{d:Nat}{A:aU}{env:dH}{l l':Loc}{α bD cq:Am}{h h' h₀:cb}{H H':List ag}{s s':aH}
variable {Q:AV→List ag→Prop}{QB:Bool→List ag→Prop}{X:List ag→Prop}{pos:ij}{own own':aD→Prop}{QU:Loc→List ag→Prop}{kp:Nat}{SQ:AF→Loc→List ag→Prop}
theorem letGo {M:Ft}{I₀:aD}{o:ou}{vs:Array ai}{n:String}{t:Expr}{v:ai}{P:Unit→aH→Prop}{E:ai→aH→Prop}(ht:xB t) (ho:s.heap.get? I₀=some o) (hc:o.cls=.type n) (hn:xT n=true) (hd:o.data=.fields vs)
  (q:P () s):bj M A (mB t (.ref I₀) v) P E s:=by
 rcases ht with⟨x,p,rfl⟩ | ⟨es,k,p,rfl⟩
 ·exact aQ q
 ·cases v with
  |ref a=>
   unfold mB
   refine ak (wpAny_load ho ?_)
   rw[hc,hd]
   dsimp only
   rw[if_neg (by
    intro h
    unfold xT at hn
    rw[m7] at hn
    rw[hn,xr] at h
    exact fT h)]
   exact aQ q
  |_=>exact aQ q
inductive PlainAt (h:cb) (I₀:aD):Prop
 |mk (o:ou) (vs:Array ai) (n:String) (e1:h.get? I₀=some o) (e2:o.cls=.type n) (e3:xT n=true) (e4:o.data=.fields vs)
theorem Fd.tY {I₀:aD}{xs:List AV}{P:Nat→ai→Prop}{S0:Nat→cb→Prop}(W:Walks c.prog c.w A I₀ [I₀] [I₀] xs.length P S0) (hP:∀i v,P i v→∃x,xs[i]?=some x∧∀h α,bO c h α x v)
  (ho:∀i h,S0 i h→PlainAt h I₀):Fd kp c d A xB xs (fun _=>True) I₀ (fun i α h=>S0 i h∧mq c A I₀ α h) where
 ok:=fun st=>st.2
 mono:=fun{i α h bD h' H own} st O S no m=>by
  refine bG st fun st b=>?_
  refine⟨W.frame _ _ _ st fun b' nW o e=>?_,b.mono m no⟩
  rw[cT.mp nW] at e ⊢
  exact m.keep e b.na no b.ns
 item:=fun{env i x l α H s t} ht hx I no nx st PP E k=>by
  refine bG st fun st b=>?_
  have iU:i<xs.length:=(ao.mp hx).1
  refine W.item i s _ _ iU st fun v h' tk pv Bs hk=>k v _ fun P hP' E'=>?_
  obtain⟨o',As,n',jQ,Jy,Ra,qG⟩:=ho _ _ Bs
  refine aq (hP i v pv) fun x' QZ rx=>?_
  rw[hx] at QZ;replace QZ:=ae QZ;subst QZ
  refine letGo (s:={ s with heap:=h',toks:=tk }) ht jQ Jy Ra qG ?_
  obtain⟨o,vs,n,ho,hc,hn,hd⟩:=ho _ _ st
  refine bG (I.side (s':={ s with heap:=h',toks:=tk }) (I₀:=I₀) (fun b' o e1 e2=>hk b' o (by simpa using e1) e2) ⟨o,vs,ho,hd⟩ ⟨o',jQ⟩ b.base b.na no) fun m I'=>?_
  exact hP' _ (fun b' o e1 e2=>hk b' o (by simpa using e1) e2) m I' (rx _ _) ⟨Bs,b.base,b.na,b.ns,o',As,jQ,qG⟩
 done:=fun{env l α H s} I no nx st PP E k=>by
  refine bG st fun st b=>?_
  obtain⟨o,vs,n,ho,hc,hn,hd⟩:=ho _ _ st
  refine W.done s _ _ st fun h' tk hk=>?_
  have yP:∀b o,b≠I₀→s.heap.get? b=some o→h'.get? b=some o:=fun b' o e1 e2=>hk b' o (by simpa using e1) e2
  exact k _ yP (I.vt (s':={ s with heap:=h',toks:=tk }) yP ⟨o,vs,ho,hd⟩ b.base b.na no)
 self:=fun{i α s} _ P E st q=>W.self i s P E st.1 q
theorem Inv.push {o:ou}{vs:Array ai}(I:Inv c d A env l α H s) (hd:o.data=.fields vs) (hf:o.isFreed=false:=by rfl):bM A (cy env) α s.heap α (s.heap.push o)∧Inv c d A env l α H { s with heap:=s.heap.push o }∧mq c A s.heap.objs.size α (s.heap.push o):=by
 refine bG (I.grow (s':={ s with heap:=s.heap.push o }) gd) fun m I'=>?_
 have e:s.heap.get? s.heap.objs.size=none:=bR
 refine⟨m,I',?_,I.h.live e,fun q=>?_,o,vs,aX _ hf,hd⟩
 ·cases q:c.hb.get? s.heap.objs.size with
  |none=>rfl
  |some o=>rw[I.h.base _ _ q] at e;exact nS (fZ e)
 ·refine i8 (I.k.none q) fun _ _ o ho _=>?_
  rw[e] at ho;exact nS ho
theorem eS.d8 (b:List UInt8):eS kp c d A xB (.d8 b) (b.map fun x=>.int x.toNat) (fun _=>True):=fun env l α H s v I r _ P E k=>by
 refine al r.d8 fun t jW=>?_
 subst jW
 refine vW ?_
 refine bQ (I.push (o:={ cls:=.type "bytes_iterator",data:=.fields #[.bytes b.toArray t,.int 0 0] }) rfl) fun m I' B=>?_
 have W:=Md (prog:=c.prog) (w:=c.w) (A:=A) I.r.hd s.heap.objs.size b.toArray t
 have hl:b.toArray.size=(b.map fun x=>AV.int x.toNat).length:=by simp
 rw[hl] at W
 refine k s.heap.objs.size _ _ (Fd.tY W (fun i v ⟨x,u,hx,hv⟩=>⟨.int x.toNat,?_,fun h α=>hv▸iy⟩) (by intro i h lE;refine aL lE fun o ho hc hd=>?_;clear lE;exact⟨o,_,_,ho,hc,by decide +kernel,hd⟩)) m I' ⟨⟨_,aX _ rfl,rfl,rfl⟩,B⟩ bR
 rw[aK]
 rw[Cn] at hx
 rw[hx];rfl
theorem eS.str (x:bu):eS kp c d A xB (.str x) (x.cps.toList.map fun u=>.str ⟨#[u]⟩) (fun _=>True):=fun env l α H s v I r _ P E k=>by
 refine al r.str fun t jY=>?_
 subst jY
 refine wpAny_pyIter_strU ?_
 refine bQ (I.push (o:={ cls:=.type (sU x),data:=.fields #[.str x t,.int 0 0] }) rfl) fun m I' B=>?_
 have hl:x.cps.size=(x.cps.toList.map fun u=>AV.str ⟨#[u]⟩).length:=by simp
 have val:∀i v,SignAt x i v→∃y,(x.cps.toList.map fun u=>AV.str ⟨#[u]⟩)[i]?=some y∧∀h α,bO c h α y v:=by
  intro i v mr
  refine cB mr fun u tk hx hv=>?_
  clear mr
  refine⟨.str ⟨#[u]⟩,?_,fun h α=>hv▸Ko⟩
  rw[aK,eK,hx];rfl
 cases ha:x.cps.all (·<128) with
 |true=>
  have e:sU x="str_ascii_iterator":=by simp[sU,ha]
  rw[e] at m I' B ⊢
  have W:=Walks.strAscii (prog:=c.prog) (w:=c.w) (A:=A) I.r.hd s.heap.objs.size x t
  rw[hl] at W
  exact k s.heap.objs.size _ _ (Fd.tY W val (by intro i h nT;refine aL nT fun o ho hc hd=>?_;clear nT;exact⟨o,_,_,ho,hc,by decide +kernel,hd⟩)) m I' ⟨⟨_,aX _ rfl,rfl,rfl⟩,B⟩ bR
 |false=>
  have e:sU x="str_iterator":=by simp[sU,ha]
  rw[e] at m I' B ⊢
  have W:=Walks.strWide (prog:=c.prog) (w:=c.w) (A:=A) I.r.hd s.heap.objs.size x t
  rw[hl] at W
  exact k s.heap.objs.size _ _ (Fd.tY W val (by intro i h pU;refine aL pU fun o ho hc hd=>?_;clear pU;exact⟨o,_,_,ho,hc,by decide +kernel,hd⟩)) m I' ⟨⟨_,aX _ rfl,rfl,rfl⟩,B⟩ bR
theorem eS.tup (vs:List AV) (nx:mT kp vs=true):eS kp c d A xB (.tup vs) vs (fun _=>True):=fun env l α H s v I r _ P E k=>by
 refine aN r.tup fun a items nr ht rs=>?_
 subst nr
 refine vY ht ?_
 refine bQ (I.push (o:={ cls:=.type "tuple_iterator",data:=.fields #[.ref a,.int 0 0] }) rfl) fun m I' B=>?_
 refine k s.heap.objs.size (fun i α h=>h.IsTupleIter s.heap.objs.size a i∧(∃items,dn h a items∧bq c h α vs items.toList)∧mq c A s.heap.objs.size α h) _
  ⟨fun st=>st.2.2,?mono,?item,?done,fun _ P E st q=>wpAny_pyIter_tupleiter st.1 q⟩ m I' ⟨⟨_,aX _ rfl,rfl,rfl⟩,⟨items,ht.push _,rs.carry id fun t=>t.push _⟩,B⟩ bR
 case mono=>
  intro i aP gp bE eX H₁ own wa O S no m
  refine bQ wa fun jW jY b=>?_
  clear wa
  refine aq jW fun o ho st=>?_
  refine aq jY fun items t rr=>?_
  exact⟨⟨o,m.keep ho b.na no b.ns,st⟩,⟨items,m.tup O S t,rr.Pk m.pre (m.tup O S) nx⟩,b.mono m no⟩
 case item=>
  intro nz i x l₁ aP H₁ bf t Ni hx bl no _ Fc PP E' k'
  refine bQ Fc fun st nr b=>?_
  clear Fc
  refine aq nr fun items tt rr=>?_
  refine aq (rr.get hx) fun y hy ry=>?_
  refine wpAny_pyNext_tuple_item st tt (x:=y) (by simpa using hy) fun h' Bs hs=>k' y _ fun P' hP W4=>?_
  have Ah:=Bs
  refine aL Ah fun o' jQ Jy qG=>?_
  clear Ah
  refine letGo (s:={ bf with heap:=h' }) Ni jQ Jy (by decide +kernel) qG ?_
  refine aL st fun o ho hc hd=>?_
  clear st
  have v9:a≠s.heap.objs.size:=fun q=>by
   refine fU tt fun o2 Dd Y1 n2 Sv=>?_
   clear tt
   rw[q,ho] at Dd;replace Dd:=ae Dd;subst Dd;rw[hd] at Sv;cases Sv
  refine bG (bl.side (s':={ bf with heap:=h' }) (I₀:=s.heap.objs.size) (fun b' o e1 e2=>(hs.2 _ e1).trans e2) ⟨o,_,ho,hd⟩ ⟨o',jQ⟩ b.base b.na no) fun bZ vO=>?_
  have tk:∀{a:aD}{items:Array ai},dn bf.heap a items→dn h' a items:=fun{Va S2} ⟨o3,wz,UD,n3,Jx⟩=>⟨o3,(hs.2 _ (fun q=>by rw[q,ho] at wz;replace wz:=ae wz;subst wz;rw[hd] at Jx;cases Jx)).trans wz,UD,n3,Jx⟩
  exact hP _ (fun b' o e1 e2=>(hs.2 _ e1).trans e2) bZ vO (ry.carry id tk) ⟨Bs,⟨items,tk tt,rr.carry id tk⟩,b.base,b.na,b.ns,o',_,jQ,qG⟩
 case done=>
  intro nz l₁ aP H₁ bf bl no _ E7 PP E' k'
  refine bQ E7 fun st mU b=>?_
  clear E7
  refine aq mU fun items tt rr=>?_
  refine wpAny_pyNext_tuple_end bl.r.hd st tt (by rw[←eK];exact cF (by rw[rr.length];exact aA _)) fun h' hs=>?_
  refine aL st fun o ho hc hd=>?_
  clear st
  have yP:∀b o,b≠s.heap.objs.size→bf.heap.get? b=some o→h'.get? b=some o:=fun b' o e1 e2=>hs b' o e1 e2
  exact k' _ yP (bl.vt (s':={ bf with heap:=h' }) yP ⟨o,_,ho,hd⟩ b.base b.na no)
theorem eS.list (n:Nat) (vs:List AV) (hn:n<kp):eS kp c d A xB (.obj n) vs (fun H=>H[n]?=some (.list vs)):=fun env l α H s v I r nx P E k=>by
 refine aL (I.h.look nx r) fun p e3 mU cr=>?_
 subst mU
 refine aq cr.isList fun items hl rs=>?_
 refine Rt hl ?_
 refine bQ (I.push (o:={ cls:=.type "list_iterator",data:=.fields #[.ref p.1,.int 0 0] }) rfl) fun m I' B=>?_
 refine k s.heap.objs.size (fun i α h=>h.IsListIter s.heap.objs.size p.1 i∧α[n]?=some p∧mq c A s.heap.objs.size α h) _
  ⟨fun st=>st.2.2,?mono,?item,?done,fun _ P E st q=>wpAny_pyIter_listiter st.1 q⟩ m I' ⟨⟨_,aX _ rfl,rfl,rfl⟩,e3,B⟩ bR
 case mono=>
  intro i aP gp bE eX H₁ own Io O S no m
  refine bQ Io fun nF ea b=>?_
  clear Io
  refine aq nF fun o ho st=>?_
  exact⟨⟨o,m.keep ho b.na no b.ns,st⟩,m.pre hn ea,b.mono m no⟩
 case item=>
  intro nz i x l₁ aP H₁ bf t Ni hx bl no lb MR PP E' k'
  refine bQ MR fun st ea b=>?_
  clear MR
  refine aq ((bl.h.cell lb ea).isList) fun items hl rr=>?_
  refine aq (rr.get hx) fun y hy ry=>?_
  refine wpAny_pyNext_list_item st hl (x:=y) (by simpa using hy) fun h' Bs hs=>k' y _ fun P' hP W4=>?_
  have Ah:=Bs
  refine aL Ah fun o' jQ Jy qG=>?_
  clear Ah
  refine letGo (s:={ bf with heap:=h' }) Ni jQ Jy (by decide +kernel) qG ?_
  refine aL st fun o ho hc hd=>?_
  clear st
  refine bG (bl.side (s':={ bf with heap:=h' }) (I₀:=s.heap.objs.size) (fun b' o e1 e2=>(hs.2 _ e1).trans e2) ⟨o,_,ho,hd⟩ ⟨o',jQ⟩ b.base b.na no) fun bZ vO=>?_
  have tk:∀{a:aD}{items:Array ai},dn bf.heap a items→dn h' a items:=fun{Va S2} ⟨o3,wz,UD,n3,Jx⟩=>⟨o3,(hs.2 _ (fun q=>by rw[q,ho] at wz;replace wz:=ae wz;subst wz;rw[hd] at Jx;cases Jx)).trans wz,UD,n3,Jx⟩
  exact hP _ (fun b' o e1 e2=>(hs.2 _ e1).trans e2) bZ vO (ry.carry id tk) ⟨Bs,ea,b.base,b.na,b.ns,o',_,jQ,qG⟩
 case done=>
  intro nz l₁ aP H₁ bf bl no lb Iv PP E' k'
  refine bQ Iv fun st ea b=>?_
  clear Iv
  refine aq ((bl.h.cell lb ea).isList) fun items hl rr=>?_
  refine wpAny_pyNext_list_end bl.r.hd st hl (by rw[←eK];exact cF (by rw[rr.length];exact aA _)) fun h' hs=>?_
  refine aL st fun o ho hc hd=>?_
  clear st
  have yP:∀b o,b≠s.heap.objs.size→bf.heap.get? b=some o→h'.get? b=some o:=fun b' o e1 e2=>hs b' o e1 e2
  exact k' _ yP (bl.vt (s':={ bf with heap:=h' }) yP ⟨o,_,ho,hd⟩ b.base b.na no)
end
end
section
open PySem PySem.W PySem.Calls PyProof.Rows
noncomputable def fH (a b st:Int):List AV:=(bh (cS a b st).toNat).map fun(i:Nat)=>.int (a+(i:Int)*st)
section
variable {c:Cx}{d:Nat}{A:aU}{env:dH}{l l':Loc}{α bD cq:Am}{h h' h₀:cb}{H H':List ag}{s s':aH}
variable {Q:AV→List ag→Prop}{QB:Bool→List ag→Prop}{X:List ag→Prop}{pos:ij}{own own':aD→Prop}{QU:Loc→List ag→Prop}{kp:Nat}{SQ:AF→Loc→List ag→Prop}
theorem zu {f:Expr}{es:List Expr}{v:ai}{P:ai→aH→Prop}{QA:List AV→List ag→Prop}(k:gX c v)
  (G5:gr (.Call f es [] pos) env=(do lS pos (←gr f env) [] (mA pos (dR es env)) [])) (i4:dR es env=es.map fun e=>(false,gr e env))
  (wf:WE c d A env f l H (fun a H1=>a=.fix v∧WA c d A env es l H1 QA X) X) (I:Inv c d A env l α H s)
  (hp:∀bE cX vs as e8,bM A (cy env) α s.heap bE cX.heap→Inv c d A env l bE e8 cX→bq c cX.heap bE as vs→QA as e8→bj c.M A (PySem.call v vs) P (kF c A env α s.heap X) cX) :
  bj c.M A (gr (.Call f es [] pos) env) P (kF c A env α s.heap X) s:=by
 rw[G5]
 refine ak (au (wf α s I) (fun v' bf p=>?_) fun _ _ e=>e)
 obtain⟨a,aP,H₁,bZ,bl,fF,rfl,yk⟩:=p
 cases fF.fix
 rw[oU i4]
 refine yT (P:=fun h=>c.K.In h) (by simp) (fun h X=>k.CO h X) (j9 ?_)
 exact au (yk aP bf bl) (by intro vs cX lE;obtain⟨as,bE,e8,cV,cA,jA,pY⟩:=lE;exact⟨cA.qn,hp bE cX vs as e8 (bZ.trans cV) cA jA pY⟩) fun _ _ e=>e.weak bZ
theorem vD {a b st:Int}{r:aD}{t u v:Tok}{QI:List AV→(List ag→Prop)→List ag→Prop}{E:ai→aH→Prop}(hr:IsRange s.heap r a b st t u v) (hs:wg a b st=true) (hn:0≤cS a b st)
  (I:Inv c d A env l α H s) (m:bM A (cy env) cq h₀ α s.heap) (q:QI (fH a b st) (fun _=>True) H) :
  bj c.M A (Jl (.ref r)) (IL kp c d A env xB l cq h₀ QI) E s:=by
 refine wpAny_pyIter_range hr hs ?_
 refine bQ (I.push (o:={ cls:=.type "range_iterator",data:=.fields #[ib a,ib (cS a b st),ib st] }) rfl) fun m' I' B=>?_
 have W:=(Walks.range (prog:=c.prog) (w:=c.w) (A:=A) I.r.hd s.heap.objs.size a st (cS a b st).toNat).bound
 have hl:(cS a b st).toNat=(fH a b st).length:=by unfold fH;simp
 rw[hl] at W
 refine⟨s.heap.objs.size,_,fH a b st,fun _=>True,H,α,rfl,Fd.tY W (fun i v ⟨hi,t,hv⟩=>⟨.int (a+i*st),?_,fun h α=>hv▸iy⟩) fun i h e=>⟨_,_,_,e,rfl,by decide +kernel,rfl⟩,m.trans m',I',⟨?_,B⟩,m.gone bR,I.xy bR,q⟩
 ·rw[←hl] at hi
  unfold fH
  rw[aK,cH hi];rfl
 ·show IsRangeIter _ _ _ _ _
  rw[←hl,rP hn]
  simpa using aX s.heap (o:={ cls:=.type "range_iterator",data:=.fields #[ib a,ib (cS a b st),ib st] }) rfl
noncomputable def Mz (as:List AV) (a b st:Int):Prop:=(as=[.int b]∧a=0∧st=1)∨(as=[.int a,.int b]∧st=1)∨as=[.int a,.int b,.int st]
theorem WI.range {f:Expr}{es:List Expr}{QI:List AV→(List ag→Prop)→List ag→Prop}
  (G5:gr (.Call f es [] pos) env=(do lS pos (←gr f env) [] (mA pos (dR es env)) [])) (i4:dR es env=es.map fun e=>(false,gr e env))
  (wf:WE c d A env f l H (fun a H1=>a=.fix (.type "range")∧WA c d A env es l H1 (fun as H2=>∃a b st,Mz as a b st∧(st=1∨st = -1)∧(-(2^62)≤a∧a<2^62∧-(2^62)≤b∧b<2^62)∧QI (fH a b st) (fun _=>True) H2) X) X) :
  WI kp c d A env xB (.Call f es [] pos) l H QI X:=fun α s I=>by
 refine zu (.inr (.inr ⟨_,rfl⟩)) G5 i4 wf I fun bE cX vs as e8 cV cA jA p=>?_
 refine cx p fun a b st ra i4 ix q=>?_
 clear p
 refine dm ix fun b1 b2 b3 b4=>?_
 have v7:wg a b st=true:=by
  rcases i4 with rfl | rfl
  ·exact small_one b1 b2 b3 b4
  ·exact small_down b1 b2 b3 b4
 have hn:0≤cS a b st:=by
  rcases i4 with rfl | rfl
  ·rw[rangeSize_one];split
   ·exact EZ (iY ‹_›)
   ·exact dQ 0
  ·rw[rangeSize_down];split
   ·exact EZ (iY ‹_›)
   ·exact dQ 0
 rcases ra with⟨rfl,rfl,rfl⟩ | ⟨rfl,rfl⟩ | rfl
 ·refine aq jA.one fun v jS rv=>?_
  subst jS
  obtain⟨t,rfl⟩:=rv.int
  refine call_range_1 ?_
  refine bQ (cA.push (o:={ cls:=.type "range",data:=.fields #[.int 0 cX.toks,.int b t,.int 1 (cX.toks+1)] }) rfl) fun m' I' B=>?_
  exact vD (AE ..) v7 hn I'.toks (cV.trans m') q
 ·refine aN jA.two fun v w jY rv Ju=>?_
  subst jY
  obtain⟨t,rfl⟩:=rv.int
  obtain⟨u,rfl⟩:=Ju.int
  refine call_range_2 ?_
  refine bQ (cA.push (o:={ cls:=.type "range",data:=.fields #[.int a t,.int b u,.int 1 cX.toks] }) rfl) fun m' I' B=>?_
  exact vD (AE ..) v7 hn I'.toks (cV.trans m') q
 ·refine cx jA.three fun v w x nF rv Ju rx=>?_
  subst nF
  obtain⟨t,rfl⟩:=rv.int
  obtain⟨u,rfl⟩:=Ju.int
  obtain⟨y,rfl⟩:=rx.int
  refine call_range_3 (by exact aW [] [_] [.O (.e bJ bP) (.e bJ (.n bP))] (.N (.e bJ dE)) (.o jf xn) rfl i4) ?_ (.inl (yI (NF i4)))
  refine bQ (cA.push (o:={ cls:=.type "range",data:=.fields #[.int a t,.int b u,.int st y] }) rfl) fun m' I' B=>?_
  exact vD (AE ..) v7 hn I'.toks (cV.trans m') q
theorem da.key {kvs:List (Int×AV)}:∀{kv:List (Int×ai)}{i:Nat}{x:Int×AV},da c h α kvs kv→kvs[i]?=some x→∃w,kv[i]?=some (x.1,w)∧bO c h α x.2 w:=by
 induction kvs with
 |nil=>exact fun _ e=>nS e
 |cons p r ih=>
  intro kv i x dr e
  refine aN dr fun v r' gD rv rr=>?_
  subst gD
  cases i with
  |zero=>
   replace e:=ae e
   subst e
   exact⟨v,rfl,rv⟩
  |succ i=>exact ih (i:=i) rr e
theorem eS.keys (n:Nat) (kvs:List (Int×AV)) (ep:Nat) (Un:n<kp):eS kp c d A xB (.obj n) (kvs.map fun kv=>.int kv.1) (fun H=>H[n]?=some (.eV kvs ep)):=fun env l α H s v I r nx P E k=>by
 refine aL (I.h.look nx r) fun p e3 mh cr=>?_
 subst mh
 obtain⟨kv,hd,dr,e2,hm⟩:=cr
 refine wpAny_pyIter_dict hm hd ?_
 refine bQ (I.push (o:={ cls:=.type "dict_keyiterator",data:=.fields #[.ref p.1,.int 0 0,.int kv.length 0,.int ep 0] }) rfl) fun m I' B=>?_
 have qz:kv.length=kvs.length:=dr.length
 refine k s.heap.objs.size (fun i α h=>h.IsKeyIter s.heap.objs.size p.1 i kvs.length ep∧α[n]?=some p∧mq c A s.heap.objs.size α h) _
  ⟨fun st=>st.2.2,?mono,?item,?done,fun _ P E st q=>wpAny_pyIter_keyiter st.1 q⟩ m I' ⟨⟨_,aX _ rfl,rfl,by rw[qz];rfl⟩,e3,B⟩ bR
 case mono=>
  intro i aP gp bE eX H₁ own mr O S no m
  refine bQ mr fun lh ea b=>?_
  clear mr
  refine aq lh fun o ho st=>?_
  exact⟨⟨o,m.keep ho b.na no b.ns,st⟩,m.pre Un ea,b.mono m no⟩
 case item=>
  intro nz i x l₁ aP H₁ bf t Ni hx bl no lb nT PP E' k'
  refine bQ nT fun st ea b=>?_
  clear nT
  obtain⟨HK,vy,mR,_,_⟩:=bl.h.cell lb ea
  have hi:i<kvs.length:=by have:=(ao.mp hx).1;simpa using this
  have Um:kvs[i]?=some kvs[i]:=aw hi
  refine aq (mR.key Um) fun w hw Ju=>?_
  rw[←mR.length] at st
  refine wpAny_pyNext_dict_item st vy hw fun key h' QC Bs hs=>k' key _ fun P' hP W4=>?_
  rw[mR.length] at Bs
  have Ah:=Bs
  refine aL Ah fun o' jQ Jy qG=>?_
  clear Ah
  refine letGo (s:={ bf with heap:=h' }) Ni jQ Jy (by decide +kernel) qG ?_
  refine aL st fun o ho hc hd=>?_
  clear st
  obtain⟨bZ,vO⟩:=bl.side (s':={ bf with heap:=h' }) (I₀:=s.heap.objs.size) (fun b' o e1 e2=>(hs.2 _ e1).trans e2) ⟨o,_,ho,hd⟩ ⟨o',jQ⟩ b.base b.na no
  refine hP _ (fun b' o e1 e2=>(hs.2 _ e1).trans e2) bZ vO ?_ ⟨Bs,ea,b.base,b.na,b.ns,o',_,jQ,qG⟩
  rw[aK,Um] at hx
  replace hx:=ae hx
  subst hx
  obtain⟨t,rfl⟩:=sV QC
  exact iy
 case done=>
  intro nz l₁ aP H₁ bf bl no lb pU PP E' k'
  refine bQ pU fun st ea b=>?_
  clear pU
  obtain⟨HK,vy,mR,_,_⟩:=bl.h.cell lb ea
  rw[←mR.length] at st
  refine wpAny_pyNext_dict_end bl.r.hd st vy (cF (by rw[mR.length];simp)) fun h' hs=>?_
  refine aL st fun o ho hc hd=>?_
  clear st
  have yP:∀b o,b≠s.heap.objs.size→bf.heap.get? b=some o→h'.get? b=some o:=fun b' o e1 e2=>hs b' o e1 e2
  exact k' _ yP (bl.vt (s':={ bf with heap:=h' }) yP ⟨o,_,ho,hd⟩ b.base b.na no)
theorem gw.toX {n:Nat}{kvs:List (Int×AV)}(O:gw c h α H) (e:H[n]?=some (.dict kvs)):∃ep,gw c h α (H.set n (.eV kvs ep)):=by
 have hn:n<H.length:=(ao.mp e).1
 have hp:α[n]?=some (α[n]'(by rw[O.len];exact hn)):=aw _
 obtain⟨kv,hd,dr,e2,hm⟩:=O.cell e hp
 obtain⟨ep,hd⟩:=hd.dictAt
 refine⟨ep,by rw[dG];exact O.len,fun{k x q} e1 e3=>?_,O.apart,O.base,O.new⟩
 by_cases hk:n=k
 ·subst hk
  rw[hp] at e3;replace e3:=ae e3;subst e3
  rw[ew hn] at e1;replace e1:=ae e1;subst e1
  exact⟨kv,hd,dr,e2,hm⟩
 ·rw[cN hk] at e1
  exact O.cell e1 e3
theorem gw.ofX {n:Nat}{kvs:List (Int×AV)}{ep:Nat}(O:gw c h α H) (e:H[n]?=some (.eV kvs ep)):gw c h α (H.set n (.dict kvs)):=by
 have hn:n<H.length:=(ao.mp e).1
 have hp:α[n]?=some (α[n]'(by rw[O.len];exact hn)):=aw _
 obtain⟨kv,hd,dr,e2,hm⟩:=O.cell e hp
 refine⟨by rw[dG];exact O.len,fun{k x q} e1 e3=>?_,O.apart,O.base,O.new⟩
 by_cases hk:n=k
 ·subst hk
  rw[hp] at e3;replace e3:=ae e3;subst e3
  rw[ew hn] at e1;replace e1:=ae e1;subst e1
  exact⟨kv,hd.dictOf,dr,e2,hm⟩
 ·rw[cN hk] at e1
  exact O.cell e1 e3
theorem VS.toX {m:Nat}{ss:List eF}{n:Nat}{kvs:List (Int×AV)}(e:H[n]?=some (.dict kvs)) (w:∀ep,VS c d m A env ss l (H.set n (.eV kvs ep)) SQ X):VS c d m A env ss l H SQ X:=fun α s I=>by
 obtain⟨ep,O⟩:=I.h.toX e
 exact w ep α s ⟨I.ok,I.e,I.r,I.top,O,I.f,I.k⟩
noncomputable def N0 (t:Expr):Prop:=∃es k p,t=.Tuple es k p
theorem Ii {n:Nat}(Un:n<kp){kvs:List (Int×AV)}{ep:Nat}{v:aD}{p:aD×aD}{QI:List AV→(List ag→Prop)→List ag→Prop}{E:ai→aH→Prop}(nx:H[n]?=some (.eV kvs ep)) (e3:α[n]?=some p) (hv:s.heap.IsItemsView v p.1)
  (I:Inv c d A env l α H s) (m:bM A (cy env) cq h₀ α s.heap) (q:QI (kvs.map fun kv=>.tup [.int kv.1,kv.2]) (fun H=>H[n]?=some (.eV kvs ep)) H) :
  bj c.M A (Jl (.ref v)) (IL kp c d A env N0 l cq h₀ QI) E s:=by
 obtain⟨kv,hd,dr,e2,hm⟩:=I.h.cell nx e3
 refine wpAny_pyIter_items hv hd ?_
 refine bQ (I.push (o:={ cls:=.type "dict_itemiterator",data:=.fields #[.none,.bool false,.ref p.1,.int 0 0,.int kv.length 0,.int ep 0,.none,.none] }) rfl) fun m' I' B=>?_
 refine⟨s.heap.objs.size,fun i α h=>(∃ok ov,IsItemIter h s.heap.objs.size p.1 i kvs.length ep ok ov)∧α[n]?=some p∧mq c A s.heap.objs.size α h,_,_,H,α,rfl,
  ⟨fun st=>st.2.2,?mono,?item,?done,?self⟩,m.trans m',I',⟨⟨_,_,by rw[←dr.length];exact aX _ rfl⟩,e3,B⟩,m.gone bR,I.xy bR,q⟩
 case self=>
  intro i aP bf wa
  refine fX wa fun x p uD=>?_
  clear wa
  refine fX uD fun es kk uM=>?_
  refine al uM fun px e=>?_
  cases e
 case mono=>
  intro i aP gp bE eX H₁ own Fc O S no m
  refine bQ Fc fun Hl ea b=>?_
  clear Fc
  refine fX Hl fun ok ov st=>?_
  exact⟨⟨ok,ov,m.keep st b.na no b.ns⟩,m.pre Un ea,b.mono m no⟩
 case item=>
  intro nz i x l₁ aP H₁ bf t Ni hx bl no lb E7 PP E' k'
  refine bQ E7 fun xF ea b=>?_
  clear E7
  refine fX xF fun ok ov st=>?_
  obtain⟨HK,vy,mR,_,_⟩:=bl.h.cell lb ea
  have hi:i<kvs.length:=by have:=(ao.mp hx).1;simpa using this
  have Um:kvs[i]?=some kvs[i]:=aw hi
  refine aq (mR.key Um) fun w hw Ju=>?_
  have AN:=st
  rw[←mR.length] at st
  refine wpAny_pyNext_items_item st vy hw fun key h' QC Bs ht' kR hs=>k' _ _ fun P' hP W4=>?_
  rw[mR.length] at Bs
  rw[aK,Um] at hx
  replace hx:=ae hx
  subst hx
  obtain⟨t,rfl⟩:=sV QC
  have v9:s.heap.objs.size≠bf.heap.objs.size:=bV (bU AN)
  have fin:∀(eX:cb) FR Vy f0,eX.get? s.heap.objs.size=some { cls:=.type "dict_itemiterator",dict:=none,data:=.fields #[f0,.bool false,.ref p.1,.int ((i+1:Nat):Int) 0,.int kvs.length 0,.int ep 0,FR,Vy],slots:=#[] }→(∀b o,b≠s.heap.objs.size→h'.get? b=some o→eX.get? b=some o) →
    bM A (fun b=>cy nz b∨b=s.heap.objs.size) aP bf.heap aP eX∧Inv c d A nz l₁ aP H₁ { bf with heap:=eX }∧bO c eX aP (.tup [.int kvs[i].1,kvs[i].2]) (.ref bf.heap.objs.size):=by
   intro eX FR Vy f0 eI ya
   have hk:∀b o,b≠s.heap.objs.size→bf.heap.get? b=some o→eX.get? b=some o:=fun b o e1 e2=>ya b o e1 (hs b o e1 e2)
   obtain⟨bZ,vO⟩:=bl.side (s':={ bf with heap:=eX }) (I₀:=s.heap.objs.size) hk ⟨_,_,AN,rfl⟩ ⟨_,eI⟩ b.base b.na no
   have tk:∀{a:aD}{items:Array ai},dn bf.heap a items→dn eX a items:=fun{Va S2} ⟨o3,wz,UD,n3,Jx⟩=>⟨o3,hk _ _ (fun q=>by rw[q,AN] at wz;replace wz:=ae wz;subst wz;cases Jx) wz,UD,n3,Jx⟩
   exact⟨bZ,vO,RB ⟨_,ya _ _ (gS v9) ht',rfl,_,rfl⟩ (eC iy (eC (Ju.carry id tk) jD))⟩
  refine fX Ni fun es kk ZH=>?_
  clear Ni
  refine al ZH fun px xV=>?_
  subst xV
  refine wpAny_letOwnedTupleGo_items (s:={ bf with heap:=h' }) Bs fun eX jw C9=>?_
  refine bQ (fin eX _ _ _ jw fun b o e1 e2=>(C9.2 b e1).trans e2) fun f1 f2 f3=>?_
  exact hP _ (fun b o e1 e2=>(C9.2 b e1).trans (hs b o e1 e2)) f1 f2 f3 ⟨⟨_,_,jw⟩,ea,b.base,b.na,b.ns,_,_,jw,rfl⟩
 case done=>
  intro nz l₁ aP H₁ bf bl no lb Io PP E' k'
  refine bQ Io fun HT ea b=>?_
  clear Io
  refine fX HT fun ok ov st=>?_
  obtain⟨HK,vy,mR,_,_⟩:=bl.h.cell lb ea
  have AN:=st
  rw[←mR.length] at st
  refine wpAny_pyNext_items_end bl.r.hd st vy (cF (by rw[mR.length];simp)) fun h' hs=>?_
  have yP:∀b o,b≠s.heap.objs.size→bf.heap.get? b=some o→h'.get? b=some o:=fun b' o e1 e2=>hs b' o e1 e2
  exact k' _ yP (bl.vt (s':={ bf with heap:=h' }) yP ⟨_,_,AN,rfl⟩ b.base b.na no)
end
end
section
open PySem PySem.W PySem.Calls PyProof.Rows
section
variable {c:Cx}{d:Nat}{A:aU}{env:dH}{l l':Loc}{α bD cq:Am}{h h' h₀:cb}{H H':List ag}{s s':aH}
variable {Q:AV→List ag→Prop}{QB:Bool→List ag→Prop}{X:List ag→Prop}{pos:ij}{own own':aD→Prop}{QU:Loc→List ag→Prop}{kp:Nat}{SQ:AF→Loc→List ag→Prop}
theorem WU.aName {x:bu}{p:ij}{a:AV}(w:WU c d A env (fun vs=>p9 env x (vs[0]?.getD .none)) [a] l H QU X):WU c d A env (fun vs=>iL (.Name x p) env (vs[0]?.getD .none)) [a] l H QU X:=
 fun α s vs I r=>Ru (w α s vs I r)
theorem WU.Tq {x:bu}{a:AV}(w:WU c d A env (fun vs=>p9 env x (vs[0]?.getD .none)) [a] l H QU X):WU c d A env (fun vs=>bindName env x (vs[0]?.getD .none)) [a] l H QU X:=
 fun α s vs I r=>wpAny_bindName (w α s vs I r)
theorem WU.Ua {o:Expr}{name:bu}{p:ij}{a:AV}(w:WE c d A env o l H (fun b H2=>WU c d A env (fun vs=>PySem.setAttr (vs[0]?.getD .none) name (vs[1]?.getD .none)) [b,a] l H2 QU X) X) :
  WU c d A env (fun vs=>iL (.Attribute o name p) env (vs[0]?.getD .none)) [a] l H QU X:=fun α s vs I r=>by
 refine aq r.one fun v gD rv=>?_
 subst gD
 show bj c.M A (do let ov ←lG [v] (gr o env);qV p.atName;lG [v,ov] (PySem.setAttr ov name v);release [v,ov] []) _ _ s
 refine ak (cu (au (w α s I) (fun ov bf eT=>?_) fun _ _ e=>e))
 obtain⟨b,aP,H₁,bZ,bl,fF,i9⟩:=eT
 refine ak (iB (ak (cu (au (i9 aP bf [ov,v] bl (eC fF (eC (rv.mono bZ I.h I.solid) jD))) (fun _ cX eT=>?_) fun _ _ e=>e.weak bZ))))
 obtain⟨l₂,bE,e8,cV,cA,q⟩:=eT
 exact wpAny_release ⟨l₂,bE,e8,bZ.trans cV,cA,q⟩
noncomputable def R4 (i:Expr) (v ov iv:ai):List ai:=match i with | .Slice _ _ none _=>[iv,v,ov] | _=>[v,ov,iv]
theorem Kc (o i:Expr) (p:ij) (v:ai):iL (.Subscript o i p) env v=(do let ov ←lG [v] (gr o env);let iv ←lG [v,ov] (gr i env);qV p;lG [v,ov,iv] (PySem.setItem ov iv v);release (R4 i v ov iv) []):=rfl
theorem WU.aSub {o i:Expr}{p:ij}{a:AV}(w:WE c d A env o l H (fun b H2=>WE c d A env i l H2 (fun k H3=>WU c d A env (fun vs=>setItem (vs[0]?.getD .none) (vs[1]?.getD .none) (vs[2]?.getD .none)) [b,k,a] l H3 QU X) X) X) :
  WU c d A env (fun vs=>iL (.Subscript o i p) env (vs[0]?.getD .none)) [a] l H QU X:=fun α s vs I r=>by
 refine aq r.one fun v jW rv=>?_
 subst jW
 show bj c.M A (iL (.Subscript o i p) env v) _ _ s
 rw[Kc]
 refine ak (cu (au (w α s I) (fun ov bf eT=>?_) fun _ _ e=>e))
 obtain⟨b,aP,H₁,bZ,bl,fF,i9⟩:=eT
 refine ak (cu (au (i9 aP bf bl) (fun iv cX eT=>?_) fun _ _ e=>e.weak bZ))
 obtain⟨k,bE,e8,cV,cA,jA,nJ⟩:=eT
 have m:=bZ.trans cV
 refine ak (iB (ak (cu (au (nJ bE cX [ov,iv,v] cA (eC (fF.mono cV bl.h bl.solid) (eC jA (eC ((rv.mono bZ I.h I.solid).mono cV bl.h bl.solid) jD)))) (fun _ hG eT=>?_) fun _ _ e=>e.weak m))))
 obtain⟨sj,fh,kZ,gW,fP,q⟩:=eT
 exact wpAny_release ⟨sj,fh,kZ,m.trans gW,fP,q⟩
theorem WU.nil {fs:List (ai→rU Unit)}(hf:fs=[]∨True) (q:QU l H):WU c d A env (fun vs=>iC [] vs) [] l H QU X:=fun α s vs I r=>by
 cases r.nil
 exact aQ ⟨l,α,H,.refl ..,I,q⟩
theorem WU.cons {f:ai→rU Unit}{fs:List (ai→rU Unit)}{a:AV}{as:List AV}(w:WU c d A env (fun vs=>f (vs[0]?.getD .none)) [a] l H (fun l1 H1=>WU c d A env (fun vs=>iC fs vs) as l1 H1 QU X) X) :
  WU c d A env (fun vs=>iC (f::fs) vs) (a::as) l H QU X:=fun α s vs I r=>by
 refine aN r.cons fun v As nF rv rs=>?_
 subst nF
 show bj c.M A (do lG As (f v);iC fs As) _ _ s
 refine ak (cu (au (w α s [v] I (eC rv jD)) (fun _ bf eT=>?_) fun _ _ e=>e))
 obtain⟨l₁,aP,H₁,bZ,bl,i9⟩:=eT
 exact MU bZ (i9 aP bf As bl (rs.mono bZ I.h I.solid))
theorem WU.Yv {es:List Expr}{k:Nat}{p:ij}{vs:List AV}(hn:es.length=vs.length) (hl:(qW es env).length=es.length) (MG:(qW es env).findIdx? (·.1)=none)
  (w:WU c d A env (fun xs=>iC ((qW es env).map (·.2)) xs) vs l H QU X):WU c d A env (fun xs=>iL (.Tuple es k p) env (xs[0]?.getD .none)) [.tup vs] l H QU X:=fun α s xs I r=>by
 refine aq r.one fun x lh rx=>?_
 subst lh
 refine aN rx.tup fun a items j3 ht rs=>?_
 subst j3
 have kR:items.size=vs.length:=by rw[←rs.length];simp
 refine assign_Tuple_tuple I.r.hd ht (by rw[hl,hn,kR]) MG fun h' he=>?_
 refine bG (I.grow (s':={ s with heap:=h' }) fun b o e=>he b o (bV (bU e)) e) fun m I'=>?_
 exact MU m (w α _ items.toList I' (rs.mono m I.h I.solid))
theorem WX.Od {es:List Expr}{k:Nat}{tp:ij}{lV:Expr}(hs:swapsWithSole [.Tuple es k tp] lV pos.line env=pure false) (hw:jO [.Tuple es k tp] lV env=pure none)
  (w:WE c d A env lV l H (fun a H1=>WU c d A env (fun xs=>iL (.Tuple es k tp) env (xs[0]?.getD .none)) [a] l H1 (fun l' H'=>SQ .next l' H') X) X):WX c d A env (.Assign [.Tuple es k tp] lV pos) l H SQ X:=fun α s I=>by
 refine Assign_Tuple (au (w α s I) (fun v bf eT=>?_) fun _ _ e=>e) hs hw
 obtain⟨a,aP,H₁,bZ,bl,fF,i9⟩:=eT
 exact au (i9 aP bf [v] bl (eC fF jD)) (by rintro u' cX ⟨l₂,bE,e8,cV,cA,q⟩;exact⟨.next,l₂,bE,e8,bZ.trans cV,cA,rfl,q⟩) fun _ _ e=>e.weak bZ
theorem WX.Ux {es:List Expr}{k:Nat}{tp:ij}{lV:Expr}{names:List bu}(hs:swapsWithSole [.Tuple es k tp] lV pos.line env=pure false) (hw:jO [.Tuple es k tp] lV env=pure (some names))
  (w:WE c d A env lV l H (fun a H1=>∃vs,a=.tup vs∧names.length=vs.length∧WU c d A env (fun xs=>iC (names.reverse.map fun n=>bindName env n) xs) vs.reverse l H1 (fun l' H'=>SQ .next l' H') X) X) :
  WX c d A env (.Assign [.Tuple es k tp] lV pos) l H SQ X:=fun α s I=>by
 refine Assign_Tuple_swapped (names:=names) (au (w α s I) (fun v bf p=>?_) fun _ _ e=>e) hs hw
 obtain⟨a,aP,H₁,bZ,bl,fF,vs,rfl,hn,i9⟩:=p
 refine aN fF.tup fun b items mh ht rs=>?_
 subst mh
 have kR:items.size=vs.length:=by rw[←rs.length];simp
 rw[hn,←kR]
 refine unpackItems_tuple bl.r.hd ht fun h' he=>?_
 refine bG (bl.grow (s':={ bf with heap:=h' }) fun b o e=>he b o (bV (bU e)) e) fun m I'=>?_
 have m1:=bZ.trans m
 exact au (i9 aP _ items.toList.reverse I' (rs.mono m bl.h bl.solid).rev) (by rintro u' cX ⟨l₂,bE,e8,cV,cA,q⟩;exact⟨.next,l₂,bE,e8,m1.trans cV,cA,rfl,q⟩) fun _ _ e=>e.weak m1
theorem WI.items {o:Expr}{pd:ij}{pl:rU Bool}{QI:List AV→(List ag→Prop)→List ag→Prop}
  (G5:gr (.Call (.Attribute o "items" pd) [] [] pos) env=(do
   let ov ←gr o env
   qV pd.atName
   let(f,first) ←lG [ov] (kh ov "items" pl)
   lS pos f first (mA pos (dR [] env)) (Cm pos (sQ [] env))))
  (w:WE c d A env o l H (fun a H1=>∃n kvs ep,a=.obj n∧n<kp∧H1[n]?=some (.eV kvs ep)∧QI (kvs.map fun kv=>.tup [.int kv.1,kv.2]) (fun H=>H[n]?=some (.eV kvs ep)) H1) X) :
  WI kp c d A env N0 (.Call (.Attribute o "items" pd) [] [] pos) l H QI X:=fun α s I=>by
 rw[G5]
 refine ak (au (w α s I) (fun x bf p=>ak (iB (ak (cu ?_)))) fun _ _ e=>e)
 obtain⟨a,aP,H₁,bZ,bl,fF,n,kvs,ep,rfl,Un,nx,q⟩:=p
 refine H7 PySem.F.slot_dict_items PySem.F.type_dict_items (.inr ⟨n,rfl,.inr ⟨ep,nx⟩⟩) aP bf x bl fF _ _ ?_
 refine aL (bl.h.look nx fF) fun p e3 sL cr=>?_
 subst sL
 obtain⟨kv,hd,dr,e2,hm⟩:=cr
 show bj c.M A (lS pos (.builtin "dict.items") [.ref p.1] (mA pos (dR [] env)) []) _ _ bf
 rw[oU (pos:=pos) (es:=[]) rfl]
 refine yT (P:=fun h=>c.K.In h) (by simp) (fun h X=>(gX.CO (c:=c) (v:=.builtin "dict.items") (.inr (.inl ⟨_,rfl⟩)) h X)) (j9 ?_)
 refine L9 ⟨bl.qn,?_⟩
 refine Jj PySem.F.slot_dict_items hd.dictOf.typeIs PySem.F.entry_dict_items (PySem.F.args_dict_items_1 _) (meets_dict_items (ia c.prog c.w) p.1 hm) ⟨⟨kv,hd.dictOf⟩,?_⟩
 refine bQ (bl.push (o:={ cls:=.type "dict_items",data:=.fields #[.ref p.1] }) rfl) fun m' I' B=>?_
 exact Ii Un nx e3 ⟨_,aX _ rfl,rfl,rfl⟩ I' (bZ.trans m') q
end
end
section
open PySem PySem.W PySem.Calls PyProof.Rows
noncomputable def g5 (env:dH):List (bu×bc)→List (bu×aD)→List (bu×aD)
 |[],cs=>cs
 |(n,k)::r,cs=>g5 env r (if k==.free then (n,(env.cells.lookup n).getD 0)::cs else cs)
theorem B1 {env:dH}:∀{names:List (bu×bc)}{cs:List (bu×aD)},(∀y,(y,bc.free)∈names→∃b,env.cells.lookup y=some b) →
  (forIn names cs fun(x:bu×bc) (r:List (bu×aD))=>if (x.2==bc.free)=true then (do let a ←cellOf env x.1;pure (iP ((x.1,a)::r)):rU (ForInStep (List (bu×aD)))) else pure (iP r))=(pure (g5 env names cs):rU (List (bu×aD))):=by
 intro us
 induction us with
 |nil=>
  intro cs _
  exact rfl
 |cons hd r ih=>
  obtain⟨n,k⟩:=hd
  intro cs h
  rw[wh]
  unfold g5
  by_cases hk:(k==bc.free)=true
  ·refine al (h n (by rw[beq_iff_eq.mp hk];exact aI)) fun b hb=>?_
   dsimp only
   rw[if_pos hk,if_pos hk,hb]
   unfold cellOf
   rw[hb]
   simp only[pure_bind,Fx]
   exact ih fun y hy=>h y (aG _ hy)
  ·dsimp only
   rw[if_neg hk,if_neg hk]
   simp only[pure_bind]
   exact ih fun y hy=>h y (aG _ hy)
theorem wt {env:dH}{scope:nQ}(h:∀y,(y,bc.free)∈scope.names→∃b,env.cells.lookup y=some b):Co scope env=pure (g5 env scope.names []):=by
 have e:=B1 (env:=env) (cs:=[]) h
 have e2:Co scope env=(forIn scope.names [] fun(x:bu×bc) (r:List (bu×aD))=>if (x.2==bc.free)=true then (do let a ←cellOf env x.1;pure (iP ((x.1,a)::r)):rU (ForInStep (List (bu×aD)))) else pure (iP r)) >>= fun cs=>pure cs:=rfl
 rw[e2,e,pure_bind]
theorem xi {env:dH}{y:bu}:∀{names:List (bu×bc)}{cs:List (bu×aD)},(y,bc.free)∉names→(g5 env names cs).lookup y=cs.lookup y:=by
 intro us
 induction us with
 |nil=>
  intro _ _
  exact rfl
 |cons hd r ih=>
  obtain⟨n,k⟩:=hd
  intro cs h
  unfold g5
  rw[ih fun q=>h (aG _ q)]
  by_cases hk:(k==bc.free)=true
  ·rw[if_pos hk]
   have v9:y≠n:=fun q=>h (by rw[q,←beq_iff_eq.mp hk];exact aI)
   rw[dJ,beq_eq_false_iff_ne.mpr v9]
  ·rw[if_neg hk]
theorem xl {env:dH}{y:bu}{b:aD}(hb:env.cells.lookup y=some b):∀{names:List (bu×bc)}{cs:List (bu×aD)},(y,bc.free)∈names→(g5 env names cs).lookup y=some b:=by
 intro us
 induction us with
 |nil=>
  intros;first | contradiction | simp at *
 |cons hd r ih=>
  obtain⟨n,k⟩:=hd
  intro cs h
  unfold g5
  by_cases hr:(y,bc.free)∈r
  ·exact ih hr
  ·rw[xi hr]
   rcases br.mp h with q | q
   ·cases q
    rw[if_pos (by decide),dJ,beq_self_eq_true,hb];rfl
   ·exact absurd q hr
theorem qF {env:dH}{y:bu}{b:aD}{names:List (bu×bc)}(h:∀y,(y,bc.free)∈names→∃b,env.cells.lookup y=some b) (e:(g5 env names []).lookup y=some b):(y,bc.free)∈names∧env.cells.lookup y=some b:=by
 by_cases hy:(y,bc.free)∈names
 ·refine al (h y hy) fun b' hb=>?_
  rw[xl hb hy] at e
  replace e:=ae e;subst e;exact⟨hy,hb⟩
 ·rw[xi hy] at e;exact nS e
section
variable {M:Ft}{A:aU}{E:ai→aH→Prop}{s:aH}{env:dH}
noncomputable def vn (M:Ft) (A:aU) (E:ai→aH→Prop) (use:Option (ai→rU Unit)) (Q:ai→aH→Prop) (acc:ai) (cenv:dH) (r:sP) (s':aH):Prop:=
 match r,use with
 |.ok _,none=>∃m,s'.heap.Ns cenv.locals m∧∀h',dy cenv.locals s'.heap h'→Q acc { s' with heap:=h' }
 |.ok _,some u=>bj M A (u acc) (fun _ UC=>∃m,UC.heap.Ns cenv.locals m∧∀h',dy cenv.locals UC.heap h'→Q .none { UC with heap:=h' }) E s'
 |.error x,_=>∃m,s'.heap.Ns cenv.locals m∧∀h',dy cenv.locals s'.heap h'→bj M A (passOn "comprehension.variables-let-go" x cenv:rU ai) (fun _ _=>False) E { s' with heap:=h' }
theorem rY {e:Expr}{scope:nQ}{pos:ij}{HQ first:rU ai}{g:Comprehension}{gs:List Comprehension}{cl:List (bu×aD)}{use:Option (ai→rU Unit)}
  {Q:ai→aH→Prop}
  (rW:clausesOf e=g::gs) (hs:∀x,gA g.iter env x=pure x) (Ud:Co scope env=pure cl)
  (IV:scope.kind=.function) (NV:∀x∈scope.names,x.2=.local→scope.names.lookup x.1=some .local)
  (h:bj M A first (fun x bf=>bj M A (Jl x) (fun it cX=>bj M A HQ (fun acc hG=>
   bj M A (Cp scope env.globals cl [] env.qual none .none (some env)) (fun cenv n5=>
    ic M A (.compStart e 0 it acc { cenv with scope:=gB scope env }) (vn M A E use Q acc { cenv with scope:=gB scope env }) n5) E hG) E cX) E bf) E s) :
  bj M A (E0 e scope env pos HQ false first use) Q E s:=by
 unfold E0
 rw[Ud,rW]
 refine ak (au h (fun x bf gp=>ak (iB (ak (wpAny_of_eq (hs x) (ak (cu (au gp (fun it cX eX=>
  wpAny_standIf (ak (au eX (fun acc hG sq=>ak (aQ (ak (au sq (fun cenv n5 ZB=>?_) fun _ _ h'=>h')))) fun _ _ h'=>h')))
   fun _ _ h'=>h'))))))) fun _ _ h'=>h')
 dsimp only
 have hv:∀x∈(scope.names.filter fun x=>(x.2==.local||x.2==.cell)&&x.1 != (".0":bu)).reverse,x.2=.local →
   yJ { cenv with scope:=gB scope env } x.1=some .local:=fun x hx hl=>lookup_relabel_local (NV x (List.mem_filter.mp (List.mem_reverse.mp hx)).1 hl)
 have hv':∀x∈(scope.names.filter fun x=>(x.2==.local||x.2==.cell)&&x.1 != (".0":bu)).reverse.drop 1++(scope.names.filter fun x=>(x.2==.local||x.2==.cell)&&x.1 != (".0":bu)).reverse.take 1,
   x.2=.local→yJ { cenv with scope:=gB scope env } x.1=some .local:=fun x hx hl=>by
  rcases eG.mp hx with h1 | h1
  ·exact hv x (kN h1) hl
  ·exact hv x (qt h1) hl
 refine cu (ak (wpAny_attempt (cu (wpAny_run (qU ZB fun r s' hr=>?_)))))
 cases r with
 |ok f=>
  cases use with
  |none=>
   refine aq hr fun m hn hr=>?_
   exact ak (cu (yK (cenv:={ cenv with scope:=gB scope env }) IV _ s' m hv hn fun h' m' _ U7=>aQ (hr h' U7)))
  |some u=>
   refine ak (Cq (ak (cu (au hr (fun _ UC MA=>?_) fun _ _ h'=>h'))))
   refine aq MA fun m hn MA=>?_
   exact ak (yK (cenv:={ cenv with scope:=gB scope env }) IV _ UC m hv' hn fun h' m' _ U7=>aQ (MA h' U7))
 |error x=>
  have MA:∃m,s'.heap.Ns cenv.locals m∧∀h',dy cenv.locals s'.heap h'→bj M A (passOn "comprehension.variables-let-go" x { cenv with scope:=gB scope env }:rU ai) (fun _ _=>False) E { s' with heap:=h' }:=by cases use<;>exact hr
  refine aq MA fun m hn hr=>?_
  clear MA
  exact ak (cu (yK (cenv:={ cenv with scope:=gB scope env }) IV _ s' m hv hn fun h' m' _ U7=>au (hr h' U7) (fun _ _ f=>f.elim) fun _ _ y=>y))
end
end
section
open PySem PySem.W PySem.Calls PyProof.Rows
structure nA (env:dH) (l:Loc) (scope:nQ) (x:bu) (lc:Loc) (dO:List (bu×bc)):Prop where
 kind:scope.kind=.function
 A6:∀y∈scope.names,y.2≠.cell
 loc:∀y∈scope.names,y.2=.local→scope.names.lookup y.1=some .local
 nodup:(scope.names.map (·.1)).Nodup
 names:(gB scope env).names=dO
 tgt:dO[1]?=some (x,.local)
 lcl:1<lc.length
 free:∀(i:Nat) (y:bu),scope.names[i]?=some (y,.free)→∃j:Nat,env.scope.names[j]?=some (y,.cell)∧(∀v:AV,lc[i]?=some (some v)→l[j]?=some (some v))
 only:∀(i:Nat) (v:AV),lc[i]?=some (some v)→∃y,scope.names[i]?=some (y,.free)
section
variable {c:Cx}{d:Nat}{A:aU}{env:dH}{l l':Loc}{α bD cq:Am}{h h' h₀:cb}{H H':List ag}{s s':aH}
variable {Q:AV→List ag→Prop}{QB:Bool→List ag→Prop}{X:List ag→Prop}{pos:ij}{own own':aD→Prop}{QU:Loc→List ag→Prop}{kp:Nat}{SQ:AF→Loc→List ag→Prop}
noncomputable def A7 (c:Cx) (d:Nat) (A:aU) (env:dH) (qX:List Expr) (l:Loc) (H:List ag) (QB:Bool→List ag→Prop) (X:List ag→Prop):Prop:=
 ∀α s,Inv c d A env l α H s→bj c.M A (forIn qX true fun c r=>if r=true then do let ok ←isTrue c env (gr c env);pure (iP ok) else pure (iP r)) (rk c d A env l α s.heap QB) (kF c A env α s.heap X) s
theorem A7.nil (q:QB true H):A7 c d A env [] l H QB X:=fun α s I=>aQ ⟨α,H,.refl ..,I,q⟩
theorem A7.one {t:Expr}(w:WB c d A env t l H QB X):A7 c d A env [t] l H QB X:=fun α s I=>by
 rw[wh]
 refine ak ?_
 rw[if_pos rfl]
 refine ak (au (w α s I) (fun b bf p=>aQ ?_) fun _ _ e=>e)
 exact aQ p
theorem FunFrames.at' {hb h:cb}{l:List dH}(F:h.FunFrames hb l):∀env∈l,∃L o,env.frame=some L∧h.get? L=some o:=by
 induction l with
 |nil=>intro e he;cases he
 |cons env r ih=>
  refine bQ F fun _ hx hr=>?_
  clear F
  refine b0 hx fun L o hf hn ho hd=>?_
  clear hx
  intro e he
  rcases br.mp he with rfl | he
  ·exact⟨L,o,hf,ho⟩
  ·exact ih hr e he
theorem Inv.KQ (I:Inv c d A env l α H s):∃F o,env.frame=some F∧s.heap.get? F=some o:=by
 refine cB I.top fun en o ht uh=>?_
 refine aL I.k.fr fun lf e F n=>?_
 rw[ht] at e;replace e:=ae e;subst e
 refine cB (FunFrames.at' F en aI) fun L ob h1 h2=>?_
 exact⟨L,ob,uh▸h1,h2⟩
theorem zy {scope:nQ}:(gB scope env).names.map (·.1)=scope.names.map (·.1):=by
 unfold gB
 dsimp only
 rw[dx]
 apply i6
 intro lE _
 obtain⟨n,k⟩:=lE
 dsimp only[Function.comp]
 split<;>rfl
set_option tactic.hygienic true in
theorem tq {scope:nQ}{i:Nat}{y:bu}{k:bc}(e:(gB scope env).names[i]?=some (y,k)):∃k0,scope.names[i]?=some (y,k0)∧(k=k0∨(k0=.free∧k=.cell)):=by
 unfold gB at e
 dsimp only at e
 rw[aK] at e
 cases q:scope.names[i]? with
 |none=>rw[q] at e;exact nS e
 |some p=>
  obtain⟨n,k0⟩:=p
  rw[q] at e
  dsimp only[oj] at e
  split at e
  ·rename_i hc
   cases e
   refine⟨k0,rfl,.inr ⟨?_,rfl⟩⟩
   simp only[gJ,beq_iff_eq] at hc
   exact hc.1.1
  ·cases e;exact⟨_,rfl,.inl rfl⟩
theorem zg {scope:nQ}{x:bu}{lc:Loc}{dO:List (bu×bc)}(K:nA env l scope x lc dO) (I:Inv c d A env l α H s){C:aD}(v8:s.heap.get? C=none)
  (hk:∀b o,s.heap.get? b=some o→h'.get? b=some o) (ud:h'.Ns C fun y=>([]:List (bu×ai)).reverse.lookup y) :
  Inv c d A (jP scope (g5 env scope.names []) C env) lc α H { s with heap:=h' }∧(∀b,cy (jP scope (g5 env scope.names []) C env) b↔b=C):=by
 refine bG (I.grow (s':={ s with heap:=h' }) hk) fun m I'=>?_
 have hbN:∀{b},s.heap.get? b=none→c.hb.get? b=none:=fun{b} e=>by
  cases q:c.hb.get? b with
  |none=>rfl
  |some o=>rw[I.h.base _ _ q] at e;exact nS (fZ e)
 have PR:∀{y b},(y,bc.free)∈scope.names→env.cells.lookup y=some b→∃o,s.heap.get? b=some o:=fun{y b} hy e=>by
  refine al (eO.mp hy) fun i hi=>?_
  refine aq (K.free i y hi) fun j hj _=>?_
  refine gN (I.f.cl hj (.inl rfl)) fun b' ov e1 o ho _ _=>?_
  rw[e] at e1;replace e1:=ae e1;subst e1;exact⟨o,ho⟩
 have hf:∀y,(y,bc.free)∈scope.names→∃b,env.cells.lookup y=some b:=fun y hy=>by
  refine al (eO.mp hy) fun i hi=>?_
  refine aq (K.free i y hi) fun j hj _=>?_
  refine cB (I.f.cl hj (.inl rfl)) fun b' ov e1 _=>?_
  exact⟨b',e1⟩
 refine cB I.KQ fun F oF hF hFo=>?_
 have hFC:env.frame≠some C:=fun q=>by rw[hF] at q;replace q:=ae q;subst q;rw[v8] at hFo;exact nS hFo
 refine⟨⟨I.ok,⟨K.kind,I.e.glob,I.e.bi,?_,fun{y z b} e1 e2=>?_,fun{y b} e=>?_,I.e.frame⟩,I.r,I.top,I'.h,⟨⟨_,ud,fun{i y v} e1 e2=>?_⟩,fun{i y k} e yP=>?_,I.h.live v8,hbN v8⟩,I'.k⟩,fun b=>⟨fun q=>?_,fun q=>.inl q⟩⟩
 ·show((gB scope env).names.map (·.1)).Nodup
  rw[zy];exact K.nodup
 ·have a:=qF hf e1
  have b:=qF hf e2
  exact I.e.apart a.2 b.2
 ·have a:=qF hf e
  refine al (PR a.1 a.2) fun o ho=>?_
  intro q
  have q':b=C:=q
  rw[q',v8] at ho;exact nS ho
 ·refine aq (tq e1) fun k0 h0 S6=>?_
  refine al (K.only i v e2) fun y' hy'=>?_
  rw[h0] at hy'
  cases hy'
  rcases S6 with q | ⟨_,q⟩<;>cases q
 ·refine aq (tq e) fun k0 h0 S6=>?_
  have SW:k0=.free:=by
   rcases S6 with rfl | ⟨rfl,_⟩
   ·rcases yP with rfl | rfl
    ·exact absurd rfl (K.A6 _ (a9 h0))
    ·rfl
   ·rfl
  subst SW
  refine aq (K.free i y h0) fun j hj hv=>?_
  refine gf (I'.f.cl hj (.inl rfl)) fun b ov e1 e2 e3 e4 e5=>?_
  exact⟨b,ov,xl e1 (a9 h0),e2,e3,e4,fun{v} q=>e5 (hv v q)⟩
 ·rcases q with q | ⟨q,_⟩
  ·exact q
  ·exact absurd q hFC
theorem gw.off {C:aD}(O:gw c h α H) (hk:∀b o,b≠C→h.get? b=some o→h'.get? b=some o) (na:¬iW α C) (hb:c.hb.get? C=none) (tk:∀{a:aD}{items:Array ai},dn h a items→dn h' a items):gw c h' α H:=
 O.ql tk (fun b o a=>hk b o fun q=>na (q▸a)) fun b o e=>hk b o (fun q=>by rw[q,hb] at e;exact nS e) (O.base b o e)
theorem FunFrames.off {hb:cb}{C:aD}(hk:∀b o,b≠C→h.get? b=some o→h'.get? b=some o):∀{l:List dH},h.FunFrames hb l→(∀env∈l,env.frame≠some C)→h'.FunFrames hb l:=by
 intro us
 induction us with
 |nil=>
  intro _ _
  exact trivial
 |cons env r ih=>
  intro mr n
  refine bQ mr fun V3 jS hr=>?_
  clear mr
  refine b0 jS fun L o hf hn ho hd=>?_
  exact⟨V3,⟨L,o,hf,hn,hk _ _ (fun q=>n env aI (q▸hf)) ho,hd⟩,ih hr fun e he=>n e (aG _ he)⟩
theorem dP.off {g:Sd}{C:aD}(K:dP c A g h α) (hk:∀b o,b≠C→h.get? b=some o→h'.get? b=some o) (ns:¬AK A C):dP c A g h' α:=by
 refine aL K.fr fun lf e F n=>?_
 exact⟨⟨lf,e,FunFrames.off hk F fun en he q=>ns ⟨lf,en,e,he,q⟩,n⟩,K.lq⟩
theorem oZ.NO {C:aD}(F:oZ c env h α l) (hk:∀b o,b≠C→h.get? b=some o→h'.get? b=some o) (tk:∀{a:aD}{items:Array ai},dn h a items→dn h' a items) (hl:env.locals≠C)
  (hc:∀(i:Nat) x k b,env.scope.names[i]?=some (x,k)→xA k→env.cells.lookup x=some b→b≠C):oZ c env h' α l:=by
 refine⟨?_,fun{i x k} e ya=>?_,F.no,F.new⟩
 ·refine eU F.ns fun mm o es ep ho r hr=>?_
  exact⟨mm,⟨o,es,ep,hk _ _ hl ho,r⟩,fun{i x v} e1 e2=>by refine aq (hr e1 e2) fun val q1 q2=>?_;exact⟨val,q1,q2.carry id tk⟩⟩
 ·refine eH (F.cl e ya) fun b ov e1 o ho hd n1 n2 hr=>?_
  exact⟨b,ov,e1,⟨o,hk _ _ (hc i x k b e ya e1) ho,hd⟩,n1,n2,fun{v} q=>by refine aq (hr q) fun val q1 q2=>?_;exact⟨val,q1,q2.carry id tk⟩⟩
theorem oZ.tu (F:oZ c env h α l):¬iW α env.locals∧∃o,h.get? env.locals=some o:=⟨F.no,F.ns.elim fun _ h=>RU h.1⟩
theorem uP {C a:aD}{m:bu→Option ai}{items:Array ai}(n:h.Ns C m) (t:dn h a items):a≠C:=fun q=>by
 refine eD n fun o es ep ho ix=>?_
 clear n
 refine bG ix fun hd _=>?_
 refine fU t fun o' jQ hc n' qG=>?_
 clear t
 rw[q,ho] at jQ;replace jQ:=ae jQ;subst jQ;rw[hd] at qG;cases qG
inductive G7 {β:Type}(c:Cx) (d:Nat) (A:aU) (env:dH) (lc:Loc) (own₀:aD→Prop) (cq:Am) (h₀:cb) (N:Nat) (St:Nat→Am→cb→Prop) (J:Nat→β→List ag→Prop) (nD:Nat) (D:aD) (envO:dH) (lO:Loc) (n:Nat) (s':aH):Prop
 |mk (i:Nat) (Nf:Loc) (bD:Am) (H':List ag) (acc:β) (hn:n=N-i) (hi:i≤N) (m:bM A own₀ cq h₀ bD s'.heap) (I:Inv c d A env Nf bD H' s') (hl:Nf.set 1 none=lc.set 1 none) (st:St i bD s'.heap) (j:J i acc H') (hD:bD[nD]?=some (D,D)) (f:oZ c envO s'.heap bD lO)
theorem Ef {pq iter:Expr}{qX:List Expr}{scope:nQ}{x:bu}{px:ij}{xs:List AV}{gC:List ag→Prop}{I₀ D:aD}{St:Nat→Am→cb→Prop}{lc:Loc}{nD:Nat}{R:sP→aH→Prop}{envO:dH}{lO:Loc}
  (it:Fd kp c d A xB xs gC I₀ St) (J:Nat→List AV→List ag→Prop) (hJ:∀i acc H',J i acc H'→gC H'∧H'[nD]?=some (.list acc)∧acc.length≤1000000)
  (step:∀i v acc H',xs[i]?=some v→J i acc H'→A7 c d A env qX (lc.set 1 (some v)) H' (fun ok yn=>if ok then
   WE c d A env pq (lc.set 1 (some v)) yn (fun a H3=>H3[nD]?=some (.list acc)∧acc.length≤1000000∧J (i+1) (acc++[a]) (H3.set nD (.list (acc++[a])))) X else J (i+1) acc yn) X)
  (hx:env.scope.names[1]?=some (x,.local)) (hl:1<lc.length){own₀:aD→Prop}(OA:own₀ env.locals∧own₀ I₀) (jL:∀b,cy env b↔b=env.locals) (rf:h₀.get? I₀=none) (no:¬cy env I₀)
  (I:Inv c d A env lc α H s) (m:bM A own₀ cq h₀ α s.heap) (st:St 0 α s.heap) (j0:J 0 [] H) (XJ:envO.locals≠env.locals) (Xl:∀(i:Nat) x k b,envO.scope.names[i]?=some (x,k)→xA k→envO.cells.lookup x=some b→b≠env.locals) (fO:oZ c envO s.heap α lO) (hD:α[nD]?=some (D,D))
  (hR:∀bD H' s' Nf acc,bM A own₀ cq h₀ bD s'.heap→Inv c d A env Nf bD H' s'→oZ c envO s'.heap bD lO→J xs.length acc H'→bD[nD]?=some (D,D)→R (.ok .next) s')
  (hE:∀aP (gp:cb) y s',bM A own₀ cq h₀ aP gp→oZ c envO gp aP lO→(¬iW aP env.locals∧∃o,gp.get? env.locals=some o)→kF c A env aP gp X y s'→tC c.M A env (fun e s'=>R (.error e) s') y s') :
  ic c.M A (.compLoop (.ListComp pq [⟨.Name x px,iter,qX,0⟩] scope pos) 0 (.ref I₀) (.ref D) env) R s:=by
 have JA:∀{aP bE:Am}{gp eX:cb},bM A (cy env) aP gp bE eX→bM A own₀ aP gp bE eX:=fun m=>m.nR fun b q=>(jL b).mp q▸OA.1
 have kO:∀{aP bE:Am}{gp eX:cb}{H₁:List ag},oZ c envO gp aP lO→gw c gp aP H₁→eM gp (cy env)→bM A (cy env) aP gp bE eX→oZ c envO eX bE lO:=fun f O S m=>f.keep m O S (fun q=>XJ ((jL _).mp q)) fun i x k b e1 e2 e3 q=>Xl i x k b e1 e2 e3 ((jL _).mp q)
 refine codeAny_compLoop_tests (G7 c d A env lc own₀ cq h₀ xs.length St J nD D envO lO)
  (fun n bf p=>?_) xs.length ⟨0,lc,α,H,[],rfl,cQ _,m,I,rfl,st,j0,hD,fO⟩
 obtain⟨i,rt,aP,H₁,acc,rfl,hi,bZ,bl,Vk,mW,xX,y0,uy⟩:=p
 refine bQ (hJ _ _ _ xX) fun nx rZ hz=>?_
 have N1:1<rt.length:=by
  have:=congrArg m6 Vk
  rw[dG,dG] at this
  exact EI this (iZ hl)
 by_cases iU:i<xs.length
 ·have NH:xs[i]?=some xs[i]:=aw iU
  refine it.item (.inl ⟨x,px,rfl⟩) NH bl no nx mW _ _ fun v cX go=>?_
  dsimp only
  rw[←pure_bind () (fun _:Unit=>iL (.Name x px) env v)]
  refine(show bj c.M A (mB (.Name x px) (.ref I₀) v >>= fun _=>iL (.Name x px) env v) _ _ cX from ak (go _ (fun hG Px gW fP FH wV=>?_) _))
  have IA:oZ c envO hG.heap aP lO:=uy.off Px (it.ok mW).at_
  have Sq:=bZ.trans (gW.nR (own':=own₀) fun b q=>q.elim (fun q=>(jL b).mp q▸OA.1) fun q=>q▸OA.2)
  refine au (WU.aName (x:=x) (p:=px) (a:=xs[i]) (QU:=fun l' H'=>l'=lc.set 1 (some xs[i])∧H'=H₁) (X:=X) (l:=rt) (H:=H₁) (d:=d) (WU.stLoc 1 hx N1 ⟨?_,rfl⟩) aP hG [v] fP (eC FH jD)) (fun _ n5 ⟨OX,rM,Gs,ku,jU,e1,e2⟩=>?_) fun y s' z=>hE _ _ y s' Sq IA fP.f.tu z
  ·have:(rt.set 1 none).set 1 (some xs[i])=(lc.set 1 none).set 1 (some xs[i]):=by rw[Vk]
   rwa [lI,lI] at this
  subst e1 e2
  have TV:=Sq.trans (JA ku)
  have zz:=it.mono wV fP.h fP.solid no ku.toM
  have GU:=kO IA fP.h fP.solid ku
  refine au (step i _ acc _ NH xX rM n5 jU) (fun ok Bm eT=>?_) fun y s' z=>hE _ _ y s' TV GU jU.f.tu z
  obtain⟨mG,Ar,pW,k7,Iz⟩:=eT
  have Pg:=TV.trans (JA pW)
  have uz:=it.mono zz jU.h jU.solid no pW.toM
  have BK:=kO GU jU.h jU.solid pW
  have zZ:mG[nD]?=some (D,D):=pW.pre (ku.pre y0)
  have FK:(lc.set 1 (some xs[i])).set 1 none=lc.set 1 none:=by rw[lI]
  cases ok with
  |false=>
   exact⟨xs.length-(i+1),by exact wG iU,i+1,_,mG,Ar,acc,rfl,iU,Pg,k7,FK,uz,Iz,zZ,BK⟩
  |true=>
   refine au (Iz mG Bm k7) (fun y Lh eT=>?_) fun y s' z=>hE _ _ y s' Pg BK k7.f.tu z
   obtain⟨a,tf,Bo,tI,n7,NI,q1,q2,q3⟩:=eT
   have Si:=Pg.trans (JA tI)
   have xg:=it.mono uz k7.h k7.solid no tI.toM
   have IH:=kO BK k7.h k7.solid tI
   have CG:=tI.pre zZ
   refine au (WV.append (c:=c) (d:=d) (X:=X) (Q:=fun _ H'=>H'=Bo.set nD (.list (acc++[a]))) q1 q2 rfl tf Lh [.ref D,y] n7 (eC (yi CG) (eC NI jD))) (fun _ X0 eT=>?_) fun y s' z=>hE _ _ y s' Si IH n7.f.tu z
   obtain⟨a7,Im,X9,xI,BD,TU,Ws⟩:=eT
   subst Ws
   have Xb:=Si.trans (JA xI)
   have Gh:=it.mono xg n7.h n7.solid no xI.toM
   have NP:=kO IH n7.h n7.solid xI
   exact⟨xs.length-(i+1),by exact wG iU,i+1,_,Im,_,acc++[a],rfl,iU,Xb,BD,FK,Gh,q3,xI.pre CG,NP⟩
 ·obtain rfl:i=xs.length:=by exact aW [_,_] [] [.L aB aM,.N (.T aB aM)] (.E aB aM) (.o cI cM) rfl hi iU
  refine it.done bl no nx mW _ _ fun cX zb cA=>?_
  exact hR aP H₁ cX rt acc (bZ.ta rf zb) cA (uy.off zb (it.ok mW).at_) xX y0
theorem vb {pq iter:Expr}{qX:List Expr}{scope:nQ}{uw:ij}{x:bu}{px:ij}{lc:Loc}{dO:List (bu×bc)}{xs:List AV}{gC:List ag→Prop}{I₀:aD}{St:Nat→Am→cb→Prop}{P:ai→aH→Prop}{use:Option (ai→rU Unit)}
  (K:nA env l scope x lc dO) (J:Nat→List AV→List ag→Prop) (hJ:∀i acc H',J i acc H'→gC H'∧H'[H.length]?=some (.list acc)∧acc.length≤1000000)
  (step:∀cenv i v acc H',cenv.scope.names=dO→xs[i]?=some v→J i acc H'→A7 c d A cenv qX (lc.set 1 (some v)) H' (fun ok yn=>if ok then
   WE c d A cenv pq (lc.set 1 (some v)) yn (fun a H3=>H3[H.length]?=some (.list acc)∧acc.length≤1000000∧J (i+1) (acc++[a]) (H3.set H.length (.list (acc++[a])))) X else J (i+1) acc yn) X)
  (it:Fd kp c d A xB xs gC I₀ St) (m:bM A (cy env) cq h₀ α s.heap) (I:Inv c d A env l α H s) (st:St 0 α s.heap) (rf:h₀.get? I₀=none) (no:¬cy env I₀) (j0:J 0 [] (H++[.list []]))
  (hR:∀bD H' s' acc C D,(∀pK,dy C s'.heap pK→bM A (cy env) cq h₀ bD pK∧Inv c d A env l bD H' { s' with heap:=pK })→bM A (cy env) cq h₀ bD s'.heap→Inv c d A env l bD H' s'→J xs.length acc H'→bD[H.length]?=some (D,D)→(∃m,s'.heap.Ns C m)→s.heap.get? C=none→¬iW bD C →
   ∀cenv:dH,cenv.locals=C→vn c.M A (kF c A env cq h₀ X) use P (.ref D) cenv (.ok .next) s') :
  bj c.M A (newList []) (fun acc hG=>bj c.M A (Cp scope env.globals (g5 env scope.names []) [] env.qual none .none (some env)) (fun cenv n5=>
   ic c.M A (.compStart (.ListComp pq [⟨.Name x px,iter,qX,0⟩] scope uw) 0 (.ref I₀) acc { cenv with scope:=gB scope env }) (vn c.M A (kF c A env cq h₀ X) use P acc { cenv with scope:=gB scope env }) n5) (kF c A env cq h₀ X) hG) (kF c A env cq h₀ X) s:=by
 have Bi:=it.ok st
 refine eL ?_
 obtain⟨bZ,bl⟩:=I.alloc (s':={ s with heap:=s.heap.push { cls:=.type "list",data:=.seq ([]:List ai).toArray } }) (p:=(s.heap.objs.size,s.heap.objs.size)) (x:=.list []) gd bR bR
  ⟨#[],0,aX _ rfl,by exact jD,rfl⟩
 have hD:(α++[(s.heap.objs.size,s.heap.objs.size)])[H.length]?=some (s.heap.objs.size,s.heap.objs.size):=by rw[←I.h.len];simp
 have mW:=it.mono st I.h I.solid no bZ.toM
 refine Me K.A6 (by intro y hy;simp at hy) (fun eX ud Vi=>?_) K.kind
 dsimp only at ud Vi ⊢
 generalize Yb:s.heap.push { cls:=.type "list",data:=.seq ([]:List ai).toArray }=ja at *
 have Zb:s.heap.objs.size≤ja.objs.size:=by rw[←Yb,gK];exact bX _
 have Wq:ja.get? ja.objs.size=none:=bR
 have v8:s.heap.get? ja.objs.size=none:=gk Zb
 have hk:∀b o,ja.get? b=some o→eX.get? b=some o:=fun b o e=>(Vi.2 b (bV (bU e))).trans (aT _ e)
 refine bG (zg (s:={ s with heap:=ja }) K bl Wq hk ud) fun cA jL=>?_
 refine bG (bl.grow (s':={ s with heap:=eX }) hk) fun cV vo=>?_
 have jw:=it.mono mW bl.h bl.solid no cV.toM
 have Xz:I₀≠ja.objs.size:=fun q=>by
  refine cB Bi.at_ fun o vs ho _=>?_
  rw[q,v8] at ho;exact nS ho
 have WW:¬cy (jP scope (g5 env scope.names []) ja.objs.size env) I₀:=fun q=>Xz ((jL _).mp q)
 have E8:env.locals≠ja.objs.size:=fun q=>by
  refine eU I.f.ns fun mm o _ _ ho _ _=>?_
  rw[q,v8] at ho;exact nS ho
 have Wf:bM A (cy env) cq h₀ (α++[(s.heap.objs.size,s.heap.objs.size)]) eX:=(m.trans bZ).trans cV
 have qJ:∀(i:Nat) y k b,env.scope.names[i]?=some (y,k)→xA k→env.cells.lookup y=some b→b≠ja.objs.size:=fun i y k b e1 e2 e3 q=>by
  refine gN (I.f.cl e1 e2) fun b' ov e4 o ho _ _=>?_
  rw[e3] at e4;replace e4:=ae e4;subst e4
  rw[q,v8] at ho;exact nS ho
 have Pr:h₀.get? ja.objs.size=none:=m.gone v8
 have NK:¬AK A ja.objs.size:=fun q=>by
  refine i8 (I.k.none q) fun _ _ o ho _=>?_
  rw[v8] at ho;exact nS ho
 have drop:∀{fh:Am}{sq:cb},bM A (fun b=>cy env b∨b=ja.objs.size∨b=I₀) cq h₀ fh sq→bM A (cy env) cq h₀ fh sq:=fun m=>m.drop fun b o q n e=>by
  rcases q with q | q | q
  ·exact n q
  ·rw[q,Pr] at e;exact nS e
  ·rw[q,rf] at e;exact nS e
 have loop:ic c.M A (.compLoop (.ListComp pq [⟨.Name x px,iter,qX,0⟩] scope uw) 0 (.ref I₀) (.ref s.heap.objs.size) (jP scope (g5 env scope.names []) ja.objs.size env)) (vn c.M A (kF c A env cq h₀ X) use P (.ref s.heap.objs.size) (jP scope (g5 env scope.names []) ja.objs.size env)) { s with heap:=eX }:=by
  refine Ef (envO:=env) (lO:=l) (own₀:=fun b=>cy env b∨b=ja.objs.size∨b=I₀) it J hJ (fun i v acc H' hx hj=>step _ i v acc H' K.names hx hj) (K.names▸K.tgt) K.lcl ⟨.inr (.inl rfl),.inr (.inr rfl)⟩ jL rf WW cA (Wf.nR fun b q=>.inl q) jw j0 E8 qJ vo.f hD (fun bD H' s' Nf acc m' I' f' j' Zh=>?_) fun aP gp y s' m' uy lv z=>?_
  ·have fo:∀{pK},dy ja.objs.size s'.heap pK→∀b o,b≠ja.objs.size→s'.heap.get? b=some o→pK.get? b=some o:=fun hs b o e1 e2=>(hs.2 b e1).trans e2
   obtain⟨mm,Qw⟩:∃m,s'.heap.Ns ja.objs.size m:=I'.f.ns.imp fun _ z=>z.1
   have Ie:Inv c d A env l bD H' s':=⟨I.ok,I.e,I.r,I.top,I'.h,f',I'.k⟩
   refine hR bD H' s' acc ja.objs.size s.heap.objs.size (fun pK hs=>?_) (drop m') Ie j' Zh ⟨mm,Qw⟩ v8 I'.f.no _ rfl
   have tk:∀{a:aD}{items:Array ai},dn s'.heap a items→dn pK a items:=fun{a items} t=>by
    have:=uP Qw t
    refine aq t fun o ho r=>?_
    clear t
    exact⟨o,fo hs _ _ this ho,r⟩
   exact⟨drop (m'.ta Pr (fo hs)),I.ok,I.e,I.r,I.top,I'.h.off (fo hs) I'.f.no I'.f.new tk,f'.NO (fo hs) tk E8 qJ,I'.k.off (fo hs) NK⟩
  ·obtain⟨e,fl,bD,H',rfl,ub,z,m2,O,K2,hX,mm,ud⟩:=z
   refine cB I.top fun en o ml uh=>?_
   refine al I.e.frame fun F hF=>?_
   have mt:=m'.trans (m2.nR (own':=fun b=>cy env b∨b=ja.objs.size∨b=I₀) fun b q=>.inr (.inl ((jL b).mp q)))
   obtain⟨m1,YH⟩:∃m,s'.heap.Ns env.locals m:=by
    refine eU uy.ns fun m1 ob es ep ho nF _=>?_
    refine bG nF fun hd r=>?_
    refine al (m2.slot ho uy.no fun q=>E8 ((jL _).mp q)) fun sl e2=>?_
    exact⟨m1,_,es,ep,e2,hd,r⟩
   have PQ:s'.heap.Ns ja.objs.size mm:=ud
   unfold tC
   rw[jy (env:=jP scope (g5 env scope.names []) ja.objs.size env) uh]
   refine PK ml (uh.trans hF) (by unfold wA at ub ⊢;rw[uh];exact ub) mt O K2 (WC.make.iV.Hu m' z) fun h3 z3 m3 O3 K3 u3=>?_
   show ∃m,cb.Ns h3 ja.objs.size m∧_
   have xJ:=Ns.upTo PQ u3
   refine⟨mm,xJ,fun h4 hs=>?_⟩
   have fo:∀b o,b≠ja.objs.size→h3.get? b=some o→h4.get? b=some o:=fun b o e1 e2=>(hs.2 b e1).trans e2
   have tk:∀{a:aD}{items:Array ai},dn h3 a items→dn h4 a items:=fun{a items} t=>by
    have:=uP xJ t
    refine aq t fun o ho r=>?_
    clear t
    exact⟨o,fo _ _ this ho,r⟩
   have Zt:¬iW bD ja.objs.size:=fun q=>by
    refine bG lv fun l1 tM=>?_
    clear lv
    refine al tM fun ob l2=>?_
    rcases m2.fresh q with q | q
    ·exact l1 q
    ·rw[show gp.get? ja.objs.size=some ob from l2] at q;exact nS (fZ q)
   have Tn:c.hb.get? ja.objs.size=none:=by
    cases q:c.hb.get? ja.objs.size with
    |none=>rfl
    |some o=>rw[I.h.base _ _ q] at v8;exact nS (fZ v8)
   have m4:=m3.ta Pr fo
   have O4:=O3.off fo Zt Tn tk
   have K4:=K3.off fo NK
   have z4:iV c h₀ h4 bD e (some (ib F)):=by
    obtain⟨a1,a2,a3,oe,vs,a0,a4,a5,a6,a7,T,oT,ts,b1,b2,b3,b4,b5,b6,b7,b8⟩:=z3
    have ne:∀{x:aD}{ox:ou}{ws:Array ai},h3.get? x=some ox→ox.data=.fields ws→x≠ja.objs.size:=fun{x ox ws} e1 e2 q=>by
     refine eD xJ fun o4 es ep Zk j3=>?_
     clear xJ
     refine bG j3 fun WQ _=>?_
     rw[q,Zk] at e1;replace e1:=ae e1;subst e1;rw[WQ] at e2;cases e2
    exact⟨a1,a2,a3,oe,vs,a0,fo _ _ (ne a4 a6) a4,a5,a6,a7,T,oT,ts,b1,b2,fo _ _ (ne b3 b4) b3,b4,b5,b6,b7,b8⟩
   have Y9:=z4
   obtain⟨_,_,_,oe,vs,a0,c4,c5,c6,c7,T,oT,ts,d1,_⟩:=Y9
   show bj c.M A (PySem.passOn "comprehension.variables-let-go" (.ref e) (jP scope (g5 env scope.names []) ja.objs.size env)) _ _ _
   unfold PySem.passOn
   refine ak (g9 (s:={ s' with heap:=h4 }) c4 c6 d1 ?_)
   rw[if_neg (by simp)]
   refine ak (pL (s:={ s' with heap:=h4 }) (fr:=env.frame) ml m4 O4 K4 z4 fun h5 z5 m5 O5 K5 u5=>?_)
   refine Mf ?_
   rw[hF] at z5
   refine⟨e,_,bD,H',rfl,.inr (.inr ⟨F,hF,rfl⟩),z5,drop m5,O5,K5,hX,m1,Ns.upTo ?_ u5⟩
   refine eD (Ns.upTo YH u3) fun o3 es ep wz r=>?_
   exact⟨o3,es,ep,fo _ _ E8 wz,r⟩
 exact codeAny_compStart_list loop (it.self ⟨x,px,.inl ⟨x,px,rfl⟩⟩ _ _ jw loop)
end
end
section
open PySem PySem.W PySem.Calls PyProof.Rows
section
variable {c:Cx}{d:Nat}{A:aU}{env:dH}{l l':Loc}{α bD cq:Am}{h h' h₀:cb}{H H':List ag}{s s':aH}
variable {Q:AV→List ag→Prop}{QB:Bool→List ag→Prop}{X:List ag→Prop}{pos:ij}{own own':aD→Prop}{QU:Loc→List ag→Prop}{kp:Nat}{SQ:AF→Loc→List ag→Prop}
inductive tn (c:Cx) (d:Nat) (A:aU) (pq:Expr) (qX:List Expr) (lc:Loc) (dO:List (bu×bc)) (X:List ag→Prop) (fin:List AV→List ag→Prop) (xs:List AV) (gC:List ag→Prop) (H:List ag):Prop
 |mk (J:Nat→List AV→List ag→Prop) (j0:J 0 [] (H++[.list []])) (hJ:∀i acc H',J i acc H'→gC H'∧H'[H.length]?=some (.list acc)∧acc.length≤1000000)
  (step:∀cenv i v acc H',cenv.scope.names=dO→xs[i]?=some v→J i acc H'→A7 c d A cenv qX (lc.set 1 (some v)) H' (fun ok yn=>if ok then
   WE c d A cenv pq (lc.set 1 (some v)) yn (fun a H3=>H3[H.length]?=some (.list acc)∧acc.length≤1000000∧J (i+1) (acc++[a]) (H3.set H.length (.list (acc++[a])))) X else J (i+1) acc yn) X)
  (fin:∀acc H',J xs.length acc H'→fin acc H')
theorem nA.ON {scope:nQ}{x:bu}{lc:Loc}{dO:List (bu×bc)}(K:nA env l scope x lc dO) (I:Inv c d A env l α H s):Co scope env=pure (g5 env scope.names []):=by
 refine wt fun y hy=>?_
 obtain⟨i,hi⟩:=eO.mp hy
 refine aq (K.free i y hi) fun j hj _=>?_
 refine cB (I.f.cl hj (.inl rfl)) fun b' ov e1 _=>?_
 exact⟨b',e1⟩
theorem WE.G1 {pq iter:Expr}{qX:List Expr}{scope:nQ}{x:bu}{px:ij}{lc:Loc}{dO:List (bu×bc)}(K:nA env l scope x lc dO) (hs:∀x,gA iter env x=pure x)
  (w:WI kp c d A env xB iter l H (fun xs gC H1=>tn c d A pq qX lc dO X (fun _ H'=>Q (.obj H1.length) H') xs gC H1) X):WE c d A env (.ListComp pq [⟨.Name x px,iter,qX,0⟩] scope pos) l H Q X:=fun α s I=>by
 rw[eval_ListComp]
 refine rY (use:=none) rfl hs (K.ON I) K.kind K.loc (au (w α s I) (fun v bf p=>au p (fun ZC cX p=>?_) fun _ _ e=>e) fun _ _ e=>e)
 obtain⟨I₀,St,xs,gC,H₁,aP,rfl,it,hm,cA,jw,s7,no,q⟩:=p
 obtain⟨J,Pl,hJ,step,fin⟩:=q
 refine vb K J hJ step it hm cA jw s7 no Pl fun bD H' s' acc C D h1 h2 h3 h4 h5 h6 h7 h8 cenv hC=>?_
 subst hC
 obtain⟨mm,hn⟩:=h6
 refine⟨mm,hn,fun pK hs=>?_⟩
 obtain⟨m',I'⟩:=h1 pK hs
 exact⟨.obj H₁.length,bD,H',m',I',yi h5,fin _ _ h4⟩
theorem D7 {x:bu}{a:AV}{v:ai}{P:Unit→aH→Prop}{E:ai→aH→Prop}(i:Nat) (hn:env.scope.names[i]?=some (x,.local)) (hi:i<l.length) (I:Inv c d A env l α H s) (r:bO c s.heap α a v)
  (k:∀h',dy env.locals s.heap h'→bM A (cy env) α s.heap α h'→Inv c d A env (l.set i (some a)) α H { s with heap:=h',toks:=s.toks+1 }→P () { s with heap:=h',toks:=s.toks+1 }):bj c.M A (p9 env x v) P E s:=by
 refine aq I.f.ns fun m hm hr=>?_
 refine JE (cW I.e.nodup hn) hm (fun h' ud hs=>?_) (by rw[I.e.kind];rfl)
 have wX:bM A (cy env) α s.heap α h':=nK hs (.inl rfl) (RU ud)
 have O:gw c h' α H:=I.h.same wX I.solid I.k I.hw fun b o ad e=>(hs.2 b fun q=>I.f.no (q▸ad)).trans e
 refine k h' hs wX (I.next (s':={ s with heap:=h',toks:=s.toks+1 }) wX O ⟨⟨_,ud,fun{j y w} e1 e2=>?_⟩,fun{j y k} e1 hk=>?_,I.f.no,I.f.new⟩)
 ·by_cases hj:j=i
  ·subst hj
   rw[hn] at e1;cases e1
   rw[ew hi] at e2
   cases e2
   exact⟨v,by simp,r.mono wX I.h I.solid⟩
  ·rw[cN (fun q=>hj q.symm)] at e2
   refine aq (hr e1 e2) fun val q1 q2=>?_
   have Wj:y≠x:=fun q=>hj (sk I.e.nodup (q▸e1) hn)
   exact⟨val,by simp[Wj,q1],q2.mono wX I.h I.solid⟩
 ·refine eH (I.f.cl e1 hk) fun b ov e2 o ho hd n1 n2 QW=>?_
  refine⟨b,ov,e2,⟨o,(hs.2 b (I.e.A4 e2)).trans ho,hd⟩,n1,n2,fun{w} e3=>?_⟩
  have hj:i≠j:=fun q=>by
   subst q;rw[hn] at e1;cases e1
   rcases hk with hk | hk<;>cases hk
  rw[cN hj] at e3
  refine aq (QW e3) fun val q1 q2=>?_
  exact⟨val,q1,q2.mono wX I.h I.solid⟩
theorem WX.KH {y:bu}{py uw:ij}{pq iter:Expr}{qX:List Expr}{scope:nQ}{x:bu}{px:ij}{lc:Loc}{dO:List (bu×bc)}(K:nA env l scope x lc dO) (hs:∀x,gA iter env x=pure x)
  (Yo:lD (.ListComp pq [⟨.Name x px,iter,qX,0⟩] scope pos) (some (.Name y py)) uw.line env=pure true) (i:Nat) (hn:env.scope.names[i]?=some (y,.local)) (hi:i<l.length)
  (w:WI kp c d A env xB iter l H (fun xs gC H1=>tn c d A pq qX lc dO X (fun _ H'=>SQ .next (l.set i (some (.obj H1.length))) H') xs gC H1) X):WX c d A env (.Assign [.Name y py] (.ListComp pq [⟨.Name x px,iter,qX,0⟩] scope pos) uw) l H SQ X:=fun α s I=>by
 rw[exec_Assign_Name_used _ _ _ _ Yo]
 refine ak (iB (ak ?_))
 show bj _ A (do let _ ←E0 (.ListComp pq [⟨.Name x px,iter,qX,0⟩] scope pos) scope env _ (newList []) false (gr iter env) (some (iL (.Name y py) env))) _ _ s
 refine ak (au (rY (use:=some (iL (.Name y py) env)) (Q:=fun _ s'=>s8 c d A env α s.heap SQ .next s') rfl hs (K.ON I) K.kind K.loc (au (w α s I) (fun v bf p=>au p (fun ZC cX p=>?_) fun _ _ e=>e) fun _ _ e=>e)) (fun _ s' hq=>aQ (aQ hq)) fun _ _ e=>e)
 obtain⟨I₀,St,xs,gC,H₁,aP,rfl,it,hm,cA,jw,s7,no,q⟩:=p
 obtain⟨J,Pl,hJ,step,fin⟩:=q
 refine vb K J hJ step it hm cA jw s7 no Pl fun bD H' s' acc C D h1 h2 h3 h4 h5 h6 h7 h8 cenv hC=>?_
 subst hC
 obtain⟨mm,Qw⟩:=h6
 have E8:env.locals≠cenv.locals:=fun q=>by
  refine eU cA.f.ns fun _ o _ _ ho _ _=>?_
  rw[q,h7] at ho;exact nS ho
 have qJ:∀(i:Nat) y k b,env.scope.names[i]?=some (y,k)→xA k→env.cells.lookup y=some b→b≠cenv.locals:=fun i y k b e1 e2 e3 q=>by
  refine gN (cA.f.cl e1 e2) fun b' ov e4 o ho _ _=>?_
  rw[e3] at e4;replace e4:=ae e4;subst e4
  rw[q,h7] at ho;exact nS ho
 have NK:¬AK A cenv.locals:=fun q=>by
  refine i8 (cA.k.none q) fun _ _ o ho _=>?_
  rw[h7] at ho;exact nS ho
 have Tn:c.hb.get? cenv.locals=none:=by
  cases q:c.hb.get? cenv.locals with
  |none=>rfl
  |some o=>rw[cA.h.base _ _ q] at h7;exact nS (fZ h7)
 have h0C:s.heap.get? cenv.locals=none:=hm.gone h7
 show bj c.M A (iL (.Name y py) env (.ref D)) _ _ _
 refine Ru (D7 (a:=.obj H₁.length) i hn hi h3 (yi h5) fun eX C9 cV vo=>?_)
 have Ry:eX.Ns cenv.locals mm:=Qw.sameBut C9 (gS E8)
 refine⟨mm,Ry,fun sq UR=>?_⟩
 have fo:∀b o,b≠cenv.locals→eX.get? b=some o→sq.get? b=some o:=fun b o e1 e2=>(UR.2 b e1).trans e2
 have tk:∀{a:aD}{items:Array ai},dn eX a items→dn sq a items:=fun{a items} t=>by
  have:=uP Ry t
  refine aq t fun o ho r=>?_
  clear t
  exact⟨o,fo _ _ this ho,r⟩
 exact⟨.next,_,bD,H',(h2.trans cV).ta h0C fo,⟨I.ok,I.e,I.r,I.top,vo.h.off fo h8 Tn tk,vo.f.NO fo tk E8 qJ,vo.k.off fo NK⟩,rfl,fin _ _ h4⟩
end
end
section
open PySem PySem.W PySem.Calls PyProof.Rows
section
variable {c:Cx}{d:Nat}{A:aU}{env:dH}{l l':Loc}{α bD cq:Am}{h h' h₀:cb}{H H':List ag}{s s':aH}
variable {Q:AV→List ag→Prop}{QB:Bool→List ag→Prop}{X:List ag→Prop}{pos:ij}{own own':aD→Prop}{QU:Loc→List ag→Prop}{kp:Nat}{SQ:AF→Loc→List ag→Prop}
theorem An {n:Nat}{kvs:List (Int×AV)}{k:Int}{a:AV}{p:aD×aD}{t:Tok}{v:ai}{P:Unit→aH→Prop}{E:ai→aH→Prop}(e:H[n]?=some (.dict kvs)) (hz:kvs.length≤1000000) (e3:α[n]?=some p) (I:Inv c d A env l α H s) (rv:bO c s.heap α a v)
  (q:∀s',bM A (cy env) α s.heap α s'.heap→Inv c d A env l α (H.set n (.dict (mu k a kvs))) s'→P () s'):bj c.M A (dictSet p.1 (.int k t) v) P E s:=by
 obtain⟨kv,hd,dr,e2,hm⟩:=I.h.cell e e3
 refine wpAny_dictSet_pairs (nN _ _ _ _) hd (fun h' qG hs=>?_) (by rw[dr.length,cw];exact b9 hz rfl)
 have ha:∃o,h'.get? p.1=some o:=RU qG
 have m0:bM A iQ α s.heap α h':=kq (oI e3).1 hs ha
 obtain⟨m,I'⟩:=I.upd (s':={ s with heap:=h',toks:=s.toks+1 }) (x:=.dict (mu k a kvs)) e3 (.inl rfl) hs ha
  ⟨_,qG,(da.put (rv.mono m0 I.h (eM.no _)) (dr.mono m0 I.h (eM.no _))),e2,hm⟩
 exact q _ m I'
theorem B6 {kx vx iter:Expr}{qX:List Expr}{scope:nQ}{x:bu}{px:ij}{xs:List AV}{gC:List ag→Prop}{I₀ D:aD}{St:Nat→Am→cb→Prop}{lc:Loc}{nD:Nat}{R:sP→aH→Prop}{envO:dH}{lO:Loc}
  (it:Fd kp c d A xB xs gC I₀ St) (J:Nat→List (Int×AV)→List ag→Prop) (hJ:∀i acc H',J i acc H'→gC H'∧H'[nD]?=some (.dict acc)∧acc.length≤1000000)
  (step:∀i v acc H',xs[i]?=some v→J i acc H'→A7 c d A env qX (lc.set 1 (some v)) H' (fun ok yn=>if ok then
   WE c d A env kx (lc.set 1 (some v)) yn (fun a H3=>∃k,a=.int k∧WE c d A env vx (lc.set 1 (some v)) H3 (fun b H4=>H4[nD]?=some (.dict acc)∧acc.length≤1000000∧J (i+1) (mu k b acc) (H4.set nD (.dict (mu k b acc)))) X) X else J (i+1) acc yn) X)
  (hx:env.scope.names[1]?=some (x,.local)) (hl:1<lc.length){own₀:aD→Prop}(OA:own₀ env.locals∧own₀ I₀) (jL:∀b,cy env b↔b=env.locals) (rf:h₀.get? I₀=none) (no:¬cy env I₀)
  (I:Inv c d A env lc α H s) (m:bM A own₀ cq h₀ α s.heap) (st:St 0 α s.heap) (j0:J 0 [] H) (XJ:envO.locals≠env.locals) (Xl:∀(i:Nat) x k b,envO.scope.names[i]?=some (x,k)→xA k→envO.cells.lookup x=some b→b≠env.locals) (fO:oZ c envO s.heap α lO) (hD:α[nD]?=some (D,D))
  (hR:∀bD H' s' Nf acc,bM A own₀ cq h₀ bD s'.heap→Inv c d A env Nf bD H' s'→oZ c envO s'.heap bD lO→J xs.length acc H'→bD[nD]?=some (D,D)→R (.ok .next) s')
  (hE:∀aP (gp:cb) y s',bM A own₀ cq h₀ aP gp→oZ c envO gp aP lO→(¬iW aP env.locals∧∃o,gp.get? env.locals=some o)→kF c A env aP gp X y s'→tC c.M A env (fun e s'=>R (.error e) s') y s') :
  ic c.M A (.compLoop (.DictComp kx vx [⟨.Name x px,iter,qX,0⟩] scope pos) 0 (.ref I₀) (.ref D) env) R s:=by
 have JA:∀{aP bE:Am}{gp eX:cb},bM A (cy env) aP gp bE eX→bM A own₀ aP gp bE eX:=fun m=>m.nR fun b q=>(jL b).mp q▸OA.1
 have kO:∀{aP bE:Am}{gp eX:cb}{H₁:List ag},oZ c envO gp aP lO→gw c gp aP H₁→eM gp (cy env)→bM A (cy env) aP gp bE eX→oZ c envO eX bE lO:=fun f O S m=>f.keep m O S (fun q=>XJ ((jL _).mp q)) fun i x k b e1 e2 e3 q=>Xl i x k b e1 e2 e3 ((jL _).mp q)
 refine codeAny_compLoop_testsD (G7 c d A env lc own₀ cq h₀ xs.length St J nD D envO lO)
  (fun n bf p=>?_) xs.length ⟨0,lc,α,H,[],rfl,cQ _,m,I,rfl,st,j0,hD,fO⟩
 obtain⟨i,rt,aP,H₁,acc,rfl,hi,bZ,bl,Vk,mW,xX,y0,uy⟩:=p
 refine bQ (hJ _ _ _ xX) fun nx rZ hz=>?_
 have N1:1<rt.length:=by
  have:=congrArg m6 Vk
  rw[dG,dG] at this
  exact EI this (iZ hl)
 by_cases iU:i<xs.length
 ·have NH:xs[i]?=some xs[i]:=aw iU
  refine it.item (.inl ⟨x,px,rfl⟩) NH bl no nx mW _ _ fun v cX go=>?_
  dsimp only
  rw[←pure_bind () (fun _:Unit=>iL (.Name x px) env v)]
  refine(show bj c.M A (mB (.Name x px) (.ref I₀) v >>= fun _=>iL (.Name x px) env v) _ _ cX from ak (go _ (fun hG Px gW fP FH wV=>?_) _))
  have IA:oZ c envO hG.heap aP lO:=uy.off Px (it.ok mW).at_
  have Sq:=bZ.trans (gW.nR (own':=own₀) fun b q=>q.elim (fun q=>(jL b).mp q▸OA.1) fun q=>q▸OA.2)
  refine au (WU.aName (x:=x) (p:=px) (a:=xs[i]) (QU:=fun l' H'=>l'=lc.set 1 (some xs[i])∧H'=H₁) (X:=X) (l:=rt) (H:=H₁) (d:=d) (WU.stLoc 1 hx N1 ⟨?_,rfl⟩) aP hG [v] fP (eC FH jD)) (fun _ n5 ⟨OX,rM,Gs,ku,jU,e1,e2⟩=>?_) fun y s' z=>hE _ _ y s' Sq IA fP.f.tu z
  ·have:(rt.set 1 none).set 1 (some xs[i])=(lc.set 1 none).set 1 (some xs[i]):=by rw[Vk]
   rwa [lI,lI] at this
  subst e1 e2
  have TV:=Sq.trans (JA ku)
  have zz:=it.mono wV fP.h fP.solid no ku.toM
  have GU:=kO IA fP.h fP.solid ku
  refine au (step i _ acc _ NH xX rM n5 jU) (fun ok Bm eT=>?_) fun y s' z=>hE _ _ y s' TV GU jU.f.tu z
  obtain⟨mG,Ar,pW,k7,Iz⟩:=eT
  have Pg:=TV.trans (JA pW)
  have uz:=it.mono zz jU.h jU.solid no pW.toM
  have BK:=kO GU jU.h jU.solid pW
  have zZ:mG[nD]?=some (D,D):=pW.pre (ku.pre y0)
  have FK:(lc.set 1 (some xs[i])).set 1 none=lc.set 1 none:=by rw[lI]
  cases ok with
  |false=>
   exact⟨xs.length-(i+1),by exact wG iU,i+1,_,mG,Ar,acc,rfl,iU,Pg,k7,FK,uz,Iz,zZ,BK⟩
  |true=>
   refine au (Iz mG Bm k7) (fun y Lh p=>?_) fun y s' z=>hE _ _ y s' Pg BK k7.f.tu z
   obtain⟨a,tf,Bo,tI,n7,NI,k,rfl,DC⟩:=p
   obtain⟨t,rfl⟩:=NI.int
   have Si:=Pg.trans (JA tI)
   have xg:=it.mono uz k7.h k7.solid no tI.toM
   have IH:=kO BK k7.h k7.solid tI
   have CG:=tI.pre zZ
   refine au (DC tf Lh n7) (fun y X0 p=>?_) fun y s' z=>hE _ _ y s' Si IH n7.f.tu z
   obtain⟨b,Im,X9,xI,BD,TU,q1,q2,q3⟩:=p
   have Xb:=Si.trans (JA xI)
   have Gh:=it.mono xg n7.h n7.solid no xI.toM
   have NP:=kO IH n7.h n7.solid xI
   have Mn:=xI.pre CG
   refine An (p:=(D,D)) q1 q2 Mn BD TU fun aal Qd Wu=>?_
   have m18:=Xb.trans (JA Qd)
   have SK:=it.mono Gh BD.h BD.solid no Qd.toM
   have Wr:=kO NP BD.h BD.solid Qd
   exact⟨xs.length-(i+1),by exact wG iU,i+1,_,Im,_,mu k b acc,rfl,iU,m18,Wu,FK,SK,q3,Mn,Wr⟩
 ·obtain rfl:i=xs.length:=by exact aW [_,_] [] [.L aB aM,.N (.T aB aM)] (.E aB aM) (.o cI cM) rfl hi iU
  refine it.done bl no nx mW _ _ fun cX zb cA=>?_
  exact hR aP H₁ cX rt acc (bZ.ta rf zb) cA (uy.off zb (it.ok mW).at_) xX y0
theorem Ae {kx vx iter:Expr}{qX:List Expr}{scope:nQ}{uw:ij}{x:bu}{px:ij}{lc:Loc}{dO:List (bu×bc)}{xs:List AV}{gC:List ag→Prop}{I₀:aD}{St:Nat→Am→cb→Prop}{P:ai→aH→Prop}{use:Option (ai→rU Unit)}
  (K:nA env l scope x lc dO) (J:Nat→List (Int×AV)→List ag→Prop) (hJ:∀i acc H',J i acc H'→gC H'∧H'[H.length]?=some (.dict acc)∧acc.length≤1000000)
  (step:∀cenv i v acc H',cenv.scope.names=dO→xs[i]?=some v→J i acc H'→A7 c d A cenv qX (lc.set 1 (some v)) H' (fun ok yn=>if ok then
   WE c d A cenv kx (lc.set 1 (some v)) yn (fun a H3=>∃k,a=.int k∧WE c d A cenv vx (lc.set 1 (some v)) H3 (fun b H4=>H4[H.length]?=some (.dict acc)∧acc.length≤1000000∧J (i+1) (mu k b acc) (H4.set H.length (.dict (mu k b acc)))) X) X else J (i+1) acc yn) X)
  (it:Fd kp c d A xB xs gC I₀ St) (m:bM A (cy env) cq h₀ α s.heap) (I:Inv c d A env l α H s) (st:St 0 α s.heap) (rf:h₀.get? I₀=none) (no:¬cy env I₀) (j0:J 0 [] (H++[.dict []]))
  (hR:∀bD H' s' acc C D,(∀pK,dy C s'.heap pK→bM A (cy env) cq h₀ bD pK∧Inv c d A env l bD H' { s' with heap:=pK })→bM A (cy env) cq h₀ bD s'.heap→Inv c d A env l bD H' s'→J xs.length acc H'→bD[H.length]?=some (D,D)→(∃m,s'.heap.Ns C m)→s.heap.get? C=none→¬iW bD C →
   ∀cenv:dH,cenv.locals=C→vn c.M A (kF c A env cq h₀ X) use P (.ref D) cenv (.ok .next) s') :
  bj c.M A newDict (fun acc hG=>bj c.M A (Cp scope env.globals (g5 env scope.names []) [] env.qual none .none (some env)) (fun cenv n5=>
   ic c.M A (.compStart (.DictComp kx vx [⟨.Name x px,iter,qX,0⟩] scope uw) 0 (.ref I₀) acc { cenv with scope:=gB scope env }) (vn c.M A (kF c A env cq h₀ X) use P acc { cenv with scope:=gB scope env }) n5) (kF c A env cq h₀ X) hG) (kF c A env cq h₀ X) s:=by
 have Bi:=it.ok st
 refine eL ?_
 have kR:s.heap.objs.size≠gh:=fun q=>by
  have h1:s.heap.Ns cStatics _:=(I.ok.T.nolimit.keeps I.h.base).choose_spec.1
  have:=h1.lt
  rw[q] at this
  exact absurd this (by decide)
 obtain⟨bZ,bl⟩:=I.alloc (s':={ s with heap:=s.heap.push { cls:=.type "dict",data:=.dict #[] } }) (p:=(s.heap.objs.size,s.heap.objs.size)) (x:=.dict []) gd bR bR
  ⟨[],⟨_,#[],0,aX _ rfl,⟨rfl,rfl,rfl⟩,rfl,fun e he=>by simp at he,.nil,gF⟩,rfl,rfl,by simpa using kR⟩
 have hD:(α++[(s.heap.objs.size,s.heap.objs.size)])[H.length]?=some (s.heap.objs.size,s.heap.objs.size):=by rw[←I.h.len];simp
 have mW:=it.mono st I.h I.solid no bZ.toM
 refine Me K.A6 (by intro y hy;simp at hy) (fun eX ud Vi=>?_) K.kind
 dsimp only at ud Vi ⊢
 generalize Yb:s.heap.push { cls:=.type "dict",data:=.dict #[] }=ja at *
 have Zb:s.heap.objs.size≤ja.objs.size:=by rw[←Yb,gK];exact bX _
 have Wq:ja.get? ja.objs.size=none:=bR
 have v8:s.heap.get? ja.objs.size=none:=gk Zb
 have hk:∀b o,ja.get? b=some o→eX.get? b=some o:=fun b o e=>(Vi.2 b (bV (bU e))).trans (aT _ e)
 obtain⟨cA,jL⟩:=zg (s:={ s with heap:=ja }) K bl Wq hk ud
 obtain⟨cV,vo⟩:=bl.grow (s':={ s with heap:=eX }) hk
 have jw:=it.mono mW bl.h bl.solid no cV.toM
 have Xz:I₀≠ja.objs.size:=fun q=>by
  refine cB Bi.at_ fun o vs ho _=>?_
  rw[q,v8] at ho;exact nS ho
 have WW:¬cy (jP scope (g5 env scope.names []) ja.objs.size env) I₀:=fun q=>Xz ((jL _).mp q)
 have E8:env.locals≠ja.objs.size:=fun q=>by
  refine eU I.f.ns fun mm o _ _ ho _ _=>?_
  rw[q,v8] at ho;exact nS ho
 have Wf:bM A (cy env) cq h₀ (α++[(s.heap.objs.size,s.heap.objs.size)]) eX:=(m.trans bZ).trans cV
 have qJ:∀(i:Nat) y k b,env.scope.names[i]?=some (y,k)→xA k→env.cells.lookup y=some b→b≠ja.objs.size:=fun i y k b e1 e2 e3 q=>by
  refine gN (I.f.cl e1 e2) fun b' ov e4 o ho _ _=>?_
  rw[e3] at e4;replace e4:=ae e4;subst e4
  rw[q,v8] at ho;exact nS ho
 have Pr:h₀.get? ja.objs.size=none:=m.gone v8
 have NK:¬AK A ja.objs.size:=fun q=>by
  refine i8 (I.k.none q) fun _ _ o ho _=>?_
  rw[v8] at ho;exact nS ho
 have drop:∀{fh:Am}{sq:cb},bM A (fun b=>cy env b∨b=ja.objs.size∨b=I₀) cq h₀ fh sq→bM A (cy env) cq h₀ fh sq:=fun m=>m.drop fun b o q n e=>by
  rcases q with q | q | q
  ·exact n q
  ·rw[q,Pr] at e;exact nS e
  ·rw[q,rf] at e;exact nS e
 have loop:ic c.M A (.compLoop (.DictComp kx vx [⟨.Name x px,iter,qX,0⟩] scope uw) 0 (.ref I₀) (.ref s.heap.objs.size) (jP scope (g5 env scope.names []) ja.objs.size env)) (vn c.M A (kF c A env cq h₀ X) use P (.ref s.heap.objs.size) (jP scope (g5 env scope.names []) ja.objs.size env)) { s with heap:=eX }:=by
  refine B6 (envO:=env) (lO:=l) (own₀:=fun b=>cy env b∨b=ja.objs.size∨b=I₀) it J hJ (fun i v acc H' hx hj=>step _ i v acc H' K.names hx hj) (K.names▸K.tgt) K.lcl ⟨.inr (.inl rfl),.inr (.inr rfl)⟩ jL rf WW cA (Wf.nR fun b q=>.inl q) jw j0 E8 qJ vo.f hD (fun bD H' s' Nf acc m' I' f' j' Zh=>?_) fun aP gp y s' m' uy lv z=>?_
  ·have fo:∀{pK},dy ja.objs.size s'.heap pK→∀b o,b≠ja.objs.size→s'.heap.get? b=some o→pK.get? b=some o:=fun hs b o e1 e2=>(hs.2 b e1).trans e2
   obtain⟨mm,Qw⟩:∃m,s'.heap.Ns ja.objs.size m:=I'.f.ns.imp fun _ z=>z.1
   have Ie:Inv c d A env l bD H' s':=⟨I.ok,I.e,I.r,I.top,I'.h,f',I'.k⟩
   refine hR bD H' s' acc ja.objs.size s.heap.objs.size (fun pK hs=>?_) (drop m') Ie j' Zh ⟨mm,Qw⟩ v8 I'.f.no _ rfl
   have tk:∀{a:aD}{items:Array ai},dn s'.heap a items→dn pK a items:=fun{a items} t=>by
    have:=uP Qw t
    refine aq t fun o ho r=>?_
    clear t
    exact⟨o,fo hs _ _ this ho,r⟩
   exact⟨drop (m'.ta Pr (fo hs)),I.ok,I.e,I.r,I.top,I'.h.off (fo hs) I'.f.no I'.f.new tk,f'.NO (fo hs) tk E8 qJ,I'.k.off (fo hs) NK⟩
  ·obtain⟨e,fl,bD,H',rfl,ub,z,m2,O,K2,hX,mm,ud⟩:=z
   refine cB I.top fun en o ml uh=>?_
   obtain⟨F,hF⟩:=I.e.frame
   have mt:=m'.trans (m2.nR (own':=fun b=>cy env b∨b=ja.objs.size∨b=I₀) fun b q=>.inr (.inl ((jL b).mp q)))
   obtain⟨m1,YH⟩:∃m,s'.heap.Ns env.locals m:=by
    refine eU uy.ns fun m1 ob es ep ho nF _=>?_
    refine bG nF fun hd r=>?_
    obtain⟨sl,e2⟩:=m2.slot ho uy.no fun q=>E8 ((jL _).mp q)
    exact⟨m1,_,es,ep,e2,hd,r⟩
   have PQ:s'.heap.Ns ja.objs.size mm:=ud
   unfold tC
   rw[jy (env:=jP scope (g5 env scope.names []) ja.objs.size env) uh]
   refine PK ml (uh.trans hF) (by unfold wA at ub ⊢;rw[uh];exact ub) mt O K2 (WC.make.iV.Hu m' z) fun h3 z3 m3 O3 K3 u3=>?_
   show ∃m,cb.Ns h3 ja.objs.size m∧_
   have xJ:=Ns.upTo PQ u3
   refine⟨mm,xJ,fun h4 hs=>?_⟩
   have fo:∀b o,b≠ja.objs.size→h3.get? b=some o→h4.get? b=some o:=fun b o e1 e2=>(hs.2 b e1).trans e2
   have tk:∀{a:aD}{items:Array ai},dn h3 a items→dn h4 a items:=fun{a items} t=>by
    have:=uP xJ t
    refine aq t fun o ho r=>?_
    clear t
    exact⟨o,fo _ _ this ho,r⟩
   have Zt:¬iW bD ja.objs.size:=fun q=>by
    refine bG lv fun l1 tM=>?_
    clear lv
    refine al tM fun ob l2=>?_
    rcases m2.fresh q with q | q
    ·exact l1 q
    ·rw[show gp.get? ja.objs.size=some ob from l2] at q;exact nS (fZ q)
   have Tn:c.hb.get? ja.objs.size=none:=by
    cases q:c.hb.get? ja.objs.size with
    |none=>rfl
    |some o=>rw[I.h.base _ _ q] at v8;exact nS (fZ v8)
   have m4:=m3.ta Pr fo
   have O4:=O3.off fo Zt Tn tk
   have K4:=K3.off fo NK
   have z4:iV c h₀ h4 bD e (some (ib F)):=by
    obtain⟨a1,a2,a3,oe,vs,a0,a4,a5,a6,a7,T,oT,ts,b1,b2,b3,b4,b5,b6,b7,b8⟩:=z3
    have ne:∀{x:aD}{ox:ou}{ws:Array ai},h3.get? x=some ox→ox.data=.fields ws→x≠ja.objs.size:=fun{x ox ws} e1 e2 q=>by
     refine eD xJ fun o4 es ep Zk j3=>?_
     clear xJ
     refine bG j3 fun WQ _=>?_
     rw[q,Zk] at e1;replace e1:=ae e1;subst e1;rw[WQ] at e2;cases e2
    exact⟨a1,a2,a3,oe,vs,a0,fo _ _ (ne a4 a6) a4,a5,a6,a7,T,oT,ts,b1,b2,fo _ _ (ne b3 b4) b3,b4,b5,b6,b7,b8⟩
   have Y9:=z4
   obtain⟨_,_,_,oe,vs,a0,c4,c5,c6,c7,T,oT,ts,d1,_⟩:=Y9
   show bj c.M A (PySem.passOn "comprehension.variables-let-go" (.ref e) (jP scope (g5 env scope.names []) ja.objs.size env)) _ _ _
   unfold PySem.passOn
   refine ak (g9 (s:={ s' with heap:=h4 }) c4 c6 d1 ?_)
   rw[if_neg (by simp)]
   refine ak (pL (s:={ s' with heap:=h4 }) (fr:=env.frame) ml m4 O4 K4 z4 fun h5 z5 m5 O5 K5 u5=>?_)
   refine Mf ?_
   rw[hF] at z5
   refine⟨e,_,bD,H',rfl,.inr (.inr ⟨F,hF,rfl⟩),z5,drop m5,O5,K5,hX,m1,Ns.upTo ?_ u5⟩
   refine eD (Ns.upTo YH u3) fun o3 es ep wz r=>?_
   exact⟨o3,es,ep,fo _ _ E8 wz,r⟩
 exact codeAny_compStart_dict loop (it.self ⟨x,px,.inl ⟨x,px,rfl⟩⟩ _ _ jw loop)
inductive Pt (c:Cx) (d:Nat) (A:aU) (kx vx:Expr) (qX:List Expr) (lc:Loc) (dO:List (bu×bc)) (X:List ag→Prop) (fin:List (Int×AV)→List ag→Prop) (xs:List AV) (gC:List ag→Prop) (H:List ag):Prop
 |mk (J:Nat→List (Int×AV)→List ag→Prop) (j0:J 0 [] (H++[.dict []])) (hJ:∀i acc H',J i acc H'→gC H'∧H'[H.length]?=some (.dict acc)∧acc.length≤1000000)
  (step:∀cenv i v acc H',cenv.scope.names=dO→xs[i]?=some v→J i acc H'→A7 c d A cenv qX (lc.set 1 (some v)) H' (fun ok yn=>if ok then
   WE c d A cenv kx (lc.set 1 (some v)) yn (fun a H3=>∃k,a=.int k∧WE c d A cenv vx (lc.set 1 (some v)) H3 (fun b H4=>H4[H.length]?=some (.dict acc)∧acc.length≤1000000∧J (i+1) (mu k b acc) (H4.set H.length (.dict (mu k b acc)))) X) X else J (i+1) acc yn) X)
  (fin:∀acc H',J xs.length acc H'→fin acc H')
theorem WE.Uy {kx vx iter:Expr}{qX:List Expr}{scope:nQ}{x:bu}{px:ij}{lc:Loc}{dO:List (bu×bc)}(K:nA env l scope x lc dO) (hs:∀x,gA iter env x=pure x)
  (w:WI kp c d A env xB iter l H (fun xs gC H1=>Pt c d A kx vx qX lc dO X (fun _ H'=>Q (.obj H1.length) H') xs gC H1) X):WE c d A env (.DictComp kx vx [⟨.Name x px,iter,qX,0⟩] scope pos) l H Q X:=fun α s I=>by
 rw[arm_eval_DictComp]
 refine rY (use:=none) rfl hs (K.ON I) K.kind K.loc (au (w α s I) (fun v bf p=>au p (fun ZC cX p=>?_) fun _ _ e=>e) fun _ _ e=>e)
 obtain⟨I₀,St,xs,gC,H₁,aP,rfl,it,hm,cA,jw,s7,no,q⟩:=p
 obtain⟨J,Pl,hJ,step,fin⟩:=q
 refine Ae K J hJ step it hm cA jw s7 no Pl fun bD H' s' acc C D h1 h2 h3 h4 h5 h6 h7 h8 cenv hC=>?_
 subst hC
 obtain⟨mm,hn⟩:=h6
 refine⟨mm,hn,fun pK hs=>?_⟩
 obtain⟨m',I'⟩:=h1 pK hs
 exact⟨.obj H₁.length,bD,H',m',I',yi h5,fin _ _ h4⟩
end
end
section
open PySem PySem.W PySem.Calls PyProof.Rows
open SeqAt (EqAt RcAt RcNeAt)
inductive gv (H:List ag):Nat→AV→AV→Bool→Prop
 |int (i j:Int):gv H 0 (.int i) (.int j) (i==j)
 |d8 (x y:List UInt8):gv H 0 (.d8 x) (.d8 y) (x==y)
 |ZI:gv H 0 .none .none true
 |up {k:Nat}{a b:AV}{r:Bool}(q:gv H k a b r):gv H (k+1) a b r
 |tup {k:Nat}{xs ys:List AV}{e:Nat→Bool}(he:∀(j:Nat) x y,xs[j]?=some x→ys[j]?=some y→gv H k x y (e j)):gv H (k+1) (.tup xs) (.tup ys) ((bh (min xs.length ys.length)).all e&&xs.length==ys.length)
 |lst {k n m:Nat}{xs ys:List AV}{e:Nat→Bool}(h1:H[n]?=some (.list xs)) (h2:H[m]?=some (.list ys)) (hl:xs.length=ys.length) (he:∀(j:Nat) x y,xs[j]?=some x→ys[j]?=some y→gv H k x y (e j)):gv H (k+1) (.obj n) (.obj m) ((bh xs.length).all e)
 |len {k n m:Nat}{xs ys:List AV}(h1:H[n]?=some (.list xs)) (h2:H[m]?=some (.list ys)) (hl:xs.length≠ys.length):gv H (k+1) (.obj n) (.obj m) false
theorem BX {n:Nat}{e:Nat→Bool}(h:∀j,j<n→e j=true):(bh n).all e=true:=ba.mpr fun j hj=>h j (de.mp hj)
inductive Ho (H:List ag) (k:Nat):List AV→List AV→List Bool→Prop
 |nil:Ho H k [] [] []
 |cons {x y:AV}{r:Bool}{xs ys:List AV}{rs:List Bool}(q:gv H k x y r) (qs:Ho H k xs ys rs):Ho H k (x::xs) (y::ys) (r::rs)
theorem Ho.at {H:List ag}{k:Nat}{xs ys:List AV}{rs:List Bool}(q:Ho H k xs ys rs):∀(j:Nat) x y,xs[j]?=some x→ys[j]?=some y→gv H k x y (rs[j]?.getD true):=by
 induction q with
 |nil=>exact fun _ _ _ h=>nS h
 |cons q _ ih=>
  intro j x y hx hy
  cases j with
  |zero=>replace hx:=ae hx;subst hx;replace hy:=ae hy;subst hy;exact q
  |succ j=>exact ih j x y hx hy
theorem Ho.all {H:List ag}{k:Nat}{xs ys:List AV}{rs:List Bool}(q:Ho H k xs ys rs):((bh (min xs.length ys.length)).all (fun j=>rs[j]?.getD true)&&xs.length==ys.length)=rs.all id:=by
 have l1:min xs.length ys.length=rs.length∧xs.length=ys.length:=by
  induction q with
  |nil=>exact⟨rfl,rfl⟩
  |cons _ _ ih=>exact⟨(Nat.succ_min_succ ..).trans (congrArg _ ih.1),congrArg (·+1) ih.2⟩
 rw[l1.1,l1.2,beq_self_eq_true,yU]
 clear q l1
 induction rs with
 |nil=>rfl
 |cons r rs ih=>
  rw[cL,AP,QP,AS,QP]
  exact congrArg (r&&·) ih
theorem gv.tupS {H:List ag}{k:Nat}{xs ys:List AV}{rs:List Bool}{r:Bool}(q:Ho H k xs ys rs) (e:rs.all id=r):gv H (k+1) (.tup xs) (.tup ys) r:=e▸q.all▸.tup q.at
section
variable {c:Cx}{d:Nat}{A:aU}{env:dH}{l l':Loc}{α bD cq:Am}{h h' h₀:cb}{H H':List ag}{s s':aH}
variable {Q:AV→List ag→Prop}{QB:Bool→List ag→Prop}{X:List ag→Prop}{pos:ij}{own own':aD→Prop}{QU:Loc→List ag→Prop}{kp:Nat}{SQ:AF→Loc→List ag→Prop}
theorem ES {a:aD}{xs ys:Array ai}(t:dn h a xs) (u:dn h a ys):xs=ys:=by
 refine fU t fun o ho _ n hd=>?_
 clear t
 refine fU u fun o' jQ _ n' qG=>?_
 clear u
 rw[ho] at jQ;replace jQ:=ae jQ;subst jQ;rw[hd] at qG;cases qG;rfl
theorem bq.same {xs ys:List AV}{l:List ai}{j:Nat}{x y:AV}(r1:bq c h α xs l) (r2:bq c h α ys l) (hx:xs[j]?=some x) (hy:ys[j]?=some y):∃v,bO c h α x v∧bO c h α y v:=by
 refine aq (r1.get hx) fun v e w=>?_
 refine aq (r2.get hy) fun v' e' w'=>?_
 cases e.symm.trans e'
 exact⟨v,w,w'⟩
theorem bq.iM {xs:List AV}{i1:Array ai}(r1:bq c h α xs i1.toList){j:Nat}(j1:j<i1.size):∃x,xs[j]?=some x∧bO c h α x i1[j]:=by
 have hx:=aw (l:=xs) (i:=j) (r1.length▸j1)
 refine aq (r1.get hx) fun v1 e1 w1=>?_
 cases ((xu j1).symm.trans eK.symm).trans e1
 exact⟨_,hx,w1⟩
theorem gw.IP (O:gw c h α H){n m:Nat}{v:ai}(ra:bO c h α (.obj n) v) (rb:bO c h α (.obj m) v):n=m:=Decidable.byContradiction fun q=>by
 refine aq ra.obj fun p e e1=>?_
 refine aq rb.obj fun p' e' e2=>?_
 exact(O.apart e e' q).1 (ai.ref.inj (e1.symm.trans e2))
theorem gv.uniq (O:gw c h α H){k:Nat}{a b:AV}{r:Bool}(q:gv H k a b r):∀{v:ai},bO c h α a v→bO c h α b v→r=true:=by
 induction q with
 |int i j=>
  intro v ra rb
  obtain⟨t,e⟩:=ra.int
  obtain⟨t',e'⟩:=rb.int
  exact beq_iff_eq.mpr (ai.int.inj (e.symm.trans e')).1
 |d8 x y=>
  intro v ra rb
  obtain⟨t,e⟩:=ra.d8
  obtain⟨t',e'⟩:=rb.d8
  exact beq_iff_eq.mpr (congrArg Array.toList (AU (e.symm.trans e')).1)
 |ZI=>exact fun _ _=>rfl
 |up _ ih=>exact ih
 |tup he ih=>
  intro v ra rb
  refine aN ra.tup fun a i1 e1 t1 r1=>?_
  refine aN rb.tup fun b i2 e2 t2 r2=>?_
  cases e1.symm.trans e2
  cases ES t1 t2
  have hl:=r1.length.symm.trans r2.length
  rw[hl,Nat.min_self,beq_self_eq_true,yU]
  exact BX fun j hj=>(bq.same r1 r2 (aw (hl▸hj)) (aw hj)).elim fun v w=>ih j _ _ (aw _) (aw _) w.1 w.2
 |lst h1 h2 hl he ih=>
  intro v ra rb
  cases O.IP ra rb
  cases h1.symm.trans h2
  refine aL (O.look h1 ra) fun p e1 _ c1=>?_
  refine aq c1.isList fun items hL rs=>?_
  exact BX fun j hj=>(bq.same rs rs (aw hj) (aw hj)).elim fun v w=>ih j _ _ (aw _) (aw _) w.1 w.2
 |len h1 h2 hl=>
  intro v ra rb
  cases O.IP ra rb
  cases h1.symm.trans h2
  exact absurd rfl hl
theorem EqAt.d8 (b c':Array UInt8) (t u:Tok):EqAt A s (.bytes b t) (.bytes c' u) (b.toList==c'.toList):=fun prog w E Q h=>by
 unfold eqBool
 refine cu ?_
 refine qZ (fun AO=>?_) (fun _=>?_)
 ·cases (AU (eq_of_beq AO)).1
  rw[beq_self_eq_true] at h
  exact ak (Cq (aQ h))
 ·exact ak (eq_bytes (iO h))
theorem gv.Y5 {a b:aD}{r:Bool}(h:RcAt A s (.ref a) (.ref b) r) (u:a=b→r=true):EqAt A s (.ref a) (.ref b) r:=by
 by_cases AO:a=b
 ·rw[u AO,AO];exact EqAt.same _
 ·exact EqAt.of_refs AO h
structure Yh (A:aU) (s:aH) (v w:ai) (r:Bool):Prop where
 e:RcAt A s v w r
 n:RcNeAt A s v w (!r)
 q:EqAt A s v w r
theorem gv.done (O:gw c s.heap α H){k:Nat}{a b:AV}{r:Bool}(q:gv H k a b r){v w:ai}{x y:aD}(e1:v=.ref x) (e2:w=.ref y) (ra:bO c s.heap α a v) (rb:bO c s.heap α b w) (rc:RcAt A s (.ref x) (.ref y) r) (rn:RcNeAt A s (.ref x) (.ref y) (!r)):Yh A s v w r:=by
 subst e1
 subst e2
 exact⟨rc,rn,gv.Y5 rc fun z=>q.uniq O ra (z▸rb)⟩
theorem gv.els {xs ys:List AV}{i1 i2:Array ai}{e:Nat→Bool}{k:Nat}(hu:A.units+(k+1)<L7) (r1:bq c s.heap α xs i1.toList) (r2:bq c s.heap α ys i2.toList)
  (ih:∀(j:Nat) x y,xs[j]?=some x→ys[j]?=some y→∀{A:aU}{v w:ai},A.units+k<L7→bO c s.heap α x v→bO c s.heap α y w→Yh A s v w (e j)) (j:Nat) (j1:j<i1.size) (j2:j<i2.size):EqAt A.in1 s i1[j] i2[j] (e j):=by
 refine aq (r1.iM j1) fun x hx w1=>?_
 refine aq (r2.iM j2) fun y hy w2=>?_
 exact(ih j x y hx hy (A:=A.in1) (cj (bF (sN _ _ _)) hu) w1 w2).q
theorem gv.run (O:gw c s.heap α H){k:Nat}{a b:AV}{r:Bool}(q:gv H k a b r):∀{A:aU}{v w:ai},A.units+k<L7→bO c s.heap α a v→bO c s.heap α b w→Yh A s v w r:=by
 induction q with
 |int i j=>
  intro A v w hu ra rb
  obtain⟨t,rfl⟩:=ra.int
  obtain⟨t',rfl⟩:=rb.int
  exact⟨RcAt.int_int i t j t',RcNeAt.int_int i t j t',EqAt.int_int i t j t'⟩
 |d8 x y=>
  intro A v w hu ra rb
  obtain⟨t,rfl⟩:=ra.d8
  obtain⟨t',rfl⟩:=rb.d8
  exact⟨fun prog w E Q h=>eq_bytes h,fun prog w E Q h=>ne_bytes h,EqAt.d8 x.toArray y.toArray t t'⟩
 |ZI=>
  intro A v w hu ra rb
  cases ra.none
  cases rb.none
  exact⟨RcAt.none_none,RcNeAt.none_none,EqAt.same _⟩
 |up _ ih=>exact fun hu=>ih (tR hu)
 |tup he ih=>
  intro A v w hu ra rb
  refine aN ra.tup fun a i1 e1 t1 r1=>?_
  refine aN rb.tup fun b i2 e2 t2 r2=>?_
  have hA:=cj (bC _ _) hu
  have el:=gv.els hu r1 r2 ih
  have rc:=RcAt.tuples t1 t2 hA el
  have rn:=RcNeAt.tuples t1 t2 hA el
  rw[show i1.size=_ from r1.length,show i2.size=_ from r2.length] at rc rn
  exact gv.done O (.tup he) e1 e2 ra rb rc rn
 |lst h1 h2 hl he ih=>
  intro A v w hu ra rb
  refine aL (O.look h1 ra) fun p g1 e1 c1=>?_
  refine aL (O.look h2 rb) fun p' g2 e2 c2=>?_
  refine aq c1.isList fun i1 t1 r1=>?_
  refine aq c2.isList fun i2 t2 r2=>?_
  have hA:=cj (bC _ _) hu
  have el:=gv.els hu r1 r2 ih
  have hz:=r1.length.trans (hl.trans r2.length.symm)
  have rc:=RcAt.lists t1 t2 hz hA el
  have rn:=RcNeAt.lists t1 t2 hz hA el
  rw[show i1.size=_ from r1.length] at rc rn
  exact gv.done O (.lst h1 h2 hl he) e1 e2 ra rb rc rn
 |len h1 h2 hl=>
  intro A v w hu ra rb
  refine aL (O.look h1 ra) fun p g1 e1 c1=>?_
  refine aL (O.look h2 rb) fun p' g2 e2 c2=>?_
  refine aq c1.isList fun i1 t1 r1=>?_
  refine aq c2.isList fun i2 t2 r2=>?_
  have hA:=cj (bC _ _) hu
  have hz:(i1.size != i2.size)=true:=bne_iff_ne.mpr fun z=>hl (r1.length.symm.trans (ow z r2.length))
  exact gv.done O (.len (k:=0) h1 h2 hl) e1 e2 ra rb (RcAt.lists_lengths t1 t2 hz hA) (RcNeAt.lists_lengths t1 t2 hz hA)
theorem uB.Bw (r:uB d A) (hd:1≤d){k:Nat}(hk:k≤8):A.units+k<L7:=by have:=r.units;exact aW [_,_,_] [] [.L bP aB,.L aM (.l 8),.T (.a cf (.m 40 aB)) (.l 9900)] (.T (.a cf aM) (.l 9900)) (.k [1,1,1,40]) rfl hd hk this
theorem WO.NM {a b:AV}{r:Bool}(k:Nat) (hk:k≤8) (hd:1≤d) (e:gv H k a b r) (q:QB r H):WO c d A env .Eq a b l H QB X:=fun α s v w I ra rb=>
 (gv.run I.h e (I.r.Bw hd hk) ra rb).e c.prog c.w _ _ (I.iS q)
theorem WO.Ln {a b:AV}{r:Bool}(k:Nat) (hk:k≤8) (hd:1≤d) (e:gv H k a b r) (q:QB (!r) H):WO c d A env .NotEq a b l H QB X:=fun α s v w I ra rb=>
 (gv.run I.h e (I.r.Bw hd hk) ra rb).n c.prog c.w _ _ (I.iS q)
theorem WO.WH {ys:List AV}(hd:1≤d) (q:QB true H):WO c d A env .NotEq .none (.tup ys) l H QB X:=fun α s v w I ra rb=>by
 cases ra.none
 refine aN rb.tup fun b i2 jY t2 r2=>?_
 subst jY
 exact RcNeAt.none_tuple t2 (by have:=I.r.Bw hd (k:=1) (by exact(by decide));exact f9 1 this rfl) c.prog c.w _ _ (I.iS q)
theorem WO.eqS {x y:bu}(q:QB (x==y) H):WO c d A env .Eq (.str x) (.str y) l H QB X:=fun α s v w I ra rb=>by
 obtain⟨t,rfl⟩:=ra.str
 obtain⟨u,rfl⟩:=rb.str
 exact RcAt.str_str x t y u c.prog c.w _ _ (I.iS q)
end
end
section
open PySem PySem.W PySem.Calls PyProof.Rows
section
variable {c:Cx}{d:Nat}{A:aU}{env:dH}{l l':Loc}{α bD cq:Am}{h h' h₀:cb}{H H':List ag}{s s':aH}
variable {Q:AV→List ag→Prop}{QB:Bool→List ag→Prop}{X:List ag→Prop}{pos:ij}{own own':aD→Prop}{QU:Loc→List ag→Prop}{kp:Nat}{SQ:AF→Loc→List ag→Prop}
theorem Inv.kX {D:aD}{ws:Array ai}{e:Nat}{as:List AV}(I:Inv c d A env l α H s) (hk:∀b o,s.heap.get? b=some o→s'.heap.get? b=some o) (hn:s.heap.get? D=none)
  (hD:s'.heap.get? D=some ⟨.type "list",none,.seq ws e,#[]⟩) (r:bq c s.heap α as ws.toList) (q:Q (.obj H.length) (H++[.list as])) (zH:gM s'=gM s:=by rfl):pV c d A env l α s.heap Q (.ref D) s':=by
 obtain⟨m,I'⟩:=I.alloc (s':=s') (p:=(D,D)) (x:=.list as) hk hn hn ⟨ws,e,hD,r.carry iX fun t=>t.keeps hk,rfl⟩ zH
 have:(α++[(D,D)])[H.length]?=some (D,D):=by rw[←I.h.len];simp
 exact⟨.obj H.length,_,_,m,I',yi this,q⟩
theorem WV.aad {n m:Nat}{vs ws:List AV}(e:H[n]?=some (.list vs)) (e':H[m]?=some (.list ws)) (hz:vs.length+ws.length≤1000000) (q:Q (.obj H.length) (H++[.list (vs++ws)])) :
  WV c d A env (fun xs=>fb .Add (xs[0]?.getD .none) (xs[1]?.getD .none)) [.obj n,.obj m] l H Q X:=fun α s xs I rs=>by
 refine aN rs.two fun x y gD rx ry=>?_
 subst gD
 refine aL (I.h.look e rx) fun p e3 ix jS=>?_
 subst ix
 obtain⟨i1,n1,Nd,r1,_⟩:=jS
 refine aL (I.h.look e' ry) fun p' e4 jW jY=>?_
 subst jW
 obtain⟨i2,n2,Dd,r2,_⟩:=jY
 have l1:=r1.length
 have l2:=r2.length
 rw[du] at l1 l2
 refine wN ⟨_,Nd,rfl⟩ ⟨_,Dd,rfl⟩ noFill_list_add seq_list_add PySem.F.slot_list_add PySem.F.entry_list_add (PySem.F.args_list_add_2 _ _) (list_addW p.1 p'.1 i1 i2 n1 n2 _ _ _ _ (by rw[l1,l2,cw];exact b9 hz rfl)) ⟨Nd,Dd,?_⟩
 have this:bq c s.heap α (vs++ws) (i1++i2).toList:=by rw[Dz];exact r1.append r2
 exact I.kX (s':={ s with heap:=s.heap.push { cls:=.type "list",data:=.seq (i1++i2) } }) (D:=s.heap.objs.size) gd bR (aX _ rfl) this q
theorem WV.XF {vs ws:List AV}(hz:vs.length+ws.length≤1000000) (q:Q (.tup (vs++ws)) H) :
  WV c d A env (fun xs=>fb .Add (xs[0]?.getD .none) (xs[1]?.getD .none)) [.tup vs,.tup ws] l H Q X:=fun α s xs I rs=>by
 refine aN rs.two fun x y nr rx ry=>?_
 subst nr
 have Zl:=rx
 have ry':=ry
 refine aN rx.tup fun a i1 mU t1 r1=>?_
 subst mU
 refine aN ry.tup fun b i2 nF t2 r2=>?_
 subst nF
 have l1:=r1.length
 have l2:=r2.length
 rw[du] at l1 l2
 refine fU (id t1) fun tM ho hc n hd=>?_
 obtain⟨cls,dd,data,sl⟩:=tM
 refine fU (id t2) fun lh Dd Y1 n2 Sv=>?_
 obtain⟨aar,W7,data2,sl2⟩:=lh
 simp only at hc hd Y1 Sv
 subst hc hd Y1 Sv
 by_cases hv:i1.isEmpty=true
 ·have h0:vs=[]:=by have:i1.size=0:=by simpa using hv
                    exact dD.mp (by exact aW [_,_] [] [.E aB aM,.E aB dE] (.E aM dE) (.o ni rj) rfl l1 this)
  subst h0
  exact wN ⟨_,ho,rfl⟩ ⟨_,Dd,rfl⟩ yL E1 PySem.F.slot_tuple_add PySem.F.entry_tuple_add (PySem.F.args_tuple_add_2 _ _) (tuple_addW0 a b i1 i2 n n2 dd W7 sl sl2 hv) ⟨ho,Dd,I.done ry' q⟩
 ·by_cases hw:i2.isEmpty=true
  ·have h0:ws=[]:=by have:i2.size=0:=by simpa using hw
                     exact dD.mp (by exact aW [_,_] [] [.E aB aM,.E aB dE] (.E aM dE) (.o ni rj) rfl l2 this)
   subst h0
   rw[cK] at q
   exact wN ⟨_,ho,rfl⟩ ⟨_,Dd,rfl⟩ yL E1 PySem.F.slot_tuple_add PySem.F.entry_tuple_add (PySem.F.args_tuple_add_2 _ _) (tuple_addW1 a b i1 i2 n n2 dd W7 sl sl2 hv hw) ⟨ho,Dd,I.done Zl q⟩
  ·refine wN ⟨_,ho,rfl⟩ ⟨_,Dd,rfl⟩ yL E1 PySem.F.slot_tuple_add PySem.F.entry_tuple_add (PySem.F.args_tuple_add_2 _ _) (tuple_addW2 a b i1 i2 n n2 dd W7 sl sl2 hv hw (by rw[l1,l2,cw];exact b9 hz rfl)) ⟨ho,Dd,?_⟩
   have this:bq c s.heap α (vs++ws) (i1++i2).toList:=by rw[Dz];exact r1.append r2
   have z:=I.xw (Q:=Q) this q
   rw[kI] at z
   exact z
theorem WV.YE {x y:bu}(hz:x.length+y.length≤1000000) (q:Q (.str (x++y)) H):WV c d A env (fun xs=>fb .Add (xs[0]?.getD .none) (xs[1]?.getD .none)) [.str x,.str y] l H Q X:=fun α s xs I rs=>by
 refine aN rs.two fun _ _ j3 rx ry=>?_
 subst j3
 obtain⟨t,rfl⟩:=rx.str
 obtain⟨u,rfl⟩:=ry.str
 exact PyProof.Rows.add_str (fun t' tk=>I.done Ko q) (by rw[cw];exact b9 hz rfl)
theorem bq.rep {vs:List AV}{ws:List ai}(r:bq c h α vs ws) (k:Nat):bq c h α (bH k vs).flatten (bH k ws).flatten:=by
 induction k with
 |zero=>exact jD
 |succ k ih=>exact r.append ih
theorem WV.mulL {n:Nat}{vs:List AV}{k:Int}(e:H[n]?=some (.list vs)) (hk:k<2^62) (yP : -(2^62)<k) (hz:vs.length*k.toNat≤1000000) (q:Q (.obj H.length) (H++[.list (bH k.toNat vs).flatten])) :
  WV c d A env (fun xs=>fb .Mult (xs[0]?.getD .none) (xs[1]?.getD .none)) [.obj n,.int k] l H Q X:=fun α s xs I rs=>by
 refine aN rs.two fun x y mh rx ry=>?_
 subst mh
 refine aL (I.h.look e rx) fun p e3 qI sL=>?_
 subst qI
 obtain⟨i1,n1,Nd,r1,_⟩:=sL
 obtain⟨u,rfl⟩:=ry.int
 have l1:=r1.length
 rw[du] at l1
 have kR:i1.size*k.toNat≤2^24:=by rw[l1];exact b9 hz rfl
 refine wpAny_binaryOp_repeat_ref (T:="list") (U:="int") (by decide) ⟨_,Nd,rfl⟩ (fun s'=>typeIs_int s' k u) noFill_list_mul F.fills_int_mul Rv repeat_list F.slot_int_index.lookup
  (QN Rv (typeIs_int s k u) F.entry_int_rmul (F.args_int_rmul_2 _ _) (int___rmul___int_list k u p.1 i1 n1)
   ⟨Nd,rfl,⟨_,Nd,rfl⟩,QN F.slot_list_mul ⟨_,Nd,rfl⟩ F.entry_list_mul (F.args_list_mul_2 _ _)
    (AutoListH.list___mul___list_int_3 p.1 i1 n1 k u (by simp[Builtin.List.listFitsIndex];exact aW [] [_] [.t bJ tL,.t (.n tL) bJ] (.A (.l (.n DS) bJ) (.t bJ DS)) (.o cI cM) rfl hk yP) (by exact bL (b9 kR rfl)) (by simp[Builtin.List.listTooLong,nO];exact kR))
    ⟨Nd,?_⟩⟩)
 have r2:=r1.rep k.toNat
 refine I.kX (s':={ s with heap:=s.heap.push { cls:=.type "list",data:=.seq (List.foldl (fun x1 x2=>x1++x2) #[] (bH (if i1.isEmpty=true then 0 else k.toNat) i1)) } }) (D:=s.heap.objs.size) gd bR (aX _ rfl) ?_ q
 rw[listMul_foldl]
 by_cases hv:i1.isEmpty=true
 ·rw[if_pos hv]
  have h0:i1.toList=[]:=by
   have:i1.size=0:=by simpa using hv
   exact dD.mp (by simpa using this)
  rw[h0] at r2
  have:(bH k.toNat ([]:List ai)).flatten=[]:=by simp
  rw[this] at r2
  simpa using r2
 ·rw[if_neg hv]
  simpa using r2
theorem WV.UM {i j:Int}(hj:0<j) (q:Q (.int (i / j)) H) (hb:j<1073741824):WV c d A env (fun vs=>fb .FloorDiv (vs[0]?.getD .none) (vs[1]?.getD .none)) [.int i,.int j] l H Q X:=fun α s vs I rs=>by
 refine aN rs.two fun _ _ uM ra rb=>?_;subst uM;obtain⟨_,rfl⟩:=ra.int;obtain⟨_,rfl⟩:=rb.int
 exact floordiv_int (by exact aW [] [_] [.t dE bJ] (.N (.e bJ dE)) cM rfl hj) (I.done (by rw[yH _ (by exact aW [] [_] [.t dE bJ] (.l dE bJ) cI rfl hj)];exact iy) q) (.inl (yI (BU (iY hj) hb)))
theorem WG.str {x:bu}{k:Int}{u:Nat}(h0:0≤k) (hk:k<2^62) (hx:x.cps.toList[k.toNat]?=some u) (q:Q (.str ⟨#[u]⟩) H):WG c d A env (.str x) (.int k) l H Q X:=fun α s v w I ra rb=>by
 obtain⟨_,rfl⟩:=ra.str
 obtain⟨_,rfl⟩:=rb.int
 have iU:k.toNat<x.length:=by
  have:=(ao.mp hx).1
  simpa [bu.length] using this
 refine⟨_,_,typeIs_str _ _ _,F.slot_str_getitem.lookup,P.getItem_str (c:=u) (by simp;exact aW [] [_] [.l dE bJ,.t bJ tL] (.A (.l (.n DS) bJ) (.t bJ DS)) (.o cM cI) rfl h0 hk) ?_ (I.done Ko q)⟩
 have h1:¬k<0:=by exact aW [] [_] [.l dE bJ] (.N (.t bJ dE)) cI rfl h0
 have h2:k<(x.length:Int):=by exact aW [_,_] [_] [.T aB aM,.ft aB bJ] (.t bJ aM) (.o nY rj) rfl iU (kL _)
 simp only[seqIndex?,h1,if_false,h0,h2,decide_true,Bool.and_self,if_true,Fv]
 rw[←eK];exact hx
theorem WE.Xn {e:Expr}{p p2 p3 p4:ij}{k:Nat}(w:WE c d A env e l H (fun a H1=>∃n vs,a=.obj n∧H1[n]?=some (.list vs)∧vs.length≤1000000∧Q (.obj H1.length) (H1++[.list vs.reverse])) X) :
  WE c d A env (.Subscript e (.Slice none none (some (.UnaryOp .USub (.Constant (.int 1) k p3) p4)) p) pos) l H Q X:=fun α s I=>by
 refine QM (au (w α s I) (fun v bf z=>?_) fun _ _ e=>e)
 obtain⟨a,aP,H₁,bZ,bl,fF,n,vs,rfl,e1,hz,q⟩:=z
 refine wpAny_Slice (aQ (aQ ?_))
 show bj c.M A (gr (.UnaryOp .USub (.Constant (.int 1) k p3) p4) env) _ _ bf
 refine UnaryOp_ (QG (P.neg_int ?_))
 refine aL (bl.h.look e1 fF) fun p e3 xV cr=>?_
 subst xV
 obtain⟨cV,cA⟩:=bl.grow (s':={ bf with heap:=bf.heap.push { cls:=.type "slice",data:=.fields #[.none,.none,.int (-1) (bf.toks+1)] } }) gd
 refine aq ((cA.h.cell e1 e3).isList) fun items hl rs=>?_
 have kR:items.size=vs.length:=by rw[←rs.length];simp
 refine tail_any hl.typeIs oA.lookup (o7 (bZ.trans cV) ?_) rfl
 refine pD hl (we ..) .none .none (.int _ _) (by simp) ?_ (by rw[kR,cw];exact b9 hz rfl)
 rw[krv_pick]
 exact cA.toks.newList rs.rev q
end
end
section
open PySem PySem.W PySem.Calls PyProof.Rows
noncomputable def jz (ks ns:List Int):Prop:=ns.Perm ks∧ns.Pairwise (·≤·)
section
variable {c:Cx}{d:Nat}{A:aU}{env:dH}{l l':Loc}{α bD cq:Am}{h h' h₀:cb}{H H':List ag}{s s':aH}
variable {Q:AV→List ag→Prop}{QB:Bool→List ag→Prop}{X:List ag→Prop}{pos:ij}{own own':aD→Prop}{QU:Loc→List ag→Prop}{kp:Nat}{SQ:AF→Loc→List ag→Prop}
theorem Inv.xb {a:AV}{v:ai}(I:Inv c d A env l α H s) (hk:∀b o,s.heap.get? b=some o→s'.heap.get? b=some o) (r:bO c s.heap α a v) (q:Q a H) (zH:gM s'=gM s:=by rfl):pV c d A env l α s.heap Q v s':=by
 obtain⟨m,I'⟩:=I.grow hk zH
 exact⟨a,α,H,m,I',r.carry id fun t=>t.keeps hk,q⟩
theorem WV.Z8 {i:Int}(q:Q (.int (if i<0 then -i else i)) H):WV c d A env (fun xs=>PySem.call (.builtin "abs") xs) [.int i] l H Q X:=fun α s xs I rs=>by
 refine aq rs.one fun x gD rx=>?_;subst gD;obtain⟨t,rfl⟩:=rx.int
 exact call_abs_int fun u tk=>I.done iy q
theorem WV.Wn {i:Int}(q:Q (.int i) H):WV c d A env (fun xs=>PySem.call (.type "int") xs) [.int i] l H Q X:=fun α s xs I rs=>by
 refine aq rs.one fun x jS rx=>?_;subst jS;obtain⟨t,rfl⟩:=rx.int
 exact call_int_int (I.done iy q)
theorem WV.ZU {u:Nat}(q:Q (.int u) H):WV c d A env (fun xs=>PySem.call (.builtin "ord") xs) [.str ⟨#[u]⟩] l H Q X:=fun α s xs I rs=>by
 refine aq rs.one fun x jY rx=>?_;subst jY;obtain⟨t,rfl⟩:=rx.str
 exact P.ord_of_char (I.done iy q)
theorem WV.Yl {x:bu}(hz:x.length≤1000000) (q:Q (.int x.length) H):WV c d A env (fun xs=>PySem.call (.builtin "len") xs) [.str x] l H Q X:=fun α s xs I rs=>by
 refine aq rs.one fun _ mU rx=>?_;subst mU;obtain⟨t,rfl⟩:=rx.str
 exact P.len_str (by exact aW [_] [] [.L aB jg] (.N (.l DS aB)) cI rfl hz) (I.done iy q)
theorem WV.Zx {i j:Int}(q:Q (.int (max i j)) H):WV c d A env (fun xs=>PySem.call (.builtin "max") xs) [.int i,.int j] l H Q X:=fun α s xs I rs=>by
 refine aN rs.two fun _ _ tM rx ry=>?_;subst tM;obtain⟨t,rfl⟩:=rx.int;obtain⟨u,rfl⟩:=ry.int
 refine max_two_ints I.r.hd fun h' tk hk=>?_
 refine I.xb (s':={ s with heap:=h',toks:=tk }) hk (a:=.int (max i j)) ?_ q
 split
 ·rw[og (iY ‹_›)];exact iy
 ·rw[Nt (jE.mp ‹_›)];exact iy
theorem WV.Z4 {i j:Int}(q:Q (.int (min i j)) H):WV c d A env (fun xs=>PySem.call (.builtin "min") xs) [.int i,.int j] l H Q X:=fun α s xs I rs=>by
 refine aN rs.two fun _ _ vL rx ry=>?_;subst vL;obtain⟨t,rfl⟩:=rx.int;obtain⟨u,rfl⟩:=ry.int
 refine min_two_ints I.r.hd fun h' tk hk=>?_
 refine I.xb (s':={ s with heap:=h',toks:=tk }) hk (a:=.int (min i j)) ?_ q
 split
 ·rw[vR (iY ‹_›)];exact iy
 ·rw[wK (jE.mp ‹_›)];exact iy
theorem tw {xs:List Int}{val:Nat→Int}(hv:∀(i:Nat) x,xs[i]?=some x→val i=x) (n:Nat) (h:n≤xs.length):preSum val n=(xs.take n).sum:=by
 induction n with
 |zero=>rfl
 |succ n ih=>
  have e:=aw (show n<xs.length by exact f9 0 h rfl)
  rw[preSum,ih (by exact f9 1 h rfl),hv n _ e,gi,e,List.sum_append]
  simp
theorem bq.ints:∀{xs:List Int}{vs:List ai},bq c h α (xs.map .int) vs→oC vs xs:=by
 intro us
 induction us with
 |nil=>
  intro _ r
  cases r.nil;exact .nil
 |cons x xs ih=>
  intro _ r
  refine aN (bq.cons r) fun v r' qI h1 h2=>?_
  subst qI
  obtain⟨t,rfl⟩:=h1.int
  exact .cons _ _ (ih h2)
theorem MM {xs:List Int}{vs:List ai}(r:oC vs xs):bq c h α (xs.map .int) vs:=by
 induction r with
 |nil=>exact jD
 |cons _ _ _ ih=>exact eC iy ih
theorem WV.X4 {n:Nat}{xs:List Int}(e:H[n]?=some (.list (xs.map .int))) (q:Q (.int xs.sum) H):WV c d A env (fun xs=>PySem.call (.builtin "sum") xs) [.obj n] l H Q X:=fun α s ys I rs=>by
 refine aq rs.one fun x uD rx=>?_
 subst uD
 refine aL (I.h.look e rx) fun p e3 uM cr=>?_
 subst uM
 refine aq cr.isList fun items hl ri=>?_
 have kR:items.size=xs.length:=by have:=ri.length;simpa using this
 have v9:p.1≠s.heap.objs.size:=by refine aq hl fun o ho _=>?_;clear hl;exact bV (bU ho)
 refine call_sum_walkG (Rt hl ⟨s.heap.objs.size,_,_,items.size,_,_,fun i=>(xs[i]?).getD 0,rfl,Walks.list (A:=A.in1) I.r.hd s.heap.objs.size p.1 v9 items,⟨⟨_,aX _ rfl,rfl,rfl⟩,hl.push _⟩,fun b hb=>?_,fun i v hv=>?_,fun h' tk t' hk=>?_⟩)
 ·rw[gK]
  simp only[br,bY,or_false] at hb
  rcases hb with rfl | rfl
  ·exact d6 _
  ·refine aq hl fun o ho _=>?_;clear hl;exact j6 (bU ho)
 ·have hi:i<xs.length:=by rw[←kR];exact(lR.mp hv).1
  have hx:(xs.map AV.int)[i]?=some (.int xs[i]):=by simp[hi]
  refine aq (ri.get hx) fun v' e1 r1=>?_
  obtain⟨t,rfl⟩:=r1.int
  have:items[i]?=some (.int xs[i] t):=by simpa using e1
  rw[hv] at this;replace this:=ae this;subst this
  exact⟨t,by simp[hi]⟩
 ·rw[kR,tw (xs:=xs) (fun i x e=>by simp[e]) _ (aA _),kC]
  exact I.xb (s':={ s with heap:=h',toks:=tk }) (fun b o e=>hk b o (by simp only[br,bY,or_false];exact bV (bU e)) (aT _ e)) iy q
theorem WV.Ym {b:List UInt8}(q:Q (.int ((b.map fun x=>(x.toNat:Int)).sum)) H):WV c d A env (fun xs=>PySem.call (.builtin "sum") xs) [.d8 b] l H Q X:=fun α s ys I rs=>by
 refine aq rs.one fun x xF rx=>?_
 subst xF
 obtain⟨t,rfl⟩:=rx.d8
 refine call_sum_walkG (vW ⟨s.heap.objs.size,_,_,b.toArray.size,_,_,fun i=>((b.map fun x=>(x.toNat:Int))[i]?).getD 0,rfl,Md (A:=A.in1) I.r.hd s.heap.objs.size b.toArray t,⟨_,aX _ rfl,rfl,rfl⟩,fun b hb=>?_,fun i v hv=>?_,fun h' tk t' hk=>?_⟩)
 ·rw[gK,cT.mp hb];exact d6 _
 ·refine cB hv fun y u e1 Hg=>?_
  clear hv
  subst Hg
  refine⟨u,?_⟩
  rw[Cn] at e1
  dsimp only
  rw[aK,e1];rfl
 ·rw[m8,tw (xs:=b.map fun x=>(x.toNat:Int)) (fun i x e=>by rw[e];rfl) _ (by simp),dK (by simp)]
  exact I.xb (s':={ s with heap:=h',toks:=tk }) (fun b o e=>hk b o (by simp only[br,bY,or_false];exact bV (bU e)) (aT _ e)) iy q
theorem WV.XS {i j k:Int}(q:Q (.int (min (min i j) k)) H):WV c d A env (fun xs=>PySem.call (.builtin "min") xs) [.tup [.int i,.int j,.int k]] l H Q X:=fun α s ys I rs=>by
 refine aq rs.one fun x HT rx=>?_
 subst HT
 refine aN rx.tup fun a items xV ht ri=>?_
 subst xV
 refine cx ri.three fun x1 x2 x3 NH r1 r2 r3=>?_
 obtain⟨t1,rfl⟩:=r1.int;obtain⟨t2,rfl⟩:=r2.int;obtain⟨t3,rfl⟩:=r3.int
 have Fh:items=#[.int i t1,.int j t2,.int k t3]:=by rw[←kI (xs:=items),NH]
 subst Fh
 have v9:a≠s.heap.objs.size:=by refine aq ht fun o ho _=>?_;clear ht;exact bV (bU ho)
 refine call_min_walk (vY ht ⟨s.heap.objs.size,_,_,3,_,_,_,rfl,Walks.tuple (A:=A.in1) I.r.hd s.heap.objs.size a v9 #[.int i t1,.int j t2,.int k t3],⟨⟨_,aX _ rfl,rfl,rfl⟩,ht.push _⟩,fun b hb=>?_,by decide,
  CmpOf.ints_lt (fun n=>([i,j,k][n]?).getD 0) (fun n v hv=>?_),fun v h' tk hP hk=>?_⟩)
 ·rw[gK]
  simp only[br,bY,or_false] at hb
  rcases hb with rfl | rfl
  ·exact d6 _
  ·refine aq ht fun o ho _=>?_;clear ht;exact j6 (bU ho)
 ·match n,hv with
  |0,hv=>replace hv:=ae hv;subst hv;exact⟨_,rfl⟩
  |1,hv=>replace hv:=ae hv;subst hv;exact⟨_,rfl⟩
  |2,hv=>replace hv:=ae hv;subst hv;exact⟨_,rfl⟩
  |n+3,hv=>simp at hv
 ·refine I.xb (s':={ s with heap:=h',toks:=tk }) (a:=.int (min (min i j) k)) (fun b o e=>hk b o (by simp only[br,bY,or_false];exact bV (bU e)) (aT _ e)) ?_ q
  simp only[argBest,Nat.reduceSub,Nat.reduceAdd] at hP
  by_cases h1:j<i
  ·by_cases h2:k<j
   ·have e:min (min i j) k=k:=by exact aW [] [_,_,_,_,_] [.t bJ dN,.t hM bJ,.fi yl dN bJ,.fi (.w 4) yl hM] (.e (.w 4) hM) (.o (.o (.o (.k [1,0,0,1,0,0,1,1,1]) (.k [0,0,0,0,1,0,0,0,1])) (.o jf cM)) (.o (.o (.k [1,0,0,1,0,0,1,1]) uc) (.o jf cM))) rfl h1 h2 (MP _ _) (MP _ _)
    have:v=.int k t3:=by simpa [h1,h2] using hP.symm
    rw[this,e];exact iy
   ·have e:min (min i j) k=j:=by exact aW [] [_,_,_,_,_] [.t bJ dN,.N (.t hM bJ),.fi yl dN bJ,.fi (.w 4) yl hM] (.e (.w 4) bJ) (.o (.o (.o (.k [1,0,0,1,0,0,1,0,1]) (.k [0,0,0,0,1,0,0,0,1])) (.o (.k [0,0,0,0,1,0,0,0,1]) (.k [0,0,0,0,1,0,0,0,1]))) (.o (.o (.k [1,0,0,1,0,0,1]) ui) (.o (.k [1,0,0,1,0,0,0,1]) (.k [1,1,1,0,0,1])))) rfl h1 h2 (MP _ _) (MP _ _)
    have:v=.int j t2:=by simpa [h1,h2] using hP.symm
    rw[this,e];exact iy
  ·by_cases h2:k<i
   ·have e:min (min i j) k=k:=by exact aW [] [_,_,_,_,_] [.N (.t bJ dN),.t hM dN,.fi yl dN bJ,.fi (.w 4) yl hM] (.e (.w 4) hM) (.o (.o (.o (.k [1,0,0,1,0,0,1,1]) uc) (.o jf cM)) (.o (.o (.k [1,0,0,1,0,0,1,1,1]) uc) (.o jf cM))) rfl h1 h2 (MP _ _) (MP _ _)
    have:v=.int k t3:=by simpa [h1,h2] using hP.symm
    rw[this,e];exact iy
   ·have e:min (min i j) k=i:=by exact aW [] [_,_,_,_,_] [.N (.t bJ dN),.N (.t hM dN),.fi yl dN bJ,.fi (.w 4) yl hM] (.e (.w 4) dN) (.o (.o (.o (.k [1,0,0,1,0,0,1]) ui) (.o (.k [1,0,0,1,0,0,0,1]) (.k [1,1,1,0,0,1]))) (.o (.o (.k [1,0,0,1,0,0,1,0,1]) rh) (.o (.k [1,0,0,1,0,0,0,1]) (.k [1,1,1,0,1,1])))) rfl h1 h2 (MP _ _) (MP _ _)
    have:v=.int i t1:=by simpa [h1,h2] using hP.symm
    rw[this,e];exact iy
theorem WV.ZV {n:Nat}{vs:List AV}(e:H[n]?=some (.list vs)) (hz:vs.length≤1000000) (q:Q (.tup vs) H):WV c d A env (fun xs=>PySem.call (.type "tuple") xs) [.obj n] l H Q X:=fun α s ys I rs=>by
 refine aq rs.one fun x OT rx=>?_
 subst OT
 refine aL (I.h.look e rx) fun p e3 G9 cr=>?_
 subst G9
 refine aq cr.isList fun items hl ri=>?_
 have kR:items.size=vs.length:=by have:=ri.length;simpa using this
 refine call_tuple_list hl (fun h' hk=>?_) (by rw[kR,cw];exact b9 hz rfl)
 obtain⟨m,I'⟩:=I.grow (s':={ s with heap:=h' }) hk
 have z:=I'.xw (Q:=Q) (ri.carry id fun t=>t.keeps hk) q
 rw[kI] at z
 exact z.weak m
theorem WV.W9 {vs:List AV}(q:Q (.tup vs) H):WV c d A env (fun xs=>PySem.call (.type "tuple") xs) [.tup vs] l H Q X:=fun α s ys I rs=>by
 refine aq rs.one fun x Zd rx=>?_
 subst Zd
 have Zl:=rx
 refine aN rx.tup fun a items PJ ht ri=>?_
 subst PJ
 exact call_tuple_same ht (I.done Zl q)
theorem WV.RQ {n:Nat}{vs:List AV}(e:H[n]?=some (.list vs)) (hz:vs.length≤1000000) (q:Q (.obj H.length) (H++[.list vs])):WV c d A env (fun xs=>PySem.call (.type "list") xs) [.obj n] l H Q X:=fun α s ys I rs=>by
 refine aq rs.one fun x Ol rx=>?_
 subst Ol
 refine aL (I.h.look e rx) fun p e3 Qn cr=>?_
 subst Qn
 refine aq cr.isList fun items NQ ri=>?_
 refine fU NQ fun o ho hc k hd=>?_
 have kR:items.size=vs.length:=by have:=ri.length;simpa using this
 exact call_list_seq p.1 (.inl rfl) ho hc hd (fun h' c' hk hD=>I.kX (s':={ s with heap:=h' }) hk bR hD ri q) (by rw[kR,cw];exact b9 hz rfl)
theorem WV.Sr {vs:List AV}(hz:vs.length≤1000000) (q:Q (.obj H.length) (H++[.list vs])):WV c d A env (fun xs=>PySem.call (.type "list") xs) [.tup vs] l H Q X:=fun α s ys I rs=>by
 refine aq rs.one fun x OI rx=>?_
 subst OI
 refine gN rx.tup fun a items Pb o ho NL ri=>?_
 refine bG NL fun hc OW=>?_
 refine al OW fun k hd=>?_
 subst Pb
 have kR:items.size=vs.length:=by have:=ri.length;simpa using this
 exact call_list_seq a (.inr rfl) ho hc hd (fun h' c' hk hD=>I.kX (s':={ s with heap:=h' }) hk bR hD ri q) (by rw[kR,cw];exact b9 hz rfl)
theorem WV.Ss {n:Nat}{xs:List Int}(e:H[n]?=some (.list (xs.map .int))) (hr:∀x∈xs,0≤x∧x<256) (hz:xs.length≤1000000) (q:Q (.d8 (xs.map fun x=>x.toNat.toUInt8)) H):WV c d A env (fun xs=>PySem.call (.type "bytes") xs) [.obj n] l H Q X:=fun α s ys I rs=>by
 refine aq rs.one fun x Qk rx=>?_
 subst Qk
 refine aL (I.h.look e rx) fun p e3 Pp cr=>?_
 subst Pp
 refine aq cr.isList fun items hl ri=>?_
 have kR:items.size=xs.length:=by have:=ri.length;simpa using this
 refine call_bytes_ints (vs:=items.toList) (by simpa using hl) ri.ints hr (by rw[du,kR,cw];exact b9 hz rfl) I.r.hd fun h' t k hk=>?_
 refine I.xb (s':={ s with heap:=h',toks:=k }) hk (a:=.d8 (xs.map fun x=>x.toNat.toUInt8)) Uv q
end
end
section
open PySem PySem.W PySem.Calls PyProof.Rows
section
variable {c:Cx}{d:Nat}{A:aU}{env:dH}{l l':Loc}{α bD cq:Am}{h h' h₀:cb}{H H':List ag}{s s':aH}
variable {Q:AV→List ag→Prop}{QB:Bool→List ag→Prop}{X:List ag→Prop}{pos:ij}{own own':aD→Prop}{QU:Loc→List ag→Prop}{kp:Nat}{SQ:AF→Loc→List ag→Prop}
theorem Ap {prog:mX}{w:iN}{E:ai→aH→Prop}{v:ai}{o:Option Int}(p:Ji v o){P:Option Int→aH→Prop}(h:P o s):bj (kg prog w) A (Builtin.Slice.slicePartIndex v) P E s:=by
 cases p with
 |none=>exact slicePart_none h
 |int i t=>exact slicePart_int h
theorem KD {prog:mX}{w:iN}{E:ai→aH→Prop}{sl:aD}{x y:ai}{lo hi:Option Int}{n:Int}{P:Int×Int×Nat→aH→Prop}(hs:s.heap.IsSliceOf sl x y .none) (p1:Ji x lo) (p2:Ji y hi)
  (h:P ((d7 lo hi 1 n).1,1,rV (d7 lo hi 1 n).1 (d7 lo hi 1 n).2 1) s) :
  bj (kg prog w) A (rR (.ref sl) (pure n)) P E s:=by
 refine aL (id hs) fun os Ti Vt pF=>?_
 unfold rR Builtin.Slice.sliceFields
 refine ak (ak (g9 Ti pF (x:=x) rfl (ak (g9 Ti pF (x:=y) rfl (ak (g9 Ti pF (x:=.none) rfl (aQ ?_)))))))
 refine ak (slicePart_none ?_)
 show bj _ _ (if ((1:Int)==0)=true then _ else _) _ _ s
 rw[if_neg (by decide)]
 exact ak (Ap p1 (ak (Ap p2 (ak (aQ (aQ h))))))
theorem AM.tup {vs:List AV}{lo hi:Option Int}(a b:Nat) (ha:d7 lo hi 1 (vs.length:Int)=((a:Int),(b:Int))) (hw:¬(a=0∧b=vs.length)) (AO:a≤b) (hb:b≤vs.length) (hz:vs.length≤1000000)
  (q:Q (.tup ((vs.drop a).take (b-a))) H):AM c d A env (.tup vs) lo hi l H Q X:=fun α s v sl x y I ra hs p1 p2=>by
 refine aN ra.tup fun t items gD ht rs=>?_
 subst gD
 have kR:items.size=vs.length:=by rw[←rs.length];simp
 refine aL (id hs) fun os Ti Vt pF=>?_
 have hTs:s.TypeIs (.ref sl) "slice":=⟨os,Ti,Vt⟩
 refine⟨_,_,ht.typeIs,nM.lookup,?_⟩
 have WK:rV (a:Int) (b:Int) 1=b-a:=places_from a b AO
 unfold Rm
 try with_reducible refine cu ?_
 first | refine ak (aQ ?_) | skip
 refine ak (Rn ht.typeIs (by decide) ?_)
 refine ak (qb (name:=fa "__getitem__") ht.typeIs nM
  (qc nM ht.typeIs entry_tuple_getitem ?_ (args_tuple_getitem _ _)))
 show bj _ _ (Builtin.Tuple.tupleItemsOf (.ref t) >>= _) _ _ s
 refine ak (tupleItemsOf_ ht ?_)
 refine ak (Jm hTs ?_)
 rw[if_pos (by decide)]
 refine ak (KD hs p1 p2 ?_)
 rw[kR,ha]
 dsimp only
 rw[WK]
 have Q7:¬(((a:Int)==0&&(1:Int)==1&&(b-a)==vs.length)=true):=by
  intro z
  simp only[gJ,beq_iff_eq] at z
  exact hw ⟨by exact mF z.1.1,by exact aW [_,_,_,_] [] [.L aB aM,.E cf aM,.fs cf aB fz] (.E aB aM) (.o (.o ui (.k [1,0,0,0,0,0,1])) (.o ui (.k [1,0,0,0,0,0,1]))) rfl hb z.2 (eR _ _)⟩
 rw[if_neg Q7]
 have Sa:((bh (b-a)).filterMap fun(k:Nat)=>items[((a:Int)+(k:Int)*1).toNat]?).toArray=((items.toList.drop a).take (b-a)).toArray:=by
  have e:(fun(k:Nat)=>items[((a:Int)+(k:Int)*1).toNat]?)=fun k=>items[a+k]?:=by
   funext k
   have:((a:Int)+(k:Int)*1).toNat=a+k:=by rw[wb];rfl
   rw[this]
  rw[e]
  have:=pick_run items a (b-a)
  rw[List.filterMap_map] at this
  have e2:((fun x=>items[x]?) ∘ fun x=>a+x)=fun k=>items[a+k]?:=rfl
  rw[e2] at this
  rw[this]
 rw[Sa]
 have nx:sizeOk (.seq ((items.toList.drop a).take (b-a)).toArray):=by
  show((items.toList.drop a).take (b-a)).toArray.size≤nO
  rw[m8,cg,aJ,du,kR,cw]
  exact aW [_,_,_,_,_,_] [] [.L aB aM,.L aM jg,.fs cf aB fz,.fm jh cf qE] (.L jh (.l 16777216)) (.o (.o (.k [1,0,1,0,0,1,0,1,1]) (.k [1,1,1,0,0,1,0,1,1])) (.o ui (.k [1,1,1,0,0,1]))) rfl hb hz (eR _ _) (AJ _ _)
 have z:=I.xw (Q:=Q) ((rs.drop a).take (b-a)) q
 first
  |exact ak (m:=ie _) (eL (aQ ⟨_,rfl,aQ z⟩) nx)
  |exact ak (m:=ie _) (eL (ak (aQ (aQ ⟨_,rfl,aQ z⟩))) nx)
  |exact ak (ak (m:=ie _) (eL (aQ (aQ ⟨_,rfl,aQ z⟩)) nx))
  |exact ak (ak (m:=ie _) (eL (aQ ⟨_,rfl,aQ z⟩) nx))
theorem AM.Xk {a:aD}{ns:List Int}{vs:Array ai}{lo hi:Option Int}(hl:c.hb.IsList a vs) (Jr:oC vs.toList ns) (hz:ns.length≤1000000) (q:Q (.obj H.length) (H++[.list ((lL lo hi ns).map .int)])):AM c d A env (.fix (.ref a)) lo hi l H Q X:=fun α s v sl x y I ra hs p1 p2=>by
 cases ra.fix
 have hl':s.heap.IsList a vs:=by refine aq hl fun o ho r=>?_;clear hl;exact⟨o,I.h.base _ _ ho,r⟩
 have kR:vs.size=ns.length:=by have:=Jr.length;simpa using this
 refine⟨_,_,hl'.typeIs,oA.lookup,pD hl' hs p1 p2 .none (by simp) ?_ (by rw[kR,cw];exact b9 hz rfl)⟩
 rw[qg]
 have r:bq c s.heap α (ns.map .int) vs.toList:=MM Jr
 have:=r.lL lo hi
 have e:lL lo hi (ns.map AV.int)=(lL lo hi ns).map .int:=by unfold lL;simp[QQ,yV]
 rw[e] at this
 exact I.newList this q
theorem WV.Ph {i:Int}(q:Q (.bool false) H):WV c d A env (fun xs=>PySem.call (.builtin "isinstance") xs) [.int i,.fix (.type "bool")] l H Q X:=fun α s xs I rs=>by
 refine aN rs.two fun _ _ ix rx ry=>?_;subst ix;refine al rx.int fun t jS=>?_;subst jS;cases ry.fix
 exact IsiPair.int_bool (I.done qo q)
theorem WV.N3 {i:Int}(q:Q (.bool true) H):WV c d A env (fun xs=>PySem.call (.builtin "isinstance") xs) [.int i,.fix (.type "int")] l H Q X:=fun α s xs I rs=>by
 refine aN rs.two fun _ _ jW rx ry=>?_;subst jW;refine al rx.int fun t jY=>?_;subst jY;cases ry.fix
 exact IsiPair.int_int (I.done qo q)
theorem WV.Oy {x:bu}(q:Q (.bool true) H):WV c d A env (fun xs=>PySem.call (.builtin "isinstance") xs) [.str x,.fix (.type "str")] l H Q X:=fun α s xs I rs=>by
 refine aN rs.two fun _ _ nr rx ry=>?_;subst nr;refine al rx.str fun t mU=>?_;subst mU;cases ry.fix
 exact IsiPair.str_str (I.done qo q)
theorem WV.PM {vs:List AV}(q:Q (.bool true) H):WV c d A env (fun xs=>PySem.call (.builtin "isinstance") xs) [.tup vs,.fix (.type "tuple")] l H Q X:=fun α s xs I rs=>by
 refine aN rs.two fun _ _ nF rx ry=>?_;subst nF;cases ry.fix
 refine gN rx.tup fun a items tM o ho lh _=>?_
 refine bG lh fun hc _=>?_
 subst tM
 exact IsiPair.tuple_tuple ho hc (I.done qo q)
theorem WV.N5 {b:List UInt8}(q:Q (.bool true) H):WV c d A env (fun xs=>PySem.call (.builtin "isinstance") xs) [.d8 b,.fix (.type "bytes")] l H Q X:=fun α s xs I rs=>by
 refine aN rs.two fun _ _ j3 rx ry=>?_;subst j3;cases ry.fix
 refine al rx.d8 fun t vL=>?_
 subst vL
 exact call_isinstance (isinstance_true (Tx:="bytes") F.isi_meta_bytes (by rw[isSubtype_type];kernel_rfl)) ⟨rfl,I.done qo q⟩
theorem WO.inT {i:Int}{ns:List Int}(q:QB (ns.any fun n=>n==i) H):WO c d A env .In (.int i) (.tup (ns.map .int)) l H QB X:=fun α s v w I ra rb=>by
 refine al ra.int fun t se=>?_
 subst se
 refine aN rb.tup fun a items mh ht rs=>?_
 subst mh
 have hI:=rs.ints
 let e:ai→Bool:=fun y=>match y with | .int n _=>n==i | _=>false
 refine SeqAt.in_tupleAt e ht (fun y hy=>?_) ?_
 ·have:∀{xs:List ai}{ms:List Int},oC xs ms→y∈xs→∃n u,y=.int n u:=by
   intro xs ms hh
   induction hh with
   |nil=>intro h;cases h
   |cons n u r ih=>
    intro h
    rcases br.mp h with rfl | h
    ·exact⟨_,_,rfl⟩
    ·exact ih h
  refine fX (this hI (by simpa using hy)) fun n u qI=>?_
  subst qI
  exact SeqAt.EqAt.int_int n u i t
 ·have:∀{xs:List ai}{ms:List Int},oC xs ms→xs.any e=ms.any fun n=>n==i:=by
   intro xs ms hh
   induction hh with
   |nil=>rfl
   |cons n u r ih=>simp only[rQ,ih];rfl
  rw[←tS,this hI]
  exact I.iS q
theorem WV.U1 {a:AV}{kvs:List (Int×AV)}(D:DictAt c H a kvs) (hz:kvs.length≤1000000) (q:Q (.obj H.length) (H++[.dict kvs])):WV c d A env (fun xs=>PySem.call (.type "dict") xs) [a] l H Q X:=fun α s xs I rs=>by
 refine aq rs.one fun x sL rx=>?_
 subst sL
 refine b0 (D.look I.h rx) fun b kv uD hm hd dr=>?_
 subst uD
 refine kt_call_dict hm hd (by rw[dr.length,cw];exact b9 hz rfl) fun h' qG hs=>?_
 have hk:∀b o,s.heap.get? b=some o→h'.get? b=some o:=fun b o e=>(hs.2 b (bV (bU e))).trans (aT _ e)
 have kR:s.heap.objs.size≠gh:=fun q=>by
  have h1:s.heap.Ns cStatics _:=(I.ok.T.nolimit.keeps I.h.base).choose_spec.1
  have:=h1.lt
  rw[q] at this
  exact absurd this (by decide)
 refine bG (I.alloc (s':={ s with heap:=h' }) (p:=(s.heap.objs.size,s.heap.objs.size)) (x:=.dict kvs) hk bR bR ⟨kv,qG,dr.carry iX fun t=>t.keeps hk,rfl,by simpa using kR⟩) fun m I'=>?_
 have:(α++[(s.heap.objs.size,s.heap.objs.size)])[H.length]?=some (s.heap.objs.size,s.heap.objs.size):=by rw[←I.h.len];simp
 exact⟨.obj H.length,_,_,m,I',yi this,q⟩
end
end
section
open PySem PySem.W PySem.Calls PyProof.Rows
section
variable {prog:mX}{w:iN}{A:aU}{E:ai→aH→Prop}{s:aH}
theorem Bv {b:Array UInt8}{t:Tok}{Q:Bool→aH→Prop}(h:Q false s):bj (kg prog w) A (rS (.bytes b t)) Q E s:=by
 unfold rS
 refine ak (wpAny_specialOf (kH s b t) FB.slot_bytes_len.lookup ?_)
 generalize hid:("bytes.__len__":String)=id0
 wp_delta
 rw[show splitId id0=some ("bytes","__len__") from by subst hid;decide +kernel]
 subst hid
 refine ak (wpAny_isInstance (T:="bytes") (b:=true) (kH s b t) (by rw[isSubtype_type];kernel_rfl) ?_)
 refine qZ (fun AO=>absurd AO (by decide)) (fun _=>?_)
 refine qZ (fun _=>?_) (fun AO=>absurd (by decide +kernel) AO)
 refine ak (Jm (kH s b t) ?_)
 exact aQ h
theorem xO {b:Array UInt8}{t:Tok}{R:sP→aH→Prop}(hh:A.handled=none) (S:aD) (Js:ai) (UB:Nat) (hS:s.heap.get? S=some { cls:=.type "list",data:=.seq #[] UB })
  (hR:∀h' tk oL c',(∀b o,b≠S→s.heap.get? b=some o→h'.get? b=some o)→h'.get? S=some { cls:=.type "list",dict:=none,data:=.seq oL c',slots:=#[] } →
   ItemsOf (fun i v=>∃c u,b[i]?=some c∧v=.int (c.toNat:Int) u) oL b.size→R (.ok (.ret Js)) { s with heap:=h',toks:=tk }) (hn:b.size≤nO) :
  bj (kg prog w) A.in1 (fj (.ref S) (.bytes b t) Js)
   (fun fin s'=>match fin with | .done f=>R (.ok f) s' | .again c'=>c'.quiet=true∧ic (kg prog w) A c' R s') (fun e s'=>R (.error e) s') s:=by
 have hSI:S≠s.heap.objs.size:=bV (bU hS)
 have hSf:S∉[s.heap.objs.size]:=by simpa using hSI
 have W:=Md (prog:=prog) (w:=w) (A:=A.in1) hh s.heap.objs.size b t
 have key:∀(h:cb) (Og tk:Nat),Nz h s.heap.objs.size b t 0→(∀b o,b≠S→s.heap.get? b=some o→h.get? b=some o) →
   h.get? S=some { cls:=.type "list",data:=.seq #[] Og }→ic (kg prog w) A (.builtin "list.extend.loop" ⟨[.ref S,.ref s.heap.objs.size,Js],[]⟩) R { s with heap:=h,toks:=tk }:=by
  intro h Og tk i4 hk uZ
  refine codeAny_extend_loopS W.toS hn S hSf Js b.size 0 _ #[] Og rfl (cQ _) i4 uZ (ItemsOf.nil _) fun s' oL c' hm O8 rZ=>?_
  rw[Moved.eq_with hm]
  refine hR s'.heap s'.toks oL c' (fun b o hb e=>hm.heap b o (fun NS=>?_) (hk b o hb e)) O8 rZ
  rcases br.mp NS with e' | NS
  ·exact hb e'
  ·exact absurd (bU e) (by rw[cT.mp NS];exact gq _)
 unfold fj
 refine ak (Jm (T:="bytes") (kH s b t) ?_)
 have h1:tD (.ref S) (.bytes b t)=false:=by simp[tD]
 have h2:(ai.type "bytes"==ai.type "list")=false:=by decide
 have h3:(ai.type "bytes"==ai.type "tuple")=false:=by decide
 simp only[h1,h2,h3,QS,Fu,if_false]
 refine ak (vW ?_)
 have uZ:=aT { cls:=.type "bytes_iterator",data:=.fields #[.bytes b t,.int 0 0] } hS
 have st:Nz (s.heap.push { cls:=.type "bytes_iterator",data:=.fields #[.bytes b t,.int 0 0] }) s.heap.objs.size b t 0:=⟨_,aX _ rfl,rfl,rfl⟩
 refine ak (cu (Bv ?_))
 refine qZ (fun _=>?_) (fun _=>aQ ⟨E2 PySem.F.plain_extend_loop _,key _ UB _ st (fun b o _ e=>aT _ e) uZ⟩)
 refine ak (Cq ?_)
 refine ak ?_
 show bj _ _ (updateSeq S (·.push .none) >>= fun _=>updateSeq S (·.pop)) _ _ _
 refine ak (AG uZ rfl ?_)
 have Ds:=dw (ez (·.push ai.none)) uZ rfl
 refine AG (hz:=by seq_fits) Ds rfl ?_
 have SP:=dw (ez (·.pop)) Ds rfl
 refine aQ ⟨E2 PySem.F.plain_extend_loop _,key _ _ _ ?_ (fun b o hb e=>?_) SP⟩
 ·refine W.frame 0 _ _ st fun b hb o e=>?_
  have hbS:b≠S:=fun h=>hSf (h▸hb)
  exact(cO _ _ (gS hbS)).trans ((cO _ _ (gS hbS)).trans e)
 ·exact(cO _ _ (gS hb)).trans ((cO _ _ (gS hb)).trans (aT _ e))
theorem Bl {b:Array UInt8}{t:Tok}{Q:ai→aH→Prop}(hh:A.handled=none) (hn:b.size≤nO)
  (hQ:∀h' tk oL c',(∀b o,s.heap.get? b=some o→h'.get? b=some o)→h'.get? s.heap.objs.size=some { cls:=.type "list",dict:=none,data:=.seq oL c',slots:=#[] } →
   ItemsOf (fun i v=>∃c u,b[i]?=some c∧v=.int (c.toNat:Int) u) oL b.size→Q (.ref s.heap.objs.size) { s with heap:=h',toks:=tk }) :
  bj (kg prog w) A (PySem.call (.type "list") [.bytes b t]) Q E s:=by
 refine callType_codes (Q₁:=fun obj bf=>obj=.ref s.heap.objs.size∧bf={ s with heap:=s.heap.push { cls:=.type "list",data:=.seq #[] } }) PySem.F.called_list (PySem.F.typeCall_list_1 _) PySem.F.entry_list_init
  (code_list_new _ ⟨rfl,rfl⟩) fun obj bf gp=>?_
 refine bG gp fun gD ix=>?_
 clear gp
 subst gD
 subst ix
 have hS:(s.heap.push { cls:=.type "list",data:=.seq #[] }).get? s.heap.objs.size=some { cls:=.type "list",data:=.seq #[] }:=aX _ rfl
 refine⟨⟨_,hS,rfl⟩,PySem.F.args_list_init_2 _ _,?_⟩
 show bj _ _ (do let old ←uq (.ref s.heap.objs.size);Builtin.List.listUpdate (.ref s.heap.objs.size) (fun _=>#[]);PySem.letGo old.toList.reverse;fj (.ref s.heap.objs.size) (.bytes b t) .none) _ _ _
 refine ak ?_
 unfold uq
 refine ak (wpAny_seqItems hS rfl (aQ ?_))
 show bj _ _ (updateSeq s.heap.objs.size (fun _=>#[]) >>= fun _=>PySem.letGo (#[]:Array ai).toList.reverse >>= fun _=>fj (.ref s.heap.objs.size) (.bytes b t) .none) _ _ _
 refine ak (AG hS rfl ?_)
 have Ds:=dw (ez (fun _=>(#[]:Array ai))) hS rfl
 have oth:∀b o,b≠s.heap.objs.size→(s.heap.push { cls:=.type "list",data:=.seq #[] }).get? b=some o→((s.heap.push { cls:=.type "list",data:=.seq #[] }).update s.heap.objs.size (ez (fun _=>(#[]:Array ai)))).get? b=some o:=
  fun b o hb e=>(cO _ _ (gS hb)).trans e
 refine ak (wpAny_letGo ?_)
 refine xO (A:=A.in1) hh s.heap.objs.size .none _ Ds (fun h' tk oL c' hk O8 rZ=>?_) hn
 exact⟨rfl,hQ h' tk oL c' (fun b o e=>hk b o (bV (bU e)) (oth b o (bV (bU e)) (aT _ e))) O8 rZ⟩
end
end
section
open PySem PySem.W PySem.Calls PyProof.Rows
section
variable {prog:mX}{w:iN}{A:aU}{E:ai→aH→Prop}{s:aH}
theorem xW {d:aD}{kv:List (Int×ai)}{ep:Nat}{R:sP→aH→Prop}(hh:A.handled=none) (lo:(d==gh)=false) (hd:s.heap.DictAt (ia prog w) d kv ep) (hn:kv.length≤nO)
  (hR:∀h' tk oL c',(∀b o,s.heap.get? b=some o→h'.get? b=some o)→h'.get? s.heap.objs.size=some { cls:=.type "list",dict:=none,data:=.seq oL c',slots:=#[] } →
   ItemsOf (fun i v=>∃k x,kv[i]?=some (k,x)∧(ia prog w).is k v=true) oL kv.length→R (.ok (.ret (.ref s.heap.objs.size))) { s with heap:=h',toks:=tk }) :
  ic (kg prog w) A (.builtin "proto.collect" ⟨[.ref d],[]⟩) R s:=by
 have K:=kdl_dict (prog:=prog) (w:=w) (knd:=ia prog w) (kvs:=kv) (ep:=ep) lo
 have iU:=K.there _ hd
 refine codeAny_builtin F.entry_proto_collect ?_
 rw[AW F.plain_proto_collect _]
 show bj _ A.in1 (newList [] >>= fun l=>again (.builtin "list.__iadd__" ⟨[l,.ref d],[]⟩)) _ _ s
 refine ak (eL ?_)
 refine aQ ⟨E2 NA _,codeAny_builtin F.entry_list_iadd ?_⟩
 rw[AW NA _]
 have uZ:(s.heap.push { cls:=.type "list",data:=.seq ([]:List ai).toArray }).get? s.heap.objs.size=some { cls:=.type "list",data:=.seq ([]:List ai).toArray }:=aX _ rfl
 show bj _ A.in1 (fj (.ref s.heap.objs.size) (.ref d) (.ref s.heap.objs.size)) _ _ _
 refine kdl_extend (s:={ s with heap:=s.heap.push { cls:=.type "list",data:=.seq ([]:List ai).toArray } }) K hh (K.keep _ _ hd fun b _ o e=>aT _ e) s.heap.objs.size (gY iU.1) (gY iU.2) (.ref s.heap.objs.size) 0 uZ (fun h' tk oL c' hk O8 rZ=>?_) hn
 exact hR h' tk oL c' (fun b o e=>hk b o (bV (bU e)) (aT _ e)) O8 rZ
theorem yj {d:aD}{kv:List (Int×ai)}{ep:Nat}{Q:List ai→aH→Prop}(hh:A.handled=none) (lo:(d==gh)=false) (hd:s.heap.DictAt (ia prog w) d kv ep) (hn:kv.length≤nO)
  (hQ:∀h' tk (vs:List ai),(∀b o,s.heap.get? b=some o→h'.get? b=some o)→oC vs (kv.map (·.1))→Q vs { s with heap:=h',toks:=tk }) :
  bj (kg prog w) A (collect (.ref d)) Q E s:=by
 unfold collect
 refine ak (wpAny_runValue (xW hh lo hd hn fun h' tk oL c' hk O8 rZ=>?_))
 show bj _ A (load s.heap.objs.size >>= _) _ _ _
 refine ak (wpAny_load O8 ?_)
 refine aQ (hQ h' tk oL.toList hk ?_)
 have key:∀(vs:List ai) (ks:List (Int×ai)),vs.length=ks.length→(∀(j:Nat) v,vs[j]?=some v→∃k x,ks[j]?=some (k,x)∧(ia prog w).is k v=true)→oC vs (ks.map (·.1)):=by
  intro vs
  induction vs with
  |nil=>intro ks hl _;cases ks with | nil=>exact .nil | cons _ _=>cases hl
  |cons v r ih=>
   intro ks hl h
   cases ks with
   |nil=>cases hl
   |cons p ks=>
    refine cB (h 0 v rfl) fun k x e hkv=>?_
    replace e:=ae e
    subst e
    obtain⟨t,rfl⟩:=sV hkv
    exact .cons _ _ (ih ks (by simpa using hl) fun j v e=>h (j+1) v (by simpa using e))
 exact key _ _ (by rw[du];exact rZ.1) fun j v e=>rZ.2 j v (by rw[←eK];exact e)
theorem zf {d:aD}{kv:List (Int×ai)}{Q:ai→aH→Prop}(hh:A.handled=none) (lo:(d==gh)=false) (hd:s.heap.DictOf (ia prog w) d kv) (h64:kv.length<64)
  (h:∀h' tk D (out:Array ai) (Oa:List Int) e,(∀b o,s.heap.get? b=some o→h'.get? b=some o)→s.heap.get? D=none→h'.get? D=some ⟨.type "list",none,.seq out e,#[]⟩ →
   oC out.toList Oa→Oa.Perm (kv.map (·.1))→Oa.Pairwise (·≤·)→Q (.ref D) { s with heap:=h',toks:=tk }) :
  bj (kg prog w) A (PySem.call (.builtin "sorted") [.ref d]) Q E s:=by
 obtain⟨ep,hd⟩:=hd.dictAt
 refine Calls.call_function_entry kind_sorted plain_sorted entry_sorted (args_sorted1 _) ?_
 unfold Builtin.«sorted»
 refine ak (m:=checkCount "sorted" 1 1 _) (aQ ?_)
 refine ak (yj (by exact hh) lo hd (by rw[cw];exact rD h64 rfl) fun h1 cI vs hk hI=>?_)
 have hl:vs.length<64:=by rw[hI.length];simpa using h64
 refine ak (wpAny_newList ?_ (by rw[cw];exact rD hl rfl))
 have We:(h1.push (seqObj "list" vs.toArray 0)).get? h1.objs.size=some (seqObj "list" vs.toArray 0):=aX _ rfl
 show bj _ _ _ _ _ { s with heap:=h1.push (seqObj "list" vs.toArray 0),toks:=cI }
 refine ak (cu (qc slot_list_sort ⟨_,We,rfl⟩ entry_list_sort (list_sort_tree (s:={ s with heap:=h1.push (seqObj "list" vs.toArray 0),toks:=cI }) We hI hl fun out Oa a1 a2 a3=>⟨_,rfl,?_⟩) (args_list_sort _)))
 obtain⟨e,he⟩:=sortedHeap_at (out:=out) We
 refine aQ ⟨_,rfl,h _ _ h1.objs.size out Oa e (fun b o eb=>?_) ?_ he a1 a2 a3⟩
 ·have eb1:=hk _ _ eb
  have iU:=bU eb1
  rw[sortedHeap_old (bV iU) (by rw[gK];exact j6 iU)]
  exact aT _ eb1
 ·cases q:s.heap.get? h1.objs.size with
  |none=>rfl
  |some o=>exact absurd (bU (hk _ _ q)) (gq _)
end
section
variable {c:Cx}{d:Nat}{A:aU}{env:dH}{l l':Loc}{α bD cq:Am}{h h' h₀:cb}{H H':List ag}{s s':aH}
variable {Q:AV→List ag→Prop}{QB:Bool→List ag→Prop}{X:List ag→Prop}{pos:ij}{own own':aD→Prop}{QU:Loc→List ag→Prop}{kp:Nat}{SQ:AF→Loc→List ag→Prop}
theorem da.keys:∀{kvs:List (Int×AV)}{kv:List (Int×ai)},da c h α kvs kv→kv.map (·.1)=kvs.map (·.1):=by
 intro us
 induction us with
 |nil=>
  intro _ r
  subst r;rfl
 |cons hd _ ih=>
  obtain⟨_,_⟩:=hd
  intro _ r
  refine aN r fun v r' jS _ rr=>?_;clear r;subst jS;simp[ih rr]
theorem WV.s4 {a:AV}{kvs:List (Int×AV)}(D:DictAt c H a kvs) (hz:kvs.length<64) (q:∀ns,jz (kvs.map (·.1)) ns→Q (.obj H.length) (H++[.list (ns.map .int)])):WV c d A env (fun xs=>PySem.call (.builtin "sorted") xs) [a] l H Q X:=fun α s xs I rs=>by
 refine aq rs.one fun x jW rx=>?_
 subst jW
 refine b0 (D.look I.h rx) fun b kv jY hm hd dr=>?_
 subst jY
 refine zf I.r.hd hm hd (by rw[dr.length];exact hz) fun h' tk D out Oa e hk hn hD hI hp hs=>?_
 rw[dr.keys] at hp
 exact I.kX (s':={ s with heap:=h',toks:=tk }) hk hn hD (MM hI) (q Oa ⟨hp,hs⟩)
theorem P8 {acc:List ai}{b:List UInt8}(hl:acc.length=b.length) (h:∀(j:Nat) v,acc[j]?=some v→∃x u,b[j]?=some x∧v=.int ((x:UInt8).toNat:Int) u):bq c h' α (b.map fun x=>.int x.toNat) acc:=by
 induction acc generalizing b with
 |nil=>cases b with | nil=>exact jD | cons _ _=>cases hl
 |cons v r ih=>
  cases b with
  |nil=>cases hl
  |cons x b=>
   refine cB (h 0 v rfl) fun y u e nr=>?_
   subst nr
   replace e:=ae e
   subst e
   exact eC iy (ih (by simpa using hl) fun j v e=>h (j+1) v (by simpa using e))
theorem WV.TT {b:List UInt8}(hz:b.length≤1000000) (q:Q (.obj H.length) (H++[.list (b.map fun x=>.int x.toNat)])):WV c d A env (fun xs=>PySem.call (.type "list") xs) [.d8 b] l H Q X:=fun α s xs I rs=>by
 refine aq rs.one fun x mU rx=>?_
 subst mU
 obtain⟨t,rfl⟩:=rx.d8
 refine Bl I.r.hd (by rw[cw];simp;exact b9 hz rfl) fun h' tk oL c' hk hD rZ=>?_
 refine I.kX (s':={ s with heap:=h',toks:=tk }) hk bR hD (P8 (by rw[du,rZ.1];simp) fun j v e=>?_) q
 refine cB (rZ.2 j v (by rw[←eK];exact e)) fun x u e1 e2=>?_
 exact⟨x,u,by simpa using e1,e2⟩
end
end
section
open PySem
open AutoSeq1 (wpAny_loadPart')
theorem UI {M:Ft}{A:aU}{Q:Bool→aH→Prop}{E:ai→aH→Prop}{s:aH}{x:Bool}(h:∀b,Q b s):bj M A (pure x) Q E s:=aQ (h x)
theorem vi (l:aD) (items:Array ai) (n:Nat) (Z7:Option aD) (sl:Array (Option ai)) :
  Meets (Builtin.«enumerate.__new__» ⟨[.type "enumerate",.ref l],[]⟩) (fun _ R s=>s.heap.get? l=some { cls:=.type "tuple",dict:=Z7,data:=.seq items n,slots:=sl } ∧
   R (.ok (.ret (.ref (s.heap.push { cls:=.type "tuple_iterator",data:=.fields #[.ref l,.int 0 0] }).objs.size)))
    { s with heap:=(s.heap.push { cls:=.type "tuple_iterator",data:=.fields #[.ref l,.int 0 0] }).push { cls:=.type "enumerate",data:=.fields #[.none,.bool false,.ref s.heap.objs.size,ib 0,.none,.none] } }):=
 .of_wp fun prog w A R s h=>by
  obtain⟨hp,g,d,tk,os⟩:=s;refine bG h fun hl h=>?_
  have UO:=sub_enumerate
  have hL:cb.IsTuple (aH.heap ⟨hp,g,d,tk,os⟩) l items:=⟨_,hl,rfl,n,rfl⟩
  wp_walk using AH hl
  refine wpAny_stack_any fun st=>UI fun b=>?_
  cases b<;>(wp_walk using AH hl,vY hL;exact⟨_,rfl,h⟩)
section
variable {prog:mX}{w:iN}{A:aU}{E:ai→aH→Prop}{s:aH}
theorem uS {it l:aD}{i:Nat}{items}{Q:ai→aH→Prop}(hh:A.handled=none)
  (Fh:s.heap.IsTupleIter it l i) (hl:s.heap.IsTuple l items) (hx:items[i]?=none)
  (hE:∀h' e,cb.ExtBut it s.heap h'→(∃o,h'.get? e=some o∧o.cls=.type "StopIteration")→E (.ref e) { s with heap:=h' }) :
  bj (kg prog w) A (qe (.ref it)) Q E s:=by
 refine aL (id Fh) fun o ho hc hd=>?_
 refine fU hl fun ol hol _ nl UA=>?_
 clear hl
 unfold qe
 refine ak (qb (name:=fa "__next__") Fh.typeIs AI
  (qc AI Fh.typeIs F.entry_tuple_iterator_next ?_ (F.args_tuple_iterator_next_1 _)))
 show bj _ _ (field (.ref it) 0 >>= _) _ _ s
 refine ak (g9 ho hd (x:=.ref l) rfl ?_)
 show bj _ _ (if (ai.ref l==ai.none)=true then _ else _) _ _ s
 rw[if_neg (show ¬((ai.ref l==ai.none)=true) from fN)]
 show bj _ _ (field (.ref it) 1 >>= _) _ _ s
 refine ak (g9 ho hd (x:=.int i 0) rfl ?_)
 show bj _ _ (seqItems? (.ref l) >>= _) _ _ s
 refine ak (wpAny_seqItems hol UA ?_)
 simp only[gm,hx]
 refine ak (Cq (ak (wpAny_setField ho hd (by simp) ?_)))
 show bj _ _ (newExc (.type "StopIteration") [] >>= _) _ _ _
 refine ak ?_
 simp only[newExc,newTuple]
 refine ak (eL ?_ (by size_fits))
 refine ak (m:=firstArgMember _ _) (wpAny_of_eq (a:=ai.none) (by first | rfl | (simp only[firstArgMember];rfl)) ?_)
 refine eL ?_ (by size_fits)
 delta raiseNew
 refine ak (wpAny_handled ?_)
 first | rw[show A.in1.handled=none from hh] | rw[hh]
 refine ak (aQ (Mf ?_))
 exact hE _ _ (((j7 ..).extBut.push _).push _) ⟨_,aX _ rfl,rfl⟩
theorem wF {l:aD}{items:Array ai}{Q:ai→aH→Prop}(hL:s.heap.IsTuple l items)
  (h:∀h',IsEnum h' (s.heap.objs.size+1) s.heap.objs.size 0 .none→h'.IsTupleIter s.heap.objs.size l 0 →
   (∀b o,s.heap.get? b=some o→h'.get? b=some o)→Q (.ref (s.heap.objs.size+1)) { s with heap:=h' }) :
  bj (kg prog w) A (call (.type "enumerate") [.ref l]) Q E s:=by
 refine fU hL fun ix hl hc n hd=>?_
 clear hL
 obtain⟨c,Z7,dt,sl⟩:=ix
 replace hc:c=.type "tuple":=hc
 replace hd:dt=.seq items n:=hd
 subst hc hd
 refine callType_new F.called_enumerate (by decide) (F.typeCall_enumerate_1 _) (F.newCall_enumerate_1 _) (fun obj=>F.args_object_init_2 obj _) F.entry_enumerate_new
  (vi l items n Z7 sl) ⟨hl,?_⟩
 have hz:(s.heap.push { cls:=.type "tuple_iterator",data:=.fields #[.ref l,.int 0 0] }).objs.size=s.heap.objs.size+1:=gK ..
 show _∧_
 rw[hz]
 have he:IsEnum ((s.heap.push { cls:=.type "tuple_iterator",data:=.fields #[.ref l,.int 0 0] }).push
   { cls:=.type "enumerate",data:=.fields #[.none,.bool false,.ref s.heap.objs.size,ib 0,.none,.none] }) (s.heap.objs.size+1) s.heap.objs.size 0 .none:=by
  have:=aX (s.heap.push { cls:=.type "tuple_iterator",data:=.fields #[.ref l,.int 0 0] })
   (o:={ cls:=.type "enumerate",data:=.fields #[.none,.bool false,.ref s.heap.objs.size,ib 0,.none,.none] }) rfl
  rw[hz] at this;exact this
 exact⟨⟨_,he,rfl⟩,h _ he ⟨_,aT _ (aX _ rfl),rfl,rfl⟩ fun b o x=>aT _ (aT _ x)⟩
end
end
section
open PySem PySem.W PySem.Calls PyProof.Rows
section
variable {c:Cx}{d:Nat}{A:aU}{env:dH}{l l':Loc}{α bD cq:Am}{h h' h₀:cb}{H H':List ag}{s s':aH}
variable {Q:AV→List ag→Prop}{QB:Bool→List ag→Prop}{X:List ag→Prop}{pos:ij}{own own':aD→Prop}{QU:Loc→List ag→Prop}{kp:Nat}{SQ:AF→Loc→List ag→Prop}
theorem WX.Hq {t f:Expr}{es:List Expr}{body:List eF}{r9:ij}(hs:∀x,gA (.Call f es [] r9) env x=pure x)
  (G5:gr (.Call f es [] r9) env=(do lS r9 (←gr f env) [] (mA r9 (dR es env)) [])) (i4:dR es env=es.map fun e=>(false,gr e env))
  (wf:WE c d A env f l H (fun a H1=>a=.fix (.type "enumerate")∧WA c d A env es l H1 (fun as H2=>as=[.tup []]∧SQ .next l H2) X) X):WX c d A env (.For t (.Call f es [] r9) body [] pos) l H SQ X:=fun α s I=>by
 refine wpAny_For (zu (.inr (.inr ⟨_,rfl⟩)) G5 i4 wf I fun bE cX vs as e8 cV cA jA p=>?_) hs
 refine bG p fun gD q=>?_
 clear p
 subst gD
 refine aq jA.one fun v ix rv=>?_
 subst ix
 refine aN rv.tup fun a items jS ht rs=>?_
 subst jS
 have h0:items=#[]:=by have:=rs.nil;rw[←kI (xs:=items),this]
 subst h0
 refine wF ht fun h1 he Fh hk=>wpAny_pyIter_enum he ?_
 refine bG (cA.grow (s':={ cX with heap:=h1 }) hk) fun m3 I3=>?_
 have F9:cX.heap.get? cX.heap.objs.size=none:=bR
 have R2:=Fh
 refine aL R2 fun oi hoi hci hdi=>?_
 clear R2
 have Ue:c.hb.get? cX.heap.objs.size=none:=by
  cases q:c.hb.get? cX.heap.objs.size with
  |none=>rfl
  |some o=>rw[cA.h.base _ _ q] at F9;exact nS (fZ F9)
 refine Ny (R:=fun r s'=>match r with | .ok f=>s8 c d A env α s.heap SQ f s' | .error e=>nP c.M A env (kF c A env α s.heap X) e s')
  (fun n s'=>s'={ cX with heap:=h1 }) (fun n hG e=>?_) 0 rfl
 subst e
 have D:Draws c.prog c.w A.in1 cX.heap.objs.size [cX.heap.objs.size,a] 0 (fun _ _=>True) (fun i h=>h.IsTupleIter cX.heap.objs.size a i∧dn h a #[]):=
  { live:=fun i h st=>let⟨o,ho,_⟩:=st.1;⟨o,ho⟩
    frame:=fun i h h' st hk=>⟨let⟨o,ho,r⟩:=st.1;⟨o,hk _ (by simp) o ho,r⟩,let⟨o,ho,r⟩:=st.2;⟨o,hk _ (by simp) o ho,r⟩⟩
    item:=fun i s Q E hi=>absurd hi (Nat.not_lt_zero _)
    done:=fun s Q E st hE=>uS I.r.hd st.1 st.2 (by simp) hE }
 refine wpAny_pyNext_enum_endD (s:={ cX with heap:=h1 }) D he ⟨Fh,ht.keeps hk⟩ fun h2 hx=>?_
 have ya:∀b o,b≠cX.heap.objs.size→h1.get? b=some o→h2.get? b=some o:=fun b o e1 e2=>hx b o e1 e2
 have I4:=I3.vt (s':={ cX with heap:=h2 }) ya ⟨oi,_,hoi,hdi⟩ Ue (cA.h.live F9) (cA.xy F9)
 exact jR ⟨.next,l,bE,e8,(cV.trans m3).ta (cV.gone F9) ya,I4,rfl,q⟩
end
end
section
open PySem PySem.W PySem.Calls PyProof.Rows
noncomputable def Uc (k:Nat):List (bu×AV)→Bool
 |[]=>true
 |(_,x)::xs=>vq k x&&Uc k xs
noncomputable def iw (f:Nat→Nat):ag→ag
 |.list vs=>.list (lK f vs)
 |.dict kvs=>.dict (qL f kvs)
 |.eV kvs ep=>.eV (qL f kvs) ep
 |.inst C fs=>.inst C (wx f fs)
noncomputable def yO (k:Nat):ag→Bool
 |.list vs=>mT k vs
 |.dict kvs=>mx k kvs
 |.eV kvs _=>mx k kvs
 |.inst _ fs=>Uc k fs
section
variable {c:Cx}{k:Nat}{α bD:Am}{h:cb}{f:Nat→Nat}
theorem CV {xs:List (bu×AV)}:Uc k xs=true→∀x∈xs,vq k x.2=true:=by
 induction xs with
 |nil=>exact fun _ _ h=>nomatch h
 |cons x xs ih=>exact fun o=>gj.mpr ⟨(aR.mp o).1,ih (aR.mp o).2⟩
section back
variable (bk:∀{n:Nat}{p:aD×aD},n<k→α[f n]?=some p→bD[n]?=some p)
include bk
theorem bO.back {a:AV}{v:ai}(o:vq k a=true) (r:bO c h α (oq f a) v):bO c h bD a v:=by
 have:=(Mv.ok (c:=c) (g:=id) bk fun t=>t).V a o r;rw[mM] at this;exact this
theorem bq.back {a:List AV}{v:List ai}(o:mT k a=true) (r:bq c h α (lK f a) v):bq c h bD a v:=by
 have:=bq.mo (fun x (hx:x∈a)=>(Mv.ok (c:=c) (g:=id) bk fun t=>t).V x (pn o x hx)) r;rw[pS] at this;exact this
theorem da.back {a:List (Int×AV)}{v:List (Int×ai)}(o:mx k a=true) (r:da c h α (qL f a) v):da c h bD a v:=by
 have:=da.mo (fun x (hx:x∈a)=>(Mv.ok (c:=c) (g:=id) bk fun t=>t).V x.2 (ru o x hx)) r;rw[r6] at this;exact this
theorem eN.back {a:List (bu×AV)}{v:List ej}(o:Uc k a=true) (r:eN c h α (wx f a) v):eN c h bD a v:=by
 have:=eN.mo (fun x (hx:x∈a)=>(Mv.ok (c:=c) (g:=id) bk fun t=>t).V x.2 (CV o x hx)) r;rw[sH] at this;exact this
theorem k9.back {p:aD×aD}{x:ag}(o:yO k x=true) (r:k9 c h α p (iw f x)):k9 c h bD p x:=by
 cases x with
 |list vs=>obtain⟨items,n,h1,rs,q⟩:=r;exact⟨items,n,h1,rs.back bk o,q⟩
 |dict kvs=>obtain⟨kv,h1,rs,q⟩:=r;exact⟨kv,h1,rs.back bk o,q⟩
 |eV kvs ep=>obtain⟨kv,h1,rs,q⟩:=r;exact⟨kv,h1,rs.back bk o,q⟩
 |inst C fs=>obtain⟨es,n,sl,h1,h2,rs⟩:=r;exact⟨es,n,sl,h1,h2,rs.back bk o⟩
end back
end
structure tF (τ:List Nat) (H₁ H:List ag):Prop where
 len:τ.length=H₁.length
 nd:τ.Nodup
 at_:∀{i n:Nat}{x:ag},τ[i]?=some n→H₁[i]?=some x→yO τ.length x=true∧H[n]?=some (iw (τ.getD · 0) x)
noncomputable def wm (τ:List Nat) (l₁ l:Loc):Prop:=∀{i:Nat}{v:AV},l₁[i]?=some (some v)→vq τ.length v=true∧l[i]?=some (some (oq (τ.getD · 0) v))
noncomputable def Aw (k:Nat) (f:Nat→Nat) (H:List ag):List Nat→List ag→Prop
 |n::τ,x::H₁=>(yO k x=true∧H[n]?=some (iw f x))∧Aw k f H τ H₁
 |_,_=>True
theorem Aw.at_ {k:Nat}{f:Nat→Nat}{H:List ag}{τ:List Nat}:∀{H₁:List ag}{i n:Nat}{x:ag},Aw k f H τ H₁→τ[i]?=some n→H₁[i]?=some x→yO k x=true∧H[n]?=some (iw f x):=by
 induction τ with
 |nil=>exact fun _ e=>nS e
 |cons m τ ih=>
  intro H₁ i n x g e1 e2
  cases H₁ with
  |nil=>exact nS e2
  |cons y H₁=>cases i with
   |zero=>exact ae e1▸ae e2▸g.1
   |succ i=>exact ih (i:=i) g.2 e1 e2
theorem tF.of {τ:List Nat}{H₁ H:List ag}(len:τ.length=H₁.length) (nd:τ.Nodup) (g:Aw τ.length (τ.getD · 0) H τ H₁):tF τ H₁ H:=⟨len,nd,g.at_⟩
theorem B4 {m:Nat}{τ:List Nat}(h:((bh m).all fun n=>τ[n]?==some n)=true):∀n,n<m→τ[n]?=some n:=fun n hn=>eq_of_beq (ba.mp h n (de.mpr hn))
theorem En {k:Nat}{l:List Nat}:∀{i:Nat},l.Nodup→(∀x∈l,x<k)→(l.set i k).Nodup:=by
 induction l with
 |nil=>exact fun h _=>h
 |cons x r ih=>
  intro i h hk
  have h:=dq.mp h
  cases i with
  |zero=>exact dq.mpr ⟨fun q=>gq k (hk k (aG _ q)),h.2⟩
  |succ i=>exact dq.mpr ⟨fun q=>(List.mem_or_eq_of_mem_set q).elim h.1 fun q=>gq x (q▸hk x aI),ih h.2 fun y hy=>hk y (aG _ hy)⟩
noncomputable def u7 (k:Nat) (f:Nat→Nat):Loc→Loc→Prop
 |[],_=>True
 |none::r,l=>u7 k f r l.tail
 |some v::r,l=>(vq k v=true∧l[0]?=some (some (oq f v)))∧u7 k f r l.tail
theorem u7.at_ {k:Nat}{f:Nat→Nat}{l₁:Loc}:∀{l:Loc}{i:Nat}{v:AV},u7 k f l₁ l→l₁[i]?=some (some v)→vq k v=true∧l[i]?=some (some (oq f v)):=by
 induction l₁ with
 |nil=>exact fun _ e=>nS e
 |cons o r ih=>
  intro l i v g e
  cases i with
  |zero=>
   replace e:=ae e
   subst e
   exact g.1
  |succ i=>
   rw[←List.getElem?_tail]
   cases o with
   |none=>exact ih (i:=i) g e
   |some u=>exact ih (i:=i) g.2 e
theorem wm.of {τ:List Nat}{l₁ l:Loc}(g:u7 τ.length (τ.getD · 0) l₁ l):wm τ l₁ l:=g.at_
noncomputable def o6 (τ:List Nat) (α:Am):Am:=τ.map fun i=>(α[i]?).getD (0,0)
section
variable {c:Cx}{d m:Nat}{A:aU}{env:dH}{l l₁:Loc}{α:Am}{h:cb}{H H₁:List ag}{s:aH}{τ:List Nat}{SQ:AF→Loc→List ag→Prop}{X:List ag→Prop}
theorem o9 {n:Nat}{p:aD×aD}(iU:∀i∈τ,i<α.length) (e:(o6 τ α)[n]?=some p):∃j,τ[n]?=some j∧α[j]?=some p:=by
 unfold o6 at e
 rw[aK] at e
 cases hj:τ[n]? with
 |none=>rw[hj] at e;exact nS e
 |some j=>
  rw[hj] at e
  have hl:=iU j (a9 hj)
  rw[oj,aw hl] at e
  simp at e
  exact⟨j,rfl,by rw[aw hl,e]⟩
theorem ny {n:Nat}{p:aD×aD}(hn:n<τ.length) (e:α[τ.getD n 0]?=some p):(o6 τ α)[n]?=some p:=by
 unfold o6
 rw[aK,aw hn]
 rw[bt,aw hn] at e
 simp only[Fx] at e
 simp[e]
theorem kt {b:aD}(iU:∀i∈τ,i<α.length) (a:iW (o6 τ α) b):iW α b:=by
 obtain⟨n,p,e,q⟩:=a
 refine aq (o9 iU e) fun j _ e2=>?_
 exact⟨j,p,e2,q⟩
theorem tF.lt (S:tF τ H₁ H):∀i∈τ,i<H.length:=fun i hi=>by
 refine al (eO.mp hi) fun n e=>?_
 have hn:=(ao.mp e).1
 have h2:=aw (S.len▸hn)
 exact(ao.mp (S.at_ e h2).2).1
theorem gw.sel (O:gw c h α H) (S:tF τ H₁ H):gw c h (o6 τ α) H₁:=by
 have iU:∀i∈τ,i<α.length:=fun i hi=>O.len▸S.lt i hi
 refine⟨by unfold o6;rw[aa,S.len],fun{n x p} e e'=>?_,fun{i j p q} e e' v9=>?_,O.base,fun b a=>O.new b (kt iU a)⟩
 ·refine aq (o9 iU e') fun j h1 h2=>?_
  refine bG (S.at_ h1 e) fun o e3=>?_
  exact k9.back (k:=τ.length) (fun hn e=>ny hn e) o (O.cell e3 h2)
 ·refine aq (o9 iU e) fun i' h1 h2=>?_
  refine aq (o9 iU e') fun j' h3 h4=>?_
  refine O.apart h2 h4 fun q=>v9 ?_
  subst q
  exact(Jb (ao.mp h1).1 S.nd).mp (h1.trans h3.symm)
theorem oZ.sel (F:oZ c env h α l) (iU:∀i∈τ,i<α.length) (L:wm τ l₁ l):oZ c env h (o6 τ α) l₁:=by
 refine aq F.ns fun m hm hr=>?_
 refine⟨⟨m,hm,fun{i x v} e1 e2=>?_⟩,fun{i x k} e1 hk=>?_,fun a=>F.no (kt iU a),F.new⟩
 ·refine bG (L e2) fun o e3=>?_
  refine aq (hr e1 e3) fun val q r=>?_
  exact⟨val,q,bO.back (k:=τ.length) (fun hn e=>ny hn e) o r⟩
 ·refine gf (F.cl e1 hk) fun b ov q1 q2 q3 q4 q5=>?_
  refine⟨b,ov,q1,q2,fun a=>q3 (kt iU a),q4,fun{v} e2=>?_⟩
  refine bG (L e2) fun o e3=>?_
  refine aq (q5 e3) fun val q r=>?_
  exact⟨val,q,bO.back (k:=τ.length) (fun hn e=>ny hn e) o r⟩
theorem dP.sel {g:Sd}(K:dP c A g h α) (iU:∀i∈τ,i<α.length):dP c A g h (o6 τ α):=by
 refine aL K.fr fun lf q1 q2 q3=>?_
 exact⟨⟨lf,q1,q2,fun en he b hb a=>q3 en he b hb (kt iU a)⟩,K.lq⟩
theorem Inv.sel (I:Inv c d A env l α H s) (S:tF τ H₁ H) (L:wm τ l₁ l):Inv c d A env l₁ (o6 τ α) H₁ s:=by
 have iU:∀i∈τ,i<α.length:=fun i hi=>I.h.len▸S.lt i hi
 exact⟨I.ok,I.e,I.r,I.top,I.h.sel S,I.f.sel iU L,I.k.sel iU⟩
inductive UL (m:Nat) (SQ:AF→Loc→List ag→Prop) (a:AV) (H:List ag):Prop
 |mk (τ:List Nat) (IG:AV) (H₁:List ag) (hm:∀n,n<m→τ[n]?=some n) (S:tF τ H₁ H) (o:vq τ.length IG=true) (e:a=oq (τ.getD · 0) IG) (q:SQ (.ret IG) [] H₁)
inductive Vd (m:Nat) (SQ:AF→Loc→List ag→Prop) (f:AF) (l:Loc) (H:List ag):Prop
 |mk (τ:List Nat) (l₁:Loc) (H₁:List ag) (hm:∀n,n<m→τ[n]?=some n) (S:tF τ H₁ H) (L:wm τ l₁ l) (q:SQ f l₁ H₁)
noncomputable def Up (m:Nat) (SQ:AF→Loc→List ag→Prop):AF→Loc→List ag→Prop:=fun f l H=>
 match f with
 |.ret a=>UL m SQ a H
 |f=>Vd m SQ f l H
theorem hZ.sel {env:dH}{f:AD}{s':aH}(p:hZ c d m A env α h (Up m SQ) f s'):hZ c d m A env α h SQ f s':=by
 obtain⟨af,l',bD,H',y,I',fr,q⟩:=p
 have key:∀{τ:List Nat}{H₁:List ag},(∀n,n<m→τ[n]?=some n)→tF τ H₁ H'→(∀i∈τ,i<bD.length)∧dC m A (cy env) α h (o6 τ bD) s'.heap:=fun{τ H₁} hm S=>by
  have iU:∀i∈τ,i<bD.length:=fun i hi=>I'.h.len▸S.lt i hi
  refine⟨iU,fun{n p} hn e=>?_,fun{b} a=>y.fresh (kt iU a),y.alive,y.keep,y.slot⟩
  refine ny (ao.mp (hm n hn)).1 ?_
  rw[bt,hm n hn];exact y.pre hn e
 have fin:∀{τ:List Nat}{l₁:Loc}{H₁:List ag}(g:AF),af=g→(∀v,g≠.ret v)→(∀n,n<m→τ[n]?=some n)→tF τ H₁ H'→wm τ l₁ l'→SQ g l₁ H₁→hZ c d m A env α h SQ f s':=fun{τ l₁ H₁} g hg hr hm S L q=>by
  refine bG (key hm S) fun iU y'=>?_
  refine⟨g,l₁,_,H₁,y',I'.sel S L,?_,q⟩
  subst hg
  cases af<;>first | exact fr | exact absurd rfl (hr _)
 cases af with
 |next=>obtain⟨τ,l₁,H₁,hm,S,L,q⟩:=q;exact fin .next rfl (fun _ e=>by cases e) hm S L q
 |brk=>obtain⟨τ,l₁,H₁,hm,S,L,q⟩:=q;exact fin .brk rfl (fun _ e=>by cases e) hm S L q
 |cont=>obtain⟨τ,l₁,H₁,hm,S,L,q⟩:=q;exact fin .cont rfl (fun _ e=>by cases e) hm S L q
 |ret a=>
  obtain⟨τ,IG,H₁,hm,S,o,rfl,q⟩:=q
  refine bG (key hm S) fun iU y'=>?_
  refine aq fr fun v j3 r=>?_
  clear fr
  subst j3
  refine⟨.ret IG,[],_,H₁,y',I'.sel S (l₁:=[]) (fun{i v} e=>by simp at e),⟨v,rfl,bO.back (k:=τ.length) (fun hn e=>ny hn e) o r⟩,q⟩
noncomputable def dU (m:Nat) (Q:AF→Loc→List ag→Prop):AF→Loc→List ag→Prop:=fun f l H=>Q f l H∨Up m Q f l H
theorem VS.FE {env:dH}{ss:List eF}(w:VS c d m A env ss l H (dU m SQ) X):VS c d m A env ss l H SQ X:=fun α s I=>
 au (w α s I) (by rintro f s' ⟨af,l',bD,H',y,I',fr,q⟩;exact q.elim (fun q=>⟨af,l',bD,H',y,I',fr,q⟩) fun q=>hZ.sel ⟨af,l',bD,H',y,I',fr,q⟩) fun _ _ e=>e
end
end
section
open PySem PySem.W PySem.Calls PyProof.Rows
section
variable {c:Cx}{α bD:Am}{h:cb}{f:Nat→Nat}
section fwd
variable (fw:∀{n:Nat}{p:aD×aD},α[n]?=some p→bD[f n]?=some p)
include fw
theorem Vv:Mv c h h α bD id f fun _=>True:=⟨fun _ _ _=>trivial,fun _ _ _=>trivial,fun _=>fw,fun t=>t⟩
theorem bO.fwd {a:AV}{v:ai}(r:bO c h α a v):bO c h bD (oq f a) v:=(Vv fw).V a trivial (by rw[mM];exact r)
theorem bq.fwd {a:List AV}{v:List ai}(r:bq c h α a v):bq c h bD (lK f a) v:=bq.mo (fun x _=>(Vv fw).V x trivial) (by rw[pS];exact r)
theorem da.fwd {a:List (Int×AV)}{v:List (Int×ai)}(r:da c h α a v):da c h bD (qL f a) v:=da.mo (fun x _=>(Vv fw).V x.2 trivial) (by rw[r6];exact r)
theorem eN.fwd {a:List (bu×AV)}{v:List ej}(r:eN c h α a v):eN c h bD (wx f a) v:=eN.mo (fun x _=>(Vv fw).V x.2 trivial) (by rw[sH];exact r)
theorem k9.fwd {p:aD×aD}{x:ag}(r:k9 c h α p x):k9 c h bD p (iw f x):=by
 cases x with
 |list vs=>obtain⟨items,n,h1,rs,q⟩:=r;exact⟨items,n,h1,rs.fwd fw,q⟩
 |dict kvs=>obtain⟨kv,h1,rs,q⟩:=r;exact⟨kv,h1,rs.fwd fw,q⟩
 |eV kvs ep=>obtain⟨kv,h1,rs,q⟩:=r;exact⟨kv,h1,rs.fwd fw,q⟩
 |inst C fs=>obtain⟨es,n,sl,h1,h2,rs⟩:=r;exact⟨es,n,sl,h1,h2,rs.fwd fw⟩
end fwd
end
noncomputable def fr (σ:List Nat) (N n:Nat):Nat:=match σ[n]? with
 |some i=>i
 |none=>N+(n-σ.length)
noncomputable def putAt (f:Nat→Nat):List Nat→List ag→List ag→List ag
 |n::ns,H,x::xs=>putAt f ns (H.set n (iw f x)) xs
 |_,H,_=>H
noncomputable def put (σ:List Nat) (H H₀:List ag):List ag:=putAt (fr σ H.length) σ H H₀++(H₀.drop σ.length).map (iw (fr σ H.length))
theorem jd (f:Nat→Nat) (σ:List Nat):∀(H H₀:List ag),(putAt f σ H H₀).length=H.length:=by
 induction σ with
 |nil=>exact fun _ _=>rfl
 |cons n ns ih=>
  intro H H₀
  cases H₀ with
  |nil=>rfl
  |cons x xs=>exact(ih _ xs).trans (dG ..)
theorem vw (f:Nat→Nat){n:Nat}{σ:List Nat}:∀{H H₀:List ag},n∉σ→(putAt f σ H H₀)[n]?=H[n]?:=by
 induction σ with
 |nil=>exact fun _=>rfl
 |cons m ms ih=>
  intro H H₀ h
  cases H₀ with
  |nil=>rfl
  |cons x xs=>exact(ih fun y=>h (aG _ y)).trans (cN fun e=>h (br.mpr (.inl e.symm)))
theorem zq (f:Nat→Nat){n:Nat}{x:ag}{σ:List Nat}:∀{i:Nat}{H H₀:List ag},σ.Nodup→σ[i]?=some n→H₀[i]?=some x→n<H.length→(putAt f σ H H₀)[n]?=some (iw f x):=by
 induction σ with
 |nil=>exact fun _ h=>nS h
 |cons m ms ih=>
  intro i H H₀ nd h1 h2 h3
  cases H₀ with
  |nil=>exact nS h2
  |cons y ys=>
   have nd:=dq.mp nd
   cases i with
   |zero=>
    replace h1:=ae h1
    replace h2:=ae h2
    subst h1 h2
    exact(vw f nd.1).trans (ew h3)
   |succ i=>exact ih (i:=i) nd.2 h1 h2 (Nat.lt_of_lt_of_eq h3 (dG ..).symm)
section
variable {c:Cx}{d:Nat}{A:aU}{α:Am}{h h':cb}{H H₀ qm:List ag}{s s':aH}{σ:List Nat}
theorem ze:(o6 σ α).length=σ.length:=by unfold o6;rw[aa]
theorem uY (O:gw c h α H) (S:tF σ H₀ H) (KX:∀b,AK A b→¬iW α b){iH:Am}(m:bM A iQ (o6 σ α) h iH h') (O':gw c h' iH qm) :
  bM A iQ α h (α++iH.drop σ.length) h'∧gw c h' (α++iH.drop σ.length) (put σ H qm)∧∀{n:Nat}{p:aD×aD},iH[n]?=some p→(α++iH.drop σ.length)[fr σ H.length n]?=some p:=by
 have iU:∀i∈σ,i<α.length:=fun i hi=>O.len▸S.lt i hi
 have yQ:σ.length≤iH.length:=by
  cases hz:σ.length with
  |zero=>exact cQ _
  |succ k=>
   have hk:k<(o6 σ α).length:=by rw[ze];exact aW [_,_] [] [.E aB (.a aM bP)] (.T aM aB) cM rfl hz
   have:=(ao.mp (m.pre (aw hk))).1
   exact f9 0 this rfl
 have hHl:qm.length=iH.length:=O'.len.symm
 have old:∀{i n:Nat},σ[i]?=some n→∀{p:aD×aD},α[n]?=some p→iH[i]?=some p:=fun{i n} e {p} e2=>by
  refine m.pre (ny (ao.mp e).1 ?_)
  rw[bt,e];exact e2
 have fw:∀{n:Nat}{p:aD×aD},iH[n]?=some p→(α++iH.drop σ.length)[fr σ H.length n]?=some p:=fun{n p} e=>by
  unfold fr
  cases hs:σ[n]? with
  |some i=>
   have hi:=iU i (a9 hs)
   dsimp only
   rw[aC hi]
   have:=old hs (aw hi)
   rw[e] at this
   rw[aw hi,this]
  |none=>
   have hn:σ.length≤n:=by simpa using hs
   dsimp only
   rw[aY (by rw[O.len];exact bC _ _),cD,O.len]
   rw[show σ.length+(H.length+(n-σ.length)-H.length)=n by exact aW [_,_,_,_,_] [] [.L aB aM,.fs cf aM aB,.fs fz (.a jh cf) jh] (.E (.a aB fz) aM) (.o (.o (.o (.k [1,0,0,1,0,0,1]) ui) (.o (.k [1,1,0,0,0,0,1]) (.k [1,0,1,0,0,0,0,1]))) (.o (.o (.k [1,0,0,0,1]) (.k [1,0,1,0,0,1,0,1])) (.o (.k [1,0,0,0,1]) (.k [1,0,1,0,0,0,0,1])))) rfl hn (eR _ _) (eR _ _)];exact e
 have mm:bM A iQ α h (α++iH.drop σ.length) h':=by
  refine⟨fun{n p} e=>by rw[aC (ao.mp e).1];exact e,fun{b} a=>?_,m.alive,fun e n1 n2 n3=>m.keep e (fun a=>n1 (kt iU a)) n2 n3,fun e n1 n2=>m.slot e (fun a=>n1 (kt iU a)) n2⟩
  obtain⟨n,p,e,q⟩:=a
  by_cases hn:n<α.length
  ·rw[aC hn] at e;exact .inl ⟨n,p,e,q⟩
  ·rw[aY (by exact aS hn),cD] at e
   rcases m.fresh ⟨_,p,e,q⟩ with a | a
   ·exact .inl (kt iU a)
   ·exact .inr a
 refine⟨mm,?_,fw⟩
 have tk:∀{a:aD}{items:Array ai},dn h a items→dn h' a items:=fun t=>mm.tup O (eM.no h) t
 -- where a new one aaa
 have MF:∀{n:Nat}{p:aD×aD},σ.length≤n→iH[n]?=some p→h.get? p.1=none∧h.get? p.2=none:=fun{n p} hn e=>by
  have one:∀b,b=p.1∨b=p.2→h.get? b=none:=fun b hb=>by
   rcases m.fresh ⟨n,p,e,hb⟩ with⟨i,q,e2,hq⟩ | a
   ·exfalso
    have hi:=(ao.mp e2).1
    rw[ze] at hi
    have:=O'.apart (m.pre e2) e (by exact bV (aV hi hn))
    rcases hb with rfl | rfl<;>rcases hq with hq | hq
    ·exact this.1 hq.symm
    ·exact this.2.2.1 hq.symm
    ·exact this.2.1 hq.symm
    ·exact this.2.2.2 hq.symm
   ·exact a
  exact⟨one _ (.inl rfl),one _ (.inr rfl)⟩
 have live:∀{n:Nat}{p:aD×aD},α[n]?=some p→h.get? p.1≠none∧h.get? p.2≠none:=fun{n p} e=>by
  constructor
  ·refine aq (O.at ⟨n,p,e,.inl rfl⟩) fun o ho _=>?_;rw[ho];exact fun q=>by exact nS (fZ q)
  ·refine aq (O.at ⟨n,p,e,.inr rfl⟩) fun o ho _=>?_;rw[ho];exact fun q=>by exact nS (fZ q)
 refine⟨?_,fun{n x p} e e'=>?_,fun{i j p q} e e' v9=>?_,fun b o e=>?_,fun b a=>?_⟩
 ·unfold put
  rw[ah,ah,jd,aa,aJ,aJ,O.len,hHl]
 ·unfold put at e
  by_cases hn:n<H.length
  ·rw[aC (by rw[jd];exact hn)] at e
   rw[aC (by rw[O.len];exact hn)] at e'
   by_cases hs:n∈σ
   ·refine al (eO.mp hs) fun i hi=>?_
    have hil:=(ao.mp hi).1
    have hx:=aw (show i<qm.length by exact aW [_,_,_,_] [] [.L aB aM,.E cf aM,.T fz aB] (.T fz cf) (.k [1,1,0,1,1]) rfl yQ hHl hil)
    rw[zq _ S.nd hi hx hn] at e
    replace e:=ae e
    subst e
    exact k9.fwd fw (O'.cell hx (old hi e'))
   ·rw[vw _ hs] at e
    refine k9.ql (fun e=>mm.pre e) tk (fun b o hb e2=>?_) (O.cell e e')
    refine m.keep e2 (fun a=>?_) id fun q=>KX b q ⟨n,p,e',hb⟩
    obtain⟨i,q,e3,hq⟩:=a
    refine aq (o9 iU e3) fun j h1 h2=>?_
    have hjn:j≠n:=fun q=>hs (q▸a9 h1)
    have:=O.apart h2 e' hjn
    rcases hb with rfl | rfl<;>rcases hq with hq | hq
    ·exact this.1 hq.symm
    ·exact this.2.2.1 hq.symm
    ·exact this.2.1 hq.symm
    ·exact this.2.2.2 hq.symm
  ·rw[aY (by rw[jd];exact aS hn),jd,aK,cD] at e
   rw[aY (by rw[O.len];exact aS hn),cD,O.len] at e'
   refine aq (bB.mp e) fun y hy mU=>?_
   subst mU
   exact k9.fwd fw (O'.cell hy e')
 ·by_cases hi:i<α.length<;>by_cases hj:j<α.length
  ·rw[aC hi] at e
   rw[aC hj] at e'
   exact O.apart e e' v9
  ·rw[aC hi] at e
   rw[aY (by exact aS hj),cD] at e'
   have h1:=MF (by exact bC _ _) e'
   have h2:=live e
   exact⟨fun q=>h2.1 (q▸h1.1),fun q=>h2.1 (q▸h1.2),fun q=>h2.2 (q▸h1.1),fun q=>h2.2 (q▸h1.2)⟩
  ·rw[aY (by exact aS hi),cD] at e
   rw[aC hj] at e'
   have h1:=MF (by exact bC _ _) e
   have h2:=live e'
   exact⟨fun q=>h2.1 (q▸h1.1),fun q=>h2.2 (q▸h1.1),fun q=>h2.1 (q▸h1.2),fun q=>h2.2 (q▸h1.2)⟩
  ·rw[aY (by lia),cD] at e e'
   exact O'.apart e e' (by exact aW [_,_,_,_,_,_] [] [.N (.E aB aM),.N (.T aB cf),.N (.T aM cf),.fs fz aB cf,.fs jh aM cf] (.N (.E (.a qE fz) (.a qE jh))) (.o (.o (.o (.k [0,1,0,0,1,0,1,0,0,0,1]) (.k [0,0,1,0,0,0,0,0,0,1,1])) (.o (.k [0,1,0,0,1,0,1,0,0,1,1]) (.k [0,0,1,0,0,0,0,0,0,1,1]))) (.o (.o (.k [1,0,0,1,0,0,0,1,0,0,1]) (.k [1,0,0,1,0,0,0,1,1,0,1])) (.o (.k [0,0,0,0,0,1,0,0,1,0,1]) (.k [0,0,0,0,0,1,0,0,1,0,1])))) rfl v9 hi hj (eR _ _) (eR _ _))
 ·exact O'.base b o e
 ·obtain⟨n,p,e,q⟩:=a
  by_cases hn:n<α.length
  ·rw[aC hn] at e;exact O.new b ⟨n,p,e,q⟩
  ·rw[aY (by exact aS hn),cD] at e;exact O'.new b ⟨_,p,e,q⟩
theorem dP.both {g g':Sd}{iH:Am}(K:dP c A g h α) (K':dP c A g' h' iH):dP c A g' h' (α++iH.drop σ.length):=by
 refine aL K.fr fun lf q1 q2 q3=>?_
 refine aL K'.fr fun lf' r1 r2 r3=>?_
 rw[q1] at r1;replace r1:=ae r1;subst r1
 refine⟨⟨lf,q1,r2,fun en he b hb a=>?_⟩,K'.lq⟩
 obtain⟨n,p,e,q⟩:=a
 by_cases hn:n<α.length
 ·rw[aC hn] at e;exact q3 en he b hb ⟨n,p,e,q⟩
 ·rw[aY (by exact aS hn),cD] at e;exact r3 en he b hb ⟨_,p,e,q⟩
theorem WC.frame {f:ai}{as as₀:List AV}{Q Q₀:AV→List ag→Prop}{X X₀:List ag→Prop}(σ:List Nat) (S:tF σ H₀ H) (has:as=lK (σ.getD · 0) as₀) (ho:mT σ.length as₀=true) (w:WC c d f as₀ H₀ Q₀ X₀)
  (hQ:∀v qm,Q₀ v qm→Q (oq (fr σ H.length) v) (put σ H qm)) (hX:∀qm,X₀ qm→X (put σ H qm)):WC c d f as H Q X:=fun A α s vs I r=>by
 subst has
 have iU:∀i∈σ,i<α.length:=fun i hi=>I.h.len▸S.lt i hi
 have KX:∀b,AK A b→¬iW α b:=by
  rintro b ⟨lf,en,e1,e2,e3⟩
  refine aL I.k.fr fun lf' q1 _ q3=>?_
  rw[e1] at q1;replace q1:=ae q1;subst q1
  exact q3 en e2 b e3
 have I₀:Ht c d A (o6 σ α) H₀ s:=⟨I.ok,I.r,I.h.sel S,I.k.sel iU⟩
 have YW:bq c s.heap (o6 σ α) as₀ vs:=r.back (fun hn e=>ny hn e) ho
 have key:=w A _ s vs I₀ YW
 refine qU key fun Js s' p=>?_
 cases Js with
 |ok fl=>
  cases fl with
  |ret v=>
   obtain⟨a,bD,H',m,O',K',rv,q⟩:=p
   refine bQ (uY I.h S KX m O') fun mm OO fw=>?_
   exact⟨_,_,_,mm,OO,I.k.both K',rv.fwd fw,hQ _ _ q⟩
  |_=>exact p
 |error e=>
  obtain⟨e',bD,H',rfl,z,m,O',K',q⟩:=p
  refine bQ (uY I.h S KX m O') fun mm OO fw=>?_
  refine⟨e',_,_,rfl,?_,mm,OO,I.k.both K',hX _ q⟩
  have off:∀{b:aD},s.heap.get? b=none→¬iW bD b→¬iW (α++bD.drop σ.length) b:=fun{b} e1 n1 a=>by
   obtain⟨n,p,e,q⟩:=a
   by_cases hn:n<α.length
   ·rw[aC hn] at e;exact I.h.live e1 ⟨n,p,e,q⟩
   ·rw[aY (by exact aS hn),cD] at e;exact n1 ⟨_,p,e,q⟩
  obtain⟨z1,z2,z3,oe,ws,a0,z4,z5,z6,z7,T,oT,ts,y1,y2,y3,y4,y5,y6,y7,y8⟩:=z
  exact⟨off z3 z1,z2,z3,oe,ws,a0,z4,z5,z6,z7,T,oT,ts,y1,y2,y3,y4,y5,off y8 y6,y7,y8⟩
end
end
section
open PySem PySem.W PySem.Calls PyProof.Rows
set_option backward.match.sparseCases false
structure Sx where
 names:List (bu×bc)
 gt:List (bu×AV)
 ft:List (aD×List bu)
 mt:List (aD×List (bu×aD))
structure VZ where
 c:Cx
 d:Nat
 A:aU
 env:dH
 X:List ag→Prop
noncomputable def oP:List (bu×bc)→bu→Nat→Option (Nat×bc)
 |[],_,_=>none
 |(y,k)::r,x,i=>bif y==x then some (i,k) else oP r x (i+1)
noncomputable def km {β:Type}:List (bu×β)→bu→Option β
 |[],_=>none
 |(y,k)::r,x=>bif y==x then some k else km r x
noncomputable def kK {β:Type}:List (aD×β)→aD→Option β
 |[],_=>none
 |(y,k)::r,x=>bif tQ y x then some k else kK r x
noncomputable def IE:List bu→bu→Bool
 |[],_=>false
 |y::r,x=>bif y==x then true else IE r x
noncomputable def J7 (ft:List (aD×List bu)) (C:aD) (x:bu):Bool:=match kK ft C with
 |some l=>IE l x
 |none=>false
noncomputable def Kk (mt:List (aD×List (bu×aD))) (C:aD) (x:bu):Option aD:=match kK mt C with
 |some l=>km l x
 |none=>none
noncomputable def sJ:Expr→Bool
 |.Starred _ _=>true
 |_=>false
noncomputable def noStar:List Expr→Bool
 |[]=>true
 |e::r=>bif sJ e then false else noStar r
noncomputable def xP:Expr→Option (Option Expr×Option Expr×Option Expr)
 |.Slice e1 e2 st _=>some (e1,e2,st)
 |_=>none
noncomputable def sI:Expr→Bool
 |.Name ..=>true
 |.Attribute ..=>true
 |.Subscript ..=>true
 |_=>false
section
variable (z:VZ) (l:Loc) (H:List ag)
noncomputable def CQ:ag→Option (List AV)
 |.list vs=>some vs
 |_=>none
noncomputable def H6:ag→Option (List (Int×AV))
 |.dict kvs=>some kvs
 |.eV kvs _=>some kvs
 |_=>none
noncomputable def gc {α:Type}(o:Option α) (d:Prop) (P:α→Prop):Prop:=match o with
 |none=>d
 |some x=>P x
noncomputable def listAt (H:List ag) (n:Nat):Option (List AV):=jn H[n]? CQ
noncomputable def iu (H:List ag):AV→Option (List (Int×AV))
 |.iR kvs=>some kvs
 |.obj n=>jn H[n]? H6
 |_=>none
noncomputable def KG:AV→Bool
 |.none=>true
 |_=>false
noncomputable def two (p:Prop) (H:List ag) (K:Bool→List ag→Prop):Prop:=(p→K true H)∧(¬p→K false H)
noncomputable def vp (a:AV) (rH:Prop) (P:Int→Prop):Prop:=match a with
 |.int i=>P i
 |_=>rH
noncomputable def tN (a b:AV) (rH:Prop) (P:Int→Int→Prop):Prop:=vp a rH fun i=>vp b rH (P i)
noncomputable def vEq (a b:AV) (K:Bool→List ag→Prop) (rH:Prop):Prop:=match a with
 |.int i=>match b with
  |.int j=>two (i=j) H K
  |_=>rH
 |.str x=>match b with
  |.str y=>K (x==y) H
  |_=>rH
 |_=>rH
noncomputable def U5 (a b:AV) (rH:Prop) (P:Bool→Prop):Prop:=match a with
 |.int k=>gc (iu H b) rH fun kvs=>P (kvs.lookup k).isSome
 |_=>rH
noncomputable def vIs (a b:AV) (rH:Prop) (K:Bool→List ag→Prop):Prop:=match b with
 |.none=>bif uH a then K (KG a) H else False
 |_=>rH
noncomputable def Ek (op:mC) (a b:AV) (K:Bool→List ag→Prop):Prop:=match op with
 |.Lt=>tN a b (WO z.c z.d z.A z.env .Lt a b l H K z.X) fun i j=>two (i<j) H K
 |.LtE=>tN a b (WO z.c z.d z.A z.env .LtE a b l H K z.X) fun i j=>two (i≤j) H K
 |.Gt=>tN a b (WO z.c z.d z.A z.env .Gt a b l H K z.X) fun i j=>two (i>j) H K
 |.GtE=>tN a b (WO z.c z.d z.A z.env .GtE a b l H K z.X) fun i j=>two (i≥j) H K
 |.NotEq=>tN a b (WO z.c z.d z.A z.env .NotEq a b l H K z.X) fun i j=>two (i≠j) H K
 |.Eq=>vEq H a b K (WO z.c z.d z.A z.env .Eq a b l H K z.X)
 |.In=>U5 H a b (WO z.c z.d z.A z.env .In a b l H K z.X) fun t=>K t H
 |.NotIn=>U5 H a b (WO z.c z.d z.A z.env .NotIn a b l H K z.X) fun t=>K (!t) H
 |.Is=>vIs H a b (WO z.c z.d z.A z.env .Is a b l H K z.X) K
 |.IsNot=>WO z.c z.d z.A z.env .IsNot a b l H K z.X
noncomputable def Sm (a b:AV) (K:AV→List ag→Prop):Prop:=match a with
 |.int i=>match b with
  |.int j=>K (.int (i+j)) H
  |_=>False
 |.obj n=>match b with
  |.obj m=>gc (listAt H n) False fun vs=>gc (listAt H m) False fun ws=>vs.length+ws.length≤1000000∧K (.obj H.length) (H++[.list (vs++ws)])
  |_=>False
 |.tup vs=>match b with
  |.tup ws=>vs.length+ws.length≤1000000∧K (.tup (vs++ws)) H
  |_=>False
 |.str x=>match b with
  |.str y=>x.length+y.length≤1000000∧K (.str (x++y)) H
  |_=>False
 |_=>False
noncomputable def TC (a b:AV) (K:AV→List ag→Prop):Prop:=match a with
 |.int i=>match b with
  |.int j=>IntMulOk i j∧K (.int (i*j)) H
  |_=>False
 |.obj n=>match b with
  |.int k=>gc (listAt H n) False fun vs=>((k<2^62∧-(2^62)<k)∧vs.length*k.toNat≤1000000)∧K (.obj H.length) (H++[.list (bH k.toNat vs).flatten])
  |_=>False
 |_=>False
noncomputable def R1 (op:Cj) (a b:AV) (K:AV→List ag→Prop):Prop:=match op with
 |.Add=>Sm H a b K
 |.Sub=>tN a b False fun i j=>K (.int (i-j)) H
 |.Mult=>TC H a b K
 |.Mod=>tN a b False fun i j=>0<j∧K (.int (i%j)) H
 |.FloorDiv=>tN a b False fun i j=>(0<j∧j<1073741824)∧K (.int (i / j)) H
 |.RShift=>tN a b False fun i j=>0≤j∧K (.int (i / (2^j.toNat))) H
 |op=>WV z.c z.d z.A z.env (fun vs=>fb op (vs[0]?.getD .none) (vs[1]?.getD .none)) [a,b] l H K z.X
noncomputable def VU (a:AV) (K:Bool→List ag→Prop):Prop:=match a with
 |.bool b=>K b H
 |.none=>K false H
 |.int i=>two (i≠0) H K
 |a=>yR z.c z.d z.A z.env a l H K z.X
noncomputable def MS (a:AV) (K:AV→List ag→Prop):Prop:=match a with
 |.obj n=>gc (listAt H n) False fun vs=>vs.length≤1000000∧K (.int vs.length) H
 |_=>False
noncomputable def Uo (a:AV) (K:AV→List ag→Prop):Prop:=match a with
 |.d8 b=>b.length≤1000000∧K (.int b.length) H
 |.tup vs=>vs.length≤1000000∧K (.int vs.length) H
 |.str x=>x.length≤1000000∧K (.int x.length) H
 |a=>gc (iu H a) (MS H a K) fun kvs=>kvs.length≤1000000∧K (.int kvs.length) H
noncomputable def Wx (a:AV) (K:AV→List ag→Prop):Prop:=∃i j k,a=.tup [.int i,.int j,.int k]∧K (.int (min (min i j) k)) H
noncomputable def Y4 (a:AV) (K:AV→List ag→Prop):Prop:=∃u,a=.str ⟨⟨[u]⟩⟩∧K (.int u) H
noncomputable def S1 (a:AV) (T:String) (K:AV→List ag→Prop):Prop:=match a with
 |.d8 b=>bif T=="bytes" then K (.bool true) H else False
 |.int i=>bif T=="int" then K (.bool true) H else bif T=="bool" then K (.bool false) H else False
 |.str x=>bif T=="str" then K (.bool true) H else False
 |.tup vs=>bif T=="tuple" then K (.bool true) H else False
 |_=>False
noncomputable def T6 (a:AV) (K:AV→List ag→Prop):Prop:=match a with
 |.tup vs=>K (.tup vs) H
 |.obj n=>gc (listAt H n) False fun vs=>vs.length≤1000000∧K (.tup vs) H
 |_=>False
noncomputable def Mp (a:AV) (K:AV→List ag→Prop):Prop:=match a with
 |.tup vs=>vs.length≤1000000∧K (.obj H.length) (H++[.list vs])
 |.d8 b=>b.length≤1000000∧K (.obj H.length) (H++[.list (b.map fun x=>.int x.toNat)])
 |.obj n=>gc (listAt H n) False fun vs=>vs.length≤1000000∧K (.obj H.length) (H++[.list vs])
 |_=>False
noncomputable def Ug (a:AV) (K:AV→List ag→Prop):Prop:=gc (iu H a) False fun kvs=>kvs.length≤1000000∧K (.obj H.length) (H++[.dict kvs])
noncomputable def Dl (a b:AV) (K:AV→List ag→Prop):Prop:=match a with
 |.obj n=>gc (listAt H n) False fun vs=>vs.length≤1000000∧K .none (H.set n (.list (vs++[b])))
 |_=>False
noncomputable def RO (a b dv:AV) (K:AV→List ag→Prop):Prop:=vp b False fun k=>gc (iu H a) False fun kvs=>K ((kvs.lookup k).getD dv) H
noncomputable def vB1 (f:String) (a:AV) (K:AV→List ag→Prop) (rH:Prop):Prop:=
 bif f=="len" then Uo H a K else bif f=="abs" then (vp a False fun i=>K (.int (if i<0 then -i else i)) H) else bif f=="min" then Wx H a K else bif f=="ord" then Y4 H a K else
 bif f=="sum" then (match a with | .d8 b=>K (.int ((b.map fun x=>(x.toNat:Int)).sum)) H | _=>rH) else rH
noncomputable def vB2 (f:String) (a b:AV) (K:AV→List ag→Prop) (rH:Prop):Prop:=
 bif f=="list.append" then Dl H a b K else bif f=="max" then tN a b False (fun i j=>K (.int (max i j)) H) else bif f=="min" then tN a b False (fun i j=>K (.int (min i j)) H) else
 bif f=="isinstance" then (match b with | .fix (.type T)=>S1 H a T K | _=>False) else bif f=="dict.get" then RO H a b .none K else rH
noncomputable def vT1 (T:String) (a:AV) (K:AV→List ag→Prop) (rH:Prop):Prop:=
 bif T=="int" then (vp a False fun i=>K (.int i) H) else bif T=="tuple" then T6 H a K else bif T=="list" then Mp H a K else bif T=="dict" then Ug H a K else rH
noncomputable def I2 (v:ai) (as:List AV) (K:AV→List ag→Prop):Prop:=match v with
 |.ref f=>WC z.c z.d (.ref f) as H K z.X
 |.builtin f=>match as with
  |[a]=>vB1 H f a K (WV z.c z.d z.A z.env (fun xs=>PySem.call (.builtin f) xs) as l H K z.X)
  |[a,b]=>vB2 H f a b K (WV z.c z.d z.A z.env (fun xs=>PySem.call (.builtin f) xs) as l H K z.X)
  |[a,b,dv]=>bif f=="dict.get" then RO H a b dv K else WV z.c z.d z.A z.env (fun xs=>PySem.call (.builtin f) xs) as l H K z.X
  |as=>WV z.c z.d z.A z.env (fun xs=>PySem.call (.builtin f) xs) as l H K z.X
 |.type T=>match as with
  |[a]=>vT1 H T a K (WV z.c z.d z.A z.env (fun xs=>PySem.call (.type T) xs) as l H K z.X)
  |as=>WV z.c z.d z.A z.env (fun xs=>PySem.call (.type T) xs) as l H K z.X
 |v=>False
noncomputable def BB (a:AV) (k:Int) (K:AV→List ag→Prop):Prop:=match a with
 |.obj n=>gc (listAt H n) False fun vs=>(0≤k∧k<2^63)∧∃x,vs[k.toNat]?=some x∧K x H
 |_=>False
noncomputable def IW (a b:AV) (K:AV→List ag→Prop):Prop:=match b with
 |.int k=>match a with
  |.tup vs=>match k with
   |.ofNat k=>gc vs[k]? False fun x=>bif ik k 1000000 then K x H else False
   |_=>WG z.c z.d z.A z.env a b l H K z.X
  |.d8 b=>((0≤k∧k<b.length)∧b.length≤1099511627776)∧K (.int (b.getD k.toNat 0).toNat) H
  |.str x=>WG z.c z.d z.A z.env (.str x) b l H K z.X
  |a=>gc (iu H a) (BB H a k K) fun kvs=>∃x,kvs.lookup k=some x∧K x H
 |b=>WG z.c z.d z.A z.env a b l H K z.X
noncomputable def vSl (a:AV) (lo hi:Option Int) (K:AV→List ag→Prop):Prop:=match a with
 |.d8 b=>b.length≤1000000∧K (.d8 (lL lo hi b)) H
 |.obj n=>gc (listAt H n) False fun vs=>vs.length≤1000000∧K (.obj H.length) (H++[.list (lL lo hi vs)])
 |a=>AM z.c z.d z.A z.env a lo hi l H K z.X
noncomputable def G2 (x:ag) (P:aD→List (bu×AV)→Prop):Prop:=match x with
 |.inst C fs=>P C fs
 |_=>False
noncomputable def Oh (g:Sx) (x:ag) (m:bu) (K:ai→Prop):Prop:=match x with
 |.inst C fs=>gc (Kk g.mt C m) False fun f=>gc (km fs m) (K (.ref f)) fun _=>False
 |.list _=>bif m=="append" then K (.builtin "list.append") else bif m=="pop" then K (.builtin "list.pop") else False
 |.dict _=>bif m=="get" then K (.builtin "dict.get") else False
 |.eV _ _=>bif m=="get" then K (.builtin "dict.get") else False
noncomputable def Ms (g:Sx) (a:AV) (m:bu) (K:ai→Prop):Prop:=match a with
 |.obj n=>gc H[n]? False fun x=>Oh g x m K
 |.iR _=>bif m=="get" then K (.builtin "dict.get") else False
 |_=>False
end
theorem fM {b:Bool}{P:Prop}(h:bif b then P else False):b=true∧P:=by cases b with | true=>exact⟨rfl,h⟩ | false=>exact h.elim
theorem GH {b:Bool}{P:Prop}(h:bif b then False else P):b=false∧P:=by cases b with | true=>exact h.elim | false=>exact⟨rfl,h⟩
noncomputable abbrev ET:=Expr→Loc→List ag→(AV→List ag→Prop)→Prop
noncomputable abbrev AT:=List Expr→Loc→List ag→(List AV→List ag→Prop)→Prop
noncomputable abbrev PT:=Option Expr→Loc→List ag→(Option Int→List ag→Prop)→Prop
noncomputable abbrev M3:=Expr→Loc→List ag→(Bool→List ag→Prop)→Prop
section
variable (z:VZ) (g:Sx) (E:ET) (A:AT) (P:PT) (B:M3) (l:Loc) (K:AV→List ag→Prop) (KB:Bool→List ag→Prop)
noncomputable def RW (op:Cj) (x y:AV) (H:List ag):Prop:=R1 z l H op x y K
noncomputable def RA (op:Cj) (b:Expr) (x:AV) (H:List ag):Prop:=E b l H (RW z l K op x)
noncomputable def XB (a:AV) (H:List ag):Prop:=VU z l H a KB
noncomputable def Zv (t:Bool) (H:List ag):Prop:=K (.bool (!t)) H
noncomputable def Tj (t:Bool) (H:List ag):Prop:=KB (!t) H
noncomputable def Zz (t:Bool) (H:List ag):Prop:=K (.bool t) H
noncomputable def Zp (as:List AV) (H:List ag):Prop:=bif cv as.length 1000 then K (.tup as) H else False
noncomputable def Y7 (as:List AV) (H:List ag):Prop:=bif cv as.length 1000 then K (.obj H.length) (H++[.list as]) else False
noncomputable def RL (KA:List AV→List ag→Prop) (a:AV) (as:List AV) (H:List ag):Prop:=KA (a::as) H
noncomputable def Yy (es:List Expr) (KA:List AV→List ag→Prop) (a:AV) (H:List ag):Prop:=A es l H (RL KA a)
noncomputable def WM (KP:Option Int→List ag→Prop) (a:AV) (H:List ag):Prop:=match a with
 |.int i=>KP (some i) H
 |_=>False
noncomputable def U0 (v:ai) (as:List AV) (H:List ag):Prop:=I2 z l H v as K
noncomputable def PD (v:ai) (a:AV) (as:List AV) (H:List ag):Prop:=I2 z l H v (a::as) K
noncomputable def Uj (m:bu) (es:List Expr) (a:AV) (H:List ag):Prop:=Ms H g a m fun v=>A es l H (PD z l K v a)
noncomputable def M5 (op:mC) (x y:AV) (H:List ag):Prop:=Ek z l H op x y KB
noncomputable def Vj (op:mC) (b:Expr) (x:AV) (H:List ag):Prop:=E b l H (M5 z l KB op x)
noncomputable def XD (op:mC) (b:Expr) (y:AV) (t:Bool) (H:List ag):Prop:=match t with
 |true=>E b l H (M5 z l KB op y)
 |false=>KB false H
noncomputable def Vc (op tc:mC) (b':Expr) (x y:AV) (H:List ag):Prop:=Ek z l H op x y (XD z E l KB tc b' y)
noncomputable def Rx (op tc:mC) (b b':Expr) (x:AV) (H:List ag):Prop:=E b l H (Vc z E l KB op tc b' x)
noncomputable def kIf (a b:Expr) (t:Bool) (H:List ag):Prop:=match t with
 |true=>E a l H K
 |false=>E b l H K
noncomputable def NG (a b:AV) (H:List ag):Prop:=IW z l H a b K
noncomputable def O9 (i:Expr) (a:AV) (H:List ag):Prop:=E i l H (NG z l K a)
noncomputable def Z5 (a:AV) (lo hi:Option Int) (H:List ag):Prop:=vSl z l H a lo hi K
noncomputable def YS (hi:Option Expr) (a:AV) (lo:Option Int) (H:List ag):Prop:=P hi l H (Z5 z l K a lo)
noncomputable def Wt (lo hi:Option Expr) (a:AV) (H:List ag):Prop:=P lo l H (YS z P l K hi a)
end
section
variable (z:VZ) (g:Sx) (E:ET) (A:AT) (P:PT) (B:M3) (l:Loc) (H:List ag) (K:AV→List ag→Prop) (KB:Bool→List ag→Prop)
noncomputable def Oq (i:Nat) (P:AV→Prop):Prop:=gc l[i]? False fun o=>gc o False P
noncomputable def Nh (x:bu):Prop:=gc (oP g.names x 0) False fun p=>match p.2 with
 |.local=>Oq l p.1 fun v=>K v H
 |.cell=>Oq l p.1 fun v=>K v H
 |.globalImplicit=>gc (km g.gt x) False fun a=>K a H
 |_=>False
noncomputable def FV (c:Rw):Prop:=match c with
 |.int i=>K (.int i) H
 |.str s=>K (.str s) H
 |.none=>K .none H
 |.bool b=>K (.bool b) H
 |_=>False
noncomputable def Mk (ks:List (Option Expr)) (vs:List Expr):Prop:=match ks with
 |[]=>match vs with
  |[]=>K (.obj H.length) (H++[.dict []])
  |_=>False
 |_=>False
noncomputable def Xm (a:AV):Prop:=vp a False fun i=>K (.int (-i)) H
noncomputable def sUn (op:UnaryOp) (e:Expr):Prop:=match op with
 |.USub=>E e l H fun x H1=>Xm H1 K x
 |.Not=>E e l H (XB z l (Zv K))
 |_=>False
noncomputable def Mr (op:BoolOp) (es:List Expr) (p:ij):Prop:=match es with
 |[]=>False
 |e::es=>match es with
  |[]=>E e l H K
  |e2::es=>match op with
   |.And=>E e l H fun x H1=>VU z l H1 x fun t H2=>match t with
    |true=>E (.BoolOp .And (e2::es) p) l H2 K
    |false=>K x H2
   |.Or=>E e l H fun x H1=>VU z l H1 x fun t H2=>match t with
    |true=>K x H2
    |false=>E (.BoolOp .Or (e2::es) p) l H2 K
noncomputable def UN (x:bu) (a:AV):Prop:=match a with
 |.obj i=>gc H[i]? False fun y=>G2 y fun C fs=>gc (km fs x) False fun v=>bif J7 g.ft C x&&uH v then K v H else False
 |_=>False
noncomputable def NR (e i:Expr) (p:ij):Prop:=gc (xP i) (E e l H (O9 z E l K i)) fun s=>match s.2.2 with
 |none=>E e l H (Wt z P l K s.1 s.2.1)
 |some _=>WE z.c z.d z.A z.env (.Subscript e i p) l H K z.X
noncomputable def Yw (a:AV) (R:ai→Prop):Prop:=match a with
 |.fix v=>R v
 |_=>False
noncomputable def ZJ (f:bu) (R:ai→Prop):Prop:=gc (oP g.names f 0) False fun p=>match p.2 with
 |.globalImplicit=>gc (km g.gt f) False fun a=>Yw a R
 |_=>False
noncomputable def MJ (f:Expr) (es:List Expr) (ks:List AX) (p:ij):Prop:=match ks with
 |[]=>match f with
  |.Attribute o m ap=>bif (sI o&&noStar es)&&(ik es.length 30&&ap.endLine==p.line) then E o l H (Uj z g A l K m es) else False
  |.Name f p=>bif noStar es then (ZJ g f fun v=>A es l H (U0 z l K v)) else False
  |_=>False
 |_=>False
noncomputable def HB (a:Expr) (qY:List mC) (bs:List Expr):Prop:=match qY with
 |[]=>False
 |op::qY=>match bs with
  |[]=>False
  |b::bs=>match qY with
   |[]=>match bs with
    |[]=>bif lH op b then False else E a l H (Vj z E l KB op b)
    |_=>False
   |tc::qY=>match qY with
    |[]=>match bs with
     |[b']=>bif lH tc b' then False else E a l H (Rx z E l KB op tc b b')
     |_=>False
    |_=>False
noncomputable def tUn (op:UnaryOp) (e:Expr):Prop:=match op with
 |.Not=>B e l H (Tj KB)
 |_=>False
noncomputable def Mj (op:BoolOp) (es:List Expr) (p:ij):Prop:=match op with
 |.And=>match es with
  |[]=>KB true H
  |e::es=>B e l H fun t H1=>match t with
   |true=>B (.BoolOp .And es p) l H1 KB
   |false=>KB false H1
 |.Or=>match es with
  |[]=>KB false H
  |e::es=>B e l H fun t H1=>match t with
   |true=>KB true H1
   |false=>B (.BoolOp .Or es p) l H1 KB
end
mutual
noncomputable def vE (z:VZ) (g:Sx):Nat→ET
 |0,e,l,H,K=>WE z.c z.d z.A z.env e l H K z.X
 |n+1,e,l,H,K=>match e with
  |.Name x _=>Nh g l H K x
  |.Constant c _ _=>FV H K c
  |.Tuple es _ _=>bif noStar es then vA z g n es l H (Zp K) else False
  |.List es _=>bif noStar es then vA z g n es l H (Y7 K) else False
  |.Dict ks vs _=>Mk H K ks vs
  |.BinOp a op b _=>vE z g n a l H (RA z (vE z g n) l K op b)
  |.UnaryOp op e _=>sUn z (vE z g n) l H K op e
  |.BoolOp op es p=>Mr z (vE z g n) l H K op es p
  |.IfExp t a b _=>vB z g n t l H (kIf (vE z g n) l K a b)
  |.Compare a qY bs _=>HB z (vE z g n) l H (Zz K) a qY bs
  |.Attribute e x _=>bif sI e then (vE z g n e l H fun a H1=>UN g H1 K x a) else False
  |.Subscript e i p=>NR z (vE z g n) (vP z g n) l H K e i p
  |.Call f es ks p=>MJ z g (vE z g n) (vA z g n) l H K f es ks p
  |e=>WE z.c z.d z.A z.env e l H K z.X
noncomputable def vA (z:VZ) (g:Sx):Nat→AT
 |0,es,l,H,K=>False
 |n+1,es,l,H,K=>match es with
  |[]=>K [] H
  |e::es=>vE z g n e l H (Yy (vA z g n) l es K)
noncomputable def vP (z:VZ) (g:Sx):Nat→PT
 |0,e,l,H,K=>False
 |n+1,e,l,H,K=>match e with
  |none=>K none H
  |some e=>vE z g n e l H (WM K)
noncomputable def vB (z:VZ) (g:Sx):Nat→M3
 |0,e,l,H,K=>WB z.c z.d z.A z.env e l H K z.X
 |n+1,e,l,H,K=>match e with
  |.Compare a qY bs _=>HB z (vE z g n) l H K a qY bs
  |.UnaryOp op e _=>tUn (vB z g n) l H K op e
  |.BoolOp op es p=>Mj (vB z g n) l H K op es p
  |.Name x p=>vE z g n (.Name x p) l H (XB z l K)
  |.Call f es ks p=>vE z g n (.Call f es ks p) l H (XB z l K)
  |e=>WB z.c z.d z.A z.env e l H K z.X
end
end
section
open PySem PySem.W PySem.Calls PyProof.Rows
structure NmEnv (env:dH) (names:List (bu×bc)):Prop where
 nm:env.scope.names=names
 Hx:∀p∈names,(p.1==("__debug__":bu))=false
structure iA (env:dH) (names:List (bu×bc)):Prop extends NmEnv env names where
 kind:env.scope.kind=.function
 fr:env.frame=some env.locals
noncomputable def Zm (c:Cx) (x:bu) (a:AV):Prop:=∃v,EX c.K eo x=some (some v)∧∀h α,(∀b o,c.hb.get? b=some o→h.get? b=some o)→bO c h α a v
noncomputable def Yd (c:Cx) (x:bu) (v:ai):Prop:=EX c.K eo x=some none∧I9 x=some v∧x≠"__name__"
structure VOk (z:VZ) (g:Sx):Prop where
 F:NmEnv z.env g.names
 gt:∀{x:bu}{a:AV},km g.gt x=some a→Zm z.c x a∨∃v,a=.fix v∧Yd z.c x v
 kp:∀{x:bu}{v:ai},km g.gt x=some (.fix v)→gX z.c v
 ft:∀{C:aD}{x:bu},J7 g.ft C x=true→yA z.c.K C x∧Dq z.c.K C x
 mt:∀{C:aD}{x:bu}{f:aD},Kk g.mt C x=some f→yg z.c.K C x f
 rs:(∃fI fd,lW z.c.K z.c.bd fI fd)∧gX z.c (.ref z.c.bd)∧EX z.c.K eo "BadDevice"=some (some (.ref z.c.bd))
structure nZ (z:VZ) (g:Sx):Prop extends VOk z g where
 Fe:iA z.env g.names
theorem DI {x:bu}{l:List (bu×bc)}:∀{j i:Nat}{k:bc},oP l x j=some (i,k)→∃n,i=j+n∧l[n]?=some (x,k):=by
 induction l with
 |nil=>exact nS
 |cons p r ih=>
  intro j i k h
  replace h:(bif p.1==x then some (j,p.2) else oP r x (j+1))=some (i,k):=h
  cases e:p.1==x with
  |true=>
   rw[e] at h
   cases h
   exact⟨0,rfl,congrArg some (gH (eq_of_beq e) rfl)⟩
  |false=>
   rw[e] at h
   exact(ih h).elim fun n q=>⟨n+1,q.1.trans (Nat.succ_add ..),q.2⟩
theorem oQ {x:bu}{l:List (bu×bc)}{i:Nat}{k:bc}(h:oP l x 0=some (i,k)):l[i]?=some (x,k):=(DI h).elim fun n q=>(congrArg (l[·]?) (q.1.trans (pz n))).trans q.2
theorem rL {β:Type}{x:bu}{l:List (bu×β)}:km l x=l.lookup x:=by
 induction l with
 |nil=>rfl
 |cons p r ih=>
  show(bif p.1==x then some p.2 else km r x)=_
  rw[dJ,ih,BEq.comm]
  cases x==p.1<;>rfl
theorem l7 {e:Expr}{r:List Expr}(h:noStar (e::r)=true):sJ e=false∧noStar r=true:=by
 replace h:(bif sJ e then false else noStar r)=true:=h
 cases q:sJ e with
 |true=>rw[q] at h;exact fT h
 |false=>rw[q] at h;exact⟨rfl,h⟩
theorem wk {env:dH}{r:List Expr}{e:Expr}(h:sJ e=false):dR (e::r) env=(false,gr e env)::dR r env:=by
 cases e with
 |Starred=>exact fT h.symm
 |_=>rfl
theorem jX {env:dH}{es:List Expr}:noStar es=true→dR es env=es.map fun e=>(false,gr e env):=by
 induction es with
 |nil=>exact fun _=>rfl
 |cons e r ih=>exact fun h=>(wk (l7 h).1).trans (congrArg _ (ih (l7 h).2))
section
variable {z:VZ}{g:Sx}{l:Loc}{H:List ag}{K:AV→List ag→Prop}{KB:Bool→List ag→Prop}
theorem two.dec {p:Prop} [Decidable p] (h:two p H KB):KB (decide p) H:=by
 by_cases q:p
 ·rw[decide_eq_true q];exact h.1 q
 ·rw[decide_eq_false q];exact h.2 q
theorem dS {α β:Type}{o:Option α}{f:α→Option β}{y:β}(h:jn o f=some y):∃x,o=some x∧f x=some y:=by
 cases o with
 |none=>exact nS h
 |some x=>exact⟨x,rfl,h⟩
theorem zj {x:ag}{vs:List AV}(h:CQ x=some vs):x=.list vs:=by
 cases x with
 |list=>replace h:=ae h;subst h;rfl
 |_=>exact nS h
theorem Hh {x:ag}{kvs:List (Int×AV)}(h:H6 x=some kvs):x=.dict kvs∨∃ep,x=.eV kvs ep:=by
 cases x with
 |dict=>replace h:=ae h;subst h;exact .inl rfl
 |eV=>replace h:=ae h;subst h;exact .inr ⟨_,rfl⟩
 |_=>exact nS h
theorem jb {a:AV}{kvs:List (Int×AV)}(h:iu H a=some kvs):DictAt z.c H a kvs:=by
 cases a with
 |iR=>replace h:=ae h;subst h;exact .inl rfl
 |obj n=>
  refine aq (dS h) fun x e q=>?_
  exact .inr ⟨n,rfl,(Hh q).imp (fun q=>e.trans (congrArg some q)) (by intro lE;obtain⟨ep,q⟩:=lE;exact⟨ep,e.trans (congrArg some q)⟩)⟩
 |_=>exact nS h
theorem gU {n:Nat}{vs:List AV}(h:listAt H n=some vs):H[n]?=some (.list vs):=by
 refine aq (dS h) fun x e q=>?_
 exact zj q▸e
theorem zV {α:Type}{o:Option α}{d:Prop}{P:α→Prop}{W:Prop}(h:gc o d P) (k:∀x,o=some x→P x→W) (k0:d→W):W:=by
 cases o with
 |none=>exact k0 h
 |some x=>exact k x rfl h
theorem hY {α:Type}{o:Option α}{d:Prop}{P:α→Prop}{x:α}(e:o=some x) (h:P x):gc o d P:=by rw[e];exact h
theorem optN {α:Type}{o:Option α}{d:Prop}{P:α→Prop}(e:o=none) (h:d):gc o d P:=by rw[e];exact h
theorem kU {n:Nat}{vs:List AV}(h:H[n]?=some (.list vs)):listAt H n=some vs:=congrArg (jn · CQ) h
theorem xa {n:Nat}{vs:List AV}(h:listAt H n=some vs):iu H (.obj n)=none:=by
 refine aq (dS h) fun x e q=>?_
 cases zj q
 exact congrArg (jn · H6) e
theorem cP {G:List ag}{vs:List AV}{n:Nat}(h:listAt H n=some vs):listAt (H++G) n=some vs:=by
 have e:=gU h
 exact kU ((aC (ao.mp e).1).trans e)
theorem Gz {n:Nat}{k:Int}{vs:List AV}{x:AV}(e:listAt H n=some vs) (h:0≤k∧k<2^63) (hx:vs[k.toNat]?=some x) (q:K x H):gc (iu H (.obj n)) (BB H (.obj n) k K) fun kvs=>∃x,kvs.lookup k=some x∧K x H:=
 optN (xa e) (hY e ⟨h,x,hx,q⟩)
theorem dT {α:Type}{o:Option α}{P:α→Prop}{W:Prop}(h:gc o False P) (k:∀x,o=some x→P x→W):W:=zV h k eu
theorem o8 {a:AV}{P:Int→Prop}{rH W:Prop}(h:vp a rH P) (h1:∀i,a=.int i→P i→W) (h2:rH→W):W:=by
 cases a with
 |int i=>exact h1 i rfl h
 |_=>exact h2 h
theorem jt {a b:AV}{rH W:Prop}{P:Int→Int→Prop}(h:tN a b rH P) (h1:∀i j,a=.int i→b=.int j→P i j→W) (h2:rH→W):W:=o8 h (fun i e h=>o8 h (fun j e' h=>h1 i j e e' h) h2) h2
theorem Gr {a b:AV}{rH W:Prop}{P:Bool→Prop}(h:U5 H a b rH P) (h1:∀k kvs,a=.int k→iu H b=some kvs→P (kvs.lookup k).isSome→W) (h2:rH→W):W:=by
 cases a with
 |int k=>
  exact zV (o:=iu H b) h (fun kvs e h=>h1 _ _ rfl e h) h2
 |_=>exact h2 h
theorem Pd {a b:AV}(h:vEq H a b KB (WO z.c z.d z.A z.env .Eq a b l H KB z.X)):WO z.c z.d z.A z.env .Eq a b l H KB z.X:=by
 cases a with
 |int i=>cases b with
  |int j=>exact WO.eqI (two.dec h)
  |_=>exact h
 |str x=>cases b with
  |str y=>exact WO.eqS h
  |_=>exact h
 |_=>exact h
theorem Pc {a b:AV}(h:vIs H a b (WO z.c z.d z.A z.env .Is a b l H KB z.X) KB):WO z.c z.d z.A z.env .Is a b l H KB z.X:=by
 cases b with
 |none=>
  refine bG (fM h) fun h1 h2=>?_
  refine WO.isNone h1 ?_
  cases a<;>exact h2
 |_=>exact h
theorem pP {op:mC}{a b:AV}(h:Ek z l H op a b KB):WO z.c z.d z.A z.env op a b l H KB z.X:=by
 cases op with
 |Lt=>exact jt h (fun i j e1 e2 h=>by subst e1 e2;exact WO.ltI h.dec) id
 |LtE=>exact jt h (fun i j e1 e2 h=>by subst e1 e2;exact WO.leI h.dec) id
 |Gt=>exact jt h (fun i j e1 e2 h=>by subst e1 e2;exact WO.gtI h.dec) id
 |GtE=>exact jt h (fun i j e1 e2 h=>by subst e1 e2;exact WO.geI h.dec) id
 |NotEq=>exact jt h (fun i j e1 e2 h=>by subst e1 e2;exact WO.neI h.dec) id
 |Eq=>exact Pd h
 |In=>exact Gr (show U5 H a b (WO z.c z.d z.A z.env .In a b l H KB z.X) (fun t=>KB t H) from h) (fun k kvs e1 e2 q=>by subst e1;exact WO.inD (jb e2) q) id
 |NotIn=>exact Gr (show U5 H a b (WO z.c z.d z.A z.env .NotIn a b l H KB z.X) (fun t=>KB (!t) H) from h) (fun k kvs e1 e2 q=>by subst e1;exact WO.Z6 (jb e2) q) id
 |Is=>exact Pc h
 |IsNot=>exact h
theorem LR {a b:AV}(h:Sm H a b K):WV z.c z.d z.A z.env (fun vs=>fb .Add (vs[0]?.getD .none) (vs[1]?.getD .none)) [a,b] l H K z.X:=by
 cases a with
 |int i=>cases b with
  |int j=>exact WV.YR h
  |_=>exact h.elim
 |obj n=>cases b with
  |obj m=>
   exact dT (o:=listAt H n) h fun vs e1 h=>dT (o:=listAt H m) h fun ws e2 h=>WV.aad (gU e1) (gU e2) h.1 h.2
  |_=>exact h.elim
 |tup vs=>cases b with
  |tup ws=>exact WV.XF h.1 h.2
  |_=>exact h.elim
 |str x=>cases b with
  |str y=>exact WV.YE h.1 h.2
  |_=>exact h.elim
 |_=>exact h.elim
theorem J6 {a b:AV}(h:TC H a b K):WV z.c z.d z.A z.env (fun vs=>fb .Mult (vs[0]?.getD .none) (vs[1]?.getD .none)) [a,b] l H K z.X:=by
 cases a with
 |int i=>cases b with
  |int j=>exact WV.ZT h.1 h.2
  |_=>exact h.elim
 |obj n=>cases b with
  |int k=>exact dT (o:=listAt H n) h fun vs e h=>WV.mulL (gU e) h.1.1.1 h.1.1.2 h.1.2 h.2
  |_=>exact h.elim
 |_=>exact h.elim
theorem Ll {op:Cj}{a b:AV}(h:R1 z l H op a b K):WV z.c z.d z.A z.env (fun vs=>fb op (vs[0]?.getD .none) (vs[1]?.getD .none)) [a,b] l H K z.X:=by
 cases op with
 |Add=>exact LR h
 |Sub=>exact jt h (fun i j e1 e2 h=>by subst e1 e2;exact WV.Yc h) eu
 |Mult=>exact J6 h
 |Mod=>exact jt h (fun i j e1 e2 h=>by subst e1 e2;exact WV.WL h.1 h.2) eu
 |FloorDiv=>exact jt h (fun i j e1 e2 h=>by subst e1 e2;exact WV.UM h.1.1 h.2 h.1.2) eu
 |RShift=>exact jt h (fun i j e1 e2 h=>by subst e1 e2;exact WV.W2 h.1 h.2) eu
 |_=>exact h
theorem uF {a:AV}(h:VU z l H a KB):yR z.c z.d z.A z.env a l H KB z.X:=by
 cases a with
 |bool b=>exact yR.bool h
 |none=>exact yR.none h
 |int i=>exact yR.int (two.dec h)
 |_=>exact h
theorem Ez {vs:List AV}{k:Int}(h:IW z l H (.tup vs) (.int k) K):WG z.c z.d z.A z.env (.tup vs) (.int k) l H K z.X:=by
 cases k with
 |ofNat k=>
  refine dT (o:=vs[k]?) h fun x e h=>?_
  refine bG (fM h) fun h1 h2=>?_
  exact WG.tup (fR k) (vm (aE h1) rfl) e h2
 |negSucc k=>exact h
theorem BZ {a:AV}{k:Int}(h:gc (iu H a) (BB H a k K) fun kvs=>∃x,kvs.lookup k=some x∧K x H):WG z.c z.d z.A z.env a (.int k) l H K z.X:=
 zV h (by intro kvs e mr;refine aq mr fun x h3 h4=>?_;clear mr;exact WG.dict (jb e) h3 h4) fun h=>by
  cases a with
  |obj n=>exact dT (o:=listAt H n) h (by intro vs e nT;refine bG nT fun gD ix=>?_;clear nT;refine bG gD fun h1 h2=>?_;refine aq ix fun x h3 h4=>?_;exact WG.list (gU e) h1 h2 h3 h4)
  |_=>exact h.elim
theorem F4 {a b:AV}(h:IW z l H a b K):WG z.c z.d z.A z.env a b l H K z.X:=by
 cases b with
 |int k=>cases a with
  |tup vs=>exact Ez h
  |d8 b=>exact WG.d8 h.1.1.1 h.1.1.2 h.1.2 h.2
  |str x=>exact h
  |_=>exact BZ h
 |_=>exact h
theorem OR {a:AV}{lo hi:Option Int}(h:vSl z l H a lo hi K):AM z.c z.d z.A z.env a lo hi l H K z.X:=by
 cases a with
 |d8 b=>exact AM.d8 h.1 h.2
 |obj n=>exact dT (o:=listAt H n) h fun vs e h=>AM.list (gU e) h.1 h.2
 |_=>exact h
theorem pZ {x y:String}{P R W:Prop}(h:bif x==y then P else R) (h1:x=y→P→W) (h2:R→W):W:=by
 cases e:x==y with
 |true=>rw[e] at h;exact h1 (eq_of_beq e) h
 |false=>rw[e] at h;exact h2 h
theorem Ee {a:AV}(h:gc (iu H a) (MS H a K) fun kvs=>kvs.length≤1000000∧K (.int kvs.length) H):WV z.c z.d z.A z.env (fun xs=>PySem.call (.builtin "len") xs) [a] l H K z.X:=
 zV h (fun kvs e h=>WV.WR (jb e) h.1 h.2) fun h=>by
  cases a with
  |obj n=>exact dT (o:=listAt H n) h fun vs e h=>WV.ZF (gU e) h.1 h.2
  |_=>exact h.elim
theorem KZ {a:AV}(h:Uo H a K):WV z.c z.d z.A z.env (fun xs=>PySem.call (.builtin "len") xs) [a] l H K z.X:=by
 cases a with
 |d8 b=>exact WV.YG h.1 h.2
 |tup vs=>exact WV.W0 h.1 h.2
 |str x=>exact WV.Yl h.1 h.2
 |_=>exact Ee h
theorem O0 {f:String}{a:AV}(h:vB1 H f a K (WV z.c z.d z.A z.env (fun xs=>PySem.call (.builtin f) xs) [a] l H K z.X)):WV z.c z.d z.A z.env (fun xs=>PySem.call (.builtin f) xs) [a] l H K z.X:=
 pZ h (fun e h=>e▸KZ h) fun h=>pZ h (fun e h=>e▸o8 (a:=a) h (fun i ea h=>ea▸WV.Z8 h) eu) fun h=>
 pZ h (by intro e pU;refine eD pU fun i j k ea h=>?_;clear pU;exact e▸ea▸WV.XS h) fun h=>pZ h (by intro e wa;refine aq wa fun u ea h=>?_;clear wa;exact e▸ea▸WV.ZU h) fun h=>
 pZ h (fun e h=>by
  subst e
  cases a with
  |d8 b=>exact WV.Ym h
  |_=>exact h) id
theorem JM {T:String}{a:AV}(h:S1 H a T K):WV z.c z.d z.A z.env (fun xs=>PySem.call (.builtin "isinstance") xs) [a,.fix (.type T)] l H K z.X:=by
 cases a with
 |d8 b=>refine bG (fM h) fun e q=>?_;cases eq_of_beq e;exact WV.N5 q
 |int i=>
  refine pZ h (fun e q=>by subst e;exact WV.N3 q) fun h=>?_
  refine bG (fM h) fun e q=>?_;cases eq_of_beq e;exact WV.Ph q
 |str x=>refine bG (fM h) fun e q=>?_;cases eq_of_beq e;exact WV.Oy q
 |tup vs=>refine bG (fM h) fun e q=>?_;cases eq_of_beq e;exact WV.PM q
 |_=>exact h.elim
theorem Bq {a b:AV}(h:Dl H a b K):WV z.c z.d z.A z.env (fun xs=>PySem.call (.builtin "list.append") xs) [a,b] l H K z.X:=by
 cases a with
 |obj n=>exact dT (o:=listAt H n) h fun vs e h=>WV.append (gU e) h.1 h.2
 |_=>exact h.elim
theorem Qm {f:String}{a b:AV}(h:vB2 H f a b K (WV z.c z.d z.A z.env (fun xs=>PySem.call (.builtin f) xs) [a,b] l H K z.X)):WV z.c z.d z.A z.env (fun xs=>PySem.call (.builtin f) xs) [a,b] l H K z.X:=
 pZ h (fun e h=>e▸Bq h) fun h=>pZ h (fun e h=>e▸jt h (fun i j e1 e2 h=>e1▸e2▸WV.Zx h) eu) fun h=>pZ h (fun e h=>e▸jt h (fun i j e1 e2 h=>e1▸e2▸WV.Z4 h) eu) fun h=>
 pZ h (fun e h=>by
  subst e
  cases b with
  |fix v=>cases v with
   |type T=>exact JM h
   |_=>exact h.elim
  |_=>exact h.elim) fun h=>
 pZ h (fun e h=>by
  subst e
  exact o8 h (fun k e h=>e▸dT h fun kvs e h=>WV.RE (jb e) h) eu) id
theorem LZ {a:AV}(h:T6 H a K):WV z.c z.d z.A z.env (fun xs=>PySem.call (.type "tuple") xs) [a] l H K z.X:=by
 cases a with
 |tup vs=>exact WV.W9 h
 |obj n=>exact dT (o:=listAt H n) h fun vs e h=>WV.ZV (gU e) h.1 h.2
 |_=>exact h.elim
theorem Gq {a:AV}(h:Mp H a K):WV z.c z.d z.A z.env (fun xs=>PySem.call (.type "list") xs) [a] l H K z.X:=by
 cases a with
 |tup vs=>exact WV.Sr h.1 h.2
 |d8 b=>exact WV.TT h.1 h.2
 |obj n=>exact dT (o:=listAt H n) h fun vs e h=>WV.RQ (gU e) h.1 h.2
 |_=>exact h.elim
theorem OP {T:String}{a:AV}(h:vT1 H T a K (WV z.c z.d z.A z.env (fun xs=>PySem.call (.type T) xs) [a] l H K z.X)):WV z.c z.d z.A z.env (fun xs=>PySem.call (.type T) xs) [a] l H K z.X:=
 pZ h (fun e h=>e▸o8 (a:=a) h (fun i ea h=>ea▸WV.Wn h) eu) fun h=>pZ h (fun e h=>e▸LZ h) fun h=>pZ h (fun e h=>e▸Gq h) fun h=>
 pZ h (fun e h=>e▸dT (o:=iu H a) h fun kvs e h=>WV.U1 (jb e) h.1 h.2) id
theorem zM {v:ai}{as:List AV}(h:I2 z l H v as K):WV z.c z.d z.A z.env (fun xs=>PySem.call v xs) as l H K z.X:=by
 cases v with
 |ref f=>exact WV.ofC h (aA _)
 |builtin f=>
  rcases as with _ | ⟨a,_ | ⟨b,_ | ⟨dv,_ | ⟨x,r⟩⟩⟩⟩
  ·exact h
  ·exact O0 h
  ·exact Qm h
  ·refine pZ h (fun e h=>?_) id
   subst e
   exact o8 h (fun k e h=>e▸dT h fun kvs e h=>WV.TG (jb e) h) eu
  ·exact h
 |type T=>
  rcases as with _ | ⟨a,_ | ⟨x,r⟩⟩
  ·exact h
  ·exact OP h
  ·exact h
 |_=>exact h.elim
theorem HV (ok:VOk z g){a:AV}{m:bu}{KM:ai→Prop}{l:Loc}{pl:rU Bool}(h:Ms H g a m KM):∃v,gX z.c v ∧
  (∀α s x,Inv z.c z.d z.A z.env l α H s→bO z.c s.heap α a x→∀P:ai×List ai→aH→Prop,∀E,P (v,[x]) s→bj z.c.M z.A (kh x m pl) P E s)∧KM v:=by
 have app:∀{n:Nat}{vs:List AV},H[n]?=some (.list vs)→∀m:bu,(bif m=="append" then KM (.builtin "list.append") else bif m=="pop" then KM (.builtin "list.pop") else False)→∃v,gX z.c v ∧
  (∀α s x,Inv z.c z.d z.A z.env l α H s→bO z.c s.heap α (.obj n) x→∀P:ai×List ai→aH→Prop,∀E,P (v,[x]) s→bj z.c.M z.A (kh x m pl) P E s)∧KM v:=fun{n vs} e m h=>by
  cases e1:m==("append":bu) with
  |true=>
   rw[e1] at h
   cases eq_of_beq e1
   exact⟨_,.inr (.inl ⟨_,rfl⟩),IM PySem.F.slot_list_append PySem.F.type_list_append e,h⟩
  |false=>
   rw[e1] at h
   cases e2:m==("pop":bu) with
   |true=>
    rw[cond_false,e2] at h
    cases eq_of_beq e2
    exact⟨_,.inr (.inl ⟨_,rfl⟩),IM PySem.F.slot_list_pop PySem.F.type_list_pop e,h⟩
   |false=>rw[cond_false,e2] at h;exact h.elim
 have get:∀{a:AV}{kvs:List (Int×AV)},DictAt z.c H a kvs→∀m:bu,(bif m=="get" then KM (.builtin "dict.get") else False)→∃v,gX z.c v ∧
  (∀α s x,Inv z.c z.d z.A z.env l α H s→bO z.c s.heap α a x→∀P:ai×List ai→aH→Prop,∀E,P (v,[x]) s→bj z.c.M z.A (kh x m pl) P E s)∧KM v:=fun{a kvs} D m h=>by
  cases e1:m==("get":bu) with
  |true=>
   rw[e1] at h
   cases eq_of_beq e1
   exact⟨_,.inr (.inl ⟨_,rfl⟩),H7 PySem.F.slot_dict_get PySem.F.type_dict_get D,h⟩
  |false=>rw[e1] at h;exact h.elim
 cases a with
 |obj n=>
   refine dT (o:=H[n]?) h fun x e h=>?_
   cases x with
   |inst C fs=>
    refine dT (o:=Kk g.mt C m) h fun f ef h=>?_
    have mo:=ok.mt ef
    cases e2:km fs m with
    |none=>rw[e2] at h;exact⟨_,.inl mo.keep,PV mo e (by rw[←rL];exact e2),h⟩
    |some v=>rw[e2] at h;exact h.elim
   |list vs=>exact app e m h
   |dict kvs=>exact get (.inr ⟨_,rfl,.inl e⟩) m h
   |eV kvs ep=>exact get (.inr ⟨_,rfl,.inr ⟨_,e⟩⟩) m h
 |iR kvs=>exact get (.inl rfl) m h
 |_=>exact h.elim
end
end
section
open PySem PySem.W PySem.Calls PyProof.Rows
set_option backward.match.sparseCases false
section
variable {c:Cx}{d:Nat}{A:aU}{env:dH}{l:Loc}{H:List ag}{X:List ag→Prop}
theorem WB.mono {e:Expr}{Q Q':Bool→List ag→Prop}(w:WB c d A env e l H Q X) (hq:∀a H,Q a H→Q' a H):WB c d A env e l H Q' X:=fun α s I=>
 au (w α s I) (by intro u' u' lE;obtain⟨bD,H',m,i,q⟩:=lE;exact⟨bD,H',m,i,hq _ _ q⟩) fun _ _ e=>e
theorem WA.mono {e:List Expr}{Q Q':List AV→List ag→Prop}(w:WA c d A env e l H Q X) (hq:∀a H,Q a H→Q' a H):WA c d A env e l H Q' X:=fun α s I=>
 au (w α s I) (by intro u' u' mr;obtain⟨a,bD,H',m,i,r,q⟩:=mr;exact⟨a,bD,H',m,i,r,hq _ _ q⟩) fun _ _ e=>e
theorem WE.mo {e:Expr}{Q Q':AV→List ag→Prop}(w:WE c d A env e l H Q X) (hq:∀a H,Q a H→Q' a H):WE c d A env e l H Q' X:=w.mono hq fun _ h=>h
theorem WO.mono {op:mC}{a b:AV}{Q Q':Bool→List ag→Prop}(w:WO c d A env op a b l H Q X) (hq:∀a H,Q a H→Q' a H):WO c d A env op a b l H Q' X:=fun α s v w' I r1 r2=>
 au (w α s v w' I r1 r2) (by intro u' u' nT;obtain⟨b,e,bD,H',m,i,q⟩:=nT;exact⟨b,e,bD,H',m,i,hq _ _ q⟩) fun _ _ e=>e
theorem yR.mono {a:AV}{Q Q':Bool→List ag→Prop}(w:yR c d A env a l H Q X) (hq:∀a H,Q a H→Q' a H):yR c d A env a l H Q' X:=fun α s v I r1=>
 au (w α s v I r1) (by intro u' u' pU;obtain⟨bD,H',m,i,q⟩:=pU;exact⟨bD,H',m,i,hq _ _ q⟩) fun _ _ e=>e
theorem zo {o:Expr}{x:bu}{M0:rU ai}(h:sI o=true):E3 o x env M0=M0:=by
 cases o<;>first | exact fT h | rfl
end
theorem Ir {env:dH}{pos:ij}{es:List Expr}(h2:noStar es=true) (h3:ik es.length 30=true):methodCallForm (es.length+0) (mA pos (dR es env)) (Cm pos (sQ [] env))=true:=by
 rw[oU (jX h2)]
 unfold methodCallForm
 have:=aE h3
 have e:(es.map fun e=>(false,gr e env)).all (fun x=>!x.1)=true:=by
  rw[AS]
  exact ba.mpr fun x _=>rfl
 rw[e]
 exact decide_eq_true (p:=es.length+0+0<30)<|by exact aW [_] [] [.L (.a aB bP) (.l 30)] (.T aB (.l 30)) cI rfl this
theorem yZ {env:dH}{o:Expr}{m:bu}{pd pos:ij}{es:List Expr}(h:sI o=true) (h2:noStar es=true) (h3:ik es.length 30=true) (h4:(pd.endLine==pos.line)=true):gr (.Call (.Attribute o m pd) es [] pos) env=(do
   let ov ←gr o env
   qV pd.atName
   let(f,first) ←lG [ov] (kh ov m (do return (←importBound o env).getD true))
   lS pos f first (mA pos (dR es env)) (Cm pos (sQ [] env))):=by
 show(do
   let ov ←E3 o m env (gr o env)
   qV pd.atName
   methodCall o m pd pos env ov (es.length+([]:List AX).length) (mA pos (dR es env)) (Cm pos (sQ [] env)))=_
 rw[zo h]
 unfold methodCall
 rw[show es.length+([]:List AX).length=es.length+0 from rfl,Ir h2 h3]
 have e:methodCallPos true o env pd pos=pure pos:=by unfold methodCallPos;rw[h4];rfl
 rw[e]
 rfl
section
variable {z:VZ}{g:Sx}{env:dH}{names:List (bu×bc)}
structure Vs (z:VZ) (E:ET) (A:AT) (P:PT) (B:M3):Prop where
 E:∀{e:Expr}{l:Loc}{H:List ag}{K:AV→List ag→Prop},E e l H K→WE z.c z.d z.A z.env e l H K z.X
 A:∀{e:List Expr}{l:Loc}{H:List ag}{K:List AV→List ag→Prop},A e l H K→WA z.c z.d z.A z.env e l H K z.X
 P:∀{e:Option Expr}{l:Loc}{H:List ag}{K:Option Int→List ag→Prop},P e l H K→WP z.c z.d z.A z.env e l H K z.X
 B:∀{e:Expr}{l:Loc}{H:List ag}{K:Bool→List ag→Prop},B e l H K→WB z.c z.d z.A z.env e l H K z.X
theorem FW (F:NmEnv env names){i:Nat}{x:bu}{k:bc}(h:names[i]?=some (x,k)):(x==("__debug__":bu))=false:=F.Hx (x,k) (a9 h)
variable {E:ET}{A:AT}{P:PT}{B:M3}{l:Loc}{H:List ag}{K:AV→List ag→Prop}{KB:Bool→List ag→Prop}{pos:ij}
theorem My {i:Nat}{P:AV→Prop}{W:Prop}(h:Oq l i P) (k:∀v,l[i]?=some (some v)→P v→W):W:=dT h fun o e h=>dT h fun v e2 h=>k v (e2▸e) h
theorem He (ok:VOk z g){x:bu}(h:Nh g l H K x):WE z.c z.d z.A z.env (.Name x pos) l H K z.X:=dT h fun p e h=>by
 obtain⟨i,k⟩:=p
 have e1:=oQ e
 have Hx:=FW ok.F e1
 rw[←ok.F.nm] at e1
 cases k with
 |«local»=>exact My h fun v e2 h=>WE.loc i e1 e2 Hx h
 |cell=>exact My h fun v e2 h=>WE.cell i e1 e2 Hx h
 |globalImplicit=>
  refine dT (o:=km g.gt x) h fun a e2 h=>?_
  rcases ok.gt e2 with⟨v,q1,q2⟩ | ⟨v,rfl,q1,q2,q3⟩
  ·exact WE.glob i e1 q1 Hx q2 h
  ·exact WE.Mh i e1 q1 q2 q3 Hx h
 |_=>exact h.elim
theorem EJ {c:Rw}{k:Nat}(h:FV H K c):WE z.c z.d z.A z.env (.Constant c k pos) l H K z.X:=by
 cases c with
 |int i=>exact WE.YU h
 |str s=>exact WE.WN h
 |none=>exact WE.Tl h
 |bool b=>exact WE.RS h
 |_=>exact h.elim
theorem Gy {ks:List (Option Expr)}{vs:List Expr}(h:Mk H K ks vs):WE z.c z.d z.A z.env (.Dict ks vs pos) l H K z.X:=by
 cases ks with
 |cons=>exact h.elim
 |nil=>cases vs with
  |nil=>exact WE.Uw h
  |cons=>exact h.elim
theorem Qf (v:Vs z E A P B){op:UnaryOp}{e:Expr}(h:sUn z E l H K op e):WE z.c z.d z.A z.env (.UnaryOp op e pos) l H K z.X:=by
 cases op with
 |USub=>exact WE.neg ((v.E h).mo fun a H1 h=>o8 h (fun i e h=>⟨i,e,h⟩) eu)
 |Not=>exact WE.not ((v.E h).mo fun a H1 h=>uF h)
 |_=>exact h.elim
theorem IS (v:Vs z E A P B){op:BoolOp}{es:List Expr}(h:Mr z E l H K op es pos):WE z.c z.d z.A z.env (.BoolOp op es pos) l H K z.X:=by
 rcases es with _ | ⟨e,_ | ⟨e2,es⟩⟩
 ·exact h.elim
 ·exact WE.one (v.E h)
 ·cases op with
  |And=>exact WE.and ((v.E h).mo fun a H1 h=>(uF h).mono fun t H2 h=>by cases t with | true=>exact v.E h | false=>exact h)
  |Or=>exact WE.or ((v.E h).mo fun a H1 h=>(uF h).mono fun t H2 h=>by cases t with | true=>exact h | false=>exact v.E h)
theorem vl {KB:Bool→List ag→Prop}{W:List mC→List Expr→Prop}{a:Expr}{qY:List mC}{bs:List Expr}(h:HB z E l H KB a qY bs)
  (h1:∀op b,lH op b=false→(E a l H fun x H1=>E b l H1 fun y H2=>Ek z l H2 op x y KB)→W [op] [b])
  (h2:∀op b tc b',lH tc b'=false→(E a l H fun x H1=>E b l H1 fun y H2=>Ek z l H2 op x y fun t H3=>match t with
      |true=>E b' l H3 fun w H4=>Ek z l H4 tc y w KB
      |false=>KB false H3)→W [op,tc] [b,b']):W qY bs:=by
 rcases qY with _ | ⟨op,qY⟩
 ·exact h.elim
 rcases bs with _ | ⟨b,bs⟩
 ·exact h.elim
 rcases qY with _ | ⟨tc,qY⟩
 ·rcases bs with _ | ⟨b',bs⟩
  ·refine bG (GH h) fun hm h=>?_;exact h1 op b hm h
  ·exact h.elim
 rcases qY with _ | ⟨Ac,qY⟩
 ·rcases bs with _ | ⟨b',_ | ⟨b2,bs⟩⟩
  ·exact h.elim
  ·refine bG (GH h) fun hm h=>?_;exact h2 op b tc b' hm h
  ·exact h.elim
 ·exact h.elim
theorem Lr (v:Vs z E A P B){a:Expr}{qY:List mC}{bs:List Expr}(h:HB z E l H (fun t H=>K (.bool t) H) a qY bs):WE z.c z.d z.A z.env (.Compare a qY bs pos) l H K z.X:=
 vl (W:=fun qY bs=>WE z.c z.d z.A z.env (.Compare a qY bs pos) l H K z.X) h (fun op b hm h=>WE.cmp ((v.E h).mo fun x H1 h=>(v.E h).mo fun y H2 h=>pP h) hm)
  fun op b tc b' hm h=>WE.NN ((v.E h).mo fun x H1 h=>(v.E h).mo fun y H2 h=>(pP h).mono fun t H3 h=>by cases t with | true=>exact(v.E h).mo fun w H4 h=>pP h | false=>exact h) hm
theorem J3 (v:Vs z E A P B){a:Expr}{qY:List mC}{bs:List Expr}(h:HB z E l H KB a qY bs):WB z.c z.d z.A z.env (.Compare a qY bs pos) l H KB z.X:=
 vl (W:=fun qY bs=>WB z.c z.d z.A z.env (.Compare a qY bs pos) l H KB z.X) h (fun op b hm h=>WB.cmp ((v.E h).mo fun x H1 h=>(v.E h).mo fun y H2 h=>pP h) hm)
  fun op b tc b' hm h=>WB.NN ((v.E h).mo fun x H1 h=>(v.E h).mo fun y H2 h=>(pP h).mono fun t H3 h=>by cases t with | true=>exact(v.E h).mo fun w H4 h=>pP h | false=>exact h) hm
theorem K7 (ok:VOk z g){e:Expr}{x:bu}(hp:sI e=true) (w:WE z.c z.d z.A z.env e l H (fun a H1=>UN g H1 K x a) z.X):WE z.c z.d z.A z.env (.Attribute e x pos) l H K z.X:=by
 refine WE.attr (w.mo fun a H1 h=>?_) (show(do
   let o ←E3 e x z.env (gr e z.env)
   qV pos.atName
   let r ←lG [o] (getAttr o x true)
   letTemporaryGo e o r
   pure r)=_ by rw[zo hp])
 cases a with
 |obj i=>
   refine dT (o:=H1[i]?) h fun y e1 h=>?_
   cases y with
   |inst C fs=>
    refine dT (o:=km fs x) h fun v e2 h=>?_
    refine bG (fM h) fun hb h=>?_
    refine bG (aR.mp hb) fun b1 b2=>?_
    exact⟨_,_,_,v,rfl,e1,by rw[←rL];exact e2,(ok.ft b1).1,b2,h⟩
   |_=>exact h.elim
 |_=>exact h.elim
theorem Ip (v:Vs z E A P B){e:Option Expr}{l:Loc}{H:List ag}{k:Option Int→List ag→Prop}{k':Option Int→List ag→Prop}(h:P e l H k) (hk:∀i H,k i H→k' i H):WP z.c z.d z.A z.env e l H k' z.X:=by
 have w:=v.P h
 cases e with
 |none=>exact hk _ _ w
 |some e=>exact WE.mo w (by intro x H wa;refine aq wa fun i e q=>?_;clear wa;exact⟨i,e,hk _ _ q⟩)
theorem B3 {i:Expr}{s:Option Expr×Option Expr×Option Expr}(h:xP i=some s):∃p,i=.Slice s.1 s.2.1 s.2.2 p:=by
 cases i with
 |Slice=>replace h:=ae h;subst h;exact⟨_,rfl⟩
 |_=>exact nS h
theorem Lw (v:Vs z E A P B){e i:Expr}(h:NR z E P l H K e i pos):WE z.c z.d z.A z.env (.Subscript e i pos) l H K z.X:=by
 cases hs:xP i with
 |some s=>
  obtain⟨e1,e2,st⟩:=s
  refine al (B3 hs) fun p jS=>?_
  subst jS
  cases st with
  |none=>exact WE.slice ((v.E h).mo fun a H1 h=>Ip v h fun lo H2 h=>Ip v h fun hi H3 h=>OR h)
  |some x=>exact h
 |none=>
  unfold NR at h
  rw[hs] at h
  refine WE.sub ((v.E h).mo fun a H1 h=>(v.E h).mo fun b H2 h=>F4 h) fun o x=>?_
  cases i with
  |Slice=>exact nS hs.symm
  |_=>rfl
theorem Ga (ok:VOk z g){f:bu}{R:ai→Prop}{Q:AV→List ag→Prop}(h:ZJ g f R) (hq:∀v,gX z.c v→R v→Q (.fix v) H):WE z.c z.d z.A z.env (.Name f pos) l H Q z.X:=dT h fun p e h=>by
 obtain⟨i,k⟩:=p
 have e1:=oQ e
 have Hx:=FW ok.F e1
 rw[←ok.F.nm] at e1
 cases k with
 |globalImplicit=>
   refine dT (o:=km g.gt f) h fun a e2 h=>?_
   cases a with
   |fix v=>
    have q:=hq v (ok.kp e2) h
    rcases ok.gt e2 with⟨v',q1,q2⟩ | ⟨v',q0,q1,q2,q3⟩
    ·exact WE.glob i e1 q1 Hx q2 q
    ·cases q0
     exact WE.Mh i e1 q1 q2 q3 Hx q
   |_=>exact h.elim
 |_=>exact h.elim
theorem HJ (ok:VOk z g) (v:Vs z E A P B){f:Expr}{es:List Expr}{ks:List AX}(h:MJ z g E A l H K f es ks pos):WE z.c z.d z.A z.env (.Call f es ks pos) l H K z.X:=by
 cases ks with
 |cons=>exact h.elim
 |nil=>cases f with
  |Attribute o m ap=>
   refine bG (fM h) fun hb h=>?_
   refine bG (aR.mp hb) fun b1 b2=>?_
   refine bG (aR.mp b1) fun b3 b4=>?_
   refine bG (aR.mp b2) fun b5 b6=>?_
   refine WE.YQ (yZ b3 b4 b5 b6) (jX b4) ((v.E h).mo fun a H1 h=>?_)
   obtain⟨v',k1,k2,k3⟩:=HV ok h
   exact⟨v',k1,k2,(v.A k3).mono fun as H2 h=>zM h⟩
  |Name f p=>
   refine bG (fM h) fun hb h=>?_
   exact WE.call (Ga ok h fun w k h=>⟨w,rfl,k,(v.A h).mono fun as H2 h=>zM h⟩) rfl (jX hb)
  |_=>exact h.elim
theorem OC (v:Vs z E A P B){op:UnaryOp}{e:Expr}(h:tUn B l H KB op e):WB z.c z.d z.A z.env (.UnaryOp op e pos) l H KB z.X:=by
 cases op with
 |Not=>exact WB.not (v.B h)
 |_=>exact h.elim
theorem Gw (v:Vs z E A P B){op:BoolOp}{es:List Expr}(h:Mj B l H KB op es pos):WB z.c z.d z.A z.env (.BoolOp op es pos) l H KB z.X:=by
 cases op with
 |And=>cases es with
  |nil=>exact WB.W6 h
  |cons e es=>exact WB.and ((v.B h).mono fun t H1 h=>by cases t with | true=>exact v.B h | false=>exact h)
 |Or=>cases es with
  |nil=>exact WB.orN h
  |cons e es=>exact WB.or ((v.B h).mono fun t H1 h=>by cases t with | true=>exact h | false=>exact v.B h)
theorem nV (ok:VOk z g):∀n,Vs z (vE z g n) (vA z g n) (vP z g n) (vB z g n)
 |0=>⟨fun h=>h,fun h=>h.elim,fun h=>h.elim,fun h=>h⟩
 |n+1=>by
  have v:=nV ok n
  refine⟨fun{e l H K} h=>?_,fun{es l H K} h=>?_,fun{e l H K} h=>?_,fun{e l H K} h=>?_⟩
  ·cases e with
   |Name x p=>exact He ok h
   |Constant c k p=>exact EJ h
   |Tuple es k p=>
    refine bG (fM h) fun hb h=>?_
    exact WE.tup (jX hb) ((v.A h).mono fun as H1 h=>⟨aE (fM h).1,(fM h).2⟩)
   |List es p=>
    refine bG (fM h) fun hb h=>?_
    exact WE.list (jX hb) ((v.A h).mono fun as H1 h=>⟨aE (fM h).1,(fM h).2⟩)
   |Dict ks vs p=>exact Gy h
   |BinOp a op b p=>exact WE.bin ((v.E h).mo fun x H1 h=>(v.E h).mo fun y H2 h=>Ll h)
   |UnaryOp op e p=>exact Qf v h
   |BoolOp op es p=>exact IS v h
   |IfExp t a b p=>
    refine WE.ite ((v.B h).mono fun t H1 h=>?_)
    cases t with
    |true=>exact v.E h
    |false=>exact v.E h
   |Compare a qY bs p=>exact Lr v h
   |Attribute e x p=>
    refine bG (fM h) fun hb h=>?_
    exact K7 ok hb (v.E h)
   |Subscript e i p=>exact Lw v h
   |Call f es ks p=>exact HJ ok v h
   |_=>exact h
  ·cases es with
   |nil=>exact WA.nil h
   |cons e es=>exact WA.cons ((v.E h).mo fun a H1 h=>v.A h)
  ·cases e with
   |none=>exact h
   |some e=>
    refine(v.E h).mo fun a H1 h=>?_
    cases a with
    |int i=>exact⟨i,rfl,h⟩
    |_=>exact h.elim
  ·cases e with
   |Compare a qY bs p=>exact J3 v h
   |UnaryOp op e p=>exact OC v h
   |BoolOp op es p=>exact Gw v h
   |Name x p=>exact WB.plain ((v.E h).mo fun a H1 h=>uF h) rfl
   |Call f es ks p=>exact WB.plain ((v.E h).mo fun a H1 h=>uF h) rfl
   |_=>exact h
end
end
section
open PySem PySem.W PySem.Calls PyProof.Rows
set_option backward.match.sparseCases false
noncomputable def nw:Expr→Bool
 |.ListComp ..=>false
 |.SetComp ..=>false
 |.DictComp ..=>false
 |_=>true
noncomputable def qC:Expr→Bool
 |.Set ..=>false
 |_=>true
noncomputable def TX:Expr→Bool
 |.Name ..=>true
 |.Tuple ..=>true
 |_=>false
noncomputable def pureOf {β:Type}:rU β→Option β
 |.pure a=>some a
 |_=>none
noncomputable def DZ (names:List (bu×bc)):dH:={ scope:={ kind:=.function,names:=names,isGenerator:=false,isCoroutine:=false },locals:=0,globals:=0,cells:=[],code:=.none,frame:=none }
noncomputable abbrev QT:=AF→Loc→List ag→Prop
noncomputable abbrev UT:=Loc→List ag→Prop
section
variable (z:VZ) (g:Sx) (E:ET) (A:AT) (B:M3) (l:Loc) (H:List ag) (QU:UT)
noncomputable def uE (x:bu) (a:AV):Prop:=gc (oP g.names x 0) False fun p=>match p.2 with
  |.local=>bif ik p.1 l.length then QU (l.set p.1 (some a)) H else False
  |.cell=>bif ik p.1 l.length then QU (l.set p.1 (some a)) H else False
  |_=>False
noncomputable def Na (x:bu) (b a:AV):Prop:=match b with
 |.obj n=>gc H[n]? False fun y=>G2 y fun C fs=>bif J7 g.ft C x&&cv fs.length 100 then QU l (H.set n (.inst C (xx x a fs))) else False
 |_=>False
noncomputable def TS (y:ag) (n:Nat) (k:Int) (a:AV):Prop:=match y with
 |.list vs=>((0≤k∧k<vs.length)∧vs.length≤1000000)∧QU l (H.set n (.list (vs.set k.toNat a)))
 |.dict kvs=>kvs.length≤1000000∧QU l (H.set n (.dict (mu k a kvs)))
 |_=>False
noncomputable def Mw (b k a:AV):Prop:=vp k False fun k=>match b with
  |.obj n=>gc H[n]? False fun y=>TS l H QU y n k a
  |_=>False
end
section
variable (g:Sx) (E:ET) (l:Loc) (Q:QT) (QU:UT)
noncomputable def CX:UT:=fun l1 H1=>Q .next l1 H1
noncomputable def kSt (x:bu) (a:AV) (H:List ag):Prop:=uE g l H QU x a
noncomputable def MN (x:bu) (a b:AV) (H:List ag):Prop:=Na g l H QU x b a
noncomputable def Ub (o:Expr) (x:bu) (a:AV) (H:List ag):Prop:=E o l H (MN g l QU x a)
noncomputable def TP (a b k:AV) (H:List ag):Prop:=Mw l H QU b k a
noncomputable def MW (i:Expr) (a b:AV) (H:List ag):Prop:=E i l H (TP l QU a b)
noncomputable def TO (o i:Expr) (a:AV) (H:List ag):Prop:=E o l H (MW E l QU i a)
noncomputable def Vh (a:AV) (H:List ag):Prop:=match a with
 |.none=>Q .next l H
 |_=>False
noncomputable def Zj (a:AV) (H:List ag):Prop:=Q (.ret a) l H
noncomputable def Iu (S:Loc→List ag→QT→Prop):QT:=fun f l1 H1=>match f with
 |.next=>S l1 H1 Q
 |f=>Q f l1 H1
noncomputable def kBr (S:List eF→Loc→List ag→QT→Prop) (b1 b2:List eF) (b:Bool) (H:List ag):Prop:=match b with
 |true=>S b1 l H Q
 |false=>S b2 l H Q
end
noncomputable def Ys (T:Expr→AV→Loc→List ag→UT→Prop):List Expr→List AV→Loc→List ag→UT→Prop
 |[],as,l,H,QU=>match as with
  |[]=>QU l H
  |_=>False
 |t::es,as,l,H,QU=>match as with
  |a::as=>T t a l H fun l1 H1=>Ys T es as l1 H1 QU
  |[]=>False
noncomputable def vTT (T:List AV→Prop) (es:List Expr) (a:AV):Prop:=match a with
 |.tup vs=>bif noStar es&&tQ es.length vs.length then T vs else False
 |_=>False
noncomputable def vT (g:Sx) (E:ET):Nat→Expr→AV→Loc→List ag→UT→Prop
 |0,t,a,l,H,QU=>False
 |n+1,t,a,l,H,QU=>match t with
  |.Name x _=>uE g l H QU x a
  |.Attribute o x _=>E o l H (MN g l QU x a)
  |.Subscript o i _=>E o l H (MW E l QU i a)
  |.Tuple es _ _=>vTT (fun vs=>Ys (vT g E n) es vs l H QU) es a
  |_=>False
noncomputable def VW (g:Sx):List bu→List AV→Loc→List ag→UT→Prop
 |[],as,l,H,QU=>match as with
  |[]=>QU l H
  |_=>False
 |x::xs,as,l,H,QU=>match as with
  |a::as=>uE g l H (fun l1 H1=>VW g xs as l1 H1 QU) x a
  |[]=>False
section
variable (z:VZ) (g:Sx) (E:ET) (A:AT) (B:M3) (l:Loc) (H:List ag)
noncomputable def Nn (n:Nat) (t e:Expr) (QU:UT):Prop:=gc (pureOf (jO [t] e (DZ g.names))) False fun o=>match o with
 |none=>E e l H fun a H1=>vT g E n t a l H1 QU
 |some names=>E e l H fun a H1=>match a with
  |.tup vs=>bif tQ names.length vs.length then VW g names.reverse vs.reverse l H1 QU else False
  |_=>False
noncomputable def Nk (m n:Nat) (t e:Expr) (p:ij) (Q:QT):Prop:=match t with
   |.Name x np=>E e l H (kSt g l (CX Q) x)
   |.Attribute o x _=>E e l H (Ub g E l (CX Q) o x)
   |.Subscript o i _=>E e l H (TO E l (CX Q) o i)
   |.Tuple es k tp=>Nn g E l H n (.Tuple es k tp) e (CX Q)
   |_=>False
noncomputable def T4 (m n:Nat) (ts:List Expr) (e:Expr) (p:ij) (Q:QT):Prop:=match ts with
 |[]=>False
 |t::ts=>match ts with
  |[]=>bif nw e then Nk g E l H m n t e p Q else VX z.c z.d m z.A z.env (.Assign [t] e p) l H Q z.X
  |_=>False
noncomputable def CU (m:Nat) (e:Expr) (p:ij) (Q:QT):Prop:=bif nw e then E e l H (Vh l Q) else VX z.c z.d m z.A z.env (.Expr e p) l H Q z.X
noncomputable def SY (e:Option Expr) (Q:QT):Prop:=match e with
 |none=>Q (.ret .none) l H
 |some e=>E e l H (Zj l Q)
noncomputable def FX:Rw→Bool
 |.str _=>true
 |_=>false
noncomputable def constOf:Expr→Option Rw
 |.Constant c _ _=>some c
 |_=>none
noncomputable def BF:Expr→Option bu
 |.Name x _=>some x
 |_=>none
noncomputable def By:Expr→Option (Expr×List Expr×List AX)
 |.Call f es ks _=>some (f,es,ks)
 |_=>none
noncomputable def Vg {α:Type}:List α→Option α
 |[]=>none
 |a::r=>match r with
  |[]=>some a
  |_=>none
noncomputable def CF (e:Expr):Option bu:=jn (By e) fun c=>jn (BF c.1) fun x=>jn (Vg c.2.1) fun a=>jn (constOf a) fun k=>match c.2.2 with
 |[]=>bif FX k then some x else none
 |_=>none
noncomputable def HF (e:Option Expr) (c:Option Expr):Prop:=match c with
 |some _=>False
 |none=>gc e False fun e=>gc (CF e) False fun x=>bif x=="BadDevice" then gc (oP g.names x 0) False (fun p=>match p.2 with
  |.globalImplicit=>1≤z.d∧z.X H
  |_=>False) else False
noncomputable abbrev RT:=List AV→(List ag→Prop)→List ag→Prop
noncomputable def Gu (as:List AV) (R:RT):Prop:=match as with
 |[]=>False
 |a::r=>vp a False fun a=>match r with
  |[]=>(-(2^62)≤a∧a<2^62)∧R (fH 0 a 1) (fun _=>True) H
  |b::r=>vp b False fun b=>match r with
   |[]=>((-(2^62)≤a∧a<2^62)∧-(2^62)≤b∧b<2^62)∧R (fH a b 1) (fun _=>True) H
   |st::r=>vp st False fun st=>match r with
    |[]=>((st=1∨st = -1)∧(-(2^62)≤a∧a<2^62)∧-(2^62)≤b∧b<2^62)∧R (fH a b st) (fun _=>True) H
    |_=>False
noncomputable def Su (k:Nat) (a:AV) (R:RT):Prop:=match a with
 |.d8 b=>R (b.map fun x=>.int x.toNat) (fun _=>True) H
 |.str x=>R (x.cps.toList.map fun u=>.str ⟨#[u]⟩) (fun _=>True) H
 |.tup vs=>mT k vs=true∧R vs (fun _=>True) H
 |.obj n=>gc H[n]? False fun y=>match y with
  |.list vs=>bif ik n k then R vs (fun H=>H[n]?=some (.list vs)) H else False
  |.eV kvs ep=>bif ik n k then R (kvs.map fun kv=>.int kv.1) (fun H=>H[n]?=some (.eV kvs ep)) H else False
  |_=>False
 |_=>False
noncomputable def sC (e:Expr):Option (bu×List Expr):=jn (By e) fun c=>jn (BF c.1) fun x=>match c.2.2 with
 |[]=>bif x=="range"&&noStar c.2.1 then some (x,c.2.1) else none
 |_=>none
noncomputable def vh (k:Nat) (e:Expr) (R:RT):Prop:=gc (sC e) (E e l H fun a H1=>Su H1 k a R) fun p=>ZJ g p.1 fun v=>v=.type "range"∧A p.2 l H fun as H1=>Gu H1 as R
end
mutual
noncomputable def vX (z:VZ) (g:Sx):Nat→Nat→eF→Loc→List ag→QT→Prop
 |0,m,st,l,H,Q=>VX z.c z.d m z.A z.env st l H Q z.X
 |n+1,m,st,l,H,Q=>match st with
  |.Assign ts e p=>T4 z g (vE z g n) l H m n ts e p Q
  |.Expr e p=>CU z (vE z g n) l H m e p Q
  |.Return e _=>SY (vE z g n) l H e Q
  |.Raise e c _=>HF z g H e c
  |.Continue _=>Q .cont l H
  |.If t b1 b2 _=>vB z g n t l H (kBr l Q (vS z g n m) b1 b2)
  |.While t body os _=>match os with
   |[]=>∃(J:Nat→Loc→List ag→Prop) (n0:Nat),J n0 l H∧∀i l1 H1,J i l1 H1→vB z g n t l1 H1 fun b H2=>match b with
    |true=>vS z g n m body l1 H2 (dU m (zP (fun l2 H2=>∃j,j<i∧J j l2 H2) Q))
    |false=>Q .next l1 H2
   |_=>False
  |.For t it body os _=>match os with
   |[]=>bif TX t&&qC it then ∃k,m≤k∧vh g (vE z g n) (vA z g n) l H k it fun xs gC H1=>∃J:Nat→Loc→List ag→Prop,J 0 l H1∧(∀i l2 H2,i≤xs.length→J i l2 H2→gC H2) ∧
     (∀i x l2 H2,xs[i]?=some x→J i l2 H2→vT g (vE z g n) n t x l2 H2 fun l3 H3=>vS z g n k body l3 H3 (dU k (zP (J (i+1)) Q)))∧∀l2 H2,J xs.length l2 H2→Q .next l2 H2 else False
   |_=>False
  |st=>VX z.c z.d m z.A z.env st l H Q z.X
noncomputable def vS (z:VZ) (g:Sx):Nat→Nat→List eF→Loc→List ag→QT→Prop
 |0,m,ss,l,H,Q=>VS z.c z.d m z.A z.env ss l H Q z.X
 |n+1,m,ss,l,H,Q=>match ss with
  |[]=>Q .next l H
  |st::r=>match r with
   |[]=>vX z g n m st l H Q
   |r=>vX z g n m st l H (Iu Q (vS z g n m r))
end
end
section
open PySem PySem.W PySem.Calls PyProof.Rows
set_option backward.match.sparseCases false
theorem yu {env:dH}{r:List Expr}{e:Expr}(h:sJ e=false):qW (e::r) env=(false,iL e env)::qW r env:=by
 cases e with
 |Starred=>exact fT h.symm
 |_=>rfl
theorem BY {env:dH}{es:List Expr}:noStar es=true→qW es env=es.map fun e=>(false,iL e env):=by
 induction es with
 |nil=>exact fun _=>rfl
 |cons e r ih=>exact fun h=>(yu (l7 h).1).trans (congrArg _ (ih (l7 h).2))
theorem sA {e:Expr}{t:Option Expr}{ln:Nat}{env:dH}(h:nw e=true):lD e t ln env=pure false:=by
 cases e<;>first | exact fT h | rfl
theorem DV {β:Type}{x:rU β}{a:β}(h:pureOf x=some a):x=pure a:=by
 cases x with
 |pure=>replace h:=ae h;subst h;rfl
 |_=>exact nS h
theorem Tc {env:dH}{names:List (bu×bc)}{ts:List Expr}{v:Expr}(F:iA env names):jO ts v env=jO ts v (DZ names):=by
 have e1:env.blockKind=(DZ names).blockKind:=by unfold dH.blockKind;rw[F.kind];rfl
 have e2:∀id,env.kindOf id=(DZ names).kindOf id:=fun id=>by unfold yJ;rw[F.nm];rfl
 have e3:env.kindOf=(DZ names).kindOf:=funext e2
 delta jO
 rw[e1,e3]
section
variable {z:VZ}{g:Sx}{E:ET}{A:AT}{P:PT}{B:M3}{l:Loc}{H:List ag}{K:AV→List ag→Prop}{KB:Bool→List ag→Prop}{pos:ij}{QU:UT}{Q:QT}{m:Nat}
theorem su (ok:nZ z g){x:bu}{a:AV}(h:uE g l H QU x a):WU z.c z.d z.A z.env (fun vs=>p9 z.env x (vs[0]?.getD .none)) [a] l H QU z.X:=dT h fun p e h=>by
 obtain⟨i,k⟩:=p
 have e1:=oQ e
 rw[←ok.F.nm] at e1
 cases k with
 |«local»=>exact WU.stLoc i e1 (aE (fM h).1) (fM h).2
 |cell=>exact WU.P0 ok.Fe.fr i e1 (aE (fM h).1) (fM h).2
 |_=>exact h.elim
theorem Qp {x:ag}{P:aD→List (bu×AV)→Prop}{W:Prop}(h:G2 x P) (k:∀C fs,x=.inst C fs→P C fs→W):W:=by
 cases x with
 |inst C fs=>exact k C fs rfl h
 |_=>exact h.elim
theorem zG (ok:nZ z g){x:bu}{b a:AV}(h:Na g l H QU x b a):WU z.c z.d z.A z.env (fun vs=>PySem.setAttr (vs[0]?.getD .none) x (vs[1]?.getD .none)) [b,a] l H QU z.X:=by
 cases b with
 |obj n=>
  refine dT (o:=H[n]?) h fun y e h=>Qp h fun C fs ey h=>?_
  subst ey
  obtain⟨hb,h⟩:=fM h
  obtain⟨b1,b2⟩:=aR.mp hb
  exact WU.setAttr e (ok.ft b1).2 (aE b2) h
 |_=>exact h.elim
theorem Ak {b k a:AV}(h:Mw l H QU b k a):WU z.c z.d z.A z.env (fun xs=>setItem (xs[0]?.getD .none) (xs[1]?.getD .none) (xs[2]?.getD .none)) [b,k,a] l H QU z.X:=o8 h (fun k ek h=>by
 subst ek
 cases b with
 |obj n=>
  refine dT (o:=H[n]?) h fun y e h=>?_
  cases y with
  |list vs=>exact WU.Ku e h.1.1.1 h.1.1.2 h.1.2 h.2
  |dict kvs=>exact WU.LK e h.1 h.2
  |_=>exact h.elim
 |_=>exact h.elim) eu
theorem WU.mono {t:List ai→rU Unit}{as:List AV}{QU':UT}(w:WU z.c z.d z.A z.env t as l H QU z.X) (hq:∀l H,QU l H→QU' l H):WU z.c z.d z.A z.env t as l H QU' z.X:=fun α s vs I r=>
 au (w α s vs I r) (by rintro u' u' ⟨l',bD,H',m,i,q⟩;exact⟨l',bD,H',m,i,hq _ _ q⟩) fun _ _ e=>e
theorem GZ {T:Expr→AV→Loc→List ag→UT→Prop}(hT:∀{t:Expr}{a:AV}{l:Loc}{H:List ag}{QU:UT},T t a l H QU→WU z.c z.d z.A z.env (fun vs=>iL t z.env (vs[0]?.getD .none)) [a] l H QU z.X) :
  ∀{es:List Expr}{as:List AV}{l:Loc}{H:List ag},Ys T es as l H QU→WU z.c z.d z.A z.env (fun xs=>iC (es.map fun e=>iL e z.env) xs) as l H QU z.X
 |[],[],l,H,h=>WU.nil (fs:=[]) (.inl rfl) h
 |[],_::_,l,H,h=>h.elim
 |t::es,[],l,H,h=>h.elim
 |t::es,a::as,l,H,h=>WU.cons ((hT h).mono fun l1 H1 h=>GZ hT h)
theorem CS (ok:nZ z g) (v:Vs z E A P B):∀{n:Nat}{t:Expr}{a:AV}{l:Loc}{H:List ag}{QU:UT},vT g E n t a l H QU→WU z.c z.d z.A z.env (fun vs=>iL t z.env (vs[0]?.getD .none)) [a] l H QU z.X
 |0,t,a,l,H,QU,h=>h.elim
 |n+1,t,a,l,H,QU,h=>by
  cases t with
  |Name x p=>exact WU.aName (su ok h)
  |Attribute o x p=>exact WU.Ua ((v.E h).mo fun b H2 h=>zG ok h)
  |Subscript o i p=>exact WU.aSub ((v.E h).mo fun b H2 h=>(v.E h).mo fun k H3 h=>Ak h)
  |Tuple es k p=>
   cases a with
   |tup vs=>
    obtain⟨hb,h⟩:=fM h
    obtain⟨b1,b2⟩:=aR.mp hb
    have e:=BY (env:=z.env) b1
    refine WU.Yv (ig b2) (by rw[e,aa]) ?_ ?_
    ·rw[e]
     rw[List.findIdx?_eq_none_iff]
     intro x hx
     refine aq (dI.mp hx) fun y _ ix=>?_
     subst ix
     rfl
    ·rw[e,dx]
     exact GZ (fun h=>CS ok v h) h
   |_=>exact h.elim
  |_=>exact h.elim
theorem GV (ok:nZ z g):∀{ns:List bu}{as:List AV}{l:Loc}{H:List ag},VW g ns as l H QU→WU z.c z.d z.A z.env (fun xs=>iC (ns.map fun n=>bindName z.env n) xs) as l H QU z.X
 |[],[],l,H,h=>WU.nil (fs:=[]) (.inl rfl) h
 |[],_::_,l,H,h=>h.elim
 |n::ns,[],l,H,h=>h.elim
 |n::ns,a::as,l,H,h=>WU.cons (WU.Tq ((su ok (show uE g l H (fun l1 H1=>VW g ns as l1 H1 QU) n a from h)).mono fun l1 H1 h=>GV ok h))
theorem Gx (ok:nZ z g) (v:Vs z E A P B){n k:Nat}{es:List Expr}{tp:ij}{e:Expr}(hc:nw e=true) (h:Nn g E l H n (.Tuple es k tp) e (fun l' H'=>Q .next l' H')) :
  WX z.c z.d z.A z.env (.Assign [.Tuple es k tp] e pos) l H Q z.X:=by
 refine dT (o:=pureOf (jO [.Tuple es k tp] e (DZ g.names))) h fun o e1 h=>?_
 have e1:=DV e1
 rw[←Tc ok.Fe] at e1
 cases o with
 |none=>exact WX.Od (show lD e (some (.Tuple es k tp)) pos.line z.env=pure false from sA hc) e1 ((v.E h).mo fun a H1 h=>CS ok v h)
 |some names=>
  refine WX.Ux (show lD e (some (.Tuple es k tp)) pos.line z.env=pure false from sA hc) e1 ((v.E h).mo fun a H1 h=>?_)
  cases a with
  |tup vs=>exact⟨vs,rfl,ig (fM h).1,GV ok (fM h).2⟩
  |_=>exact h.elim
theorem Kj (ok:nZ z g) (v:Vs z E A P B){n:Nat}{ts:List Expr}{e:Expr}(h:T4 z g E l H m n ts e pos Q):VX z.c z.d m z.A z.env (.Assign ts e pos) l H Q z.X:=by
 rcases ts with _ | ⟨t,_ | ⟨t2,ts⟩⟩
 ·exact h.elim
 ·have h:bif nw e then Nk g E l H m n t e pos Q else VX z.c z.d m z.A z.env (.Assign [t] e pos) l H Q z.X:=h
  cases hc:nw e with
  |false=>rw[hc] at h;exact h
  |true=>
   rw[hc] at h
   refine VX.of ?_
   cases t with
   |Name x np=>exact WX.asg ((v.E h).mo fun a H1 h=>su ok h) (sA hc)
   |Attribute o x p=>exact WX.JS ((v.E h).mo fun a H1 h=>(v.E h).mo fun b H2 h=>zG ok h) (sA hc)
   |Subscript o i p=>exact WX.OE ((v.E h).mo fun a H1 h=>(v.E h).mo fun b H2 h=>(v.E h).mo fun k H3 h=>Ak h) (sA hc)
   |Tuple es k tp=>exact Gx ok v hc h
   |_=>exact h.elim
 ·exact h.elim
theorem GL {env:dH}{names:List (bu×bc)}(F:iA env names):Mc env=false:=by unfold Mc;rw[F.kind];rfl
theorem I0 (ok:nZ z g) (v:Vs z E A P B){e:Expr}(h:CU z E l H m e pos Q):VX z.c z.d m z.A z.env (.Expr e pos) l H Q z.X:=by
 cases hc:nw e with
 |false=>unfold CU at h;rw[hc] at h;exact h
 |true=>
  unfold CU at h
  rw[hc] at h
  refine VX.of (WX.expr ((v.E h).mo fun a H1 h=>?_) (GL ok.Fe) (sA hc))
  cases a with
  |none=>exact⟨rfl,h⟩
  |_=>exact h.elim
theorem Kz (v:Vs z E A P B){e:Option Expr}(h:SY E l H e Q):VX z.c z.d m z.A z.env (.Return e pos) l H Q z.X:=by
 cases e with
 |none=>exact VX.of (WX.KU h)
 |some e=>exact VX.of (WX.ret (v.E h))
theorem Bu {e:Expr}{c:Rw}(h:constOf e=some c):∃k p,e=.Constant c k p:=by
 cases e with
 |Constant=>replace h:=ae h;subst h;exact⟨_,_,rfl⟩
 |_=>exact nS h
theorem wO {e:Expr}{x:bu}(h:BF e=some x):∃p,e=.Name x p:=by
 cases e with
 |Name=>replace h:=ae h;subst h;exact⟨_,rfl⟩
 |_=>exact nS h
theorem w7 {e:Expr}{c:Expr×List Expr×List AX}(h:By e=some c):∃p,e=.Call c.1 c.2.1 c.2.2 p:=by
 cases e with
 |Call=>replace h:=ae h;subst h;exact⟨_,rfl⟩
 |_=>exact nS h
theorem LN {α:Type}{l:List α}{a:α}(h:Vg l=some a):l=[a]:=by
 rcases l with _ | ⟨b,_ | ⟨c,l⟩⟩<;>cases h
 rfl
theorem EA {c:Rw}(h:FX c=true):∃x,c=.str x:=by
 cases c with
 |str=>exact⟨_,rfl⟩
 |_=>exact fT h
theorem I7 {α:Type}{b:Bool}{x y:α}(h:(bif b then some x else none)=some y):b=true∧x=y:=by
 cases b<;>cases h
 exact⟨rfl,rfl⟩
theorem Bx {e:Expr}{x:bu}(h:CF e=some x):∃p y k p1 p2,e=.Call (.Name x p) [.Constant (.str y) k p1] [] p2:=by
 refine aq (dS h) fun jS e1 h1=>?_
 obtain⟨f,es,ks⟩:=jS
 refine aq (dS h1) fun z e2 h2=>?_
 refine aq (dS h2) fun a e3 h3=>?_
 refine aq (dS h3) fun c e4 h4=>?_
 clear h h1 h2 h3
 obtain⟨p2,e1⟩:=w7 e1
 obtain⟨p,e2⟩:=wO e2
 have e3:=LN e3
 refine fX (Bu e4) fun i p1 e4=>?_
 cases ks with
 |cons=>exact nS h4
 |nil=>
  obtain⟨hs,ex⟩:=I7 h4
  obtain⟨s,es⟩:=EA hs
  exact⟨p,s,i,p1,p2,by rw[e1,e2,e3,e4,es,ex]⟩
theorem DP (ok:nZ z g){e c:Option Expr}(h:HF z g H e c):VX z.c z.d m z.A z.env (.Raise e c pos) l H Q z.X:=by
 cases c with
 |some c=>exact h.elim
 |none=>
  refine dT (o:=e) h fun e' ee h=>dT h fun x en h=>?_
  subst ee
  refine fX (Bx en) fun p y jY=>?_
  refine fX jY fun k p1 nr=>?_
  refine al nr fun p2 jW=>?_
  subst jW
  obtain⟨hx,h⟩:=fM h
  cases eq_of_beq hx
  refine dT h fun q e1 h=>?_
  obtain⟨i,k⟩:=q
  have e1:=oQ e1
  have Hx:=FW ok.F e1
  rw[←ok.F.nm] at e1
  cases k with
  |globalImplicit=>
   refine bQ ok.rs fun nF kp ns=>?_
   refine fX nF fun fI fd r=>?_
   exact VX.of (WX.raise r kp h.1 i e1 ns Hx h.2)
  |_=>exact h.elim
theorem Ej {as:List AV}{R:RT}(h:Gu H as R):∃a b st,Mz as a b st∧(st=1∨st = -1)∧(-(2^62)≤a∧a<2^62∧-(2^62)≤b∧b<2^62)∧R (fH a b st) (fun _=>True) H:=by
 rcases as with _ | ⟨a,r⟩
 ·exact h.elim
 refine o8 h (fun a ea h=>?_) eu
 subst ea
 rcases r with _ | ⟨b,r⟩
 ·exact⟨0,_,1,.inl ⟨rfl,rfl,rfl⟩,.inl rfl,⟨by decide,by decide,h.1.1,h.1.2⟩,h.2⟩
 refine o8 h (fun b eb h=>?_) eu
 subst eb
 rcases r with _ | ⟨st,r⟩
 ·exact⟨_,_,1,.inr (.inl ⟨rfl,rfl⟩),.inl rfl,⟨h.1.1.1,h.1.1.2,h.1.2.1,h.1.2.2⟩,h.2⟩
 refine o8 h (fun st es h=>?_) eu
 subst es
 cases r with
 |nil=>exact⟨_,_,_,.inr (.inr rfl),h.1.1,⟨h.1.2.1.1,h.1.2.1.2,h.1.2.2.1,h.1.2.2.2⟩,h.2⟩
 |cons=>exact h.elim
theorem LS {k:Nat}{a:AV}{R:RT}(h:Su H k a R):∃xs gC,eS k z.c z.d z.A xB a xs gC∧gC H∧R xs gC H:=by
 cases a with
 |d8 b=>exact⟨_,_,eS.d8 _,trivial,h⟩
 |str x=>exact⟨_,_,eS.str _,trivial,h⟩
 |tup vs=>exact⟨_,_,eS.tup _ h.1,trivial,h.2⟩
 |obj n=>
  refine dT (o:=H[n]?) h fun y e h=>?_
  cases y with
  |list vs=>exact⟨_,_,eS.list _ _ (aE (fM h).1),e,(fM h).2⟩
  |eV kvs ep=>exact⟨_,_,eS.keys _ _ _ (aE (fM h).1),e,(fM h).2⟩
  |_=>exact h.elim
 |_=>exact h.elim
theorem yh {e:Expr}{q:bu×List Expr}(h:sC e=some q):noStar q.2=true∧∃p p',e=.Call (.Name q.1 p) q.2 [] p':=by
 refine aq (dS h) fun tM e1 h1=>?_
 obtain⟨f,es,ks⟩:=tM
 refine aq (dS h1) fun z e2 h2=>?_
 clear h h1
 obtain⟨p2,e1⟩:=w7 e1
 obtain⟨p,e2⟩:=wO e2
 cases ks with
 |cons=>exact nS h2
 |nil=>
  obtain⟨hs,ex⟩:=I7 h2
  subst ex
  exact⟨(aR.mp hs).2,p,p2,by rw[e1,e2]⟩
theorem mI (ok:nZ z g) (v:Vs z E A P B){k:Nat}{e:Expr}{R:RT}(h:vh g E A l H k e R):WI k z.c z.d z.A z.env xB e l H R z.X:=by
 refine zV (o:=sC e) h (fun q er h2=>?_) fun h=>WI.of ((v.E h).mo fun a H1 h=>LS h)
 refine bG (yh er) fun hs j3=>?_
 refine fX j3 fun p p' lh=>?_
 subst lh
 refine WI.range rfl (jX hs) (Ga ok.toVOk h2 fun w _ h=>?_)
 obtain⟨rfl,h⟩:=h
 exact⟨rfl,(v.A h).mono fun as H2 h=>Ej h⟩
theorem kS {e:Expr}{env:dH}(h:qC e=true) (x:ai):gA e env x=pure x:=by
 cases e<;>first | exact fT h | rfl
theorem Ou {t:Expr}(h:TX t=true):xB t:=by
 cases t with
 |Name x p=>exact .inl ⟨x,p,rfl⟩
 |Tuple es k p=>exact .inr ⟨es,k,p,rfl⟩
 |_=>exact fT h
structure Xs (z:VZ) (g:Sx) (n:Nat):Prop where
 X:∀{m:Nat}{st:eF}{l:Loc}{H:List ag}{Q:QT},vX z g n m st l H Q→VX z.c z.d m z.A z.env st l H Q z.X
 S:∀{m:Nat}{ss:List eF}{l:Loc}{H:List ag}{Q:QT},vS z g n m ss l H Q→VS z.c z.d m z.A z.env ss l H Q z.X
theorem VX.mono {st:eF}{Q':QT}(w:VX z.c z.d m z.A z.env st l H Q z.X) (hq:∀f l H,Q f l H→Q' f l H):VX z.c z.d m z.A z.env st l H Q' z.X:=fun α s I=>
 au (w α s I) (by rintro u' u' ⟨a,l',bD,H',m,i,r,q⟩;exact⟨a,l',bD,H',m,i,r,hq _ _ _ q⟩) fun _ _ e=>e
theorem Aq (ok:nZ z g):∀n,Xs z g n
 |0=>⟨fun h=>h,fun h=>h⟩
 |n+1=>by
  have v:=nV ok.toVOk n
  have x:=Aq ok n
  refine⟨fun{m st l H Q} h=>?_,fun{m ss l H Q} h=>?_⟩
  ·cases st with
   |Assign ts e p=>exact Kj ok v h
   |Expr e p=>exact I0 ok v h
   |Return e p=>exact Kz v h
   |Raise e c p=>exact DP ok h
   |Continue p=>exact VX.of (WX.cont h)
   |If t b1 b2 p=>
    refine VX.if_ ((v.B h).mono fun b H1 h=>?_)
    cases b with
    |true=>exact x.S h
    |false=>exact x.S h
   |While t body os p=>
    cases os with
    |cons=>exact h.elim
    |nil=>
     refine cB h fun J n0 j0 h=>?_
     refine VX.OU J n0 j0 fun i l1 H1 j=>((v.B (h i l1 H1 j)).mono fun b H2 h=>?_)
     cases b with
     |true=>exact VS.FE (x.S h)
     |false=>exact h
   |For t it body os p=>
    cases os with
    |cons=>exact h.elim
    |nil=>
     refine bG (fM h) fun hb se=>?_
     refine aq se fun k hk h=>?_
     simp only[gJ] at hb
     refine VX.SG k hk (Ou hb.1) (kS hb.2) ?_
     have w:=mI ok v h
     refine w.mono fun xs gC H2 p=>?_
     refine fG p fun J j0 V8 step fin=>?_
     clear p
     exact⟨J,j0,V8,fun i x' l2 H2 hx j=>(CS ok v (step i x' l2 H2 hx j)).mono fun l3 H3 h=>VS.FE (x.S h),fin⟩
   |_=>exact h
  ·cases ss with
   |nil=>exact VS.nil h
   |cons st r=>
    cases r with
    |nil=>
     refine VS.cons ((x.X (show vX z g n m st l H Q from h)).mono fun f l1 H1 h=>?_)
     cases f with
     |next=>exact VS.nil h
     |_=>exact h
    |cons Zs r=>
     refine VS.cons ((x.X (show vX z g n m st l H (Iu Q (vS z g n m (Zs::r))) from h)).mono fun f l1 H1 h=>?_)
     cases f with
     |next=>exact x.S h
     |_=>exact h
end
end
section
open PySem PySem.W PySem.Calls PyProof.Rows
noncomputable def jZ:Option eF→List bu
 |some (.FunctionDef _ p _ _ _ _ _ _ _ _)=>p.args.map (·.arg)
 |_=>[]
noncomputable def GT:List (bu×AV):=Za.map fun p=>(fa p.1,p.2)
noncomputable def ip:List Nat→List (bu×AV)
 |[]=>[]
 |i::is=>match Za[i]? with
  |some (x,a)=>(fa x,a)::ip is
  |none=>ip is
set_option tactic.hygienic true in
theorem zk {p:bu×AV}:∀{is:List Nat},p∈ip is→p∈GT:=by
 intro us
 induction us with
 |nil=>
  intro h
  unfold ip at h;cases h
 |cons i is ih=>
  intro h
  unfold ip at h
  split at h
  ·rename_i x a e
   rcases br.mp h with rfl | h
   ·exact dI.mpr ⟨(x,a),a9 e,rfl⟩
   ·exact ih h
  ·exact ih h
theorem pN {β:Type}{x:bu}{a:β}:∀{l:List (bu×β)},km l x=some a→(x,a)∈l:=by
 intro us
 induction us with
 |nil=>
  intro h
  exact nS h
 |cons hd r ih=>
  obtain⟨y,k⟩:=hd
  intro h
  replace h:(bif y==x then some k else km r x)=some a:=h
  cases e:y==x with
  |true=>rw[e] at h;replace h:=ae h;subst h;cases eq_of_beq e;exact aI
  |false=>rw[e] at h;exact aG _ (ih h)
noncomputable abbrev gx (s:Option eF) (is:List Nat):Sx:=⟨namesOf s,ip is,FT,MT⟩
noncomputable def locs:List AV→List (bu×bc)→Loc
 |[],ns=>ns.map fun _=>none
 |a::as,[]=>some a::locs as []
 |a::as,_::ns=>some a::locs as ns
theorem rO {v:AV}{as:List AV}:∀{ns:List (bu×bc)}{i:Nat},(locs as ns)[i]?=some (some v)→as[i]?=some v:=by
 induction as with
 |nil=>
  intro ns i h
  rw[show locs [] ns=ns.map fun _=>none from rfl,aK] at h
  cases q:ns[i]? with
  |none=>rw[q] at h;exact nS h
  |some u=>rw[q] at h;exact nS (ae h)
 |cons a as ih=>
  intro ns i h
  cases ns with
  |nil=>cases i with
   |zero=>exact ae h
   |succ i=>exact ih (i:=i) h
  |cons n ns=>cases i with
   |zero=>exact ae h
   |succ i=>exact ih (i:=i) h
noncomputable def yd:List (bu×bc)→List (bu×bc)
 |[]=>[]
 |(x,k)::r=>match k with
  |.local=>(x,k)::yd r
  |.cell=>(x,k)::yd r
  |_=>[]
noncomputable def M7 (K:gg) (f:aD) (s:Option eF):Prop:=∃fd,qf K f fd (iI s) (jZ s)∧fd.scope.names=namesOf s∧(∀p∈namesOf s,(p.1==("__debug__":bu))=false) ∧
 ∀(sh:aH) (vs:List ai),K.In sh.heap→vs.length=(jZ s).length→wM sh fd ⟨vs,[]⟩ ((jZ s).zip vs)
theorem binds_K {c:Cx}{d:Nat}{A:aU}{H:List ag}{fd:eJ}{ps:List bu}{as:List AV}(h:∀(sh:aH) (vs:List ai),c.K.In sh.heap→vs.length=ps.length→wM sh fd ⟨vs,[]⟩ (ps.zip vs)) (hl:as.length=ps.length) :
  ∀(α:Am) (s:aH) (vs:List ai),Ht c (d+1) A α H s→bq c s.heap α as vs→∃As,bq c s.heap α as As∧wM s fd ⟨vs,[]⟩ (ps.zip As):=
 fun _ s vs I r=>⟨vs,r,h s vs (I.ok.X.keeps I.h.base) (r.length.trans hl)⟩
theorem WC.ZD {c:Cx}{d:Nat}{H:List ag}{f:aD}{fd:eJ}{body:List eF}{ps:List bu}(D:qf c.K f fd body ps){as:List AV}{Q:AV→List ag→Prop}{X:List ag→Prop}(hl:as.length=ps.length)
  (h:∀(sh:aH) (vs:List ai),c.K.In sh.heap→vs.length=ps.length→wM sh fd ⟨vs,[]⟩ (ps.zip vs))
  (w:∀A env,env.scope=fd.scope→env.frame=some env.locals→VS c d H.length A env body (u4 as (fd.scope.names.length-as.length)) H (qB Q) X):WC c (d+1) (.ref f) as H Q X:=
 fun A α s vs I r=>WC.Pq rfl D hl (binds_K h hl) (fun A env he hf α s I=>au (w A env he hf α s I)
  (fun _ _ p=>(p.full (bF I.h.len)).toR)
  fun _ _ p=>p.full (bF I.h.len)) α s vs I r
structure eW (c:Cx):Prop where
 gt:∀{x:bu}{a:AV},(x,a)∈GT→Zm c x a∨∃v,a=.fix v∧Yd c x v
 kp:∀{x:bu}{v:ai},(x,.fix v)∈GT→gX c v
 ft:∀{C:aD}{x:bu},J7 FT C x=true→yA c.K C x∧Dq c.K C x
 mt:∀{C:aD}{x:bu}{f:aD},Kk MT C x=some f→yg c.K C x f
 rs:(∃fI fd,lW c.K c.bd fI fd)∧gX c (.ref c.bd)∧EX c.K eo "BadDevice"=some (some (.ref c.bd))
 mko:∀{C I:aD},kK MK C=some I→Bz c.K C I
 fn:∀{f:aD}{s:Option eF}{is:List Nat},kK FN f=some (s,is)→M7 c.K f s
theorem eW.ok {c:Cx}{d:Nat}{A:aU}{env:dH}{X:List ag→Prop}{ns:List (bu×bc)}{is:List Nat}(F:eW c) (E:NmEnv env ns):VOk ⟨c,d,A,env,X⟩ ⟨ns,ip is,FT,MT⟩:=⟨E,fun h=>F.gt (zk (pN h)),fun h=>F.kp (zk (pN h)),F.ft,F.mt,F.rs⟩
section
variable {c:Cx}{d:Nat}{as:List AV}{H:List ag}{Q:AV→List ag→Prop}{X:List ag→Prop}
variable {A:aU}{env:dH}{l l':Loc}{α:Am}{s:aH}
theorem Inv.loc (I:Inv c d A env l α H s) (h:∀(i:Nat) (v:AV),l'[i]?=some (some v)→l[i]?=some (some v)):Inv c d A env l' α H s:=by
 refine⟨I.ok,I.e,I.r,I.top,I.h,⟨?_,fun{i x k} e hk=>?_,I.f.no,I.f.new⟩,I.k⟩
 ·refine aq I.f.ns fun m hm hr=>?_
  exact⟨m,hm,fun e1 e2=>hr e1 (h _ _ e2)⟩
 ·refine gf (I.f.cl e hk) fun b ov e1 e2 n1 n2 hr=>?_
  exact⟨b,ov,e1,e2,n1,n2,fun e3=>hr (h _ _ e3)⟩
theorem WC.v (F:eW c){f:aD}{s:Option eF}{is:List Nat}(e:kK FN f=some (s,is)) (hl:as.length=(jZ s).length)
  (w:∀A env,iA env (namesOf s)→vS ⟨c,d,A,env,X⟩ (gx s is) 60 H.length (iI s) (locs as (yd (namesOf s))) H (dU H.length (qB Q))):WC c (d+1) (.ref f) as H Q X:=by
 refine fG (F.fn e) fun fd D hn D3 hb=>?_
 refine WC.ZD D hl hb fun A env he hf=>?_
 have E:iA env (namesOf s):=⟨⟨by rw[he];exact hn,D3⟩,by rw[he];exact D.kind,hf⟩
 have W:=VS.FE ((Aq ⟨F.ok E.toNmEnv,E⟩ 60).S (w A env E))
 exact fun α s I=>W α s (I.loc fun i v e=>by
  have e:=rO e
  unfold u4
  rw[aC (by rw[aa];exact(ao.mp e).1),aK,e]
  rfl)
theorem WC.mk (F:eW c){C I:aD}(e:kK MK C=some I) (w:WC c d (.ref I) (.obj H.length::as) (H++[.inst C []]) (fun a H'=>a=.none∧Q (.obj H.length) H') X):WC c (d+1) (.ref C) as H Q X:=WC.make (F.mko e) w
end
noncomputable def d9 {α:Type}(o:Option α) (no:Prop) (ok:α→Prop):Prop:=match o with
 |none=>no
 |some x=>ok x
theorem d9.mono {α:Type}{x:Option α}{no Mx:Prop}{ok FR:α→Prop}(h:d9 x no ok) (h0:no→Mx) (h1:∀y,ok y→FR y):d9 x Mx FR:=by
 cases x with
 |none=>exact h0 h
 |some y=>exact h1 y h
theorem d9.map {α β:Type}{x:Option α}{f:α→β}{no Mx:Prop}{ok:β→Prop}{FR:α→Prop}(h:d9 (x.map f) no ok) (h0:no→Mx) (h1:∀y,ok (f y)→FR y):d9 x Mx FR:=by
 cases x with
 |none=>exact h0 h
 |some y=>exact h1 y h
theorem d9.bind {α β:Type}{x:Option α}{f:α→Option β}{no Mx:Prop}{ok:β→Prop}{FR:α→Prop}(h:d9 (x.bind f) no ok) (h0:no→Mx) (h1:∀y,x=some y→d9 (f y) no ok→FR y):d9 x Mx FR:=by
 cases x with
 |none=>exact h0 h
 |some y=>exact h1 y rfl h
theorem d9.bi {α β:Type}{x:Option α}{f:α→Option β}{no:Prop}{ok:β→Prop}(h:d9 (x.bind f) no ok):(x=none→no)∧∀y,x=some y→d9 (f y) no ok:=by
 cases x with
 |none=>exact⟨fun _=>h,fun _=>nS⟩
 |some y=>exact⟨fun e=>nS e.symm,fun z e=>ae e▸h⟩
theorem d9.pos {α:Type}{p:Prop} [Decidable p] {x y:Option α}{no:Prop}{ok:α→Prop}(q:d9 (if p then x else y) no ok) (h:p):d9 x no ok:=by rw[if_pos h] at q;exact q
theorem d9.neg {α:Type}{p:Prop} [Decidable p] {x y:Option α}{no:Prop}{ok:α→Prop}(q:d9 (if p then x else y) no ok) (h:¬p):d9 y no ok:=by rw[if_neg h] at q;exact q
end
section
open PySem PySem.W PySem.Calls PyProof.Rows
noncomputable def mO (ns cn:List (bu×bc)):List (bu×bc):=cn.map fun p=>if (p.2==.free&&ns.lookup p.1==some .cell) then (p.1,.cell) else p
noncomputable def pj (ns:List (bu×bc)) (l:Loc):List (bu×bc)→Loc
 |[]=>[]
 |(x,k)::r=>(match k with
  |.free=>match oP ns x 0 with
   |some (j,_)=>(l[j]?).join
   |none=>none
  |_=>none)::pj ns l r
noncomputable def rJ (ns cn:List (bu×bc)) (x:bu):Bool:=cn.all (fun p=>p.2 != .cell&&(p.2 != .local||cn.lookup p.1==some .local)&&(p.2 != .free||(match oP ns p.1 0 with
  |some (_,.cell)=>true
  |_=>false)))&&decide (cn.map (·.1)).Nodup&&(mO ns cn)[1]?==some (x,.local)&&ik 1 cn.length&&cn.all (fun p=>!(p.1==("__debug__":bu)))
section
variable {c:Cx}{d kp:Nat}{A:aU}{env:dH}{l:Loc}{H:List ag}{Q:AV→List ag→Prop}{X:List ag→Prop}{ns cn:List (bu×bc)}{scope:nQ}{x:bu}
theorem zA {cn:List (bu×bc)}:∀{i:Nat},(pj ns l cn)[i]?=(cn[i]?).map fun p=>(match p.2 with
  |.free=>match oP ns p.1 0 with
   |some (j,_)=>(l[j]?).join
   |none=>none
  |_=>none):=by
 induction cn with
 |nil=>exact rfl
 |cons p r ih=>
  intro i
  cases i with
  |zero=>rfl
  |succ i=>exact ih
theorem DD:∀{cn:List (bu×bc)},(pj ns l cn).length=cn.length:=by
 intro us
 induction us with
 |nil=>
  rfl
 |cons hd r ih=>
  obtain⟨y,k⟩:=hd
  exact congrArg Nat.succ ih
set_option tactic.hygienic true in
theorem rm (E:iA env ns) (hk:scope.kind=.function) (hb:rJ ns scope.names x=true):nA env l scope x (pj ns l scope.names) (mO ns scope.names):=by
 unfold rJ at hb
 simp only[gJ] at hb
 refine bG hb fun ix h5=>?_
 clear hb
 refine bG ix fun jS h4=>?_
 refine bG jS fun jW h3=>?_
 refine bG jW fun h1 h2=>?_
 rw[ba] at h1
 refine⟨hk,fun y hy e=>?_,fun y hy e=>?_,of_decide_eq_true h2,?_,eq_of_beq h3,by rw[DD];exact aE h4,fun i y e=>?_,fun i v e=>?_⟩
 ·have:=h1 y hy;rw[e] at this;simp at this
 ·have:=h1 y hy;rw[e] at this;simpa using this
 ·unfold gB mO
  dsimp only
  refine i6 fun p hp=>?_
  rw[E.kind]
  unfold yJ
  rw[E.nm]
  simp
 ·have:=h1 _ (a9 e)
  simp only[gJ] at this
  have h:=this.2
  simp only[bne_self_eq_false,ng] at h
  split at h
  ·rename_i j e2
   have e1:=oQ e2
   refine⟨j,E.nm▸e1,fun v hv=>?_⟩
   rw[zA,e] at hv
   simp only[oj,e2] at hv
   cases q:l[j]? with
   |none=>rw[q] at hv;cases hv
   |some o=>rw[q] at hv;simpa using hv
  ·exact fT h
 ·rw[zA] at e
  cases q:scope.names[i]? with
  |none=>rw[q] at e;exact nS e
  |some p=>
   rw[q] at e
   obtain⟨y,k⟩:=p
   cases k with
   |free=>exact⟨y,rfl⟩
   |_=>cases e
theorem nv (E:iA env ns) (hb:rJ ns cn x=true){cenv:dH}(h:cenv.scope.names=mO ns cn):NmEnv cenv (mO ns cn):=by
 unfold rJ at hb
 simp only[gJ] at hb
 have h5:=ba.mp hb.2
 refine⟨h,fun p hp=>?_⟩
 unfold mO at hp
 refine aq (dI.mp hp) fun q hq nr=>?_
 subst nr
 have:=h5 q hq
 split<;>simpa using this
theorem At.last {H:List ag}{n:Nat}{x:ag}(h:n=H.length):(H++[x])[n]?=some x:=by subst h;simp
theorem tn.map {pq:Expr}{lc:Loc}{dO:List (bu×bc)}{fin:List AV→List ag→Prop}{xs:List AV}{gC:List ag→Prop}(f:AV→AV) (nx:∀acc,gC (H++[.list acc])) (hz:xs.length≤1000000)
  (step:∀(cenv:dH) (i:Nat) (v:AV) (acc:List AV),cenv.scope.names=dO→xs[i]?=some v→acc.length≤1000000→WE c d A cenv pq (lc.set 1 (some v)) (H++[.list acc]) (fun a H3=>a=f v∧H3=H++[.list acc]) X)
  (q:fin (xs.map f) (H++[.list (xs.map f)])):tn c d A pq [] lc dO X fin xs gC H:=by
 refine⟨fun i acc H'=>H'=H++[.list acc]∧acc=(xs.take i).map f,⟨rfl,rfl⟩,?_,?_,?_⟩
 ·rintro i acc H' ⟨rfl,rfl⟩
  refine⟨nx _,At.last rfl,?_⟩
  rw[aa,cg];exact aW [_,_,_] [] [.L aB jg,.fm aM cf aB] (.L aM jg) (.o (.k [1,1,1,0,1]) jM) rfl hz (AJ _ _)
 ·rintro cenv i v acc H' hn hv ⟨rfl,rfl⟩
  have hl:((xs.take i).map f).length≤1000000:=by rw[aa,cg];exact aW [_,_,_] [] [.L aB jg,.fm aM cf aB] (.L aM jg) (.o (.k [1,1,1,0,1]) jM) rfl hz (AJ _ _)
  refine A7.nil ?_
  rw[if_pos rfl]
  refine(step cenv i v _ hn hv hl).mono ?_ fun _ h=>h
  rintro a H3 ⟨rfl,rfl⟩
  refine⟨At.last rfl,hl,by simp,?_⟩
  rw[gi,hv];simp
 ·rintro acc H' ⟨rfl,rfl⟩
  rw[kC];exact q
theorem tn.WS {d:Nat}{A:aU}{pq t:Expr}{lc:Loc}{X:List ag→Prop}{dO:List (bu×bc)}{fin:List AV→List ag→Prop}{xs:List AV}{gC:List ag→Prop}(p:AV→Bool) (nx:∀acc,gC (H++[.list acc])) (hz:xs.length≤1000000)
  (JY:∀(cenv:dH) (i:Nat) (v:AV) (acc:List AV),cenv.scope.names=dO→xs[i]?=some v→acc.length≤1000000→WB c d A cenv t (lc.set 1 (some v)) (H++[.list acc]) (fun ok H3=>ok=p v∧H3=H++[.list acc]) X)
  (step:∀(cenv:dH) (i:Nat) (v:AV) (acc:List AV),cenv.scope.names=dO→xs[i]?=some v→acc.length≤1000000→WE c d A cenv pq (lc.set 1 (some v)) (H++[.list acc]) (fun a H3=>a=v∧H3=H++[.list acc]) X)
  (q:fin (xs.filter p) (H++[.list (xs.filter p)])):tn c d A pq [t] lc dO X fin xs gC H:=by
 have ub:∀i,((xs.take i).filter p).length≤1000000:=fun i=>by
  have h1:=List.length_filter_le p (xs.take i)
  rw[cg] at h1;exact aW [_,_,_,_] [] [.L aB jg,.L aM cf,.fm cf fz aB] (.L aM jg) (.o (.k [1,1,1,0,1,1]) rh) rfl hz h1 (AJ _ _)
 refine⟨fun i acc H'=>H'=H++[.list acc]∧acc=(xs.take i).filter p,⟨rfl,rfl⟩,?_,?_,?_⟩
 ·rintro i acc H' ⟨rfl,rfl⟩
  exact⟨nx _,At.last rfl,ub i⟩
 ·rintro cenv i v acc H' hn hv ⟨rfl,rfl⟩
  refine A7.one (WB.mono (JY cenv i v _ hn hv (ub i)) ?_)
  rintro ok H3 ⟨rfl,rfl⟩
  cases hp:p v with
  |true=>
   rw[if_pos rfl]
   refine(step cenv i v _ hn hv (ub i)).mono ?_ fun _ h=>h
   rintro a H4 ⟨rfl,rfl⟩
   refine⟨At.last rfl,ub i,by simp,?_⟩
   rw[gi,hv];simp[hp]
  |false=>
   rw[if_neg (by simp)]
   refine⟨rfl,?_⟩
   rw[gi,hv];simp[hp]
 ·rintro acc H' ⟨rfl,rfl⟩
  rw[kC];exact q
theorem WI.mo {T:Expr→Prop}{e:Expr}{R R':List AV→(List ag→Prop)→List ag→Prop}(w:WI kp c d A env T e l H R X) (h:∀xs gC H1,R xs gC H1→R' xs gC H1):WI kp c d A env T e l H R' X:=fun α s I=>
 au (w α s I) (fun v bf p=>au p (by rintro it cX ⟨I₀,St,xs,gC,e8,bE,h1,h2,h3,h4,h5,h6,h7,q⟩;exact⟨I₀,St,xs,gC,e8,bE,h1,h2,h3,h4,h5,h6,h7,h _ _ _ q⟩) fun _ _ e=>e) fun _ _ e=>e
theorem WE.lc (F:eW c) (is:List Nat) (E:iA env ns){pq iter:Expr}{px pos:ij}(kp:Nat) (f:AV→AV) (hk:scope.kind=.function) (hb:rJ ns scope.names x=true) (hs:qC iter=true)
  (w:vh ⟨ns,ip is,FT,MT⟩ (vE ⟨c,d,A,env,X⟩ ⟨ns,ip is,FT,MT⟩ 40) (vA ⟨c,d,A,env,X⟩ ⟨ns,ip is,FT,MT⟩ 40) l H kp iter fun xs gC H1=>((∀acc,gC (H1++[.list acc]))∧xs.length≤1000000) ∧
   (∀(cenv:dH) (i:Nat) (v:AV) (acc:List AV),xs[i]?=some v→vE ⟨c,d,A,cenv,X⟩ ⟨mO ns scope.names,ip is,FT,MT⟩ 40 pq ((pj ns l scope.names).set 1 (some v)) (H1++[.list acc]) fun a H3=>a=f v∧H3=H1++[.list acc]) ∧
   Q (.obj H1.length) (H1++[.list (xs.map f)])):WE c d A env (.ListComp pq [⟨.Name x px,iter,[],0⟩] scope pos) l H Q X:=by
 have ok:nZ ⟨c,d,A,env,X⟩ ⟨ns,ip is,FT,MT⟩:=⟨F.ok E.toNmEnv,E⟩
 refine WE.G1 (kp:=kp) (rm E hk hb) (fun x=>kS hs x) ((mI ok (nV ok.toVOk 40) w).mo fun xs gC H1 h=>?_)
 refine bQ h fun mU h3 q=>?_
 clear h
 refine bG mU fun h1 h2=>?_
 exact tn.map f h1 h2 (fun cenv i v acc hn hv _=>(nV (z:=⟨c,d,A,cenv,X⟩) (F.ok (nv E hb hn)) 40).E (h3 cenv i v acc hv)) q
theorem WE.lj (F:eW c) (is:List Nat) (E:iA env ns){pq iter:Expr}{px pos:ij}(kp:Nat) (hk:scope.kind=.function) (hb:rJ ns scope.names x=true) (hs:qC iter=true)
  (w:vh ⟨ns,ip is,FT,MT⟩ (vE ⟨c,d,A,env,X⟩ ⟨ns,ip is,FT,MT⟩ 40) (vA ⟨c,d,A,env,X⟩ ⟨ns,ip is,FT,MT⟩ 40) l H kp iter fun xs gC H1=>∃J:Nat→List AV→List ag→Prop,J 0 [] (H1++[.list []]) ∧
   (∀(i:Nat) (acc:List AV) (H':List ag),J i acc H'→gC H'∧H'[H1.length]?=some (.list acc)∧acc.length≤1000000) ∧
   (∀(cenv:dH) (i:Nat) (v:AV) (acc:List AV) (H':List ag),xs[i]?=some v→J i acc H'→vE ⟨c,d,A,cenv,X⟩ ⟨mO ns scope.names,ip is,FT,MT⟩ 40 pq ((pj ns l scope.names).set 1 (some v)) H' fun a H3=>
    H3[H1.length]?=some (.list acc)∧acc.length≤1000000∧J (i+1) (acc++[a]) (H3.set H1.length (.list (acc++[a])))) ∧
   ∀(acc:List AV) (H':List ag),J xs.length acc H'→Q (.obj H1.length) H'):WE c d A env (.ListComp pq [⟨.Name x px,iter,[],0⟩] scope pos) l H Q X:=by
 have ok:nZ ⟨c,d,A,env,X⟩ ⟨ns,ip is,FT,MT⟩:=⟨F.ok E.toNmEnv,E⟩
 refine WE.G1 (kp:=kp) (rm E hk hb) (fun x=>kS hs x) ((mI ok (nV ok.toVOk 40) w).mo fun xs gC H1 h=>?_)
 refine fG h fun J h1 h2 h3 q=>?_
 clear h
 refine⟨J,h1,h2,fun cenv i v acc H' hn hv j=>A7.nil ?_,q⟩
 rw[if_pos rfl]
 exact(nV (z:=⟨c,d,A,cenv,X⟩) (F.ok (nv E hb hn)) 40).E (h3 cenv i v acc H' hv j)
theorem WE.lf (F:eW c) (is:List Nat) (E:iA env ns){pq iter t:Expr}{px pos:ij}(kp:Nat) (p:AV→Bool) (hk:scope.kind=.function) (hb:rJ ns scope.names x=true) (hs:qC iter=true)
  (w:vh ⟨ns,ip is,FT,MT⟩ (vE ⟨c,d,A,env,X⟩ ⟨ns,ip is,FT,MT⟩ 40) (vA ⟨c,d,A,env,X⟩ ⟨ns,ip is,FT,MT⟩ 40) l H kp iter fun xs gC H1=>((∀acc,gC (H1++[.list acc]))∧xs.length≤1000000) ∧
   (∀(cenv:dH) (i:Nat) (v:AV) (acc:List AV),xs[i]?=some v→vB ⟨c,d,A,cenv,X⟩ ⟨mO ns scope.names,ip is,FT,MT⟩ 40 t ((pj ns l scope.names).set 1 (some v)) (H1++[.list acc]) (fun a H3=>a=p v∧H3=H1++[.list acc]) ∧
    vE ⟨c,d,A,cenv,X⟩ ⟨mO ns scope.names,ip is,FT,MT⟩ 40 pq ((pj ns l scope.names).set 1 (some v)) (H1++[.list acc]) fun a H3=>a=v∧H3=H1++[.list acc]) ∧
   Q (.obj H1.length) (H1++[.list (xs.filter p)])):WE c d A env (.ListComp pq [⟨.Name x px,iter,[t],0⟩] scope pos) l H Q X:=by
 have ok:nZ ⟨c,d,A,env,X⟩ ⟨ns,ip is,FT,MT⟩:=⟨F.ok E.toNmEnv,E⟩
 refine WE.G1 (kp:=kp) (rm E hk hb) (fun x=>kS hs x) ((mI ok (nV ok.toVOk 40) w).mo fun xs gC H1 h=>?_)
 refine bQ h fun nF h3 q=>?_
 clear h
 refine bG nF fun h1 h2=>?_
 exact tn.WS p h1 h2 (fun cenv i v acc hn hv _=>(nV (z:=⟨c,d,A,cenv,X⟩) (F.ok (nv E hb hn)) 40).B (h3 cenv i v acc hv).1) (fun cenv i v acc hn hv _=>(nV (z:=⟨c,d,A,cenv,X⟩) (F.ok (nv E hb hn)) 40).E (h3 cenv i v acc hv).2) q
end
end
section
open PySem PySem.W PySem.Calls PyProof.Rows
section
variable {k:Nat}{f:Nat→Nat}(hf:∀n,n<k→f n=n)
include hf
theorem sz {a:AV}(o:vq k a=true):oq f a=a:=Df (T:=(vq k ·=true)) pn ru (fun o=>hf _ (aE o)) a o
theorem yE {a:List AV}(o:mT k a=true):lK f a=a:=uJ fun x hx=>sz hf (pn o x hx)
theorem CW {a:List (Int×AV)}(o:mx k a=true):qL f a=a:=vv fun x hx=>sz hf (ru o x hx)
theorem JW {a:List (bu×AV)}(o:Uc k a=true):wx f a=a:=zv fun x hx=>sz hf (CV o x hx)
theorem yr {x:ag}(o:yO k x=true):iw f x=x:=by
 cases x with
 |list vs=>exact congrArg ag.list (yE hf o)
 |dict kvs=>exact congrArg ag.dict (CW hf o)
 |eV kvs ep=>exact congrArg (ag.eV · ep) (CW hf o)
 |inst C fs=>exact congrArg (ag.inst C) (JW hf o)
end
noncomputable def tv (k:Nat) (H:List ag):Bool:=H.all (yO k)
theorem ph {k n:Nat}(h:n<k):(bh k).getD n 0=n:=by
 rw[bt,cH h];rfl
theorem tF.take {H₁ G:List ag}(h:tv H₁.length H₁=true):tF (bh H₁.length) H₁ (H₁++G):=by
 refine⟨a8,ur,fun{i n x} e1 e2=>?_⟩
 have hi:=(ao.mp e2).1
 rw[cH hi] at e1
 replace e1:=ae e1
 subst e1
 have o:=ba.mp h x (a9 e2)
 rw[a8]
 exact⟨o,by rw[aC hi,yr (fun n hn=>ph hn) o,e2]⟩
section
variable {m:Nat}{Q:AF→Loc→List ag→Prop}{QR:AV→List ag→Prop}{a:AV}{l:Loc}{H H₁ G:List ag}
theorem dU.ret (G:List ag) (e:H=H₁++G) (h:tv H₁.length H₁=true) (hm:m≤H₁.length) (ha:vq H₁.length a=true) (q:QR a H₁):dU m (qB QR) (.ret a) l H:=by
 subst e
 exact .inr ⟨bh H₁.length,a,H₁,fun n hn=>by rw[cH (by exact aV hn hm)],tF.take h,by rw[a8];exact ha,(sz (fun n hn=>ph hn) ha).symm,q⟩
noncomputable def okL (k:Nat) (l:Loc):Bool:=l.all fun x=>match x with
 |some v=>vq k v
 |none=>true
theorem dU.next (G:List ag) (e:H=H₁++G) (h:tv H₁.length H₁=true) (hm:m≤H₁.length) (l₁:Loc) (hl:okL H₁.length l₁=true) (hs:∀(i:Nat) (v:AV),l₁[i]?=some (some v)→l[i]?=some (some v)) (q:Q .next l₁ H₁):dU m Q .next l H:=by
 subst e
 refine .inr ⟨bh H₁.length,l₁,H₁,fun n hn=>by rw[cH (by exact aV hn hm)],tF.take h,fun{i v} e=>?_,q⟩
 have o:vq H₁.length v=true:=ba.mp hl _ (a9 e)
 rw[a8]
 exact⟨o,by rw[sz (fun n hn=>ph hn) o];exact hs i v e⟩
noncomputable def wQ:List Bool→Loc→Loc
 |_,[]=>[]
 |[],_::l=>none::wQ [] l
 |b::bs,x::l=>(bif b then x else none)::wQ bs l
theorem HI {v:AV}:∀{bs:List Bool}{l:Loc}{i:Nat},(wQ bs l)[i]?=some (some v)→l[i]?=some (some v):=fun{bs l}=>by
 induction l generalizing bs with
 |nil=>exact fun{i} e=>by cases bs<;>exact nS e
 |cons x l ih=>
  intro i e
  cases i with
  |zero=>rcases bs with _ | ⟨_ | _,bs⟩<;>first | exact e | cases e
  |succ i=>cases bs<;>exact ih (i:=i) e
theorem dU.nextM (bs:List Bool) (G:List ag) (e:H=H₁++G) (h:tv H₁.length H₁=true) (hm:m≤H₁.length) (hl:okL H₁.length (wQ bs l)=true) (q:Q .next (wQ bs l) H₁):dU m Q .next l H:=
 dU.next G e h hm (wQ bs l) hl (fun _ _=>HI) q
end
theorem GB {k N n:Nat}(h:n<k):fr (bh k) N n=n:=by unfold fr;rw[cH h]
theorem sX {f:Nat→Nat}{k:Nat}(hf:∀n,n<k→f n=n){H₀:List ag}:∀{j:Nat}{P T S:List ag},j+H₀.length≤k→tv k H₀=true→P.length=j→S.length=H₀.length→putAt f (vZ j H₀.length) (P++S++T) H₀=P++H₀++T:=by
 induction H₀ with
 |nil=>exact fun _ _ _ h2=>congrArg (_++·++_) (dD.mp h2)
 |cons x H₀ ih=>
  intro j P T S h0 ho h1 h2
  cases S with
  |nil=>exact absurd h2 (oh _).symm
  |cons y S=>
   have ho:=aR.mp ho
   have e:(P++y::S++T).set j (iw f x)=(P++[x])++S++T:=by
    subst h1
    rw[yr hf ho.1,List.append_assoc,Cr _ _ (aA _),gZ]
    simp
   exact(congrArg (putAt f (vZ (j+1) H₀.length) · H₀) e).trans ((ih (by rw[cL] at h0;exact aW [_,_,_] [] [.L (.a aB (.a aM bP)) cf] (.L (.a (.a aB bP) aM) cf) cI rfl h0) ho.2 (by rw[ah,h1];rfl) (q9 h2)).trans (by simp))
theorem Ih {H₀ H₁ T:List ag}(hl:H₁.length=H₀.length) (h:tv H₁.length H₁=true):put (bh H₀.length) (H₀++T) H₁=H₁++T:=by
 unfold put
 rw[a8,←hl,List.drop_length,Rr,cK,kP]
 have:=sX (f:=fr (vZ 0 H₁.length) (H₀++T).length) (k:=H₁.length) (fun n hn=>by rw[←kP];exact GB hn) (j:=0) (H₀:=H₁) (P:=[]) (S:=H₀) (T:=T) (by exact aW [_] [] [] (.L (.a dE aB) aB) ni rfl) h rfl hl.symm
 simpa using this
section
variable {c:Cx}{d:Nat}{f:ai}{as:List AV}{H₀ T:List ag}{Q:AV→List ag→Prop}{X X₀:List ag→Prop}
theorem WC.take (T:List ag) (h:tv H₀.length H₀=true) (ha:mT H₀.length as=true)
  (w:WC c d f as H₀ (fun v H₁=>(H₁.length=H₀.length∧tv H₁.length H₁=true∧vq H₁.length v=true)∧Q v (H₁++T)) X₀) (hX:∀H₁,X₀ H₁→X (put (bh H₀.length) (H₀++T) H₁)):WC c d f as (H₀++T) Q X:=by
 refine WC.frame (bh H₀.length) (tF.take h) ((yE (fun n hn=>ph hn) ha).symm) (by rw[a8];exact ha) w ?_ hX
 intro v H₁ lE
 refine bG lE fun gD q=>?_
 clear lE
 refine bQ gD fun h1 h2 h3=>?_
 rw[Ih h1 h2,sz (fun n hn=>GB (by exact aV hn (bF h1))) h3]
 exact q
end
end
section
open PySem PySem.W PySem.Calls PyProof.Rows
noncomputable abbrev d5 (b:List UInt8) (a:Nat):ag:=.inst 309 [("octets",.d8 b),("at",.int a)]
theorem fA {a b:Int}:(fH a b 1).length=(b-a).toNat:=by
 unfold fH;rw[aa,a8];unfold cS;simp;exact Ig
theorem uI {a b st:Int}{i:Nat}{x:AV}(h:(fH a b st)[i]?=some x):i<(fH a b st).length∧x=.int (a+i*st):=by
 have hi:=(ao.mp h).1
 refine⟨hi,?_⟩
 unfold fH at h hi
 rw[aa,a8] at hi
 rw[aK,cH hi] at h
 exact(ae h).symm
theorem fy {a b:Int}{i:Nat}{x:AV}(h:(fH a b 1)[i]?=some x):i<(b-a).toNat∧x=.int (a+i):=by
 obtain⟨h1,h2⟩:=uI h
 rw[fA] at h1
 exact⟨h1,by rw[h2,wb]⟩
noncomputable def Q1 (b:List UInt8) (R:AV→Nat→Prop):AV→List ag→Prop:=fun v H=>∃a,H=[d5 b a]∧(∀f,oq f v=v)∧R v a
noncomputable def X1 (b:List UInt8) (P:Prop):List ag→Prop:=fun H=>(∃a,H=[d5 b a])∧P
section
variable {c:Cx}{d n:Nat}{H:List ag}{Q:AV→List ag→Prop}{X:List ag→Prop}{a:Nat}{b:List UInt8}{R:AV→Nat→Prop}{P:Prop}{ri:Int}
theorem WC.str {f:ai}{vs:List AV}(hn:H[n]?=some (d5 b a)) (h1:mT 1 vs=true) (h2:∀f,lK f vs=vs) (w:WC c d f (.obj 0::vs) [d5 b a] (Q1 b fun v a'=>Q v (H.set n (d5 b a'))) (X1 b (∀a',X (H.set n (d5 b a'))))) :
  WC c d f (.obj n::vs) H Q X:=by
 refine WC.frame [n] ⟨rfl,by simp,fun{i m x} e1 e2=>?_⟩ (by exact s9 rfl (h2 _).symm) (by exact nq rfl h1) w ?_ ?_
 ·cases i with
  |zero=>replace e1:=ae e1;subst e1;replace e2:=ae e2;subst e2;exact⟨rfl,hn⟩
  |succ i=>exact nS e1
 ·intro v H₀ lE
  refine aL lE fun a' gD hc q=>?_
  clear lE
  subst gD
  rw[hc]
  show Q v (putAt _ [n] H [d5 b a']++[])
  rw[cK]
  exact q
 ·intro H₀ mr
  refine bG mr fun jS q=>?_
  clear mr
  refine al jS fun a' ix=>?_
  subst ix
  show X (putAt _ [n] H [d5 b a']++[])
  rw[cK]
  exact q a'
theorem FO (F:eW c){r:Nat}(hb:b.length≤1000000) (hr:r≤1000) (ha:a≤b.length) (q:d9 (gu b a r) P fun v=>R (.int v.1) v.2) :
  WC c (d+2) (.ref 292) [.obj 0,.int r] [d5 b a] (Q1 b R) (X1 b P):=by
 refine WC.v F rfl rfl fun A env E=>?_
 unfold gu at q
 refine⟨hb,?_⟩
 refine⟨fun h=>?_,fun h=>?_⟩
 ·exact⟨ay 1 _,⟨_,rfl⟩,q.neg (by exact aW [_,_,_] [] [.t aB (.a aM cf)] (.N (.L (.a aM cf) aB)) cI rfl h)⟩
 have q:=q.pos (by exact aW [_,_,_] [] [.N (.t aB (.a aM cf))] (.L (.a aM cf) aB) cI rfl h)
 refine⟨1,aA _,rfl,⟨⟨by exact aW [_] [] [] (.l (.n tL) aB) ni rfl,by exact aW [_,_] [] [.L aB jg,.L aM aB] (.t aM tL) uc rfl hb ha⟩,by exact aW [_,_] [] [] (.l (.n tL) (.a aB aM)) ni rfl,by exact aW [_,_,_] [] [.L aB jg,.N (.t aB (.a aM cf))] (.t (.a aM cf) tL) uc rfl hb h⟩,?_⟩
 refine⟨fun i l H=>∃p,l=[some (.obj 0),some (.int r),some (.int ((a:Int)+r)),some (.int (be ((b.drop a).take i))),p]∧H=[d5 b a],⟨none,rfl,rfl⟩,fun _ _ _ _ _=>trivial,?_,?_⟩
 ·intro i x l H hx nT
  refine aq nT fun p jW jY=>?_
  clear nT
  subst jW
  subst jY
  obtain⟨hi,rfl⟩:=fy hx
  refine⟨.of_left (by decide),?_⟩
  refine⟨⟨⟨by exact aW [_,_] [] [] (.l dE (.a aB aM)) ni rfl,by exact aW [_,_,_,_,_] [] [.N (.t aB (.a aM cf)),.T fz jh,.ft jh (.s (.a aM cf) aM)] (.t (.a aM fz) aB) (.o rh (.k [0,0,1,0,1])) rfl h hi (kL _)⟩,by exact b9 hb rfl⟩,?_⟩
  refine .inl ⟨some (.int ((a:Int)+i)),?_,rfl⟩
  rw[J4 _ _ _ (by exact aW [_,_,_,_,_] [] [.N (.t aB (.a aM cf)),.T fz jh,.ft jh (.s (.a aM cf) aM)] (.T (.a aM fz) aB) (.o rh (.k [0,0,1,0,1])) rfl h hi (kL _)),show((a:Int)+i).toNat=a+i by exact rfl]
  exact rfl
 ·intro l H pU
  refine aq pU fun p mU nF=>?_
  clear pU
  subst mU
  subst nF
  rw[fA,show((a:Int)+r-a).toNat=r by exact aW [_,_,_] [] [.ft aB (.s (.a aM cf) aM)] (.E aB cf) (.o (.o jf cM) (.o cI cM)) rfl (kL _)]
  exact .inl ⟨a+r,rfl,fun _=>rfl,q⟩
theorem wW (F:eW c) (r:Nat) (tK:ri=r) (hn:H[n]?=some (d5 b a)) (hb:b.length≤1000000) (ha:a≤b.length) (hr:r≤1000)
  (q:d9 (gu b a r) (∀a',X (H.set n (d5 b a'))) fun v=>Q (.int v.1) (H.set n (d5 b v.2))):WC c (d+2) (.ref 292) [.obj n,.int ri] H Q X:=by
 subst tK
 exact WC.str hn rfl (fun _=>rfl) (FO F hb hr ha q)
theorem Qt {r:Nat}(hr:1≤r∧r≤4):((256:Int)^((r:Int)-1).toNat)=((256^(r-1):Nat):Int):=by
 have MA:r=1∨r=2∨r=3∨r=4:=by exact aW [_] [] [.L bP aB,.L aB iE] (.O (.E aB bP) (.O (.E aB jN) (.O (.E aB pM) (.E aB iE)))) (.o (.o (.o (.o (.k [0,0,0,1,0,1]) jf) (.o (.k [0,1,0,1]) jf)) (.o (.o (.k [0,0,1,1]) jf) (.o (.k [0,1,0,1]) jf))) (.o (.o (.o (.k [0,0,1,1]) cM) (.o xn cM)) (.o (.o xn cI) (.o cI (.k [1,0,0,0,1]))))) rfl hr.1 hr.2
 rcases MA with rfl | rfl | rfl | rfl<;>decide
theorem GR (F:eW c){r:Nat}(hb:b.length≤1000000) (hr:1≤r∧r≤4) (ha:a≤b.length) (q:d9 (mJ b a r) P fun v=>R (.int v.1) v.2) :
  WC c (d+3) (.ref 299) [.obj 0,.int r] [d5 b a] (Q1 b R) (X1 b P):=by
 refine WC.v F rfl rfl fun A env E=>?_
 refine wW F r rfl (by rfl) hb ha (by exact b9 hr.2 rfl) ?_
 unfold mJ at q
 cases e:gu b a r with
 |none=>rw[e] at q;exact fun a'=>⟨⟨_,rfl⟩,q⟩
 |some v=>
  rw[e] at q
  have hp:fc 256=9:=by decide +kernel
  refine WV.BS (by exact aW [_] [] [.L bP aB] (.l dE (.s aB bP)) cI rfl hr.1) (by rw[hp];exact aW [_] [] [.L aB iE] (.l (.m 9 (.s aB bP)) (.l 134217728)) (.k [1,9]) rfl hr.2) ?_
  rw[Qt hr]
  refine⟨.of_left (by decide),?_⟩
  have q:R (.int (Rd v.1 r)) v.2:=q
  unfold Rd at q
  refine⟨fun h=>?_,fun h=>?_⟩
  ·rw[if_pos (by exact aW [_,_] [] [.l (.m 128 aB) aM] (.L (.m 128 aB) aM) cI rfl h)] at q
   exact⟨.of_left (by decide),.inl ⟨_,rfl,fun _=>rfl,by
    push_cast at q ⊢
    exact q⟩⟩
  ·rw[if_neg (by exact aW [_,_] [] [.N (.l (.m 128 aB) aM)] (.N (.L (.m 128 aB) aM)) cI rfl h)] at q
   exact .inl ⟨_,rfl,fun _=>rfl,q⟩
theorem ir (F:eW c) (r:Nat) (tK:ri=r) (hn:H[n]?=some (d5 b a)) (hb:b.length≤1000000) (ha:a≤b.length) (hr:1≤r∧r≤4)
  (q:d9 (mJ b a r) (∀a',X (H.set n (d5 b a'))) fun v=>Q (.int v.1) (H.set n (d5 b v.2))):WC c (d+3) (.ref 299) [.obj n,.int ri] H Q X:=by
 subst tK
 exact WC.str hn rfl (fun _=>rfl) (GR F hb hr ha q)
theorem clipAt_nat (n a:Nat):QK n a=min a n:=by
 unfold QK
 rw[if_neg (jE.mpr (fR a)),show(max 0 (min (a:Int) (n:Int)))=((min a n:Nat):Int) from ?_]
 ·rfl
 rcases Cc a n with h | h
 ·rw[fv h,wK (dY.mpr h)];exact og (fR _)
 ·rw[oa h,vR (dY.mpr h)];exact og (fR _)
theorem GP {β:Type}{xs:List β}{lo hi:Int}(a b:Nat) (h1:lo=a) (h2:hi=b):lL (some lo) (some hi) xs=(xs.drop a).take (b-a):=by
 subst h1 h2
 unfold lL
 simp only[tE,clipAt_nat]
 by_cases h:xs.length≤a
 ·rw[dM h,dM (by exact aW [_,_,_] [] [.L aB aM,.fm cf aM aB] (.L aB cf) (.o nY jf) rfl h (AJ _ _))];simp
 ·rw[fv (show a≤xs.length by exact dz (bp h))]
  by_cases h2:b≤xs.length
  ·rw[fv h2]
  ·rw[oa (by exact dz (bp h2)),dK (by rw[aJ];exact lM 0 rfl),dK (by rw[aJ];exact aW [_,_,_,_,_] [] [.N (.L aB aM),.fs cf aM fz,.fs jh aB fz] (.L cf jh) (.o (.o (.k [1,0,0,1,0,1,0,1]) (.k [1,1,0,0,0,1,0,1])) (.o pJ pJ)) rfl h2 (eR _ _) (eR _ _))]
theorem J8 (F:eW c){r:Nat}(hb:b.length≤1000000) (ha:a≤b.length) (q:d9 (wu b a r) P fun v=>R (.d8 v.1) v.2) :
  WC c (d+2) (.ref 306) [.obj 0,.int r] [d5 b a] (Q1 b R) (X1 b P):=by
 refine WC.v F rfl rfl fun A env E=>?_
 unfold wu at q
 refine⟨hb,⟨fun h=>?_,fun h=>?_⟩⟩
 ·exact⟨ay 1 _,⟨_,rfl⟩,q.neg (by exact aW [_,_,_] [] [.t aB (.a aM cf)] (.N (.L (.a aM cf) aB)) cI rfl h)⟩
 have q:=q.pos (by exact aW [_,_,_] [] [.N (.t aB (.a aM cf))] (.L (.a aM cf) aB) cI rfl h)
 refine⟨hb,.inl ⟨a+r,rfl,fun _=>rfl,?_⟩⟩
 rw[GP a (a+r) rfl (by simp),fq]
 exact q
theorem Ia (F:eW c) (r:Nat) (tK:ri=r) (hn:H[n]?=some (d5 b a)) (hb:b.length≤1000000) (ha:a≤b.length)
  (q:d9 (wu b a r) (∀a',X (H.set n (d5 b a'))) fun v=>Q (.d8 v.1) (H.set n (d5 b v.2))):WC c (d+2) (.ref 306) [.obj n,.int ri] H Q X:=by
 subst tK
 exact WC.str hn rfl (fun _=>rfl) (J8 F hb ha q)
theorem L2 (F:eW c) (hb:b.length≤1000000) (ha:a≤b.length) (q:d9 (nu b a) P fun v=>R (.tup [.int v.1.1,.int v.1.2.1,.int v.1.2.2]) v.2):WC c (d+4) (.ref 383) [.obj 0] [d5 b a] (Q1 b R) (X1 b P):=by
 refine WC.v F rfl rfl fun A env E=>?_
 refine ir F 4 rfl (by rfl) hb ha (by decide) (q.bind (fun p _=>⟨⟨_,rfl⟩,p⟩) fun y e q=>?_)
 refine ir F 4 rfl (by rfl) hb (oW e).2 (by decide) (q.bind (fun p _=>⟨⟨_,rfl⟩,p⟩) fun y e q=>?_)
 refine ir F 4 rfl (by rfl) hb (oW e).2 (by decide) (q.bind (fun p _=>⟨⟨_,rfl⟩,p⟩) fun y e q=>?_)
 refine⟨_,_,_,rfl,fun h=>⟨ay 1 _,⟨_,rfl⟩,q.pos h⟩,fun h=>.inl ⟨_,rfl,fun _=>rfl,q.neg h⟩⟩
theorem zO (F:eW c) (hn:H[n]?=some (d5 b a)) (hb:b.length≤1000000) (ha:a≤b.length)
  (q:d9 (nu b a) (∀a',X (H.set n (d5 b a'))) fun v=>Q (.tup [.int v.1.1,.int v.1.2.1,.int v.1.2.2]) (H.set n (d5 b v.2))):WC c (d+4) (.ref 383) [.obj n] H Q X:=
 WC.str hn rfl (fun _=>rfl) (L2 F hb ha q)
end
end
section
open PySem PySem.W PySem.Calls PyProof.Rows
noncomputable def E6.av (s:E6):AV:=.tup [.int s.h,.int s.v,.int s.w,.int s.x,.int s.y,.int s.z]
noncomputable def n9.av:n9→AV
 |.char h v f c=>.tup [.int 0,.int h,.int v,.int f,.int c]
 |.rule h v a b=>.tup [.int 1,.int h,.int v,.int a,.int b]
 |.spec h v t=>.tup [.int 2,.int h,.int v,.d8 t]
noncomputable def mj.av (r:mj):AV:=.tup [.int r.check,.int r.size,.int r.bW,.int r.fk,.d8 r.name]
noncomputable def ji (p:Int×mj):Int×AV:=(p.1,p.2.av)
noncomputable def eY (p:Int×Int):Int×AV:=(p.1,.tup [.int p.2,.int 0,.int 0,.int 0,.int 0,.int 0])
noncomputable abbrev CP (s:fE) (k r:Nat):ag:=.inst 351 [("h",.int s.cz.h),("v",.int s.cz.v),("w",.int s.cz.w),("x",.int s.cz.x),("y",.int s.cz.y),("z",.int s.cz.z),("font",.int s.qK),("stack",.obj k),("deepest",.int s.deep),("rows",.obj r)]
noncomputable abbrev jx (dk:Int) (name:bu) (UP:Int) (par ch:Nat):ag:=.inst 246 [("number",.int dk),("name",.str name),("size",.int 655360),("design",.int 655360),("check",.int UP),("params",.obj par),("chars",.obj ch),
 ("program",.tup []),("kerns",.tup []),("boundary",.int 256),("edge_start",.int (-1)),("hyphen_char",.int 45),("skew_char",.int (-1))]
noncomputable abbrev nE:ag:=.list [.int 0,.int 196608,.int 98304,.int 65536,.int 262144,.int 655360,.int 65536]
noncomputable abbrev FC (T:List ag):List ag:=.dict [(3,.obj 1),(200,.obj 2)]::jx 3 "fc" 0 5 3::jx 200 "fhz" 77 6 4::.dict (tg.map eY)::.dict (gT.map eY)::nE::nE::T
structure Wd where
 b:List UInt8
 (dv pg g:ag)
 T:List ag
noncomputable abbrev Wd.D (w:Wd) (a:Nat) (kn:Known) (T:List ag):List ag:=FC (d5 w.b a::w.dv::w.pg::.dict (kn.map ji)::T)
noncomputable abbrev Wd.S (w:Wd) (a:Nat) (kn:Known) (s:fE):List ag:=w.D a kn (w.g::CP s 13 14::.list (s.stack.map E6.av)::.list (s.rows.map n9.av)::w.T)
section
variable {c:Cx}{d:Nat}{Q:AV→List ag→Prop}{X:List ag→Prop}{a:Nat}{w:Wd}{s:fE}{kn:Known}{P:Prop}
theorem PH (F:eW c) (hz:s.stack.length≤100000) (q:Q .none (w.S a kn s.push)):WC c (d+1) (.ref 334) [.obj 12] (w.S a kn s) Q X:=by
 refine WC.v F rfl rfl fun A env E=>?_
 refine⟨by rw[aa];exact b9 hz rfl,?_⟩
 refine⟨by rw[ah,aa];exact az (cR hz 1) (by decide),.inl ?_⟩
 have e1:s.push.stack.map E6.av=s.stack.map E6.av++[s.cz.av]:=aF
 have e2:s.push.deep=max s.deep (((s.stack.map E6.av++[s.cz.av]).length:Nat):Int):=by rw[ah,aa];rfl
 unfold Wd.S CP at q
 rw[e1,e2] at q
 exact q
theorem R5 (F:eW c) (hz:s.stack.length≤100000) (q:d9 s.pop (X (w.S a kn s)) fun s=>Q .none (w.S a kn s)):WC c (d+2) (.ref 341) [.obj 12] (w.S a kn s) Q X:=by
 refine WC.v F rfl rfl fun A env E=>?_
 unfold fE.pop at q
 refine⟨by rw[aa];exact b9 hz rfl,⟨fun h=>?_,fun h=>?_⟩⟩
 ·rw[aa] at h
  rw[List.eq_nil_of_length_eq_zero (l:=s.stack) (by exact mF h)] at q
  exact⟨ay 1 _,q⟩
 ·rw[aa] at h
  obtain⟨st,t,i4⟩:∃st t,s.stack=st++[t]:=by
   rcases Cs s.stack with e | ⟨st,t,e⟩
   ·rw[e] at h;exact absurd rfl h
   ·exact⟨st,t,by rw[e,Cu]⟩
  rw[i4,DA,DB] at q
  refine WV.pop (vs:=st.map E6.av) (a:=t.av) (show some (ag.list (s.stack.map E6.av))=_ by rw[i4,aF];rfl) (by rw[i4,ah] at hz;rw[aa];exact aW [_,_] [] [.L (.a aB aM) r7] (.L aB jg) cI rfl hz) ?_
  exact .inl q
theorem r8 {i:Int}:¬((if i<0 then -i else i)>2147483647)↔i.natAbs≤2147483647:=by rw[ite_abs];exact⟨fun h=>ZM h rfl,fun h q=>bL h (cZ.mp q)⟩
theorem Ex (F:eW c){x y:Int}(q:d9 (s.go x y) (X (w.S a kn s)) fun s=>Q .none (w.S a kn s)):WC c (d+2) (.ref 348) [.obj 12,.int x,.int y] (w.S a kn s) Q X:=by
 refine WC.v F rfl rfl fun A env E=>?_
 refine⟨fun h=>?_,fun h=>?_⟩
 ·exact⟨ay 1 _,q.neg fun z=>absurd (r8.mpr z.1) (by simpa using h)⟩
 ·refine⟨fun h2=>?_,fun h2=>?_⟩
  ·exact⟨ay 1 _,q.neg fun z=>absurd (r8.mpr z.2) (by simpa using h2)⟩
  ·exact .inl (q.pos ⟨r8.mp h,r8.mp h2⟩)
end
end
section
open PySem PySem.W PySem.Calls PyProof.Rows
section
variable {c:Cx}{d:Nat}{Q:AV→List ag→Prop}{X:List ag→Prop}{a:Nat}{w:Wd}{s:fE}{kn:Known}{P:Prop}{H:List ag}
theorem hH {ws:List (Int×Int)}{k:Int}:(ws.map eY).lookup k=(ws.lookup k).map fun w=>.tup [.int w,.int 0,.int 0,.int 0,.int 0,.int 0]:=by
 induction ws with
 |nil=>rfl
 |cons p ws ih=>
  obtain⟨a,b⟩:=p
  simp only[et,eY,dJ] at ih ⊢
  cases k==a<;>simp[ih]
theorem sW {ws:List (Int×Int)}{k:Int}:((ws.map eY).lookup k).isSome=(ws.lookup k).isSome:=by rw[hH,dg]
theorem BA (F:eW c){op:Int}(q:Q (.bool (decide (243≤op∧op<247))) H):WC c (d+1) (.ref 395) [.int op] H Q X:=by
 refine WC.v F rfl rfl fun A env E=>?_
 refine⟨fun h=>⟨fun h2=>?_,fun h2=>?_⟩,fun h=>?_⟩
 ·rw[decide_eq_true ⟨h,h2⟩] at q;exact .inl q
 ·rw[decide_eq_false fun z=>h2 z.2] at q;exact .inl q
 ·rw[decide_eq_false fun z=>h z.1] at q;exact .inl q
theorem Xq (F:eW c){code:Int}{T:List ag}(q:Q (.bool (tg.lookup code).isSome) (FC T)):WC c (d+1) (.ref 180) [.obj 1,.int code] (FC T) Q X:=by
 refine WC.v F rfl rfl fun A env E=>?_
 rw[←sW] at q
 exact .inl q
theorem N7 (F:eW c){code:Int}{T:List ag}(q:Q (.bool (gT.lookup code).isSome) (FC T)):WC c (d+1) (.ref 180) [.obj 2,.int code] (FC T) Q X:=by
 refine WC.v F rfl rfl fun A env E=>?_
 rw[←sW] at q
 exact .inl q
theorem OF (F:eW c){code k:Int}{T:List ag}(h:tg.lookup code=some k) (q:Q (.int k) (FC T)):WC c (d+1) (.ref 187) [.obj 1,.int code] (FC T) Q X:=by
 refine WC.v F rfl rfl fun A env E=>?_
 conv=>whnf
 rw[hH,h]
 exact .inl q
theorem IF (F:eW c){code k:Int}{T:List ag}(h:gT.lookup code=some k) (q:Q (.int k) (FC T)):WC c (d+1) (.ref 187) [.obj 2,.int code] (FC T) Q X:=by
 refine WC.v F rfl rfl fun A env E=>?_
 conv=>whnf
 rw[hH,h]
 exact .inl q
theorem jT {rs:List n9}{x:AV}(r:n9) (h:x=r.av):rs.map n9.av++[x]=(rs++[r]).map n9.av:=by rw[aF,h];rfl
theorem zc {f:Int}{code:Nat}(h:255<code):(sE f).lookup (code:Int)=none:=by
 have h1:∀k:Int,k≤255→((code:Int)==k)=false:=fun k hk=>beq_eq_false_iff_ne.mpr (by exact aW [_] [_] [.T (.l 255) aB,.l bJ (.l 255)] (.N (.e aB bJ)) (.k [1,0,1,1]) rfl h hk)
 unfold sE
 split
 ·simp only[tg,dF,h1 65 (by decide),h1 97 (by decide),h1 200 (by decide)]
 ·split
  ·simp only[gT,dF,h1 66 (by decide),h1 98 (by decide),h1 255 (by decide)]
  ·rfl
theorem F7 {f:Int}(h3:¬f=3) (sG:¬f=200):dF f [(3,AV.obj 1),(200,.obj 2)]=none:=by
 simp only[dF,beq_eq_false_iff_ne.mpr h3,beq_eq_false_iff_ne.mpr sG]
theorem Lx {f:Int}(h3:¬f=3) (sG:¬f=200):sE f=[]:=by unfold sE;rw[if_neg h3,if_neg sG]
theorem vr (F:eW c){code:Nat}{mv:Bool}(hz:s.rows.length≤100000) (q:d9 (s.uL code mv) (∀s,X (w.S a kn s)) fun s=>Q .none (w.S a kn s)):WC c (d+3) (.ref 409) [.obj 12,.int code,.obj 0,.bool mv] (w.S a kn s) Q X:=by
 refine WC.v F rfl rfl fun A env E=>?_
 obtain⟨sp,f,st,dp,rs⟩:=s
 have hz:rs.length≤100000:=hz
 have q:=q.bi
 by_cases h3:f=3
 ·subst h3
  have q:(tg.lookup (code:Int)=none→_)∧∀k,tg.lookup (code:Int)=some k→d9 (Qg ⟨sp,3,st,dp,rs⟩ code mv k) _ _:=q
  refine⟨fun h=>⟨ay 1 _,q.1 (zc (f:=3) (rC h rfl)) _⟩,fun h=>Xq F ?_⟩
  cases hw:tg.lookup (code:Int) with
  |none=>exact⟨ay 1 _,q.1 hw _⟩
  |some k=>
   have q:=q.2 k hw
   refine⟨by rw[aa];exact b9 hz rfl,?_⟩
   rw[jT (.char sp.h sp.v 3 code)]
   rotate_left
   ·rfl
   cases mv with
   |false=>exact .inl q
   |true=>exact OF F hw (Ex F (s:=fE.row ⟨sp,3,st,dp,rs⟩ (.char sp.h sp.v 3 code)) (d9.mono q (fun p=>p _) fun _ q=>.inl q))
 by_cases sG:f=200
 ·subst sG
  have q:(gT.lookup (code:Int)=none→_)∧∀k,gT.lookup (code:Int)=some k→d9 (Qg ⟨sp,200,st,dp,rs⟩ code mv k) _ _:=q
  refine⟨fun h=>⟨ay 1 _,q.1 (zc (f:=200) (rC h rfl)) _⟩,fun h=>N7 F ?_⟩
  cases hw:gT.lookup (code:Int) with
  |none=>exact⟨ay 1 _,q.1 hw _⟩
  |some k=>
   have q:=q.2 k hw
   refine⟨by rw[aa];exact b9 hz rfl,?_⟩
   rw[jT (.char sp.h sp.v 200 code)]
   rotate_left
   ·rfl
   cases mv with
   |false=>exact .inl q
   |true=>exact IF F hw (Ex F (s:=fE.row ⟨sp,200,st,dp,rs⟩ (.char sp.h sp.v 200 code)) (d9.mono q (fun p=>p _) fun _ q=>.inl q))
 ·conv=>whnf
  rw[F7 h3 sG]
  exact⟨ay 1 _,q.1 (congrArg (dF _) (Lx h3 sG)) _⟩
theorem G4 (F:eW c){mv:Bool}(hb:w.b.length≤1000000) (ha:a≤w.b.length) (hz:s.rows.length≤100000) (q:d9 (qx w.b a s mv) (∀a s,X (w.S a kn s)) fun v=>Q .none (w.S v.2 kn v.1)) :
  WC c (d+4) (.ref 416) [.obj 7,.obj 12,.bool mv] (w.S a kn s) Q X:=by
 refine WC.v F rfl rfl fun A env E=>?_
 refine ir F 4 rfl (by rfl) hb ha (by decide) (q.bind (fun p _=>p _ _) fun x e q=>?_)
 refine ir F 4 rfl (by rfl) hb (oW e).2 (by decide) (q.bind (fun p _=>p _ _) fun y e q=>?_)
 have l:=(oW e).2
 have q:d9 (UW s mv x.1 y) _ _:=q
 unfold UW at q
 refine⟨fun h=>⟨fun h2=>?_,fun h2=>?_⟩,fun h=>?_⟩
 ·refine⟨by rw[aa];exact b9 hz rfl,?_⟩
  rw[jT (.rule s.cz.h s.cz.v x.1 y.1)]
  rotate_left
  ·rfl
  rw[show MI s x.1 y.1=s.row (.rule s.cz.h s.cz.v x.1 y.1) from if_pos ⟨h,h2⟩] at q
  cases mv with
  |false=>exact .inl q
  |true=>exact Ex F (s:=s.row (.rule s.cz.h s.cz.v x.1 y.1)) (d9.map q (fun p=>p _ _) fun _ q=>.inl q)
 all_goals
  rw[show MI s x.1 y.1=s from if_neg fun z=>by first | exact h z.1 | exact h2 z.2] at q
  cases mv with
  |false=>exact .inl q
  |true=>exact Ex F (d9.map q (fun p=>p _ _) fun _ q=>.inl q)
theorem fx {kn:Known}{k:Int}:(kn.map ji).lookup k=(kn.lookup k).map mj.av:=by
 induction kn with
 |nil=>rfl
 |cons p kn ih=>
  obtain⟨a,b⟩:=p
  simp only[et,ji,dJ] at ih ⊢
  cases k==a<;>simp[ih]
theorem Aa (F:eW c){dk:Int}(q:d9 (s.choose dk kn) (X (w.S a kn s)) fun s=>Q .none (w.S a kn s)):WC c (d+2) (.ref 423) [.obj 12,.int dk,.obj 10] (w.S a kn s) Q X:=by
 refine WC.v F rfl rfl fun A env E=>?_
 unfold fE.choose at q
 conv=>whnf
 rw[fx,dg]
 cases e:(kn.lookup dk).isSome with
 |true=>exact .inl (q.pos e)
 |false=>exact⟨ay 1 _,q.neg (by rw[e];decide)⟩
end
end
section
open PySem PySem.W PySem.Calls PyProof.Rows
theorem gb {β:Type}{xs:List β}{lo:Int}(a:Nat) (h1:lo=a):lL (some lo) none xs=xs.drop a:=by
 subst h1
 unfold lL
 simp only[tE,Fy,clipAt_nat]
 by_cases h:xs.length≤a
 ·rw[dM h,dM (by exact aW [_,_,_] [] [.L aB aM,.fm cf aM aB] (.L aB cf) (.o nY jf) rfl h (AJ _ _))];simp
 ·rw[fv (by exact dz (bp h)),dK (by rw[aJ];exact lM 0 rfl)]
theorem gv.ints {H:List ag}{n m:Nat}{xs ys:List Int}(h1:H[n]?=some (.list (xs.map .int))) (h2:H[m]?=some (.list (ys.map .int))):gv H 1 (.obj n) (.obj m) (decide (xs=ys)):=by
 by_cases hl:xs.length=ys.length
 ·have e:decide (xs=ys)=(bh (xs.map AV.int).length).all fun j=>xs[j]?==ys[j]?:=by
   rw[kY,decide_eq_true_eq,ba,aa]
   refine⟨fun h j _=>beq_iff_eq.mpr (h▸rfl),fun h=>List.ext_getElem hl fun j h1 h2=>?_⟩
   have:=eq_of_beq (h j (de.mpr h1))
   rw[aw h1,aw h2] at this
   exact ae this
  rw[e]
  refine .lst h1 h2 (by rw[aa,aa];exact hl) fun j x y hx hy=>?_
  rw[aK,bB] at hx hy
  refine aq hx fun i hi gD=>?_
  clear hx
  subst gD
  refine aq hy fun k hk ix=>?_
  clear hy
  subst ix
  rw[hi,hk]
  exact .int i k
 ·rw[decide_eq_false (p:=xs=ys) fun q=>hl (congrArg _ q)]
  exact .len h1 h2 (by rw[aa,aa];exact hl)
theorem vG {kvs:List (Int×AV)}{k:Int}{v:AV}(h:kvs.lookup k=none):mu k v kvs=kvs++[(k,v)]:=by
 unfold mu
 rw[if_neg]
 intro q
 refine aq (uo.mp q) fun p hp hk=>?_
 rw[gG] at h
 have:=h p hp
 simp at hk this
 exact this hk.symm
noncomputable def EO:AV→AV
 |.str y=>.int (y.cps.getD 0 0:Nat)
 |_=>.none
theorem FF (x:bu):(x.cps.toList.map fun u=>AV.str ⟨#[u]⟩).map EO=(x.cps.toList.map fun(u:Nat)=>(u:Int)).map .int:=by
 rw[dx,dx];rfl
theorem JN (t:List UInt8):(t.map fun x=>AV.int (x.toNat:Int))=(t.map fun x=>(x.toNat:Int)).map .int:=by
 rw[dx];rfl
theorem D1 {x y:List UInt8}:x.map (fun x=>(x.toNat:Int))=y.map (fun x=>(x.toNat:Int))↔x=y:=by
 refine⟨fun h=>?_,fun h=>by rw[h]⟩
 refine List.map_inj_right (fun a b AO=>?_) |>.mp h
 exact JI.mp (by exact_mod_cast AO)
theorem gv.codes {H:List ag}{n m:Nat}{xs ys:List UInt8}(h1:H[n]?=some (.list (xs.map fun x=>.int (x.toNat:Int)))) (h2:H[m]?=some (.list (ys.map fun x=>.int (x.toNat:Int)))):gv H 1 (.obj n) (.obj m) (decide (xs=ys)):=by
 rw[JN] at h1 h2
 have:=gv.ints h1 h2
 rwa [show decide ((xs.map fun x=>(x.toNat:Int))=ys.map fun x=>(x.toNat:Int))=decide (xs=ys) from decide_eq_decide.mpr D1] at this
theorem rB {x:bu}{i:Nat}{v:AV}(h:(x.cps.toList.map fun u=>AV.str ⟨#[u]⟩)[i]?=some v):∃u:Nat,v=.str ⟨#[u]⟩:=by
 rw[aK] at h
 refine aq (bB.mp h) fun u _ e=>?_
 exact⟨u,e.symm⟩
noncomputable def Q8 (b:List UInt8) (R:AV→Nat→Prop):AV→List ag→Prop:=fun v H=>∃a,H=FC [d5 b a]∧(∀f,oq f v=v)∧R v a
noncomputable def X8 (b:List UInt8) (P:Prop):List ag→Prop:=fun H=>(∃T,H=FC T)∧P
section
variable {c:Cx}{d n:Nat}{H T:List ag}{Q:AV→List ag→Prop}{X:List ag→Prop}{a:Nat}{b:List UInt8}{R:AV→Nat→Prop}{P:Prop}{w:Wd}{s:fE}{kn:Known}
theorem WC.pre {f:ai}{vs:List AV}(h1:mT 8 vs=true) (h2:lK (([0,1,2,3,4,5,6,7]:List Nat).getD · 0) vs=vs) (w:WC c d f vs (FC [d5 b a]) (Q8 b fun v a'=>Q v (FC (d5 b a'::T))) (X8 b (∀T,X (FC T)))) :
  WC c d f vs (FC (d5 b a::T)) Q X:=by
 refine WC.frame [0,1,2,3,4,5,6,7] (.of rfl (by decide) ?_) h2.symm h1 w ?_ ?_
 ·exact⟨⟨rfl,rfl⟩,⟨rfl,rfl⟩,⟨rfl,rfl⟩,⟨rfl,rfl⟩,⟨rfl,rfl⟩,⟨rfl,rfl⟩,⟨rfl,rfl⟩,⟨rfl,rfl⟩,trivial⟩
 ·intro v H₀ mr
  refine aL mr fun a' gD hc q=>?_
  clear mr
  subst gD
  rw[hc]
  show Q v (putAt _ [0,1,2,3,4,5,6,7] (FC (d5 b a::T)) (FC [d5 b a'])++[])
  rw[cK]
  exact q
 ·intro H₀ nT
  refine bG nT fun jS q=>?_
  clear nT
  refine al jS fun T' ix=>?_
  subst ix
  cases T' with
  |nil=>exact q ((d5 b a::T)++_)
  |cons x xs=>exact q ((_::T)++_)
theorem PX (F:eW c){k:Nat}{f g:Int}(hk:k≤13) (hb:b.length≤1000000) (ha:a≤b.length) (q:d9 (nG b k a f g) (∀a,X (FC (d5 b a::T))) fun v=>Q (.tup [.int v.1.1,.int v.1.2.1,.int v.1.2.2]) (FC (d5 b v.2::T))) :
  WC c (d+4) (.ref 402) [.obj 7,.int k,.int f,.int g] (FC (d5 b a::T)) Q X:=by
 refine WC.v F rfl rfl fun A env E=>?_
 unfold nG at q
 refine⟨fun h=>?_,fun h=>⟨fun h2=>⟨fun h3=>?_,fun h3=>?_⟩,fun h2=>⟨fun h3=>?_,fun h3=>?_⟩⟩⟩
 ·rw[if_pos (by exact gV h)] at q
  exact ir F (k+1) (by simp) (by rfl) hb ha (by exact⟨ay _ _,di (gV h)⟩) (q.map id fun _ q=>.inl q)
 ·rw[if_neg (by exact dW h rfl),if_pos (by exact gV h2),if_pos (by exact rC h3 rfl)] at q
  exact ir F (k-4) (by exact rE (CE h)) (by rfl) hb ha (by exact aW [_,_] [] [.t aB (.l 9),.t iE aB,.fs aM aB iE] (.A (.L bP aM) (.L aM iE)) (.o (.o nY ui) (.o vF cM)) rfl h2 h3 (eR _ _)) (q.map id fun _ q=>.inl q)
 ·rw[if_neg (by exact dW h rfl),if_pos (by exact gV h2),if_neg (by exact ti h3 rfl)] at q
  exact .inl q
 ·rw[if_neg (by exact dW h2 rfl),if_neg (by exact dW h2 rfl),if_pos (by exact rC h3 rfl)] at q
  exact ir F (k-9) (by exact rE (CE h2)) (by rfl) hb ha (by exact aW [_,_] [] [.L aB (.l 13),.t (.l 9) aB,.fs aM aB (.l 9)] (.A (.L bP aM) (.L aM iE)) (.o (.o nY ui) (.o vF cM)) rfl hk h3 (eR _ _)) (q.map id fun _ q=>.inl q)
 ·rw[if_neg (by exact dW h2 rfl),if_neg (by exact dW h2 rfl),if_neg (by exact ti h3 rfl)] at q
  exact .inl q
theorem dh (F:eW c){ri:Int}(r:Nat) (tK:ri=r) (hb:b.length≤1000000) (ha:a≤b.length) (hr:r≤1000) (q:d9 (gu b a r) (∀a',X (FC (d5 b a'::T))) fun v=>Q (.int v.1) (FC (d5 b v.2::T))) :
  WC c (d+2) (.ref 292) [.obj 7,.int ri] (FC (d5 b a::T)) Q X:=wW F r tK rfl hb ha hr q
theorem oK (F:eW c){ri:Int}(r:Nat) (tK:ri=r) (hb:b.length≤1000000) (ha:a≤b.length) (hr:1≤r∧r≤4) (q:d9 (mJ b a r) (∀a',X (FC (d5 b a'::T))) fun v=>Q (.int v.1) (FC (d5 b v.2::T))) :
  WC c (d+3) (.ref 299) [.obj 7,.int ri] (FC (d5 b a::T)) Q X:=ir F r tK rfl hb ha hr q
theorem tV (F:eW c){ri:Int}(r:Nat) (tK:ri=r) (hb:b.length≤1000000) (ha:a≤b.length) (q:d9 (wu b a r) (∀a',X (FC (d5 b a'::T))) fun v=>Q (.d8 v.1) (FC (d5 b v.2::T))) :
  WC c (d+2) (.ref 306) [.obj 7,.int ri] (FC (d5 b a::T)) Q X:=Ia F r tK rfl hb ha q
theorem C5 {check size bW:Nat}{nm:List UInt8}:jq 3 check size bW nm=true↔size=655360∧0<bW∧bW≤134217727∧nm=[102,99]:=by
 unfold jq;simp[sm,and_assoc]
theorem xm {check size bW:Nat}{nm:List UInt8}:jq 200 check size bW nm=true↔size=655360∧0<bW∧bW≤134217727∧(check=77∨check=0)∧nm=[102,104,122]:=by
 unfold jq;simp[sm,and_assoc]
theorem LJ {dk check size bW:Nat}{nm:List UInt8}(h3:¬dk=3) (sG:¬dk=200):jq dk check size bW nm=false:=by
 unfold jq sm;rw[if_neg (by exact aW [_] [] [.N (.E aB pM)] (.N (.e aB pM)) (.o xn cM) rfl h3),if_neg (by exact aW [_] [] [.N (.E aB (.l 200))] (.N (.e aB (.l 200))) (.o xn cM) rfl sG)]
theorem OB (F:eW c){op:Nat}(ho:243≤op∧op<247) (hb:b.length≤1000000) (ha:a≤b.length) (q:d9 (me b op a) P fun v=>R (.tup [.int (v.1.1:Nat),v.1.2.av]) v.2) :
  WC c (d+4) (.ref 388) [.obj 7,.int op,.obj 0] (FC [d5 b a]) (Q8 b R) (X8 b P):=by
 refine WC.v F rfl rfl fun A env E=>?_
 refine dh F (op-242) (by exact aW [_,_] [] [.L (.l 243) aB,.fs aM aB (.l 242)] (.e (.a (.s aB (.l 243)) bP) aM) (.o (.o cM jf) (.o jM cI)) rfl ho.1 (eR _ _)) hb ha (by exact rG (rD ho.2 rfl)) (q.bind (fun p _=>⟨⟨_,rfl⟩,p⟩) fun dk e1 q1=>?_)
 refine dh F 4 rfl hb (gL e1).2.1 (by exact(by decide)) (q1.bind (fun p _=>⟨⟨_,rfl⟩,p⟩) fun check e q=>?_)
 refine dh F 4 rfl hb (gL e).2.1 (by exact(by decide)) (q.bind (fun p _=>⟨⟨_,rfl⟩,p⟩) fun size e q=>?_)
 refine dh F 4 rfl hb (gL e).2.1 (by exact(by decide)) (q.bind (fun p _=>⟨⟨_,rfl⟩,p⟩) fun bW e q=>?_)
 refine dh F 1 rfl hb (gL e).2.1 (by exact(by decide)) (q.bind (fun p _=>⟨⟨_,rfl⟩,p⟩) fun fk e q=>?_)
 refine dh F 1 rfl hb (gL e).2.1 (by exact(by decide)) (q.bind (fun p _=>⟨⟨_,rfl⟩,p⟩) fun len e q=>?_)
 refine tV F (fk.1+len.1) (by simp) hb (gL e).2.1 (q.bind (fun p _=>⟨⟨_,rfl⟩,p⟩) fun name e q=>?_)
 have hn:name.1.length≤1000000:=by have:=HM e;rw[Kt e];exact aW [_,_,_,_,_] [] [.L aB jg,.E aM (.a cf (.a fz jh)),.L aM aB] (.L (.a fz jh) jg) (.k [1,1,0,1,1]) rfl hb this.1 this.2
 replace q:d9 (VT dk.1 check.1 size.1 bW.1 fk.1 name) _ _:=q
 generalize dk.1=dk at q ⊢
 generalize check.1=check at q ⊢
 generalize size.1=size at q ⊢
 generalize bW.1=bW at q ⊢
 generalize fk.1=fk at q ⊢
 clear e
 obtain⟨name,a'⟩:=name
 by_cases h3:dk=3
 ·subst h3
  have q0:(¬(size=655360∧0<bW∧bW≤134217727∧name.drop fk=[102,99]))→P:=fun h=>q.neg fun z=>h (C5.mp z)
  have q1:(size=655360∧0<bW∧bW≤134217727∧name.drop fk=[102,99])→_:=fun h=>q.pos (C5.mpr h)
  refine⟨fun h=>⟨ay 1 _,⟨_,rfl⟩,q0 (by exact LO (hU h))⟩,fun h=>⟨fun h2=>⟨fun h4=>?_,fun h4=>⟨ay 1 _,⟨_,rfl⟩,q0 fun q=>h4 (dY.mpr q.2.2.1)⟩⟩,fun h2=>⟨ay 1 _,⟨_,rfl⟩,q0 fun q=>h2 (cZ.mpr q.2.1)⟩⟩⟩
  refine(fun key=>⟨fun _=>⟨fun _=>⟨fun h=>absurd rfl h,fun _=>key⟩,fun _=>key⟩,fun _=>key⟩) ?_
  refine⟨hn,by rw[gb fk rfl,aJ];exact az (sM ..) hn,?_⟩
  refine WE.lc F [14,29,22,103,98] E 8 EO (by rfl) (by decide +kernel) (by rfl) ?_
  refine⟨⟨fun _=>trivial,aE rfl⟩,fun cenv i v acc hv=>?_,?_⟩
  ·refine al (rB hv) fun u jW=>?_
   subst jW
   exact⟨_,rfl,rfl,rfl⟩
  ·refine WO.Ln 1 (by decide) (ay 1 _) (gv.codes (xs:=name.drop fk) (ys:=[102,99]) (by rw[←gb (fk:Nat) rfl];rfl) (by rfl)) ?_
   by_cases h9:name.drop fk=[102,99]
   ·rw[decide_eq_true h9]
    exact dU.ret _ (H₁:=FC [d5 b a']) (by rfl) (by rfl) (by exact aA 8) (by rfl) ⟨_,rfl,fun _=>rfl,q1 ⟨by exact mc h,by exact rC h2 rfl,dY.mp h4,h9⟩⟩
   ·rw[decide_eq_false h9]
    exact⟨ay 1 _,⟨_,rfl⟩,q0 fun z=>h9 z.2.2.2⟩
 by_cases sG:dk=200
 ·subst sG
  have q0:(¬(size=655360∧0<bW∧bW≤134217727∧(check=77∨check=0)∧name.drop fk=[102,104,122]))→P:=fun h=>q.neg fun z=>h (xm.mp z)
  have q1:(size=655360∧0<bW∧bW≤134217727∧(check=77∨check=0)∧name.drop fk=[102,104,122])→_:=fun h=>q.pos (xm.mpr h)
  refine⟨fun h=>⟨ay 1 _,⟨_,rfl⟩,q0 (by exact LO (hU h))⟩,fun h=>⟨fun h2=>⟨fun h4=>?_,fun h4=>⟨ay 1 _,⟨_,rfl⟩,q0 fun q=>h4 (dY.mpr q.2.2.1)⟩⟩,fun h2=>⟨ay 1 _,⟨_,rfl⟩,q0 fun q=>h2 (cZ.mpr q.2.1)⟩⟩⟩
  by_cases NZ:check=77∨check=0
  case neg=>
   exact⟨fun _=>⟨fun _=>⟨fun _=>⟨ay 1 _,⟨_,rfl⟩,q0 fun z=>NZ z.2.2.2.1⟩,fun h=>absurd (by decide) h⟩,fun h=>absurd (.inr (by exact mc h)) NZ⟩,fun h=>absurd (.inl (by exact mc h)) NZ⟩
  refine(fun key=>⟨fun h=>⟨fun h'=>absurd NZ (fun q=>q.elim (fun e=>h (congrArg Int.ofNat e)) fun e=>h' (congrArg Int.ofNat e)),fun _=>key⟩,fun _=>key⟩) ?_
  refine⟨hn,by rw[gb fk rfl,aJ];exact az (sM ..) hn,?_⟩
  refine WE.lc F [14,29,22,103,98] E 8 EO (by rfl) (by decide +kernel) (by rfl) ?_
  refine⟨⟨fun _=>trivial,aE rfl⟩,fun cenv i v acc hv=>?_,?_⟩
  ·refine al (rB hv) fun u jY=>?_
   subst jY
   exact⟨_,rfl,rfl,rfl⟩
  ·refine WO.Ln 1 (by decide) (ay 1 _) (gv.codes (xs:=name.drop fk) (ys:=[102,104,122]) (by rw[←gb (fk:Nat) rfl];rfl) (by rfl)) ?_
   by_cases h9:name.drop fk=[102,104,122]
   ·rw[decide_eq_true h9]
    exact dU.ret _ (H₁:=FC [d5 b a']) (by rfl) (by rfl) (by exact aA 8) (by rfl) ⟨_,rfl,fun _=>rfl,q1 ⟨by exact mc h,by exact rC h2 rfl,dY.mp h4,NZ,h9⟩⟩
   ·rw[decide_eq_false h9]
    exact⟨ay 1 _,⟨_,rfl⟩,q0 fun z=>h9 z.2.2.2.2⟩
 ·have q0:P:=q.neg (by rw[LJ h3 sG];decide)
  conv=>whnf
  rw[F7 (f:=(dk:Int)) (by exact aW [_] [] [.N (.E aB pM)] (.N (.e aB pM)) (.o xn cM) rfl h3) (by exact aW [_] [] [.N (.E aB (.l 200))] (.N (.e aB (.l 200))) (.o xn cM) rfl sG)]
  exact⟨ay 1 _,⟨_,rfl⟩,q0⟩
end
end
section
open PySem PySem.W PySem.Calls PyProof.Rows
section
variable {c:Cx}{d n:Nat}{H T:List ag}{Q:AV→List ag→Prop}{X:List ag→Prop}{a:Nat}{b:List UInt8}{P:Prop}{w:Wd}{s:fE}{kn:Known}
theorem CZ (F:eW c){op:Nat}(ho:243≤op∧op<247) (hb:b.length≤1000000) (ha:a≤b.length) (q:d9 (me b op a) (∀T,X (FC T)) fun v=>Q (.tup [.int (v.1.1:Nat),v.1.2.av]) (FC (d5 b v.2::T))) :
  WC c (d+4) (.ref 388) [.obj 7,.int op,.obj 0] (FC (d5 b a::T)) Q X:=WC.pre rfl rfl (OB F ho hb ha q)
theorem ue {k:Nat}{r:mj}(h:kn.lookup (k:Int)=none):mu (k:Int) r.av (kn.map ji)=(kn++[((k:Int),r)]).map ji:=by
 rw[vG (by rw[fx,h];rfl),aF];rfl
theorem M6 (F:eW c){op:Nat}(ho:243≤op∧op<247) (hb:w.b.length≤1000000) (ha:a≤w.b.length) (hz:kn.length≤1000) (q:d9 (lT w.b op a kn) (∀T,X (FC T)) fun v=>Q .none (w.D v.2 v.1 T)) :
  WC c (d+5) (.ref 430) [.obj 7,.int op,.obj 10,.obj 0] (w.D a kn T) Q X:=by
 refine WC.v F rfl rfl fun A env E=>?_
 refine CZ F ho hb ha (q.bind (fun p=>p) fun v e q=>?_)
 obtain⟨⟨dk,row⟩,a'⟩:=v
 conv=>whnf
 rw[fx,dg]
 cases h:(kn.lookup (dk:Int)).isSome with
 |true=>exact⟨ay 1 _,q.pos h _⟩
 |false=>
  have q:=q.neg (by rw[h];decide)
  refine⟨by rw[aa];exact b9 hz rfl,?_⟩
  rw[ue (by simpa using h)]
  exact .inl q
end
end
section
open PySem PySem.W PySem.Calls PyProof.Rows
section
variable {c:Cx}{d n:Nat}{H T:List ag}{Q:AV→List ag→Prop}{X:List ag→Prop}{a:Nat}{b:List UInt8}{P:Prop}{w:Wd}{s:fE}{kn:Known}
theorem H0 (F:eW c){k:Nat}{ri f g:Int}(tK:ri=k) (hk:k≤13) (hb:b.length≤1000000) (ha:a≤b.length) (q:d9 (nG b k a f g) (∀a,X (FC (d5 b a::T))) fun v=>Q (.tup [.int v.1.1,.int v.1.2.1,.int v.1.2.2]) (FC (d5 b v.2::T))) :
  WC c (d+4) (.ref 402) [.obj 7,.int ri,.int f,.int g] (FC (d5 b a::T)) Q X:=by
 subst tK
 exact PX F hk hb ha q
theorem PW (F:eW c){op:Nat}(hb:w.b.length≤1000000) (ha:a≤w.b.length) (hk:kn.length≤1000) (hr:s.rows.length≤100000) (hs:s.stack.length≤100000)
  (q:d9 (kD w.b op a s kn) (∀T,X (FC T)) fun v=>Q .none (w.S v.2.2 v.2.1 v.1)):WC c (d+6) (.ref 437) [.obj 7,.obj 12,.int op,.obj 10,.obj 0] (w.S a kn s) Q X:=by
 refine WC.v F rfl rfl fun A env E=>?_
 refine⟨fun h=>?_,fun h=>?_⟩
 ·exact vr F hr ((q.pos (by exact gV h)).map (fun p _=>p _) fun _ q=>.inl q)
 have q:=q.neg (by exact dW h rfl)
 refine⟨fun h=>?_,fun h=>?_⟩
 ·refine dh F (op-127) (Po 127 ‹_›) hb ha (by exact aW [_,_] [] [.t aB (.l 132),.fs aM aB (.l 127)] (.L aM (.l 1000)) (.o jM cM) rfl h (eR _ _)) ((q.pos (by exact gV h)).bind (fun p _=>p _) fun v e q=>?_)
  exact vr F hr (d9.map q (fun p _=>p _) fun _ q=>.inl q)
 have q:=q.neg (by exact dW h rfl)
 refine⟨fun h=>?_,fun h=>?_⟩
 ·exact G4 F hb ha hr ((q.pos (by exact mF h)).map (fun p _ _=>p _) fun _ q=>.inl q)
 have q:=q.neg (by exact hU h)
 refine⟨fun h=>?_,fun h=>?_⟩
 ·refine dh F (op-132) (F5 132 ‹_›) hb ha (by exact aW [_,_] [] [.t aB (.l 137),.fs aM aB (.l 132)] (.L aM (.l 1000)) (.o jM cM) rfl h (eR _ _)) ((q.pos (by exact gV h)).bind (fun p _=>p _) fun v e q=>?_)
  exact vr F hr (d9.map q (fun p _=>p _) fun _ q=>.inl q)
 have q:=q.neg (by exact dW h rfl)
 refine⟨fun h=>?_,fun h=>?_⟩
 ·exact G4 F hb ha hr ((q.pos (by exact mF h)).map (fun p _ _=>p _) fun _ q=>.inl q)
 have q:=q.neg (by exact hU h)
 refine⟨fun h=>?_,fun h=>?_⟩
 ·exact .inl (q.pos (by exact mF h))
 have q:=q.neg (by exact hU h)
 refine⟨fun h=>?_,fun h=>?_⟩
 ·exact PH F hs (.inl (q.pos (by exact mF h)))
 have q:=q.neg (by exact hU h)
 refine⟨fun h=>?_,fun h=>?_⟩
 ·exact R5 F hs ((q.pos (by exact mF h)).map (fun p=>p _) fun _ q=>.inl q)
 have q:=q.neg (by exact hU h)
 refine(fun key=>⟨fun h=>⟨fun h2=>?_,fun h2=>key (by exact u0 h2 rfl)⟩,fun h2=>key (by exact vI h2 rfl)⟩:((¬(143≤op∧op<157))→_)→_) (fun h=>?_)
 rotate_left
 ·have q:=q.pos (by exact⟨pT h,gV h2⟩)
  refine H0 F (k:=op-143) (by exact HD h) (by exact aW [_,_] [] [.t aB (.l 157),.fs aM aB (.l 143)] (.L aM (.l 13)) (.o jM cM) rfl h2 (eR _ _)) hb ha (q.bind (fun p _=>p _) fun v e q=>?_)
  exact Ex F (s:={ s with cz:={ s.cz with w:=v.1.2.1,x:=v.1.2.2 } }) (d9.map q (fun p=>p _) fun _ q=>.inl q)
 have q:=q.neg h
 refine(fun key=>⟨fun h=>⟨fun h2=>?_,fun h2=>key (by exact u0 h2 rfl)⟩,fun h2=>key (by exact vI h2 rfl)⟩:((¬(157≤op∧op<171))→_)→_) (fun h=>?_)
 rotate_left
 ·have q:=q.pos (by exact⟨pT h,gV h2⟩)
  refine H0 F (k:=op-157) (by exact HD h) (by exact aW [_,_] [] [.t aB (.l 171),.fs aM aB (.l 157)] (.L aM (.l 13)) (.o jM cM) rfl h2 (eR _ _)) hb ha (q.bind (fun p _=>p _) fun v e q=>?_)
  exact Ex F (s:={ s with cz:={ s.cz with y:=v.1.2.1,z:=v.1.2.2 } }) (d9.map q (fun p=>p _) fun _ q=>.inl q)
 have q:=q.neg h
 refine(fun key=>⟨fun h=>⟨fun h2=>?_,fun h2=>key (by exact u0 h2 rfl)⟩,fun h2=>key (by exact vI h2 rfl)⟩:((¬(171≤op∧op<235))→_)→_) (fun h=>?_)
 rotate_left
 ·have q:=q.pos (by exact⟨pT h,gV h2⟩)
  rw[show(((op-171:Nat):Nat):Int)=(op:Int)-171 by exact aW [_,_] [] [.l (.l 171) aB,.fs aM aB (.l 171)] (.e aM (.s aB (.l 171))) (.o (.o jf cM) (.o cI jM)) rfl h (eR _ _)] at q
  exact Aa F (q.map (fun p=>p _) fun _ q=>.inl q)
 have q:=q.neg h
 refine(fun key=>⟨fun h=>⟨fun h2=>?_,fun h2=>key (by exact u0 h2 rfl)⟩,fun h2=>key (by exact vI h2 rfl)⟩:((¬(235≤op∧op<239))→_)→_) (fun h=>?_)
 rotate_left
 ·refine dh F (op-234) (by exact aW [_,_] [] [.l (.l 235) aB,.fs aM aB (.l 234)] (.e (.a (.s aB (.l 235)) bP) aM) (.o (.o cM jf) (.o jM cI)) rfl h (eR _ _)) hb ha (by exact aW [_,_] [] [.t aB (.l 239),.fs aM aB (.l 234)] (.L aM (.l 1000)) (.o jM cM) rfl h2 (eR _ _)) ((q.pos (by exact⟨pT h,gV h2⟩)).bind (fun p _=>p _) fun v e q=>?_)
  exact Aa F (d9.map q (fun p=>p _) fun _ q=>.inl q)
 have q:=q.neg h
 refine(fun key=>⟨fun h=>⟨fun h2=>?_,fun h2=>key (by exact u0 h2 rfl)⟩,fun h2=>key (by exact vI h2 rfl)⟩:((¬(239≤op∧op<243))→_)→_) (fun h=>?_)
 rotate_left
 ·refine dh F (op-238) (by exact aW [_,_] [] [.l (.l 239) aB,.fs aM aB (.l 238)] (.e (.a (.s aB (.l 239)) bP) aM) (.o (.o cM jf) (.o jM cI)) rfl h (eR _ _)) hb ha (by exact aW [_,_] [] [.t aB (.l 243),.fs aM aB (.l 238)] (.L aM (.l 1000)) (.o jM cM) rfl h2 (eR _ _)) ((q.pos (by exact⟨pT h,gV h2⟩)).bind (fun p _=>p _) fun v e q=>?_)
  refine tV F v.1 rfl hb (gL e).2.1 (d9.map q (fun p _=>p _) fun t q=>?_)
  refine⟨by rw[aa];exact b9 hr rfl,?_⟩
  rw[jT (.spec s.cz.h s.cz.v t.1)]
  rotate_left
  ·rfl
  exact .inl q
 have q:=q.neg h
 refine BA F ?_
 by_cases h:243≤op∧op<247
 ·rw[decide_eq_true (by exact aW [_] [] [.L (.l 243) aB,.T aB (.l 247)] (.A (.l (.l 243) aB) (.t aB (.l 247))) (.o cM cI) rfl h.1 h.2)]
  exact M6 F h hb ha hk ((q.pos h).map id fun _ q=>.inl q)
 ·rw[decide_eq_false (by exact uW h)]
  exact⟨ay 1 _,q.neg h _⟩
end
end
section
open PySem PySem.W PySem.Calls PyProof.Rows
section
variable {c:Cx}{d n:Nat}{H T:List ag}{Q:AV→List ag→Prop}{X:List ag→Prop}{a:Nat}{b:List UInt8}{P:Prop}{w:Wd}{s:fE}{kn:Known}
theorem PU (F:eW c){g:ag}(q:Q .none (w.D a kn [g,CP AN 13 14,.list [],.list []])):WC c (d+1) (.ref 327) [.obj 12] (w.D a kn [g,.inst 351 []]) Q X:=by
 refine WC.v F rfl rfl fun A env E=>?_
 refine(?_:_∨_)
 refine Or.inl ?_
 refine Eq.mpr (congrArg (Q .none) ?_) q
 kernel_rfl
theorem UH (F:eW c){g:ag}(q:Q (.obj 12) (w.D a kn [g,CP AN 13 14,.list [],.list []])):WC c (d+2) (.ref 351) [] (w.D a kn [g]) Q X:=
 WC.mk F rfl (PU F ⟨rfl,q⟩)
end
end
section
open PySem PySem.W PySem.Calls PyProof.Rows
section
variable {c:Cx}{d n:Nat}{H T:List ag}{Q:AV→List ag→Prop}{X:List ag→Prop}{a:Nat}{b:List UInt8}{P:Prop}{w:Wd}{s:fE}{kn:Known}
theorem d9.got {α β:Type}{x:Option α}{f:α→Option β}{y:α}{no:Prop}{ok:β→Prop}(h:d9 (x.bind f) no ok) (e:x=some y):d9 (f y) no ok:=by subst e;exact h
noncomputable abbrev Wd.pe (w:Wd) (iG:List Int):Wd:=⟨w.b,w.dv,w.pg,.list (iG.map .int),[]⟩
inductive PcA (w:Wd) (kn:Known) (a i:Nat) (acc:List AV) (H:List ag):Prop
 |mk (vs:List Int) (a1:Nat) (h1:zT w.b i a=some (vs,a1)) (e:acc=vs.map .int) (eh:H=w.D a1 kn [.list (vs.map .int)])
inductive PcJ (w:Wd) (last:Int) (iG:List Int) (Q:AV→List ag→Prop) (X:List ag→Prop) (i:Nat):Loc→List ag→Prop
 |mk (op a1:Nat) (s:fE) (lY:Known) (q:d9 ((gQ w.b i op a1 s lY).bind (VJ iG)) (∀T,X (FC T)) (fun v=>v.2.2≤w.b.length→v.1.2.rows.length<v.2.2→Q (.tup [.tup (v.1.1.map .int),.obj 12]) ((w.pe v.1.1).S v.2.2 v.2.1 v.1.2)))
  (h1:a1≤w.b.length) (h2:w.b.length-a1≤i) (h3:s.stack.length<a1) (h4:s.rows.length<a1) (h5:eZ lY) :
  PcJ w last iG Q X i [some (.obj 7),some (.int last),some (.obj 10),some (.obj 0),some (.tup (iG.map .int)),some (.obj 12),some (.int op)] ((w.pe iG).S a1 lY s)
structure PgT (b:List UInt8) (n a:Nat) (s:fE) (kn:Known) (v:pH) (z:Nat×Nat) (n':Nat):Prop where
 lt:n'<n
 le:z.2≤b.length
 fu:b.length-z.2≤n'
 st:s.stack.length<a→v.1.stack.length<z.2
 rw:s.rows.length<a→v.1.rows.length<z.2
 kn:eZ kn→eZ v.2.1
theorem Lg {β:Type}{n op:Nat}{k:pH→Option β}{no:Prop}{ok:β→Prop}(ho:op≠140) (hn:b.length-a≤n) (ha:a≤b.length) (q:d9 ((gQ b n op a s kn).bind k) no ok) :
  d9 (kD b op a s kn) no fun v=>v.2.2≤b.length∧d9 (gu b v.2.2 1) no fun z=>∃n',PgT b n a s kn v z n'∧d9 ((gQ b n' z.1 z.2 v.1 v.2.1).bind k) no ok:=by
 cases e5:kD b op a s kn with
 |none=>rw[vj ho e5] at q;exact q
 |some v=>
  have l:=FG _ e5
  refine⟨l.in_ ha,?_⟩
  cases e6:gu b v.2.2 1 with
  |none=>rw[Bf ho e5 e6] at q;exact q
  |some z=>
   refine aL (EW ho hn ha e5 e6) fun n' e e7 h7=>?_
   rw[e7] at q
   have l6:=EU _ e6
   have lt:∀{x y:Nat},x≤y+1→y<a→x<z.2:=fun h h'=>cj h (aV (v3 h') (az (gR l.le) l6.1))
   exact⟨n',⟨e▸d6 n',l6.2,h7,lt l.sr.st,lt l.sr.rw,l.ok⟩,q⟩
theorem Py (F:eW c){last:Int}(hb:w.b.length≤100000) (ha:a≤w.b.length) (hk:eZ kn)
  (q:d9 (nC w.b last a kn) (∀T,X (FC T)) fun v=>v.2.2≤w.b.length→v.1.2.rows.length<v.2.2→Q (.tup [.tup (v.1.1.map .int),.obj 12]) ((w.pe v.1.1).S v.2.2 v.2.1 v.1.2)) :
  WC c (d+7) (.ref 442) [.obj 7,.int last,.obj 10,.obj 0] (w.D a kn []) Q X:=by
 refine WC.v F rfl rfl fun A env E=>?_
 refine WE.lj F [102,106,22,50,6,60,92] E 11 (by rfl) (by decide +kernel) (by rfl) ?_
 refine⟨rfl,⟨by decide,by decide⟩,?_⟩
 refine⟨PcA w kn a,⟨[],a,rfl,rfl,rfl⟩,?_,?_,?_⟩
 ·rintro i acc H ⟨vs,a1,h1,rfl,rfl⟩
  refine⟨trivial,rfl,?_⟩
  have:=BJ h1 ha
  rw[aa];exact aW [_,_,_,_,_] [] [.L aB r7,.E aM (.a cf (.m 4 fz)),.L aM aB,.E jh fz] (.L jh jg) (.k [4,4,0,1,0,1,1]) rfl hb this.1 this.2.1 this.2.2
 ·rintro cenv i v acc H hx ⟨vs,a1,h1,rfl,rfl⟩
  have yQ:=BJ h1 ha
  have hi:=(fy hx).1
  refine oK F 4 rfl (by exact b9 hb rfl) yQ.2.1 (by decide) ?_
  have q0:zT w.b (i+1) a=none→∀T,X (FC T):=fun h=>by
   have:zT w.b 10 a=none:=Gj h (by exact di (ky hi rfl))
   unfold nC at q
   rw[this] at q
   exact q
  rw[vJ,h1] at q0
  cases e:mJ w.b a1 4 with
  |none=>exact fun _=>q0 (by show ke _ (mJ w.b a1 4)=none;rw[e];rfl) _
  |some x=>
   refine⟨rfl,by rw[aa];exact oS yQ.2.2 (rD hi rfl),vs++[x.1],x.2,?_,by rw[aF];rfl,?_⟩
   ·rw[vJ,h1]
    show ke _ (mJ w.b a1 4)=_
    rw[e];rfl
   ·rw[aF];rfl
 ·rintro acc H ⟨iG,a1,h1,rfl,rfl⟩
  rw[fA] at h1
  have h1:zT w.b 10 a=some (iG,a1):=h1
  have l1:=BJ h1 ha
  have q:=d9.got q h1
  refine⟨by rw[aa];exact n8 l1.2.2 rfl,?_⟩
  refine oK F 4 rfl (by exact b9 hb rfl) l1.2.1 (by decide) (q.bind (fun p _=>p _) fun l e q=>?_)
  have l2:=oW e
  refine⟨fun h=>⟨ay 1 _,q.pos h _⟩,fun h=>?_⟩
  have q:=q.neg h
  refine UH F ?_
  refine dh F 1 rfl (by exact b9 hb rfl) l2.2 (by decide) (q.bind (fun p _=>p _) fun op e q=>?_)
  have l3:=gL e
  refine⟨PcJ w last iG Q X,w.b.length-op.2,
   ⟨op.1,op.2,AN,kn,q,l3.2.1,aA _,(show 0<op.2 by exact aW [_,_] [] [.E aB (.a aM bP)] (.T dE aB) cM rfl l3.1),(show 0<op.2 by exact aW [_,_] [] [.E aB (.a aM bP)] (.T dE aB) cM rfl l3.1),hk⟩,?_⟩
  rintro i l H ⟨op,a1,s,lY,q,h1,h2,h3,h4,h5⟩
  have k5:=h5.le
  refine⟨fun ho=>?_,fun ho=>?_⟩
  ·have ho:op≠140:=by exact hU ho
   refine PW F (w:=w.pe iG) (by show w.b.length≤_;exact b9 hb rfl) h1 (by exact b9 k5 rfl) (by exact aW [_,_,_] [] [.L aB r7,.L aM aB,.T cf aM] (.L cf r7) tJ rfl hb h1 h4) (by exact aW [_,_,_] [] [.L aB r7,.L aM aB,.T cf aM] (.L cf r7) tJ rfl hb h1 h3) ((Lg ho h2 h1 q).mono id fun v q=>?_)
   refine dh F (b:=w.b) 1 rfl (by show w.b.length≤_;exact b9 hb rfl) q.1 (by decide) (q.2.mono (fun p _=>p _) fun z q=>?_)
   refine aq q fun n' t q=>?_
   exact .inl ⟨n',t.lt,z.1,z.2,v.1,v.2.1,q,t.le,t.fu,t.st h3,t.rw h4,t.kn h5⟩
  ·have ho:op=140:=by exact mc ho
   subst ho
   rw[uv] at q
   have q:=d9.got q rfl
   refine⟨by rw[aa];exact aW [_,_,_] [] [.L aB r7,.L aM aB,.T cf aM] (.L cf jg) tJ rfl hb h1 h3,⟨fun h=>?_,fun h=>?_⟩⟩
   ·rw[aa] at h
    exact⟨ay 1 _,q.pos (by show s.stack.length>0;exact rC h rfl) _⟩
   ·rw[aa] at h
    exact .inl (q.neg (by show ¬s.stack.length>0;exact ti h rfl) h1 h4)
end
end
section
open PySem PySem.W PySem.Calls PyProof.Rows
section
variable {c:Cx}{d n:Nat}{H T:List ag}{Q:AV→List ag→Prop}{X:List ag→Prop}{a:Nat}{b:List UInt8}{P:Prop}{w:Wd}{s:fE}{kn:Known}
theorem Cz {H:List ag}{x y:mj}:gv H 1 x.av y.av (decide (x=y)):=by
 obtain⟨c,s,d,a,n⟩:=x
 obtain⟨c',s',d',a',n'⟩:=y
 refine .tupS (.cons (.int c c') (.cons (.int s s') (.cons (.int d d') (.cons (.int a a') (.cons (.d8 n n') .nil))))) (kY.mpr ⟨fun h=>?_,fun h=>?_⟩)
 ·have h1:=aR.mp h
  have h2:=aR.mp h1.2
  have h3:=aR.mp h2.2
  have h4:=aR.mp h3.2
  cases fY (eq_of_beq h1.1)
  cases fY (eq_of_beq h2.1)
  cases fY (eq_of_beq h3.1)
  cases fY (eq_of_beq h4.1)
  cases eq_of_beq (aR.mp h4.2).1
  exact decide_eq_true rfl
 ·cases of_decide_eq_true h
  exact ba.mpr fun b hb=>by
   simp only[beq_self_eq_true,br,bY,or_false,or_self] at hb
   exact hb
inductive PfJ (w:Wd) (kn:Known) (Q:AV→List ag→Prop) (X:List ag→Prop) (i:Nat):Loc→List ag→Prop
 |mk (op a1:Nat) (told:Known) (x1 x2:Option AV) (q:d9 ((gO w.b kn i op a1 told).bind (Vp kn)) (∀T,X (FC T)) (fun a'=>a'≤w.b.length→∀told:Known,Q .none (w.D a' kn [.dict (told.map ji)])))
  (h1:a1≤w.b.length) (h2:w.b.length-a1≤i) (h3:told.length<a1) :
  PfJ w kn Q X i [some (.obj 7),some (.obj 10),some (.obj 0),some (.obj 11),some (.int op),x1,x2] (w.D a1 kn [.dict (told.map ji)])
structure PfT (b:List UInt8) (n a:Nat) (v:UJ) (n':Nat):Prop where
 lt:n'<n
 le:a+1≤v.2.1∧v.2.1≤b.length
 fu:b.length-v.2.1≤n'
theorem K9 {β:Type}{n op:Nat}{told:Known}{k:Known×Nat→Option β}{no:Prop}{ok:β→Prop}(ho:op≠249) (hn:b.length-a≤n) (q:d9 ((gO b kn n op a told).bind k) no ok) :
  d9 (mn b kn op a told) no fun v=>∃n',PfT b n a v n'∧d9 ((gO b kn n' v.1 v.2.1 v.2.2).bind k) no ok:=by
 cases e:mn b kn op a told with
 |none=>rw[w8 ho e] at q;exact q
 |some v=>
  refine aL (Ei ho e hn) fun n' e1 e7 h7=>?_
  rw[e7] at q
  exact⟨n',⟨e1▸d6 n',CI _ e,h7⟩,q⟩
theorem yt (F:eW c) (hb:w.b.length≤100000) (ha:a≤w.b.length) (hk:kn.length≤1000)
  (q:d9 (jc w.b a kn) (∀T,X (FC T)) fun a'=>a'≤w.b.length→∀told:Known,Q .none (w.D a' kn [.dict (told.map ji)])) :
  WC c (d+6) (.ref 449) [.obj 7,.obj 10,.obj 0] (w.D a kn []) Q X:=by
 refine WC.v F rfl rfl fun A env E=>?_
 refine dh F 1 rfl (by exact b9 hb rfl) ha (by decide) (q.bind (fun p _=>p _) fun op e q=>?_)
 have l1:=gL e
 refine⟨PfJ w kn Q X,w.b.length-op.2,⟨op.1,op.2,[],none,none,q,l1.2.1,aA _,(show 0<op.2 by exact aW [_,_] [] [.E aB (.a aM bP)] (.T dE aB) cM rfl l1.1)⟩,?_⟩
 rintro i l H ⟨op,a1,told,x1,x2,q,h1,h2,h3⟩
 refine⟨fun ho=>?_,fun ho=>?_⟩
 ·have ho:op≠249:=by exact hU ho
  have t:=K9 ho h2 q
  refine BA F ?_
  by_cases lJ:243≤op∧op<247
  ·rw[decide_eq_true ⟨dY.mpr lJ.1,cZ.mpr lJ.2⟩]
   refine CZ F lJ (by exact b9 hb rfl) h1 ((t.pos lJ).bind (fun p=>p) fun v e q=>?_)
   conv=>whnf
   rw[fx,dg]
   cases ht:told.lookup (v.1.1:Int) with
   |some _=>exact⟨ay 1 _,d9.pos q (.inl (by rw[ht];rfl)) _⟩
   |none=>
    conv=>whnf
    rw[fx]
    cases ya:kn.lookup (v.1.1:Int) with
    |none=>exact WO.WH (ay 1 _) ⟨ay 1 _,d9.pos q (.inr fun z=>nS (ya.symm.trans z)) _⟩
    |some J5=>
     refine WO.Ln 1 (by decide) (ay 1 _) Cz ?_
     by_cases hr:J5=v.1.2
     ·have q:=d9.neg q fun z=>z.elim (fun z=>by rw[ht] at z;exact fT z) fun z=>z (ya.trans (congrArg some hr))
      subst hr
      rw[decide_eq_true rfl]
      refine⟨by rw[aa];exact b9 (az (dz h3) (az h1 hb)) rfl,?_⟩
      rw[ue ht]
      refine dh F 1 rfl (by exact b9 hb rfl) (Er e).2 (by decide) (d9.map q (fun p _=>p _) fun z q=>?_)
      refine aq q fun n' t q=>?_
      exact .inl ⟨n',t.lt,_,_,_,_,_,q,t.le.2,t.fu,by rw[ah];exact aV (v3 h3) t.le.1⟩
     ·rw[decide_eq_false hr]
      exact⟨ay 1 _,d9.pos q (.inr fun z=>hr (ae (ya.symm.trans z))) _⟩
  ·rw[decide_eq_false (by exact uW lJ)]
   have t:=t.neg lJ
   refine⟨fun mE=>⟨ay 1 _,d9.pos t (hU mE) _⟩,fun mE=>?_⟩
   refine dh F 1 rfl (by exact b9 hb rfl) h1 (by decide) (d9.map (d9.neg t fun z=>z (mc mE)) (fun p _=>p _) fun z q=>?_)
   refine aq q fun n' t q=>?_
   exact .inl ⟨n',t.lt,z.1,z.2,told,x1,x2,q,t.le.2,t.fu,aV h3 (m9 t.le.1)⟩
 ·have ho:op=249:=by exact mc ho
  subst ho
  rw[uC] at q
  have q:=d9.got q rfl
  refine⟨by rw[aa];exact aW [_,_,_] [] [.L aB r7,.L aM aB,.T cf aM] (.L cf jg) tJ rfl hb h1 h3,?_⟩
  refine⟨by rw[aa];exact b9 hk rfl,⟨fun h=>?_,fun h=>?_⟩⟩
  ·rw[aa,aa] at h
   exact⟨ay 1 _,q.pos (by show told.length≠kn.length;exact Gf h) _⟩
  ·rw[aa,aa] at h
   exact .inl (q.neg (by show ¬told.length≠kn.length;exact aW [_,_] [] [.N (.N (.e aB aM))] (.N (.N (.E aB aM))) (.o cM cI) rfl h) h1 told)
end
end
section
open PySem PySem.W PySem.Calls PyProof.Rows
section
variable {c:Cx}{d n:Nat}{H T:List ag}{Q:AV→List ag→Prop}{X:List ag→Prop}{a:Nat}{b:List UInt8}{P:Prop}{w:Wd}{s:fE}{kn:Known}{v:g6}
theorem CD {α:Type} [BEq α] [LawfulBEq α] [DecidableEq α] {x y:α}:(x==y)=decide (x=y):=kY.mpr (beq_iff_eq.trans (decide_eq_true_iff ..).symm)
theorem zd {H:List ag}{x y z x' y' z':Int}:gv H 1 (.tup [.int x,.int y,.int z]) (.tup [.int x',.int y',.int z']) (decide ((x,y,z)=(x',y',z'))):=by
 refine .tupS (.cons (.int x x') (.cons (.int y y') (.cons (.int z z') .nil))) ?_
 rw[←CD]
 exact congrArg (x==x'&&·) (congrArg (y==y'&&·) (yU _))
noncomputable abbrev Td (v:g6):ag:=.inst 372 [("units",.tup [.int v.units.1,.int v.units.2.1,.int v.units.2.2]),("comment",.d8 v.comment),("pages",.obj 9),("fonts",.obj 10),("tallest",.int v.lX),("widest",.int v.widest),("deepest",.int v.il)]
noncomputable def uj (p:List Int×List n9):AV:=.tup [.tup (p.1.map .int),.tup (p.2.map n9.av)]
noncomputable abbrev Wv (b:List UInt8) (v:g6) (g:ag):Wd:=⟨b,Td v,.list (v.ca.map uj),g,[]⟩
theorem fC {k:Nat}:∀{is:List Int},mT k (is.map .int)=true:=by
 intro us
 induction us with
 |nil=>
  exact rfl
 |cons i is ih=>
  exact nq rfl ih
theorem j8 {α:Type}{k:Nat}{f:α→AV}(h:∀x,vq k (f x)=true):∀{l:List α},mT k (l.map f)=true:=by
 intro us
 induction us with
 |nil=>
  exact rfl
 |cons x l ih=>
  exact nq (h x) ih
theorem xG {k:Nat}:∀r:n9,vq k r.av=true
 |.char ..=>rfl
 |.rule ..=>rfl
 |.spec ..=>rfl
theorem xH {k:Nat}{vs:List AV}(h:mT k vs=true):vq k (.tup vs)=true:=h
theorem tU {k:Nat}(p:List Int×List n9):vq k (uj p)=true:=by
 unfold uj
 exact xH (nq (xH fC) (nq (xH (j8 xG)) rfl))
theorem sD {k:Nat}:∀{kn:Known},mx k (kn.map ji)=true:=by
 intro us
 induction us with
 |nil=>
  exact rfl
 |cons p kn ih=>
  exact nq rfl ih
theorem okD {g:ag}:tv 11 ((Wv b v g).D a v.cJ [])=true:=by
 have e1:yO 11 (.list (v.ca.map uj))=true:=j8 tU
 have e2:yO 11 (.dict (v.cJ.map ji))=true:=sD
 unfold tv
 rw[ba]
 intro x hx
 simp only[br,bY,or_false] at hx
 rcases hx with rfl | rfl | rfl | rfl | rfl | rfl | rfl | rfl | rfl | rfl | rfl
 all_goals first | rfl | exact e1 | exact e2
noncomputable def yD:AV→Bool
 |.int i=>decide (i≠223)
 |_=>false
theorem K8 (t:List UInt8):(t.map fun x=>AV.int (x.toNat:Int)).filter yD=((t.filter fun x=>x != 223).map fun x=>(x.toNat:Int)).map .int:=by
 induction t with
 |nil=>rfl
 |cons x t ih=>
  have hx:yD (.int (x.toNat:Int))=(x != 223):=by
   unfold yD
   rw[kY]
   simp only[ne_eq,decide_eq_true_eq,bne_iff_ne]
   rw[←JI]
   show ¬((x.toNat:Int)=223)↔¬(x.toNat=223)
   exact not_congr ⟨mF,congrArg Int.ofNat⟩
  rw[et,JJ,JJ,hx,ih]
  cases x != 223<;>rfl
theorem NU:hN (nu b a) fun u=>a≤u.2∧u.2≤b.length:=
 .cU J2 fun _ h1=>.cU J2 fun _ h2=>.cU J2 fun _ h3=>.ite (fun _=>.none) fun _=>.some ⟨az h1.1 (az h2.1 h3.1),h3.2⟩
theorem vK {u:(Int×Int×Int)×Nat}(h:nu b a=some u):a≤u.2∧u.2≤b.length:=NU _ h
theorem Pz (F:eW c){g:ag}{last:Int}(hb:b.length≤100000) (ha:a≤b.length) (h1:1≤a) (hz:v.ca.length≤100000) (hk:v.cJ.length≤1000)
  (q:d9 (sb b a last v) (∀T,X (FC T)) fun v'=>∀a',Q .none ((Wv b v' g).D a' v'.cJ [])) :
  WC c (d+8) (.ref 454) [.obj 7,.obj 8,.int last,.obj 0] ((Wv b v g).D a v.cJ []) Q X:=by
 refine WC.v F rfl rfl fun A env E=>?_
 have nW:b.length≤1000000:=by exact b9 hb rfl
 refine oK F (b:=b) 4 rfl nW ha (by decide) (q.bind (fun p _=>p _) fun l e q=>?_)
 have l1:=oW e
 refine⟨fun h=>⟨ay 1 _,q.pos h _⟩,fun h=>?_⟩
 have q:=q.neg h
 refine zO F (by rfl) nW l1.2 (q.bind (fun p _=>p _) fun u e q=>?_)
 have l2:=vK e
 refine WO.Ln 1 (by decide) (ay 1 _) zd ?_
 by_cases hu:u.1=v.units
 case neg=>
  rw[decide_eq_false hu]
  exact⟨ay 1 _,q.pos hu _⟩
 rw[decide_eq_true hu]
 have q:=q.neg (fun h=>h hu)
 refine oK F (b:=b) 4 rfl nW l2.2 (by decide) (q.bind (fun p _=>p _) fun pX e q=>?_)
 have l3:=oW e
 refine oK F (b:=b) 4 rfl nW l3.2 (by decide) (q.bind (fun p _=>p _) fun wide e q=>?_)
 have l4:=oW e
 refine dh F (b:=b) 2 rfl nW l4.2 (by decide) (q.bind (fun p _=>p _) fun deep e q=>?_)
 have l5:=gL e
 refine⟨fun h=>⟨ay 1 _,q.pos h _⟩,fun h=>?_⟩
 have q:=q.neg h
 refine dh F (b:=b) 2 rfl nW l5.2.1 (by decide) (q.bind (fun p _=>p _) fun ca e q=>?_)
 have l6:=gL e
 refine⟨by rw[aa];exact b9 hz rfl,?_⟩
 refine⟨by decide,?_⟩
 refine⟨fun h=>⟨ay 1 _,q.pos (by rw[aa] at h;exact fun q=>h (congrArg Int.ofNat q)) _⟩,fun h=>?_⟩
 have q:=q.neg (by rw[aa] at h;exact fun q=>h fun e=>q (fY e))
 refine yt F (w:=Wv b { v with lX:=pX.1,widest:=wide.1 } g) (kn:=v.cJ) hb l6.2.1 hk (q.bind (fun p=>p) fun a7 e q ha7 told=>?_)
 refine dh F (b:=b) 4 rfl nW ha7 (by decide) (q.bind (fun p _=>p _) fun bg e q=>?_)
 have l8:=gL e
 refine⟨fun h=>⟨ay 1 _,q.pos (by exact aW [_,_,_] [] [.L bP aB,.N (.e aM (.s aB bP)),.fs cf aB bP] (.N (.E aM cf)) (.o (.o (.k [0,1,0,0,1,1]) (.k [0,0,1,0,0,1])) (.o (.k [1,0,0,1,0,1]) (.k [1,0,0,1,0,1,1]))) rfl h1 h (eR _ _)) _⟩,fun h=>?_⟩
 have q:=q.neg (by exact aW [_,_,_] [] [.N (.N (.e aB (.s aM bP))),.fs cf aM bP] (.N (.N (.E aB cf))) (.o (.o ui nY) (.o cM rj)) rfl h (eR _ _))
 refine dh F (b:=b) 1 rfl nW l8.2.1 (by decide) (q.bind (fun p _=>p _) fun id e q=>?_)
 have l9:=gL e
 refine⟨fun h=>⟨ay 1 _,q.pos (by exact hU h) _⟩,fun h=>?_⟩
 have q:=q.neg (by exact aW [_] [] [.N (.N (.e aB jN))] (.N (.N (.E aB jN))) (.o cM cI) rfl h)
 refine⟨by exact nW,?_⟩
 have htk:wu b id.2 (b.length-id.2)=some (b.drop id.2,b.length):=by
  unfold wu;rw[if_pos (bF (Fz l9.2.1)),dK (by rw[aJ];exact lM 0 rfl),show id.2+(b.length-id.2)=b.length from Fz l9.2.1]
 refine tV F (b:=b) (b.length-id.2) (Ri l9.2.1).symm nW l9.2.1 ?_
 rw[htk]
 have SJ:(b.drop id.2).length=b.length-id.2:=aJ ..
 refine⟨(by show(b.drop id.2).length≤_;exact oS SJ (rG nW)),?_⟩
 refine⟨fun h=>⟨ay 1 _,q.pos (.inl (by have h:((b.drop id.2).length:Int)<4:=h;show b.length-id.2<4;exact aW [_,_] [] [.E aB aM,.t aB iE] (.T aM iE) qO rfl SJ h)) _⟩,fun h=>?_⟩
 refine WE.lf F [22,52,92,62,19,18] E 11 yD (by rfl) (by decide +kernel) (by rfl) ?_
 refine⟨⟨fun _=>trivial,by rw[aa];show(b.drop id.2).length≤_;exact oS SJ (rG nW)⟩,fun cenv i v acc hv=>?_,?_⟩
 ·rw[aK] at hv
  refine aq (bB.mp hv) fun u _ gD=>?_
  subst gD
  exact⟨⟨fun h=>⟨(decide_eq_true h).symm,rfl⟩,fun h=>⟨(decide_eq_false h).symm,rfl⟩⟩,rfl,rfl⟩
 ·rw[K8]
  refine WO.Ln 1 (by decide) (ay 1 _) (gv.ints (ys:=[]) (by rfl) (by rfl)) ?_
  have e9:((b.drop id.2).filter fun x=>x != 223).map (fun x=>(x.toNat:Int))=[]↔¬((b.drop id.2).any fun x=>x != 223)=true:=by
   rw[uo]
   simp[AY]
  by_cases h9:((b.drop id.2).filter fun x=>x != 223).map (fun x=>(x.toNat:Int))=[]
  ·rw[decide_eq_true h9]
   refine dU.next _ (H₁:=(Wv b { v with lX:=pX.1,widest:=wide.1 } g).D b.length v.cJ []) (by rfl) okD (by exact aA 11) [] rfl (fun _ _ h=>by exact nS h) ?_
   have h:¬((b.drop id.2).length:Int)<4:=h
   exact q.neg (fun z=>z.elim (fun z=>by have z:b.length-id.2<4:=z;exact aW [_,_] [] [.E aB aM,.N (.t aB iE)] (.N (.T aM iE)) uc rfl SJ h z) (e9.mp h9)) _
  ·rw[decide_eq_false h9]
   exact⟨ay 1 _,q.pos (.inr (jk.mp (fun z=>h9 (e9.mpr z)))) _⟩
end
end
section
open PySem PySem.W PySem.Calls PyProof.Rows
section
variable {c:Cx}{d n:Nat}{H T:List ag}{Q:AV→List ag→Prop}{X:List ag→Prop}{a:Nat}{b:List UInt8}{P:Prop}{w:Wd}{s:fE}{kn:Known}{v:g6}
theorem Qx (F:eW c) (q:Q .none (FC [d5 b 0])):WC c (d+1) (.ref 285) [.obj 7,.d8 b] (FC [.inst 309 []]) Q X:=by
 refine WC.v F rfl rfl fun A env E=>?_
 exact .inl q
theorem PY (F:eW c) (q:Q (.obj 7) (FC [d5 b 0])):WC c (d+2) (.ref 309) [.d8 b] (FC []) Q X:=
 WC.mk F rfl (Qx F ⟨rfl,q⟩)
noncomputable abbrev Wg (b:List UInt8) (v:g6):Wd:=Wv b v (.list [])
theorem TQ (F:eW c){u:Int×Int×Int}{cm:List UInt8}(q:Q .none ((Wg b ⟨u,cm,[],[],0,0,0⟩).D a [] [])):WC c (d+1) (.ref 369) [.obj 8,.tup [.int u.1,.int u.2.1,.int u.2.2],.d8 cm] (FC [d5 b a,.inst 372 []]) Q X:=by
 refine WC.v F rfl rfl fun A env E=>?_
 exact .inl q
theorem Ui (F:eW c){u:Int×Int×Int}{cm:List UInt8}(q:Q (.obj 8) ((Wg b ⟨u,cm,[],[],0,0,0⟩).D a [] [])):WC c (d+2) (.ref 372) [.tup [.int u.1,.int u.2.1,.int u.2.2],.d8 cm] (FC [d5 b a]) Q X:=
 WC.mk F rfl (TQ F ⟨rfl,q⟩)
inductive FlJ (b:List UInt8) (u:Int×Int×Int) (hV:Nat) (Q:AV→List ag→Prop) (X:List ag→Prop) (i:Nat):Loc→List ag→Prop
 |mk (op a1:Nat) (last:Int) (v:g6) (x1 x2 x3:Option AV) (q:d9 ((fQ b i op a1 last v).bind (fi6 b)) (∀T,X (FC T)) (fun v=>∀a',Q (.obj 8) ((Wg b v).D a' v.cJ [])))
  (h1:a1≤b.length) (h2:b.length-a1≤i) (h3:v.ca.length<a1) (h5:eZ v.cJ) :
  FlJ b u hV Q X i [some (.d8 b),some (.obj 0),some (.obj 7),some (.tup [.int u.1,.int u.2.1,.int u.2.2]),some (.int hV),some (.obj 8),some (.int last),some (.int op),x1,x2,x3] ((Wg b v).D a1 v.cJ [])
structure Xr (b:List UInt8) (n a:Nat) (v:g6) (z:LV) (n':Nat):Prop where
 lt:n'<n
 fu:b.length-z.2.1≤n'
 m:MnK b a v z
theorem LA {β:Type}{n op:Nat}{last:Int}{k:Int×g6×Nat→Option β}{no:Prop}{ok:β→Prop}(ho:op≠248) (hn:b.length-a≤n) (q:d9 ((fQ b n op a last v).bind k) no ok) :
  d9 (kE b op a last v) no fun z=>∃n',Xr b n a v z n'∧d9 ((fQ b n' z.1 z.2.1 z.2.2.1 z.2.2.2).bind k) no ok:=by
 cases e:kE b op a last v with
 |none=>rw[sv ho e] at q;exact q
 |some z=>
  refine aL (D0 ho e hn) fun n' e1 e7 h7=>?_
  rw[e7] at q
  exact⟨n',⟨e1▸d6 n',h7,tW _ e⟩,q⟩
theorem Xr.pg {n n':Nat}{z:LV}(t:Xr b n a v z n') (h:v.ca.length<a):z.2.2.2.ca.length<z.2.1:=cj t.m.n (aV (v3 h) t.m.le.1)
theorem Oz (F:eW c) (hb:b.length≤100000) (q:d9 (iK b) (∀T,X (FC T)) fun v=>∀a',Q (.obj 8) ((Wg b v).D a' v.cJ [])) :
  WC c (d+9) (.ref 461) [.d8 b,.obj 0] (FC []) Q X:=by
 refine WC.v F rfl rfl fun A env E=>?_
 have nW:b.length≤1000000:=by exact b9 hb rfl
 refine PY F ?_
 refine dh F 1 rfl nW (cQ _) (by decide) (q.bind (fun p _=>p _) fun op e q=>?_)
 have l1:=gL e
 refine⟨fun h=>⟨ay 1 _,q.pos (by exact hU h) _⟩,fun h=>?_⟩
 have q:=q.neg (by exact aW [_] [] [.N (.N (.e aB (.l 247)))] (.N (.N (.E aB (.l 247)))) (.o cM cI) rfl h)
 refine dh F 1 rfl nW l1.2.1 (by decide) (q.bind (fun p _=>p _) fun op e q=>?_)
 have l1:=gL e
 refine⟨fun h=>⟨ay 1 _,q.pos (by exact hU h) _⟩,fun h=>?_⟩
 have q:=q.neg (by exact aW [_] [] [.N (.N (.e aB jN))] (.N (.N (.E aB jN))) (.o cM cI) rfl h)
 refine zO F (by rfl) nW l1.2.1 (q.bind (fun p _=>p _) fun u e q=>?_)
 have l1:=vK e
 refine dh F 1 rfl nW l1.2 (by decide) (q.bind (fun p _=>p _) fun hV e q=>?_)
 have l1:=gL e
 refine tV F hV.1 rfl nW l1.2.1 (q.bind (fun p _=>p _) fun cm e q=>?_)
 have l1:=HM e
 refine Ui F ?_
 refine dh F (b:=b) 1 rfl nW l1.2 (by decide) (q.bind (fun p _=>p _) fun op e q=>?_)
 have l1:=gL e
 refine⟨FlJ b u.1 hV.1 Q X,b.length-op.2,
   ⟨op.1,op.2,-1,⟨u.1,cm.1,[],[],0,0,0⟩,none,none,none,q,l1.2.1,aA _,(show 0<op.2 by exact aW [_,_] [] [.E aB (.a aM bP)] (.T dE aB) cM rfl l1.1),eZ.nil⟩,?_⟩
 clear q
 rintro i l H ⟨op,a1,last,v,x1,x2,x3,q,h1,h2,h3,h5⟩
 have k5:=h5.le
 refine⟨fun ho=>?_,fun ho=>?_⟩
 ·have ho:op≠248:=by exact hU ho
  have t:=LA ho h2 q
  refine⟨fun qw=>?_,fun qw=>?_⟩
  ·have qw:op=139:=by exact mF qw
   refine Py F (w:=Wg b v) hb h1 h5 ((t.pos qw).bind (fun p=>p) fun r e q (h6:r.2.2≤b.length) (h7:r.1.2.rows.length<r.2.2)=>?_)
   refine⟨by rw[aa];exact b9 (az (dz h7) (az h6 hb)) rfl,?_⟩
   refine⟨by rw[aa];exact b9 (az (dz h3) (az h1 hb)) rfl,?_⟩
   refine dh F (b:=b) 1 rfl nW h6 (by decide) (d9.map q (fun p _=>p _) fun z q=>?_)
   refine aq q fun n' t q=>?_
   refine dU.nextM [true,true,true,true,true,true,true,true] _ (H₁:=(Wg b (v.LG r)).D z.2 r.2.1 []) (by
    show _=(Wg b (v.LG r)).D z.2 r.2.1 []++_
    unfold Wg Wv
    rw[show(v.LG r).ca.map uj=v.ca.map uj++[uj (r.1.1,r.1.2.rows)] from aF]
    rfl) okD (by exact(by decide:7≤11)) rfl ⟨n',t.lt,z.1,z.2,_,_,none,none,none,q,t.m.le.2,t.fu,t.pg h3,t.m.k h5⟩
  have t:=t.neg (hU qw)
  refine BA F ?_
  by_cases lJ:243≤op∧op<247
  ·rw[decide_eq_true ⟨dY.mpr lJ.1,cZ.mpr lJ.2⟩]
   refine M6 F (w:=Wg b v) lJ nW h1 (by exact b9 k5 rfl) ((d9.pos t lJ).bind (fun p=>p) fun r e q=>?_)
   refine dh F (b:=b) 1 rfl nW (NT _ e).1.2.1 (by decide) (d9.map q (fun p _=>p _) fun z q=>?_)
   refine aq q fun n' t q=>?_
   exact .inl ⟨n',t.lt,z.1,z.2,last,{ v with cJ:=r.1 },_,_,_,q,t.m.le.2,t.fu,t.pg h3,t.m.k h5⟩
  ·rw[decide_eq_false (by exact uW lJ)]
   have t:=d9.neg t lJ
   refine⟨fun mE=>⟨ay 1 _,d9.pos t (hU mE) _⟩,fun mE=>?_⟩
   refine dh F (b:=b) 1 rfl nW h1 (by decide) (d9.map (d9.neg t fun z=>z (mc mE)) (fun p _=>p _) fun z q=>?_)
   refine aq q fun n' t q=>?_
   exact .inl ⟨n',t.lt,z.1,z.2,last,v,_,_,_,q,t.m.le.2,t.fu,t.pg h3,t.m.k h5⟩
 ·have ho:op=248:=by exact mc ho
  subst ho
  rw[vk] at q
  refine Pz F hb h1 (by exact aW [_,_] [] [.T aB aM] (.L bP aM) cI rfl h3) (by exact aW [_,_,_] [] [.L aB r7,.L aM aB,.T cf aM] (.L cf r7) tJ rfl hb h1 h3) (by exact b9 k5 rfl) (d9.mono (d9.got q rfl) (fun p=>p) fun v q a'=>.inl (q a'))
end
end
section
open PySem PySem.W PySem.Calls PyProof.Rows
section
variable {c:Cx}{d m kp:Nat}{A:aU}{env:dH}{l l':Loc}{α bD:Am}{h h':cb}{H H':List ag}{s s':aH}{as:List AV}{ns:List (bu×bc)}{scope:nQ}{x:bu}{pos:ij}
variable {Q:AV→List ag→Prop}{X:List ag→Prop}
theorem Xu {fI:aD}{fd:eJ}{tb rest:List eF}{x:bu}{np hp tp rp cp:ij}{k:Nat}{XT:List ag→Prop}(ok:lW c.K c.bd fI fd) (i:Nat) (hn:env.scope.names[i]?=some (x,.globalImplicit))
  (hv:EX c.K eo x=some (some (.ref c.bd))) (D3:(x==("__debug__":bu))=false) (hx:∀H',XT H'→Q .none H')
  (w:VS c d H.length A env tb l H (fun af l' H'=>af=.next∧VS c d H.length A env rest l' H' (qB Q) X) XT) (I:Inv c d A env l α H s) :
  bj c.M A (execs (.Try tb [.ExceptHandler (some (.Name x np)) none [.Return (some (.Constant .none k cp)) rp] hp] [] [] tp::rest) env) (Ij c A env α s.heap Q) (kF c A env α s.heap X) s:=by
 refine g7 ok.cls fun nm q' N bs bm hdct sn sub ab col dd k0 k1 k2 gD=>?_
 obtain⟨k3,k5,xp,Lf,Q6,Rb,Vn,V7⟩:=gD
 have yQ:α.length≤H.length:=by rw[I.h.len];exact aA _
 refine qd (wpAny_Try_except ?_)
 refine au (w α s I) (fun f bf p=>?_) fun v bf p=>?_
 ·obtain⟨af,l₁,aP,H₁,bZ,bl,fr,rfl,q⟩:=p
  cases fr
  refine jR ?_
  exact au (Dc bZ (q aP bf bl)) (fun _ _ p=>(p.full yQ).toR) fun _ _ p=>p.full yQ
 ·obtain⟨e,fl,aP,H₁,rfl,ub,z,m,O,K,hX,-,-⟩:=p
  have m:=m.full yQ
  refine cB I.top fun en o ml uh=>?_
  refine al I.e.frame fun F hF=>?_
  rw[jy uh]
  refine PK ml (uh.trans hF) (by unfold wA at ub ⊢;rw[uh];exact ub) m O K z fun h1 z1 m1 O1 K1 _=>?_
  refine pL (s:={ bf with heap:=h1 }) (fr:=none) ml m1 O1 K1 z1 fun h2 z2 m2 O2 K2 _=>?_
  have z2':=z2
  obtain⟨_,_,_,oe,vs,a0,z4,z5,z6,z7,T,oT,ts,y1,_⟩:=z2'
  have g2:h2.Ns env.globals c.mg:=I.e.glob▸I.ok.T.g.keeps O2.base
  have Zq:c.K.In h2:=I.ok.X.keeps O2.base
  refine wpAny_handleBy_cons (codeAny_handlers_test (lQ I.e.kind (cW I.e.nodup hn) (wL g2 (mg_of I.ok.X I.ok.T.g hv) ?_) D3)) (by intro q;cases q)
  refine wpAny_excMatches_sub_self (Zq _ _ xp) z4 z5 V7 (codeAny_handlers_suite ?_)
  refine pL (A:=A.mark (some (.ref e))) (s:={ bf with heap:=h2 }) (fr:=none) (cq:=α) (h₀:=s.heap) (own:=cy env) ml ⟨m2.pre,m2.fresh,m2.alive,m2.keep,m2.slot⟩ O2 ⟨K2.fr,K2.lq⟩ z2 fun h3 z3 m3 O3 K3 _=>?_
  refine qd (Rj (Constant_none ?_))
  exact⟨.none,aP,H₁,⟨m3.pre,m3.fresh,m3.alive,m3.keep,m3.slot⟩,O3,⟨K3.fr,K3.lq⟩,(wY (c:=c) (h:=h3) (α:=aP)),hx _ hX⟩
theorem WC.t (F:eW c){f:aD}{s:Option eF}{is:List Nat}(i:Nat){tb rest:List eF}{np hp tp rp cp:ij}{k:Nat}{XT:List ag→Prop}(e:kK FN f=some (s,is)) (hl:as.length=(jZ s).length)
  (hb:iI s=.Try tb [.ExceptHandler (some (.Name "BadDevice" np)) none [.Return (some (.Constant .none k cp)) rp] hp] [] [] tp::rest) (hi:(namesOf s)[i]?=some (("BadDevice":bu),bc.globalImplicit)) (hx:∀H',XT H'→Q .none H')
  (w:∀A env,iA env (namesOf s)→vS ⟨c,d,A,env,XT⟩ (gx s is) 60 H.length tb (locs as (yd (namesOf s))) H (fun af l' H'=>af=.next∧vS ⟨c,d,A,env,X⟩ (gx s is) 60 H.length rest l' H' (qB Q))):WC c (d+1) (.ref f) as H Q X:=by
 refine fG (F.fn e) fun fd D hn D3 nW=>?_
 refine bQ F.rs fun jY _ hv=>?_
 refine fX jY fun fI fd' ok=>?_
 intro Z9
 refine WC.Pq rfl D hl (binds_K nW hl) fun A env he hf α s' I=>?_
 have E:iA env (namesOf s):=⟨⟨by rw[he];exact hn,D3⟩,by rw[he];exact D.kind,hf⟩
 rw[hb]
 refine Xu ok i (by rw[E.nm];exact hi) hv (by decide +kernel) hx ?_ (I.loc (l':=locs as (yd (namesOf s))) fun i v e=>?_)
 ·refine VS.mono (X':=XT) ((Aq ⟨F.ok E.toNmEnv,E⟩ 60).S (w A env E)) ?_
  intro af l' H' lE
  obtain⟨rfl,w⟩:=lE
  exact⟨rfl,(Aq ⟨F.ok E.toNmEnv,E⟩ 60).S w⟩
 ·have e:=rO e
  unfold u4
  rw[aC (by rw[aa];exact(ao.mp e).1),aK,e]
  rfl
theorem WE.dj (F:eW c) (is:List Nat) (E:iA env ns){kx vx iter:Expr}{px pos:ij}(kp:Nat) (hk:scope.kind=.function) (hb:rJ ns scope.names x=true) (hs:qC iter=true)
  (w:vh ⟨ns,ip is,FT,MT⟩ (vE ⟨c,d,A,env,X⟩ ⟨ns,ip is,FT,MT⟩ 40) (vA ⟨c,d,A,env,X⟩ ⟨ns,ip is,FT,MT⟩ 40) l H kp iter fun xs gC H1=>∃J:Nat→List (Int×AV)→List ag→Prop,J 0 [] (H1++[.dict []]) ∧
   (∀(i:Nat) (acc:List (Int×AV)) (H':List ag),J i acc H'→gC H'∧H'[H1.length]?=some (.dict acc)∧acc.length≤1000000) ∧
   (∀(cenv:dH) (i:Nat) (v:AV) (acc:List (Int×AV)) (H':List ag),xs[i]?=some v→J i acc H'→vE ⟨c,d,A,cenv,X⟩ ⟨mO ns scope.names,ip is,FT,MT⟩ 40 kx ((pj ns l scope.names).set 1 (some v)) H' fun a H3=>
    ∃k,a=.int k∧vE ⟨c,d,A,cenv,X⟩ ⟨mO ns scope.names,ip is,FT,MT⟩ 40 vx ((pj ns l scope.names).set 1 (some v)) H3 fun b H4=>H4[H1.length]?=some (.dict acc)∧acc.length≤1000000∧J (i+1) (mu k b acc) (H4.set H1.length (.dict (mu k b acc)))) ∧
   ∀(acc:List (Int×AV)) (H':List ag),J xs.length acc H'→Q (.obj H1.length) H'):WE c d A env (.DictComp kx vx [⟨.Name x px,iter,[],0⟩] scope pos) l H Q X:=by
 have ok:nZ ⟨c,d,A,env,X⟩ ⟨ns,ip is,FT,MT⟩:=⟨F.ok E.toNmEnv,E⟩
 refine WE.Uy (kp:=kp) (rm E hk hb) (fun x=>kS hs x) ((mI ok (nV ok.toVOk 40) w).mo fun xs gC H1 h=>?_)
 refine fG h fun J h1 h2 h3 q=>?_
 clear h
 refine⟨J,h1,h2,fun cenv i v acc H' hn hv j=>A7.nil ?_,q⟩
 rw[if_pos rfl]
 refine WE.mono ((nV (z:=⟨c,d,A,cenv,X⟩) (F.ok (nv E hb hn)) 40).E (h3 cenv i v acc H' hv j)) ?_ fun _ h=>h
 intro a H3 mr
 refine aq mr fun k nr h=>?_
 clear mr
 subst nr
 exact⟨k,rfl,(nV (z:=⟨c,d,A,cenv,X⟩) (F.ok (nv E hb hn)) 40).E h⟩
end
section
variable {c:Cx}{d n:Nat}{H T:List ag}{Q:AV→List ag→Prop}{X:List ag→Prop}{a:Nat}{b:List UInt8}{v:g6}
noncomputable abbrev FL (T:List ag):List ag:=.list [.obj 1,.obj 2]::jx 3 "fc" 0 5 3::jx 200 "fhz" 77 6 4::.dict (tg.map eY)::.dict (gT.map eY)::nE::nE::T
noncomputable abbrev Vu:ag:=.dict [(3,.obj 1),(200,.obj 2)]
noncomputable abbrev Lp (v:g6) (p s:Nat):AV:=.tup [.tup [.int v.units.1,.int v.units.2.1,.int v.units.2.2],.d8 v.comment,.obj p,.int v.lX,.int v.widest,.int v.il,.obj s]
theorem fe {α:Type}{g:α→AV}{f:Nat→Nat}(h:∀x,oq f (g x)=g x):∀{l:List α},lK f (l.map g)=l.map g:=by
 intro us
 induction us with
 |nil=>
  exact rfl
 |cons x l ih=>
  exact s9 (h x) ih
theorem xU {f:Nat→Nat}{vs:List AV}(h:lK f vs=vs):oq f (.tup vs)=.tup vs:=congrArg AV.tup h
theorem tX {f:Nat→Nat}:∀r:n9,oq f r.av=r.av
 |.char ..=>rfl
 |.rule ..=>rfl
 |.spec ..=>rfl
theorem tT {f:Nat→Nat}(p:List Int×List n9):oq f (uj p)=uj p:=by
 unfold uj
 exact xU (s9 (xU (fe (g:=AV.int) fun _=>rfl)) (s9 (xU (fe tX)) rfl))
theorem w9 {f:Nat→Nat}:∀{kn:Known},qL f (kn.map ji)=kn.map ji:=by
 intro us
 induction us with
 |nil=>
  exact rfl
 |cons p kn ih=>
  exact s9 rfl ih
noncomputable abbrev B7 (v:g6):ag:=.inst 372 [("units",.tup [.int v.units.1,.int v.units.2.1,.int v.units.2.2]),("comment",.d8 v.comment),("pages",.obj 10),("fonts",.obj 11),("tallest",.int v.lX),("widest",.int v.widest),("deepest",.int v.il)]
theorem La (F:eW c) (hb:b.length≤100000) (q:d9 (iK b) (∀T,X (FL T)) fun v=>∀a,Q (.obj 9) (FL [Vu,d5 b a,B7 v,.list (v.ca.map uj),.dict (v.cJ.map ji)])):WC c (d+9) (.ref 461) [.d8 b,.obj 7] (FL [Vu]) Q X:=by
 refine WC.frame [7,1,2,3,4,5,6] (H₀:=FC []) (.of rfl (by decide) ?_) (as₀:=[.d8 b,.obj 0]) rfl rfl (Q₀:=fun u H=>∃v a,iK b=some v∧u=.obj 8∧H=(Wg b v).D a v.cJ []) (X₀:=fun H=>iK b=none∧∃T,H=FC T)
  (Oz F hb (by cases e:iK b with
   |none=>exact fun T=>⟨rfl,T,rfl⟩
   |some v=>exact fun a=>⟨v,a,rfl,rfl,rfl⟩)) ?_ ?_
 ·exact⟨⟨rfl,rfl⟩,⟨rfl,rfl⟩,⟨rfl,rfl⟩,⟨rfl,rfl⟩,⟨rfl,rfl⟩,⟨rfl,rfl⟩,⟨rfl,rfl⟩,trivial⟩
 ·intro u H nT
  refine aN nT fun v a e mU nF=>?_
  clear nT
  subst mU
  subst nF
  rw[e] at q
  have e1:∀f,iw f (.list (v.ca.map uj))=.list (v.ca.map uj):=fun f=>congrArg ag.list (fe tT)
  have e2:∀f,iw f (.dict (v.cJ.map ji))=.dict (v.cJ.map ji):=fun f=>congrArg ag.dict w9
  have q:=q a
  rw[←e1 (fr [7,1,2,3,4,5,6] 8),←e2 (fr [7,1,2,3,4,5,6] 8)] at q
  exact q
 ·intro H pU
  refine bG pU fun e lh=>?_
  clear pU
  refine al lh fun T tM=>?_
  subst tM
  rw[e] at q
  exact q _
theorem NJ (F:eW c) (hb:b.length≤100000) (q:match iK b with
  |none=>∀T,Q .none (FL T)
  |some v=>∀a ns,jz (v.cJ.map (·.1)) ns→Q (Lp v 10 12) (FL [Vu,d5 b a,B7 v,.list (v.ca.map uj),.dict (v.cJ.map ji),.list (ns.map .int)])) :
  WC c (d+10) (.ref 621) [.d8 b,.obj 0] (FL []) Q X:=by
 refine WC.t F 4 (XT:=fun H=>iK b=none∧∃T,H=FL T) rfl rfl (by rfl) (by rfl) (fun H' ⟨h,T,e⟩=>by rw[h] at q;subst e;exact q T) fun A env E=>?_
 refine WE.dj F [64,22,96] E 7 (by rfl) (by decide +kernel) (by rfl) ?_
 refine⟨fun i acc H=>H=FL [.dict acc]∧acc=([(3,.obj 1),(200,.obj 2)]:List (Int×AV)).take i,⟨rfl,rfl⟩,?_,?_,?_⟩
 ·intro i acc H wa
  obtain⟨rfl,rfl⟩:=wa
  exact⟨rfl,rfl,by rw[cg];exact az (Nat.min_le_right ..) (by decide)⟩
 ·intro cenv i v acc H hv Fc
  obtain⟨rfl,rfl⟩:=Fc
  rcases i with _ | _ | i
  ·replace hv:=ae hv
   subst hv
   exact⟨3,rfl,rfl,cQ _,rfl,rfl⟩
  ·replace hv:=ae hv
   subst hv
   exact⟨200,rfl,rfl,by decide,rfl,rfl⟩
  ·simp at hv
 ·intro acc H E7
  obtain⟨rfl,rfl⟩:=E7
  refine La F hb ?_
  cases e:iK b with
  |none=>exact fun T=>⟨rfl,T,rfl⟩
  |some v=>
   rw[e] at q
   have k:=(DE e).le
   refine fun a=>⟨rfl,?_⟩
   refine WV.s4 (kvs:=v.cJ.map ji) (.inr ⟨11,rfl,.inl rfl⟩) (by rw[aa];exact oH k rfl) fun ns hs=>?_
   rw[dx] at hs
   exact q _ _ hs
end
end
section
open PySem PySem.W PySem.Calls PyProof.Rows
section
variable {c:Cx}{d n:Nat}{H T:List ag}{Q:AV→List ag→Prop}{X:List ag→Prop}{a:Nat}{b:List UInt8}{P:Prop}{f:ai}{as:List AV}
theorem WC.new (ha:mT 0 as=true) (hr:lK (([]:List Nat).getD · 0) as=as) (w:WC c d f as [] (fun v G=>Q (oq (fr [] H.length) v) (H++G.map (iw (fr [] H.length)))) fun G=>X (H++G.map (iw (fr [] H.length)))):WC c d f as H Q X:=
 WC.frame [] ⟨rfl,gF,fun{i n x} e _=>by exact nS e⟩ hr.symm ha w (fun v G q=>q) fun G q=>q
theorem jv (F:eW c) (q:Q (.int (be b)) H):WC c (d+1) (.ref 545) [.d8 b] H Q X:=by
 refine WC.v F rfl rfl fun A env E=>?_
 refine⟨H.length,aA _,?_⟩
 refine⟨fun i l' H'=>H'=H∧∃p,l'=[some (.d8 b),some (.int (be (b.take i))),p],⟨rfl,none,rfl⟩,fun _ _ _ _ _=>trivial,?_,?_⟩
 ·rintro i x l' H' hx ⟨rfl,p,rfl⟩
  rw[aK,bB] at hx
  refine aq hx fun u hu gD=>?_
  clear hx
  subst gD
  refine⟨.of_right (by decide),?_⟩
  refine .inl ⟨rfl,some (.int u.toNat),?_⟩
  rw[gi,hu,Option.toList_some,CC]
  have:((be (b.take i):Nat):Int)*256+(u.toNat:Int)=((256*be (b.take i)+u.toNat:Nat):Int):=by lia
  rw[←this];rfl
 ·rintro l' H' ⟨rfl,p,rfl⟩
  rw[aa,kC]
  exact .inl q
theorem ju (F:eW c) (hb:b.length≤100000) (hn:0<b.length) (q:Q (.int (jH b)) H):WC c (d+2) (.ref 552) [.d8 b] H Q X:=by
 refine WC.v F rfl rfl fun A env E=>?_
 refine jv F ?_
 unfold jH at q
 refine⟨⟨⟨by exact(by decide),by exact aW [_] [] [.T dE aB] (.t dE aB) cI rfl hn⟩,by exact b9 hb rfl⟩,⟨fun h=>?_,fun h=>?_⟩⟩
 ·have h:(127:Int)<((b.getD 0 0).toNat:Int):=h
  rw[if_pos (by exact rC h rfl)] at q
  refine⟨by exact b9 hb rfl,?_⟩
  have hp:fc 256=9:=by decide +kernel
  refine WV.BS (by exact k6) (by rw[hp];exact aW [_] [] [.L aB r7] (.l (.m 9 aB) (.l 134217728)) (.k [1,9]) rfl hb) ?_
  exact .inl q
 ·have h:¬(127:Int)<((b.getD 0 0).toNat:Int):=h
  rw[if_neg (by exact ti h rfl)] at q
  exact .inl q
theorem dU.pick {QR:AV→List ag→Prop}{l:Loc}(k:Nat) (x:ag) (e:H[k]?=some x) (o:yO 1 x=true) (r:∀f,iw f x=x) (q:QR (.obj 0) [x]):dU 0 (qB QR) (.ret (.obj k)) l H:=by
 refine .inr ⟨[k],.obj 0,[x],fun n hn=>by exact(aW [_] [] [] (.N (.T aB dE)) ni rfl hn).elim,⟨rfl,by simp,fun{i n y} e1 e2=>?_⟩,rfl,rfl,q⟩
 cases i with
 |zero=>replace e1:=ae e1;subst e1;replace e2:=ae e2;subst e2;exact⟨o,by rw[r];exact e⟩
 |succ i=>exact nS e1
theorem i3 {xs:List UInt8}{lo hi:Int}(a b:Nat) (h1:lo=a) (h2:hi=b):lL (some lo) (some hi) xs=c0 xs a b:=GP a b h1 h2
noncomputable def yF (b:List UInt8):AV→AV
 |.int i=>.int (jH (c0 b (4*i.toNat) (4*i.toNat+4)))
 |_=>.none
theorem yC (F:eW c) (hb:b.length≤100000) (hn:12≤b.length) (q:Q (.tup [.int (three b).1,.int (three b).2.1,.int (three b).2.2]) H):WC c (d+3) (.ref 604) [.d8 b] H Q X:=by
 refine WC.new rfl rfl ?_
 refine WC.v F rfl rfl fun A env E=>?_
 refine WE.lc F [102,106,78] E 0 (yF b) (by rfl) (by decide +kernel) (by rfl) ?_
 refine⟨rfl,⟨by decide,by decide⟩,?_⟩
 refine⟨⟨fun _=>trivial,by decide⟩,fun cenv i v acc hv=>?_,?_⟩
 ·refine bG (fy hv) fun hi ix=>?_
  subst ix
  have hi:i<3:=hi
  refine⟨.of_left (by decide),⟨.of_left (by decide),⟨by exact b9 hb rfl,?_⟩⟩⟩
  rw[i3 (4*i) (4*i+4) (by exact aW [_] [] [] (.e (.m 4 (.a dE aB)) (.c (.m 4 aB))) (.o ni ni) rfl) (by exact aW [_] [] [] (.e (.a (.m 4 (.a dE aB)) iE) (.c (.a (.m 4 aB) iE))) (.o ni ni) rfl)]
  have hl:=kQ b (x:=4*i) (y:=4*i+4) (by exact aW [_,_] [] [.L (.l 12) aB,.T aM pM] (.L (.a (.m 4 aM) iE) aB) (.k [1,4,1]) rfl hn hi)
  refine ju F (by exact aW [_,_,_] [] [.E aB aM,.fs aM (.a (.m 4 cf) iE) (.m 4 cf)] (.L aB r7) (.o jM jM) rfl hl (eR _ _)) (by exact aW [_,_,_] [] [.E aB aM,.fs aM (.a (.m 4 cf) iE) (.m 4 cf)] (.T dE aB) (.o (.k [1,0,0,1,0,1]) xM) rfl hl (eR _ _)) ⟨?_,rfl⟩
  show AV.int _=AV.int (jH (c0 b (4*(0+(i:Int)).toNat) (4*(0+(i:Int)).toNat+4)))
  rw[show(0+(i:Int)).toNat=i by exact Tu]
 ·refine⟨by rw[aa];decide,dU.ret _ (H₁:=[]) rfl rfl (aA _) rfl ?_⟩
  rw[←cK H] at q
  exact q
theorem Oj (F:eW c) (q:Q (.obj H.length) (H++[.list (qM.map fun(n:Nat)=>AV.int n)])):WC c (d+1) (.ref 559) [] H Q X:=by
 refine WC.new rfl rfl ?_
 refine WC.v F rfl rfl fun A env E=>?_
 iterate 11 refine⟨by decide,?_⟩
 refine dU.pick 17 (.list (qM.map fun(n:Nat)=>AV.int n)) (by rfl) (by rfl) (fun f=>congrArg ag.list (fe fun _=>rfl)) ?_
 rw[←show iw (fr [] H.length) (.list (qM.map fun(n:Nat)=>AV.int n))=.list (qM.map fun(n:Nat)=>AV.int n) from congrArg ag.list (fe fun _=>rfl)] at q
 exact q
end
end
section
open PySem PySem.W PySem.Calls PyProof.Rows
noncomputable def z0 (x:fK):AV:=.tup [.int x.op,.int x.place,.d8 x.args]
theorem Ao (t:List UInt8):(t.map fun x=>(x.toNat:Int)).sum=(Ai t:Int):=by
 unfold Ai
 induction t with
 |nil=>rfl
 |cons x t ih=>simp only[et,List.sum_cons,ih];simp
theorem vg {α:Type}{P:α→Prop}{G:Prop}(R:α→Prop) (w:(∀e,R e→P e)→G) (k:∀e,R e→P e):G:=w k
section
variable {c:Cx}{d n:Nat}{H T:List ag}{Q:AV→List ag→Prop}{X:List ag→Prop}{a:Nat}{b:List UInt8}{P:Prop}{f:ai}{as:List AV}
theorem Hd {n p:Nat}{found:List fK}(h:¬p<b.length):jB b n p found=none:=by unfold jB;rw[if_neg h]
theorem GD {n p:Nat}{found:List fK}(h:p<b.length) (hn:b.length-p≤n):∃n',n=n'+1∧jB b n p found=(if (b.getD p 0).toNat>249∨aO b (b.getD p 0).toNat p>b.length then none
  else if (b.getD p 0).toNat=249 then some (found++[⟨(b.getD p 0).toNat,p,c0 b (p+1) (aO b (b.getD p 0).toNat p)⟩])
  else jB b n' (aO b (b.getD p 0).toNat p) (found++[⟨(b.getD p 0).toNat,p,c0 b (p+1) (aO b (b.getD p 0).toNat p)⟩])):=by
 cases n with
 |zero=>exact(aW [_,_,_] [] [.T aB aM,.fs cf aM aB] (.N (.L cf dE)) (.o nY vF) rfl h (eR _ _) hn).elim
 |succ n=>
  refine⟨n,rfl,?_⟩;conv=>lhs;unfold jB
  rw[if_pos h]
inductive CtJ (b:List UInt8) (i:Nat):Loc→List ag→Prop
 |mk (p:Nat) (found:List fK) (x1 x2:Option AV) (h1:jB b i p found=jB b b.length 0 []) (h2:b.length-p≤i) (h3:found.length≤p) :
  CtJ b i [some (.d8 b),some (.obj 0),some (.int p),some (.obj 1),x1,x2] [.list (found.map z0),.list (qM.map fun(n:Nat)=>AV.int n)]
theorem Tf (F:eW c) (hb:b.length≤100000) (q:match jB b b.length 0 [] with
  |none=>Q .none H
  |some cs=>Q (.obj H.length) (H++[.list (cs.map z0)])):WC c (d+2) (.ref 566) [.d8 b] H Q X:=by
 refine WC.new rfl rfl ?_
 have q0:jB b b.length 0 []=none→Q .none (H++[]):=fun h=>by rw[h] at q;rw[cK];exact q
 have q1:∀cs,jB b b.length 0 []=some cs→Q (.obj H.length) (H++[.list (cs.map z0)]):=fun cs h=>by rw[h] at q;exact q
 clear q
 refine WC.v F rfl rfl fun A env E=>?_
 refine Oj F ?_
 refine⟨CtJ b,b.length,⟨0,[],none,none,rfl,sM _ _,cQ _⟩,?_⟩
 rintro i l H' ⟨p,found,x1,x2,h1,h2,h3⟩
 refine⟨by exact b9 hb rfl,⟨fun hp=>?_,fun hp=>?_⟩⟩
 ·have hp:p<b.length:=by exact Ib hp
  refine⟨⟨⟨by exact k6,cZ.mpr hp⟩,by exact b9 hb rfl⟩,?_⟩
  rw[show(p:Int).toNat=p from rfl]
  generalize lJ:(b.getD p 0).toNat=op
  have X5:op<256:=by rw[←lJ];exact UInt8.toNat_lt _
  apply vg (fun e:Int=>e=(aO b op p:Int))
  ·intro key
   refine⟨fun h=>?_,fun h=>?_⟩
   ·refine⟨⟨by exact k6,by exact OZ h rfl⟩,.int (qM.getD op 0:Nat),?_,?_⟩
    ·rw[aK,gm,aw (show op<qM.length by rw[show qM.length=239 from rfl];exact gV h),oj,bt,aw (show op<qM.length by rw[show qM.length=239 from rfl];exact gV h)]
     rfl
    ·conv=>whnf
     generalize hee:(p:Int)+1+(qM.getD op 0:Nat)=ee
     have he:ee=(aO b op p:Int):=by unfold aO;rw[if_pos (by exact gV h)];exact aW [_,_] [_] [.e (.a (.a aB bP) aM) bJ] (.e bJ (.c (.a (.a aB bP) aM))) (.o cI cM) rfl hee
     exact key ee he
   refine⟨fun h2=>?_,fun h2=>?_⟩
   ·refine⟨by exact b9 hb rfl,?_⟩
    rw[i3 (p+1) (p+1+(op-238)) (by exact rfl) (by exact aW [_,_,_] [] [.N (.t aB (.l 239)),.fs aM aB (.l 238)] (.e (.s (.a (.a cf bP) aB) (.l 238)) (.c (.a (.a cf bP) aM))) (.o (.o cM jf) (.o jM cI)) rfl h (eR _ _))]
    refine jv F ?_
    exact key _ (by unfold aO;rw[if_neg (by exact dW h rfl),if_pos (by exact gV h2)];exact aW [_,_,_,_] [] [.N (.t aB (.l 239)),.fs aM aB (.l 238)] (.e (.a (.s (.a (.a cf bP) aB) (.l 238)) fz) (.c (.a (.a (.a cf bP) aM) fz))) (.o (.o cM jf) (.o jM cI)) rfl h (eR _ _))
   refine⟨fun h3=>?_,fun h3=>?_⟩
   ·refine⟨by exact b9 hb rfl,?_⟩
    rw[i3 (p+1+(op-242+14)-2) (p+1+(op-242+14)) (by exact aW [_,_,_,_] [] [.N (.t aB (.l 243)),.fs aM aB (.l 242),.fs cf (.a (.a fz bP) (.a aM (.l 14))) jN] (.e (.s (.a (.s (.a (.a fz bP) aB) (.l 242)) (.l 14)) jN) cf) (.o (.o (.o ui (.k [1,0,0,1,0,0,1])) (.o xM xM)) (.o (.o (.k [0,0,0,0,1,0,0,1]) (.k [0,0,0,0,1,0,0,1])) (.o xM xM))) rfl h2 (eR _ _) (eR _ _)) (by exact aW [_,_,_] [] [.N (.t aB (.l 243)),.fs aM aB (.l 242)] (.e (.a (.s (.a (.a cf bP) aB) (.l 242)) (.l 14)) (.c (.a (.a cf bP) (.a aM (.l 14))))) (.o (.o cM jf) (.o jM cI)) rfl h2 (eR _ _))]
    exact key _ (by rw[Ao];unfold aO;rw[if_neg (by exact dW h2 rfl),if_neg (by exact dW h2 rfl),if_pos (by exact gV h3)];exact aW [_,_,_,_] [] [.N (.t aB (.l 243)),.fs aM aB (.l 242)] (.e (.a (.a (.s (.a (.a cf bP) aB) (.l 242)) (.l 14)) fz) (.c (.a (.a (.a cf bP) (.a aM (.l 14))) fz))) (.o (.o cM jf) (.o jM cI)) rfl h2 (eR _ _))
   refine⟨fun h4=>?_,fun h4=>?_⟩
   ·refine⟨by exact b9 hb rfl,?_⟩
    rw[i3 (p+1+14-1) (p+1+14) (by exact aW [_,_] [] [.fs aB (.a (.a aM bP) (.l 14)) bP] (.e (.s (.a (.a aM bP) (.l 14)) bP) aB) (.o (.o cM jf) (.o cM xM)) rfl (eR _ _)) (by exact rfl)]
    exact key _ (by rw[Ao];unfold aO;rw[if_neg (by exact dW h3 rfl),if_neg (by exact dW h3 rfl),if_neg (by exact dW h3 rfl),if_pos (by exact mF h4)];exact rfl)
   refine⟨fun h5=>?_,fun h5=>?_⟩
   ·exact key _ (by unfold aO;rw[if_neg (by exact dW h3 rfl),if_neg (by exact dW h3 rfl),if_neg (by exact dW h3 rfl),if_neg (by exact hU h4),if_pos (by exact mF h5)];exact rfl)
   refine⟨fun h6=>?_,fun h6=>?_⟩
   ·refine⟨by exact b9 hb rfl,?_⟩
    exact key _ (by unfold aO;rw[if_neg (by exact dW h3 rfl),if_neg (by exact dW h3 rfl),if_neg (by exact dW h3 rfl),if_neg (by exact hU h4),if_neg (by exact hU h5),if_pos (by exact mF h6)])
   ·exact key ((p:Int)+1) (by unfold aO;rw[if_neg (by exact dW h3 rfl),if_neg (by exact dW h3 rfl),if_neg (by exact dW h3 rfl),if_neg (by exact hU h4),if_neg (by exact hU h5),if_neg (by exact hU h6)];exact rfl)
  ·intro e he
   subst he
   have hgt:=@jV b op p hp
   refine aq (GD (found:=found) hp h2) fun n' Ra i4=>?_
   rw[i4,lJ] at h1
   refine⟨fun h=>?_,fun h=>?_⟩
   ·rw[if_pos (.inl (by exact rC h rfl))] at h1
    exact .inl (dU.ret _ (H₁:=[]) (by rfl) (by rfl) (aA _) (by rfl) (q0 h1.symm))
   refine⟨by exact b9 hb rfl,⟨fun h2=>?_,fun h2=>?_⟩⟩
   ·rw[if_pos (.inr (by exact Ib h2))] at h1
    exact .inl (dU.ret _ (H₁:=[]) (by rfl) (by rfl) (aA _) (by rfl) (q0 h1.symm))
   rw[if_neg (by exact aW [_,_,_] [] [.N (.t (.l 249) aB),.N (.t aM cf)] (.N (.O (.T (.l 249) aB) (.T aM cf))) (.o cM cI) rfl h h2)] at h1
   refine⟨by exact b9 hb rfl,⟨by rw[aa];exact w4 h3 hp hb rfl,?_⟩⟩
   rw[i3 (p+1) (aO b op p) (by exact rfl) (by exact rfl)]
   have hcv:found.map z0++[AV.tup [.int op,.int p,.d8 (c0 b (p+1) (aO b op p))]]=(found++[fK.mk op p (c0 b (p+1) (aO b op p))]).map z0:=by rw[aF];rfl
   rw[hcv]
   refine⟨fun h3=>?_,fun h3=>?_⟩
   ·rw[if_pos (by exact mF h3)] at h1
    have q:=q1 _ h1.symm
    rw[←show iw (fr [] H.length) (.list ((found++[fK.mk op p (c0 b (p+1) (aO b op p))]).map z0))=.list ((found++[fK.mk op p (c0 b (p+1) (aO b op p))]).map z0) from congrArg ag.list (fe fun _=>rfl)] at q
    exact .inl (dU.ret _ (H₁:=[.list ((found++[fK.mk op p (c0 b (p+1) (aO b op p))]).map z0)]) (by rfl) (by exact aR.mpr ⟨j8 fun _=>rfl,rfl⟩) (cQ _) (by rfl) q)
   ·rw[if_neg (by exact hU h3)] at h1
    exact .inl ⟨n',by exact aW [_,_] [] [.E aB (.a aM bP)] (.T aM aB) cM rfl Ra,aO b op p,_,_,_,h1,PS ‹b.length-p≤i› Ra hgt,by rw[ah];exact cj ‹found.length≤p› hgt⟩
 ·rw[Hd (by exact bL (GN hp))] at h1
  exact dU.ret _ (H₁:=[]) (by rfl) (by rfl) (aA _) (by rfl) (q0 h1.symm)
end
end
section
open PySem PySem.W PySem.Calls PyProof.Rows
section
variable {c:Cx}{d n:Nat}{H T:List ag}{Q:AV→List ag→Prop}{X:List ag→Prop}{a:Nat}{b:List UInt8}{P:Prop}{f:ai}{as:List AV}
theorem WV.MY {A:aU}{env:dH}{l:Loc}(q:∀k:Int,k=134217728→Q (.int k) H):WV c d A env (fun vs=>fb .Pow (vs[0]?.getD .none) (vs[1]?.getD .none)) [.int 2,.int 27] l H Q X:=
 WV.BS (i:=2) (n:=27) (by decide) (by decide +kernel) (by exact q _ (by decide +kernel))
theorem WV.Te {A:aU}{env:dH}{l:Loc}{i:Int}(kR:(fc i:Int)*2≤2^27) (q:Q (.int (i*i)) H):WV c d A env (fun vs=>fb .Pow (vs[0]?.getD .none) (vs[1]?.getD .none)) [.int i,.int 2] l H Q X:=
 WV.BS (i:=i) (n:=2) (by decide) kR (by rw[show i^(2:Int).toNat=i*i by rw[show(2:Int).toNat=2 from rfl,Cf,Cf,Int.pow_zero,Int.one_mul]];exact q)
theorem WO.S9 {A:aU}{env:dH}{l:Loc}{QB:Bool→List ag→Prop}{i x y:Int}(q:QB (decide (i=x∨i=y)) H):WO c d A env .In (.int i) (.tup [.int x,.int y]) l H QB X:=by
 refine WO.inT (ns:=[x,y]) ?_
 rw[show([x,y].any fun n=>n==i)=decide (i=x∨i=y) by
  rw[kY];simp only[rQ,List.any_nil,QS,L8,beq_iff_eq,decide_eq_true_eq];exact or_congr eq_comm eq_comm]
 exact q
theorem hW {P G:Prop}(R:Prop) (w:(R→P)→G) (k:R→P):G:=w k
theorem pI {β:Type}{xs:List β}{hi:Int}(b:Nat) (h:hi=b):lL none (some hi) xs=xs.take b:=by
 subst h
 unfold lL
 simp only[tE,Fy,clipAt_nat]
 simp only[List.drop_zero,Nat.sub_zero]
 by_cases h:b≤xs.length
 ·rw[fv h]
 ·rw[oa (by exact dz (bp h)),dK (aA _),dK (by exact dz (bp h))]
inductive FoJ (args:List UInt8) (room dk check size bW fk:Nat) (name:List UInt8) (i:Nat):Loc→List ag→Prop
 |mk (p q:Option AV) (m1:1≤i→¬uG 3 0 [102,99] dk check size bW (name.drop fk)) (m2:2≤i→¬uG 200 77 [102,104,122] dk check size bW (name.drop fk)) :
  FoJ args room dk check size bW fk name i [some (.d8 args),some (.int room),some (.obj 0),some (.int dk),some (.int check),some (.int size),some (.int bW),some (.int fk),some (.d8 name),p,q] (FL [])
theorem CM (F:eW c){args:List UInt8}{room:Nat}{ri:Int}(tK:ri=room) (hr:1≤room∧room≤4) (qz:room+14≤args.length) (hb:args.length≤100000) (q0:ma args room=none→Q .none (FL T))
  (q1:∀dk row,ma args room=some (dk,row)→Q (.tup [.int (dk:Nat),row.av]) (FL T)):WC c (d+2) (.ref 571) [.d8 args,.int ri,.obj 0] (FL T) Q X:=by
 subst tK
 refine WC.take (H₀:=FL []) (X₀:=fun _=>False) T rfl rfl ?_ (fun _ h=>h.elim)
 refine WC.v F rfl rfl fun A env E=>?_
 refine⟨by exact b9 hb rfl,?_⟩
 rw[pI room rfl]
 refine jv F ?_
 refine⟨by exact b9 hb rfl,?_⟩
 rw[i3 room (room+4) (by exact rfl) (by exact rfl)]
 refine jv F ?_
 refine⟨by exact b9 hb rfl,?_⟩
 rw[i3 (room+4) (room+8) (by exact rfl) (by exact rfl)]
 refine jv F ?_
 refine⟨by exact b9 hb rfl,?_⟩
 rw[i3 (room+8) (room+12) (by exact rfl) (by exact rfl)]
 refine jv F ?_
 refine⟨⟨by exact aW [_,_] [] [.L (.a aB (.l 14)) aM] (.A (.l dE (.a aB (.l 12))) (.t (.a aB (.l 12)) aM)) (.o ni cI) rfl qz,by exact b9 hb rfl⟩,?_⟩
 refine⟨by exact b9 hb rfl,?_⟩
 rw[gb (room+14) (by exact rfl),show((room:Int)+12).toNat=room+12 by exact rfl]
 unfold ma at q0 q1
 rw[show c0 args 0 room=args.take room from rfl] at q0 q1
 generalize be (args.take room)=dk at *
 generalize be (c0 args room (room+4))=check at *
 generalize be (c0 args (room+4) (room+8))=size at *
 generalize be (c0 args (room+8) (room+12))=bW at *
 generalize (args.getD (room+12) 0).toNat=fk at *
 have V0:(args.drop (room+14)).length≤100000:=by rw[aJ];exact rG hb
 generalize args.drop (room+14)=name at *
 have q0:jq dk check size bW (name.drop fk)=false→_:=fun h=>q0 (if_neg (by rw[h];exact fN))
 have q1:jq dk check size bW (name.drop fk)=true→_:=fun h=>q1 dk ⟨check,size,bW,fk,name⟩ (if_pos h)
 refine⟨7,aA _,?_⟩
 refine⟨FoJ args room dk check size bW fk name,⟨_,_,fun h=>by exact(aW [] [] [] (.N (.L bP dE)) ni rfl h).elim,fun h=>by exact(aW [] [] [] (.N (.L jN dE)) ni rfl h).elim⟩,fun i l H _ j=>by obtain⟨_,_,_,_⟩:=j;rfl,?_,?_⟩
 ·intro i x l H hx lE
  obtain⟨p,q,m1,m2⟩:=lE
  rcases i with _ | _ | i
  ·replace hx:=ae hx
   subst hx
   refine WE.lc F [81,103,98] E 7 EO (by rfl) (by decide +kernel) (by rfl) ?_
   refine⟨⟨fun _=>trivial,aE rfl⟩,fun cenv i v acc hv=>?_,?_⟩
   ·refine al (rB hv) fun u ix=>?_
    subst ix
    exact⟨_,rfl,rfl,rfl⟩
   refine⟨by exact b9 V0 rfl,⟨by rw[gb fk rfl,aJ];exact Hz V0 rfl,?_⟩⟩
   refine WO.NM 1 (by decide) (ay 1 _) (gv.codes (xs:=[102,99]) (ys:=name.drop fk) (by rfl) (by rw[←gb (fk:Nat) rfl];rfl)) ?_
   generalize RZ:decide ([102,99]=name.drop fk)=dc
   apply hW (¬uG 3 0 [102,99] dk check size bW (name.drop fk))
   ·intro no
    refine⟨fun h1=>?_,fun h1=>by(conv=>whnf);exact no (by intro mr;obtain⟨z,u'⟩:=mr;exact by exact aW [_] [] [.N (.e pM aB)] (.N (.E aB pM)) (.o cM xn) rfl h1 z)⟩
    refine⟨fun h2=>?_,fun h2=>no (by intro nT;refine bQ nT fun u' z u'=>?_;clear nT;exact by exact aW [_] [] [.N (.e (.l 655360) aB)] (.N (.E aB (.l 655360))) (.o cM xn) rfl h2 z)⟩
    cases dc with
    |false=>exact no (by intro pU;refine dm pU fun u' u' z u'=>?_;clear pU;exact of_decide_eq_false RZ z.symm)
    |true=>
    have h3:=of_decide_eq_true RZ
    refine⟨fun h4=>?_,fun h4=>no (by intro wa;refine dm wa fun u' u' u' jS=>?_;clear wa;refine bG jS fun z u'=>?_;exact by exact aW [_] [] [.N (.t dE aB)] (.N (.T dE aB)) cI rfl h4 z)⟩
    refine WV.MY fun k hk=>?_
    refine⟨fun h5=>?_,fun h5=>no (by intro Fc;refine dm Fc fun u' u' u' jW=>?_;clear Fc;refine bQ jW fun u' z u'=>?_;exact by exact aW [_] [_] [.e bJ (.l 134217728),.N (.t aB bJ)] (.N (.T aB (.l 134217728))) qO rfl hk h5 z)⟩
    refine⟨.of_right (by decide),?_⟩
    refine WV.Te (by decide +kernel) ?_
    refine WO.S9 ?_
    by_cases h6:(check:Int)*0=0∨(check:Int)*0=0*0
    ·rw[decide_eq_true h6]
     refine .inl (dU.ret _ (H₁:=FL []) (by rfl) (by rfl) (aA _) (by rfl) ⟨⟨rfl,rfl,rfl⟩,q1 ?_⟩)
     exact qu.mpr (.inl ⟨by exact aW [_] [] [.e pM aB] (.E aB pM) (.o cI cM) rfl h1,by exact aW [_] [] [.e (.l 655360) aB] (.E aB (.l 655360)) (.o cI cM) rfl h2,h3.symm,by exact rC h4 rfl,by exact aW [_] [_] [.e bJ (.l 134217728),.t aB bJ] (.T aB (.l 134217728)) uc rfl hk h5,.inl rfl⟩)
    ·exact absurd (.inl (Int.mul_zero _)) h6
   ·intro no
    refine dU.nextM [true,true,true,true,true,true,true,true,true] _ (H₁:=FL []) (by rfl) (by rfl) (aA _) (by rfl) ?_
    ·exact⟨_,_,fun _=>no,fun h=>by exact(aW [] [] [] (.N (.L jN bP)) ni rfl h).elim⟩
  ·replace hx:=ae hx
   subst hx
   refine WE.lc F [81,103,98] E 7 EO (by rfl) (by decide +kernel) (by rfl) ?_
   refine⟨⟨fun _=>trivial,aE rfl⟩,fun cenv i v acc hv=>?_,?_⟩
   ·refine al (rB hv) fun u jS=>?_
    subst jS
    exact⟨_,rfl,rfl,rfl⟩
   refine⟨by exact b9 V0 rfl,⟨by rw[gb fk rfl,aJ];exact Hz V0 rfl,?_⟩⟩
   refine WO.NM 1 (by decide) (ay 1 _) (gv.codes (xs:=[102,104,122]) (ys:=name.drop fk) (by rfl) (by rw[←gb (fk:Nat) rfl];rfl)) ?_
   generalize RZ:decide ([102,104,122]=name.drop fk)=dc
   apply hW (¬uG 200 77 [102,104,122] dk check size bW (name.drop fk))
   ·intro no
    refine⟨fun h1=>?_,fun h1=>by(conv=>whnf);exact no (by intro E7;obtain⟨z,u'⟩:=E7;exact by exact aW [_] [] [.N (.e (.l 200) aB)] (.N (.E aB (.l 200))) (.o cM xn) rfl h1 z)⟩
    refine⟨fun h2=>?_,fun h2=>no (by intro Io;refine bQ Io fun u' z u'=>?_;clear Io;exact by exact aW [_] [] [.N (.e (.l 655360) aB)] (.N (.E aB (.l 655360))) (.o cM xn) rfl h2 z)⟩
    cases dc with
    |false=>exact no (by intro MR;refine dm MR fun u' u' z u'=>?_;clear MR;exact of_decide_eq_false RZ z.symm)
    |true=>
    have h3:=of_decide_eq_true RZ
    refine⟨fun h4=>?_,fun h4=>no (by intro Iv;refine dm Iv fun u' u' u' jY=>?_;clear Iv;refine bG jY fun z u'=>?_;exact by exact aW [_] [] [.N (.t dE aB)] (.N (.T dE aB)) cI rfl h4 z)⟩
    refine WV.MY fun k hk=>?_
    refine⟨fun h5=>?_,fun h5=>no (by intro Sw;refine dm Sw fun u' u' u' nr=>?_;clear Sw;refine bQ nr fun u' z u'=>?_;exact by exact aW [_] [_] [.e bJ (.l 134217728),.N (.t aB bJ)] (.N (.T aB (.l 134217728))) qO rfl hk h5 z)⟩
    refine⟨.of_right (by decide),?_⟩
    refine WV.Te (by decide +kernel) ?_
    refine WO.S9 ?_
    by_cases h6:(check:Int)*77=0∨(check:Int)*77=77*77
    ·rw[decide_eq_true h6]
     refine .inl (dU.ret _ (H₁:=FL []) (by rfl) (by rfl) (aA _) (by rfl) ⟨⟨rfl,rfl,rfl⟩,q1 ?_⟩)
     exact qu.mpr (.inr ⟨by exact aW [_] [] [.e (.l 200) aB] (.E aB (.l 200)) (.o cI cM) rfl h1,by exact aW [_] [] [.e (.l 655360) aB] (.E aB (.l 655360)) (.o cI cM) rfl h2,h3.symm,by exact rC h4 rfl,by exact aW [_] [_] [.e bJ (.l 134217728),.t aB bJ] (.T aB (.l 134217728)) uc rfl hk h5,h6.imp (fun h=>fY (show Int.ofNat (check*77)=Int.ofNat 0 from h)) (fun h=>fY (show Int.ofNat (check*77)=Int.ofNat (77*77) from h))⟩)
    ·rw[decide_eq_false h6]
     exact no (by intro US;refine dm US fun u' u' u' mU=>?_;clear US;refine bQ mU fun u' u' z=>?_;exact h6 (z.imp (fun h=>congrArg Int.ofNat h) fun h=>congrArg Int.ofNat h))
   ·intro no
    refine dU.nextM [true,true,true,true,true,true,true,true,true] _ (H₁:=FL []) (by rfl) (by rfl) (aA _) (by rfl) ?_
    ·exact⟨_,_,fun _=>m1 (by decide),fun _=>no⟩
  ·simp at hx
 ·intro l H Yj
  obtain⟨p,q,m1,m2⟩:=Yj
  refine .inl ⟨⟨rfl,rfl,rfl⟩,q0 ?_⟩
  rw[Ja]
  intro h
  rcases qu.mp h with h | h
  ·exact m1 (by decide) h
  ·exact m2 (by decide) h
end
end
section
open PySem PySem.W PySem.Calls PyProof.Rows
section
variable {c:Cx}{d n:Nat}{H T:List ag}{Q:AV→List ag→Prop}{X:List ag→Prop}{a op:Nat}{b args:List UInt8}{P:Prop}{f:ai}{as:List AV}{sp:List Int}{A:aU}{env:dH}{l:Loc}
theorem gn {j:Nat}(hj:j<sp.length):(sp.map AV.int)[j]?=some (.int (sp.getD j 0)):=by
 rw[aK,bt,aw hj];rfl
theorem oR {j:Nat}{v:Int}:(sp.map AV.int).set j (.int v)=(sp.set j v).map .int:=by rw[List.map_set]
noncomputable abbrev aZ (sp:List Int):ag:=.list (sp.map .int)
theorem OV (F:eW c) (ho:143≤op∧op<171) (hb:args.length≤100000) (hl:sp.length=6) (q:Q .none [aZ (lg op args sp)]):WC c (d+3) (.ref 578) [.int op,.d8 args,.obj 0] [aZ sp] Q X:=by
 refine WC.v F rfl rfl fun A env E=>?_
 unfold lg I8 Q0 KO Jw at q
 refine⟨⟨by decide,by decide⟩,⟨by decide,?_⟩⟩
 rw[show((op:Int)-143) / 14=(((op-143) / 14:Nat):Int) by rw[rE ho.1];rfl,show((op:Int)-143)%14=(((op-143)%14:Nat):Int) by rw[rE ho.1];rfl]
 have ha:(op-143) / 14<2:=by exact aW [_,_,_,_] [] [.T aB (.l 171),.fs aM aB (.l 143),.fd 14 cf fz aM] (.T cf jN) (.o (.k [14,0,1,0,0,1,0,1]) (.k [14,0,1,0,0,1])) rfl ho.2 (eR _ _) (f_d 14 _ rfl)
 generalize (op-143) / 14=Ke at *
 generalize (op-143)%14=R7 at *
 refine⟨.of_left (by decide),?_⟩
 generalize hr:2+2*Ke+(if R7>8 then 1 else 0)=reg at q
 have Ql:reg<6:=by
  rw[←hr]
  split
  ·exact aW [_] [] [.T aB jN] (.T (.a (.a jN (.m 2 aB)) bP) (.l 6)) (.k [1,2]) rfl ha
  ·exact aW [_] [] [.T aB jN] (.T (.a (.a jN (.m 2 aB)) dE) (.l 6)) (.k [1,2]) rfl ha
 apply vg (fun e:Int=>e=(reg:Nat))
 ·intro key
  refine⟨fun h=>?_,fun h=>?_⟩
  ·conv=>whnf
   generalize hg:2+2*(Ke:Int)+1=e
   exact key e (by rw[←hr,←hg,if_pos (by exact rC h rfl)];exact rfl)
  ·exact key (2+2*(Ke:Int)+0) (by rw[←hr,if_neg (by exact ti h rfl)];exact rfl)
 rintro e rfl
 clear hr
 refine⟨by exact b9 hb rfl,?_⟩
 generalize hs:(if args.length=0 then sp.getD reg 0 else jH args)=size at q
 apply vg (fun e:Int=>e=size)
 ·intro key
  refine⟨fun h=>?_,fun h=>?_⟩
  ·refine⟨⟨by exact k6,by exact aW [_] [] [.T aB (.l 6)] (.t aB DS) cI rfl Ql⟩,_,gn (j:=reg) (by exact EI hl (iZ Ql)),?_⟩
   conv=>whnf
   generalize hg:sp.getD reg 0=e
   exact key e (by rw[←hs,if_pos (by exact mF h),hg])
  ·refine ju F hb (by exact aW [_] [] [.N (.e aB dE)] (.T dE aB) (.o xM cI) rfl h) ?_
   exact key _ (by rw[←hs,if_neg (by exact hU h)])
 rintro e rfl
 clear hs
 generalize hs:(if R7>3 then sp.set reg e else sp)=sp2 at q
 have yM:sp2.length=6:=by rw[←hs];split<;>simp[hl]
 apply hW True
 ·intro key
  refine⟨fun h=>?_,fun h=>?_⟩
  ·refine⟨⟨⟨by exact k6,by rw[aa];exact aW [_,_] [] [.E aB (.l 6),.T aM (.l 6)] (.t aM aB) qO rfl hl Ql⟩,by rw[aa];exact n8 hl rfl⟩,?_⟩
   rw[gm,oR,show sp.set reg e=sp2 by rw[←hs,if_pos (by exact rC h rfl)]]
   conv=>whnf
   exact key trivial
  ·rw[if_neg (by exact ti h rfl)] at hs
   subst hs
   exact key trivial
 intro _
 refine⟨⟨by exact k6,by exact aW [_] [] [.T aB jN] (.t aB DS) cI rfl ha⟩,_,gn (j:=Ke) (by exact aV ha (DH yM rfl)),?_⟩
 refine⟨⟨⟨by exact k6,by rw[aa];exact aW [_,_] [] [.T aB jN,.E aM (.l 6)] (.t aB aM) (.k [1,0,1,1]) rfl ha yM⟩,by rw[aa];exact n8 yM rfl⟩,?_⟩
 rw[gm,oR]
 exact .inl q
end
end
section
open PySem PySem.W PySem.Calls PyProof.Rows
section
variable {c:Cx}{d n:Nat}{H T:List ag}{Q:AV→List ag→Prop}{X:List ag→Prop}{a op:Nat}{b args:List UInt8}{P:Prop}{f:ai}{as:List AV}{sp:List Int}{A:aU}{env:dH}{l:Loc}
theorem sY {ws:List (Int×Int)}{k:Int}:(ws.map fun p=>(p.1,AV.int p.2)).lookup k=(ws.lookup k).map .int:=by
 induction ws with
 |nil=>rfl
 |cons p ws ih=>
  obtain⟨a,b⟩:=p
  simp only[et,dJ] at ih ⊢
  cases k==a<;>simp[ih]
theorem Gb (ch:Int):(dF ch [((3:Int),LI),(200,xD)]=none∧sE ch=[])∨dF ch [((3:Int),LI),(200,xD)]=some (.iR ((sE ch).map fun p=>(p.1,AV.int p.2))):=by
 by_cases h:ch=3
 ·subst h;exact .inr rfl
 ·by_cases h':ch=200
  ·subst h';exact .inr rfl
  ·refine .inl ⟨?_,by simp[sE,h,h']⟩
   simp only[dF,beq_eq_false_iff_ne.mpr h,beq_eq_false_iff_ne.mpr h']
noncomputable abbrev qA (rows:List n9):ag:=.list (rows.map n9.av)
theorem JT (F:eW c){ch:Int}{rows:List n9}(hco:op<138) (hb:args.length≤100000) (hA:op=132∨op=137→args.length=8) (hl:sp.length=6) (hz:rows.length<100000)
  (q0:mi op args sp ch rows=none→Q (.bool false) [aZ sp,qA rows]) (q1:∀JC qp,mi op args sp ch rows=some (JC,qp)→Q (.bool true) [aZ JC,qA qp]) :
  WC c (d+3) (.ref 585) [.int op,.d8 args,.obj 0,.int ch,.obj 1] [aZ sp,qA rows] Q X:=by
 refine WC.v F rfl rfl fun A env E=>?_
 apply hW (op=132∨op=137)
 ·intro key
  refine⟨fun h=>by(conv=>whnf);exact key (by exact aW [_] [] [.e aB (.l 132)] (.O (.E aB (.l 132)) (.E aB (.l 137))) (.o (.o (.k [0,1,0,1]) cI) (.o xn cM)) rfl h),fun h=>⟨fun h2=>key (by exact aW [_] [] [.e aB (.l 137)] (.O (.E aB (.l 132)) (.E aB (.l 137))) (.o (.o (.k [0,1,0,1]) cI) (.o jf cM)) rfl h2),fun h2=>?_⟩⟩
  have hd:mi op args sp ch rows=Tz op sp ch rows (if op<128 then op else be args):=if_neg (show ¬(op=132∨op=137) from aW [_] [] [.N (.e aB (.l 132)),.N (.e aB (.l 137))] (.N (.O (.E aB (.l 132)) (.E aB (.l 137)))) (.o (.o (.o (.k [0,1,0,1]) (.k [0,1,0,1])) (.o cM (.k [0,1,0,1]))) (.o (.o jf xn) (.o cM cM))) rfl h h2)
  have q0:Tz op sp ch rows (if op<128 then op else be args)=none→_:=fun e=>q0 (hd.trans e)
  have q1:∀r,Tz op sp ch rows (if op<128 then op else be args)=some r→Q (.bool true) [aZ r.1,qA r.2]:=fun r e=>q1 _ _ (hd.trans e)
  clear hd
  generalize XR:(if op<128 then op else be args)=code at q0 q1
  apply vg (fun e:Int=>e=(code:Nat))
  ·intro oG
   refine⟨fun h3=>?_,fun h3=>?_⟩
   rotate_left
   ·refine jv F ?_
    conv=>whnf
    generalize hg:((be args:Nat):Int)=e
    exact oG e (by rw[←XR,←hg,if_neg (by exact dW h3 rfl)])
   ·exact oG _ (by rw[←XR,if_pos (by exact gV h3)])
  ·rintro e rfl
   rcases Gb ch with⟨yM,hw⟩ | yM
   ·conv=>whnf
    rw[yM]
    exact .inl (q0 (mN (by rw[hw];rfl) rfl))
   ·conv=>whnf
    rw[yM]
    refine⟨_,yM,?_⟩
    conv=>whnf
    rw[sY,dg]
    cases hw:(sE ch).lookup (code:Int) with
    |none=>exact .inl (q0 (mN hw rfl))
    |some w=>
     have q1:Q (.bool true) [aZ (xj op sp w),qA (rows++[.char (sp.getD 0 0) (sp.getD 1 0) ch code])]:=q1 _ (mS hw rfl)
     clear q0
     refine⟨⟨by decide,by decide⟩,_,gn (j:=0) (by exact qP hl rfl),?_⟩
     refine⟨⟨by decide,by decide⟩,_,gn (j:=1) (by exact qP hl rfl),?_⟩
     refine⟨by rw[aa];exact rD hz rfl,?_⟩
     rw[jT (.char (sp.getD 0 0) (sp.getD 1 0) ch code) (by rfl)]
     refine⟨_,yM,?_⟩
     refine⟨.int w,by rw[sY,hw];rfl,?_⟩
     refine⟨fun h5=>?_,fun h5=>?_⟩
     ·rw[xj,if_pos (show op<133 by exact gV h5)] at q1
      refine⟨⟨by decide,by decide⟩,_,gn (j:=0) (by exact qP hl rfl),?_⟩
      refine⟨⟨⟨by decide,by rw[aa];exact aW [_] [] [.E aB (.l 6)] (.t dE aB) cM rfl hl⟩,by rw[aa];exact n8 hl rfl⟩,?_⟩
      rw[oR]
      exact .inl q1
     ·rw[xj,if_neg (show ¬op<133 by exact dW h5 rfl)] at q1
      exact .inl q1
 ·intro hA'
  have w5:=hA hA'
  have q1:Q (.bool true) [aZ (xj op sp (jH (args.drop 4))),qA (if min (jH (c0 args 0 4)) (jH (args.drop 4))>0 then rows++[.rule (sp.getD 0 0) (sp.getD 1 0) (jH (c0 args 0 4)) (jH (args.drop 4))] else rows)]:=q1 _ _ (if_pos hA')
  clear q0
  refine⟨by exact n8 w5 rfl,?_⟩
  rw[show lL none (some (4:Int)) args=args.take 4 from pI 4 rfl]
  refine ju F (by rw[cg];exact aW [_,_] [] [.fm aB iE aM] (.L aB r7) (.o cM uc) rfl (AJ _ _)) (by rw[cg];exact aW [_,_] [] [.E aB (.l 8),.fm aM iE aB] (.T dE aM) (.o jf (.k [1,0,0,1,0,1])) rfl w5 (AJ _ _)) ?_
  refine⟨by exact n8 w5 rfl,?_⟩
  rw[show lL (some (4:Int)) none args=args.drop 4 from gb 4 rfl]
  refine ju F (by rw[aJ];exact rG hb) (by rw[aJ];exact nc (qP w5 rfl)) ?_
  rw[show c0 args 0 4=args.take 4 from rfl] at q1
  generalize jH (args.drop 4)=w at *
  generalize jH (args.take 4)=h at *
  refine⟨fun h4=>?_,fun h4=>?_⟩
  ·rw[if_pos h4] at q1
   refine⟨⟨by decide,by decide⟩,_,gn (j:=0) (by exact qP hl rfl),?_⟩
   refine⟨⟨by decide,by decide⟩,_,gn (j:=1) (by exact qP hl rfl),?_⟩
   refine⟨by rw[aa];exact rD hz rfl,?_⟩
   rw[jT (.rule (sp.getD 0 0) (sp.getD 1 0) h w) (by rfl)]
   refine⟨fun h5=>?_,fun h5=>?_⟩
   ·rw[xj,if_pos (by exact gV h5)] at q1
    refine⟨⟨by decide,by decide⟩,_,gn (j:=0) (by exact qP hl rfl),?_⟩
    refine⟨⟨⟨by decide,by rw[aa];exact aW [_] [] [.E aB (.l 6)] (.t dE aB) cM rfl hl⟩,by rw[aa];exact n8 hl rfl⟩,?_⟩
    rw[oR]
    exact .inl q1
   ·rw[xj,if_neg (by exact dW h5 rfl)] at q1
    exact .inl q1
  ·rw[if_neg h4] at q1
   refine⟨fun h5=>?_,fun h5=>?_⟩
   ·rw[xj,if_pos (by exact gV h5)] at q1
    refine⟨⟨by decide,by decide⟩,_,gn (j:=0) (by exact qP hl rfl),?_⟩
    refine⟨⟨⟨by decide,by rw[aa];exact aW [_] [] [.E aB (.l 6)] (.t dE aB) cM rfl hl⟩,by rw[aa];exact n8 hl rfl⟩,?_⟩
    rw[oR]
    exact .inl q1
   ·rw[xj,if_neg (by exact dW h5 rfl)] at q1
    exact .inl q1
end
end
section
open PySem PySem.W PySem.Calls PyProof.Rows
section
variable {c:Cx}{d n m:Nat}{H T:List ag}{Q:AV→List ag→Prop}{X:List ag→Prop}{a op:Nat}{b args:List UInt8}{P:Prop}{f:ai}{as:List AV}{sp:List Int}{A:aU}{env:dH}{l:Loc}{kn:Known}{cm:ag}
theorem KC (F:eW c) (hn:H[n]?=some (aZ sp)) (ho:143≤op∧op<171) (hb:args.length≤100000) (hl:sp.length=6) (q:Q .none (H.set n (aZ (lg op args sp)))):WC c (d+3) (.ref 578) [.int op,.d8 args,.obj n] H Q X:=by
 refine WC.frame [n] (H₀:=[aZ sp]) ⟨rfl,by simp,fun{i k x} e1 e2=>?_⟩ (as₀:=[.int op,.d8 args,.obj 0]) rfl rfl (X₀:=fun _=>False) (OV F ho hb hl ?_) (fun _ _ h=>h) fun _ h=>h.elim
 ·cases i with
  |zero=>replace e1:=ae e1;subst e1;replace e2:=ae e2;subst e2;exact⟨fC,by rw[hn];exact congrArg (fun v=>some (ag.list v)) (fe fun _=>rfl).symm⟩
  |succ i=>exact nS e1
 ·show Q .none (H.set n (.list (lK _ _))++[])
  rw[fe (fun _=>rfl),cK]
  exact q
theorem FZ (F:eW c){ch:Int}{rows:List n9}(hn:H[n]?=some (aZ sp)) (hm:H[m]?=some (qA rows)) (v9:n≠m) (hco:op<138) (hb:args.length≤100000) (hA:op=132∨op=137→args.length=8) (hl:sp.length=6) (hz:rows.length<100000)
  (q:d9 (mi op args sp ch rows) (Q (.bool false) H) fun v=>Q (.bool true) ((H.set n (aZ v.1)).set m (qA v.2))) :
  WC c (d+3) (.ref 585) [.int op,.d8 args,.obj n,.int ch,.obj m] H Q X:=by
 have e:∀v w,putAt (fr [n,m] H.length) [n,m] H [aZ v,qA w]++[]=(H.set n (aZ v)).set m (qA w):=fun v w=>by
  show(H.set n (.list (lK _ _))).set m (.list (lK _ _))++[]=_
  rw[fe (fun _=>rfl),fe tX,cK]
 have hs:∀{k:Nat}{x:ag}{G:List ag},G[k]?=some x→G.set k x=G:=fun{k x G} h=>by
  obtain⟨hk,e⟩:=ao.mp h
  exact e▸Cv hk
 refine WC.frame [n,m] (H₀:=[aZ sp,qA rows]) ⟨rfl,by simp[v9],fun{i k x} e1 e2=>?_⟩ (as₀:=[.int op,.d8 args,.obj 0,.int ch,.obj 1]) rfl rfl (X₀:=fun _=>False)
  (JT F hco hb hA hl hz (fun h=>?_) fun JC qp h=>?_) (fun _ _ h=>h) fun _ h=>h.elim
 ·rcases i with _ | _ | i
  ·replace e1:=ae e1;subst e1;replace e2:=ae e2;subst e2;exact⟨fC,by rw[hn];exact congrArg (fun v=>some (ag.list v)) (fe fun _=>rfl).symm⟩
  ·replace e1:=ae e1;subst e1;replace e2:=ae e2;subst e2;exact⟨j8 xG,by rw[hm];exact congrArg (fun v=>some (ag.list v)) (fe tX).symm⟩
  ·exact nS e1
 ·rw[h] at q
  show Q (.bool false) (putAt (fr [n,m] H.length) [n,m] H [aZ sp,qA rows]++[])
  rw[e,hs hn,hs hm]
  exact q
 ·rw[h] at q
  show Q (.bool true) (putAt (fr [n,m] H.length) [n,m] H [aZ JC,qA qp]++[])
  rw[e]
  exact q
theorem CA (F:eW c) (ho:243≤op∧op<247) (qz:op-242+14≤args.length) (hb:args.length≤100000) (hz:kn.length≤100000)
  (q:d9 (iD op args kn) (Q (.bool false) (FL (cm::.dict (kn.map ji)::T))) fun kn=>Q (.bool true) (FL (cm::.dict (kn.map ji)::T))):WC c (d+3) (.ref 599) [.int op,.d8 args,.obj 8,.obj 0] (FL (cm::.dict (kn.map ji)::T)) Q X:=by
 refine WC.v F rfl rfl fun A env E=>?_
 refine CM F (room:=op-242) (by exact rE (A2 ho.1 rfl)) (by exact aW [_,_] [] [.L (.l 243) aB,.T aB (.l 247),.fs aM aB (.l 242)] (.A (.L bP aM) (.L aM iE)) (.o (.o (.k [1,0,0,1,0,1]) jM) (.o (.k [0,1,0,0,0,1]) cM)) rfl ho.1 ho.2 (eR _ _)) qz hb (fun h=>?_) (fun dk row h=>?_)
 ·exact .inl (d9.bi q |>.1 h)
 ·have q:d9 (Qb kn (dk,row)) _ _:=d9.got q h
  conv=>whnf
  rw[fx,dg]
  cases hk:(kn.lookup (dk:Int)).isSome with
  |true=>exact .inl (q.pos hk)
  |false=>
   refine⟨by rw[aa];exact b9 hz rfl,?_⟩
   rw[ue (by simpa using hk)]
   exact .inl (q.neg (by simp[hk]))
end
end
section
open PySem PySem.W PySem.Calls PyProof.Rows
theorem gv.nil {H:List ag}{n m:Nat}{vs:List AV}(h1:H[n]?=some (.list vs)) (h2:H[m]?=some (.list [])):gv H 1 (.obj n) (.obj m) vs.isEmpty:=by
 cases vs with
 |nil=>exact .lst (e:=fun _=>true) h1 h2 rfl fun _ _ _ h=>nS h
 |cons v vs=>exact .len h1 h2 (oh _)
theorem Qq {op:Nat}{args:List UInt8}{sp:List Int}{ch:Int}{rows:List n9}:hN (mi op args sp ch rows) fun r=>r.1.length=sp.length∧r.2.length≤rows.length+1:=by
 have h:∀{w:Int},(xj op sp w).length=sp.length:=fun{w}=>by unfold xj;split;exact dG ..;rfl
 refine .ite (fun _=>.some ⟨h,?_⟩) fun _=>.map fun _ _=>⟨h,bF ah⟩
 show(if _ then _ else _:List n9).length≤_
 split
 ·exact bF ah
 ·exact bX _
theorem BV {op:Nat}{args:List UInt8}{sp:List Int}{ch:Int}{rows qp:List n9}{JC:List Int}(h:mi op args sp ch rows=some (JC,qp)):JC.length=sp.length∧qp.length≤rows.length+1:=Qq _ h
theorem DL {op:Nat}{args:List UInt8}{sp:List Int}:(lg op args sp).length=sp.length:=by
 refine(dG ..).trans ?_
 unfold Q0
 split
 ·exact dG ..
 ·rfl
theorem Br {op:Nat}{args:List UInt8}{kn pf:Known}(h:iD op args kn=some pf):pf.length=kn.length+1:=(BR _ h).2
noncomputable def ko (n:Nat):List AV:=(bh n).map fun i=>.obj (14+i)
theorem tZ (n:Nat):ko (n+1)=ko n++[.obj (14+n)]:=by unfold ko;rw[List.range_succ,aF];rfl
theorem BQ (n:Nat):(ko n).length=n:=by unfold ko;rw[aa,a8]
noncomputable abbrev RH (cs:List fK) (kn:Known) (pg:ag) (s:ka) (T:List ag):List ag:=
 FL (.list (cs.map z0)::.dict (kn.map ji)::pg::.list [.int 0]::aZ s.sp::.list (ko s.kept.length)::qA s.rows::(s.kept.map aZ++T))
noncomputable def jm:List eF:=match iI (df 72) with
 |[_,.While _ b _ _,_]=>b.drop 4
 |_=>[]
section
variable {c:Cx}{d n m:Nat}{H T:List ag}{Q:AV→List ag→Prop}{SQ:AF→Loc→List ag→Prop}{X:List ag→Prop}{a op:Nat}{b args:List UInt8}{P:Prop}{f:ai}{as:List AV}{sp:List Int}{A:aU}{env:dH}{l:Loc}{kn:Known}{cm pg:ag}{cs:List fK}
theorem xh {sx:Nat}{x0 x1 x2 x3 x5 x6 x7 x8 x9 O6 OH:Option AV}(hl:l=[x0,x1,x2,x3,some (.obj sx),x5,x6,x7,x8,x9,O6,OH]) (hs:H[sx]?=some (aZ sp)) (h6:sp.length=6) (q0:Le sp=false→SQ (.ret .none) l H) (q1:Le sp=true→SQ .next l H) :
  vS ⟨c,d,A,env,X⟩ (gx (df 72) [92,83,103,94,82,77,85,91]) (n+20) m jm l H SQ:=by
 subst hl
 refine Gz (kU hs) (by decide) (gn (j:=0) (by exact qP h6 rfl)) ?_
 refine Gz (kU hs) (by decide) (gn (j:=1) (by exact qP h6 rfl)) ?_
 have a0:=@r8 (sp.getD 0 0)
 have a1:=@r8 (sp.getD 1 0)
 refine⟨fun h=>?_,fun h=>?_⟩
 ·refine q0 ?_
  unfold Le;rw[decide_eq_false_iff_not];intro q
  exact jE.mpr (Int.max_le.mpr ⟨jE.mp (a0.mpr q.1),jE.mp (a1.mpr q.2)⟩) h
 ·refine q1 ?_
  unfold Le;rw[decide_eq_true_eq]
  exact⟨a0.mp (by exact aW [] [_,_,_] [.N (.t (.l 2147483647) bJ),.fI bJ dN hM] (.N (.t (.l 2147483647) dN)) (.o nY (.k [1,1,0,1,1])) rfl h (f_I _ _)),a1.mp (by exact aW [] [_,_,_] [.N (.t (.l 2147483647) bJ),.fI bJ dN hM] (.N (.t (.l 2147483647) hM)) (.o (.k [1,1,0,1,1]) nY) rfl h (f_I _ _))⟩
theorem HH {α:Type}{g:α→AV}{f:Nat→Nat}:∀{l:List α},(∀x∈l,oq f (g x)=g x)→lK f (l.map g)=l.map g:=by
 intro us
 induction us with
 |nil=>
  intro _
  exact rfl
 |cons x l ih=>
  intro h
  exact s9 (h x aI) (ih fun y hy=>h y (aG _ hy))
theorem F8 {α:Type}{k:Nat}{f:α→AV}:∀{l:List α},(∀x∈l,vq k (f x)=true)→mT k (l.map f)=true:=by
 intro us
 induction us with
 |nil=>
  intro _
  exact rfl
 |cons x l ih=>
  intro h
  exact nq (h x aI) (ih fun y hy=>h y (aG _ hy))
noncomputable def sa (n:Nat):List Nat:=0::1::2::3::4::5::6::7::8::9::10::(14+n)::12::13::(bh n).map fun i=>14+i
theorem CN {n i:Nat}(h:i<n):(sa n)[i+14]?=some (14+i):=by
 show((bh n).map fun i=>14+i)[i]?=_
 rw[aK,cH h];rfl
theorem Az {n:Nat}:(sa n).length=n+14:=by
 show((bh n).map fun i=>14+i).length+14=_
 rw[aa,a8]
theorem Aw.mem {k:Nat}{f:Nat→Nat}{H:List ag}{τ:List Nat}:∀{H₁:List ag},(∀{i n:Nat}{x:ag},τ[i]?=some n→H₁[i]?=some x→yO k x=true∧H[n]?=some (iw f x))→Aw k f H τ H₁:=by
 induction τ with
 |nil=>exact fun _=>trivial
 |cons n τ ih=>
  intro H₁ h
  cases H₁ with
  |nil=>exact trivial
  |cons x r=>exact⟨h (i:=0) rfl rfl,ih fun{i n x} e1 e2=>h (i:=i+1) e1 e2⟩
theorem KN {y:List Int}{ks:List (List Int)}{rows:List n9}{deep chosen:Int}{old:ag}(Of:∀k,yO k pg=true) (WT:∀f,iw f pg=pg):tF (sa ks.length) (RH cs kn pg ⟨y,ks,rows,deep,chosen⟩ [])
  (FL (.list (cs.map z0)::.dict (kn.map ji)::pg::.list [.int 0]::old::.list (ko ks.length)::qA rows::(ks.map aZ++aZ y::T))):=by
 have hk:∀i,i<ks.length→(sa ks.length).getD (14+i) 0=14+i:=fun i h=>by
  rw[bt,show 14+i=i+14 by exact fJ _ _,CN h]
  show 14+i=_;exact fJ _ _
 have ho:yO (sa ks.length).length (.list (ko ks.length))=true:=F8 fun i h=>by
  have:=de.mp h
  refine eQ ?_
  rw[Az]
  exact(by exact aW [_,_] [] [.T aB aM] (.L (.a (.a (.l 14) aB) bP) (.a aM (.l 14))) cI rfl this)
 have hr:iw ((sa ks.length).getD · 0) (.list (ko ks.length))=.list (ko ks.length):=congrArg ag.list (HH fun i h=>by
  exact congrArg AV.obj (hk i (de.mp h)))
 have hy:(ks.map aZ++aZ y::T)[ks.length]?=some (aZ y):=by rw[aY (by rw[aa];exact lM 0 rfl),aa,gZ];rfl
 refine tF.of ?_ ?_ (show Aw _ _ _ (0::1::2::3::4::5::6::7::8::9::10::(14+ks.length)::12::13::(bh ks.length).map fun i=>14+i) _ from
  ⟨⟨rfl,rfl⟩,⟨rfl,rfl⟩,⟨rfl,rfl⟩,⟨rfl,rfl⟩,⟨rfl,rfl⟩,⟨rfl,rfl⟩,⟨rfl,rfl⟩,⟨j8 fun _=>rfl,congrArg (fun v=>some (ag.list v)) (fe fun _=>rfl).symm⟩,⟨sD,congrArg (fun v=>some (ag.dict v)) w9.symm⟩,⟨Of _,congrArg some (WT _).symm⟩,⟨rfl,rfl⟩,
   ⟨fC,?_⟩,⟨ho,congrArg some hr.symm⟩,⟨j8 xG,congrArg (fun v=>some (ag.list v)) (fe tX).symm⟩,Aw.mem fun{i n x} e1 e2=>?_⟩)
 ·rw[Az]
  show _=(ks.map aZ++[]).length+14
  rw[cK,aa]
 ·refine(fun h=>(List.pairwise_map.mp h).imp fun h e=>h (congrArg (fun k=>if k=14+ks.length then 11 else k) e):((sa ks.length).map fun k=>if k=14+ks.length then 11 else k).Nodup→_) ?_
  have e:(sa ks.length).map (fun k=>if k=14+ks.length then 11 else k)=bh (14+ks.length):=by
   unfold sa
   rw[List.range_add]
   simp only[et,dx,if_true]
   rw[show(bh ks.length).map ((fun k=>if k=14+ks.length then 11 else k) ∘ fun i=>14+i)=(bh ks.length).map (14+·) from i6 fun i h=>if_neg (show ¬14+i=_ by have:=de.mp h;exact aW [_,_] [] [.T aB aM] (.N (.E (.a (.l 14) aB) (.a (.l 14) aM))) xn rfl this)]
   have hc:∀k,k<14→(if k=14+ks.length then 11 else k)=k:=fun k h=>if_neg (by exact aW [_,_] [] [.T aB (.l 14)] (.N (.E aB (.a (.l 14) aM))) xn rfl h)
   rw[hc 0 (by decide),hc 1 (by decide),hc 2 (by decide),hc 3 (by decide),hc 4 (by decide),hc 5 (by decide),hc 6 (by decide),hc 7 (by decide),hc 8 (by decide),hc 9 (by decide),hc 10 (by decide),hc 12 (by decide),hc 13 (by decide)]
   rfl
  rw[e]
  exact ur
 ·rw[show iw ((sa ks.length).getD · 0) (aZ y)=aZ y from congrArg ag.list (fe fun _=>rfl),fJ]
  exact hy
 ·have e2:(ks.map aZ++[])[i]?=some x:=e2
  rw[cK,aK] at e2
  refine aq (bB.mp e2) fun sp h gD=>?_
  subst gD
  have hi:=(ao.mp h).1
  have e1:(sa ks.length)[i+14]?=some n:=e1
  rw[CN hi] at e1
  replace e1:=ae e1
  subst e1
  refine⟨fC,?_⟩
  rw[show iw ((sa ks.length).getD · 0) (aZ sp)=aZ sp from congrArg ag.list (fe fun _=>rfl),fJ]
  show(ks.map aZ++aZ y::T)[i]?=_
  rw[aC (by rw[aa];exact hi),aK,h];rfl
theorem kJ {S:Loc→List ag→QT→Prop}{Q:QT}{l:Loc}{H:List ag}(h:S l H Q):Iu Q S .next l H:=h
theorem HZ {z:VZ}{g:Sx}{SQ:QT}{ss:List eF}{G:Prop}(R:Loc→List ag→Prop) (w:(∀l H,R l H→vS z g n m ss l H SQ)→G) (k:∀l H,R l H→vS z g n m ss l H SQ):G:=w k
inductive RwJ (cs:List fK) (pg:ag) (tO:Option (ka×Known×List fK)) (i:Nat):Loc→List ag→Prop
 |mk (iM:Nat) (s:ka) (lY:Known) (x1 x2 x3:Option AV) (yN:la (cs.drop iM) s lY=tO) (OQ:iM≤cs.length) (hi:i=cs.length-iM) (Du:s.kept.length≤iM) (CJ:s.rows.length≤iM) (E9:lY.length≤iM) (h6:s.sp.length=6) (Ec:∀sp∈s.kept,sp.length=6) :
  RwJ cs pg tO i [some (.obj 7),some (.int iM),some (.obj 8),some (.obj 0),some (.obj 11),some (.obj 12),some (.obj 13),some (.int s.deep),some (.int s.chosen),x1,x2,x3] (RH cs lY pg s [])
inductive RwT (cs:List fK) (pg:ag) (iM op place:Nat) (args:List UInt8) (mid:Option (ka×Known)) (l:Loc) (H:List ag):Prop
 |mk (s2:ka) (Jz:Known) (el:l=[some (.obj 7),some (.int ((iM:Int)+1)),some (.obj 8),some (.obj 0),some (.obj 11),some (.obj 12),some (.obj 13),some (.int s2.deep),some (.int s2.chosen),some (.int op),some (.int place),some (.d8 args)]) (eh:H=RH cs Jz pg s2 []) (e:mid=some (s2,Jz))
  (b1:s2.kept.length≤iM+1) (b2:s2.rows.length≤iM+1) (b3:Jz.length≤iM+1) (b4:s2.sp.length=6) (b5:∀sp∈s2.kept,sp.length=6)
theorem OK (F:eW c){at_:Nat}(Of:∀k,yO k pg=true) (WT:∀f,iw f pg=pg) (nx:∀c∈cs,rN c) (rW:cs.length≤100000) (Nc:at_≤cs.length) (Xx:kn.length≤at_)
  (q0:la (cs.drop at_) TZ kn=none→∀T,Q .none (FL T))
  (q1:∀s' pf r',la (cs.drop at_) TZ kn=some (s',pf,r')→s'.rows.length≤cs.length-r'.length→pf.length≤cs.length-r'.length→(∃k,r'=cs.drop k∧k≤cs.length) →
   ∀T,Q (.tup [.obj 13,.int s'.deep,.int ((cs.length-r'.length:Nat):Int)]) (RH cs pf pg s' T)):WC c (d+4) (.ref 592) [.obj 7,.int at_,.obj 8,.obj 0] (FL [.list (cs.map z0),.dict (kn.map ji),pg]) Q X:=by
 refine WC.v F rfl rfl fun A env E=>?_
 generalize Ad:la (cs.drop at_) TZ kn=tO at q0 q1
 refine⟨⟨by decide,by decide⟩,?_⟩
 refine⟨RwJ cs pg tO,cs.length-at_,
  ⟨at_,TZ,kn,none,none,none,Ad,Nc,rfl,cQ _,cQ _,Xx,rfl,fun _ h=>by cases h⟩,?_⟩
 rintro i l H' ⟨iM,s,lY,x1,x2,x3,yN,OQ,rfl,Du,CJ,E9,h6,Ec⟩
 refine⟨by rw[aa];exact b9 rW rfl,⟨fun h1=>?_,fun h1=>?_⟩⟩
 ·rw[aa] at h1
  have h1:iM<cs.length:=by exact Ib h1
  obtain⟨A5,tP⟩:∃A5,cs[iM]?=some A5:=⟨_,aw h1⟩
  have ye:=nx A5 (a9 tP)
  have SO:cs.drop iM=A5::cs.drop (iM+1):=by
   obtain⟨h2,rfl⟩:=ao.mp tP
   exact i0 h2
  rw[SO] at yN
  obtain⟨op,place,args⟩:=A5
  have GS:=ye.small
  dsimp only at GS
  refine⟨⟨by exact k6,by exact HW h1 rW rfl⟩,.tup [.int op,.int place,.d8 args],by rw[aK,gm,tP];rfl,?_⟩
  obtain⟨sp,kept,rows,deep,chosen⟩:=s
  dsimp only at Du CJ h6 Ec
  refine⟨fun h2=>?_,fun h2=>?_⟩
  ·have yN:(if kept=[] then some ((⟨sp,kept,rows,deep,chosen⟩:ka),lY,cs.drop (iM+1)) else none)=tO:=(if_pos (mF h2)).symm.trans yN
   refine WO.NM 1 (by decide) (ay 1 _) (gv.nil (vs:=ko kept.length) (by rfl) (At.last rfl)) ?_
   cases kept with
   |nil=>
    have q:=q1 _ _ _ yN.symm (by rw[aJ];exact Av CJ h1) (by rw[aJ];exact Av E9 h1) ⟨iM+1,rfl,h1⟩ [.list []]
    rw[aJ,show cs.length-(cs.length-(iM+1))=iM+1 by exact vU (f9 0 h1 rfl)] at q
    exact .inl (.inl q)
   |cons x kept=>
    rw[show(ko (x::kept).length).isEmpty=false by rw[cL,tZ];cases ko kept.length<;>rfl]
    exact .inl (.inl (q0 yN.symm _))
  ·have yN:((Es ⟨op,place,args⟩ ⟨sp,kept,rows,deep,chosen⟩ lY).bind fun q=>la (cs.drop (iM+1)) q.1 q.2)=tO:=(if_neg (hU h2)).symm.trans yN
   have JB:g8 ⟨op,place,args⟩ ⟨sp,kept,rows,deep,chosen⟩ lY=none→∀T,Q .none (FL T):=fun h=>q0 (yN.symm.trans (bN (bN h rfl) rfl))
   have Jp:∀{s2:ka}{Jz:Known},g8 ⟨op,place,args⟩ ⟨sp,kept,rows,deep,chosen⟩ lY=some (s2,Jz)→(Le s2.sp=false→∀T,Q .none (FL T))∧(Le s2.sp=true→la (cs.drop (iM+1)) s2 Jz=tO):=fun{s2 Jz} e=>
    ⟨fun hb=>q0 (yN.symm.trans (bN (bS e (if_neg (by rw[hb];exact fN))) rfl)),fun hb=>(bS (show Es _ _ _=some (s2,Jz) from bS e (if_pos hb)) rfl).symm.trans yN⟩
   clear yN
   by_cases ND:op=142
   ·subst ND
    refine⟨fun h=>by exact(aW [] [] [] (.N (.t (.l 142) (.l 138))) ni rfl h).elim,fun _=>⟨fun h=>by exact(aW [] [] [] (.N (.e (.l 142) (.l 141))) ni rfl h).elim,fun _=>⟨fun _=>?_,fun h=>absurd rfl h⟩⟩⟩
    refine WO.Ln 1 (by decide) (ay 1 _) (gv.nil (vs:=ko kept.length) (by rfl) (At.last rfl)) ?_
    rcases Cs kept with rfl | ⟨ks,y,he⟩
    ·iterate 4 refine⟨fun h=>absurd h (by decide),fun _=>?_⟩
     exact⟨fun _=>.inl (.inl (JB rfl _)),fun h=>by exact(aW [] [] [] (.N (.N (.N (.e (.l 142) (.l 138))))) ni rfl h).elim⟩
    ·rw[Cu] at he
     subst he
     have Ba:(ks++[y]).length=ks.length+1:=ah
     rw[show(ko (ks++[y]).length).isEmpty=false by rw[Ba,tZ];cases ko ks.length<;>rfl]
     have e:g8 ⟨142,place,args⟩ ⟨sp,ks++[y],rows,deep,chosen⟩ lY=some (⟨y,ks,rows,deep,chosen⟩,lY):=by
      exact iF (by exact(by decide:¬142<138)) (iF (by exact(by decide:¬142=141)) (iT ⟨rfl,by simp⟩ (by rw[DB,DA];rfl)))
     have ya:(ks++[y]).map aZ++[]++[.list []]=ks.map aZ++aZ y::[.list []]:=by simp
     refine WV.pop (vs:=ko ks.length) (a:=.obj (14+ks.length)) (show some (ag.list (ko (ks++[y]).length))=_ by rw[Ba,tZ]) (by rw[BQ];exact aW [_,_,_,_] [] [.L aB r7,.T aM aB,.L cf aM,.E cf (.a fz bP)] (.L fz jg) (.k [1,0,1,1,1,1]) rfl rW h1 Du Ba) ?_
     refine kJ (?_:vS _ _ _ _ jm _ _ _)
     have Jp:=Jp e
     refine xh (sx:=14+ks.length) (sp:=y) rfl ?_ (Ec y (by simp)) (fun hb=>?_) (fun hb=>?_)
     ·rw[fJ]
      show((ks++[y]).map aZ++[]++[.list []])[ks.length]?=_
      rw[ya,aY (by rw[aa];exact lM 0 rfl),aa,gZ];rfl
     ·exact .inl (.inl (Jp.1 hb _))
     ·have yN:=Jp.2 hb
      refine .inr ⟨sa ks.length,[some (.obj 7),some (.int ((iM:Int)+1)),some (.obj 8),some (.obj 0),some (.obj 11),some (.obj 12),some (.obj 13),some (.int deep),some (.int chosen),none,none,none],RH cs lY pg ⟨y,ks,rows,deep,chosen⟩ [],fun n hn=>?_,?_,fun{i v} hv=>?_,?_⟩
      ·have hn:n<10:=hn
       rcases n with _ | _ | _ | _ | _ | _ | _ | _ | _ | _ | n
       all_goals first | rfl | exact(aW [_] [] [] (.N (.T (.a (.a (.a (.a (.a (.a (.a (.a (.a (.a aB bP) bP) bP) bP) bP) bP) bP) bP) bP) bP) (.l 10))) ni rfl hn).elim
      ·have:=KN (T:=[.list []]) (cs:=cs) (kn:=lY) (y:=y) (ks:=ks) (rows:=rows) (deep:=deep) (chosen:=chosen) (old:=aZ sp) Of WT
       rw[←ya] at this
       exact this
      ·rcases i with _ | _ | _ | _ | _ | _ | _ | _ | _ | _ | _ | _ | i
       all_goals first | (replace hv:=ae (ae hv);subst hv;exact⟨rfl,rfl⟩) | cases hv
      ·exact⟨cs.length-(iM+1),by exact wG h1,iM+1,⟨y,ks,rows,deep,chosen⟩,lY,_,_,_,yN,h1,rfl,(show ks.length≤iM+1 by exact aW [_,_,_] [] [.L aB aM,.E aB (.a cf bP)] (.L cf (.a aM bP)) (.k [1,0,1,1]) rfl Du Ba),bz CJ,bz E9,Ec y (by simp),fun x hx=>Ec x (by simp[hx])⟩
   have hA:op=132∨op=137→args.length=8:=fun h=>by
    have:=ye.short (show op<239 by exact aW [_] [] [.O (.E aB (.l 132)) (.E aB (.l 137))] (.T aB (.l 239)) (.o cI cI) rfl h)
    rcases h with rfl | rfl
    ·exact this
    ·exact this
   apply HZ (ss:=jm) (RwT cs pg iM op place args (g8 ⟨op,place,args⟩ ⟨sp,kept,rows,deep,chosen⟩ lY))
   case w=>
    intro key
    refine⟨fun h3=>?_,fun h3=>?_⟩
    ·refine FZ F (sp:=sp) (rows:=rows) (by rfl) (by rfl) (by decide) (by exact gV h3) (by exact GS) hA h6 (by exact cj CJ (aV h1 rW)) ?_
     have e:g8 ⟨op,place,args⟩ ⟨sp,kept,rows,deep,chosen⟩ lY=(mi op args sp chosen rows).map fun p=>(⟨p.1,kept,p.2,deep,chosen⟩,lY):=by
      exact if_pos (show op<138 by exact gV h3)
     cases h:mi op args sp chosen rows with
     |none=>exact .inl (.inl (JB (by rw[e,h];rfl) _))
     |some v=>
      obtain⟨JC,qp⟩:=v
      have V1:=BV h
      exact key _ _ ⟨⟨JC,kept,qp,deep,chosen⟩,lY,rfl,rfl,by rw[e,h];rfl,bz Du,(show qp.length≤iM+1 by exact az V1.2 (cR CJ _)),by exact QY E9,(show JC.length=6 by exact aW [_,_] [] [.E aB (.l 6),.E aM aB] (.E aM (.l 6)) (.o jM qO) rfl h6 V1.1),Ec⟩
    refine⟨fun h4=>?_,fun h4=>?_⟩
    ·have e:g8 ⟨op,place,args⟩ ⟨sp,kept,rows,deep,chosen⟩ lY=some (⟨sp,kept++[sp],rows,max deep (kept.length+1),chosen⟩,lY):=by
      exact iF (show ¬op<138 from dW h3 rfl) (if_pos (show op=141 from mF h4))
     have Ba:∀x,(ko kept.length++[x]).length=kept.length+1:=fun x=>by rw[ah,BQ];rfl
     refine⟨by rw[aa];show sp.length≤_;exact n8 h6 rfl,⟨by rw[BQ];show kept.length≤_;exact w4 Du h1 rW rfl,⟨by rw[Ba];exact cR (w4 Du h1 rW rfl) _,?_⟩⟩⟩
     refine kJ (?_:vS _ _ _ _ jm _ _ _)
     refine key _ _ ⟨⟨sp,kept++[sp],rows,max deep (kept.length+1),chosen⟩,lY,?_,?_,e,by rw[ah];exact cR Du 1,bz CJ,bz E9,h6,fun x hx=>?_⟩
     ·exact congrArg (fun k:Nat=>([some (.obj 7),some (.int ((iM:Int)+1)),some (.obj 8),some (.obj 0),some (.obj 11),some (.obj 12),some (.obj 13),some (.int (max deep (k:Int))),some (.int chosen),some (.int op),some (.int place),some (.d8 args)]:Loc)) (Ba _)
     ·have k3:(kept.map aZ++[]).length+14=14+kept.length:=by rw[cK,aa];exact fJ _ _
      have k1:ko (kept++[sp]).length=ko kept.length++[.obj ((kept.map aZ++[]).length+14)]:=by rw[k3,ah];exact tZ _
      have k2:(kept++[sp]).map aZ++[]=(kept.map aZ++[])++[aZ sp]:=by simp
      unfold RH
      dsimp only
      rw[k1,k2]
      rfl
     ·rcases eG.mp hx with hx | hx
      ·exact Ec x hx
      ·rw[cT.mp hx];exact h6
    refine⟨fun h5=>absurd h5 (by exact aW [_] [] [.N (.E aB (.l 142))] (.N (.e aB (.l 142))) (.o xn cM) rfl ND),fun h5=>?_⟩
    have hm:¬(op=142∧kept≠[]):=fun z=>ND z.1
    apply hW (¬(143≤op∧op<171))
    ·intro oG
     refine⟨fun uQ=>⟨fun h7=>?_,fun h7=>oG (by exact u0 h7 rfl)⟩,fun uQ=>oG (by exact vI uQ rfl)⟩
     have e:g8 ⟨op,place,args⟩ ⟨sp,kept,rows,deep,chosen⟩ lY=some (⟨lg op args sp,kept,rows,deep,chosen⟩,lY):=by
      exact uU (c:=⟨op,place,args⟩) ⟨pT uQ,gV h7⟩
     refine KC F (sp:=sp) (by rfl) (by exact⟨pT uQ,gV h7⟩) GS h6 ?_
     exact key _ _ ⟨⟨lg op args sp,kept,rows,deep,chosen⟩,lY,rfl,rfl,e,bz Du,bz CJ,bz E9,(show(lg op args sp).length=6 by rw[DL];exact h6),Ec⟩
    intro hA1
    apply hW (¬(171≤op∧op<239))
    ·intro oG
     refine⟨fun uQ=>⟨fun h7=>?_,fun h7=>oG (by exact u0 h7 rfl)⟩,fun uQ=>oG (by exact vI uQ rfl)⟩
     have e:∀ch:Int,ch=(if op>234 then (be args:Int) else (op:Int)-171)→g8 ⟨op,place,args⟩ ⟨sp,kept,rows,deep,chosen⟩ lY=if (lY.lookup ch).isSome then some (⟨sp,kept,rows,deep,ch⟩,lY) else none:=by
      rintro _ rfl
      exact uN (c:=⟨op,place,args⟩) ⟨pT uQ,gV h7⟩
     refine⟨fun h8=>?_,fun h8=>?_⟩
     ·have e:=e (be args) (if_pos (by exact rC h8 rfl)).symm
      refine jv F ?_
      conv=>whnf
      rw[fx,dg]
      cases hs:(lY.lookup ((be args:Nat):Int)).isSome with
      |false=>exact .inl (.inl (JB (by rw[e,hs];rfl) _))
      |true=>
       refine kJ (?_:vS _ _ _ _ jm _ _ _)
       exact key _ _ ⟨⟨sp,kept,rows,deep,(be args:Nat)⟩,lY,rfl,rfl,by rw[e,hs];rfl,bz Du,bz CJ,bz E9,h6,Ec⟩
     ·have e:=e ((op:Int)-171) (if_neg (by exact ti h8 rfl)).symm
      conv=>whnf
      rw[fx,dg]
      cases hs:(lY.lookup ((op:Int)-171)).isSome with
      |false=>exact .inl (.inl (JB (by rw[e,hs];rfl) _))
      |true=>
       refine kJ (?_:vS _ _ _ _ jm _ _ _)
       exact key _ _ ⟨⟨sp,kept,rows,deep,(op:Int)-171⟩,lY,rfl,rfl,by rw[e,hs];rfl,bz Du,bz CJ,bz E9,h6,Ec⟩
    intro hA2
    apply hW (¬(239≤op∧op<243))
    ·intro oG
     refine⟨fun uQ=>⟨fun h7=>?_,fun h7=>oG (by exact u0 h7 rfl)⟩,fun uQ=>oG (by exact vI uQ rfl)⟩
     have e:g8 ⟨op,place,args⟩ ⟨sp,kept,rows,deep,chosen⟩ lY=some (⟨sp,kept,rows++[.spec (sp.getD 0 0) (sp.getD 1 0) (args.drop (op-238))],deep,chosen⟩,lY):=by
      exact zi (c:=⟨op,place,args⟩) ⟨pT uQ,gV h7⟩
     refine⟨⟨by decide,by decide⟩,_,gn (j:=0) (show 0<sp.length by exact qP h6 rfl),?_⟩
     refine⟨⟨by decide,by decide⟩,_,gn (j:=1) (show 1<sp.length by exact qP h6 rfl),?_⟩
     refine⟨by exact b9 GS rfl,⟨by rw[aa];show rows.length≤_;exact w4 CJ h1 rW rfl,?_⟩⟩
     rw[gb (op-238) (by exact rE (Xe uQ rfl))]
     rw[jT (.spec (sp.getD 0 0) (sp.getD 1 0) (args.drop (op-238))) (by rfl)]
     refine kJ (?_:vS _ _ _ _ jm _ _ _)
     exact key _ _ ⟨⟨sp,kept,rows++[.spec (sp.getD 0 0) (sp.getD 1 0) (args.drop (op-238))],deep,chosen⟩,lY,rfl,rfl,e,bz Du,(by rw[ah];exact cR CJ 1),by exact QY E9,h6,Ec⟩
    intro hA3
    apply hW (¬(243≤op∧op<247))
    ·intro oG
     refine⟨fun uQ=>⟨fun h7=>?_,fun h7=>oG (by exact u0 h7 rfl)⟩,fun uQ=>oG (by exact vI uQ rfl)⟩
     have e:∀o,iD op args lY=o→g8 ⟨op,place,args⟩ ⟨sp,kept,rows,deep,chosen⟩ lY=o.map fun k=>(⟨sp,kept,rows,deep,chosen⟩,k):=by
      rintro _ rfl
      exact zB (c:=⟨op,place,args⟩) ⟨pT uQ,gV h7⟩
     refine CA F (by exact⟨pT uQ,gV h7⟩) (ye.qK (show 243≤op by exact pT uQ) (show op<247 by exact gV h7)) GS (by exact w4 E9 h1 rW rfl) ?_
     cases hs:iD op args lY with
     |none=>exact .inl (.inl (JB (by rw[e _ hs];rfl) _))
     |some pf=>
      have V1:=Br hs
      refine kJ (?_:vS _ _ _ _ jm _ _ _)
      exact key _ _ ⟨⟨sp,kept,rows,deep,chosen⟩,pf,rfl,rfl,by rw[e _ hs];rfl,bz Du,bz CJ,by exact oS V1 (cR E9 _),h6,Ec⟩
    intro hA4
    have e:g8 ⟨op,place,args⟩ ⟨sp,kept,rows,deep,chosen⟩ lY=if op≠138 then none else some (⟨sp,kept,rows,deep,chosen⟩,lY):=by
     exact iF (show ¬op<138 from dW h3 rfl) (iF (show ¬op=141 from hU h4) (iF hm (iF hA1 (iF hA2 (iF hA3 (if_neg hA4))))))
    refine⟨fun uQ=>?_,fun uQ=>?_⟩
    ·exact .inl (.inl (JB (by rw[e,if_pos (by exact hU uQ)]) _))
    ·refine kJ (?_:vS _ _ _ _ jm _ _ _)
     exact key _ _ ⟨⟨sp,kept,rows,deep,chosen⟩,lY,rfl,rfl,by rw[e,if_neg (by exact aW [_] [] [.N (.N (.e aB (.l 138)))] (.N (.N (.E aB (.l 138)))) (.o cM cI) rfl uQ)],bz Du,bz CJ,bz E9,h6,Ec⟩
   case k=>
    rintro l H ⟨s2,Jz,rfl,rfl,e,b1,b2,b3,b4,b5⟩
    have Jp:=Jp e
    refine xh (sp:=s2.sp) rfl (by rfl) b4 (fun hb=>?_) (fun hb=>?_)
    ·exact .inl (.inl (Jp.1 hb _))
    ·have yN:=Jp.2 hb
     exact .inl ⟨cs.length-(iM+1),by exact wG h1,iM+1,s2,Jz,_,_,_,yN,h1,rfl,b1,b2,b3,b4,b5⟩
 ·rw[aa] at h1
  rw[dM (by exact GN h1)] at yN
  exact .inl (q0 yN.symm _)
end
end
section
open PySem PySem.W PySem.Calls PyProof.Rows
theorem jz.uniq {ks ns:List Int}(h:jz ks ns):ns=BI ks:=by
 have h1:(BI ks).Perm ks:=List.mergeSort_perm ks _
 have h2:(BI ks).Pairwise (·≤·):=by
  have:=List.pairwise_mergeSort (le:=fun a b:Int=>decide (a≤b)) (by intro a b c;simp;lia) (by intro a b;simp;exact aW [] [_,_] [] (.O (.l bJ dN) (.l dN bJ)) cI rfl) ks
  exact this.imp (by intro a b;simp)
 exact v5 (le:=(·≤·)) (fun a b _ _=>NB) h.2 h2 (h.1.trans h1.symm)
theorem gv.X6 {H:List ag}{y:AV}{ys:List AV}:gv H 1 (.tup []) (.tup (y::ys)) false:=
 (show((bh (min 0 (ys.length+1))).all (fun _=>true)&&0==ys.length+1)=false by rw[Nat.zero_min];rfl)▸.tup (xs:=[]) (ys:=y::ys) (e:=fun _=>true) fun _ _ _ h=>nS h
theorem gv.YA {H:List ag}{x y:List UInt8}:gv H 0 (.d8 x) (.d8 y) (decide (x=y)):=CD (x:=x) (y:=y)▸.d8 x y
theorem LB {k:Nat}:(bH k [AV.int 223]).flatten=(bH k (223:Int)).map .int:=by
 induction k with
 |zero=>rfl
 |succ k ih=>rw[i7,Jn,ih,i7];rfl
theorem I5 {k:Nat}:(bH k (223:Int)).map (fun x=>x.toNat.toUInt8)=bH k (223:UInt8):=by
 rw[List.map_replicate];rfl
section
variable {c:Cx}{d n m:Nat}{H T:List ag}{Q:AV→List ag→Prop}{X:List ag→Prop}{a op:Nat}{b args:List UInt8}{P:Prop}{kn:Known}{pg:ag}{cs:List fK}
noncomputable abbrev CH (cs:List fK) (kn:Known) (pg:ag) (T:List ag):List ag:=FL (.list (cs.map z0)::.dict (kn.map ji)::pg::T)
theorem UZ (Of:∀k,yO k pg=true):tv 10 (CH cs kn pg [])=true:=by
 have e1:yO 10 (.list (cs.map z0))=true:=j8 fun _=>rfl
 have e2:yO 10 (.dict (kn.map ji))=true:=sD
 unfold tv
 rw[ba]
 intro x hx
 simp only[br,bY,or_false] at hx
 rcases hx with rfl | rfl | rfl | rfl | rfl | rfl | rfl | rfl | rfl | rfl
 all_goals first | rfl | exact e1 | exact e2 | exact Of _
inductive EnJ (cs:List fK) (kn:Known) (pg:ag) (rest:List fK) (at_ place:Nat) (tO:Bool) (i:Nat):Loc→List ag→Prop
 |mk (told:Known) (x1 x2 x3 x4:Option AV) (AL:nX place kn (rest.drop i) told=tO) (TY:eZ told) :
  EnJ cs kn pg rest at_ place tO i [some (.obj 7),some (.int at_),some (.obj 8),some (.obj 0),some (.obj 10),x1,x2,x3,x4] (CH cs kn pg [.dict (told.map ji),.list (rest.map z0)])
theorem TH (F:eW c){at_:Nat}{pc:fK}(Of:∀k,yO k pg=true) (nx:∀c∈cs,rN c) (rW:cs.length≤100000) (Nc:cs[at_]?=some pc) (Jt:eZ kn)
  (q:Q (.bool (nX pc.place kn (cs.drop (at_+1)) [])) (CH cs kn pg [])):WC c (d+4) (.ref 611) [.obj 7,.int at_,.obj 8,.obj 0] (CH cs kn pg []) Q X:=by
 refine WC.v F rfl rfl fun A env E=>?_
 have XQ:=(ao.mp Nc).1
 refine⟨12,by exact(by decide:10≤12),?_⟩
 refine⟨by rw[aa];exact b9 rW rfl,?_⟩
 rw[gb (at_+1) (by exact rfl),←yV]
 have Y0:∀c∈cs.drop (at_+1),rN c:=fun c hc=>nx c (kN hc)
 generalize xd:cs.drop (at_+1)=rest at *
 have SJ:rest.length≤100000:=by rw[←xd,aJ];exact rG rW
 generalize Ad:nX pc.place kn rest []=tO at q
 have hR:∀{l:Loc}{H G:List ag}{b:Bool},tO=b→H=CH cs kn pg []++G→dU 10 (qB Q) (.ret (.bool b)) l H:=fun hb he=>dU.ret _ he (UZ Of) (aA 10) rfl (hb▸q)
 clear q
 refine⟨EnJ cs kn pg rest at_ pc.place tO,⟨[],none,none,none,none,Ad,eZ.nil⟩,fun i l' H' _ j=>by obtain⟨_,_,_,_,_,_,_⟩:=j;rfl,?_,?_⟩
 ·rintro i x l' H' hx ⟨told,x1,x2,x3,x4,AL,TY⟩
  rw[aK,bB] at hx
  refine aq hx fun ix tP jS=>?_
  clear hx
  obtain⟨op,place,args⟩:=ix
  subst jS
  have ye:=Y0 _ (a9 tP)
  have v7:=ye.small
  dsimp only at v7
  have SO:rest.drop i=⟨op,place,args⟩::rest.drop (i+1):=by
   obtain⟨h2,e⟩:=ao.mp tP
   rw[←e];exact i0 h2
  rw[SO] at AL
  have no:op≠249→oX kn ⟨op,place,args⟩ told=none→tO=false:=fun h9 h=>AL.symm.trans (CY h9 h)
  have go:∀{t:Known},op≠249→oX kn ⟨op,place,args⟩ told=some t→nX pc.place kn (rest.drop (i+1)) t=tO:=fun h9 h=>(yo h9 h).symm.trans AL
  rw[show z0 ⟨op,place,args⟩=.tup [.int op,.int place,.d8 args] from rfl]
  have htz:=TY.le
  have Xx:=Jt.le
  apply hW (¬(243≤op∧op<247))
  ·intro key
   refine⟨fun h1=>⟨fun h2=>?_,fun h2=>key (by exact u0 h2 rfl)⟩,fun h1=>key (by exact vI h1 rfl)⟩
   have lJ:243≤op∧op<247:=by exact⟨pT h1,gV h2⟩
   have h9:op≠249:=Ag lJ.2 rfl
   refine CM F (room:=op-242) (by exact rE (A2 lJ.1 rfl)) (by exact aW [_,_] [] [.l (.l 243) aB,.t aB (.l 247),.fs aM aB (.l 242)] (.A (.L bP aM) (.L aM iE)) (.o (.o (.k [1,0,0,1,0,1]) jM) (.o (.k [0,1,0,0,0,1]) cM)) rfl h1 h2 (eR _ _)) (ye.qK lJ.1 lJ.2) v7 (fun h=>?_) fun dk row h=>?_
   ·exact .inl (hR (no h9 ((if_pos lJ).trans (bN h rfl))) (by rfl))
   ·have hl:oX kn ⟨op,place,args⟩ told=Yi kn told (dk,row):=(if_pos lJ).trans (bS h rfl)
    conv=>whnf
    rw[fx,dg]
    cases ht:(told.lookup (dk:Int)).isSome with
    |true=>exact .inl (hR (no h9 (hl.trans (if_pos (.inl ht)))) (by rfl))
    |false=>
     have ht:told.lookup (dk:Int)=none:=by simpa using ht
     conv=>whnf
     rw[fx]
     cases Ba:kn.lookup (dk:Int) with
     |none=>
      refine WO.Ln 1 (by decide) (ay 1 _) gv.X6 ?_
      exact .inl (hR (no h9 (hl.trans (if_pos (.inr fun z=>nS (Ba.symm.trans z))))) (by rfl))
     |some J5=>
      refine WO.Ln 1 (by decide) (ay 1 _) Cz ?_
      by_cases hr:J5=row
      ·subst hr
       have AL:=go h9 (hl.trans (if_neg fun z=>z.elim (fun z=>by rw[ht] at z;exact fT z) fun z=>z Ba))
       rw[decide_eq_true rfl]
       refine⟨by rw[aa];exact b9 htz rfl,?_⟩
       rw[ue ht]
       exact .inl ⟨told++[((dk:Int),J5)],_,_,_,_,AL,TY.snoc ht (DO h)⟩
      ·rw[decide_eq_false hr]
       exact .inl (hR (no h9 (hl.trans (if_pos (.inr fun z=>hr (ae (Ba.symm.trans z)))))) (by rfl))
  ·intro lJ
   refine⟨fun Et=>?_,fun Et=>?_⟩
   ·have Et:op=249:=by exact mF Et
    subst Et
    have he:vz pc.place args told kn=tO:=(HR rfl).symm.trans AL
    refine⟨by exact b9 v7 rfl,⟨fun h9=>.inl (hR (he.symm.trans (if_pos (gV h9))) (by rfl)),fun h9=>?_⟩⟩
    have he:Z3 pc.place args told kn=tO:=(if_neg (dW h9 rfl)).symm.trans he
    refine⟨by exact b9 v7 rfl,?_⟩
    rw[show lL none (some (4:Int)) args=c0 args 0 4 from pI 4 rfl]
    refine jv F ?_
    refine⟨⟨by exact k6,by exact HW XQ rW rfl⟩,z0 pc,by rw[aK,gm,Nc];rfl,?_⟩
    refine⟨fun hw=>.inl (hR (he.symm.trans (if_pos (Gf hw))) (by rfl)),fun hw=>?_⟩
    have he:YV args told kn=tO:=(if_neg fun z=>hw fun e=>z (MB e)).symm.trans he
    refine⟨⟨⟨by decide,by exact aW [_] [] [.N (.t aB (.l 9))] (.t iE aB) cI rfl h9⟩,by exact b9 v7 rfl⟩,?_⟩
    rw[show args.getD (Mg 4) 0=args.getD 4 0 from rfl]
    refine⟨fun h2=>.inl (hR (he.symm.trans (if_pos (hU h2))) (by rfl)),fun h2=>?_⟩
    have AL:Dh args told kn=tO:=(if_neg fun z=>h2 fun e=>z (mF e)).symm.trans he
    unfold Dh at AL
    refine WV.s4 (kvs:=told.map ji) (.inr ⟨10,rfl,.inl rfl⟩) (by rw[aa];exact oH htz rfl) fun ns1 Fb=>?_
    rw[dx] at Fb
    have Fb:=jz.uniq (ks:=told.map (·.1)) Fb
    refine WV.s4 (kvs:=kn.map ji) (.inr ⟨8,rfl,.inl rfl⟩) (by rw[aa];exact oH Xx rfl) fun ns2 Hn=>?_
    rw[dx] at Hn
    have Hn:=jz.uniq (ks:=kn.map (·.1)) Hn
    refine WO.NM 1 (by decide) (ay 1 _) (gv.ints (xs:=ns1) (ys:=ns2) (by rfl) (by rfl)) ?_
    rw[Fb,Hn]
    by_cases VG:BI (told.map (·.1))=BI (kn.map (·.1))
    ·rw[decide_eq_true VG,QF] at AL
     rw[decide_eq_true VG]
     refine⟨by exact b9 v7 rfl,⟨by exact b9 v7 rfl,⟨⟨by exact aW [_] [] [.L aB r7] (.t (.s aB (.l 5)) tL) cI rfl v7,by exact aW [_] [] [] (.t (.n tL) (.s aB (.l 5))) ni rfl⟩,by rw[bA,wi];exact aW [_,_] [] [.L aB r7,.ft aM (.s aB (.l 5))] (.L aM jg) (.o jM cM) rfl v7 (kL _)⟩,?_⟩⟩
     rw[show lL (some (5:Int)) none args=args.drop 5 from gb 5 rfl,show((args.length:Int)-5).toNat=args.length-5 by exact aW [_,_,_] [] [.ft aB (.s aM (.l 5)),.fs cf aM (.l 5)] (.E aB cf) (.o (.o (.o (.k [1,0,1,0,0,0,1]) (.k [1,0,0,1,0,1])) (.o cM (.k [1,1,0,0,0,1]))) (.o (.o jM pJ) (.o cM pJ))) rfl (kL _) (eR _ _),LB]
     refine WV.Ss (xs:=bH (args.length-5) 223) (by rfl) (fun x hx=>by have:=yW hx;exact aW [] [_] [.e bJ (.l 223)] (.A (.l dE bJ) (.t bJ (.l 256))) (.o cM cI) rfl this) (by rw[eP];exact Hz v7 rfl) ?_
     rw[I5]
     refine WO.NM 0 (by decide) (ay 1 _) gv.YA ?_
     exact .inl (hR AL.symm (by rfl))
    ·rw[decide_eq_false VG,xr] at AL
     rw[decide_eq_false VG]
     exact .inl (hR AL.symm (by rfl))
   ·refine⟨fun mE=>?_,fun mE=>?_⟩
    ·exact .inl (hR (no (hU Et) ((if_neg lJ).trans (if_pos (hU mE)))) (by rfl))
    ·have mE:op=138:=by exact mc mE
     exact .inl ⟨told,_,_,_,_,go (hU Et) ((if_neg lJ).trans (if_neg fun z=>z mE)),TY⟩
 ·rintro l' H' ⟨told,x1,x2,x3,x4,AL,TY⟩
  rw[dM (by rw[aa];exact lM 0 rfl)] at AL
  exact hR AL.symm (by rfl)
end
end
section
open PySem PySem.W PySem.Calls PyProof.Rows
set_option tactic.hygienic true in
theorem zw {b:List UInt8}:∀{n p:Nat}{found cs:List fK},jB b n p found=some cs→found.length≤p→cs.length≤b.length
 |n,p,found,cs,h,hf=>by
  unfold jB at h
  split at h
  ·rename_i hp
   cases n with
   |zero=>exact nS h
   |succ n=>
    dsimp only at h
    split at h
    ·exact nS h
    ·split at h
     ·replace h:=ae h;subst h;rw[ah];simp;exact di (cj hf hp)
     ·have:=@jV b (b.getD p 0).toNat p hp
      exact zw h (by rw[ah,bA];exact di (cj hf this))
  ·exact nS h
theorem D4 {H:List ag}{t u:Int×Int×Int}:gv H 1 (.tup [.int t.1,.int t.2.1,.int t.2.2]) (.tup [.int u.1,.int u.2.1,.int u.2.2]) (decide (t=u)):=zd
theorem bI {H:List ag}{vs:List AV}:listAt (H++[.list vs]) H.length=some vs:=kU (At.last rfl)
theorem FY (args:List UInt8):(fH 0 10 1).map (yF args)=(yc args).map .int:=rfl
section
variable {c:Cx}{d n m:Nat}{H T:List ag}{Q:AV→List ag→Prop}{X:List ag→Prop}{a op:Nat}{b args:List UInt8}{P:Prop}{kn:Known}{pg:ag}{cs:List fK}
noncomputable abbrev ER (ps:List (List Int×List n9)):ag:=.list (ps.map uj)
noncomputable abbrev GJ (o:wo) (p s:Nat):AV:=.tup [.tup [.int o.scale.1,.int o.scale.2.1,.int o.scale.2.2],.d8 o.comment,.obj p,.int o.pX,.int o.wide,.int o.deep,.obj s]
inductive LfJ (b RN:List UInt8) (sc:Int×Int×Int) (all:List fK) (tO:Option (k8×List fK)) (n:Nat):Loc→List ag→Prop
 |mk (iM sf:Nat) (v:k8) (x1 x2 x3 x4 x5:Option AV) (yX:mV sf (all.drop iM) v=tO) (Rf:(all.drop iM).length≤sf) (hn:n=all.length-iM) (uh:Ends (all.drop iM)) (OQ:iM≤all.length) (SU:1≤iM) (Jt:eZ v.known) (QV:v.ca.length≤iM) :
  LfJ b RN sc all tO n [some (.d8 b),some (.obj 0),some (.obj 7),some (.tup [.int sc.1,.int sc.2.1,.int sc.2.2]),some (.d8 RN),some (.obj 8),some (.obj 9),some (.int v.last),some (.int v.deep),some (.int iM),x1,x2,x3,x4,x5] (CH all v.known (ER v.ca) [])
theorem Ly (F:eW c) (hb:b.length≤100000) (q0:rF b=none→∀T,Q .none (FL T))
  (q1:∀o,rF b=some o→∀cs ns,jz (o.known.map (·.1)) ns→Q (GJ o 9 10) (CH cs o.known (ER o.ca) [.list (ns.map .int)])):WC c (d+6) (.ref 616) [.d8 b,.obj 0] (FL []) Q X:=by
 refine WC.v F rfl rfl fun A env E=>?_
 have q:d9 (rF b) (∀T,Q .none (FL T)) (fun o=>∀cs ns,jz (o.known.map (·.1)) ns→Q (GJ o 9 10) (CH cs o.known (ER o.ca) [.list (ns.map .int)])):=by
  cases e:rF b with
  |none=>exact q0 e
  |some o=>exact q1 o e
 clear q0 q1
 refine Tf F hb ?_
 have q:=d9.bi q
 cases h:jB b b.length 0 [] with
 |none=>exact .inl (q.1 h _)
 |some cs=>
 have q:=q.2 cs h
 refine bG (Lo hb h (fun c hc=>by cases hc)) fun nx C1=>?_
 have rW:=zw h (aA _)
 clear h
 obtain⟨A5,Ff,rfl⟩:∃A5 Ff,cs=A5::Ff:=by
  cases cs with
  |nil=>exact absurd rfl C1.ne
  |cons x y=>exact⟨x,y,rfl⟩
 obtain⟨op,place,args⟩:=A5
 have ye:=nx ⟨op,place,args⟩ (by simp)
 have q:d9 (Oc ⟨op,place,args⟩ Ff) _ _:=q
 have v7:=ye.small
 have hpre:=ye.pre
 dsimp only at v7 hpre
 refine⟨⟨by decide,by decide⟩,.tup [.int op,.int place,.d8 args],rfl,?_⟩
 refine⟨fun h1=>.inl (d9.pos q (.inl (hU h1)) _),fun h1=>?_⟩
 have h1:op=247:=by exact mc h1
 subst h1
 have hpre:=hpre rfl
 refine⟨⟨by decide,by decide⟩,.tup [.int (247:Nat),.int place,.d8 args],rfl,?_⟩
 refine⟨⟨⟨by decide,by exact aW [_] [] [.L (.l 14) aB] (.t dE aB) cI rfl hpre⟩,by exact b9 v7 rfl⟩,?_⟩
 rw[show args.getD (Mg 0) 0=args.getD 0 0 from rfl]
 refine⟨fun h2=>.inl (d9.pos q (.inr (hU h2)) _),fun h2=>?_⟩
 have h2:(args.getD 0 0).toNat=2:=by exact mc h2
 have q:d9 (Vr (three (args.drop 1)) (args.drop 14) Ff) _ _:=d9.neg q fun z=>z.elim (fun z=>z rfl) fun z=>z h2
 refine⟨⟨by decide,by decide⟩,.tup [.int (247:Nat),.int place,.d8 args],rfl,?_⟩
 refine⟨by exact b9 v7 rfl,?_⟩
 rw[show lL (some (1:Int)) none args=args.drop 1 from gb 1 rfl]
 refine yC F (by rw[aJ];exact rG v7) (by rw[aJ];exact aW [_,_] [] [.L (.l 14) aB,.fs aM aB bP] (.L (.l 12) aM) (.o nY vF) rfl hpre (eR _ _)) ?_
 generalize xk:three (args.drop 1)=sc at *
 refine⟨_,_,_,rfl,fun h3=>.inl (d9.pos q h3 _),fun h3=>?_⟩
 have q5:=(d9.bi (x:=mV Ff.length Ff ⟨[],[],-1,0⟩) (f:=QX sc (args.drop 14)) (d9.neg q h3))
 refine⟨⟨by decide,by decide⟩,.tup [.int (247:Nat),.int place,.d8 args],rfl,?_⟩
 refine⟨by exact b9 v7 rfl,?_⟩
 rw[show lL (some (1:Int)) none args=args.drop 1 from gb 1 rfl]
 refine yC F (by rw[aJ];exact rG v7) (by rw[aJ];exact aW [_,_] [] [.L (.l 14) aB,.fs aM aB bP] (.L (.l 12) aM) (.o nY vF) rfl hpre (eR _ _)) ?_
 rw[xk]
 refine⟨⟨by decide,by decide⟩,.tup [.int (247:Nat),.int place,.d8 args],rfl,?_⟩
 refine⟨by exact b9 v7 rfl,?_⟩
 rw[show lL (some (14:Int)) none args=args.drop 14 from gb 14 rfl]
 generalize LY:(⟨247,place,args⟩:fK)::Ff=all at *
 have Fg:all.drop 1=Ff:=by rw[←LY];rfl
 have qz:Ff.length=all.length-1:=by rw[←LY];rfl
 have SV:1≤all.length:=by rw[←LY];simp
 have Uu:Ends (all.drop 1):=by
  rw[Fg];rw[←LY] at C1;exact C1.tail (by simp)
 obtain⟨tO,Ad⟩:∃t,mV Ff.length Ff ⟨[],[],-1,0⟩=t:=⟨_,rfl⟩
 have q6:=And.intro (fun e=>q5.1 (Ad.trans e)) (fun y e=>q5.2 y (Ad.trans e))
 clear q5
 generalize args.drop 14=RN at *
 refine⟨LfJ b RN sc all tO,all.length-1,
  ⟨1,Ff.length,⟨[],[],-1,0⟩,none,none,none,none,none,by rw[Fg];exact Ad,by rw[Fg];exact aA _,rfl,Uu,SV,aA _,eZ.nil,cQ _⟩,?_⟩
 clear Ad
 rintro n l' H' ⟨iM,sf,v,x1,x2,x3,x4,x5,yX,Rf,rfl,uh,OQ,SU,Jt,QV⟩
 obtain⟨A5,tP⟩:∃A5,all[iM]?=some A5:=by
  cases e:all[iM]? with
  |some x=>exact⟨x,rfl⟩
  |none=>exact absurd (dM (List.getElem?_eq_none_iff.mp e)) uh.ne
 have Ld:=nx A5 (a9 tP)
 have wC:=(ao.mp tP).1
 have SO:all.drop iM=A5::all.drop (iM+1):=by
  obtain⟨h2,rfl⟩:=ao.mp tP
  exact i0 h2
 rw[SO] at yX uh Rf
 obtain⟨Ac,pb,dZ⟩:=A5
 have XG:(all.map z0)[((iM:Nat):Int).toNat]?=some (.tup [.int Ac,.int pb,.d8 dZ]):=by rw[gm,aK,tP];rfl
 have Bh:=Ld.small
 dsimp only at Bh
 have NW:=Jt.le
 have JB:tO=none→∀T,Q .none (FL T):=q6.1
 refine⟨⟨by exact k6,by exact BH wC rW hb rfl⟩,_,XG,?_⟩
 refine⟨fun tH=>?_,fun tH=>?_⟩
 ·have tH:Ac≠248:=by exact hU tH
  refine⟨⟨by exact k6,by exact BH wC rW hb rfl⟩,_,XG,?_⟩
  obtain⟨sf,rfl⟩:∃f,sf=f+1:=⟨sf-1,by simp at Rf;exact aW [_,_,_] [] [.L (.a aB bP) aM,.fs cf aM bP] (.E aM (.a cf bP)) (.o (.o cM jf) (.o jM cI)) rfl Rf (eR _ _)⟩
  have LD:(all.drop (iM+1)).length≤sf:=by simp only[cL] at Rf;exact aW [_,_] [] [.L (.a aB bP) (.a aM bP)] (.L aB aM) cI rfl Rf
  have y9:Ac≠249→Ends (all.drop (iM+1)):=fun h=>uh.tail h
  apply hW (¬(Ac=139∧jH (dZ.drop 40)=v.last))
  ·intro key
   refine⟨fun qw=>?_,fun qw=>by(conv=>whnf);exact key fun z=>qw (by exact aW [_] [] [.E aB (.l 139)] (.e aB (.l 139)) (.o cM cI) rfl z.1)⟩
   have qw:Ac=139:=by exact mF qw
   have w5:dZ.length=44:=(Ld.short (show Ac<239 by exact vc qw rfl)).trans (by rw[qw];rfl)
   have y9:=y9 (by exact bV (vc qw rfl))
   refine⟨by exact n8 w5 rfl,?_⟩
   rw[show lL (some (40:Int)) none dZ=dZ.drop 40 from gb 40 rfl]
   refine ju F (by rw[aJ];exact rG Bh) (by rw[aJ];exact nc (qP w5 rfl)) ?_
   refine⟨fun Vo=>?_,fun Vo=>key fun z=>Vo z.2⟩
   refine OK F (pg:=ER v.ca) (at_:=iM+1) (fun _=>j8 tU) (fun _=>congrArg ag.list (fe tT)) nx (by exact az rW hb) (by exact f9 0 wC rfl) (by exact aW [_,_] [] [.L bP aB,.L aM jN] (.L aM (.a aB bP)) uc rfl SU NW) (fun h=>?_) (fun s' pf r' h y3 y4 y5=>?_)
   ·exact fun T=>.inl (.inl (JB (yX.symm.trans (kA tH ((if_pos ⟨qw,Vo⟩).trans (mN h rfl)))) T))
   ·refine aq y5 fun k jW Ba=>?_
    clear y5
    subst jW
    have hro:=Iw h Jt
    have RV:=hro.2 y9
    have yX:=(mP (c:=⟨Ac,pb,dZ⟩) tH ((if_pos ⟨qw,Vo⟩).trans (mS h rfl))).symm.trans yX
    rw[aJ] at y3 y4 ⊢
    rw[show all.length-(all.length-k)=k by exact vU Ba] at y3 y4 ⊢
    intro T
    refine WE.lc F [80,95,86,78,84,102,106,94,85,87,77,92,96] E 10 (yF dZ) (by rfl) (by decide +kernel) (by rfl) ?_
    refine⟨rfl,⟨by decide,by decide⟩,?_⟩
    refine⟨⟨fun _=>trivial,by decide⟩,fun cenv i v acc hv=>?_,?_⟩
    ·refine bG (fy hv) fun hi jY=>?_
     subst jY
     have hi:i<10:=hi
     refine⟨.of_left (by decide),⟨.of_left (by decide),⟨by exact n8 w5 rfl,?_⟩⟩⟩
     rw[i3 (4*i) (4*i+4) (by exact aW [_] [] [] (.e (.m 4 (.a dE aB)) (.c (.m 4 aB))) (.o ni ni) rfl) (by exact aW [_] [] [] (.e (.a (.m 4 (.a dE aB)) iE) (.c (.a (.m 4 aB) iE))) (.o ni ni) rfl)]
     have hl:=kQ dZ (x:=4*i) (y:=4*i+4) (by exact aW [_,_] [] [.E aB (.l 44),.T aM (.l 10)] (.L (.a (.m 4 aM) iE) aB) (.k [1,4,0,1]) rfl w5 hi)
     refine ju F (by exact aW [_,_,_] [] [.E aB aM,.fs aM (.a (.m 4 cf) iE) (.m 4 cf)] (.L aB r7) (.o jM jM) rfl hl (eR _ _)) (by exact aW [_,_,_] [] [.E aB aM,.fs aM (.a (.m 4 cf) iE) (.m 4 cf)] (.T dE aB) (.o (.k [1,0,0,1,0,1]) xM) rfl hl (eR _ _)) ⟨?_,rfl⟩
     show AV.int _=AV.int (jH (c0 dZ (4*(0+(i:Int)).toNat) (4*(0+(i:Int)).toNat+4)))
     rw[show(0+(i:Int)).toNat=i by exact Tu]
    ·rw[FY]
     have T7:(all.drop k).length<(all.drop (iM+1)).length:=Cy _ h
     rw[aJ,aJ] at T7
     have Xd:(yc dZ).length=10:=rfl
     refine hY (bI) ⟨by rw[aa,Xd];decide,⟨by rw[aa];exact aW [_,_,_,_] [] [.L aB r7,.L aM aB,.L cf aM,.L fz cf] (.L fz jg) (.k [1,1,1,1,1]) rfl hb rW Ba y3,⟨by rw[aa];exact MZ QV wC rW hb rfl,?_⟩⟩⟩
     have hkk:k<all.length:=by
      by_cases h:k<all.length
      ·exact h
      ·exact absurd (dM (by exact aS h)) RV.ne
     refine dU.nextM [true,true,true,true,true,true,true,true,true,true] _ (H₁:=CH all pf (ER (v.ca++[(yc dZ,s'.rows)])) []) (by
      unfold CH ER
      rw[show(v.ca++[(yc dZ,s'.rows)]).map uj=v.ca.map uj++[uj (yc dZ,s'.rows)] from aF]
      rfl) (UZ fun _=>j8 tU) (by exact(by decide:7≤10)) (by rfl) ?_
     ·exact⟨all.length-k,by exact aW [_,_,_,_,_] [] [.T aB aM,.fs cf fz jh,.fs aM fz (.a jh bP)] (.T aB cf) (.o (.o (.k [1,0,1,0,0,0,1,1]) (.k [0,0,1,0,0,0,0,1])) (.o (.k [0,0,1,0,1,0,0,1]) (.k [0,0,1,0,0,0,0,1]))) rfl T7 (eR _ _) (eR _ _),k,sf,{ known:=pf,ca:=v.ca++[(yc dZ,s'.rows)],last:=pb,deep:=max v.deep s'.deep },_,_,_,_,_,yX,by rw[aJ] at LD ⊢;exact dz (aV T7 LD),rfl,RV,Ba,by exact aW [_,_,_,_,_] [] [.T aB aM,.fs aB cf fz,.fs aM cf (.a jh bP)] (.L bP fz) (.o (.o (.k [1,0,1,0,0,0,1,1]) (.k [0,0,1,0,0,0,0,1])) (.o (.k [1,0,1,0,1,0,0,1]) (.k [0,0,1,0,0,0,0,1]))) rfl T7 (eR _ _) (eR _ _),hro.1,by rw[ah,bA];exact aW [_,_,_,_,_,_] [] [.L aB aM,.T cf fz,.fs cf jh qE,.fs fz jh (.a aM bP)] (.L (.a aB bP) qE) (.o (.o (.k [1,0,1,0,0,0,1,1,1]) (.k [0,0,1,0,0,0,0,1])) (.o (.k [1,0,1,0,1,0,0,1,1]) (.k [0,0,1,0,0,0,0,1]))) rfl QV T7 (eR _ _) (eR _ _)⟩
  ·intro Q7
   apply hW (¬(243≤Ac∧Ac<247))
   ·intro key
    refine⟨fun h1=>⟨fun h2=>?_,fun h2=>key (by exact u0 h2 rfl)⟩,fun h1=>key (by exact vI h1 rfl)⟩
    have lJ:243≤Ac∧Ac<247:=by exact⟨pT h1,gV h2⟩
    refine CA F lJ (Ld.qK lJ.1 lJ.2) Bh (by exact b9 NW rfl) ?_
    cases h:iD Ac dZ v.known with
    |none=>exact .inl (.inl (JB (yX.symm.trans (kA tH ((if_neg Q7).trans ((if_pos lJ).trans (mN h rfl))))) _))
    |some pf=>
     have hl:lp ⟨Ac,pb,dZ⟩ (all.drop (iM+1)) v=some (all.drop (iM+1),{ v with known:=pf }):=(if_neg Q7).trans ((if_pos lJ).trans (mS h rfl))
     have yX:=(mP tH hl).symm.trans yX
     exact .inl ⟨all.length-(iM+1),by exact wG wC,iM+1,sf,{ v with known:=pf },_,_,_,_,_,yX,LD,rfl,y9 (by exact Ag lJ.2 rfl),by exact f9 0 wC rfl,by exact ay _ _,Em h Jt,(show v.ca.length≤iM+1 by exact QY QV)⟩
   ·intro lJ
    refine⟨fun mE=>?_,fun mE=>?_⟩
    ·exact .inl (.inl (JB (yX.symm.trans (kA tH ((if_neg Q7).trans ((if_neg lJ).trans (if_pos (hU mE)))))) _))
    ·have mE:Ac=138:=by exact mc mE
     have hl:lp ⟨Ac,pb,dZ⟩ (all.drop (iM+1)) v=some (all.drop (iM+1),v):=(if_neg Q7).trans ((if_neg lJ).trans (if_neg fun z=>z mE))
     have yX:=(mP tH hl).symm.trans yX
     exact .inl ⟨all.length-(iM+1),by exact wG wC,iM+1,sf,v,_,_,_,_,_,yX,LD,rfl,y9 (by exact bV (vc mE rfl)),by exact f9 0 wC rfl,by exact ay _ _,Jt,by exact QY QV⟩
 ·have tH:Ac=248:=by exact mc tH
  subst tH
  have yX:=(pQ rfl).symm.trans yX
  subst yX
  have q:d9 (VF sc RN v ⟨248,pb,dZ⟩ (all.drop (iM+1))) _ _:=q6.2 _ rfl
  have w5:dZ.length=28:=Ld.post rfl
  refine⟨⟨by exact k6,by exact BH wC rW hb rfl⟩,_,XG,?_⟩
  refine⟨by exact n8 w5 rfl,?_⟩
  rw[show lL none (some (4:Int)) dZ=c0 dZ 0 4 from pI 4 rfl]
  refine ju F (by have:=qN dZ 0 4;exact az this Bh) (by rw[kQ dZ (by exact DH w5 rfl)];decide) ?_
  refine⟨fun Fb=>.inl (d9.pos q (.inl Fb) _),fun Fb=>?_⟩
  have Fb:=yG Fb
  refine⟨by exact n8 w5 rfl,?_⟩
  rw[show lL (some (4:Int)) none dZ=dZ.drop 4 from gb 4 rfl]
  refine yC F (by rw[aJ];exact rG Bh) (by rw[aJ];exact UX w5 rfl) ?_
  refine WO.Ln 1 (by decide) (ay 1 _) D4 ?_
  by_cases Hn:three (dZ.drop 4)=sc
  case neg=>
   rw[decide_eq_false Hn]
   exact .inl (d9.pos q (.inr (.inl Hn)) _)
  rw[decide_eq_true Hn]
  refine TH F (pg:=ER v.ca) (fun _=>j8 tU) nx (by exact az rW hb) tP Jt ?_
  dsimp only
  cases yQ:nX pb v.known (all.drop (iM+1)) [] with
  |false=>exact .inl (d9.pos q (.inr (.inr yQ)) _)
  |true=>
   have hnn:¬(jH (c0 dZ 0 4)≠v.last∨three (dZ.drop 4)≠sc∨nX pb v.known (all.drop (iM+1)) []=false):=by
    rw[Fb,Hn,yQ];simp
   have q:=d9.neg q hnn
   clear hnn
   have hp0:v.ca.length≤100000:=by exact MZ QV wC rW hb rfl
   refine⟨by exact n8 w5 rfl,?_⟩
   rw[show lL (some (24:Int)) (some (26:Int)) dZ=c0 dZ 24 26 from i3 24 26 rfl rfl]
   refine jv F ?_
   refine⟨fun h5=>.inl (d9.pos q (.inl h5) _),fun h5=>?_⟩
   refine⟨by exact n8 w5 rfl,?_⟩
   rw[show lL (some (26:Int)) none dZ=dZ.drop 26 from gb 26 rfl]
   refine jv F ?_
   refine⟨by rw[aa];exact b9 hp0 rfl,⟨fun h6=>?_,fun h6=>?_⟩⟩
   ·rw[aa] at h6
    exact .inl (d9.pos q (.inr (Gf h6)) _)
   rw[aa] at h6
   have q1:=d9.neg q fun z=>z.elim h5 fun z=>h6 fun e=>z (MB e)
   refine⟨by exact n8 w5 rfl,?_⟩
   rw[show lL (some (16:Int)) (some (20:Int)) dZ=c0 dZ 16 20 from i3 16 20 rfl rfl]
   refine ju F (by have:=qN dZ 16 20;exact az this Bh) (by rw[kQ dZ (by exact DH w5 rfl)];decide) ?_
   refine⟨by exact n8 w5 rfl,?_⟩
   rw[show lL (some (20:Int)) (some (24:Int)) dZ=c0 dZ 20 24 from i3 20 24 rfl rfl]
   refine ju F (by have:=qN dZ 20 24;exact az this Bh) (by rw[kQ dZ (by exact DH w5 rfl)];decide) ?_
   refine WV.s4 (kvs:=v.known.map ji) (.inr ⟨8,rfl,.inl rfl⟩) (by rw[aa];exact oH NW rfl) fun ns hs=>?_
   rw[dx] at hs
   exact .inl (q1 _ ns hs)
end
end
section
open PySem PySem.W PySem.Calls PyProof.Rows
noncomputable def bK (xs:List Int):Prop:=∀x∈xs,0≤x∧x<256
theorem bK.nil:bK []:=fun x h=>by cases h
theorem bK.cons {x:Int}{xs:List Int}(h:0≤x∧x<256) (hs:bK xs):bK (x::xs):=fun y hy=>by
 rcases br.mp hy with rfl | hy
 ·exact h
 ·exact hs y hy
theorem bK.app {xs ys:List Int}(h:bK xs) (h':bK ys):bK (xs++ys):=fun y hy=>by
 rcases eG.mp hy with hy | hy
 ·exact h y hy
 ·exact h' y hy
theorem bK.rep {x:Int}{k:Nat}(h:0≤x∧x<256):bK (bH k x):=fun y hy=>by
 rw[yW hy];exact h
theorem oY {xs ys:List Int}:xs.map AV.int++ys.map AV.int=(xs++ys).map .int:=aF.symm
theorem yq {k:Nat}{x:Int}:(bH k [AV.int x]).flatten=(bH k x).map .int:=by
 induction k with
 |zero=>rfl
 |succ k ih=>rw[i7,Jn,ih,i7];rfl
theorem cC {f:Nat→Nat}{xs:List Int}:iw f (aZ xs)=aZ xs:=congrArg ag.list (fe fun _=>rfl)
structure kz (t:Nat) (a n r:Int):Prop where
 ha:0≤a
 hn:0≤n
 hnt:n≤t
 hr:0≤r
 QW:r<1000003
theorem u9 {x:Int}{m:Nat}(h:x.natAbs<2^m):fc x≤m:=intBits_le_iff.mpr h
noncomputable def S3:AV→AV
 |.int i=>.int (if i<0 then -i else i)
 |_=>.none
theorem GX (ns:List Int):(ns.map AV.int).map S3=(ns.map fun i=>if i<0 then -i else i).map .int:=by
 rw[dx,dx];rfl
theorem pa {a b:Int}:(fH a b (-1)).length=(a-b).toNat:=by
 unfold fH;rw[aa,a8];unfold cS;simp;exact Ig
theorem te {a b:Int}{i:Nat}{x:AV}(h:(fH a b (-1))[i]?=some x):i<(a-b).toNat∧x=.int (a-i):=by
 refine bG (uI h) fun h1 h2=>?_
 rw[pa] at h1
 exact⟨h1,by rw[h2];congr 1;lia⟩
section
variable {c:Cx}{d n m t:Nat}{H T A:List ag}{Q:AV→List ag→Prop}{X:List ag→Prop}{op:Nat}{a r k:Int}{f:ai}{as:List AV}
theorem WV.Sk {B:aU}{env:dH}{l:Loc}(q:∀k:Int,k=1000000000000000000→Q (.int k) H):WV c d B env (fun vs=>fb .Pow (vs[0]?.getD .none) (vs[1]?.getD .none)) [.int 10,.int 18] l H Q X:=
 WV.BS (i:=10) (n:=18) (by decide) (by decide +kernel) (q _ (by decide +kernel))
theorem oV (i n:Nat) (h:i<n∧n≤1000000):((0:Int)≤(i:Int)∧(i:Int)<(n:Int))∧n≤1000000:=⟨⟨by exact k6,by exact aW [_,_] [] [.T aB aM] (.t aB aM) cI rfl h.1⟩,h.2⟩
theorem WC.one {x:List Int}{g:AV→List AV}(hn:H[n]?=some (aZ x)) (ho:mT 1 (g (.obj 0))=true) (hr:lK (([n]:List Nat).getD · 0) (g (.obj 0))=g (.obj n)){R:AV→List Int→List Int→Prop}
  (w:WC c d f (g (.obj 0)) [aZ x] (fun v G=>(∃i,v=.int i∧∃y,G=[aZ y]∧R v y [])∨(v=.obj 1∧∃y z,G=[aZ y,aZ z]∧R v y z)) fun _=>False)
  (q1:∀i y,R (.int i) y []→Q (.int i) (H.set n (aZ y))) (q2:∀y z,R (.obj 1) y z→Q (.obj H.length) (H.set n (aZ y)++[aZ z])):WC c d f (g (.obj n)) H Q X:=by
 refine WC.frame [n] (H₀:=[aZ x]) ⟨rfl,by simp,fun{i k y} e1 e2=>?_⟩ hr.symm ho w ?_ fun _ h=>h.elim
 ·cases i with
  |zero=>replace e1:=ae e1;subst e1;replace e2:=ae e2;subst e2;exact⟨fC,by rw[hn,cC]⟩
  |succ i=>exact nS e1
 ·rintro v G (⟨i,rfl,y,rfl,h⟩ | ⟨rfl,y,z,rfl,h⟩)
  ·show Q (.int i) (H.set n (iw _ (aZ y))++[])
   rw[cC,cK]
   exact q1 i y h
  ·show Q (.obj (H.length+(1-1))) (H.set n (iw _ (aZ y))++[iw _ (aZ z)])
   rw[cC,cC]
   exact q2 y z h
theorem fW (F:eW c){hV:Int}(hn:H[n]?=some (aZ [a,k,r])) (hb:kz t a k r) (ht:t≤100000) (hm:0<hV) (Yt:hV<1073741824)
  (q:∀v a k r,0≤v→v<hV→kz (t+1) a k r→Q (.int v) (H.set n (aZ [a,k,r]))):WC c (d+1) (.ref 476) [.obj n,.int hV] H Q X:=by
 refine WC.one (g:=fun x=>[x,.int hV]) hn rfl rfl (R:=fun v y z=>∃i a k r,v=.int i∧y=[a,k,r]∧0≤i∧i<hV∧kz (t+1) a k r) ?_ ?_ ?_
 ·obtain⟨h1,h2,h3,h4,h5⟩:=hb
  refine WC.v F rfl rfl fun A env E=>?_
  refine⟨by decide,_,rfl,?_⟩
  refine WV.Sk fun k18 aaj=>?_
  refine⟨fun h=>?_,fun h=>?_⟩
  ·refine⟨by decide,_,rfl,⟨hm,?_⟩⟩
   refine⟨by decide,_,rfl,⟨⟨hm,Yt⟩,⟨oV 0 3 (by decide),?_⟩⟩⟩
   have h0:=lA a (show hV≠0 from Int.ne_of_gt hm)
   have h1:=jF a hm
   have h2:0≤a / hV:=Int.ediv_nonneg (by assumption) (iY hm)
   exact .inl (.inl ⟨_,rfl,_,rfl,_,_,_,_,rfl,rfl,h0,h1,h2,by assumption,by exact BM h3,by assumption,by assumption⟩)
  ·refine⟨by decide,_,rfl,⟨oV 1 3 (by decide),?_⟩⟩
   refine⟨by decide,_,rfl,?_⟩
   refine⟨by decide,_,rfl,⟨.of_left (by decide),?_⟩⟩
   have Uq:fc (r+7103*(k+1)+20023)≤64:=u9 (UE h2 h3 h4 h5 ht)
   refine WV.BS (by decide) (UG Uq) ?_
   refine⟨by decide,?_⟩
   generalize (r+7103*(k+1)+20023)^(5:Int).toNat=X3
   have hx0:=lA X3 (show(2147483647:Int)≠0 by decide)
   have hx1:=jF X3 (show(0:Int)<2147483647 by decide)
   generalize X3%2147483647=Mt at *
   refine⟨.of_left (u9 (Nat.lt_trans (BU hx0 hx1) (by decide))),⟨by decide,⟨⟨by decide,by decide⟩,⟨hm,?_⟩⟩⟩⟩
   generalize Mt*Mt%2147483563 / 16=w
   have h0:=lA w (show hV≠0 by exact aW [] [_] [.t dE bJ] (.N (.e bJ dE)) cM rfl hm)
   have h1:=jF w hm
   exact .inl (.inl ⟨_,rfl,_,rfl,_,_,_,_,rfl,rfl,h0,h1,by assumption,by exact aW [] [_] [.l dE bJ] (.l dE (.a bJ bP)) cI rfl h2,by exact aW [_] [_] [.l bJ aB] (.l (.a bJ bP) (.c (.a aB bP))) cI rfl h3,by assumption,by assumption⟩)
 ·intro i y lE
  refine fX lE fun i a jS=>?_
  clear lE
  refine gf jS fun k r e ix h1 h2 h3=>?_
  subst ix
  cases e
  exact q _ _ _ _ h1 h2 h3
 ·intro y z mr
  refine fX mr fun i a jW=>?_
  clear mr
  refine cB jW fun k r e _=>?_
  cases e
theorem IT (i:Int):0≤if i<0 then -i else i:=by rw[ite_abs];exact k6
theorem N6 (xs:List Int):0≤(xs.map fun i=>if i<0 then -i else i).sum:=by
 induction xs with
 |nil=>exact dQ _
 |cons x xs ih=>exact qS (IT x) ih
theorem A3 (F:eW c){ns:List Int}(hn:H[n]?=some (aZ ns)) (hz:ns.length≤4) (hk:0≤k∧k≤10) (q:∀a k r,kz 0 a k r→Q (.obj H.length) (H++[aZ [a,k,r]])):WC c (d+1) (.ref 469) [.obj n,.int k] H Q X:=by
 refine WC.one (g:=fun x=>[x,.int k]) hn rfl rfl (R:=fun v y z=>v=.obj 1∧y=ns∧∃a k r,z=[a,k,r]∧kz 0 a k r) ?_ ?_ ?_
 ·refine WC.v F rfl rfl fun A env E=>?_
  refine⟨by rw[aa];exact b9 hz rfl,⟨fun h=>?_,fun h=>?_⟩⟩
  ·rw[aa] at h
   refine⟨⟨by exact hk.1,by exact aW [] [_] [.l bJ (.l 10)] (.t bJ DS) cI rfl hk.2⟩,_,gn (j:=k.toNat) (by exact aW [_,_] [_] [.l dE bJ,.t bJ aB,.ft aM bJ] (.T aM aB) (.o jM rh) rfl hk.1 h (kL _)),?_⟩
   refine⟨by decide,.inl (.inr ⟨rfl,ns,_,rfl,rfl,rfl,_,_,_,rfl,IT _,dQ _,dQ _,by exact aW [] [_,_,_] [.fD 1000003 bJ dN hM] (.l dE dN) cM rfl (kb 1000003 _ rfl),by exact aW [] [_,_,_] [.fD 1000003 bJ dN hM] (.t dN (.l 1000003)) cI rfl (kb 1000003 _ rfl)⟩)⟩
  ·refine⟨.of_left (by decide),?_⟩
   refine WE.lc F [92,91,99,93] E 1 S3 (by rfl) (by decide +kernel) (by rfl) ?_
   refine⟨⟨fun _=>rfl,by rw[aa];exact b9 hz rfl⟩,fun cenv i v acc hv=>?_,?_⟩
   ·rw[aK] at hv
    refine aq (bB.mp hv) fun u _ ix=>?_
    subst ix
    exact⟨rfl,rfl⟩
   ·rw[GX]
    refine WV.X4 (by rfl) ?_
    have:=N6 ns
    generalize (ns.map fun i=>if i<0 then -i else i)=ys at *
    refine⟨by decide,⟨by decide,?_⟩⟩
    have rW:0≤7919*k+20011+ys.sum%99991:=by exact aW [] [_,_,_,_] [.l dE bJ,.fD 99991 dN hM yl] (.l dE (.a (.a (.m 7919 bJ) (.l 20011)) hM)) (.k [1,0,1,0,0,7919]) rfl hk.1 (kb 99991 _ rfl)
    refine .inr ⟨[0,2],.obj 1,[aZ ns,aZ [7919*k+20011+ys.sum%99991,0,(7919*k+20011+ys.sum%99991)%1000003]],fun n hn=>?_,⟨rfl,by decide,fun{i m x} e1 e2=>?_⟩,rfl,rfl,.inr ⟨rfl,ns,_,rfl,rfl,rfl,_,_,_,rfl,rW,dQ _,dQ _,by exact aW [] [_,_,_,_] [.fD 1000003 bJ dN (.a (.a (.m 7919 hM) (.l 20011)) yl)] (.l dE dN) cM rfl (kb 1000003 _ rfl),by exact aW [] [_,_,_,_] [.fD 1000003 bJ dN (.a (.a (.m 7919 hM) (.l 20011)) yl)] (.t dN (.l 1000003)) cI rfl (kb 1000003 _ rfl)⟩⟩
    ·have hn:n<1:=hn
     rw[show n=0 by exact aW [_] [] [.T aB bP] (.E aB dE) (.o ni cI) rfl hn];rfl
    ·rcases i with _ | _ | i
     ·replace e1:=ae e1;subst e1;replace e2:=ae e2;subst e2;exact⟨fC,by rw[cC];rfl⟩
     ·replace e1:=ae e1;subst e1;replace e2:=ae e2;subst e2;exact⟨rfl,rfl⟩
     ·exact nS e1
 ·intro i y nT
  obtain⟨e,_⟩:=nT
  cases e
 ·intro y z pU
  refine bQ pU fun _ jY mU=>?_
  clear pU
  refine eD mU fun a k r nr h=>?_
  subst jY
  subst nr
  rw[show H.set n (aZ y)=H by obtain⟨hk,e⟩:=ao.mp hn;rw[←e];exact Cv hk]
  exact q a k r h
noncomputable def S4 (v:Int):AV→AV
 |.int i=>.int (v / 2^(8*i).toNat%256)
 |_=>.none
theorem GC (v:Int) (xs:List AV) (h:∀x∈xs,∃i,x=.int i):∃ys:List Int,xs.map (S4 v)=ys.map .int∧bK ys∧ys.length=xs.length:=by
 induction xs with
 |nil=>exact⟨[],rfl,bK.nil,rfl⟩
 |cons x xs ih=>
  refine al (h x aI) fun i jW=>?_
  subst jW
  exact aL (ih fun y hy=>h y (aG _ hy)) fun ys e1 e2 e3=>⟨(v / 2^(8*i).toNat%256)::ys,congrArg _ e1,bK.cons ⟨lA _ (by decide),jF _ (by decide)⟩ e2,congrArg _ e3⟩
theorem ki (F:eW c){v:Int}{room:Nat}{ri:Int}(tK:ri=room) (hr:room≤100) (q:∀xs,bK xs→xs.length=room→Q (.obj H.length) (H++[aZ xs])):WC c (d+1) (.ref 481) [.int v,.int ri] H Q X:=by
 subst tK
 refine WC.new rfl rfl ?_
 refine WC.v F rfl rfl fun A env E=>?_
 refine WE.lc F [106] E 0 (S4 v) (by rfl) (by decide +kernel) (by rfl) ?_
 refine⟨rfl,⟨⟨.inr rfl,⟨by exact aW [_] [] [] (.l (.n tL) (.s aB bP)) ni rfl,by exact aW [_] [] [.L aB (.l 100)] (.t (.s aB bP) tL) cI rfl hr⟩,by exact⟨(by decide),(by decide)⟩⟩,?_⟩⟩
 refine⟨⟨fun _=>trivial,by rw[pa];exact aW [_,_] [] [.L aB (.l 100),.ft aM (.s (.s aB bP) (.n bP))] (.L aM jg) (.o jM cM) rfl hr (kL _)⟩,fun cenv i w acc hw=>?_,?_⟩
 ·refine bG (te hw) fun hi jY=>?_
  subst jY
  exact⟨.of_left (by decide),⟨by exact aW [_,_,_] [] [.T aB aM,.ft aM (.s (.s cf bP) (.n bP))] (.l dE (.m 8 (.s (.s cf bP) aB))) (.o (.k [1,0,8,0,8]) (.k [0,0,1,0,1])) rfl hi (kL _),⟨by decide,⟨rfl,rfl⟩⟩⟩⟩
 ·obtain⟨ys,e1,e2,e3⟩:=GC v (fH ((room:Int)-1) (-1) (-1)) (fun x hx=>by
   refine al (eO.mp hx) fun i hi=>?_
   exact⟨_,(te hi).2⟩)
  rw[e1]
  have q:=q ys e2 (by rw[e3,pa];exact aW [_,_] [] [.ft aB (.s (.s aM bP) (.n bP))] (.E aB aM) (.o (.o jf cM) (.o cI cM)) rfl (kL _))
  rw[←cC (f:=fr [] H.length)] at q
  exact .inl q
end
end
section
open PySem PySem.W PySem.Calls PyProof.Rows
section
variable {c:Cx}{d n m t:Nat}{H T A G:List ag}{Q QR:AV→List ag→Prop}{X:List ag→Prop}{op:Nat}{a r k:Int}{f:ai}{as:List AV}{l:Loc}
theorem Bb {N n k:Nat}(h:n<N):(bh N++[k]).getD n 0=n:=by
 rw[bt,aC (by rw[a8];exact h),cH h];rfl
theorem tF.qi {k:Nat}{xs:List Int}(e:H=A++G) (hk:H[k]?=some (aZ xs)) (hA:A.length≤k) (h:tv A.length A=true) (h':tv (A.length+1) A=true):tF (bh A.length++[k]) (A++[aZ xs]) H:=by
 refine⟨by rw[ah,ah,a8];rfl,?_,fun{i n x} e1 e2=>?_⟩
 ·rw[mZ]
  refine⟨ur,by simp,fun x hx y hy=>?_⟩
  rw[cT.mp hy]
  have:=de.mp hx
  exact bV (aV this hA)
 ·rw[ah,a8,bA]
  by_cases hi:i<A.length
  ·rw[aC (by rw[a8];exact hi),cH hi] at e1
   replace e1:=ae e1
   subst e1
   rw[aC hi] at e2
   have o:=ba.mp h x (a9 e2)
   exact⟨ba.mp h' x (a9 e2),by rw[yr (fun n hn=>Bb hn) o,e,aC hi,e2]⟩
  ·have Jr:=(ao.mp e2).1
   rw[ah,bA] at Jr
   have Jr:i=A.length:=by exact aW [_,_] [] [.N (.T aB aM),.T aB (.a aM bP)] (.E aB aM) (.o cM cI) rfl hi Jr
   subst Jr
   rw[aY (by rw[a8];exact aA _),a8,gZ] at e1
   rw[aY (aA _),gZ] at e2
   replace e1:=ae e1;subst e1;replace e2:=ae e2;subst e2
   exact⟨fC,by rw[cC];exact hk⟩
theorem dU.qi (A G:List ag) (k:Nat) (xs:List Int) (e:H=A++G) (hk:H[k]?=some (aZ xs)) (hA:A.length≤k) (h:tv A.length A=true) (h':tv (A.length+1) A=true) (hm:m≤A.length) (q:QR (.obj A.length) (A++[aZ xs])):dU m (qB QR) (.ret (.obj k)) l H:=by
 refine .inr ⟨bh A.length++[k],.obj A.length,A++[aZ xs],fun n hn=>?_,tF.qi e hk hA h h',?_,?_,q⟩
 ·rw[aC (by rw[a8];exact aV hn hm),cH (by exact aV hn hm)]
 ·refine eQ ?_
  rw[ah,a8]
  exact aA _
 ·refine congrArg AV.obj (show k=(bh A.length++[k]).getD A.length 0 from ?_)
  rw[bt,aY (by rw[a8];exact aA _),a8,gZ];rfl
theorem EB {f:Nat→Nat}{σ:List Nat}:∀{H xs ys:List ag},xs.length=σ.length→putAt f σ H (xs++ys)=putAt f σ H xs:=by
 induction σ with
 |nil=>exact fun{_ _ _} _=>rfl
 |cons n σ ih=>
  intro H xs ys h
  cases xs with
  |nil=>exact absurd h (oh _).symm
  |cons x xs=>exact ih (q9 h)
theorem WC.Sj {R:List ag→List Int→Prop}(h:tv A.length A=true) (ha:mT A.length as=true)
  (w:WC c d f as A (fun v G=>∃A' xs,v=.obj A.length∧G=A'++[aZ xs]∧(A'.length=A.length∧tv A.length A'=true)∧R A' xs) fun _=>False)
  (q:∀A' xs,A'.length=A.length→R A' xs→Q (.obj (A++T).length) (A'++T++[aZ xs])):WC c d f as (A++T) Q X:=by
 refine WC.frame (bh A.length) (tF.take h) ((yE (fun n hn=>ph hn) ha).symm) (by rw[a8];exact ha) w ?_ fun _ h=>h.elim
 intro v G lE
 refine b0 lE fun A' xs gD ix jS hr=>?_
 clear lE
 refine bG jS fun h1 h2=>?_
 subst gD
 subst ix
 have e1:put (bh A.length) (A++T) (A'++[aZ xs])=A'++T++[aZ xs]:=by
  unfold put
  rw[a8,EB (by rw[a8,h1]),←h1,List.drop_left,List.map_singleton,cC,kP]
  have:=sX (f:=fr (vZ 0 A'.length) (A++T).length) (k:=A'.length) (fun n hn=>by rw[←kP];exact GB hn) (j:=0) (H₀:=A') (P:=[]) (S:=A) (T:=T) (by exact aW [_] [] [] (.L (.a dE aB) aB) ni rfl) (by rw[h1];exact h2) rfl h1.symm
  exact congrArg (·++[aZ xs]) this
 have e2:oq (fr (bh A.length) (A++T).length) (.obj A.length)=.obj (A++T).length:=by
  refine congrArg AV.obj ?_
  unfold fr
  rw[cF (by rw[a8];exact aA _),a8,gZ];rfl
 rw[e1,e2]
 exact q A' xs h1 hr
end
noncomputable abbrev F3 (dk:Int) (nm:bu) (ck:Int) (ws:List (Int×Int)) (T:List ag):List ag:=jx dk nm ck 2 1::.dict (ws.map eY)::nE::T
theorem kT {k:Nat}:∀{ws:List (Int×Int)},mx k (ws.map eY)=true:=by
 intro us
 induction us with
 |nil=>
  exact rfl
 |cons p ws ih=>
  exact nq rfl ih
section
variable {c:Cx}{d n m t:Nat}{H T A G:List ag}{Q QR:AV→List ag→Prop}{X:List ag→Prop}{op:Nat}{a r k dk ck:Int}{f:ai}{as:List AV}{l:Loc}{nm:bu}{ws:List (Int×Int)}
theorem N8:tv 3 (F3 dk nm ck ws [])=true:=by
 show(true&&(mx 3 (ws.map eY)&&(true&&true)))=true
 rw[kT];rfl
theorem S7:tv 4 (F3 dk nm ck ws [])=true:=by
 show(true&&(mx 4 (ws.map eY)&&(true&&true)))=true
 rw[kT];rfl
theorem Bd (F:eW c){room:Nat}{x y:Int}(nj:dk=3∨dk=200) (hr:1≤room∧room≤4){codes:List UInt8}(qj:nm.cps.toList.map (fun(u:Nat)=>(u:Int))=codes.map (fun x=>(x.toNat:Int))) (hz:nm.cps.size≤10)
  (q:∀xs,bK xs→xs.length≤40→Q (.obj 3) (F3 dk nm ck ws [aZ xs])):WC c (d+2) (.ref 486) [.obj 0,.int room,.tup [.int x,.int y]] (F3 dk nm ck ws []) Q X:=by
 refine WC.v F rfl rfl fun A env E=>?_
 refine ki F (room:=4) rfl (by decide) fun x1 o1 l1=>?_
 refine ki F (room:=4) rfl (by decide) fun x2 o2 l2=>?_
 refine⟨by rw[aa,aa,l1,l2];decide,?_⟩
 refine ki F (room:=4) rfl (by decide) fun x3 o3 l3=>?_
 rw[oY]
 refine⟨by rw[aa,aa,ah,l1,l2,l3];decide,?_⟩
 refine ki F (room:=room) rfl (by exact b9 hr.2 rfl) fun x4 o4 l4=>?_
 have U3:nm.length≤10:=hz
 refine⟨by rw[aa,l4];exact az (gI hr.2 1) (by decide),?_⟩
 refine⟨by simp only[ah,aa,cL,jl];exact aW [_,_,_,_,_] [] [.L aB iE,.E aM iE,.E cf iE,.E fz iE,.E jh aB] (.L (.a (.a bP jh) (.a (.a aM cf) fz)) jg) (.k [1,1,0,1,0,1,0,1,0,1]) rfl hr.2 l1 l2 l3 l4,?_⟩
 refine⟨by exact b9 U3 rfl,?_⟩
 refine⟨by simp only[ah,aa,cL,jl];exact aW [_,_,_,_,_] [] [.L aB iE,.E aM iE,.E cf iE,.E fz iE,.E jh aB] (.L (.a (.a (.a bP jh) (.a (.a aM cf) fz)) jN) jg) (.k [1,1,0,1,0,1,0,1,0,1]) rfl hr.2 l1 l2 l3 l4,?_⟩
 refine WE.lc F [67,92,98] E 3 EO (by rfl) (by decide +kernel) (by rfl) ?_
 refine⟨⟨fun _=>trivial,by rw[aa,du];exact b9 hz rfl⟩,fun cenv i v acc hv=>?_,?_⟩
 ·refine al (rB hv) fun u gD=>?_
  subst gD
  exact⟨_,rfl,rfl,rfl⟩
 ·rw[FF,qj]
  have hcz:codes.length≤10:=by
   have:=congrArg m6 qj
   rw[aa,aa,du] at this
   exact aW [_,_] [] [.L aB (.l 10),.E aB aM] (.L aM (.l 10)) (.k [1,0,1,1]) rfl hz this
  have hoc:bK (codes.map fun x=>(x.toNat:Int)):=by
   intro z hz
   refine aq (dI.mp hz) fun w _ ix=>?_
   subst ix
   have:=w.toNat_lt
   exact aW [_] [] [.T aB (.l 256)] (.A (.l dE aB) (.t aB (.l 256))) (.o ni cI) rfl this
  have RY:(codes.map fun x=>(x.toNat:Int)).length≤10:=by rw[aa];exact hcz
  generalize (codes.map fun x=>(x.toNat:Int))=YX at *
  refine⟨by simp only[ah,aa,cL,jl];exact aW [_,_,_,_,_,_] [] [.L aB iE,.E aM iE,.E cf iE,.E fz iE,.E jh aB,.L qE (.l 10)] (.L (.a (.a (.a (.a bP jh) (.a (.a aM cf) fz)) jN) qE) jg) (.k [1,1,1,0,1,0,1,0,1,0,1]) rfl hr.2 l1 l2 l3 l4 RY,?_⟩
  have e:[AV.int (242+(room:Int))]++x4.map AV.int++((x1++x2).map AV.int++x3.map AV.int)++[AV.int 0,AV.int (nm.length:Int)]++YX.map AV.int=([242+(room:Int)]++x4++(x1++x2++x3)++[0,(nm.length:Int)]++YX).map .int:=by
   simp only[aF];rfl
  refine dU.qi (F3 dk nm ck ws []) _ 15 ([242+(room:Int)]++x4++(x1++x2++x3)++[0,(nm.length:Int)]++YX) (by rfl) (congrArg (fun v=>some (ag.list v)) e) (by exact(by decide:3≤15)) N8 S7 (aA _) (q _ ?_ ?_)
  ·exact((((bK.cons (by exact aW [_] [] [.L aB iE] (.A (.l dE (.a (.l 242) aB)) (.t (.a (.l 242) aB) (.l 256))) (.o ni cI) rfl hr.2) bK.nil).app o4).app ((o1.app o2).app o3)).app (bK.cons (by exact⟨(by decide),(by decide)⟩) (bK.cons (by exact aW [_] [] [.L aB (.l 10)] (.A (.l dE aB) (.t aB (.l 256))) (.o ni cI) rfl U3) bK.nil))).app hoc
  ·simp only[ah,cL,jl];exact aW [_,_,_,_,_,_] [] [.L aB iE,.E aM iE,.E cf iE,.E fz iE,.E jh aB,.L qE (.l 10)] (.L (.a (.a (.a (.a bP jh) (.a (.a aM cf) fz)) jN) qE) (.l 40)) (.k [1,1,1,0,1,0,1,0,1,0,1]) rfl hr.2 l1 l2 l3 l4 RY
theorem De (F:eW c){room:Nat}{ri x y:Int}(tK:ri=room) (nj:dk=3∨dk=200) (hr:1≤room∧room≤4){codes:List UInt8}(qj:nm.cps.toList.map (fun(u:Nat)=>(u:Int))=codes.map (fun x=>(x.toNat:Int))) (hz:nm.cps.size≤10)
  (q:∀xs,bK xs→xs.length≤40→Q (.obj (F3 dk nm ck ws T).length) (F3 dk nm ck ws T++[aZ xs])):WC c (d+2) (.ref 486) [.obj 0,.int ri,.tup [.int x,.int y]] (F3 dk nm ck ws T) Q X:=by
 subst tK
 exact WC.Sj (A:=F3 dk nm ck ws []) (T:=T) (R:=fun A xs=>A=F3 dk nm ck ws []∧bK xs∧xs.length≤40) N8 rfl (Bd F nj hr qj hz fun xs o l=>⟨_,xs,rfl,rfl,⟨rfl,N8⟩,rfl,o,l⟩) fun A xs _ ⟨e,o,l⟩=>by subst e;exact q xs o l
end
end
section
open PySem PySem.W PySem.Calls PyProof.Rows
noncomputable abbrev lr:=List (Int×Int×Int)
noncomputable def lu (p:Int×Int×Int):Int×AV:=(p.1,.tup [.int p.2.1,.int p.2.2])
theorem hO {ds:lr}{k:Int}:(ds.map lu).lookup k=(ds.lookup k).map fun p=>.tup [.int p.1,.int p.2]:=by
 induction ds with
 |nil=>rfl
 |cons p ds ih=>
  obtain⟨a,b⟩:=p
  simp only[et,lu,dJ] at ih ⊢
  cases k==a<;>simp[ih]
theorem fB {k:Nat}:∀{ds:lr},mx k (ds.map lu)=true:=by
 intro us
 induction us with
 |nil=>
  exact rfl
 |cons p ds ih=>
  exact nq rfl ih
theorem r5 {f:Nat→Nat}:∀{ds:lr},qL f (ds.map lu)=ds.map lu:=by
 intro us
 induction us with
 |nil=>
  exact rfl
 |cons p ds ih=>
  exact s9 rfl ih
structure kr (ds:lr):Prop where
 nd:(ds.map (·.1)).Nodup
 ks:∀k∈ds.map (·.1),k=3∨k=200
theorem kr.nil:kr []:=⟨gF,fun _ h=>by cases h⟩
theorem kr.le {ds:lr}(h:kr ds):ds.length≤2:=by
 have:=BC h.nd h.ks
 rwa [aa] at this
theorem kr.snoc {ds:lr}{k:Int}{v:Int×Int}(h:kr ds) (hk:ds.lookup k=none) (h3:k=3∨k=200):kr (ds++[(k,v)]):=by
 refine⟨?_,fun x hx=>?_⟩
 ·rw[aF,mZ]
  refine⟨h.nd,by simp,fun x hx y hy=>?_⟩
  simp at hy
  subst hy
  refine aq (dI.mp hx) fun p hp ix=>?_
  subst ix
  rw[gG] at hk
  have:=hk p hp
  simp at this
  exact fun q=>this q.symm
 ·rw[aF,eG] at hx
  rcases hx with hx | hx
  ·exact h.ks x hx
  ·simp at hx;subst hx;exact h3
theorem Dr {ds:lr}{k:Int}{v:Int×Int}(h:ds.lookup k=none):mu k (.tup [.int v.1,.int v.2]) (ds.map lu)=(ds++[(k,v)]).map lu:=by
 rw[vG (by rw[hO,h];rfl),aF];rfl
theorem tj {β:Type}{l:List (Int×β)}{k:Int}{v:β}(h:l.lookup k=none):(l++[(k,v)]).lookup k=some v:=by
 rw[List.lookup_append,h];simp[dF]
noncomputable abbrev VN (k:Nat) (ch dep deep:Int):ag:=.list [.int ch,.int dep,.obj k,.int deep]
structure wy (t:Nat) (ch dep deep:Int):Prop where
 c:ch=0∨ch=3∨ch=200
 d0:0≤dep
 d1:dep≤t
 e0:0≤deep
 e1:deep≤t
noncomputable def qH:List eF:=(iI (df 57)).drop 2
section
variable {c:Cx}{d n m t:Nat}{H T A G:List ag}{Q QR:AV→List ag→Prop}{X:List ag→Prop}{op:Nat}{a r k dk ck:Int}{f:ai}{as:List AV}{l:Loc}{nm:bu}{ws:List (Int×Int)}{ds:lr}{ch dep deep one two:Int}
noncomputable abbrev SH (dk:Int) (nm:bu) (ck:Int) (ws:List (Int×Int)) (ds:lr) (ch dep deep:Int) (T:List ag):List ag:=F3 dk nm ck ws (.dict (ds.map lu)::VN 3 ch dep deep::T)
theorem KJ {k:Nat}(hk:k=5∨k=6):tv k (SH dk nm ck ws ds ch dep deep [])=true:=by
 rcases hk with rfl | rfl
 ·show(true&&(mx 5 (ws.map eY)&&(true&&(mx 5 (ds.map lu)&&(true&&true)))))=true
  rw[kT,fB];rfl
 ·show(true&&(mx 6 (ws.map eY)&&(true&&(mx 6 (ds.map lu)&&(true&&true)))))=true
  rw[kT,fB];rfl
theorem iJ {vs:List AV}{xs:List Int}(e:vs=xs.map .int):ag.list vs=aZ xs:=congrArg ag.list e
theorem s5 (F:eW c){B:aU}{env:dH}{j:Nat}{xs:List Int}(hl:l=[some (.obj 4),some (.obj 0),some (.int one),some (.int two),some (.obj j)]) (hj:listAt (SH dk nm ck ws ds dk dep deep T) j=some (xs.map .int)) (nj:dk=3∨dk=200) (ho:bK xs) (hx:xs.length≤40)
  (h2:0≤two∧two<8) (q:∀xs,bK xs→xs.length≤60→Q (.obj 5) (SH dk nm ck ws ds dk dep deep [aZ xs])) :
  vS ⟨c,d+2,B,env,X⟩ (gx (df 57) [68,67]) (n+20) 5 qH l (SH dk nm ck ws ds ch dep deep T) (dU 5 (qB Q)):=by
 subst hl
 refine⟨oV 0 4 (by decide),?_⟩
 rw[show(SH dk nm ck ws ds ch dep deep T).set 4 (.list ([AV.int ch,.int dep,.obj 3,.int deep].set (Mg 0) (.int dk)))=SH dk nm ck ws ds dk dep deep T from rfl]
 apply hW True
 ·intro key
  refine⟨fun ha=>⟨fun hb=>?_,fun hb=>by(conv=>whnf);exact key trivial⟩,fun ha=>key trivial⟩
  refine hY (cP hj) (hY (bI) ⟨by rw[aa];exact az (cR hx 1) (by decide),?_⟩)
  refine dU.qi (SH dk nm ck ws ds dk dep deep []) _ _ (xs++[171+dk]) (by rfl) ((At.last rfl).trans (congrArg some (iJ (by rw[aF];rfl)))) (ay 5 _) (KJ (.inl rfl)) (KJ (.inr rfl)) (aA _) (q _ ?_ ?_)
  ·exact ho.app (bK.cons (by exact aW [] [_] [.O (.e bJ pM) (.e bJ (.l 200)),.t bJ (.l 64)] (.A (.l dE (.a (.l 171) bJ)) (.t (.a (.l 171) bJ) (.l 256))) (.o (.o jf cM) (.o jf (.k [0,1,0,1]))) rfl nj ha) bK.nil)
  ·rw[ah,bA];exact di (oH hx rfl)
 ·intro _
  refine⟨by decide,?_⟩
  refine hY (cP hj) (hY (bI) ⟨by rw[aa];exact az (cR hx 1) (by decide),?_⟩)
  refine⟨by decide,?_⟩
  refine ki F (room:=(1+two%4).toNat) (by exact aW [_] [_,_,_] [.fD 4 bJ dN hM,.ft aB (.a bP dN)] (.e (.a bP dN) aB) (.o (.o cM jf) (.o ui cI)) rfl (kb 4 _ rfl) (kL _)) (by exact aW [_] [_,_,_] [.fD 4 bJ dN hM,.ft aB (.a bP dN)] (.L aB (.l 100)) (.o jM cM) rfl (kb 4 _ rfl) (kL _)) fun ys o1 l1=>?_
  refine hY (cP bI) (hY (bI) ⟨by rw[ah,aa,aa,bA,l1];exact aW [_,_] [_,_,_] [.L aB (.l 40),.fD 4 bJ dN hM,.ft aM (.a bP dN)] (.L (.a (.a aB bP) aM) jg) (.o (.k [1,0,1,0,1,0,0,0,1]) (.k [1,0,1,0,0,0,0,0,1])) rfl hx (kb 4 _ rfl) (kL _),?_⟩)
  refine dU.qi (SH dk nm ck ws ds dk dep deep []) _ _ (xs++[235+two%4]++ys) (by rfl) ((At.last rfl).trans (congrArg some (iJ (by rw[aF,aF];rfl)))) (ay 5 _) (KJ (.inl rfl)) (KJ (.inr rfl)) (aA _) (q _ ?_ ?_)
  ·exact(ho.app (bK.cons (by exact aW [] [_,_,_] [.fD 4 bJ dN hM] (.A (.l dE (.a (.l 235) dN)) (.t (.a (.l 235) dN) (.l 256))) (.o cM cI) rfl (kb 4 _ rfl)) bK.nil)).app o1
  ·rw[ah,ah,bA,l1];exact aW [_,_] [_,_,_] [.L aB (.l 40),.fD 4 bJ dN hM,.ft aM (.a bP dN)] (.L (.a (.a aB bP) aM) (.l 60)) (.o (.k [1,0,1,0,1,0,0,0,1]) (.k [1,0,1,0,0,0,0,0,1])) rfl hx (kb 4 _ rfl) (kL _)
theorem zx (F:eW c) (nj:dk=3∨dk=200) (NZ:fc ck≤64){codes:List UInt8}(qj:nm.cps.toList.map (fun(u:Nat)=>(u:Int))=codes.map (fun x=>(x.toNat:Int))) (hz:nm.cps.size≤10)
  (pF:kr ds) (i4:wy t ch dep deep) (h1:0≤one∧one<8) (h2:0≤two∧two<8)
  (q:∀ds xs,kr ds→bK xs→xs.length≤60→Q (.obj 5) (SH dk nm ck ws ds dk dep deep [aZ xs])):WC c (d+3) (.ref 493) [.obj 4,.obj 0,.int one,.int two] (SH dk nm ck ws ds ch dep deep []) Q X:=by
 refine WC.v F rfl rfl fun A env E=>?_
 have UA:=pF.le
 refine⟨by decide,_,rfl,?_⟩
 conv=>whnf
 rw[hO,dg]
 cases xp:ds.lookup dk with
 |some v=>
  refine kJ (?_:vS _ _ _ _ qH _ _ _)
  exact s5 F (xs:=[]) (T:=[.list []]) rfl (by rfl) nj bK.nil (cQ _) h2 (fun xs o l=>q ds xs pF o l)
 |none=>
  have PB:=pF.snoc (v:=(1+one*65536,ck*(two%2))) xp nj
  refine⟨.of_right (by decide),⟨by decide,⟨.of_left (by exact az NZ (by decide)),?_⟩⟩⟩
  refine⟨by decide,_,rfl,?_⟩
  refine⟨by rw[aa];exact b9 UA rfl,?_⟩
  rw[Dr (v:=(1+one*65536,ck*(two%2))) xp]
  refine⟨by decide,?_⟩
  refine⟨by decide,_,rfl,?_⟩
  refine⟨_,by rw[hO,tj xp];rfl,?_⟩
  refine De F (room:=(1+one%2).toNat) (by exact aW [_] [_,_,_] [.fD 2 bJ dN hM,.ft aB (.a bP dN)] (.e (.a bP dN) aB) (.o (.o cM jf) (.o ui cI)) rfl (kb 2 _ rfl) (kL _)) nj (by exact aW [_] [_,_,_] [.fD 2 bJ dN hM,.ft aB (.a bP dN)] (.A (.L bP aB) (.L aB iE)) (.o (.o (.k [1,0,0,1,0,1]) jM) (.o (.k [0,1,0,0,0,1]) cM)) rfl (kb 2 _ rfl) (kL _)) qj hz fun xs o l=>?_
  refine kJ (?_:vS _ _ _ _ qH _ _ _)
  exact s5 F (xs:=xs) (T:=[.list [],aZ xs]) rfl (by rfl) nj o l h2 (fun xs o l=>q _ xs PB o l)
end
end
section
open PySem PySem.W PySem.Calls PyProof.Rows
section
variable {c:Cx}{d n m t:Nat}{H T A G:List ag}{Q QR:AV→List ag→Prop}{X:List ag→Prop}{op:Nat}{a r k dk ck:Int}{f:ai}{as:List AV}{l:Loc}{nm:bu}{ws:List (Int×Int)}{ds:lr}{ch dep deep one two:Int}
noncomputable abbrev BL (ds:lr) (ch dep deep:Int) (T:List ag):List ag:=FL (.dict (ds.map lu)::VN 7 ch dep deep::T)
theorem El (F:eW c) (hn:n=1∨n=2) (pF:kr ds) (i4:wy t ch dep deep) (h1:0≤one∧one<8) (h2:0≤two∧two<8)
  (q:∀ds dk xs,(dk=3∨dk=200)→kr ds→bK xs→xs.length≤60→Q (.obj (BL ds ch dep deep T).length) (BL ds dk dep deep T++[aZ xs])):WC c (d+3) (.ref 493) [.obj 8,.obj n,.int one,.int two] (BL ds ch dep deep T) Q X:=by
 have ed:∀{f:Nat→Nat}{ds:lr},iw f (.dict (ds.map lu))=.dict (ds.map lu):=fun{f ds}=>congrArg ag.dict r5
 rcases hn with rfl | rfl
 ·refine WC.frame [1,3,5,7,8] (H₀:=SH 3 "fc" 0 tg ds ch dep deep []) (.of rfl (by decide) ?_) (as₀:=[.obj 4,.obj 0,.int one,.int two]) rfl rfl
   (Q₀:=fun v G=>v=.obj 5∧∃ds xs,kr ds∧bK xs∧xs.length≤60∧G=SH 3 "fc" 0 tg ds 3 dep deep [aZ xs]) (X₀:=fun _=>False)
   (zx F (.inl rfl) (by decide +kernel) (codes:=[102,99]) (by decide +kernel) (by decide +kernel) pF i4 h1 h2 fun ds xs a b e=>⟨rfl,ds,xs,a,b,e,rfl⟩) ?_ fun _ h=>h.elim
  ·exact⟨⟨rfl,rfl⟩,⟨rfl,rfl⟩,⟨rfl,rfl⟩,⟨fB,by rw[ed];rfl⟩,⟨rfl,rfl⟩,trivial⟩
  ·intro v G lE
   refine bG lE fun gD jS=>?_
   clear lE
   refine b0 jS fun JZ xs a b e ix=>?_
   subst gD
   subst ix
   have q:=q JZ 3 xs (.inl rfl) a b e
   unfold BL at q
   rw[←ed (f:=fr [1,3,5,7,8] (BL ds ch dep deep T).length),←cC (f:=fr [1,3,5,7,8] (BL ds ch dep deep T).length)] at q
   exact q
 ·refine WC.frame [2,4,6,7,8] (H₀:=SH 200 "fhz" 77 gT ds ch dep deep []) (.of rfl (by decide) ?_) (as₀:=[.obj 4,.obj 0,.int one,.int two]) rfl rfl
   (Q₀:=fun v G=>v=.obj 5∧∃ds xs,kr ds∧bK xs∧xs.length≤60∧G=SH 200 "fhz" 77 gT ds 200 dep deep [aZ xs]) (X₀:=fun _=>False)
   (zx F (.inr rfl) (by decide +kernel) (codes:=[102,104,122]) (by decide +kernel) (by decide +kernel) pF i4 h1 h2 fun ds xs a b e=>⟨rfl,ds,xs,a,b,e,rfl⟩) ?_ fun _ h=>h.elim
  ·exact⟨⟨rfl,rfl⟩,⟨rfl,rfl⟩,⟨rfl,rfl⟩,⟨fB,by rw[ed];rfl⟩,⟨rfl,rfl⟩,trivial⟩
  ·intro v G mr
   refine bG mr fun jW nr=>?_
   clear mr
   refine b0 nr fun JZ xs a b e jY=>?_
   subst jW
   subst jY
   have q:=q JZ 200 xs (.inr rfl) a b e
   unfold BL at q
   rw[←ed (f:=fr [2,4,6,7,8] (BL ds ch dep deep T).length),←cC (f:=fr [2,4,6,7,8] (BL ds ch dep deep T).length)] at q
   exact q
noncomputable abbrev LH (ds:lr) (ch dep deep:Int) (T:List ag):List ag:=.dict (ds.map lu)::VN 0 ch dep deep::T
theorem Kh {k:Nat}(hk:k=2∨k=3):tv k (LH ds ch dep deep [])=true:=by
 rcases hk with rfl | rfl
 ·show(mx 2 (ds.map lu)&&(true&&true))=true
  rw[fB];rfl
 ·show(mx 3 (ds.map lu)&&(true&&true))=true
  rw[fB];rfl
theorem GW (F:eW c) (Yk:ch=3∨ch=200) (h1:0≤one∧one<8) (h2:0≤two∧two<8) (q:∀xs,bK xs→xs.length≤60→Q (.obj 2) (LH ds ch dep deep [aZ xs])):WC c (d+2) (.ref 500) [.obj 1,.int one,.int two] (LH ds ch dep deep []) Q X:=by
 obtain⟨ws,hws,hk,qz⟩:∃ws:List (Int×AV),dF ch [((3:Int),LI),(200,xD)]=some (.iR ws)∧(∀k∈ws.map (·.1),0≤k∧k<256)∧ws.length=3:=by
  rcases Yk with rfl | rfl
  ·exact⟨_,rfl,by decide,rfl⟩
  ·exact⟨_,rfl,by decide,rfl⟩
 refine WC.v F rfl rfl fun A env E=>?_
 refine⟨by decide,_,rfl,⟨_,hws,?_⟩⟩
 refine WV.s4 (.inl rfl) (by exact vc qz rfl) fun ns ud=>?_
 have U3:ns.length=3:=by rw[ud.1.length_eq,aa,qz]
 refine⟨by decide,⟨⟨by exact aW [] [_,_,_] [.fD 3 bJ dN hM] (.l dE dN) cM rfl (kb 3 _ rfl),by exact aW [] [_,_,_] [.fD 3 bJ dN hM] (.t dN DS) cI rfl (kb 3 _ rfl)⟩,_,gn (j:=(one%3).toNat) (by exact aW [_,_] [_,_,_] [.E aB pM,.fD 3 bJ dN hM,.ft aM dN] (.T aM aB) (.o (.k [1,0,1,0,1,0,0,0,0,1]) (.k [1,0,1,0,0,0,0,0,0,1])) rfl U3 (kb 3 _ rfl) (kL _)),?_⟩⟩
 have qj:0≤ns.getD (one%3).toNat 0∧ns.getD (one%3).toNat 0<256:=by
  have iU:(one%3).toNat<ns.length:=by exact aW [_,_] [_,_,_] [.E aB pM,.fD 3 bJ dN hM,.ft aM dN] (.T aM aB) (.o (.k [1,0,1,0,1,0,0,0,0,1]) (.k [1,0,1,0,0,0,0,0,0,1])) rfl U3 (kb 3 _ rfl) (kL _)
  have hm:ns.getD (one%3).toNat 0∈ns:=by
   rw[bt,aw iU];exact uu iU
  exact hk _ (ud.1.mem_iff.mp hm)
 generalize ns.getD (one%3).toNat 0=code at *
 apply hW True
 ·intro key
  refine⟨fun ha=>⟨fun hb=>?_,fun hb=>by(conv=>whnf);exact key trivial⟩,fun ha=>key trivial⟩
  exact dU.qi (LH ds ch dep deep []) _ 3 [code] (by rfl) (by rfl) (by exact(by decide:2≤3)) (Kh (.inl rfl)) (Kh (.inr rfl)) (aA _) (q _ (bK.cons qj bK.nil) (by exact(by decide:1≤60)))
 ·intro _
  refine⟨⟨by decide,by decide⟩,?_⟩
  apply vg (fun v:Int=>v=128∨v=133)
  ·intro key
   rcases(show one / 4=0∨one / 4=1 by exact aW [] [_,_,_] [.l dE bJ,.t bJ (.l 8),.fD 4 dN hM bJ] (.O (.e dN dE) (.e dN bP)) (.o (.o (.k [0,4,1,0,0,1,0,1]) cI) (.o cI (.k [4,0,0,1,1,0,1]))) rfl h1.1 h1.2 (kb 4 _ rfl)) with h | h
   ·rw[h]
    conv=>whnf
    generalize hg:(128:Int)=e
    exact key e (.inl hg.symm)
   ·rw[h]
    exact key 133 (.inr rfl)
  ·intro v hv
   refine⟨by decide,⟨by decide,?_⟩⟩
   refine ki F (room:=(1+two%4).toNat) (by exact aW [_] [_,_,_] [.fD 4 bJ dN hM,.ft aB (.a bP dN)] (.e (.a bP dN) aB) (.o (.o cM jf) (.o ui cI)) rfl (kb 4 _ rfl) (kL _)) (by exact aW [_] [_,_,_] [.fD 4 bJ dN hM,.ft aB (.a bP dN)] (.L aB (.l 100)) (.o jM cM) rfl (kb 4 _ rfl) (kL _)) fun ys o1 l1=>?_
   refine⟨by rw[aa,bA,l1];exact aW [_] [_,_,_] [.fD 4 bJ dN hM,.ft aB (.a bP dN)] (.L (.a bP aB) jg) (.o jM cM) rfl (kb 4 _ rfl) (kL _),?_⟩
   refine dU.qi (LH ds ch dep deep []) _ 5 ([v+two%4]++ys) (by rfl) (congrArg some (iJ (by rw[aF];rfl))) (by exact(by decide:2≤5)) (Kh (.inl rfl)) (Kh (.inr rfl)) (aA _) (q _ ?_ ?_)
   ·exact(bK.cons (by exact aW [] [_,_,_,_] [.O (.e bJ (.l 128)) (.e bJ (.l 133)),.fD 4 dN hM yl] (.A (.l dE (.a bJ hM)) (.t (.a bJ hM) (.l 256))) (.o (.o (.k [1,0,1,0,0,0,1]) (.k [1,1,0,0,0,1])) (.o (.k [1,0,1,0,0,0,1]) (.k [1,1,0,0,0,1]))) rfl hv (kb 4 _ rfl)) bK.nil).app o1
   ·rw[ah,bA,l1];exact aW [_] [_,_,_] [.fD 4 bJ dN hM,.ft aB (.a bP dN)] (.L (.a bP aB) (.l 60)) (.o jM cM) rfl (kb 4 _ rfl) (kL _)
theorem D2 (F:eW c) (Yk:ch=3∨ch=200) (h1:0≤one∧one<8) (h2:0≤two∧two<8) (q:∀xs,bK xs→xs.length≤60→Q (.obj (BL ds ch dep deep T).length) (BL ds ch dep deep T++[aZ xs])):WC c (d+2) (.ref 500) [.obj 8,.int one,.int two] (BL ds ch dep deep T) Q X:=by
 have ed:∀{f:Nat→Nat}{ds:lr},iw f (.dict (ds.map lu))=.dict (ds.map lu):=fun{f ds}=>congrArg ag.dict r5
 refine WC.frame [7,8] (H₀:=LH ds ch dep deep []) (.of rfl (by decide) ?_) (as₀:=[.obj 1,.int one,.int two]) rfl rfl
  (Q₀:=fun v G=>v=.obj 2∧∃xs,bK xs∧xs.length≤60∧G=LH ds ch dep deep [aZ xs]) (X₀:=fun _=>False) (GW F Yk h1 h2 fun xs a b=>⟨rfl,xs,a,b,rfl⟩) ?_ fun _ h=>h.elim
 ·exact⟨⟨fB,by rw[ed];rfl⟩,⟨rfl,rfl⟩,trivial⟩
 ·intro v G nT
  refine bG nT fun mU tM=>?_
  clear nT
  refine aL tM fun xs a b nF=>?_
  subst mU
  subst nF
  have q:=q xs a b
  unfold BL at q
  rw[←ed (f:=fr [7,8] (BL ds ch dep deep T).length),←cC (f:=fr [7,8] (BL ds ch dep deep T).length)] at q
  exact q
theorem lU (ns:List Int){j:Nat}(hj:j<ns.length):∃v∈ns,(ns.map AV.int)[j]?=some (.int v):=by
 refine⟨_,?_,gn hj⟩
 rw[bt,aw hj];exact uu hj
theorem FU (F:eW c){base xS:Int}(hb:0≤base∧base≤200) (h1:0≤one∧one<8) (h2:0≤two∧two<8) (h3:0≤xS∧xS<256)
  (q:∀xs,bK xs→xs.length≤60→Q (.obj H.length) (H++[aZ xs])):WC c (d+1) (.ref 507) [.int base,.int one,.int two,.int xS] H Q X:=by
 refine WC.new rfl rfl ?_
 refine WC.v F rfl rfl fun A env E=>?_
 refine⟨by decide,?_⟩
 refine al (cG h2.1) fun j gD=>?_
 subst gD
 have hj:j<8:=by exact gV h2.2
 have hjb:ik j 1000000=true:=eQ (by exact di (ky hj rfl))
 apply vg (fun v:Int=>0≤v∧v<256)
 ·intro key
  refine⟨fun h=>?_,fun h=>?_⟩
  ·refine aq (lU [0,0,0,255,255,0,64,192] hj) fun v hv e=>?_
   conv=>whnf
   rw[show[AV.int 0,.int 0,.int 0,.int 255,.int 255,.int 0,.int 64,.int 192][j]?=some (.int v) from e]
   conv=>whnf
   rw[hjb]
   conv=>whnf
   exact key v (by clear e;revert v;decide)
  ·refine aq (lU [0,1,127,128,255,3,200,64] hj) fun v hv e=>?_
   conv=>whnf
   rw[show[AV.int 0,.int 1,.int 127,.int 128,.int 255,.int 3,.int 200,.int 64][j]?=some (.int v) from e]
   conv=>whnf
   rw[hjb]
   exact key v (by clear e;revert v;decide)
 intro v hv
 refine⟨by decide,?_⟩
 refine al (cG (show 0≤xS%3 by exact aW [] [_,_,_] [.fD 3 bJ dN hM] (.l dE dN) cM rfl (kb 3 _ rfl))) fun i hi=>?_
 rw[hi]
 refine aq (lU [0,5,10] (j:=i) (by show i<3;exact aW [_] [_,_,_] [.e bJ aB,.fD 3 dN bJ hM] (.T aB pM) (.k [1,1,0,0,0,0,1]) rfl hi (kb 3 _ rfl))) fun w hw e=>?_
 conv=>whnf
 rw[show[AV.int 0,.int 5,.int 10][i]?=some (.int w) from e]
 conv=>whnf
 rw[show ik i 1000000=true from eQ (by exact aW [_] [_,_,_] [.e bJ aB,.fD 3 dN bJ hM] (.L (.a aB bP) jg) (.k [1,1,0,0,0,0,1]) rfl hi (kb 3 _ rfl))]
 have hw:0≤w∧w≤10:=by clear e;revert w;decide
 refine⟨⟨⟨by exact aW [] [_,_,_] [.fD 4 bJ dN hM] (.t (.s (.a bP dN) bP) tL) cI rfl (kb 4 _ rfl),by exact aW [] [_,_,_] [.fD 4 bJ dN hM] (.t (.n tL) (.s (.a bP dN) bP)) cM rfl (kb 4 _ rfl)⟩,by rw[bA,wi];exact aW [_] [_,_,_] [.fD 4 bJ dN hM,.ft aB (.s (.a bP dN) bP)] (.L aB jg) (.o jM cM) rfl (kb 4 _ rfl) (kL _)⟩,?_⟩
 rw[yq]
 refine⟨by rw[aa,eP];exact(show 2+_≤1000000 by exact aW [_] [_,_,_] [.fD 4 bJ dN hM,.ft aB (.s (.a bP dN) bP)] (.L (.a jN aB) jg) (.o jM cM) rfl (kb 4 _ rfl) (kL _)),?_⟩
 have e2:[AV.int (base+w+(1+one%4)-1),.int v]++(bH (1+one%4-1).toNat xS).map .int=([base+w+(1+one%4)-1,v]++bH (1+one%4-1).toNat xS).map .int:=by rw[aF];rfl
 refine(?_:dU _ _ _ _ _)
 refine dU.qi [] _ 3 ([base+w+(1+one%4)-1,v]++bH (1+one%4-1).toNat xS) (by rfl) (congrArg some (iJ e2)) (cQ _) rfl rfl (aA _) ?_
 have q:=q ([base+w+(1+one%4)-1,v]++bH (1+one%4-1).toNat xS) ?_ ?_
 ·rw[←cC (f:=fr [] H.length)] at q
  exact q
 ·exact(bK.cons (by exact aW [] [_,_,_,_,_] [.l dE bJ,.l bJ (.l 200),.l dE dN,.l dN (.l 10),.fD 4 hM yl (.w 4)] (.A (.l dE (.s (.a (.a bJ dN) (.a bP yl)) bP)) (.t (.s (.a (.a bJ dN) (.a bP yl)) bP) (.l 256))) (.o (.k [1,0,1,0,0,0,1,0,1]) (.k [1,1,0,0,0,1,0,1])) rfl hb.1 hb.2 hw.1 hw.2 (kb 4 _ rfl)) (bK.cons hv bK.nil)).app (bK.rep h3)
 ·rw[ah,eP];exact(show 2+_≤60 by exact aW [_] [_,_,_] [.fD 4 bJ dN hM,.ft aB (.s (.a bP dN) bP)] (.L (.a jN aB) (.l 60)) (.o jM cM) rfl (kb 4 _ rfl) (kL _))
end
end
section
open PySem PySem.W PySem.Calls PyProof.Rows
structure BW where
 ds:lr
 (ch dep deep a k r:Int)
noncomputable abbrev BW.H (w:BW) (T:List ag):List ag:=BL w.ds w.ch w.dep w.deep (aZ [w.a,w.k,w.r]::T)
structure BW.Ok (w:BW) (t u:Nat):Prop where
 d:kr w.ds
 s:wy u w.ch w.dep w.deep
 b:kz t w.a w.k w.r
theorem zU {w:BW}{k:Nat}(hk:k=10∨k=11):tv k (w.H [])=true:=by
 rcases hk with rfl | rfl
 ·show(true&&(true&&(true&&(true&&(true&&(true&&(true&&(mx 10 (w.ds.map lu)&&(true&&(true&&true))))))))))=true
  rw[fB];rfl
 ·show(true&&(true&&(true&&(true&&(true&&(true&&(true&&(mx 11 (w.ds.map lu)&&(true&&(true&&true))))))))))=true
  rw[fB];rfl
theorem wy.up {t:Nat}{ch dep deep:Int}(h:wy t ch dep deep):wy (t+1) ch dep deep:=by
 obtain⟨h1,h2,h3,h4,h5⟩:=h
 exact⟨h1,h2,by exact BM h3,h4,by exact BM h5⟩
theorem kz.le {t t':Nat}{a k r:Int}(h:kz t a k r) (ht:t≤t'):kz t' a k r:=by
 obtain⟨h1,h2,h3,h4,h5⟩:=h
 exact⟨h1,h2,by exact aW [_,_] [_] [.L aB aM,.l bJ aB] (.l bJ aM) uc rfl ht h3,h4,h5⟩
noncomputable def RX (k:Int):AV→AV
 |.int i=>.int (k+i)
 |_=>.none
theorem IQ (k:Int) (ns:List Int):(ns.map AV.int).map (RX k)=(ns.map fun i=>k+i).map .int:=by
 rw[dx,dx];rfl
theorem zm {a b:Int}:fH a b 1=((bh (b-a).toNat).map fun(i:Nat)=>a+(i:Int)).map .int:=by
 apply Je;intro i
 by_cases h:i<(b-a).toNat
 ·have hl:i<(fH a b 1).length:=by rw[fA];exact h
  have:=(fy (aw hl)).2
  rw[aw hl,this];simp[h]
 ·rw[cF (by rw[fA];exact aS h),cF (by simp;exact aW [_,_] [_,_] [.N (.T aB aM),.ft aM (.s bJ dN)] (.l (.s bJ dN) aB) (.o nY cI) rfl h (kL _))]
section
variable {c:Cx}{d n m t u:Nat}{H T A G:List ag}{Q QR:AV→List ag→Prop}{X:List ag→Prop}{op:Nat}{one two:Int}{f:ai}{as:List AV}{l:Loc}
theorem dU.bw (w:BW) (G:List ag) (k:Nat) (xs:List Int) (e:H=w.H []++G) (hk:H[k]?=some (aZ xs)) (hA:10≤k) (q:QR (.obj 10) (w.H [aZ xs])):dU 10 (qB QR) (.ret (.obj k)) l H:=
 dU.qi (w.H []) G k xs e hk hA (zU (.inl rfl)) (zU (.inr rfl)) (aA _) q
theorem DK (F:eW c){w:BW}(hw:w.Ok t u) (ht:t≤90000) (q:∀(w:BW) xs,w.Ok (t+4) (u+1)→bK xs→xs.length≤60→Q (.obj 10) (w.H [aZ xs])):WC c (d+4) (.ref 512) [.obj 9,.obj 8,.obj 0] (w.H []) Q X:=by
 obtain⟨hd,hs,hb⟩:=hw
 refine WC.v F rfl rfl fun A env E=>?_
 obtain⟨ds,ch,dep,deep,a0,k0,r0⟩:=w
 dsimp only at hd hs hb
 refine fW F (by rfl) hb (by exact b9 ht rfl) (by decide) (by decide) fun Qs a1 k1 r1 y1 y2 hb=>?_
 refine fW F (by rfl) hb (by exact di (oH ht rfl)) (by decide) (by decide) fun one a2 k2 r2 y3 y4 hb=>?_
 refine fW F (by rfl) hb (by exact aW [_] [] [.L aB (.l 90000)] (.L (.a (.a aB bP) bP) r7) cI rfl ht) (by decide) (by decide) fun two a3 k3 r3 y5 y6 hb=>?_
 have hb4:=hb.le (show t+1+1+1≤t+4 by exact lM 1 rfl)
 have fin:∀ds ch dep deep xs,kr ds→wy (u+1) ch dep deep→bK xs→xs.length≤60→Q (.obj 10) (BW.H ⟨ds,ch,dep,deep,a3,k3,r3⟩ [aZ xs]):=fun ds ch dep deep xs h1 h2 h3 h4=>q ⟨ds,ch,dep,deep,a3,k3,r3⟩ xs ⟨h1,h2,hb4⟩ h3 h4
 obtain⟨fn,WJ,ZY⟩:∃n,(n=1∨n=2)∧[AV.obj 1,.obj 2][(one%2).toNat]?=some (.obj n):=by
  rcases(show(one%2).toNat=0∨(one%2).toNat=1 by exact aW [_] [_,_,_] [.fD 2 bJ dN hM,.ft aB dN] (.O (.E aB dE) (.E aB bP)) (.o (.o (.o xM cI) (.o cI (.k [1,0,0,1,0,1]))) (.o (.o xM cI) (.o cI jf))) rfl (kb 2 _ rfl) (kL _)) with h | h
  ·exact⟨1,.inl rfl,by rw[h];rfl⟩
  ·exact⟨2,.inr rfl,by rw[h];rfl⟩
 apply hW (¬(Qs<4∧ch>0))
 ·intro key
  refine⟨fun h1=>⟨by decide,_,rfl,⟨fun h2=>?_,fun h2=>by(conv=>whnf);exact key fun z=>h2 z.2⟩⟩,fun h1=>key fun z=>h1 z.1⟩
  refine D2 F (ds:=ds) (dep:=dep) (deep:=deep) (T:=[aZ [a3,k3,r3]]) (show ch=3∨ch=200 by have:=hs.c;have h2:ch>0:=h2;exact aW [] [_] [.O (.e bJ dE) (.O (.e bJ pM) (.e bJ (.l 200))),.t dE bJ] (.O (.e bJ pM) (.e bJ (.l 200))) (.o (.o (.o (.k [0,0,1,1]) cI) (.o (.k [0,1,0,1]) jf)) (.o (.o (.o vF cI) (.o (.k [0,1,0,1]) jf)) (.o (.o vF cI) (.o (.k [1,0,0,0,1]) jf)))) rfl this h2) ⟨y3,y4⟩ ⟨y5,y6⟩ fun xs o hl=>?_
  exact dU.bw ⟨ds,ch,dep,deep,a3,k3,r3⟩ _ _ xs (by rfl) (by rfl) (aA _) (fin _ _ _ _ _ hd hs.up o hl)
 intro n1
 apply hW (Qs<4∨Qs=12)
 ·intro key
  refine⟨fun h1=>by(conv=>whnf);exact key (.inl h1),fun h1=>⟨fun h2=>key (.inr h2),fun h2=>?_⟩⟩
  refine⟨fun h4=>?_,fun h4=>?_⟩
  ·refine⟨by decide,?_⟩
   refine al (cG (show 0≤(one+two)%2 by exact aW [] [_,_,_,_] [.fD 2 bJ dN (.a hM yl)] (.l dE dN) cM rfl (kb 2 _ rfl))) fun i hi=>?_
   refine al (cG y3) fun j1 e1=>?_
   refine al (cG y5) fun j2 e2=>?_
   refine aq (lU [132,137] (j:=i) (by show i<2;exact aW [_] [_,_,_,_] [.e bJ aB,.fD 2 dN bJ (.a hM yl)] (.T aB jN) (.k [1,1,0,0,0,0,1]) rfl hi (kb 2 _ rfl))) fun v hv ev=>?_
   refine aq (lU [0,1,-5,70000,1048576,65536,-1,3] (j:=j1) (by show j1<8;exact aW [_] [_] [.t bJ (.l 8),.e bJ aB] (.T aB (.l 8)) (.k [1,0,1,1]) rfl y4 e1)) fun v1 _ ev1=>?_
   refine aq (lU [0,1,-5,70000,1048576,65536,-1,3] (j:=j2) (by show j2<8;exact aW [_] [_] [.t bJ (.l 8),.e bJ aB] (.T aB (.l 8)) (.k [1,0,1,1]) rfl y6 e2)) fun v2 _ ev2=>?_
   have hv:v=132∨v=137:=by simpa using hv
   have YF:∀k,k<8→ik k 1000000=true:=fun k h=>eQ (by exact di (ky h rfl))
   rw[hi]
   conv=>whnf
   rw[show[AV.int 132,.int 137][i]?=some (.int v) from ev]
   conv=>whnf
   rw[YF i (by exact aW [_] [_,_,_,_] [.e bJ aB,.fD 2 dN bJ (.a hM yl)] (.T aB (.l 8)) (.k [1,1,0,0,0,0,1]) rfl hi (kb 2 _ rfl))]
   conv=>whnf
   subst e1
   conv=>whnf
   rw[show[AV.int 0,.int 1,.int (-5),.int 70000,.int 1048576,.int 65536,.int (-1),.int 3][j1]?=some (.int v1) from ev1]
   conv=>whnf
   rw[YF j1 (by exact gV y4)]
   refine ki F (room:=4) rfl (by decide) fun x1 o1 l1=>?_
   refine⟨by rw[aa,l1];exact(by decide:1+4≤1000000),?_⟩
   subst e2
   conv=>whnf
   rw[show[AV.int 0,.int 1,.int (-5),.int 70000,.int 1048576,.int 65536,.int (-1),.int 3][j2]?=some (.int v2) from ev2]
   conv=>whnf
   rw[YF j2 (by exact gV y6)]
   refine ki F (room:=4) rfl (by decide) fun x2 o2 l2=>?_
   refine⟨by rw[ah,aa,aa,l1,l2];exact(by decide:1+4+4≤1000000),?_⟩
   have e:[AV.int v]++x1.map .int++x2.map .int=([v]++x1++x2).map .int:=by rw[aF,aF];rfl
   exact dU.bw ⟨ds,ch,dep,deep,a3,k3,r3⟩ _ 14 ([v]++x1++x2) (by rfl) (congrArg some (iJ e)) (by decide) (fin _ _ _ _ _ hd hs.up (((bK.cons (by exact aW [] [_] [.O (.e bJ (.l 132)) (.e bJ (.l 137))] (.A (.l dE bJ) (.t bJ (.l 256))) (.o (.o cM cI) (.o cM cI)) rfl hv) bK.nil).app o1).app o2) (by rw[ah,ah,l1,l2];exact(by decide:1+4+4≤60)))
  apply hW (¬(Qs=6∧dep>0))
  ·intro oG
   refine⟨fun h6=>⟨by decide,_,rfl,⟨fun h7=>?_,fun h7=>by(conv=>whnf);exact oG fun z=>h7 z.2⟩⟩,fun h6=>oG fun z=>h6 z.1⟩
   have h7:dep>0:=h7
   refine⟨by decide,_,rfl,⟨oV 1 4 (by decide),?_⟩⟩
   refine dU.bw ⟨ds,ch,dep-1,deep,a3,k3,r3⟩ _ 10 [142] (by rfl) (by rfl) (aA _) (fin _ _ _ _ _ hd ⟨hs.c,by exact aW [] [_] [.t dE bJ] (.l dE (.s bJ bP)) cI rfl h7,by have:=hs.d1;exact aW [_] [_] [.l bJ aB] (.l (.s bJ bP) (.c (.a aB bP))) cI rfl this,hs.e0,by have:=hs.e1;exact BM this⟩ (bK.cons (by decide) bK.nil) (by decide))
  intro n6
  apply hW (Qs=5∨Qs=6)
  ·intro UQ
   refine⟨fun h5=>by(conv=>whnf);exact UQ (.inl h5),fun h5=>⟨fun h6=>UQ (.inr h6),fun h6=>?_⟩⟩
   refine⟨fun Uh=>?_,fun Uh=>?_⟩
   ·have mv:∀{v:Int}{a4 k4 r4:Int}{xs:List Int},kz (t+1+1+1+1) a4 k4 r4→bK xs→xs.length≤60→Q (.obj 10) (BW.H ⟨ds,ch,dep,deep,a4,k4,r4⟩ [aZ xs]):=fun hb o hl=>q ⟨_,_,_,_,_,_,_⟩ _ ⟨hd,hs.up,hb⟩ o hl
    refine⟨fun h9=>?_,fun h9=>?_⟩
    all_goals
     refine fW F (by rfl) hb (by exact aW [_] [] [.L aB (.l 90000)] (.L (.a (.a (.a aB bP) bP) bP) r7) cI rfl ht) (by decide) (by decide) fun xS a4 k4 r4 z1 z2 hb5=>?_
     refine FU F (by decide) ⟨y3,y4⟩ ⟨y5,y6⟩ ⟨z1,z2⟩ fun xs o hl=>?_
     exact dU.bw ⟨ds,ch,dep,deep,a4,k4,r4⟩ _ _ xs (by rfl) (by rfl) (aA _) (mv (v:=0) hb5 o hl)
   refine⟨fun Uh=>?_,fun Uh=>?_⟩
   ·refine⟨by decide,?_⟩
    refine al (cG (show 0≤one%4 by exact aW [] [_,_,_] [.fD 4 bJ dN hM] (.l dE dN) cM rfl (kb 4 _ rfl))) fun i hi=>?_
    refine aq (lU [147,152,161,166] (j:=i) (by show i<4;exact aW [_] [_,_,_] [.e bJ aB,.fD 4 dN bJ hM] (.T aB iE) (.k [1,1,0,0,0,0,1]) rfl hi (kb 4 _ rfl))) fun v hv ev=>?_
    have hv:0≤v∧v<256:=by clear ev;revert v;decide
    rw[hi]
    conv=>whnf
    rw[show[AV.int 147,.int 152,.int 161,.int 166][i]?=some (.int v) from ev]
    conv=>whnf
    rw[show ik i 1000000=true from eQ (by exact aW [_] [_,_,_] [.e bJ aB,.fD 4 dN bJ hM] (.L (.a aB bP) jg) (.k [1,1,0,0,0,0,1]) rfl hi (kb 4 _ rfl))]
    exact dU.bw ⟨ds,ch,dep,deep,a3,k3,r3⟩ _ 10 [v] (by rfl) (by rfl) (aA _) (fin _ _ _ _ _ hd hs.up (bK.cons hv bK.nil) (by exact(by decide:1≤60)))
   refine⟨fun VD=>?_,fun VD=>?_⟩
   ·refine⟨by decide,⟨by decide,⟨by decide,?_⟩⟩⟩
    refine ki F (room:=(1+two%4).toNat) (by exact aW [_] [_,_,_] [.fD 4 bJ dN hM,.ft aB (.a bP dN)] (.e (.a bP dN) aB) (.o (.o cM jf) (.o ui cI)) rfl (kb 4 _ rfl) (kL _)) (by exact aW [_] [_,_,_] [.fD 4 bJ dN hM,.ft aB (.a bP dN)] (.L aB (.l 100)) (.o jM cM) rfl (kb 4 _ rfl) (kL _)) fun ys o1 l1=>?_
    refine⟨by rw[aa,bA,l1];exact aW [_] [_,_,_] [.fD 4 bJ dN hM,.ft aB (.a bP dN)] (.L (.a bP aB) jg) (.o jM cM) rfl (kb 4 _ rfl) (kL _),?_⟩
    refine WE.lc F [66,70,69,67,94,71,106] E 10 (RX (7*two)) (by rfl) (by decide +kernel) (by rfl) ?_
    refine⟨rfl,⟨by decide,⟨⟨by exact aW [] [_,_,_] [.fD 4 bJ dN hM] (.l (.n tL) dN) cM rfl (kb 4 _ rfl),by exact aW [] [_,_,_] [.fD 4 bJ dN hM] (.t dN tL) cI rfl (kb 4 _ rfl)⟩,?_⟩⟩⟩
    refine⟨⟨fun _=>trivial,by rw[fA];exact aW [_] [_,_,_] [.fD 4 bJ dN hM,.ft aB (.s dN dE)] (.L aB jg) (.o jM cM) rfl (kb 4 _ rfl) (kL _)⟩,fun cenv i x acc hx=>?_,?_⟩
    ·refine bG (fy hx) fun hi jY=>?_
     subst jY
     exact⟨.of_left (by decide),rfl,rfl⟩
    ·rw[zm,IQ]
     have hoy:bK ((NC (fun(i:Nat)=>(0:Int)+(i:Int)) (bh (one%4-0).toNat)).map fun i=>7*two+i):=by
      intro z hz
      refine aq (dI.mp hz) fun w hw nr=>?_
      subst nr
      refine aq (dI.mp hw) fun j hj mU=>?_
      subst mU
      have:=de.mp hj
      exact aW [_,_] [_,_,_,_] [.l dE bJ,.t bJ (.l 8),.T aB aM,.fD 4 dN hM yl,.ft aM (.s hM dE)] (.A (.l dE (.a (.m 7 bJ) (.a dE aB))) (.t (.a (.m 7 bJ) (.a dE aB)) (.l 256))) (.o (.o (.k [1,0,0,0,0,0,0,0,0,0,7]) (.k [1,0,1,0,1,0,0,0,1,7])) (.o (.k [0,0,1,0,0,0,0,0,1]) (.k [1,0,1,0,0,0,0,0,1,7]))) rfl y5 y6 this (kb 4 _ rfl) (kL _)
     have hly:((NC (fun(i:Nat)=>(0:Int)+(i:Int)) (bh (one%4-0).toNat)).map fun i=>7*two+i).length≤4:=by
      rw[aa,aa,a8];exact aW [_] [_,_,_] [.fD 4 bJ dN hM,.ft aB (.s dN dE)] (.L aB iE) (.o jM cM) rfl (kb 4 _ rfl) (kL _)
     generalize ((NC (fun(i:Nat)=>(0:Int)+(i:Int)) (bh (one%4-0).toNat)).map fun i=>7*two+i)=zs at *
     refine⟨by rw[ah,aa,aa,l1];exact az (gI hly _) (by rw[bA];exact aW [_] [_,_,_] [.fD 4 bJ dN hM,.ft aB (.a bP dN)] (.L (.a (.a bP aB) iE) jg) (.o jM cM) rfl (kb 4 _ rfl) (kL _)),?_⟩
     have e:[AV.int (239+two%4)]++ys.map .int++zs.map .int=([239+two%4]++ys++zs).map .int:=by rw[aF,aF];rfl
     exact dU.bw ⟨ds,ch,dep,deep,a3,k3,r3⟩ _ 14 ([239+two%4]++ys++zs) (by rfl) (congrArg some (iJ e)) (by decide) (fin _ _ _ _ _ hd hs.up (((bK.cons (by exact aW [] [_,_,_] [.fD 4 bJ dN hM] (.A (.l dE (.a (.l 239) dN)) (.t (.a (.l 239) dN) (.l 256))) (.o cM cI) rfl (kb 4 _ rfl)) bK.nil).app o1).app hoy) (by rw[ah,ah,l1,bA];exact aW [_,_] [_,_,_] [.L aB iE,.fD 4 bJ dN hM,.ft aM (.a bP dN)] (.L (.a (.a bP aM) aB) (.l 60)) (.o (.k [1,0,1,0,1,0,0,0,1]) (.k [1,0,1,0,0,0,0,0,1])) rfl hly (kb 4 _ rfl) (kL _)))
   ·exact dU.bw ⟨ds,ch,dep,deep,a3,k3,r3⟩ _ 10 [138] (by rfl) (by rfl) (aA _) (fin _ _ _ _ _ hd hs.up (bK.cons (by decide) bK.nil) (by decide))
  ·intro h5
   refine⟨by decide,_,rfl,⟨oV 1 4 (by decide),?_⟩⟩
   refine⟨by decide,_,rfl,⟨by decide,_,rfl,⟨oV 3 4 (by decide),?_⟩⟩⟩
   exact dU.bw ⟨ds,ch,dep+1,max deep (dep+1),a3,k3,r3⟩ _ 10 [141] (by rfl) (by rfl) (aA _) (fin _ _ _ _ _ hd ⟨hs.c,qS hs.d0 (by decide),E4 hs.d1 1,lP hs.e0 (Int.le_max_left _ _),Int.max_le.mpr ⟨BM hs.e1,E4 hs.d1 1⟩⟩ (bK.cons (by decide) bK.nil) (by decide))
 ·intro h1
  refine⟨by decide,⟨⟨by exact aW [] [_,_,_] [.fD 2 bJ dN hM] (.l dE dN) cM rfl (kb 2 _ rfl),by exact aW [] [_,_,_] [.fD 2 bJ dN hM] (.t dN DS) cI rfl (kb 2 _ rfl)⟩,_,ZY,?_⟩⟩
  refine El F (ds:=ds) (T:=[aZ [a3,k3,r3]]) WJ hd hs ⟨y3,y4⟩ ⟨y5,y6⟩ fun ds dk xs nj pF o hl=>?_
  exact dU.bw ⟨ds,dk,dep,deep,a3,k3,r3⟩ _ _ xs (by rfl) (by rfl) (aA _) (fin _ _ _ _ _ pF ⟨by exact aW [] [_] [.O (.e bJ pM) (.e bJ (.l 200))] (.O (.e bJ dE) (.O (.e bJ pM) (.e bJ (.l 200)))) (.o (.o (.o (.o (.k [0,0,1,0,1]) cM) (.o xn cM)) (.o (.o vF cI) (.o (.k [0,1,0,1]) jf))) (.o (.o (.o (.k [0,0,1,0,1]) cM) (.o (.k [0,0,1,0,1]) cM)) (.o (.o vF cI) (.o (.k [1,0,0,0,1]) jf)))) rfl nj,hs.d0,by have:=hs.d1;exact BM this,hs.e0,by have:=hs.e1;exact BM this⟩ o hl)
end
end
section
open PySem PySem.W PySem.Calls PyProof.Rows
noncomputable def mK:List eF:=(iI (df 61)).drop 7
section
variable {c:Cx}{d n m t u:Nat}{H T A G P:List ag}{Q QR:AV→List ag→Prop}{SQ:QT}{X:List ag→Prop}{op:Nat}{one two:Int}{f:ai}{as:List AV}{l:Loc}{w:BW}{xs:List Int}{j:Nat}{last JL:Int}
theorem A1 (F:eW c) (hw:w.Ok t u) (ht:t≤90000) (q:∀(w':BW) xs,w'.Ok (t+4) (u+1)→bK xs→xs.length≤60→Q (.obj (w.H T).length) (w'.H T++[aZ xs])):WC c (d+4) (.ref 512) [.obj 9,.obj 8,.obj 0] (w.H T) Q X:=
 WC.Sj (A:=w.H []) (T:=T) (R:=fun A xs=>∃w':BW,A=w'.H []∧w'.Ok (t+4) (u+1)∧bK xs∧xs.length≤60) (zU (.inl rfl)) rfl (DK F hw ht fun w' xs h o l=>⟨w'.H [],xs,rfl,rfl,⟨rfl,zU (.inl rfl)⟩,w',rfl,h,o,l⟩)
  fun A xs _ ⟨w',e,h,o,l⟩=>by subst e;exact q w' xs h o l
theorem dU.MO (A G:List ag) (k:Nat) (xs:List Int) (e:H=A++G) (hk:H[k]?=some (aZ xs)) (hA:A.length≤k) (h:tv A.length A=true) (h':tv (A.length+1) A=true) (hm:m≤A.length) (l₁:Loc)
  (hs:u7 (A.length+1) ((bh A.length++[k]).getD · 0) l₁ l) (q:SQ .next l₁ (A++[aZ xs])):dU m SQ .next l H:=by
 refine .inr ⟨bh A.length++[k],l₁,A++[aZ xs],fun n hn=>?_,tF.qi e hk hA h h',wm.of ?_,q⟩
 ·rw[aC (by rw[a8];exact aV hn hm),cH (by exact aV hn hm)]
 ·rw[ah,a8]
  exact hs
theorem kj:listAt (w.H (P++[aZ xs])) (P.length+10)=some (xs.map .int):=kU (show(w.H (P++[aZ xs]))[P.length+10]?=some (aZ xs) from At.last rfl)
inductive PgA (ds:lr) (ch dep deep a1 k1 r1 last:Int) (i:Nat):Loc→List ag→Prop
 |mk (P:List ag) (xs:List Int) (p:Option AV) (o:bK xs) (hl:xs.length≤5+4*i) :
  PgA ds ch dep deep a1 k1 r1 last i [some (.obj 9),some (.obj 8),some (.obj 0),some (.int last),some (.obj (P.length+10)),p,none,none] (BW.H ⟨ds,ch,dep,deep,a1,k1,r1⟩ (P++[aZ xs]))
inductive PgB (last JL:Int) (t u i:Nat):Loc→List ag→Prop
 |mk (P:List ag) (xs:List Int) (w:BW) (p5 p7:Option AV) (H:List ag) (eh:H=w.H (P++[aZ xs])) (hw:w.Ok (t+3+4*i) (u+i)) (o:bK xs) (hl:xs.length≤45+60*i) :
  PgB last JL t u i [some (.obj 9),some (.obj 8),some (.obj 0),some (.int last),some (.obj (P.length+10)),p5,some (.int JL),p7] H
theorem mH (F:eW c){B:aU}{env:dH}{x5 x7:Option AV}(hl:l=[some (.obj 9),some (.obj 8),some (.obj 0),some (.int last),some (.obj j),x5,some (.int JL),x7]) (hj:listAt (w.H G) j=some (xs.map .int)) (ho:bK xs) (hx:xs.length≤2800) (hd:0≤w.dep∧w.dep≤100)
  (q:∀xs,bK xs→xs.length≤3000→Q (.obj 10) (w.H [aZ xs])):vS ⟨c,d,B,env,X⟩ (gx (df 61) [67,66,106,72]) (n+20) 10 mK l (w.H G) (dU 10 (qB Q)):=by
 subst hl
 apply vg (fun e:Int=>0≤e∧e≤101)
 ·intro key
  refine⟨by decide,_,rfl,⟨fun h=>?_,fun h=>?_⟩⟩
  ·conv=>whnf
   generalize hg:w.dep+1=e
   exact key e (by exact aW [] [_,_] [.l dE bJ,.l bJ (.l 100),.e (.a bJ bP) dN] (.A (.l dE dN) (.l dN (.l 101))) (.o rj (.k [1,0,1,1])) rfl hd.1 hd.2 hg)
  ·exact key (w.dep+0) (by exact aW [] [_] [.l dE bJ,.l bJ (.l 100)] (.A (.l dE (.a bJ dE)) (.l (.a bJ dE) (.l 101))) (.o cM cI) rfl hd.1 hd.2)
 ·intro e he
  refine hY (bI) ⟨⟨⟨by exact aW [] [_] [.l bJ (.l 101)] (.t bJ tL) cI rfl he.2,by exact aW [] [_] [.l dE bJ] (.t (.n tL) bJ) cI rfl he.1⟩,by rw[bA,wi];exact aW [_] [_] [.l bJ (.l 101),.ft aB bJ] (.L aB jg) (.o jM cM) rfl he.2 (kL _)⟩,?_⟩
  rw[yq]
  refine hY (cP (cP hj)) (hY (bI) ⟨by rw[aa,aa,eP];exact aW [_,_] [_] [.L aB (.l 2800),.l bJ (.l 101),.ft aM bJ] (.L (.a aB aM) jg) (.o rh ui) rfl hx he.2 (kL _),?_⟩)
  refine hY (cP bI) (hY (bI) ⟨by rw[ah,aa,aa,eP,bA];exact aW [_,_] [_] [.L aB (.l 2800),.l bJ (.l 101),.ft aM bJ] (.L (.a (.a aB aM) bP) jg) (.o rh ui) rfl hx he.2 (kL _),?_⟩)
  refine dU.bw w _ _ (xs++bH e.toNat 142++[140]) (by rfl) ((At.last rfl).trans (congrArg some (iJ (by rw[aF,aF];rfl)))) (ay 10 _) (q _ ?_ ?_)
  ·exact(ho.app (bK.rep (by decide))).app (bK.cons (by decide) bK.nil)
  ·rw[ah,ah,eP,bA];exact aW [_,_] [_] [.L aB (.l 2800),.l bJ (.l 101),.ft aM bJ] (.L (.a (.a aB aM) bP) (.l 3000)) (.o rh ui) rfl hx he.2 (kL _)
theorem PL (F:eW c) (hw:w.Ok t u) (ht:t≤50000) (hu:u≤60) (q:∀(w':BW) xs,w'.Ok (t+100) (u+20)→bK xs→xs.length≤3000→Q (.obj 10) (w'.H [aZ xs])):WC c (d+5) (.ref 519) [.obj 9,.obj 8,.obj 0,.int last] (w.H []) Q X:=by
 obtain⟨ds,ch,dep,deep,a0,k0,r0⟩:=w
 obtain⟨hd,hs,hb⟩:=hw
 dsimp only at hd hs hb
 refine WC.v F rfl rfl fun A env E=>?_
 refine fW F (by rfl) hb (by exact b9 ht rfl) (by decide) (by decide) fun v a1 k1 r1 y1 y2 hb=>?_
 refine ki F (room:=4) rfl (by decide) fun x0 o0 l0=>?_
 refine⟨by rw[aa,l0];exact(by decide:1+4≤1000000),?_⟩
 refine⟨10,aA _,rfl,⟨⟨by decide,by decide⟩,by decide,by decide⟩,?_⟩
 refine⟨PgA ds ch dep deep a1 k1 r1 last,
  ⟨[.list [.int 139],aZ x0],139::x0,none,bK.cons (by decide) o0,by rw[cL,l0];exact(by decide)⟩,fun _ _ _ _ _=>trivial,?_,?_⟩
 ·rintro i x l H hx ⟨P,xs,p,o,hl⟩
  refine bG (fy hx) fun hi jS=>?_
  subst jS
  have hi:i<9:=hi
  refine ki F (room:=4) rfl (by decide) fun ys o1 l1=>?_
  refine hY (cP kj) (hY (bI) ⟨by rw[aa,aa];exact aW [_,_,_] [] [.L aB (.a (.l 5) (.m 4 aM)),.T aM (.l 9),.E cf iE] (.L (.a aB cf) jg) (.k [1,1,0,4,1]) rfl hl hi l1,?_⟩)
  refine dU.MO (BW.H ⟨ds,ch,dep,deep,a1,k1,r1⟩ []) _ _ (xs++ys) (by rfl) ((At.last rfl).trans (congrArg some (iJ aF.symm))) (ay 10 _) (zU (.inl rfl)) (zU (.inr rfl)) (aA _) [some (.obj 9),some (.obj 8),some (.obj 0),some (.int last),some (.obj 10),none,none,none] ?_ ?_
  ·exact⟨⟨rfl,rfl⟩,⟨rfl,rfl⟩,⟨rfl,rfl⟩,⟨rfl,rfl⟩,⟨rfl,rfl⟩,trivial⟩
  ·exact⟨[],xs++ys,none,o.app o1,by rw[ah,l1];exact aW [_,_] [] [.L aB (.a (.l 5) (.m 4 aM))] (.L (.a aB iE) (.a (.l 5) (.m 4 (.a aM bP)))) cI rfl hl⟩
 ·rintro l H ⟨P,xs,p,o,hl⟩
  rw[fA] at hl
  have hl:xs.length≤41:=hl
  refine ki F (room:=4) rfl (by decide) fun ys o1 l1=>?_
  refine hY (cP kj) (hY (bI) ⟨by rw[aa,aa];exact aW [_,_] [] [.L aB (.l 41),.E aM iE] (.L (.a aB aM) jg) qO rfl hl l1,?_⟩)
  refine⟨oV 0 4 (by decide),⟨oV 1 4 (by decide),?_⟩⟩
  refine fW F (by rfl) hb (by exact di (oH ht rfl)) (by decide) (by decide) fun JL a2 k2 r2 y3 y4 hb=>?_
  refine⟨10,aA _,rfl,?_⟩
  refine fW F (by rfl) hb (by exact aW [_] [] [.L aB (.l 50000)] (.L (.a (.a aB bP) bP) r7) cI rfl ht) (by decide) (by decide) fun hV a3 k3 r3 y5 y6 hb=>?_
  refine⟨⟨by exact aW [] [_] [.l dE bJ] (.l (.n tL) (.a jN bJ)) cI rfl y5,by exact aW [] [_] [.t bJ (.l 10)] (.t (.a jN bJ) tL) cI rfl y6⟩,?_⟩
  refine⟨PgB last JL t u,
   ⟨P++[aZ xs]++[aZ ys],xs++ys,⟨ds,0,0,deep,a3,k3,r3⟩,p,none,_,congrArg (fun x=>BW.H ⟨ds,0,0,deep,a3,k3,r3⟩ (P++[aZ xs]++[aZ ys]++[x])) (iJ aF.symm),⟨hd,⟨.inl rfl,dQ _,(show(0:Int)≤(u:Int) by exact k6),hs.e0,hs.e1⟩,hb⟩,o.app o1,by rw[ah,l1];exact cR hl _⟩,fun _ _ _ _ _=>trivial,?_,?_⟩
  ·rintro i x l H hx ⟨P,xs,w,p5,p7,_,rfl,hw,o,hl⟩
   refine bG (fy hx) fun hi jW=>?_
   subst jW
   have hi:i<11:=by exact aW [_,_] [_] [.t bJ (.l 10),.T aB aM,.ft aM (.s (.a jN bJ) dE)] (.T aB (.l 11)) (.o rh jM) rfl y6 hi (kL _)
   refine A1 F (T:=P++[aZ xs]) hw (by exact aW [_,_] [] [.L aB (.l 50000),.T aM (.l 11)] (.L (.a (.a aB pM) (.m 4 aM)) (.l 90000)) (.k [1,4,1]) rfl ht hi) fun w' ys hw' o1 l1=>?_
   refine hY (cP kj) (hY (show listAt (w'.H (P++[aZ xs])++[aZ ys]) (w.H (P++[aZ xs])).length=some (ys.map .int) from bI) ⟨by rw[aa,aa];exact aW [_,_,_] [] [.L aB (.a (.l 45) (.m 60 aM)),.T aM (.l 11),.L cf (.l 60)] (.L (.a aB cf) jg) (.k [1,1,60,1]) rfl hl hi l1,?_⟩)
   refine dU.MO (w'.H []) _ _ (xs++ys) (by rfl) ((At.last rfl).trans (congrArg some (iJ aF.symm))) (ay 10 _) (zU (.inl rfl)) (zU (.inr rfl)) (aA _) [some (.obj 9),some (.obj 8),some (.obj 0),some (.int last),some (.obj 10),none,some (.int JL),none] ?_ ?_
   ·exact⟨⟨rfl,rfl⟩,⟨rfl,rfl⟩,⟨rfl,rfl⟩,⟨rfl,rfl⟩,⟨rfl,rfl⟩,⟨rfl,rfl⟩,trivial⟩
   ·exact⟨[],xs++ys,w',none,none,_,rfl,hw',o.app o1,by rw[ah];exact aW [_,_,_] [] [.L aB (.a (.l 45) (.m 60 aM)),.L cf (.l 60)] (.L (.a aB cf) (.a (.l 45) (.m 60 (.a aM bP)))) uc rfl hl l1⟩
  ·rintro l H ⟨P,xs,w,p5,p7,_,rfl,hw,o,hl⟩
   rw[fA] at hl hw
   have hn:(2+hV-0).toNat≤11:=by exact aW [_] [_] [.t bJ (.l 10),.ft aB (.s (.a jN bJ) dE)] (.L aB (.l 11)) (.o jM cM) rfl y6 (kL _)
   generalize (2+hV-0).toNat=nn at *
   have Fg:=hw.s.d1
   have Rc:=hw.s.d0
   have TN:w.Ok (t+100) (u+20):=⟨hw.d,⟨hw.s.c,Rc,by exact aW [_,_] [_] [.L aB (.l 11),.l bJ (.c (.a aM aB))] (.l bJ (.c (.a aM (.l 20)))) uc rfl hn Fg,hw.s.e0,by have:=hw.s.e1;exact aW [_,_] [_] [.L aB (.l 11),.l bJ (.c (.a aM aB))] (.l bJ (.c (.a aM (.l 20)))) uc rfl hn this⟩,hw.b.le (by exact aW [_,_] [] [.L aB (.l 11)] (.L (.a (.a aM pM) (.m 4 aB)) (.a aM (.l 100))) (.k [1,4]) rfl hn)⟩
   refine⟨fun h=>?_,fun h=>?_⟩
   ·refine hY (cP kj) (hY (bI) ⟨by rw[aa];exact(show _+1≤1000000 by exact aW [_,_] [] [.L aB (.a (.l 45) (.m 60 aM)),.L aM (.l 11)] (.L (.a aB bP) jg) (.k [1,60,1]) rfl hl hn),?_⟩)
    refine kJ (?_:vS _ _ _ _ mK _ _ _)
    exact mH F (w:=w) (xs:=xs++[141]) rfl (bI.trans (congrArg some (by rw[aF];rfl))) (o.app (bK.cons (by decide) bK.nil)) (by rw[ah];exact(show _+1≤2800 by exact aW [_,_] [] [.L aB (.a (.l 45) (.m 60 aM)),.L aM (.l 11)] (.L (.a aB bP) (.l 2800)) (.k [1,60,1]) rfl hl hn)) ⟨Rc,by exact aW [_,_] [_] [.L aB (.l 60),.L aM (.l 11),.l bJ (.c (.a aB aM))] (.l bJ (.l 100)) tJ rfl hu hn Fg⟩ fun xs o hl=>q w xs TN o hl
   refine⟨fun h=>?_,fun h=>?_⟩
   ·refine hY (cP kj) (hY (bI) ⟨by rw[aa];exact(show _+1≤1000000 by exact aW [_,_] [] [.L aB (.a (.l 45) (.m 60 aM)),.L aM (.l 11)] (.L (.a aB bP) jg) (.k [1,60,1]) rfl hl hn),?_⟩)
    refine kJ (?_:vS _ _ _ _ mK _ _ _)
    exact mH F (w:=w) (xs:=xs++[67]) rfl (bI.trans (congrArg some (by rw[aF];rfl))) (o.app (bK.cons (by decide) bK.nil)) (by rw[ah];exact(show _+1≤2800 by exact aW [_,_] [] [.L aB (.a (.l 45) (.m 60 aM)),.L aM (.l 11)] (.L (.a aB bP) (.l 2800)) (.k [1,60,1]) rfl hl hn)) ⟨Rc,by exact aW [_,_] [_] [.L aB (.l 60),.L aM (.l 11),.l bJ (.c (.a aB aM))] (.l bJ (.l 100)) tJ rfl hu hn Fg⟩ fun xs o hl=>q w xs TN o hl
   refine⟨fun h=>?_,fun h=>?_⟩
   ·refine hY (cP kj) (hY (bI) ⟨by rw[aa];exact(show _+2≤1000000 by exact aW [_,_] [] [.L aB (.a (.l 45) (.m 60 aM)),.L aM (.l 11)] (.L (.a aB jN) jg) (.k [1,60,1]) rfl hl hn),?_⟩)
    refine kJ (?_:vS _ _ _ _ mK _ _ _)
    exact mH F (w:=w) (xs:=xs++[180,65]) rfl (bI.trans (congrArg some (by rw[aF];rfl))) (o.app (bK.cons (by decide) (bK.cons (by decide) bK.nil))) (by rw[ah];exact(show _+2≤2800 by exact aW [_,_] [] [.L aB (.a (.l 45) (.m 60 aM)),.L aM (.l 11)] (.L (.a aB jN) (.l 2800)) (.k [1,60,1]) rfl hl hn)) ⟨Rc,by exact aW [_,_] [_] [.L aB (.l 60),.L aM (.l 11),.l bJ (.c (.a aB aM))] (.l bJ (.l 100)) tJ rfl hu hn Fg⟩ fun xs o hl=>q w xs TN o hl
   refine⟨fun h=>?_,fun h=>?_⟩
   ·refine⟨by decide,?_⟩
    refine al (cG (show 0≤last%4 by exact aW [] [_,_,_] [.fD 4 bJ dN hM] (.l dE dN) cM rfl (kb 4 _ rfl))) fun i hi=>?_
    refine aq (lU [250,139,247,248] (j:=i) (by show i<4;exact aW [_] [_,_,_] [.e bJ aB,.fD 4 dN bJ hM] (.T aB iE) (.k [1,1,0,0,0,0,1]) rfl hi (kb 4 _ rfl))) fun z hz ev=>?_
    have hz:0≤z∧z<256:=by clear ev;revert z;decide
    rw[hi]
    conv=>whnf
    rw[show[AV.int 250,.int 139,.int 247,.int 248][i]?=some (.int z) from ev]
    conv=>whnf
    rw[show ik i 1000000=true from eQ (by exact aW [_] [_,_,_] [.e bJ aB,.fD 4 dN bJ hM] (.L (.a aB bP) jg) (.k [1,1,0,0,0,0,1]) rfl hi (kb 4 _ rfl))]
    refine hY (cP kj) (hY (bI) ⟨by rw[aa];exact(show _+1≤1000000 by exact aW [_,_] [] [.L aB (.a (.l 45) (.m 60 aM)),.L aM (.l 11)] (.L (.a aB bP) jg) (.k [1,60,1]) rfl hl hn),?_⟩)
    refine kJ (?_:vS _ _ _ _ mK _ _ _)
    exact mH F (w:=w) (xs:=xs++[z]) rfl (bI.trans (congrArg some (by rw[aF];rfl))) (o.app (bK.cons hz bK.nil)) (by rw[ah];exact(show _+1≤2800 by exact aW [_,_] [] [.L aB (.a (.l 45) (.m 60 aM)),.L aM (.l 11)] (.L (.a aB bP) (.l 2800)) (.k [1,60,1]) rfl hl hn)) ⟨Rc,by exact aW [_,_] [_] [.L aB (.l 60),.L aM (.l 11),.l bJ (.c (.a aB aM))] (.l bJ (.l 100)) tJ rfl hu hn Fg⟩ fun xs o hl=>q w xs TN o hl
   ·refine kJ (?_:vS _ _ _ _ mK _ _ _)
    exact mH F (w:=w) (xs:=xs) rfl kj o (by exact aW [_,_] [] [.L aB (.a (.l 45) (.m 60 aM)),.L aM (.l 11)] (.L aB (.l 2800)) (.k [1,60,1]) rfl hl hn) ⟨Rc,by exact aW [_,_] [_] [.L aB (.l 60),.L aM (.l 11),.l bJ (.c (.a aB aM))] (.l bJ (.l 100)) tJ rfl hu hn Fg⟩ fun xs o hl=>q w xs TN o hl
end
end
section
open PySem PySem.W PySem.Calls PyProof.Rows
section
variable {c:Cx}{d n m t u:Nat}{H T A G P:List ag}{Q QR:AV→List ag→Prop}{SQ:QT}{X:List ag→Prop}{op:Nat}{one two:Int}{f:ai}{as:List AV}{l:Loc}{w:BW}{xs ns bx:List Int}{j:Nat}{last JL dk ck ch dep deep:Int}{nm:bu}{ws:List (Int×Int)}{ds:lr}{js:Nat→List Int}
theorem wZ (F:eW c) (nj:dk=3∨dk=200){codes:List UInt8}(qj:nm.cps.toList.map (fun(u:Nat)=>(u:Int))=codes.map (fun x=>(x.toNat:Int))) (hz:nm.cps.size≤10)
  (pF:kr ds) (q:∀ds xs,kr ds→bK xs→xs.length≤60→Q (.obj 5) (SH dk nm ck ws ds ch dep deep [aZ xs])):WC c (d+3) (.ref 526) [.obj 4,.obj 0] (SH dk nm ck ws ds ch dep deep []) Q X:=by
 refine WC.v F rfl rfl fun A env E=>?_
 have UA:=pF.le
 refine⟨by decide,_,rfl,?_⟩
 conv=>whnf
 rw[hO,dg]
 cases xp:ds.lookup dk with
 |some v=>exact .inl (q ds [138] pF (bK.cons (by decide) bK.nil) (by decide))
 |none=>
  have PB:=pF.snoc (v:=(65536,ck)) xp nj
  refine⟨by decide,_,rfl,?_⟩
  refine⟨by rw[aa];exact b9 UA rfl,?_⟩
  rw[Dr (v:=(65536,ck)) xp]
  refine⟨by decide,_,rfl,?_⟩
  refine⟨_,by rw[hO,tj xp];rfl,?_⟩
  refine De F (room:=1) rfl nj (by decide) qj hz fun xs o l=>?_
  exact .inl (q _ xs PB o (by exact b9 l rfl))
noncomputable abbrev om (ns bx:List Int) (js:Nat→List Int) (xs:List Int) (ds:lr) (ch dep deep:Int) (T:List ag):List ag:=
 FL (aZ ns::aZ bx::aZ (js 9)::aZ (js 10)::aZ (js 11)::aZ (js 12)::aZ (js 13)::aZ (js 14)::aZ (js 15)::aZ (js 16)::aZ (js 17)::aZ (js 18)::aZ xs::.dict (ds.map lu)::VN 20 ch dep deep::T)
theorem lx {f:Nat→Nat}{ds:lr}:iw f (.dict (ds.map lu))=.dict (ds.map lu):=congrArg ag.dict r5
theorem Bk {k:Nat}{xs:List Int}{f:Nat→Nat}:yO k (aZ xs)=true∧some (aZ xs)=some (iw f (aZ xs)):=⟨fC,by rw[cC]⟩
theorem A0 (F:eW c) (hn:n=1∨n=2) (pF:kr ds) (q:∀ds ys,kr ds→bK ys→ys.length≤60→Q (.obj (T.length+22)) (om ns bx js xs ds ch dep deep T++[aZ ys])):WC c (d+3) (.ref 526) [.obj 21,.obj n] (om ns bx js xs ds ch dep deep T) Q X:=by
 rcases hn with rfl | rfl
 ·refine WC.frame [1,3,5,20,21] (H₀:=SH 3 "fc" 0 tg ds ch dep deep []) (.of rfl (by decide) ?_) (as₀:=[.obj 4,.obj 0]) rfl rfl
   (Q₀:=fun v G=>v=.obj 5∧∃ds xs,kr ds∧bK xs∧xs.length≤60∧G=SH 3 "fc" 0 tg ds ch dep deep [aZ xs]) (X₀:=fun _=>False)
   (wZ F (.inl rfl) (codes:=[102,99]) (by decide +kernel) (by decide +kernel) pF fun ds xs a b e=>⟨rfl,ds,xs,a,b,e,rfl⟩) ?_ fun _ h=>h.elim
  ·exact⟨⟨rfl,rfl⟩,⟨rfl,rfl⟩,⟨rfl,rfl⟩,⟨fB,by rw[lx];rfl⟩,⟨rfl,rfl⟩,trivial⟩
  ·intro v G lE
   refine bG lE fun gD jS=>?_
   clear lE
   refine b0 jS fun JZ ys a b e ix=>?_
   subst gD
   subst ix
   have q:=q JZ ys a b e
   unfold om at q
   rw[←lx (f:=fr [1,3,5,20,21] (om ns bx js xs ds ch dep deep T).length),←cC (f:=fr [1,3,5,20,21] (om ns bx js xs ds ch dep deep T).length) (xs:=ys)] at q
   exact q
 ·refine WC.frame [2,4,6,20,21] (H₀:=SH 200 "fhz" 77 gT ds ch dep deep []) (.of rfl (by decide) ?_) (as₀:=[.obj 4,.obj 0]) rfl rfl
   (Q₀:=fun v G=>v=.obj 5∧∃ds xs,kr ds∧bK xs∧xs.length≤60∧G=SH 200 "fhz" 77 gT ds ch dep deep [aZ xs]) (X₀:=fun _=>False)
   (wZ F (.inr rfl) (codes:=[102,104,122]) (by decide +kernel) (by decide +kernel) pF fun ds xs a b e=>⟨rfl,ds,xs,a,b,e,rfl⟩) ?_ fun _ h=>h.elim
  ·exact⟨⟨rfl,rfl⟩,⟨rfl,rfl⟩,⟨rfl,rfl⟩,⟨fB,by rw[lx];rfl⟩,⟨rfl,rfl⟩,trivial⟩
  ·intro v G mr
   refine bG mr fun jW nr=>?_
   clear mr
   refine b0 nr fun JZ ys a b e jY=>?_
   subst jW
   subst jY
   have q:=q JZ ys a b e
   unfold om at q
   rw[←lx (f:=fr [2,4,6,20,21] (om ns bx js xs ds ch dep deep T).length),←cC (f:=fr [2,4,6,20,21] (om ns bx js xs ds ch dep deep T).length) (xs:=ys)] at q
   exact q
theorem JQ (F:eW c){room:Nat}{ri x y:Int}(tK:ri=room) (hr:1≤room∧room≤4) (hn:n=1∨n=2) (q:∀ys,bK ys→ys.length≤40→Q (.obj (T.length+7)) (FL T++[aZ ys])):WC c (d+2) (.ref 486) [.obj n,.int ri,.tup [.int x,.int y]] (FL T) Q X:=by
 subst tK
 rcases hn with rfl | rfl
 ·refine WC.frame [1,3,5] (H₀:=F3 3 "fc" 0 tg []) (.of rfl (by decide) ?_) (as₀:=[.obj 0,.int room,.tup [.int x,.int y]]) rfl rfl (Q₀:=fun v G=>v=.obj 3∧∃xs,bK xs∧xs.length≤40∧G=F3 3 "fc" 0 tg [aZ xs]) (X₀:=fun _=>False)
   (Bd F (.inl rfl) hr (codes:=[102,99]) (by decide +kernel) (by decide +kernel) fun xs o l=>⟨rfl,xs,o,l,rfl⟩) ?_ fun _ h=>h.elim
  ·exact⟨⟨rfl,rfl⟩,⟨rfl,rfl⟩,⟨rfl,rfl⟩,trivial⟩
  ·intro v G nT
   refine bG nT fun mU tM=>?_
   clear nT
   refine aL tM fun ys o l nF=>?_
   subst mU
   subst nF
   have q:=q ys o l
   rw[←cC (f:=fr [1,3,5] (FL T).length) (xs:=ys)] at q
   exact q
 ·refine WC.frame [2,4,6] (H₀:=F3 200 "fhz" 77 gT []) (.of rfl (by decide) ?_) (as₀:=[.obj 0,.int room,.tup [.int x,.int y]]) rfl rfl (Q₀:=fun v G=>v=.obj 3∧∃xs,bK xs∧xs.length≤40∧G=F3 200 "fhz" 77 gT [aZ xs]) (X₀:=fun _=>False)
   (Bd F (.inr rfl) hr (codes:=[102,104,122]) (by decide +kernel) (by decide +kernel) fun xs o l=>⟨rfl,xs,o,l,rfl⟩) ?_ fun _ h=>h.elim
  ·exact⟨⟨rfl,rfl⟩,⟨rfl,rfl⟩,⟨rfl,rfl⟩,trivial⟩
  ·intro v G pU
   refine bG pU fun lh vL=>?_
   clear pU
   refine aL vL fun ys o l j3=>?_
   subst lh
   subst j3
   have q:=q ys o l
   rw[←cC (f:=fr [2,4,6] (FL T).length) (xs:=ys)] at q
   exact q
theorem JU (F:eW c){a k r:Int}(pF:kr ds) (i4:wy u ch dep deep) (hb:kz t a k r) (ht:t≤50000) (hu:u≤60)
  (q:∀ds ch dep deep b ys,kr ds→wy (u+20) ch dep deep→bK ys→ys.length≤3000→Q (.obj ((T++[aZ [a,k,r]]).length+22)) (om ns bx js xs ds ch dep deep (T++[aZ b])++[aZ ys])) :
  WC c (d+5) (.ref 519) [.obj (T.length+22),.obj 21,.obj 0,.int last] (om ns bx js xs ds ch dep deep (T++[aZ [a,k,r]])) Q X:=by
 refine WC.frame [0,1,2,3,4,5,6,20,21,T.length+22] (H₀:=BW.H ⟨ds,ch,dep,deep,a,k,r⟩ []) (.of rfl ?_ ?_) (as₀:=[.obj 9,.obj 8,.obj 0,.int last]) rfl rfl
  (Q₀:=fun v G=>v=.obj 10∧∃(w:BW) (xs:List Int),w.Ok (t+100) (u+20)∧bK xs∧xs.length≤3000∧G=w.H [aZ xs]) (X₀:=fun _=>False)
  (PL F ⟨pF,i4,hb⟩ ht hu fun w xs h o l=>⟨rfl,w,xs,h,o,l,rfl⟩) ?_ fun _ h=>h.elim
 ·simp
 ·exact⟨⟨rfl,rfl⟩,⟨rfl,rfl⟩,⟨rfl,rfl⟩,⟨rfl,rfl⟩,⟨rfl,rfl⟩,⟨rfl,rfl⟩,⟨rfl,rfl⟩,⟨fB,by rw[lx];rfl⟩,⟨rfl,rfl⟩,⟨rfl,At.last rfl⟩,trivial⟩
 ·intro v G wa
  refine bG wa fun se sL=>?_
  clear wa
  refine b0 sL fun mh ys hw o hl qI=>?_
  subst se
  obtain⟨JZ,ch',Zr,UK,a',k',r'⟩:=mh
  subst qI
  have q:=q JZ ch' Zr UK [a',k',r'] ys hw.d hw.s o hl
  have e:∀f,T++[aZ [a',k',r']]=(T++[aZ [a,k,r]]).set T.length (iw f (aZ [a',k',r'])):=fun f=>by
   rw[cC,Cr _ _ (aA _),gZ];rfl
  unfold om at q
  rw[e (fr [0,1,2,3,4,5,6,20,21,T.length+22] (om ns bx js xs ds ch dep deep (T++[aZ [a,k,r]])).length),←lx (f:=fr [0,1,2,3,4,5,6,20,21,T.length+22] (om ns bx js xs ds ch dep deep (T++[aZ [a,k,r]])).length),
   ←cC (f:=fr [0,1,2,3,4,5,6,20,21,T.length+22] (om ns bx js xs ds ch dep deep (T++[aZ [a,k,r]])).length) (xs:=ys)] at q
  exact q
end
end
section
open PySem PySem.W PySem.Calls PyProof.Rows
section
variable {c:Cx}{d m kp:Nat}{A:aU}{env:dH}{l:Loc}{H:List ag}{SQ:QT}{X:List ag→Prop}{ns:List (bu×bc)}{scope:nQ}{x y:bu}{pos uw px py:ij}{pq iter:Expr}
theorem iA.eta (E:iA env ns):env={ env with scope:={ env.scope with kind:=.function,names:=ns } }:=by
 obtain⟨sc,b,g,h,cd,fm⟩:=env
 obtain⟨⟨nm,_⟩,kd,_⟩:=E
 dsimp only at nm kd
 subst nm
 obtain⟨k,n,g1,g2⟩:=sc
 dsimp only at kd
 subst kd
 rfl
theorem VX.aj (F:eW c) (is:List Nat) (E:iA env ns) (kp i:Nat) (hk:scope.kind=.function) (hb:rJ ns scope.names x=true) (hs:qC iter=true)
  (Yo:lD (.ListComp pq [⟨.Name x px,iter,[],0⟩] scope pos) (some (.Name y py)) uw.line { env with scope:={ env.scope with kind:=.function,names:=ns } }=pure true) (hn:ns[i]?=some (y,.local)) (hi:i<l.length)
  (w:vh ⟨ns,ip is,FT,MT⟩ (vE ⟨c,d,A,env,X⟩ ⟨ns,ip is,FT,MT⟩ 40) (vA ⟨c,d,A,env,X⟩ ⟨ns,ip is,FT,MT⟩ 40) l H kp iter fun xs gC H1=>∃J:Nat→List AV→List ag→Prop,J 0 [] (H1++[.list []]) ∧
   (∀(i:Nat) (acc:List AV) (H':List ag),J i acc H'→gC H'∧H'[H1.length]?=some (.list acc)∧acc.length≤1000000) ∧
   (∀(cenv:dH) (i:Nat) (v:AV) (acc:List AV) (H':List ag),xs[i]?=some v→J i acc H'→vE ⟨c,d,A,cenv,X⟩ ⟨mO ns scope.names,ip is,FT,MT⟩ 40 pq ((pj ns l scope.names).set 1 (some v)) H' fun a H3=>
    H3[H1.length]?=some (.list acc)∧acc.length≤1000000∧J (i+1) (acc++[a]) (H3.set H1.length (.list (acc++[a])))) ∧
   ∀(acc:List AV) (H':List ag),J xs.length acc H'→SQ .next (l.set i (some (.obj H1.length))) H'):VX c d m A env (.Assign [.Name y py] (.ListComp pq [⟨.Name x px,iter,[],0⟩] scope pos) uw) l H SQ X:=by
 have ok:nZ ⟨c,d,A,env,X⟩ ⟨ns,ip is,FT,MT⟩:=⟨F.ok E.toNmEnv,E⟩
 refine VX.of (WX.KH (kp:=kp) (rm E hk hb) (fun x=>kS hs x) (by rw[E.eta];exact Yo) i (by rw[E.nm];exact hn) hi ((mI ok (nV ok.toVOk 40) w).mo fun xs gC H1 h=>?_))
 refine fG h fun J h1 h2 h3 q=>?_
 clear h
 refine⟨J,h1,h2,fun cenv i v acc H' hn hv j=>A7.nil ?_,q⟩
 rw[if_pos rfl]
 exact(nV (z:=⟨c,d,A,cenv,X⟩) (F.ok (nv E hb hn)) 40).E (h3 cenv i v acc H' hv j)
end
noncomputable def ZK (k:Nat):List Nat:=[0,1,2,3,4,5,6,7,8,9,10,11,12,13,14,15,16,17,18,k,20,21]
section
variable {c:Cx}{d n m t u:Nat}{H T A G P:List ag}{Q QR:AV→List ag→Prop}{SQ:QT}{X:List ag→Prop}{op:Nat}{one two:Int}{f:ai}{as:List AV}{l:Loc}{w:BW}{xs ns bx:List Int}{j:Nat}{last JL dk ck ch dep deep:Int}{nm:bu}{ws:List (Int×Int)}{ds:lr}{js:Nat→List Int}
theorem dU.bb (k:Nat) (XA:List Int) (e:H=om ns bx js xs ds ch dep deep T) (h22:22≤k) (hk:H[k]?=some (aZ XA)) (l₁:Loc) (hs:u7 22 ((ZK k).getD · 0) l₁ l)
  (q:SQ .next l₁ (om ns bx js XA ds ch dep deep [])):dU 8 SQ .next l H:=by
 subst e
 exact .inr ⟨ZK k,l₁,om ns bx js XA ds ch dep deep [],B4 rfl,.of rfl (En (l:=bh 22) (i:=19) (by decide) fun x hx=>aV (de.mp hx) h22)
  ⟨⟨rfl,rfl⟩,⟨rfl,rfl⟩,⟨rfl,rfl⟩,⟨rfl,rfl⟩,⟨rfl,rfl⟩,⟨rfl,rfl⟩,⟨rfl,rfl⟩,Bk,Bk,Bk,Bk,Bk,Bk,Bk,Bk,Bk,Bk,Bk,Bk,⟨fC,by rw[cC];exact hk⟩,⟨fB,by rw[lx];rfl⟩,⟨rfl,rfl⟩,trivial⟩,wm.of (τ:=ZK k) hs,q⟩
theorem WV.MH {B:aU}{env:dH}(q:∀k:Int,k=1048576→Q (.int k) H):WV c d B env (fun vs=>fb .Pow (vs[0]?.getD .none) (vs[1]?.getD .none)) [.int 2,.int 20] l H Q X:=
 WV.BS (i:=2) (n:=20) (by decide) (by decide +kernel) (q _ (by decide +kernel))
theorem ug (F:eW c){a k r hV:Int}(hb:kz t a k r) (ht:t≤100000) (hm:0<hV) (Yt:hV<1073741824)
  (q:∀v a k r,0≤v→v<hV→kz (t+1) a k r→Q (.int v) (om ns [a,k,r] js xs ds ch dep deep T)):WC c (d+1) (.ref 476) [.obj 8,.int hV] (om ns [a,k,r] js xs ds ch dep deep T) Q X:=
 fW F (n:=8) rfl hb ht hm Yt q
theorem uK (F:eW c){v:Int}{room:Nat}{ri:Int}(tK:ri=room) (hr:room≤100) (q:∀ys,bK ys→ys.length=room→Q (.obj (T.length+22)) (om ns bx js xs ds ch dep deep (T++[aZ ys]))) :
  WC c (d+1) (.ref 481) [.int v,.int ri] (om ns bx js xs ds ch dep deep T) Q X:=ki F tK hr q
theorem LM (F:eW c){room:Nat}{ri x y:Int}(tK:ri=room) (hr:1≤room∧room≤4) (hn:n=1∨n=2) (q:∀ys,bK ys→ys.length≤40→Q (.obj (T.length+22)) (om ns bx js xs ds ch dep deep (T++[aZ ys]))) :
  WC c (d+2) (.ref 486) [.obj n,.int ri,.tup [.int x,.int y]] (om ns bx js xs ds ch dep deep T) Q X:=JQ F tK hr hn q
theorem xf {vs:List AV}:listAt (om ns bx js xs ds ch dep deep (T++[.list vs])) (T.length+22)=some vs:=kU (show(om ns bx js xs ds ch dep deep (T++[.list vs]))[T.length+22]?=some (.list vs) from At.last rfl)
theorem A9 {vs:List AV}{x:ag}(h:listAt (om ns bx js xs ds ch dep deep T) j=some vs):listAt (om ns bx js xs ds ch dep deep (T++[x])) j=some vs:=cP (G:=[x]) h
theorem ve {n m:Nat}{x:ag}(h:m≠n):listAt (H.set m x) n=listAt H n:=congrArg (jn · CQ) (cN h)
noncomputable def OL (vs:List AV) (n:Nat):Prop:=∃xs:List Int,vs=xs.map .int∧bK xs∧xs.length≤n
theorem OL.of {xs:List Int}{n:Nat}(o:bK xs) (h:xs.length≤n):OL (xs.map .int) n:=⟨xs,rfl,o,h⟩
theorem OL.Kn {x:Int}(h:0≤x∧x<256):OL [.int x] 1:=⟨[x],rfl,bK.cons h bK.nil,aA _⟩
theorem OL.app {a b:List AV}{n m:Nat}(h:OL a n) (h':OL b m):OL (a++b) (n+m):=by
 refine aL h fun xs jW o l=>?_
 clear h
 subst jW
 refine aL h' fun ys jY o' l'=>?_
 clear h'
 subst jY
 exact⟨xs++ys,aF.symm,o.app o',by rw[ah];exact aW [_,_,_,_] [] [.L aB aM,.L cf fz] (.L (.a aB cf) (.a aM fz)) uc rfl l l'⟩
theorem OL.add {a b:List AV}{n m:Nat}(h:OL a n) (h':OL b m) (hk:n+m≤1000000):a.length+b.length≤1000000:=by
 refine aL h fun xs nr o l=>?_
 clear h
 subst nr
 refine aL h' fun ys mU o' l'=>?_
 clear h'
 subst mU
 rw[aa,aa];exact aW [_,_,_,_] [] [.L (.a aB aM) jg,.L cf aB,.L fz aM] (.L (.a cf fz) jg) tJ rfl hk l l'
theorem OL.le {a:List AV}{n m:Nat}(h:OL a n) (h':n≤m):OL a m:=by
 refine aL h fun xs e o l=>?_
 clear h
 exact⟨xs,e,o,az l h'⟩
noncomputable def u6:List eF:=match ((iI (df 63))[4]?:Option eF) with
 |some (eF.For _ _ b _ _)=>b.drop 1
 |_=>[]
inductive BCm (ns x1 x2 x3 sc:List Int) (i:Nat) (acc:List AV):List ag→Prop
 |mk (a k r:Int) (ys:List Int) (hb:kz (2+i) a k r) (e:acc=ys.map .int) (o:bK ys) (hl:ys.length=i) (hi:i≤2) :
  BCm ns x1 x2 x3 sc i acc (FL [aZ ns,aZ [a,k,r],aZ x1,aZ x2,aZ (x1++x2),aZ x3,aZ sc,.list acc])
inductive BPg (ns:List Int) (js:Nat→List Int) (ca:Int) (i:Nat):Loc→List ag→Prop
 |mk (a k r:Int) (xs:List Int) (ds:lr) (ch dep deep last:Int) (p4 Gp:Option AV) (hb:kz (10+i) a k r) (pF:kr ds) (i4:wy (20*i) ch dep deep) (o:bK xs) (h0:0<xs.length) (hl:xs.length≤17+3100*i) :
  BPg ns js ca i [some (.obj 7),some (.obj 0),some (.obj 8),some (.obj 13),p4,some (.obj 14),some (.obj 19),some (.int last),some (.obj 21),some (.int ca),Gp,none,none,none] (om ns [a,k,r] js xs ds ch dep deep [])
inductive BTn (ns:List Int) (js:Nat→List Int) (a k r last ca ch dep deep:Int) (Gp:Option AV) (i:Nat):Loc→List ag→Prop
 |mk (ds:lr) (xs x0:List Int) (T:List ag) (j:Nat) (hj:∀ds ch dep deep,listAt (om ns [a,k,r] js x0 ds ch dep deep T) j=some (xs.map .int)) (pF:kr ds) (o:bK xs) (h0:0<xs.length) (hl:xs.length≤17+3100*i+60) :
  BTn ns js a k r last ca ch dep deep Gp i [some (.obj 7),some (.obj 0),some (.obj 8),some (.obj 13),some (.int (0+(i:Int))),some (.obj 14),some (.obj j),some (.int last),some (.obj 21),some (.int ca),Gp,none,none,none] (om ns [a,k,r] js x0 ds ch dep deep T)
inductive BFn (ns:List Int) (js:Nat→List Int) (xs:List Int) (ds:lr) (ch dep deep last ca:Int) (p4 Gp:Option AV) (i:Nat):Loc→List ag→Prop
 |mk (a k r:Int) (vs:List AV) (T:List ag) (j:Nat) (VP:Option AV) (Qu:T[13]?=some (.list [.obj 2,.obj 1])) (hj:∀bx,listAt (om ns bx js xs ds ch dep deep T) j=some vs) (hb:kz (20+i) a k r) (ho:OL vs (6246+40*i)) :
  BFn ns js xs ds ch dep deep last ca p4 Gp i [some (.obj 7),some (.obj 0),some (.obj 8),some (.obj 13),p4,some (.obj 14),some (.obj j),some (.int last),some (.obj 21),some (.int ca),Gp,some (.int xs.length),some (.obj 24),VP] (om ns [a,k,r] js xs ds ch dep deep T)
theorem K6 (F:eW c) (hz:ns.length≤4) (q:∀xs T,bK xs→0<xs.length→xs.length≤8000→∀n,8≤n→(FL (aZ ns::T))[n]?=some (aZ xs)→Q (.obj n) (FL (aZ ns::T))):WC c (d+6) (.ref 531) [.obj 7,.obj 0] (FL [aZ ns]) Q X:=by
 refine WC.v F rfl rfl fun A env E=>?_
 refine A3 F (by rfl) hz (by decide) fun a k r hb=>?_
 refine ki F (room:=4) rfl (by decide) fun x1 o1 l1=>?_
 refine ki F (room:=4) rfl (by decide) fun x2 o2 l2=>?_
 refine⟨by rw[aa,aa,l1,l2];decide,?_⟩
 rw[oY]
 refine fW F (by rfl) hb (by exact(by decide)) (by decide) (by decide) fun v a k r y1 y2 hb=>?_
 refine ki F (room:=4) rfl (by decide) fun x3 o3 l3=>?_
 refine⟨by rw[aa,aa,ah,l1,l2,l3];decide,?_⟩
 rw[oY]
 have xk:bK (x1++x2++x3):=(o1.app o2).app o3
 have Kr:(x1++x2++x3).length=12:=by rw[ah,ah,l1,l2,l3]
 generalize x1++x2++x3=sc at *
 refine VX.aj F [65,67,66,106,92,74,73,68] E 8 5 (by rfl) (by decide +kernel) (by rfl) (by rfl) (by rfl) (by exact(by decide:5<14)) ?_
 refine⟨rfl,?_⟩
 refine fW F (by rfl) hb (by exact(by decide)) (by decide) (by decide) fun hV a k r z1 z2 hb=>?_
 refine⟨⟨by exact aW [] [_] [.l dE bJ] (.l (.n tL) bJ) cI rfl z1,by exact aW [] [_] [.t bJ pM] (.t bJ tL) cI rfl z2⟩,?_⟩
 refine⟨BCm ns x1 x2 x3 sc,⟨_,_,_,[],hb,rfl,bK.nil,rfl,by decide⟩,?_,?_,?_⟩
 ·rintro i acc H ⟨a,k,r,ys,hb,rfl,o,hl,VR⟩
  exact⟨trivial,rfl,by rw[aa];exact oS hl (b9 VR rfl)⟩
 ·rintro cenv i x acc H hx ⟨a,k,r,ys,hb,rfl,o,hl,VR⟩
  have hi:=(fy hx).1
  refine fW F (by rfl) hb (by exact aW [_] [] [.L aB jN] (.L (.a jN aB) r7) cI rfl VR) (by decide) (by decide) fun v a k r z1 z2 hb=>?_
  refine⟨rfl,by rw[aa];exact oS hl (b9 VR rfl),_,_,_,ys++[v],hb,by rw[aF];rfl,o.app (bK.cons ⟨z1,z2⟩ bK.nil),by rw[ah,hl];rfl,Uk hi ‹hV<3›⟩
 ·rintro acc H ⟨a,k,r,cm,hb,rfl,ocm,Om,_⟩
  rw[fA] at Om hb
  have Om:cm.length≤2:=by exact aW [_,_] [_] [.t bJ pM,.E aB aM,.ft aM (.s bJ dE)] (.L aB jN) (.o (.k [1,0,1,0,1,0,1]) jM) rfl z2 Om (kL _)
  have hb:=hb.le (show 2+(hV-0).toNat≤4 by exact aW [_] [_] [.t bJ pM,.ft aB (.s bJ dE)] (.L (.a jN aB) iE) (.o jM cM) rfl z2 (kL _))
  have en:∀xs:List Int,xs.length≤100→2+xs.length≤1000000:=fun xs h=>by exact aW [_] [] [.L aB (.l 100)] (.L (.a jN aB) jg) cI rfl h
  refine⟨by rw[aa];exact en sc (by exact n8 Kr rfl),?_⟩
  refine⟨by rw[aa];exact b9 Om rfl,?_⟩
  rw[aa]
  refine⟨by rw[ah,aa];exact(show 2+_+1≤1000000 by exact aW [_] [] [.E aB (.l 12)] (.L (.a (.a jN aB) bP) jg) cI rfl Kr),?_⟩
  rw[show[AV.int 247,.int 2]++sc.map .int++[.int (cm.length:Nat)]=([247,2]++sc++[(cm.length:Int)]).map .int by rw[aF];rfl]
  have hf0:bK ([247,2]++sc++[(cm.length:Int)]):=((bK.cons (by decide) (bK.cons (by decide) bK.nil)).app xk).app (bK.cons (by exact aW [_] [] [.L aB jN] (.A (.l dE aB) (.t aB (.l 256))) (.o ni cI) rfl Om) bK.nil)
  have VM:([247,2]++sc++[(cm.length:Int)]).length=15:=by rw[ah,ah,Kr];rfl
  refine⟨by rw[aa,aa,VM];exact aW [_] [] [.L aB jN] (.L (.a (.l 15) aB) jg) cI rfl Om,?_⟩
  rw[oY]
  refine fW F (by rfl) hb (by exact(by decide)) (by decide) (by decide) fun ca a k r z3 z4 hb=>?_
  refine⟨8,aA _,rfl,⟨⟨by exact aW [] [_] [.l dE bJ] (.l (.n tL) bJ) cI rfl z3,by exact aW [] [_] [.t bJ pM] (.t bJ tL) cI rfl z4⟩,?_⟩⟩
  have hf1:bK ([247,2]++sc++[(cm.length:Int)]++cm):=hf0.app ocm
  have Vq:0<([247,2]++sc++[(cm.length:Int)]++cm).length∧([247,2]++sc++[(cm.length:Int)]++cm).length≤17:=by rw[ah,VM];exact aW [_] [] [.L aB jN] (.A (.T dE (.a (.l 15) aB)) (.L (.a (.l 15) aB) (.l 17))) (.o ni cI) rfl Om
  obtain⟨js,hjs⟩:∃js:Nat→List Int,js=fun i=>[x1,x2,x1++x2,x3,sc,cm,[247,2],[247,2]++sc,[(cm.length:Int)],[247,2]++sc++[(cm.length:Int)]].getD (i-9) []:=⟨_,rfl⟩
  have VD:js 13=sc:=by subst hjs;rfl
  refine⟨BPg ns js ca,by rw[hjs];exact⟨a,k,r,[247,2]++sc++[(cm.length:Int)]++cm,[],0,0,0,-1,none,none,hb.le (by exact(by decide)),kr.nil,⟨.inl rfl,dQ _,dQ _,dQ _,dQ _⟩,hf1,Vq.1,by exact Vq.2⟩,fun _ _ _ _ _=>trivial,?_,?_⟩
  ·rintro i x l H hx ⟨a,k,r,xs,ds,ch,dep,deep,last,p4,Gp,hb,pF,i4,o,IK,hl⟩
   refine bG (fy hx) fun hi nF=>?_
   subst nF
   have hi:i<2:=by exact aW [_,_] [_] [.t bJ pM,.T aB aM,.ft aM (.s bJ dE)] (.T aB jN) (.o rh jM) rfl z4 hi (kL _)
   refine fW F (by rfl) hb (by exact aW [_] [] [.T aB jN] (.L (.a (.l 10) aB) r7) cI rfl hi) (by decide) (by decide) fun z a k r z5 z6 hb=>?_
   apply HZ (ss:=u6) (BTn ns js a k r last ca ch dep deep Gp i)
   case w=>
    intro key
    refine⟨fun h0=>?_,fun h0=>?_⟩
    ·obtain⟨fn,WJ,ZY⟩:∃n,(n=1∨n=2)∧[AV.obj 1,.obj 2][(0+(i:Int)).toNat]?=some (.obj n):=by
      rcases(show i=0∨i=1 by exact aW [_] [] [.T aB jN] (.O (.E aB dE) (.E aB bP)) (.o (.o xM cI) (.o cI cM)) rfl hi) with h | h
      ·exact⟨1,.inl rfl,by rw[h];rfl⟩
      ·exact⟨2,.inr rfl,by rw[h];rfl⟩
     refine⟨⟨by exact aW [_] [] [] (.l dE (.a dE aB)) ni rfl,by exact aW [_] [] [.T aB jN] (.t (.a dE aB) DS) cI rfl hi⟩,_,ZY,?_⟩
     refine A0 F (T:=[]) WJ pF fun ds ys pF o2 yM=>?_
     refine⟨by rw[aa,aa];exact aW [_,_,_] [] [.L aB (.a (.l 17) (.m 3100 aM)),.T aM jN,.L cf (.l 60)] (.L (.a aB cf) jg) (.k [1,1,3100,1]) rfl hl hi yM,?_⟩
     rw[oY]
     refine kJ (?_:vS _ _ _ _ u6 _ _ _)
     exact key _ _ ⟨ds,xs++ys,xs,[aZ ys,aZ (xs++ys)],23,fun _ _ _ _=>rfl,pF,o.app o2,by rw[ah];exact aV IK (bC _ _),by rw[ah];exact aW [_,_,_] [] [.L aB (.a (.l 17) (.m 3100 aM)),.L cf (.l 60)] (.L (.a aB cf) (.a (.a (.l 17) (.m 3100 aM)) (.l 60))) uc rfl hl yM⟩
    ·refine kJ (?_:vS _ _ _ _ u6 _ _ _)
     exact key _ _ ⟨ds,xs,xs,[],19,fun _ _ _ _=>rfl,pF,o,IK,by exact az hl (lM 60 rfl)⟩
   case k=>
    rintro l H ⟨ds,xs,x0,T,j,hj,pF,o,IK,hl⟩
    refine A3 F (n:=7) (by rfl) hz (by exact aW [_] [] [.T aB jN] (.A (.l dE (.a bP (.a dE aB))) (.l (.a bP (.a dE aB)) (.l 10))) (.o ni cI) rfl hi) fun a' k' r' nW=>?_
    refine JU F (T:=T) pF i4 nW (by exact(by decide)) (by exact aW [_] [] [.T aB jN] (.L (.m 20 aB) (.l 60)) (.k [1,20]) rfl hi) fun ds ch dep deep b ys pF i4 o2 yM=>?_
    have Xj:listAt (om ns [a,k,r] js x0 ds ch dep deep (T++[aZ b])++[aZ ys]) j=some (xs.map .int):=cP (cP (G:=[aZ b]) (hj ds ch dep deep))
    have hy:listAt (om ns [a,k,r] js x0 ds ch dep deep (T++[aZ b])++[aZ ys]) ((T++[aZ [a',k',r']]).length+22)=some (ys.map .int):=by
     rw[show(T++[aZ [a',k',r']]).length+22=(om ns [a,k,r] js x0 ds ch dep deep (T++[aZ b])).length by
      show _=(T++[aZ b]).length+22
      rw[ah,ah];rfl]
     exact bI
    conv=>whnf
    rw[xa Xj]
    conv=>whnf
    rw[Xj]
    refine⟨by rw[aa];exact aW [_,_] [] [.T aB jN,.L aM (.a (.a (.l 17) (.m 3100 aB)) (.l 60))] (.L aM jg) (.k [1,1,3100]) rfl hi hl,?_⟩
    conv=>whnf
    rw[Xj,hy]
    refine⟨by rw[aa,aa];exact aW [_,_,_] [] [.T aB jN,.L aM (.a (.a (.l 17) (.m 3100 aB)) (.l 60)),.L cf (.l 3000)] (.L (.a aM cf) jg) (.k [1,1,1,3100]) rfl hi hl yM,?_⟩
    rw[aa]
    refine dU.bb (js:=js) _ (xs++ys) (by rfl) ?_ ((At.last rfl).trans (congrArg some (iJ aF.symm))) [some (.obj 7),some (.obj 0),some (.obj 8),some (.obj 13),none,some (.obj 14),some (.obj 19),some (.int xs.length),some (.obj 21),some (.int ca),none,none,none,none] ?_ ?_
    ·exact ay 22 _
    ·exact⟨⟨rfl,rfl⟩,⟨rfl,rfl⟩,⟨rfl,rfl⟩,⟨rfl,rfl⟩,⟨rfl,rfl⟩,⟨rfl,rfl⟩,⟨rfl,rfl⟩,⟨rfl,rfl⟩,⟨rfl,rfl⟩,trivial⟩
    ·exact⟨_,_,_,xs++ys,ds,ch,dep,deep,_,_,_,hb.le (by exact lM 0 rfl),pF,i4,o.app o2,by rw[ah];exact aV IK (bC _ _),by rw[ah];exact aW [_,_,_] [] [.L aB (.a (.a (.l 17) (.m 3100 aM)) (.l 60)),.L cf (.l 3000)] (.L (.a aB cf) (.a (.l 17) (.m 3100 (.a aM bP)))) uc rfl hl yM⟩
  ·rintro l H ⟨a,k,r,xs,ds,ch,dep,deep,last,p4,Gp,hb,pF,i4,o,IK,hl⟩
   rw[fA] at hb i4 hl
   have hp:(ca-0).toNat≤2:=by exact aW [_] [_] [.t bJ pM,.ft aB (.s bJ dE)] (.L aB jN) (.o jM cM) rfl z4 (kL _)
   have hb:=hb.le (show 10+(ca-0).toNat≤12 by exact aW [_] [] [.L aB jN] (.L (.a (.l 10) aB) (.l 12)) cI rfl hp)
   have hl:xs.length≤6217:=by exact aW [_,_] [] [.L aB (.a (.l 17) (.m 3100 aM)),.L aM jN] (.L aB (.l 6217)) (.k [1,3100,1]) rfl hl hp
   refine⟨by rw[aa];exact b9 hl rfl,?_⟩
   rw[aa]
   refine WV.MH fun k20 Gl=>?_
   refine ug F (js:=js) hb (by exact(by decide)) (by exact aW [] [_] [.e bJ (.l 1048576)] (.t dE bJ) cM rfl Gl) (by exact aW [] [_] [.e bJ (.l 1048576)] (.t bJ (.l 1073741824)) cI rfl Gl) fun v1 a k r _ _ hb=>?_
   refine uK F (js:=js) (room:=4) rfl (by decide) fun y1 o1 l1=>?_
   refine WV.MH fun k20 Gl=>?_
   refine ug F (js:=js) hb (by exact(by decide)) (by exact aW [] [_] [.e bJ (.l 1048576)] (.t dE bJ) cM rfl Gl) (by exact aW [] [_] [.e bJ (.l 1048576)] (.t bJ (.l 1073741824)) cI rfl Gl) fun v1 a k r _ _ hb=>?_
   refine uK F (js:=js) (room:=4) rfl (by decide) fun y2 o2 l2=>?_
   refine⟨by rw[aa,aa,l1,l2];decide,?_⟩
   have h0:OL (xs.map .int) 6217:=.of o hl
   have hz:OL (y1.map .int++y2.map .int) 8:=(OL.of o1 (bF l1)).app (.of o2 (bF l2))
   have h1:=h0.app (.Kn (show(0:Int)≤248∧(248:Int)<256 by decide))
   have hs:=OL.of (xs:=js 13) (n:=12) (by rw[VD];exact xk) (by rw[VD];exact bF Kr)
   refine⟨h0.add (.Kn (show(0:Int)≤248∧(248:Int)<256 by decide)) (by decide),?_⟩
   refine uK F (js:=js) (room:=4) rfl (by decide) fun y3 o3 l3=>?_
   have h3:=OL.of o3 (bF l3)
   refine⟨h1.add h3 (by decide),⟨(h1.app h3).add hs (by decide),⟨((h1.app h3).app hs).add hz (by decide),?_⟩⟩⟩
   have h2:=((h1.app h3).app hs).app hz
   refine⟨by decide,_,rfl,?_⟩
   refine ug F (js:=js) hb (by exact(by decide)) (by decide) (by decide) fun v1 a k r _ _ hb=>?_
   refine uK F (js:=js) (room:=2) rfl (by decide) fun y4 o4 l4=>?_
   have h4:=OL.of o4 (bF l4)
   refine⟨h2.add h4 (by decide),?_⟩
   refine uK F (js:=js) (room:=2) rfl (by decide) fun y5 o5 l5=>?_
   have h5:=OL.of o5 (bF l5)
   refine⟨(h2.app h4).add h5 (by decide),?_⟩
   have h6:=(h2.app h4).app h5
   refine⟨36,by exact(by decide:8≤36),?_⟩
   refine WE.Xn (p2:=⟨0,0,0,0⟩) ((nV (z:=⟨c,d+5,A,env,X⟩) (g:=gx (df 63) [65,67,66,106,92,74,73,68]) (F.ok E.toNmEnv) 40).E ?_)
   refine⟨0,_,rfl,rfl,by decide,?_⟩
   refine⟨BFn ns js xs ds ch dep deep last ca p4 Gp,⟨a,k,r,_,_,34,none,rfl,fun _=>rfl,hb.le (by exact(by decide)),h6⟩,fun i l H _ h=>by obtain⟨a,k,r,vs,T,j,VP,Qu,_⟩:=h;exact Qu,?_,?_⟩
   ·rintro i x l H hx ⟨a,k,r,vs,T,j,VP,Qu,hj,hb,ho⟩
    obtain⟨n,dk,rfl,hn,hi⟩:∃(n:Nat) (dk:Int),x=.obj n∧(n=2∧dk=200∨n=1∧dk=3)∧i<2:=by
     rcases i with _ | _ | i
     ·replace hx:=ae hx;subst hx;exact⟨2,200,rfl,.inl ⟨rfl,rfl⟩,by decide⟩
     ·replace hx:=ae hx;subst hx;exact⟨1,3,rfl,.inr ⟨rfl,rfl⟩,by decide⟩
     ·exact nS hx
    have Ra:n=1∨n=2:=by exact aW [_] [_] [.O (.A (.E aB jN) (.e bJ (.l 200))) (.A (.E aB bP) (.e bJ pM))] (.O (.E aB bP) (.E aB jN)) (.o (.o (.o (.k [0,1,0,0,0,1]) cI) (.o cI (.k [1,0,0,0,1]))) (.o (.o (.k [0,1,0,0,0,1]) cI) (.o cI (.k [1,0,0,0,1])))) rfl hn
    rcases hn with⟨rfl,rfl⟩ | ⟨rfl,rfl⟩
    all_goals
     refine⟨by decide,_,rfl,?_⟩
     conv=>whnf
     rw[hO,dg]
     cases xp:ds.lookup _ with
     |none=>exact .inl ⟨a,k,r,vs,T,j,_,Qu,hj,hb.le (by exact lM 1 rfl),ho.le (by exact aW [_] [] [] (.L (.a (.l 6246) (.m 40 aB)) (.a (.l 6246) (.m 40 (.a aB bP)))) ni rfl)⟩
     |some v=>
      refine ug F (js:=js) hb (by exact aW [_] [] [.T aB jN] (.L (.a (.l 20) aB) r7) cI rfl hi) (by decide) (by decide) fun v1 a k r w1 w2 hb=>?_
      refine⟨by decide,_,rfl,?_⟩
      refine⟨_,by rw[hO,xp];rfl,?_⟩
      refine LM F (js:=js) (room:=(1+v1).toNat) (tn1 w1) (W3 w1 w2 (by decide)) Ra fun ys o2 yM=>?_
      refine hY (A9 (hj _)) (hY (xf) ⟨ho.add (.of o2 yM) (by exact aW [_] [] [.T aB jN] (.L (.a (.a (.l 6246) (.m 40 aB)) (.l 40)) jg) (.k [1,40]) rfl hi),?_⟩)
      refine .inl ⟨a,k,r,vs++ys.map AV.int,T++[aZ ys]++[ag.list (vs++ys.map AV.int)],(T++[aZ ys]).length+22,_,?_,fun _=>xf,hb.le (by exact lM 0 rfl),(ho.app (.of o2 yM)).le (by exact bF rfl)⟩
      have:=(ao.mp Qu).1
      rw[aC (by rw[ah];exact aV this (bC _ _)),aC this,Qu]
   ·rintro l H ⟨a,k,r,vs,T,j,VP,Qu,hj,hb,ho⟩
    have hb:=hb.le (show 20+[AV.obj 1,.obj 2].reverse.length≤22 by decide)
    have ho:=ho.le (show 6246+40*[AV.obj 1,.obj 2].reverse.length≤6326 by decide)
    have UU:=OL.Kn (show(0:Int)≤249∧(249:Int)<256 by decide)
    have o2:=OL.Kn (show(0:Int)≤2∧(2:Int)<256 by decide)
    refine hY (show listAt (om ns [a,k,r] js xs ds ch dep deep T++[.list [.int 249]]) j=some vs from cP (hj _)) (hY (bI) ⟨ho.add UU (by decide),?_⟩)
    have g1:=ho.app UU
    refine ki F (room:=4) rfl (by decide) fun ys oy ly=>?_
    have gy:=OL.of oy (bF ly)
    refine hY (cP bI) (hY (bI) ⟨g1.add gy (by decide),?_⟩)
    have g2:=g1.app gy
    refine hY (cP bI) (hY (bI) ⟨g2.add o2 (by decide),?_⟩)
    have g3:=g2.app o2
    refine fW F (n:=8) (by rfl) hb (by exact(by decide)) (by decide) (by decide) fun v a k r z7 z8 hb=>?_
    conv=>whnf
    rw[ve,bI]
    rotate_left
    ·exact fun h=>absurd (az (ay 22 _) (bF h.symm)) (show ¬22≤8 by decide)
    refine⟨⟨⟨by exact aW [] [_] [.t bJ iE] (.t (.a iE bJ) tL) cI rfl z8,by exact aW [] [_] [.l dE bJ] (.t (.n tL) (.a iE bJ)) cI rfl z7⟩,by rw[bA,wi];exact aW [_] [_] [.t bJ iE,.ft aB (.a iE bJ)] (.L aB jg) (.o jM cM) rfl z8 (kL _)⟩,?_⟩
    rw[yq]
    have g4:=OL.of (bK.rep (k:=(4+v).toNat) (show(0:Int)≤223∧(223:Int)<256 by decide)) (n:=7) (by rw[eP];exact aW [_] [_] [.t bJ iE,.ft aB (.a iE bJ)] (.L aB (.l 7)) (.o jM cM) rfl z8 (kL _))
    conv=>whnf
    rw[cP ((ve ?_).trans (cP bI)),bI]
    rotate_left
    ·exact fun h=>absurd (az (ay 22 _) (bF h.symm)) (show ¬22≤8 by decide)
    refine⟨g3.add g4 (by decide),?_⟩
    refine aL (g3.app g4) fun zs e oz lz=>?_
    have hz0:0<zs.length:=by
     have:=congrArg m6 e
     simp only[ah,aa,cL,jl] at this
     exact aW [_,_,_,_] [] [.E (.a (.a (.a (.a aB bP) aM) bP) cf) fz] (.T dE fz) cI rfl this
    exact .inl (q zs _ oz hz0 (by exact b9 lz rfl) _ (az (by decide) (ay 22 _)) ((At.last rfl).trans (congrArg some (iJ e))))
end
end
section
open PySem PySem.W PySem.Calls PyProof.Rows
section
variable {c:Cx}{d n m t u:Nat}{H T A G P:List ag}{Q QR:AV→List ag→Prop}{X:List ag→Prop}{l:Loc}{xs ns bx:List Int}{j:Nat}{a k r:Int}
theorem xc {xs:List Int}{k:Nat}:(xs.map AV.int).drop k=(xs.drop k).map .int:=yV.symm
theorem EG {xs:List Int}{k:Nat}:(xs.map AV.int).take k=(xs.take k).map .int:=QQ.symm
theorem bK.sub {xs ys:List Int}(h:bK xs) (hs:∀y∈ys,y∈xs):bK ys:=fun y hy=>h y (hs y hy)
theorem Hw (F:eW c) (hb:kz t a k r) (ht:t≤1000) (o:bK xs) (h0:0<xs.length) (hl:xs.length≤8000) (q:∀(n:Nat) (T:List ag) ys,bK ys→ys.length≤8001→T[n]?=some (aZ ys)→Q (.obj n) T):WC c (d+2) (.ref 538) [.obj 0,.obj 1] [aZ [a,k,r],aZ xs] Q X:=by
 refine WC.v F rfl rfl fun A env E=>?_
 refine fW F (by rfl) hb (by exact b9 ht rfl) (by decide) (by decide) fun Qs a k r y1 y2 hb=>?_
 refine⟨by rw[aa];exact b9 hl rfl,?_⟩
 rw[aa]
 refine fW F (by rfl) hb (by exact di (oH ht rfl)) (by exact aW [_] [] [.T dE aB] (.t dE aB) cI rfl h0) (by exact aW [_] [] [.L aB (.l 8000)] (.t aB (.l 1073741824)) cI rfl hl) fun place a k r y3 y4 hb=>?_
 refine fW F (by rfl) hb (by exact aW [_] [] [.L aB (.l 1000)] (.L (.a (.a aB bP) bP) r7) cI rfl ht) (by decide) (by decide) fun lV a k r y5 y6 hb=>?_
 refine al (cG y3) fun p gD=>?_
 subst gD
 have ot:∀k,bK (xs.take k):=fun k=>o.sub fun y hy=>qt hy
 have od:∀k,bK (xs.drop k):=fun k=>o.sub fun y hy=>kN hy
 have lt:(xs.take p).length=p:=by rw[cg];exact aW [_,_,_] [] [.t aB aM,.fm cf aB aM] (.E cf aB) (.o (.o jf cM) (.o nY vF)) rfl y4 (AJ _ _)
 have ld:(xs.drop p).length≤8000:=by rw[aJ];exact rG hl
 have ld1:(xs.drop (p+1)).length≤8000:=by rw[aJ];exact rG hl
 have It:p+(xs.drop p).length≤8000:=by rw[aJ];exact aW [_,_,_] [] [.L aB (.l 8000),.t aM aB,.fs cf aB aM] (.L (.a aM cf) (.l 8000)) (.o ui rh) rfl hl y4 (eR _ _)
 have zQ:p+1+(xs.drop (p+1)).length≤8000:=by rw[aJ];exact aW [_,_,_] [] [.L aB (.l 8000),.t aM aB,.fs cf aB (.a aM bP)] (.L (.a (.a aM bP) cf) (.l 8000)) (.o ui rh) rfl hl y4 (eR _ _)
 have s1:∀{lo:Int},lo=((p+1:Nat):Int)→lL (some lo) none (xs.map AV.int)=(xs.drop (p+1)).map .int:=fun h=>(gb (p+1) h).trans xc
 have s0:lL (some (p:Int)) none (xs.map AV.int)=(xs.drop p).map .int:=(gb p rfl).trans xc
 have s2:lL none (some (p:Int)) (xs.map AV.int)=(xs.take p).map .int:=(pI p rfl).trans EG
 refine⟨fun h=>.inl (q 1 _ xs o (by exact QY hl) rfl),fun h=>?_⟩
 refine⟨fun h=>?_,fun h=>?_⟩
 ·refine⟨by rw[aa];exact b9 hl rfl,?_⟩
  rw[s2]
  refine⟨by rw[aa,lt];exact(show p+1≤_ by exact aW [_,_] [] [.L (.a aB aM) (.l 8000)] (.L (.a aB bP) jg) cI rfl It),?_⟩
  refine⟨by rw[aa];exact b9 hl rfl,?_⟩
  rw[s1 (by exact rfl)]
  refine⟨by rw[ah,aa,aa,lt];exact(show p+1+_≤_ by exact b9 zQ rfl),?_⟩
  have e:(xs.take p).map AV.int++[.int lV]++(xs.drop (p+1)).map .int=(xs.take p++[lV]++xs.drop (p+1)).map .int:=by rw[aF,aF];rfl
  exact .inl (q _ _ _ (((ot p).app (bK.cons ⟨y5,y6⟩ bK.nil)).app (od (p+1))) (by rw[ah,ah,lt];exact(show p+1+_≤_ by exact QY zQ)) ((At.last rfl).trans (congrArg some (iJ e))))
 refine⟨fun h=>?_,fun h=>?_⟩
 ·refine⟨by rw[aa];exact b9 hl rfl,?_⟩
  rw[s2]
  refine⟨by rw[aa,lt];exact(show p+1≤_ by exact aW [_,_] [] [.L (.a aB aM) (.l 8000)] (.L (.a aB bP) jg) cI rfl It),?_⟩
  refine⟨by rw[aa];exact b9 hl rfl,?_⟩
  rw[s0]
  refine⟨by rw[ah,aa,aa,lt];exact(show p+1+_≤_ by exact aW [_,_] [] [.L (.a aB aM) (.l 8000)] (.L (.a (.a aB bP) aM) jg) cI rfl It),?_⟩
  have e:(xs.take p).map AV.int++[.int lV]++(xs.drop p).map .int=(xs.take p++[lV]++xs.drop p).map .int:=by rw[aF,aF];rfl
  exact .inl (q _ _ _ (((ot p).app (bK.cons ⟨y5,y6⟩ bK.nil)).app (od p)) (by rw[ah,ah,lt];exact(show p+1+_≤_ by exact aW [_,_] [] [.L (.a aB aM) (.l 8000)] (.L (.a (.a aB bP) aM) (.l 8001)) cI rfl It)) ((At.last rfl).trans (congrArg some (iJ e))))
 ·refine⟨by rw[aa];exact b9 hl rfl,?_⟩
  rw[s2]
  refine⟨fun h=>?_,fun h=>?_⟩
  ·refine⟨by rw[aa];exact b9 hl rfl,?_⟩
   rw[s1 (by exact rfl)]
   refine⟨by rw[aa,aa,lt];exact aW [_,_] [] [.L (.a (.a aB bP) aM) (.l 8000)] (.L (.a aB aM) jg) cI rfl zQ,?_⟩
   exact .inl (q _ _ _ ((ot p).app (od (p+1))) (by rw[ah,lt];exact aW [_,_] [] [.L (.a (.a aB bP) aM) (.l 8000)] (.L (.a aB aM) (.l 8001)) cI rfl zQ) ((At.last rfl).trans (congrArg some (iJ aF.symm))))
  ·refine⟨by rw[aa,lt];exact(show p+0≤_ by exact aW [_,_] [] [.L (.a aB aM) (.l 8000)] (.L (.a aB dE) jg) cI rfl It),?_⟩
   exact .inl (q _ _ _ ((ot p).app bK.nil) (by rw[ah,lt];exact(show p+0≤_ by exact aW [_,_] [] [.L (.a (.a aB bP) aM) (.l 8000)] (.L (.a aB dE) (.l 8001)) cI rfl zQ)) ((At.last rfl).trans (congrArg some (iJ (show _++[]=_ from(aF (l₂:=([]:List Int))).symm)))))
end
end
section
open PySem PySem.W PySem.Calls PyProof.Rows
section
variable {c:Cx}{d n m:Nat}{H T A G P:List ag}{Q QR:AV→List ag→Prop}{SQ:QT}{X:List ag→Prop}{l:Loc}{xs ns bx:List Int}{j:Nat}{a k r v lo hi:Int}{B:aU}{env:dH}{as:List AV}{kvs:List (Int×AV)}
theorem hB (F:eW c) (h:lo≤v∧v≤hi) (q:Q (.bool true) H):WC c (d+1) (.ref 97) [.int v,.int lo,.int hi] H Q X:=by
 refine WC.v F rfl rfl fun A env E=>?_
 exact⟨fun _=>⟨fun _=>.inl q,fun h'=>absurd h.2 h'⟩,fun h'=>absurd h.1 h'⟩
theorem DM (F:eW c) (h : -1073741823≤v∧v≤1073741823) (q:Q (.bool true) H):WC c (d+2) (.ref 114) [.int v] H Q X:=by
 refine WC.v F rfl rfl fun A env E=>?_
 exact hB F h (.inl q)
theorem xN (F:eW c) (h:∀x∈xs,-1073741823≤x∧x≤1073741823) (q:Q .none H):WC c (d+3) (.ref 121) [.tup (xs.map .int)] H Q X:=by
 refine WC.v F rfl rfl fun A env E=>?_
 refine⟨H.length,aA _,⟨fC,?_⟩⟩
 refine⟨fun i l' H'=>∃p,l'=[some (.tup (xs.map .int)),p]∧H'=H,⟨_,rfl,rfl⟩,fun _ _ _ _ _=>trivial,?_,?_⟩
 ·intro i x l' H' hx lE
  refine aq lE fun p gD ix=>?_
  clear lE
  subst gD
  subst ix
  rw[aK] at hx
  refine aq (bB.mp hx) fun y hy gD=>?_
  subst gD
  exact DM F (h y (a9 hy)) (.inl ⟨_,rfl,rfl⟩)
 ·intro l' H' mr
  refine aq mr fun p jS jW=>?_
  clear mr
  subst jS
  subst jW
  exact .inl q
theorem yv (F:eW c) (q:Q (.int (-1)) H):WC c (d+1) (.ref 156) [.tup []] H Q X:=by
 refine WC.v F rfl rfl fun A env E=>?_
 exact⟨cQ _,⟨fun _=>.inl q,fun h=>absurd rfl h⟩⟩
theorem VS.back {ss:List eF}(w:VS c d m B env ss l H (fun f l H'=>∃kvs ep,H'[n]?=some (.eV kvs ep)∧SQ f l (H'.set n (.dict kvs))) X):VS c d m B env ss l H SQ X:=fun α s I=>
 au (w α s I) (fun f s' u=>by
  obtain⟨af,l',bD,H',y,I',fr,w'⟩:=u
  exact cB w' fun kvs ep e q=>⟨af,l',bD,_,y,⟨I'.ok,I'.e,I'.r,I'.top,I'.h.ofX e,I'.f,I'.k⟩,fr,q⟩) fun _ _ e=>e
theorem WC.x (F:eW c){f:aD}{s:Option eF}{is:List Nat}(e:kK FN f=some (s,is)) (hl:as.length=(jZ s).length) (hn:H[n]?=some (.dict kvs))
  (w:∀A env,iA env (namesOf s)→nZ ⟨c,d,A,env,X⟩ (gx s is)→∀ep,VS c d H.length A env (iI s) (locs as (yd (namesOf s))) (H.set n (.eV kvs ep)) (fun f l H'=>∃kvs ep,H'[n]?=some (.eV kvs ep)∧qB Q f l (H'.set n (.dict kvs))) X):WC c (d+1) (.ref f) as H Q X:=by
 refine fG (F.fn e) fun fd D Pw D3 hb=>?_
 refine WC.ZD D hl hb fun A env he hf=>?_
 have E:iA env (namesOf s):=⟨⟨by rw[he];exact Pw,D3⟩,by rw[he];exact D.kind,hf⟩
 have W:=VS.toX hn fun ep=>VS.back (w A env E ⟨F.ok E.toNmEnv,E⟩ ep)
 exact fun α s I=>W α s (I.loc fun i v e=>by
  have e:=rO e
  unfold u4
  rw[aC (by rw[aa];exact(ao.mp e).1),aK,e]
  rfl)
theorem WC.vs (F:eW c){f:aD}{s:Option eF}{is:List Nat}(e:kK FN f=some (s,is)) (hl:as.length=(jZ s).length)
  (w:∀A env,iA env (namesOf s)→nZ ⟨c,d,A,env,X⟩ (gx s is)→VS c d H.length A env (iI s) (locs as (yd (namesOf s))) H (qB Q) X):WC c (d+1) (.ref f) as H Q X:=by
 refine fG (F.fn e) fun fd D Pw D3 hb=>?_
 refine WC.ZD D hl hb fun A env he hf=>?_
 have E:iA env (namesOf s):=⟨⟨by rw[he];exact Pw,D3⟩,by rw[he];exact D.kind,hf⟩
 exact fun α s I=>w A env E ⟨F.ok E.toNmEnv,E⟩ α s (I.loc fun i v e=>by
  have e:=rO e
  unfold u4
  rw[aC (by rw[aa];exact(ao.mp e).1),aK,e]
  rfl)
theorem VX.items {z:VZ}{g:Sx}(ok:nZ z g){k:Nat}(hk:m≤k){o:Expr}{pd r9 pos tp:ij}{es:List Expr}{ec:Nat}{body:List eF}(h1:sI o=true) (h2:(pd.endLine==r9.line)=true)
  (w:vE z g 40 o l H (fun a H1=>∃n kvs ep,a=.obj n∧n<k∧H1[n]?=some (.eV kvs ep)∧∃J:Nat→Loc→List ag→Prop,J 0 l H1∧(∀i l' H',i≤kvs.length→J i l' H'→H'[n]?=some (.eV kvs ep)) ∧
   (∀i (p:Int×AV) l2 H2,kvs[i]?=some p→J i l2 H2→vT g (vE z g 40) 40 (.Tuple es ec tp) (.tup [.int p.1,p.2]) l2 H2 fun l3 H3=>vS z g 40 k body l3 H3 (dU k (zP (J (i+1)) SQ)))∧∀l2 H2,J kvs.length l2 H2→SQ .next l2 H2)) :
  VX z.c z.d m z.A z.env (.For (.Tuple es ec tp) (.Call (.Attribute o "items" pd) [] [] r9) body [] pos) l H SQ z.X:=by
 have v:=nV ok.toVOk 40
 have x:=Aq ok 40
 refine VX.SG (T:=N0) k hk ⟨_,_,_,rfl⟩ (fun _=>rfl) (WI.items (yZ h1 rfl rfl h2) ((v.E w).mono ?_ fun _ h=>h))
 intro a H1 nT
 refine cx nT fun n kvs ep jY hn e nr=>?_
 clear nT
 refine fG nr fun J j0 V8 step fin=>?_
 subst jY
 refine⟨n,kvs,ep,rfl,hn,e,J,j0,fun i l' H' hi j=>V8 i l' H' (by rwa [aa] at hi) j,fun i y l2 H2 hx j=>?_,fun l2 H2 j=>fin l2 H2 (by rwa [aa] at j)⟩
 rw[aK] at hx
 refine aq (bB.mp hx) fun p hp ix=>?_
 subst ix
 exact(CS ok v (step i p l2 H2 hp j)).mono fun l3 H3 h=>VS.FE (x.S h)
theorem Eh (F:eW c){ch:Nat}{bo:Int}(q:Q .none H):WC c (d+3) (.ref 149) [.tup [],.tup [],.obj ch,.int bo] H Q X:=by
 refine WC.vs F rfl rfl fun A env E ok=>?_
 refine VS.cons (((Aq ok 60).X (Q:=fun f l1 H1=>f=.next∧l1=[some (.tup []),some (.tup []),some (.obj ch),some (.int bo),some (.int 0),none,none,none,none,none,none,none]∧H1=H) ?_).mono ?_)
 ·exact⟨cQ _,rfl,rfl,rfl⟩
 ·intro f l1 H1 pU
  refine bQ pU fun mU nF tM=>?_
  clear pU
  subst mU
  subst nF
  subst tM
  refine VS.cons (VX.of (WX.Hq (fun _=>rfl) (by rfl) (jX rfl) ((nV ok.toVOk 40).E ?_)))
  refine⟨rfl,(nV ok.toVOk 40).A ?_⟩
  exact⟨rfl,VS.nil q⟩
theorem GY (F:eW c){ws:List (Int×Int)}(hz:ws.length≤10) (q:Q .none [.dict (ws.map eY)]):WC c (d+1) (.ref 142) [.obj 0] [.dict (ws.map eY)] Q X:=by
 refine WC.x F (n:=0) rfl rfl rfl fun A env E ok ep=>?_
 refine(Aq ok 60).S ?_
 refine⟨1,aA _,?_⟩
 refine⟨fun i l H=>∃p1 p2 p3,l=[some (.obj 0),p1,p2,p3]∧H=[.eV (ws.map eY) ep],⟨none,none,none,rfl,rfl⟩,fun i l H _ u=>eD u fun _ _ _ _ e=>by rw[e];rfl,?_,?_⟩
 ·intro i x l H hx wa
  refine eD wa fun p1 p2 p3 lh j3=>?_
  clear wa
  subst lh
  subst j3
  rw[aK] at hx
  refine aq (bB.mp hx) fun p hp jS=>?_
  subst jS
  refine⟨fun i l H=>l=[some (.obj 0),some (.int p.1),some (.int p.1),some (.int 0)]∧H=[.eV (ws.map eY) ep],0,⟨rfl,rfl⟩,?_⟩
  intro i l H Fc
  obtain⟨rfl,rfl⟩:=Fc
  conv=>whnf
  rw[hH]
  cases hw:ws.lookup p.1 with
  |none=>exact .inl ⟨_,_,_,rfl,rfl⟩
  |some w=>
   refine⟨_,by rw[hH,hw];rfl,?_⟩
   exact⟨fun h=>absurd h (by decide),fun _=>.inl ⟨_,_,_,rfl,rfl⟩⟩
 ·intro l H E7
  refine eD E7 fun p1 p2 p3 mh qI=>?_
  clear E7
  subst mh
  subst qI
  exact⟨_,_,rfl,q⟩
theorem Km (F:eW c){ws:List (Int×Int)}(hz:ws.length≤10) (hw:∀p∈ws,(0≤p.1∧p.1≤255)∧-1073741823≤p.2∧p.2≤1073741823) (q:Q .none [.dict (ws.map eY)]):WC c (d+4) (.ref 135) [.obj 0,.int 0] [.dict (ws.map eY)] Q X:=by
 refine WC.x F (n:=0) rfl rfl rfl fun A env E ok ep=>?_
 refine VS.cons (VX.items (k:=1) ok (aA _) rfl rfl ?_)
 refine⟨0,_,ep,rfl,aA _,rfl,?_⟩
 refine⟨fun i l H=>∃p2 p3 p4 p5,l=[some (.obj 0),some (.int 0),p2,p3,p4,p5]∧H=[.eV (ws.map eY) ep],⟨none,none,none,none,rfl,rfl⟩,fun i l H _ u=>al u fun _ u=>eD u fun _ _ _ _ e=>by rw[e];rfl,?_,?_⟩
 ·intro i p l H hp Io
  refine fX Io fun p2 p3 uM=>?_
  clear Io
  refine cB uM fun p4 p5 sL uD=>?_
  subst sL
  subst uD
  rw[aK] at hp
  refine aq (bB.mp hp) fun jW YJ jY=>?_
  obtain⟨code,w⟩:=jW
  subst jY
  obtain⟨hc,hw⟩:=hw _ (a9 YJ)
  refine hB F hc ?_
  refine⟨by exact(by decide:6≤1000000),⟨fun h=>absurd rfl h,fun _=>?_⟩⟩
  refine AM.tup 0 4 (by exact(by decide:d7 none (some 4) 1 ((6:Nat):Int)=(((0:Nat):Int),((4:Nat):Int)))) (by exact(by decide:¬(0=0∧4=6))) (by decide) (by exact(by decide:4≤6)) (by exact(by decide:6≤1000000)) ?_
  refine xN F (xs:=[w,0,0,0]) ?_ ?_
  ·intro x hx
   simp only[br,bY,or_false] at hx
   exact hx.elim (fun e=>e▸hw) fun hx=>(show x=0 from by rcases hx with h | h | h<;>exact h)▸(by decide)
  ·refine hB F (by decide) ?_
   refine⟨fun h=>absurd h (by decide),fun _=>?_⟩
   refine hB F (by decide) ?_
   exact⟨fun h=>absurd h (by decide),fun _=>.inl ⟨_,_,_,_,rfl,rfl⟩⟩
 ·intro l H MR
  refine fX MR fun p2 p3 Hg=>?_
  clear MR
  refine cB Hg fun p4 p5 xF NX=>?_
  subst xF
  subst NX
  exact VS.nil ⟨_,_,rfl,q⟩
end
end
section
open PySem PySem.W PySem.Calls PyProof.Rows
section
variable {c:Cx}{d n m:Nat}{H T A G P:List ag}{Q QR:AV→List ag→Prop}{SQ:QT}{X:List ag→Prop}{l:Loc}{xs ns bx:List Int}{j:Nat}{a k r v lo hi:Int}{B:aU}{env:dH}{as:List AV}{kvs:List (Int×AV)}
theorem KW (F:eW c) (q:Q (.str "fc") H):WC c (d+1) (.ref 257) [.int 3] H Q X:=by
 refine WC.v F rfl rfl fun A env E=>?_
 refine⟨by decide,?_⟩
 refine WG.str (k:=2) (by decide) (by decide) (u:=99) (by decide +kernel) ?_
 refine⟨fun n l' H'=>l'=[some (.int 3),some (.int 2),some (.str ⟨#[99]⟩)]∧H'=H,0,⟨rfl,rfl⟩,?_⟩
 rintro n l' H' ⟨rfl,rfl⟩
 refine⟨fun h=>absurd h (by decide),fun _=>?_⟩
 refine⟨by decide +kernel,?_⟩
 rw[show(fa "f"++⟨#[99]⟩:bu)=fa "fc" by decide +kernel]
 exact .inl q
theorem DF (F:eW c) (q:Q (.str "fhz") H):WC c (d+1) (.ref 257) [.int 200] H Q X:=by
 refine WC.v F rfl rfl fun A env E=>?_
 refine⟨by decide,?_⟩
 refine WG.str (k:=24) (by decide) (by decide) (u:=122) (by decide +kernel) ?_
 refine⟨fun n l' H'=>(n=1∧l'=[some (.int 200),some (.int 199),some (.str ⟨#[122]⟩)]∧H'=H)∨(n=0∧l'=[some (.int 200),some (.int 7),some (.str ⟨#[104,122]⟩)]∧H'=H),1,.inl ⟨rfl,rfl,rfl⟩,?_⟩
 rintro n l' H' (⟨rfl,rfl,rfl⟩ | ⟨rfl,rfl,rfl⟩)
 ·refine⟨fun _=>?_,fun h=>absurd (by decide) h⟩
  refine⟨by decide,⟨by decide,?_⟩⟩
  refine WG.str (k:=7) (by decide) (by decide) (u:=104) (by decide +kernel) ?_
  refine⟨by decide +kernel,?_⟩
  rw[show(⟨#[104]⟩++⟨#[122]⟩:bu)=⟨#[104,122]⟩ by decide +kernel]
  exact .inl ⟨0,by decide,.inr ⟨rfl,rfl,rfl⟩⟩
 ·refine⟨fun h=>absurd h (by decide),fun _=>?_⟩
  refine⟨by decide +kernel,?_⟩
  rw[show(fa "f"++⟨#[104,122]⟩:bu)=fa "fhz" by decide +kernel]
  exact .inl q
theorem w6 {f:Nat→Nat}:∀{ws:List (Int×Int)},qL f (ws.map eY)=ws.map eY:=by
 intro us
 induction us with
 |nil=>
  exact rfl
 |cons p ws ih=>
  exact s9 rfl ih
theorem Ks {k:Nat}{ws:List (Int×Int)}:tv k [.dict (ws.map eY)]=true:=by
 show(mx k (ws.map eY)&&true)=true
 rw[kT];rfl
theorem Kf (F:eW c){dk:Int}{nm:bu}{ws:List (Int×Int)}(nj:1≤dk∧dk≤255) (Pw:(nm==fa "")=false) (hz:ws.length≤10) (hw:∀p∈ws,(0≤p.1∧p.1≤255)∧-1073741823≤p.2∧p.2≤1073741823)
  (q:Q .none [.dict (ws.map eY),jx dk nm 0 2 3,nE,.dict (ws.map eY)]):WC c (d+5) (.ref 173) [.obj 1,.int dk,.str nm,.int 655360,Au,.obj 0,.tup [],.tup [],.int 256] [.dict (ws.map eY),.inst 246 []] Q X:=by
 refine WC.v F rfl rfl fun A env E=>?_
 refine hB F nj ?_
 conv=>whnf
 rw[Pw]
 refine hB F (by decide) ?_
 refine hB F (by decide) ?_
 refine⟨by decide,⟨fun h=>absurd h (by decide),fun _=>?_⟩⟩
 refine xN F (xs:=[0,196608,98304,65536,262144,655360,65536]) (by decide) ?_
 refine xN F (xs:=[]) (by decide) ?_
 refine⟨cQ _,?_⟩
 refine WC.take (H₀:=[.dict (ws.map eY)]) (X₀:=fun _=>False) [.inst 246 []] Ks rfl (Km F hz hw ⟨⟨rfl,Ks,rfl⟩,?_⟩) (fun _ h=>h.elim)
 refine WC.take (H₀:=[.dict (ws.map eY)]) (X₀:=fun _=>False) [.inst 246 []] Ks rfl (GY F hz ⟨⟨rfl,Ks,rfl⟩,?_⟩) (fun _ h=>h.elim)
 refine Eh F ?_
 refine⟨by decide,⟨by rw[aa];exact aW [_] [] [.L aB (.l 10)] (.L aB jg) cI rfl hz,?_⟩⟩
 refine yv F ?_
 refine(?_:_∨_)
 refine Or.inl ?_
 refine Eq.mpr (congrArg (Q .none) ?_) q
 kernel_rfl
noncomputable def zp (p:Int×Int):AV:=.tup [.int p.1,.int p.2,.int 0,.int 0]
end
end
section
open PySem PySem.W PySem.Calls PyProof.Rows
section
variable {c:Cx}{d n m:Nat}{H T A G P:List ag}{Q QR:AV→List ag→Prop}{SQ:QT}{X:List ag→Prop}{l:Loc}
noncomputable def GF (c:Cx):Prop:=∃fd VL,qf c.K 267 fd (iI (df 32)) (jZ (df 32))∧fd.scope.names=namesOf (df 32)∧(∀p∈namesOf (df 32),(p.1==("__debug__":bu))=false) ∧
 ∀(s:aH) (α:Am),(∀b o,c.hb.get? b=some o→s.heap.get? b=some o)→bq c s.heap α [Au,.tup [],.tup [],.int 256] VL∧∀v1 v2,wM s fd ⟨[v1,v2],[]⟩ ((jZ (df 32)).zip (v1::v2::VL))
theorem WC.vd (F:eW c) (D:GF c){a1 a2:AV}(w:∀A env,iA env (namesOf (df 32))→vS ⟨c,d,A,env,X⟩ (gx (df 32) [25,27,21,92,102,43,44]) 60 H.length (iI (df 32)) (locs [a1,a2,Au,.tup [],.tup [],.int 256] (yd (namesOf (df 32)))) H (dU H.length (qB Q))) :
  WC c (d+1) (.ref 267) [a1,a2] H Q X:=by
 refine b0 D fun fd VL D hn D3 hb=>?_
 intro Z9 α s vs I r
 refine WC.Pq rfl D (as':=[a1,a2,Au,.tup [],.tup [],.int 256]) rfl (fun α s vs I r=>?_) (fun A env he hf α s I=>?_) α s vs I r
 ·have r0:=r
  refine aN r0 fun v1 r1 gD q1 r1'=>?_
  clear r0
  subst gD
  refine aN r1' fun v2 r2 ix q2 XC=>?_
  clear r1'
  subst ix
  replace XC:r2=[]:=XC
  subst XC
  obtain⟨b1,b2⟩:=hb s α (fun b o e=>I.h.base _ _ e)
  exact⟨v1::v2::VL,eC q1 (eC q2 b1),b2 v1 v2⟩
 ·have E:iA env (namesOf (df 32)):=⟨⟨by rw[he];exact hn,D3⟩,by rw[he];exact D.kind,hf⟩
  have W:=VS.FE ((Aq ⟨F.ok E.toNmEnv,E⟩ 60).S (w A env E))
  have I':=I.loc (l':=locs [a1,a2,Au,.tup [],.tup [],.int 256] (yd (namesOf (df 32)))) fun i v e=>by
   have e:=rO e
   unfold u4
   rw[aC (by rw[aa];exact(ao.mp e).1),aK,e]
   rfl
  exact au (W α s I') (fun _ _ p=>(p.full (bF I.h.len)).toR) fun _ _ p=>p.full (bF I.h.len)
theorem H8 (F:eW c) (D:GF c){dk:Int}{nm:bu}{ws:List (Int×Int)}(U8:∀{d:Nat}{H:List ag}{Q:AV→List ag→Prop}{X:List ag→Prop},Q (.str nm) H→WC c (d+1) (.ref 257) [.int dk] H Q X) (nj:1≤dk∧dk≤255) (Pw:(nm==fa "")=false) (hz:ws.length≤10)
  (hnd:(ws.map (·.1)).Nodup) (hw:∀p∈ws,(0≤p.1∧p.1≤255)∧-1073741823≤p.2∧p.2≤1073741823)
  (q:Q (.obj 2) [.list (ws.map zp),.dict (ws.map eY),jx dk nm 0 3 4,nE,.dict (ws.map eY)]):WC c (d+7) (.ref 267) [.int dk,.obj 0] [.list (ws.map zp)] Q X:=by
 refine WC.vd F D fun A env E=>?_
 refine hB F nj ?_
 refine⟨1,aA _,?_⟩
 refine⟨fun i l H=>∃p,l=[some (.int dk),some (.obj 0),some Au,some (.tup []),some (.tup []),some (.int 256),some (.obj 1),p]∧H=[.list (ws.map zp),.dict ((ws.take i).map eY)],⟨none,rfl,rfl⟩,fun i l H _ ⟨_,_,e⟩=>by rw[e];rfl,?_,?_⟩
 ·intro i x l H hx lE
  refine aq lE fun p gD ix=>?_
  clear lE
  subst gD
  subst ix
  rw[aK] at hx
  refine aq (bB.mp hx) fun jS hp jW=>?_
  obtain⟨code,w⟩:=jS
  subst jW
  refine⟨by exact(by decide:4≤1000000),⟨fun _=>⟨fun _=>?_,fun h=>absurd (by exact(by decide:((4:Nat):Int)≤7)) h⟩,fun h=>absurd (by exact(by decide:(4:Int)≤((4:Nat):Int))) h⟩⟩
  have xp:(ws.take i).lookup code=none:=by
   rw[gG]
   intro p YJ
   obtain⟨j,hj⟩:=eO.mp YJ
   have hji:j<i:=by
    have:=(ao.mp hj).1
    rw[cg] at this;exact aW [_,_,_,_] [] [.T aB aM,.fm aM cf fz] (.T aB cf) (.o jM (.k [1,1,1,0,1])) rfl this (AJ _ _)
   rw[yS hji] at hj
   have qz:=(ao.mp hp).1
   have hjl:=(ao.mp hj).1
   refine bne_iff_ne.mpr fun e=>?_
   have:=(List.pairwise_iff_getElem.mp hnd) j i (by rw[aa];exact hjl) (by rw[aa];exact qz) hji
   rw[JK,JK,(ao.mp hj).2,(ao.mp hp).2] at this
   exact this e.symm
  conv=>whnf
  rw[hH,xp]
  refine⟨by exact(by decide:4+3≤1000000),?_⟩
  refine AM.tup 1 7 (by exact(by decide:d7 (some 1) (some 7) 1 ((7:Nat):Int)=(((1:Nat):Int),((7:Nat):Int)))) (by exact(by decide:¬(1=0∧7=7))) (by decide) (by exact(by decide:7≤7)) (by exact(by decide:7≤1000000)) ?_
  refine⟨by rw[aa,cg];exact aW [_,_,_] [] [.L aB (.l 10),.fm aM cf aB] (.L aM jg) (.o (.k [1,1,1,0,1]) jM) rfl hz (AJ _ _),?_⟩
  have YI:mu code (.tup [.int w,.int 0,.int 0,.int 0,.int 0,.int 0]) ((ws.take i).map eY)=(ws.take (i+1)).map eY:=by
   rw[vG (by rw[hH,xp];rfl),gi,hp,aF];rfl
  exact .inl ⟨_,rfl,congrArg (fun x=>[ag.list (ws.map zp),.dict x]) YI⟩
 ·intro l H mr
  refine aq mr fun p jW jY=>?_
  clear mr
  subst jW
  subst jY
  rw[aa,kC]
  refine U8 ?_
  refine WC.mk F rfl ?_
  refine WC.frame [1,2] (H₀:=[.dict (ws.map eY),.inst 246 []]) (.of rfl (by decide) ?_) (as₀:=[.obj 1,.int dk,.str nm,.int 655360,Au,.obj 0,.tup [],.tup [],.int 256]) rfl rfl
   (Q₀:=fun v G=>v=.none∧G=[.dict (ws.map eY),jx dk nm 0 2 3,nE,.dict (ws.map eY)]) (X₀:=fun _=>False) (Kf F nj Pw hz hw ⟨rfl,rfl⟩) ?_ fun _ h=>h.elim
  ·exact⟨⟨kT,congrArg (fun v=>some (ag.dict v)) w6.symm⟩,⟨rfl,rfl⟩,trivial⟩
  ·intro v G nT
   obtain⟨rfl,rfl⟩:=nT
   refine⟨rfl,.inl ?_⟩
   rw[←show iw (fr [1,2] 3) (.dict (ws.map eY))=.dict (ws.map eY) from congrArg ag.dict w6] at q
   exact q
end
end
section
open PySem PySem.W PySem.Calls PyProof.Rows
section
variable {c:Cx}{d n m:Nat}{H T A G P:List ag}{Q QR:AV→List ag→Prop}{SQ:QT}{X:List ag→Prop}{l:Loc}{σ:List Nat}
theorem yB {n:Nat}(h:n<H.length) (hn:n∉σ):(put σ H G)[n]?=H[n]?:=by
 unfold put
 rw[aC (by rw[jd];exact h),vw _ hn]
theorem ff {n:Nat}{x:ag}(nd:σ.Nodup) (hs:∀i∈σ,i<H.length) (h:G[n]?=some x):(put σ H G)[fr σ H.length n]?=some (iw (fr σ H.length) x):=by
 unfold put
 by_cases hn:n<σ.length
 ·have e:σ[n]?=some σ[n]:=aw hn
  have e2:fr σ H.length n=σ[n]:=by unfold fr;rw[e]
  have hi:=hs _ (uu hn)
  rw[e2,aC (by rw[jd];exact hi),zq _ nd e h hi]
 ·have e2:fr σ H.length n=H.length+(n-σ.length):=by unfold fr;rw[cF (by exact aS hn)]
  rw[e2,aY (by rw[jd];exact bC _ _),jd,fq,aK,cD,show σ.length+(n-σ.length)=n by exact aW [_,_,_] [] [.N (.T aB aM),.fs cf aB aM] (.E (.a aM cf) aB) (.o (.o jf cM) (.o cI jM)) rfl hn (eR _ _),h]
  rfl
theorem jz.id {ks ns:List Int}(h:jz ks ns) (hp:ks.Pairwise (·≤·)):ns=ks:=v5 (le:=(·≤·)) (fun a b _ _=>NB) h.2 hp h.1
noncomputable def SI (ws:List (Int×Int)):AV→AV
 |.int k=>.tup [.int k,.int ((ws.lookup k).getD 0),.int 0,.int 0]
 |_=>.none
noncomputable abbrev LA0 (ns:List Int):List ag:=[aZ ns,.list [],.list [.int 3,.int 200]]
noncomputable abbrev LA1 (ns:List Int):List ag:=[aZ ns,.list [.obj 3],.list [.int 3,.int 200],jx 3 "fc" 0 5 4,.dict (tg.map eY),nE]
noncomputable abbrev Jv (ns:List Int) (ck:Int):List ag:=[aZ ns,.list [.obj 3,.obj 6],.list [.int 3,.int 200],jx 3 "fc" 0 5 4,.dict (tg.map eY),nE,jx 200 "fhz" ck 8 7,.dict (gT.map eY),nE]
theorem Ho.self {k:Nat}{xs:List AV}(h:∀x∈xs,gv H k x x true):Ho H k xs xs (xs.map fun _=>true):=by
 induction xs with
 |nil=>exact .nil
 |cons x xs ih=>exact .cons (h x aI) (ih fun y hy=>h y (aG _ hy))
theorem Vf {xs:List AV}:(xs.map fun _=>true).all id=true:=by rw[AS];exact ba.mpr fun _ _=>rfl
theorem gv.R8 {k:Nat}{xs:List AV}(h:∀x∈xs,gv H k x x true):gv H (k+1) (.tup xs) (.tup xs) true:=.tupS (Ho.self h) Vf
theorem gv.To {k n m:Nat}{xs:List AV}(h1:H[n]?=some (.list xs)) (h2:H[m]?=some (.list xs)) (h:∀x∈xs,gv H k x x true):gv H (k+1) (.obj n) (.obj m) true:=
 BX (n:=xs.length) (fun _ _=>rfl)▸.lst (e:=fun _=>true) h1 h2 rfl fun j x y e1 e2=>by
  cases e1.symm.trans e2
  exact h x (a9 e1)
theorem gv.i {i:Int}:gv H 0 (.int i) (.int i) true:=beq_self_eq_true i▸.int i i
theorem gv.b {x:List UInt8}:gv H 0 (.d8 x) (.d8 x) true:=beq_self_eq_true x▸.d8 x x
theorem gv.ts {xs:List Int}:gv H 1 (.tup (xs.map .int)) (.tup (xs.map .int)) true:=.R8 fun x hx=>by
 refine aq (dI.mp hx) fun i _ gD=>?_;subst gD;exact .i
theorem gv.row (r:n9):gv H 1 r.av r.av true:=by
 cases r with
 |char h v f c=>exact gv.ts (xs:=[0,h,v,f,c])
 |rule h v a b=>exact gv.ts (xs:=[1,h,v,a,b])
 |spec h v t=>exact .tupS (.cons .i (.cons .i (.cons .i (.cons .b .nil)))) rfl
theorem gv.uj (p:List Int×List n9):gv H 3 (uj p) (uj p) true:=
 .tupS (.cons (.up .ts) (.cons (.R8 fun x hx=>by
  refine aq (dI.mp hx) fun r _ ix=>?_
  subst ix
  exact .row r) .nil)) rfl
theorem gv.told {v:g6}{o:wo}{p s p' s':Nat}{ns:List Int}(ho:o=v.out) (h1:H[p]?=some (.list (v.ca.map Mine.uj))) (h2:H[p']?=some (.list (v.ca.map Mine.uj))) (h3:H[s]?=some (aZ ns)) (h4:H[s']?=some (aZ ns)) :
  gv H 5 (Lp v p s) (GJ o p' s') true:=by
 subst ho
 exact .tupS (.cons (.up (.up (.up (gv.ts (xs:=[_,_,_]))))) (.cons (.up (.up (.up (.up .b)))) (.cons (gv.To h1 h2 fun x hx=>by refine aq (dI.mp hx) fun p _ jS=>?_;subst jS;exact .uj p) (.cons (.up (.up (.up (.up .i)))) (.cons (.up (.up (.up (.up .i)))) (.cons (.up (.up (.up (.up .i))))
  (.cons (.up (.up (.up (gv.To h3 h4 fun x hx=>by refine aq (dI.mp hx) fun p _ jW=>?_;subst jW;exact .i)))) .nil))))))) rfl
structure FI (H:List ag):Prop where
 f1:H[1]?=some (.list [.obj 3,.obj 6])
 f3:H[3]?=some (jx 3 "fc" 0 5 4)
 f6:H[6]?=some (jx 200 "fhz" 77 8 7)
 f4:H[4]?=some (.dict (tg.map eY))
 f7:H[7]?=some (.dict (gT.map eY))
 f5:H[5]?=some nE
 f8:H[8]?=some nE
noncomputable abbrev sF:List Nat:=[1,3,6,4,7,5,8]
theorem FI.len (h:FI H):9≤H.length:=(ao.mp h.f8).1
theorem FI.lt (h:FI H):∀i∈sF,i<H.length:=fun i hi=>by
 have:=h.len
 simp only[sF,br,bY,or_false] at hi
 exact aW [_,_] [] [.L (.l 9) aB,.O (.E aM bP) (.O (.E aM pM) (.O (.E aM (.l 6)) (.O (.E aM iE) (.O (.E aM (.l 7)) (.O (.E aM (.l 5)) (.E aM (.l 8)))))))] (.T aM aB) (.o qO (.o qO (.o qO (.o qO (.o qO (.o qO qO)))))) rfl this hi
theorem FI.sel (h:FI H):tF sF (FL []) H:=.of rfl (by decide) ⟨⟨rfl,h.f1⟩,⟨rfl,h.f3⟩,⟨rfl,h.f6⟩,⟨rfl,h.f4⟩,⟨rfl,h.f7⟩,⟨rfl,h.f5⟩,⟨rfl,h.f8⟩,trivial⟩
theorem FI.put (h:FI H):FI (Mine.put sF H (FL G)):=by
 have nd:sF.Nodup:=by decide
 exact⟨ff (n:=0) (x:=(.list [.obj 1,.obj 2])) nd h.lt rfl,ff (n:=1) (x:=(jx 3 "fc" 0 5 3)) nd h.lt rfl,ff (n:=2) (x:=(jx 200 "fhz" 77 6 4)) nd h.lt rfl,ff (n:=3) (x:=(.dict (tg.map eY))) nd h.lt rfl,ff (n:=4) (x:=(.dict (gT.map eY))) nd h.lt rfl,ff (n:=5) (x:=nE) nd h.lt rfl,ff (n:=6) (x:=nE) nd h.lt rfl⟩
theorem KY (F:eW c){b:List UInt8}(hF:FI H) (hb:b.length≤100000) (q0:iK b=none→∀H',FI H'→Q .none H')
  (q1:∀v,iK b=some v→∀ns p s H',jz (v.cJ.map (·.1)) ns→FI H'→9≤p→9≤s→H'[p]?=some (ER v.ca)→H'[s]?=some (aZ ns)→Q (Lp v p s) H'):WC c (d+10) (.ref 621) [.d8 b,.obj 1] H Q X:=by
 refine WC.frame sF (H₀:=FL []) hF.sel (as₀:=[.d8 b,.obj 0]) rfl rfl (X₀:=fun _=>False)
  (Q₀:=fun v G=>(iK b=none∧v=.none∧∃T,G=FL T)∨∃w a ns,iK b=some w∧jz (w.cJ.map (·.1)) ns∧v=Lp w 10 12∧G=FL [Vu,d5 b a,B7 w,ER w.ca,.dict (w.cJ.map ji),aZ ns]) (NJ F hb ?_) ?_ fun _ h=>h.elim
 ·cases e:iK b with
  |none=>exact fun T=>.inl ⟨rfl,rfl,T,rfl⟩
  |some w=>exact fun a ns h=>.inr ⟨w,a,ns,rfl,h,rfl,rfl⟩
 ·have nd:sF.Nodup:=by decide
  have:=hF.len
  rintro v G (⟨e,rfl,T,rfl⟩ | ⟨w,a,ns,e,hs,rfl,rfl⟩)
  ·exact q0 e _ hF.put
  ·refine q1 w e ns (H.length+3) (H.length+5) _ hs hF.put (by exact az this (lM 3 rfl)) (by exact az this (lM 5 rfl)) ?_ ?_
   ·exact(ff (n:=10) (x:=ER w.ca) nd hF.lt rfl).trans (congrArg (fun v=>some (ag.list v)) (fe tT))
   ·exact(ff (n:=12) (x:=aZ ns) nd hF.lt rfl).trans (congrArg some cC)
theorem Ay (F:eW c){b:List UInt8}(hF:FI H) (hb:b.length≤100000) (q0:rF b=none→∀H',FI H'→Q .none H')
  (q1:∀o,rF b=some o→∀ns p s H',jz (o.known.map (·.1)) ns→(∀(n:Nat) x,9≤n→H[n]?=some x→H'[n]?=some x)→H'[p]?=some (ER o.ca)→H'[s]?=some (aZ ns)→Q (GJ o p s) H'):WC c (d+6) (.ref 616) [.d8 b,.obj 1] H Q X:=by
 refine WC.frame sF (H₀:=FL []) hF.sel (as₀:=[.d8 b,.obj 0]) rfl rfl (X₀:=fun _=>False)
  (Q₀:=fun v G=>(rF b=none∧v=.none∧∃T,G=FL T)∨∃o cs ns,rF b=some o∧jz (o.known.map (·.1)) ns∧v=GJ o 9 10∧G=CH cs o.known (ER o.ca) [aZ ns]) (Ly F hb (fun e T=>.inl ⟨e,rfl,T,rfl⟩) fun o e cs ns h=>.inr ⟨o,cs,ns,e,h,rfl,rfl⟩) ?_ fun _ h=>h.elim
 have nd:sF.Nodup:=by decide
 rintro v G (⟨e,rfl,T,rfl⟩ | ⟨o,cs,ns,e,hs,rfl,rfl⟩)
 ·exact q0 e _ hF.put
 ·refine q1 o e ns (H.length+2) (H.length+3) _ hs (fun n x hn hx=>?_) ?_ ?_
  ·rw[yB (ao.mp hx).1 (by simp only[sF,br,bY,or_false];exact aW [_] [] [.L (.l 9) aB] (.N (.O (.E aB bP) (.O (.E aB pM) (.O (.E aB (.l 6)) (.O (.E aB iE) (.O (.E aB (.l 7)) (.O (.E aB (.l 5)) (.E aB (.l 8))))))))) (.o cM (.o cM (.o cM (.o cM (.o cM (.o cM cM)))))) rfl hn)];exact hx
  ·exact(ff (n:=9) (x:=ER o.ca) nd hF.lt rfl).trans (congrArg (fun v=>some (ag.list v)) (fe tT))
  ·exact(ff (n:=10) (x:=aZ ns) nd hF.lt rfl).trans (congrArg some cC)
noncomputable def Kv:List eF:=(iI (df 78)).drop 3
theorem Sb (F:eW c) (D:GF c){a:aD}{ns:List Int}{vs:Array ai}(hl:c.hb.IsList a vs) (hi:oC vs.toList ns) (hz:ns.length≤1000000) (q:∀H,Q (.bool true) H):WC c (d+11) (.ref 626) [.fix (.ref a)] [] Q X:=by
 refine WC.v F rfl rfl fun A env E=>?_
 refine AM.Xk hl hi hz ?_
 rw[show lL none (some (4:Int)) ns=ns.take 4 from pI 4 rfl]
 have h4:(ns.take 4).length≤4:=by rw[cg];exact aW [_,_] [] [.fm aB iE aM] (.L aB iE) (.o cM uc) rfl (AJ _ _)
 generalize ns.take 4=n4 at *
 refine⟨3,cQ _,?_⟩
 refine WV.s4 (.inl rfl) (by decide) fun ks hs=>?_
 have hk:ks=[3,200]:=jz.id hs (by decide)
 subst hk
 refine⟨fun i l H=>∃p1 p2,l=[some (.obj 0),some (.obj 1),p1,p2,none]∧(i=0∧H=LA0 n4∨i=1∧H=LA1 n4∨i=2∧H=Jv n4 0),⟨none,none,rfl,.inl ⟨rfl,rfl⟩⟩,?_,?_,?_⟩
 ·rintro i l H _ ⟨p1,p2,_,(⟨_,e⟩ | ⟨_,e⟩ | ⟨_,e⟩)⟩
  all_goals rw[e];rfl
 ·rintro i x l H hx ⟨p1,p2,rfl,(⟨rfl,rfl⟩ | ⟨rfl,rfl⟩ | ⟨rfl,rfl⟩)⟩
  ·replace hx:=ae hx
   subst hx
   refine⟨_,rfl,?_⟩
   refine WE.lc F [96,111,45,105,76,65,75,89,88] E 4 (SI tg) (by rfl) (by decide +kernel) (by rfl) ?_
   refine WV.s4 (.inl rfl) (by decide) fun ks hs=>?_
   have hk:ks=[65,97,200]:=jz.id hs (by decide)
   subst hk
   refine⟨⟨fun _=>rfl,by decide⟩,fun cenv i v acc hv=>?_,?_⟩
   ·rcases i with _ | _ | _ | i
    ·replace hv:=ae hv;subst hv;exact⟨_,rfl,rfl,rfl⟩
    ·replace hv:=ae hv;subst hv;exact⟨_,rfl,rfl,rfl⟩
    ·replace hv:=ae hv;subst hv;exact⟨_,rfl,rfl,rfl⟩
    ·exact nS hv
   ·refine WC.frame [4] (H₀:=[.list (tg.map zp)]) (.of rfl (by decide) ?_) (as₀:=[.int 3,.obj 0]) rfl rfl
     (Q₀:=fun v G=>v=.obj 2∧G=[.list (tg.map zp),.dict (tg.map eY),jx 3 "fc" 0 3 4,nE,.dict (tg.map eY)]) (X₀:=fun _=>False)
     (H8 F D (nm:="fc") (ws:=tg) (KW F) (by decide) (by decide +kernel) (by decide) (by decide) (by decide) ⟨rfl,rfl⟩) ?_ fun _ h=>h.elim
    ·exact⟨⟨rfl,rfl⟩,trivial⟩
    ·intro v G lE
     obtain⟨rfl,rfl⟩:=lE
     refine⟨cQ _,?_⟩
     refine .inr ⟨[0,1,2,6,8,7],[some (.obj 0),some (.obj 1),none,none,none],LA1 n4,B4 rfl,(.of rfl (by decide) ?_),wm.of (τ:=[0,1,2,6,8,7]) (l₁:=[some (.obj 0),some (.obj 1),none,none,none]) ⟨⟨rfl,rfl⟩,⟨rfl,rfl⟩,trivial⟩,⟨_,_,rfl,.inr (.inl ⟨rfl,rfl⟩)⟩⟩
     ·exact⟨Bk,⟨rfl,rfl⟩,⟨rfl,rfl⟩,⟨rfl,rfl⟩,⟨rfl,rfl⟩,⟨rfl,rfl⟩,trivial⟩
  ·replace hx:=ae hx
   subst hx
   refine⟨_,rfl,?_⟩
   refine WE.lc F [96,111,45,105,76,65,75,89,88] E 7 (SI gT) (by rfl) (by decide +kernel) (by rfl) ?_
   refine WV.s4 (.inl rfl) (by decide) fun ks hs=>?_
   have hk:ks=[66,98,255]:=jz.id hs (by decide)
   subst hk
   refine⟨⟨fun _=>rfl,by decide⟩,fun cenv i v acc hv=>?_,?_⟩
   ·rcases i with _ | _ | _ | i
    ·replace hv:=ae hv;subst hv;exact⟨_,rfl,rfl,rfl⟩
    ·replace hv:=ae hv;subst hv;exact⟨_,rfl,rfl,rfl⟩
    ·replace hv:=ae hv;subst hv;exact⟨_,rfl,rfl,rfl⟩
    ·exact nS hv
   ·refine WC.frame [7] (H₀:=[.list (gT.map zp)]) (.of rfl (by decide) ?_) (as₀:=[.int 200,.obj 0]) rfl rfl
     (Q₀:=fun v G=>v=.obj 2∧G=[.list (gT.map zp),.dict (gT.map eY),jx 200 "fhz" 0 3 4,nE,.dict (gT.map eY)]) (X₀:=fun _=>False)
     (H8 F D (nm:="fhz") (ws:=gT) (DF F) (by decide) (by decide +kernel) (by decide) (by decide) (by decide) ⟨rfl,rfl⟩) ?_ fun _ h=>h.elim
    ·exact⟨⟨rfl,rfl⟩,trivial⟩
    ·intro v G mr
     obtain⟨rfl,rfl⟩:=mr
     refine⟨ay 1 _,?_⟩
     refine .inr ⟨[0,1,2,3,4,5,9,11,10],[some (.obj 0),some (.obj 1),none,none,none],Jv n4 0,B4 rfl,(.of rfl (by decide) ?_),wm.of (τ:=[0,1,2,3,4,5,9,11,10]) (l₁:=[some (.obj 0),some (.obj 1),none,none,none]) ⟨⟨rfl,rfl⟩,⟨rfl,rfl⟩,trivial⟩,⟨_,_,rfl,.inr (.inr ⟨rfl,rfl⟩)⟩⟩
     ·exact⟨Bk,⟨rfl,rfl⟩,⟨rfl,rfl⟩,⟨rfl,rfl⟩,⟨rfl,rfl⟩,⟨rfl,rfl⟩,⟨rfl,rfl⟩,⟨rfl,rfl⟩,⟨rfl,rfl⟩,trivial⟩
  ·exact nS hx
 ·rintro l H ⟨p1,p2,rfl,(⟨h,_⟩ | ⟨h,_⟩ | ⟨_,rfl⟩)⟩
  ·cases h
  ·cases h
  refine⟨by decide,_,rfl,?_⟩
  refine(?_:vS _ _ _ _ Kv _ (Jv n4 77) _)
  refine A3 F (n:=0) (by rfl) h4 (by decide) fun a k r hb=>?_
  have nB:([1,3,6,4,7,5,8,0]:List Nat).Nodup:=by decide
  have lB:∀i∈([1,3,6,4,7,5,8,0]:List Nat),i<(Jv n4 77++[aZ [a,k,r]]).length:=by
   intro i hi
   have:(Jv n4 77++[aZ [a,k,r]]).length=10:=rfl
   simp only[br,bY,or_false] at hi
   exact aW [_,_] [] [.E aB (.l 10),.O (.E aM bP) (.O (.E aM pM) (.O (.E aM (.l 6)) (.O (.E aM iE) (.O (.E aM (.l 7)) (.O (.E aM (.l 5)) (.O (.E aM (.l 8)) (.E aM dE)))))))] (.T aM aB) (.o rj (.o rj (.o rj (.o rj (.o rj (.o rj (.o rj rj))))))) rfl this hi
  refine WC.frame [1,3,6,4,7,5,8,0] (H₀:=FL [aZ n4]) (.of rfl (by decide) ?_) (as₀:=[.obj 7,.obj 0]) rfl rfl (X₀:=fun _=>False)
   (Q₀:=fun v G=>∃xs T n,bK xs∧0<xs.length∧xs.length≤8000∧8≤n∧(FL (aZ n4::T))[n]?=some (aZ xs)∧v=.obj n∧G=FL (aZ n4::T)) (K6 F h4 fun xs T o h1 h2 n h8 e=>⟨xs,T,n,o,h1,h2,h8,e,rfl,rfl⟩) ?_ fun _ h=>h.elim
  ·exact⟨⟨rfl,rfl⟩,⟨rfl,rfl⟩,⟨rfl,rfl⟩,⟨rfl,rfl⟩,⟨rfl,rfl⟩,⟨rfl,rfl⟩,⟨rfl,rfl⟩,Bk,trivial⟩
  intro v G nT
  refine cx nT fun xs T n o VM Vq mU=>?_
  clear nT
  refine dm mU fun h8 e jY nr=>?_
  subst jY
  subst nr
  have f2:FI (Mine.put [1,3,6,4,7,5,8,0] (Jv n4 77++[aZ [a,k,r]]) (FL (aZ n4::T))):=⟨ff (n:=0) (x:=(.list [.obj 1,.obj 2])) nB lB rfl,ff (n:=1) (x:=(jx 3 "fc" 0 5 3)) nB lB rfl,ff (n:=2) (x:=(jx 200 "fhz" 77 6 4)) nB lB rfl,ff (n:=3) (x:=(.dict (tg.map eY))) nB lB rfl,ff (n:=4) (x:=(.dict (gT.map eY))) nB lB rfl,ff (n:=5) (x:=nE) nB lB rfl,ff (n:=6) (x:=nE) nB lB rfl⟩
  have b2:(Mine.put [1,3,6,4,7,5,8,0] (Jv n4 77++[aZ [a,k,r]]) (FL (aZ n4::T)))[9]?=some (aZ [a,k,r]):=(yB (by exact(by decide:9<10)) (by decide)).trans rfl
  have o2:=(ff nB lB e).trans (congrArg some cC)
  have n2:fr [1,3,6,4,7,5,8,0] (Jv n4 77++[aZ [a,k,r]]).length n=10+(n-8):=by
   unfold fr;rw[cF (by exact h8)];rfl
  rw[n2] at o2
  show WC _ _ _ [.obj 9,.obj (fr [1,3,6,4,7,5,8,0] (Jv n4 77++[aZ [a,k,r]]).length n)] _ _ _
  rw[n2]
  generalize Mine.put [1,3,6,4,7,5,8,0] (Jv n4 77++[aZ [a,k,r]]) (FL (aZ n4::T))=H2 at *
  have VO:10≤10+(n-8):=by exact bC _ _
  generalize 10+(n-8)=n' at *
  have nd3:([9,n']:List Nat).Nodup:=by simp;exact bV (f9 0 VO rfl)
  have ln2:=(ao.mp o2).1
  have l3:∀i∈([9,n']:List Nat),i<H2.length:=by
   intro i hi
   simp only[br,bY,or_false] at hi
   exact aW [_,_,_] [] [.L (.l 10) aB,.T aB aM,.O (.E cf (.l 9)) (.E cf aB)] (.T cf aM) (.o (.k [1,1,0,1,1]) qO) rfl VO ln2 hi
  refine WC.frame [9,n'] (H₀:=[aZ [a,k,r],aZ xs]) (.of rfl nd3 ?_) (as₀:=[.obj 0,.obj 1]) rfl rfl (X₀:=fun _=>False)
   (Q₀:=fun v G=>∃m ys,v=.obj m∧bK ys∧ys.length≤8001∧G[m]?=some (aZ ys)) (Hw F hb (by decide) o VM Vq fun m T ys o h e=>⟨m,ys,rfl,o,h,e⟩) ?_ fun _ h=>h.elim
  ·exact⟨⟨fC,by rw[cC];exact b2⟩,⟨fC,by rw[cC];exact o2⟩,trivial⟩
  intro v G pU
  refine b0 pU fun m ys nF oy ly e3=>?_
  clear pU
  subst nF
  have po:∀j,j<9→(Mine.put [9,n'] H2 G)[j]?=H2[j]?:=fun j hj=>yB (by exact aW [_,_,_] [] [.L (.l 10) aB,.T aB aM,.T cf (.l 9)] (.T cf aM) tJ rfl VO ln2 hj) (by simp only[br,bY,or_false];exact aW [_,_] [] [.L (.l 10) aB,.T aM (.l 9)] (.N (.O (.E aM (.l 9)) (.E aM aB))) (.o xn (.k [0,1,1,1])) rfl VO hj)
  have f3:FI (Mine.put [9,n'] H2 G):=⟨(po 1 (by decide)).trans f2.f1,(po 3 (by decide)).trans f2.f3,(po 6 (by decide)).trans f2.f6,(po 4 (by decide)).trans f2.f4,(po 7 (by decide)).trans f2.f7,(po 5 (by decide)).trans f2.f5,(po 8 (by decide)).trans f2.f8⟩
  have o3:=(ff nd3 l3 e3).trans (congrArg some cC)
  refine WV.Ss o3 oy (by exact b9 ly rfl) ?_
  generalize Mine.put [9,n'] H2 G=H3 at *
  have T5:(ys.map fun x=>x.toNat.toUInt8).length≤100000:=by rw[aa];exact b9 ly rfl
  generalize (ys.map fun x=>x.toNat.toUInt8)=bs at *
  refine KY F f3 T5 (fun h H' f4=>?_) (fun v h nn p s H' hs f4 hp hs9 g1 g2=>?_)
  ·have e:=Dm bs T5
   rw[h] at e
   refine Ay F f4 T5 (fun _ H5 _=>?_) (fun o ho=>by rw[e] at ho;exact nS ho)
   refine WO.NM 0 (by decide) (ay 1 _) .ZI ?_
   exact .inl (q _)
  ·have e:=Dm bs T5
   rw[h] at e
   refine Ay F f4 T5 (fun h2=>by rw[e] at h2;exact nS (fZ h2)) (fun o ho nn2 p2 s2 H5 Hn keep g3 g4=>?_)
   rw[e] at ho
   replace ho:=ae ho
   subst ho
   have e1:=jz.uniq hs
   have e2:=jz.uniq Hn
   rw[show nn2=nn by rw[e1,e2];rfl] at g4
   refine WO.NM 5 (by decide) (ay 1 _) (gv.told rfl (keep _ _ hp g1) g3 (keep _ _ hs9 g2) g4) ?_
   exact .inl (q _)
end
end
section
open PySem PySem.W PySem.Calls PyProof.Rows
theorem C6 {v:ai}{i:Int}(e:vInt v=some i):∃t,v=.int i t:=by
 cases v with
 |int=>replace e:=ae e;subst e;exact⟨_,rfl⟩
 |_=>exact nS e
theorem J9 {v:ai}{i:bu}(e:vStr v=some i):∃t,v=.str i t:=by
 cases v with
 |str=>replace e:=ae e;subst e;exact⟨_,rfl⟩
 |_=>exact nS e
theorem Dk {v:ai}{i:aD}(e:Ov v=some i):v=.ref i:=by
 cases v with
 |ref=>replace e:=ae e;subst e;rfl
 |_=>exact nS e
theorem PN {v:ai}{i:String}(e:vTy v=some i):v=.type i:=by
 cases v with
 |type=>replace e:=ae e;subst e;rfl
 |_=>exact nS e
theorem Dp {d:Data}{xs:Array ai}(e:OG d=some xs):∃n,d=.seq xs n:=by
 cases d with
 |seq=>replace e:=ae e;subst e;exact⟨_,rfl⟩
 |_=>exact nS e
theorem G6 {d:Data}{xs:Array ej}(e:ME d=some xs):∃n,d=.dict xs n:=by
 cases d with
 |dict=>replace e:=ae e;subst e;exact⟨_,rfl⟩
 |_=>exact nS e
theorem zK {K:gg}{v:ai}{T:String}{o:ou}(e:G8 K v T=some o):∃a,v=.ref a∧K.lookup a=some o∧o.cls=.type T:=by
 refine aq (dS e) fun a ha e=>?_
 refine aq (dS e) fun o' ho e=>?_
 have e:=I7 e
 exact⟨a,Dk ha,e.2▸ho,e.2▸PN (eq_of_beq e.1)⟩
theorem AB {K:gg}{v:ai}{xs:Array ai}(e:HP K v=some xs):∃a o n,v=.ref a∧K.lookup a=some o∧o.cls=.type "tuple"∧o.data=.seq xs n:=by
 refine aq (dS e) fun o ho e=>?_
 refine al (zK ho) fun a h=>?_
 refine al (Dp e) fun n e=>?_
 exact⟨a,o,n,h.1,h.2.1,h.2.2,e⟩
theorem EC {K:gg}{v:ai}{xs:Array ej}(e:dictAt K v=some xs):∃a o n,v=.ref a∧(a==gh)=false∧K.lookup a=some o∧o.ExactDict∧o.data=.dict xs n:=by
 refine aq (dS e) fun o ho e=>?_
 refine al (zK ho) fun a h=>?_
 cases q:!(v==.ref gh)&&(o.dict.isNone&&o.slots.size==0) with
 |false=>rw[q] at e;exact nS e
 |true=>
  rw[q] at e
  have q:=dX q
  have q2:=dX q.2
  refine al (G6 e) fun n e=>?_
  refine⟨a,o,n,h.1,beq_eq_false_iff_ne.mpr fun z=>?_,h.2.1,⟨h.2.2,md.mp q2.1,Array.eq_empty_of_size_eq_zero (beq_iff_eq.mp q2.2)⟩,e⟩
  have q:=q.1
  rw[h.1,z,beq_self_eq_true] at q
  exact fT q
theorem xY {α:Type}{l:List α}{x:α}(h:l.head?=some x):l=x::l.tail:=by
 cases l with
 |nil=>exact nS h
 |cons y l=>replace h:=ae h;subst h;rfl
structure XV (c:Cx) (h:cb) (α:Am) (xs:List (Int×AV)) (es:List ej) (kv:List (Int×ai)):Prop where
 r:da c h α xs kv
 p:Pairs (ia c.prog c.w) es kv
 k:∀e∈es,∃k,(ia c.prog c.w).is k e.key=true∧e.hash=(ia c.prog c.w).hash k
 m:kv.map (·.1)=xs.map (·.1)
section
variable {c:Cx}{h:cb}{α:Am}
theorem zI {xs:List AV}(k:∀x∈xs,∀{v:ai},B2 c.K x v=true→bO c h α x v):∀{vs:List ai},w0 c.K xs vs=true→bq c h α xs vs:=by
 induction xs with
 |nil=>exact fun e=>fL.mp e
 |cons x xs ih=>exact fun e=>aq (ei e) fun v q e=>⟨v,_,xY q,k x aI (dX e).1,ih (fun y hy=>k y (aG _ hy)) (dX e).2⟩
theorem ID {xs:List (Int×AV)}(k:∀x∈xs,∀{v:ai},B2 c.K x.2 v=true→bO c h α x.2 v):∀{es:List ej},HO c.K xs es=true→∃kv,XV c h α xs es kv:=by
 induction xs with
 |nil=>exact fun e=>⟨[],rfl,(fL.mp e).symm▸.nil,fun _ h=>(nomatch (fL.mp e▸h :)),rfl⟩
 |cons x xs ih=>
  intro es e
  refine aq (ei e) fun en q e=>?_
  have e:=dX e
  have e2:=dX e.2
  have e3:=dX e2.2
  refine al (C6 (eq_of_beq e.1)) fun t ht=>?_
  refine al (ih (fun y hy=>k y (aG _ hy)) e3.2) fun kv f=>?_
  have z:(ia c.prog c.w).is x.1 en.key=true:=ht▸beq_self_eq_true x.1
  rw[xY q]
  exact⟨(x.1,en.val)::kv,⟨_,_,rfl,k x aI e3.1,f.r⟩,.cons z rfl f.p,gj.mpr ⟨⟨x.1,z,of_decide_eq_true e2.1⟩,f.k⟩,congrArg _ f.m⟩
theorem zh (hk:c.K.In c.hb) (hs:∀b o,c.hb.get? b=some o→h.get? b=some o){x:AV}:∀{v:ai},B2 c.K x v=true→bO c h α x v:=
 AV.ind (P:=fun x=>∀{v:ai},B2 c.K x v=true→bO c h α x v) (fun e=>fT e) (fun _ _ e=>fT e) (fun _ _ e=>C6 (eq_of_beq e)) (fun _ _ e=>J9 (eq_of_beq e)) (fun _ _ e=>fT e) (fun _ _ e=>eq_of_beq e) (fun _ _ e=>fT e)
  (fun vs ih v e=>aq (ei e) fun xs q e=>cx (AB q) fun a o n q0 ho q1 q2=>⟨a,xs,q0,⟨_,hs _ _ (hk _ _ ho),q1,_,q2⟩,zI ih e⟩)
  (fun kvs ih v e=>aq (ei e) fun es q e=>cx (EC q) fun a o n qv q0 ho gD=>al (ID ih (dX e).1) fun kv f=>
   ⟨a,kv,qv,q0,⟨_,_,_,hk _ _ ho,gD.1,gD.2,fun x hx=>f.k x (Array.mem_toList_iff.mpr hx),f.p,f.m▸of_decide_eq_true (dX e).2⟩,f.r⟩) x
theorem EK (hk:c.K.In c.hb) (hs:∀b o,c.hb.get? b=some o→h.get? b=some o){xs:List AV}{vs:List ai}:w0 c.K xs vs=true→bq c h α xs vs:=zI fun _ _=>zh hk hs
end
theorem IX {a:AV}{v:ai}(e:FQ a=some v):a=.fix v:=by
 cases a with
 |fix=>replace e:=ae e;subst e;rfl
 |_=>exact nS e
theorem Ed {c:Cx}{v:ai}(e:UY v=true):gX c v:=by
 cases v with
 |builtin=>exact .inr (.inl ⟨_,rfl⟩)
 |type=>exact .inr (.inr ⟨_,rfl⟩)
 |_=>exact fT e
theorem OY {c:Cx}(hk:c.K.In c.hb){x:bu}{a:AV}(e:VH c.K x a=true):Zm c x a∨∃v,a=.fix v∧Yd c x v:=by
 refine aq (ei e) fun r hr e=>?_
 refine xQ e (fun v ev q=>.inl ⟨v,hr.trans (congrArg some ev),fun h α hs=>zh hk hs (dX q).1⟩) fun er q=>?_
 refine aq (ei q) fun v hv q=>?_
 have q:=dX q
 exact .inr ⟨v,IX hv,hr.trans (congrArg some er),eq_of_beq q.1,beq_eq_false_iff_ne.mp ((m7 _).mp (dX q.2).2)⟩
theorem Qz {c:Cx}{x:bu}{v:ai}(e:VH c.K x (.fix v)=true):gX c v:=by
 refine aq (ei e) fun r hr e=>?_
 exact xQ e (fun _ _ q=>.inl (dX q).2) fun _ q=>Ed (dX (dX q).2).1
theorem NY {K:gg}{C:aD}{x:bu}(e:ftB K C x=true):yA K C x∧Dq K C x:=by
 have e1:=dX e
 have e2:=dX e1.2
 have e3:=dX e2.2
 have e4:=dX e3.2
 have e5:=dX e4.2
 have e6:=dX e5.2
 exact⟨⟨e1.1,e2.1,ei e3.1⟩,⟨eq_of_beq e4.1,e5.1,eq_of_beq e6.1,e6.2⟩⟩
theorem PE {K:gg}{C f:aD}{x:bu}(e:mtB K C x f=true):yg K C x f:=by
 have e1:=dX e
 have e2:=dX e1.2
 have e3:=dX e2.2
 exact⟨e1.1,eq_of_beq e2.1,e3.1,e3.2⟩
theorem Ob {K:gg}{C I:aD}(e:mkB K (C,I)=true):Bz K C I:=by
 have e1:=dX e
 have e2:=dX e1.2
 exact⟨e1.1,eq_of_beq e2.1,eq_of_beq e2.2⟩
theorem zW {d:Data}{fd:eJ}(e:Hk d=some fd):d=.func fd:=by
 cases d with
 |func=>replace e:=ae e;subst e;rfl
 |_=>exact nS e
theorem H9 {k:ScopeKind}(e:Nl k=true):k=.function:=by
 cases k with
 |function=>rfl
 |_=>exact fT e
noncomputable def xC (p:Fi):Bool:=p.posonlyargs.isEmpty&&(p.vararg.isNone&&(p.kwonlyargs.isEmpty&&(p.kwarg.isNone&&decide (p.args.map (·.arg)).Nodup)))
noncomputable def Qo (ps:List bu) (ns:List (bu×bc)):Bool:=decide (ns.map (·.1)).Nodup&&(ns.all (fun p=>!(p.2==.free)&&!(p.1==("__debug__":bu)))&&(bh ps.length).all (fun j=>match ps[j]?,ns[j]? with
  |some x,some (y,k)=>x==y&&(k==.local||k==.cell)
  |_,_=>false))
noncomputable def B8 (s:Option eF):Bool:=xC (qD s)&&Qo (jZ s) (namesOf s)
theorem zC:FN.all (fun e=>B8 e.2.1)=true:=by decide +kernel
end
section
open PySem PySem.W PySem.Calls PyProof.Rows
theorem Ab {ps:List bu}:∀{vs:List ai}{x:bu},vs.length=ps.length→x∈ps→((ps.zip vs).lookup x).isSome=true:=by
 induction ps with
 |nil=>intro vs x _ h;cases h
 |cons p ps ih=>
  intro vs x hl h
  cases vs with
  |nil=>cases hl
  |cons v vs=>
   rw[FA,dJ]
   cases q:x==p with
   |true=>rfl
   |false=>exact ih (q9 hl) ((br.mp h).resolve_left (beq_eq_false_iff_ne.mp q))
theorem IJ {α β:Type}{f g:α→Option β}{l:List α}:(∀x∈l,f x=g x)→l.filterMap f=l.filterMap g:=by
 induction l with
 |nil=>exact fun _=>rfl
 |cons x l ih=>
  intro h
  rw[rd,rd,h x aI,ih fun y hy=>h y (aG _ hy)]
theorem LL {ps:List bu}:∀{vs:List ai},vs.length=ps.length→ps.Nodup→ps.filterMap (fun n=>((ps.zip vs).lookup n).map (n,·))=ps.zip vs:=by
 induction ps with
 |nil=>intro vs _ _;rfl
 |cons p ps ih=>
  intro vs hl hn
  cases vs with
  |nil=>cases hl
  |cons v vs=>
   have hn:=dq.mp hn
   rw[FA,rd,List.lookup_cons_self]
   refine congrArg ((p,v)::·) (ow (IJ fun x hx=>?_) (ih (q9 hl) hn.2))
   rw[dJ,show(x==p)=false from beq_eq_false_iff_ne.mpr fun e=>hn.1 (e▸hx)]
theorem J0 {f:bu×ai→List (bu×ai)→rU (ForInStep (List (bu×ai)))}{b:List (bu×ai)}{l:List (bu×ai)}:(∀p∈l,f p b=pure (.yield b))→forIn l b f=pure b:=by
 induction l with
 |nil=>exact fun _=>rfl
 |cons p l ih=>
  intro h
  rw[wh,h p aI]
  exact ih fun p hp=>h p (aG _ hp)
theorem EV {p:Fi}(h:xC p=true):∃as kd df,p=⟨[],as,none,[],kd,none,df⟩∧(as.map (·.arg)).Nodup:=by
 obtain⟨po,as,va,ko,kd,kw,df⟩:=p
 have h:=dX h
 have h2:=dX h.2
 have h3:=dX h2.2
 have h4:=dX h3.2
 cases fL.mp h.1
 cases md.mp h2.1
 cases fL.mp h3.1
 cases md.mp h4.1
 exact⟨as,kd,df,rfl,of_decide_eq_true h4.2⟩
theorem LQ {ps:List bu}{vs:List ai}(hl:vs.length=ps.length) (n:Nat):(List.filter (fun n=>((ps.zip vs).lookup n).isNone) (ps.take n)).isEmpty=true:=by
 rw[fL,AY]
 intro x hx
 rw[wj.mpr (Ab hl (qt hx))]
 exact fN
theorem Ot {α β:Type}{x:rU α}{a:α}{k:α→rU β}{r:rU β}(h:x=pure a) (q:k a=r):x >>= k=r:=by rw[h];exact q
theorem yY {fd:eJ}{vs:List ai}(h:xC fd.params=true) (hl:vs.length=(fd.params.args.map (·.arg)).length) :
  ∃k:Option (Array ai)→rU (List (bu×ai)),bindArgs fd ⟨vs,[]⟩=seqItems? fd.defaults >>= k∧∀it,k it=pure ((fd.params.args.map (·.arg)).zip vs):=by
 refine eD (EV h) fun as kd df e hn=>?_
 cases fd
 subst e
 replace hl:vs.length=(as.map (·.arg)).length:=hl
 refine⟨_,rfl,fun it=>?_⟩
 refine(if_neg fun q=>absurd (of_decide_eq_true (dX q).1) (hl▸gq _)).trans ?_
 refine(if_neg fun q=>fT ((congrArg not (LQ hl _)).symm.trans q)).trans ?_
 refine Ot (J0 (b:=(as.map (·.arg)).zip vs) fun p hp=>?_) ?_
 ·exact if_neg fun q=>fT ((wj.mpr (Ab hl (kN (List.of_mem_zip hp).1))).symm.trans q)
 ·exact congrArg (pure (f:=rU)) ((congrArg (List.filterMap _) (cK _)).trans (LL hl hn))
end
section
open PySem PySem.W PySem.Calls PyProof.Rows
theorem z9 (s:Option eF):jZ s=(qD s).args.map (·.arg):=by
 cases s with
 |none=>rfl
 |some s=>cases s<;>rfl
structure FP (K:gg) (f:aD) (s:Option eF) (o:ou) (fd:eJ):Prop where
 at_:K.lookup f=some o
 data:o.data=.func fd
 body:fd.body=.stmts (iI s)
 params:fd.params=qD s
 names:fd.scope.names=namesOf s
 ok:GA K fd=true
theorem vM {K:gg}{f:aD}{s:Option eF}(e:pG K f=pE s):∃o fd,FP K f s o fd:=by
 refine aq (dS (show jn (K.lookup f) _=some _ from e)) fun o ho e=>?_
 refine aq (dS e) fun fd hd e=>?_
 have e:=ae e
 exact⟨o,fd,ho,zW hd,congrArg lZ.body e,congrArg lZ.params e,congrArg lZ.names e,congrArg lZ.ok e⟩
theorem Kq {b:Bool}(h:(!b)=true):b=false:=(m7 _).mp h
structure XM (K:gg) (f:aD) (s:Option eF) (fd:eJ):Prop where
 d:qf K f fd (iI s) (jZ s)
 n:fd.scope.names=namesOf s
 g:∀p∈namesOf s,(p.1==("__debug__":bu))=false
 a:xC fd.params=true
 p:fd.params=qD s
 f:Ut K fd.defaults=true
theorem zJ {K:gg}{f:aD}{s:Option eF}{o:ou}{fd:eJ}(h:FP K f s o fd) (p:B8 s=true):XM K f s fd:=by
 obtain⟨oc,od,d,sl⟩:=o
 have hd:d=.func fd:=h.data
 have p1:=dX p
 have p2:=dX p1.2
 have p3:=dX p2.2
 have a1:=dX h.ok
 have a2:=dX a1.2
 have a3:=dX a2.2
 have a4:=dX a3.2
 have a5:=dX a4.2
 have a6:=dX a5.2
 have a7:=dX a6.2
 refine⟨⟨⟨_,_,_,hd▸h.at_⟩,h.body,fL.mp a1.1,ig a2.1,ig a3.1,Kq a4.1,Kq a5.1,H9 a6.1,a7.1,h.names▸of_decide_eq_true p2.1,fun q hq=>?_,h.names▸p3.2⟩,h.names,fun q hq=>Kq (dX (ba.mp p3.1 q hq)).2,h.params▸p1.1,h.params,a7.2⟩
 exact beq_eq_false_iff_ne.mp (Kq (dX (ba.mp p3.1 q (h.names▸hq))).1)
theorem Af {K:gg}{f:aD}{s:Option eF}(e:pG K f=pE s) (p:B8 s=true):M7 K f s:=by
 refine fX (vM e) fun o fd h=>?_
 have h:=zJ h p
 refine⟨fd,h.d,h.n,h.g,fun sh vs hk hl=>?_⟩
 rw[z9,←h.p] at hl ⊢
 refine aq (yY h.a hl) fun k q1 q2=>?_
 refine(Bool.or_eq_true_iff.mp h.f).elim (fun z=>?_) fun z=>?_
 ·rw[eq_of_beq z] at q1
  exact wM.of_eq (q1.trans (q2 none))
 ·refine aq (ei z) fun T hT z=>?_
  refine aq (ei z) fun o ho z=>?_
  refine al (xt.mp z) fun xs hx=>?_
  refine al (Dp hx) fun n hn=>?_
  exact AZ (Dk hT) (hk _ _ ho) hn q1 (q2 _)
theorem kW {β:Type}{x:aD}{b:β}{l:List (aD×β)}:kK l x=some b→(x,b)∈l:=by
 induction l with
 |nil=>exact nS
 |cons p r ih=>
  intro h
  replace h:(bif tQ p.1 x then some p.2 else kK r x)=some b:=h
  cases e:tQ p.1 x with
  |true=>rw[e] at h;replace h:=ae h;subst h;cases ig e;exact aI
  |false=>rw[e] at h;exact aG _ (ih h)
theorem Il {x:bu}{l:List bu}:IE l x=true→x∈l:=by
 induction l with
 |nil=>exact fT
 |cons y r ih=>
  intro h
  replace h:(bif y==x then true else IE r x)=true:=h
  cases e:y==x with
  |true=>cases eq_of_beq e;exact aI
  |false=>rw[e] at h;exact aG _ (ih h)
section
variable {c:Cx}
theorem Pm (hk:c.K.In c.hb) (hb:c.bd=88) (e:rq c.K=rl):eW c:=by
 have e1:FN.map (fun e=>pG c.K e.1)=FN.map fun e=>pE e.2.1:=congrArg s6.defs e
 have e2:=congrArg s6.init e
 have e3:=congrArg s6.bd e
 have e4:=congrArg s6.ok e
 have b1:=dX (show YN c.K=true from e4)
 have b2:=dX b1.2
 have b3:=dX b2.2
 have b4:=dX b3.2
 have r1:=dX (dX b4.2).1
 have r2:=dX r1.2
 have r3:=dX r2.2
 have r4:=dX r3.2
 have hg:∀{x:bu}{a:AV},(x,a)∈GT→VH c.K x a=true:=fun{x a} h=>by
  refine aq (dI.mp h) fun p hp q=>?_
  cases q
  exact ba.mp b1.1 p hp
 refine⟨fun h=>OY hk (hg h),fun h=>Qz (hg h),fun{C x} h=>?_,fun{C x f} h=>?_,?_,fun{C I} h=>Ob (ba.mp b4.1 _ (kW h)),fun{f s is} h=>?_⟩
 ·replace h:(match kK FT C with | some l=>IE l x | none=>false)=true:=h
  cases hl:kK FT C with
  |none=>rw[hl] at h;exact fT h
  |some l=>rw[hl] at h;exact NY (ba.mp (ba.mp b2.1 _ (kW hl)) _ (Il h))
 ·replace h:(match kK MT C with | some l=>km l x | none=>none)=some f:=h
  cases hl:kK MT C with
  |none=>rw[hl] at h;exact nS h
  |some l=>rw[hl] at h;exact PE (ba.mp (ba.mp b3.1 _ (kW hl)) _ (pN h))
 ·rw[hb]
  refine fG (Af (f:=48) e2 (by decide +kernel)) fun fd D h2 _ h3=>?_
  have s1:=dX r3.1
  have s2:=dX s1.2
  have s3:=dX s2.2
  refine⟨⟨48,fd,⟨⟨_,_,_,_,_,_,_,_,_,_,_,_,_,_,_,_,e3.trans rfl,?_,?_,?_,?_,?_⟩,eq_of_beq r1.1,eq_of_beq r2.1,⟨eq_of_beq s1.1,s2.1,eq_of_beq s3.1,s3.2⟩,⟨_,_,_,_,D⟩,h2.trans (by decide +kernel),fun x y s hs=>?_⟩⟩,.inl r4.1,eq_of_beq r4.2⟩
  ·exact by decide +kernel
  ·exact by decide +kernel
  ·exact by decide +kernel
  ·exact by decide +kernel
  ·exact by decide +kernel
  ·exact h3 s [x,y] hs rfl
 ·have p:=ba.mp zC _ (kW h)
  exact Af (Jo.mp e1 _ (kW h)) p
end
end
section
open PySem PySem.W PySem.Calls PyProof.Rows
theorem DJ {fd:eJ}(hp:fd.params=qD (df 32)) (v1 v2 d1 d2 d3 d4:ai) :
  ∃k:Option (Array ai)→rU (List (bu×ai)),bindArgs fd ⟨[v1,v2],[]⟩=seqItems? fd.defaults >>= k∧k (some #[d1,d2,d3,d4])=pure ((jZ (df 32)).zip [v1,v2,d1,d2,d3,d4]):=by
 cases fd
 cases (show _=qD (df 32) from hp)
 refine⟨_,rfl,?_⟩
 kernel_rfl
theorem D8 {K:gg}{xs:List AV}:∀{vs:List ai},w0 K xs vs=true→vs.length=xs.length:=by
 induction xs with
 |nil=>exact fun e=>congrArg _ (fL.mp e)
 |cons x xs ih=>
  intro vs e
  refine aq (ei e) fun v q e=>?_
  rw[xY q]
  exact congrArg (·+1) (ih (dX e).2)
theorem Yx {α:Type}{l:List α}(h:l.length=4):∃a b c d,l=[a,b,c,d]:=by
 rcases l with _ | ⟨a,_ | ⟨b,_ | ⟨c,_ | ⟨d,_ | ⟨e,l⟩⟩⟩⟩⟩
 ·cases h
 ·cases h
 ·cases h
 ·cases h
 ·exact⟨a,b,c,d,rfl⟩
 ·cases h
theorem JR {c:Cx}(hk:c.K.In c.hb) (e:rq c.K=rl):GF c:=by
 have e1:FN.map (fun e=>pG c.K e.1)=FN.map fun e=>pE e.2.1:=congrArg s6.defs e
 have b1:=dX (show YN c.K=true from congrArg s6.ok e)
 have b6:=(dX (dX (dX (dX b1.2).2).2).2).2
 have hm:((267:aD),(df 32,[25,27,21,92,102,43,44]))∈FN:=kW (by rfl)
 refine fX (vM (Jo.mp e1 _ hm)) fun o fd h=>?_
 have k:=zJ h (ba.mp zC _ hm)
 refine aq (ei b6) fun o' ho b6=>?_
 refine aq (ei b6) fun fd' hf b6=>?_
 cases ho.symm.trans h.at_
 cases (zW hf).symm.trans h.data
 refine aq (ei b6) fun l q b6=>?_
 refine cx (AB q) fun a o2 n hd hl _ Wo=>?_
 refine⟨fd,l.toList,k.d,k.n,k.g,fun s α hs=>⟨EK hk hs b6,fun v1 v2=>?_⟩⟩
 refine fX (Yx (D8 b6)) fun d1 d2 gD=>?_
 refine fX gD fun d3 d4 z=>?_
 obtain⟨l⟩:=l
 cases (show l=_ from z)
 refine aq (DJ k.p v1 v2 d1 d2 d3 d4) fun k q1 q2=>?_
 exact AZ hd (hs _ _ (hk _ _ hl)) Wo q1 q2
end
section
open PySem PySem.W PySem.Calls PyProof.Rows
noncomputable def YP (w:iN) (h:cb):Prop:=∃K:gg,K.In h∧rq K=rl
set_option tactic.hygienic true in
theorem T8 {K:gg}{h:cb}{m:bu→Option ai}{a:aD}{x:bu}{v:ai}(hk:K.In h) (hn:h.Ns a m) (e:EX K a x=some (some v)):m x=some v:=by
 obtain⟨o,es,ep,ho,hd,_,hf⟩:=hn
 unfold EX at e
 split at e
 ·rename_i oc od es' n sl jQ
  have e2:=hk _ _ jQ
  rw[ho] at e2
  cases e2
  cases hd
  split at e
  ·rename_i en uh
   cases e
   rw[←hf x]
   show(es.find? fun e=>e.key.isStr x).map (·.val)=_
   rw[←Array.find?_toList,uh]
   rfl
  ·split at e<;>cases e
 ·cases e
theorem F2 {w:iN}{bf:aH}{mg mb:bu→Option ai}(T:TopRead qv (looseW qv lo) mg mb bf.heap) (Y:YP w bf.heap){a l:aD}{vs:Array ai}{ns:List Int}(Xc:mg "law"=some (.ref a)) (hl:bf.heap.IsList l vs) (hi:oC vs.toList ns) (hz:ns.length≤1000000)
  {R:sP→aH→Prop}(h:∀s',(∀b o,bf.heap.get? b=some o→s'.heap.get? b=some o)→s'.os=bf.os→s'.gens=bf.gens→R (.ok (.ret (.bool true))) s') :
  ic (kg rp w) callerA (.call (.ref a) ⟨[.ref l],[]⟩) R bf:=by
 obtain⟨K,hk,hs⟩:=Y
 have F:eW ⟨rp,w,bf.heap,K,qv,looseW qv lo,mg,mb,88,(bf.gens,bf.os)⟩:=Pm hk rfl hs
 have D:GF ⟨rp,w,bf.heap,K,qv,looseW qv lo,mg,mb,88,(bf.gens,bf.os)⟩:=JR hk hs
 have ha:a=626:=by
  rcases F.gt (x:="law") (a:=.fix (.ref 626)) (pN (by rfl)) with⟨v,e,r⟩ | ⟨v,e,e1,e2,_⟩
  ·have e3:=T8 hk T.g e
   rw[Xc] at e3
   cases e3
   have:=(r bf.heap [] fun _ _ e=>e).fix
   cases this
   rfl
  ·cases e
   exact absurd e2 (by decide +kernel)
 subst ha
 refine qU (Sb (d:=0) (Q:=fun v _=>v=.bool true) (X:=fun _=>False) F D hl hi hz (fun _=>rfl) callerA [] bf [.ref l]
  ⟨⟨hk,T⟩,⟨by decide,by decide,rfl⟩,⟨rfl,fun{n x p} e=>(nomatch e),fun{i j p q} e=>(nomatch e),fun _ _ e=>e,fun b ⟨n,p,e,_⟩=>(nomatch e)⟩,⟨⟨[],rfl,trivial,fun _ h=>(nomatch h)⟩,rfl⟩⟩ (eC So jD)) fun r s' p=>?_
 rcases r with x | (v | _ | _ | _)<;>first | exact p.elim | skip
 ·obtain⟨_,_,_,_,_,_,_,_,q⟩:=p
  exact q.elim
 ·obtain⟨_,bD,H',m,_,k,r,rfl⟩:=p
  cases r.bool
  have st:=k.lq
  exact h s' (fun b o e=>m.keep e (fun⟨n,p,e,_⟩=>(nomatch e)) (fun q=>q) fun⟨l,en,e1,e2,_⟩=>by cases e1;cases e2) (congrArg Prod.snd st) (congrArg Prod.fst st)
end
section
open PySem PySem.W PySem.Calls PyProof.Rows
theorem RG:E5 PySem.Challenge.rw_rg0159_01=true:=by
 delta E5
 repeat' with_reducible refine FD ?_ ?_
 ·delta OpenRow.wellSaid
  repeat' with_reducible refine FD ?_ ?_
  ·delta OpenRow.partSaid
   repeat' with_reducible refine FD ?_ ?_
   ·delta looksOpen
    repeat' with_reducible refine FD ?_ ?_
    all_goals decide +kernel
   all_goals decide +kernel
  all_goals decide +kernel
 all_goals decide +kernel
set_option tactic.hygienic true in
theorem Yz:PySem.Challenge.rw_rg0159_01.Holds:=by
 refine holds_law RG fun aak=>?_
 refine W.holds_open (q:=qv) (loose:=lo) (Xt:=Xt) (XP:=XL qv []) (Yf:=Lz) (Ya:=fun _=>True) (YP:=YP) (N:=6000) left (fun w s e=>of_eq_true e) (fun w h h' ⟨K,a,b⟩ k=>⟨K,a.keeps k,b⟩)
  (fun s e=>xl_of s (aR.mp e).1) XL.keeps (by rfl) (by rfl) (by rfl) (fun s e=>recFacts_of (aR.mp e).2) (by rfl) (by first | assumption | decide +kernel) (by decide +kernel) ⟨rfl,rfl,rfl,rfl,rfl,by decide +kernel⟩ ?hw ?hc
 case hw=>exact⟨[.list []],by decide +kernel,by decide +kernel⟩
 intro w aai bf mg mb G Y a o pm cd doc dV kV ho hd XR hD Xc hg args aap as hpre hlay hrd hwl hlo
 wrow_args hpre hlay hrd hwl hlo
 rename_i ns _ _ _ _ _ _ _ l vs _ hl _ _ _ hi _ hz _
 refine enter_call (F2 (topRead_of G.T) Y Xc hl (by simpa using hi) (by omega) fun s' k ho hgs=>?_)
 refine⟨.inl ⟨_,_,_,rfl,fun _=>rfl,.bool true,?_,fun _=>⟨.nil,fun _ h=>(nomatch h)⟩⟩,.of_keep k,ho,.of_eq (hgs.trans hg)⟩
 wrow_post
end
end Mine
theorem PySem.Challenge.cw_rg0159_01_holds : PySem.Challenge.rw_rg0159_01.Holds :=
  Mine.Yz
