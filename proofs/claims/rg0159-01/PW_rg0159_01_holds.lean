import PyProof.Rows.All
import Wide.All
import Wide.FinOn
import KE.KBytesCut
import KE.KRevSl
import KE.IntBitsLaws
import KE.KDictList
import KE.KDictOf
import KE.KStateDown
import Lean
import PySem.Challenge.RW_rg0159_01
set_option tactic.hygienic false
set_option Elab.async false
set_option autoImplicit false
set_option linter.all false
set_option maxRecDepth 100000
set_option maxHeartbeats 0
set_option genInjectivity false
set_option genSizeOfSpec false
namespace Mine
open Array renaming length_toList → dw, getElem?_toList → eK, toArray_toList → kL, getElem?_eq_some_iff → lT, any_toList → tR, getElem?_eq_getElem → xr, toList_append → Dx
open Bool renaming and_eq_true_iff → aS, false_ne_true → fN, and_eq_true → gJ, eq_iff_iff → k8, not_eq_true' → m9, false_or → ni, and_false → qq, false_and → xp, and_true → yS, false_eq_true → Fq, eq_false_iff → I8, or_eq_true → L6, true_and → QD, or_false → QP
open Classical renaming byContradiction → uk
open Decidable renaming not_not → jk, of_not_not → yE
open Eq renaming symm → fZ, trans → oA
open Exists renaming elim → al
open False renaming elim → eu
open ForInStep renaming yield → iP
open Int renaming eq_ofNat_of_zero_le → cI, ofNat_lt → c0, le_refl → dR, ofNat_le → dZ, natCast_nonneg → fR, toNat_natCast → gm, le_of_lt → iZ, not_lt → jE, emod_lt_of_pos → jF, emod_nonneg → lE, le_trans → lR, max_eq_right → oj, add_zero → pw, le_of_eq → pA, add_nonneg → qR, toNat_of_nonneg → rP, min_eq_right → vQ, mul_one → wa, neg_one_mul → wI, min_eq_left → wJ, fdiv_eq_ediv_of_nonneg → yF, zero_add → B9, le_total → Cb, pow_succ → Cd, sub_nonpos_of_le → EW, sub_nonneg_of_le → EX, add_le_add_right → E2, toNat_of_nonpos → Fi, toNat → Me, max_eq_left → Nq, le_antisymm → Nz, add_assoc → Rf, ofNat_sub → Rg
open Int.ofNat renaming inj → fY
open List renaming length_map → aa, length_append → ah, getElem?_eq_some_iff → ao, getElem?_eq_getElem → aw, getElem?_append_left → aC, map_append → aF, mem_cons_of_mem → aG, mem_cons_self → aI, length_drop → aJ, getElem?_map → aK, getElem?_append_right → aY, length_range → a8, mem_of_getElem? → a9, all_eq_true → ba, range → bh, mem_cons → br, getD_eq_getElem?_getD → bt, length_singleton → bA, replicate → bH, map_cons → bY, not_mem_nil → bZ, length_take → cj, length_cons → cC, getElem?_drop → cG, getElem?_eq_none → cH, getElem?_range → cJ, append_nil → cM, getElem?_set_ne → cO, mem_singleton → cU, mem_range → dg, nodup_cons → du, map_map → dy, length_eq_zero_iff → dE, lookup → dG, length_set → dH, mem_map → dJ, lookup_cons → dK, take_of_length_le → dM, drop_eq_nil_of_le → dN, getElem?_set_self → ew, mem_append → eG, mem_iff_getElem? → eO, length_replicate → eP, isEmpty_iff → fL, take_add_one → gi, forall_mem_cons → gj, nodup_nil → gF, lookup_eq_none_iff → gG, drop_eq_getElem_cons → i3, map_congr_left → i7, replicate_succ → i8, length_nil → jl, take_length → kE, mem_of_mem_drop → kR, range_eq_range' → kS, set_set → lL, nodup_append → m7, length → m8, size_toArray → nc, foldl_cons → pB, mem_of_mem_take → qt, filterMap_cons → q9, any_cons → rQ, append_ne_nil_of_right_ne_nil → rT, any_eq_true → um, nodup_range → uq, getElem_mem → ur, range' → vY, find?_cons → wc, forIn_cons → wg, drop_drop → xo, getElem?_take_of_lt → yQ, map_drop → yT, eq_of_mem_replicate → yU, range_succ_eq_map → AN, length_eq_one_iff → AO, all_map → AQ, filter_eq_nil_iff → AW, length_mergeSort → Ce, getElem?_toArray → Ck, set_append_right → Cp, eq_nil_or_concat → Cq, concat_eq_append → Cr, set_getElem_self → Cs, mem_append_left → Dw, getLast?_concat → Dy, dropLast_concat → Dz, mem_filterMap → Fh, zip_cons_cons → Fy, getElem?_inj → I9, ext_getElem? → Jc, reverse_cons → Jf, flatten_cons → Jl, map_inj_left → Jm, cons_ne_nil → JB, filter_cons → JH, getElem_map → JI, drop_take → Nr, mergeSort → Nu, map → NA, all_cons → QN, map_take → QO, map_nil → Rp
open List.MergeSort.Internal renaming splitInTwo → lF
open List.Perm renaming eq_of_pairwise → v3
open List.cons renaming inj → Fo
open Nat renaming le_add_left → ay, le_trans → az, le_refl → aA, le_of_ble_eq_true → aE, le_of_not_lt → aR, lt_of_lt_of_le → aV, lt_of_not_le → bq, le_succ_of_le → bz, le_add_right → bC, le_of_eq → bF, not_lt_of_le → bL, ne_of_lt → bV, le_succ → bX, lt_of_le_of_lt → cq, ble → cw, zero_le → cR, add_le_add_right → cS, succ_le_of_lt → dk, le_of_lt → dC, lt_succ_self → d7, ble_eq_true_of_le → eR, le_of_lt_succ → fp, add_sub_cancel_left → fq, min_eq_left → fv, add_comm → fJ, le_of_sub_eq_zero → fV, lt_irrefl → gq, add_le_add_left → gI, succ_le_succ → gR, ne_of_gt → gY, sub_self → gZ, eq_of_beq_eq_true → ig, blt → ik, not_le_of_lt → i0, lt_of_add_lt_add_left → i6, le_zero → jI, exists_eq_add_of_le → jJ, lt_succ_of_le → j7, lt_succ_of_lt → j8, lt_of_le_of_ne → mA, le_of_succ_le → ng, sub_pos_of_lt → nh, add_assoc → nM, min_eq_right → oh, succ_ne_zero → om, zero_add → pz, lt_or_ge → pC, mul_le_mul_right → qS, sub_le → sM, add_right_comm → sN, beq → tP, lt_of_succ_lt → tQ, sub_sub_self → vR, mod_eq_of_lt → vU, succ_lt_succ → vZ, one_mul → wh, le_total → Ca, le_of_succ_le_succ → Cc, sub_eq_zero_of_le → Dt, le_sub_of_add_le' → Du, sub_ne_zero_of_lt → Dv, sub_lt_sub_left → Fj, sub_le_sub_left → Fl, add_sub_cancel' → Fx, not_lt → Jd, div_eq_of_lt → L2, pred_le_pred → L4, mul_add_mod → Nn, mul_add_div → Np, le_antisymm → Nt
open Nat.succ renaming inj → qZ
open Ne renaming symm → gS
open Option renaming map_eq_some_iff → bB, isSome_map → dh, map → kh, not_isSome_iff_eq_none → kD, isNone_iff_eq_none → mh, map_some → oo, elim_some → tD, map_map → wb, isNone_eq_false_iff → wi, isSome_iff_exists → xq, bind_some → Ft, getD_some → Fv, elim_none → Fw
open Option.some renaming inj → ae
open Prod renaming ext → gH
open PyProof renaming noPylong_small → yG
open PyProof.Rows renaming IsTup → dq, slot_tuple_getitem → nN, IntsAre → oD, Subscript_ → QK
open PySem renaming Value → ai, wpAny_bind → ak, wpAny_mono → au, Addr → aD, Shared → aH, wpAny_pure → aQ, Around → aU, NameKind → bc, wpAny → bj, Str → bu, Heap → cf, wpAny_holding → cv, sizeLine_eq → cx, Env → dI, starEach → dS, DictEntry → eo, mainGlobals → et, Stmt → eF, FuncData → eJ, wpAny_newObj_type → eL, binaryOp → fb, sysModules → gh, eval → gr, wpAny_loadPart_at → gz, foldedSetIterable → gA, relabel → gB, wpAny_is_plain → g0, wpAny_field → g9, intKind → ia, rawInt → ib, codeAny → ic, Pos → ij, importedModules → iz, wpAny_standAt → iB, assignInOrder → iC, assign → iL, World → iN, wpAny_truthy_bool → iO, swappedStores → jO, compEnvC → jP, wpAny_execs_nil → jS, treeTable → kg, model → ki, getMethod → kj, recursionLimit → kJ, swapsWith → lG, holding → lJ, behindInMarks → lK, callWith → lU, backTo → mB, letOwnedTupleGo → mC, CmpOp → mE, wpAny_isSubtype_exc → mF, Program → mZ, OsState → m6, intKind_is → nO, sizeLine → nP, cameBackBy → nQ, Scope → nR, Obj → ow, slot_list_getitem → oC, wpAny_getItem_list_slice → pD, GenState → p8, storeName → p9, cellsFrom → qa, wpAny_callSpecial?_slot → qb, wpAny_call_entry → qc, wpAny_execs_cons → qd, codeAny_mono → qT, standAt → qU, assignEach → qV, wpAny_ite_split → qY, Sem → rU, wpAny_loadName_local → sO, Result → sP, keywordEach → sQ, wpAny_loadPart → sR, excClassObj → sS, strIterType → sU, noteFrame → tx, notedBy → tB, Params → vO, wpAny_pyIter_tuple → vW, BindsTo → wL, concat_meets → wM, plainObj_wpAny_Assign_Attribute → xt, wpAny_comp_letGo → yI, noFill_tuple_add → yJ, Flow → AA, wpAny_updateSeq → AD, wpAny_loadPart' → AE, valueAt → AP, Keyword → AU, Drawn → Cf, wpAny_Name → Cg, Operator → Ch, wpAny_newFunctionEnv_cells → Ci, backToKw → Cj, closureFor → Cm, newFunctionEnv → Cn, wpAny_rule → Co, comprehension → EY, seq_tuple_add → EZ, plainId_quiet → E0, attributeBase → E1, Arguments → Fg, Model → Fp, bootBuiltins → I7, wpAny_noteFrame_againW → Ja, aRefKeyMayBeTheName_at → Je, IsPart → Jg, call_meetsIn → Jh, pyIter → Jj, wpAny_typeOf → Jk, wpAny_storeName_local → JC, codeAny_call_function → JD, cLine → L5, interactive → Ma, wpAny_newFunctionEnv → Mc, wpAny_throw → Md, codeAny_forLoop_any → Nw, builtinsNs → QC, wpAny_Constant_int → QE, wpAny_call → QF, clipAt → QH, typeLookup → QJ, call_meets → QL, wpAny_Return_some → Rh, bindL → Rj, getItem → Rk, wpAny_sequenceKey → Rl, slot_list_setitem → Rm, getMethod_builtin → Rn, wpAny_pyIter_list → Rq, wpAny_assign_Name → Rr, Const → Ru
open PySem.Around renaming under_plainId → AS
open PySem.BindsTo renaming of_defaults → AX
open PySem.Builtin.Int renaming intBits → fc
open PySem.Builtin.List renaming listExtendWith → fj, listLengthHint → rS, listSameRef → tC, listItems → uo
open PySem.Builtin.ObjectAttr renaming storeInDict → JE, newKeyGuard → JF
open PySem.Builtin.Range renaming rangeSize → cT, small → we
open PySem.Builtin.Slice renaming sliceAdjust → d8, sliceApplied → rR, slicePlaces → rV
open PySem.Builtin.SmallTypes renaming nextOf → qe
open PySem.Builtin.Tuple renaming tupleExact → ie
open PySem.Calls renaming Name_function_global → lS, loadGlobal_global → wK, spliced_nil → L7
open PySem.Code renaming quiet_builtin → Fu
open PySem.Env renaming kindOf → yH
open PySem.F renaming slot_tuple_iterator_next → AG, plain_list_iadd → Ny, entry_dict_get → QM, slot_dict_get → Ro, slot_int_rmul → Rt
open PySem.Heap renaming get?_push_of_some → aT, get?_push_size → aX, lt_size → bU, get?_update_other → cP, get?_update_self → dx, SameBut → dz, get?_none_of_le → gk, size_push → gK
open PySem.Heap.IsSliceOf renaming new → wd
open PySem.Heap.SameBut renaming update → j9
open PySem.IsRange renaming new → AB
open PySem.Obj renaming mapSeq → ez, putName → jK, data_mapFields → Jb, mapFields → Ri
open PySem.PyData renaming keyHash → cZ
open PySem.Str renaming ofString → fa
open PySem.Value renaming isInt_shape → sV
open PySem.Value.bytes renaming inj → AR
open PySem.W renaming hideAll_none → fS, Frag → gg, boot_heap → jj, typeIs_bytes → kK, hideAll → lI, emptyDict → nj, behindTheImports → p6, findIn → qP, boot_drawn → qQ, boot_toks → tw, instObj → tA, SharedT → wG, openSeen → wH, callWith_of → yR, topFrame → B7, openGood → B8, nsIn → EV, look_both → Fz, looks_findIn → Ji, plainGet → L0, plainGet_of → L8, looks_clsIn → L9, keepIn → Qz, putL → QG, takerIn → Rd
open PySem.W.FB renaming slot_bytes_getitem → qr
open PySem.W.KBw renaming pyIter_bytes → vV, walks → Mb, IsBytesIter → Nx
open PySem.W.Looks renaming of_pure → Nv
open PySem.W.OpenLaw renaming wellSaid → E3
open UInt8 renaming toNat_inj → JG
section
theorem nS {α:Type}{x:α}{P:Prop}(h:none=some x):P:=nomatch h
noncomputable def iw {α:Type}(o:Option α) (d:Bool) (P:α→Bool):Bool:=match o with
 |none=>d
 |some x=>P x
end
section
open PySem PySem.W PySem.Calls PyProof.Rows
inductive AV where
 |none
 |bool (b:Bool)
 |int (i:Int)
 |str (s:bu)
 |eg (b:List UInt8)
 |fix (v:ai)
 |tup (vs:List AV)
 |obj (n:Nat)
 |iX (kvs:List (Int×AV))
end
section
open PySem PySem.W PySem.Calls PyProof.Rows
noncomputable def refOf:ai→Option aD
 |.ref a=>some a
 |_=>none
noncomputable abbrev Hr:List ai:=[.type "ValueError",.type "Exception",.type "BaseException",.type "object"]
noncomputable def nz:List ai→Bool
 |[]=>false
 |v::r=>bif (refOf v).isSome then nz r else v::r==Hr
noncomputable def BG (K:gg) (C:aD):Bool:=(clsIn K C).any fun cd=>nz cd.mro
end
section
open PySem PySem.W PySem.Calls PyProof.Rows
set_option backward.match.sparseCases false
noncomputable def jq {α β:Type}(o:Option α) (f:α→Option β):Option β:=match o with
 |none=>none
 |some x=>f x
end
section
open PySem PySem.W PySem.Calls PyProof.Rows
noncomputable def iK:Option eF→List eF
 |some (.FunctionDef _ _ b _ _ _ _ _ _ _)=>b
 |some (.ClassDef _ _ _ b _ _ _ _ _ _ _)=>b
 |_=>[]
noncomputable def namesOf:Option eF→List (bu×bc)
 |some (.FunctionDef _ _ _ _ _ _ sc _ _ _)=>sc.names
 |_=>[]
noncomputable abbrev rp:mZ:=PySem.Challenge.rw_rg0159_01.row.toRowW.prog
noncomputable def df (i:Nat):Option eF:=rp.main.body[i]?
noncomputable def mf (i j:Nat):Option eF:=(iK (df i))[j]?
noncomputable abbrev Lp:AV:=.iX [(65,.int 5),(97,.int (-3)),(200,.int 70000)]
noncomputable abbrev xG:AV:=.iX [(66,.int 9),(98,.int 0),(255,.int 1073741823)]
noncomputable def YS:List (String×AV):=[("SET_1",.int 128),("SET_RULE",.int 132),("PUT_1",.int 133),("PUT_RULE",.int 137),("NO_OPERATION",.int 138),("PAGE_BEGIN",.int 139),("PAGE_END",.int 140),("PUSH",.int 141),("POP",.int 142),("RIGHT_1",.int 143),("DOWN_1",.int 157),("FONT_0",.int 171),("FONT_1",.int 235),("SPECIAL_1",.int 239),("FONT_DEF_1",.int 243),("PREAMBLE",.int 247),("POSTAMBLE",.int 248),("POST_POST",.int 249),("FILLING",.int 223),("IDENTITY",.int 2),("BadArgument",.fix (.ref 64)),("BadFont",.fix (.ref 76)),("BadDevice",.fix (.ref 88)),("MAX_DIMEN",.int 1073741823),("MAX_NUMBER",.int 2147483647),("is_whole",.fix (.ref 97)),("EDGE",.int 256),("MOST_FONTS",.int 255),("MOST_PARAMS",.int 64),("MOST_SIZE",.int 134217727),("PLAIN_SORT",.int 0),("PROGRAM_SORT",.int 1),("LARGER_SORT",.int 2),("PIECES_SORT",.int 3),("STOP_SKIP",.int 128),("KERN_OP",.int 128),("LEAD",.int 255),("is_size",.fix (.ref 114)),("check_sizes",.fix (.ref 121)),("check_chars",.fix (.ref 135)),("check_larger",.fix (.ref 142)),("check_program",.fix (.ref 149)),("left_start",.fix (.ref 156)),("Font",.fix (.ref 246)),("font_name",.fix (.ref 257)),("font_of_rows",.fix (.ref 267)),("CHAR_ROW",.int 0),("RULE_ROW",.int 1),("SPECIAL_ROW",.int 2),("OctetStream",.fix (.ref 309)),("PageState",.fix (.ref 351)),("Device",.fix (.ref 372)),("read_units",.fix (.ref 383)),("read_font",.fix (.ref 388)),("is_font_definition",.fix (.ref 395)),("read_move",.fix (.ref 402)),("read_letter",.fix (.ref 409)),("read_rule",.fix (.ref 416)),("choose_font",.fix (.ref 423)),("add_font",.fix (.ref 430)),("page_step",.fix (.ref 437)),("read_page",.fix (.ref 442)),("read_post_fonts",.fix (.ref 449)),("read_postamble",.fix (.ref 454)),("read_file",.fix (.ref 461)),("_law_box",.fix (.ref 469)),("_law_take",.fix (.ref 476)),("_law_put",.fix (.ref 481)),("_law_font_put",.fix (.ref 486)),("_law_choice",.fix (.ref 493)),("_law_letter",.fix (.ref 500)),("_law_move",.fix (.ref 507)),("_law_command",.fix (.ref 512)),("_law_page",.fix (.ref 519)),("_law_between",.fix (.ref 526)),("_law_built",.fix (.ref 531)),("_law_spoilt",.fix (.ref 538)),("_law_whole",.fix (.ref 545)),("_law_signed",.fix (.ref 552)),("_law_lengths",.fix (.ref 559)),("_law_cut",.fix (.ref 566)),("_law_font",.fix (.ref 571)),("_law_gone",.fix (.ref 578)),("_law_drawn",.fix (.ref 585)),("_law_rows",.fix (.ref 592)),("_law_known",.fix (.ref 599)),("_law_three",.fix (.ref 604)),("_law_end",.fix (.ref 611)),("_law_file",.fix (.ref 616)),("_law_told",.fix (.ref 621)),("law",.fix (.ref 626)),("abs",.fix (.builtin "abs")),("len",.fix (.builtin "len")),("sum",.fix (.builtin "sum")),("max",.fix (.builtin "max")),("min",.fix (.builtin "min")),("sorted",.fix (.builtin "sorted")),("isinstance",.fix (.builtin "isinstance")),("ord",.fix (.builtin "ord")),("int",.fix (.type "int")),("bool",.fix (.type "bool")),("str",.fix (.type "str")),("tuple",.fix (.type "tuple")),("list",.fix (.type "list")),("dict",.fix (.type "dict")),("bytes",.fix (.type "bytes")),("range",.fix (.type "range")),("enumerate",.fix (.type "enumerate")),("LETTERS",.str "abcdefghjklmnopqrstuvwxyz"),("NO_CHARACTER",.tup [.int 0,.int 0,.int 0,.int 0,.int 0,.int 0]),("SMALL_PARAMS",.tup [.int 0,.int 196608,.int 98304,.int 65536,.int 262144,.int 655360,.int 65536]),("_law_widths",.iX [(3,Lp),(200,xG)])]
noncomputable def FT:List (aD×List bu):=[(246,["number","name","size","design","check","params","chars","program","kerns","boundary","edge_start","hyphen_char","skew_char"]),(309,["octets","at"]),(351,["h","v","w","x","y","z","font","stack","deepest","rows"]),(372,["units","comment","pages","fonts","tallest","widest","deepest"])]
noncomputable def MT:List (aD×List (bu×aD)):=[(246,[("has",180),("width",187)]),(309,[("number",292),("signed",299),("taken",306)]),(351,[("push",334),("pop",341),("go",348)])]
noncomputable def MK:List (aD×aD):=[(246,173),(309,285),(351,327),(372,369)]
noncomputable def FN:List (aD×Option eF×List Nat):=[(173,mf 30 0,[25,27,97,101,29,21,26,92,28,38,39,40,41,103,104,102,42]),(180,mf 30 1,[]),(187,mf 30 2,[109]),(285,mf 35 0,[97,105,20]),(292,mf 35 1,[92,22,106]),(299,mf 35 2,[]),(306,mf 35 3,[92,22]),(327,mf 36 0,[]),(334,mf 36 1,[94,92]),(341,mf 36 2,[92,22]),(348,mf 36 3,[91,24,22]),(369,mf 37 0,[]),(97,df 12,[97,99,100]),(114,df 23,[25,23]),(121,df 24,[37,21]),(135,df 26,[25,97,102,92,21,38,30,33,31]),(142,df 27,[32,92,21]),(149,df 28,[92,107,97,102,21,25,34,35]),(156,df 29,[92,36]),(257,df 31,[108]),(267,df 32,[25,27,21,92,102,43,44]),(383,df 38,[95,22]),(388,df 39,[14,29,22,103,98]),(395,df 40,[14]),(402,df 41,[]),(409,df 42,[22,46]),(416,df 43,[47]),(423,df 44,[22]),(430,df 45,[53,22]),(437,df 46,[0,56,1,57,3,2,4,7,8,9,10,55,11,12,58,13,14,48,54,59,22]),(442,df 47,[102,106,22,50,6,60,92]),(449,df 48,[17,54,53,22,4,92]),(454,df 49,[22,52,92,62,19,18]),(461,df 50,[49,15,19,22,52,51,16,5,61,102,94,54,59,4,63]),(469,df 53,[92,91,99,93]),(476,df 54,[]),(481,df 55,[106]),(486,df 56,[67,92,98]),(493,df 57,[68,67]),(500,df 58,[96,111,67]),(507,df 59,[]),(512,df 60,[66,70,69,67,94,71,106]),(519,df 61,[67,66,106,72]),(526,df 62,[68]),(531,df 63,[65,67,66,106,92,74,73,68]),(538,df 64,[66,92]),(545,df 65,[]),(552,df 66,[77,92]),(559,df 67,[]),(566,df 68,[79,92,77,93]),(571,df 69,[77,103,98]),(578,df 70,[92,78]),(585,df 71,[78,95,77,111]),(592,df 72,[92,83,103,94,82,77,85,91]),(599,df 73,[81]),(604,df 74,[102,106,78]),(611,df 75,[81,92,77,96,105]),(616,df 76,[80,95,86,78,84,102,106,94,85,87,77,92,96]),(621,df 77,[64,22,96]),(626,df 78,[96,111,45,105,76,65,75,89,88])]
end
section
open PySem PySem.W PySem.Calls PyProof.Rows
noncomputable abbrev Aa:AV:=.tup [.int 0,.int 196608,.int 98304,.int 65536,.int 262144,.int 655360,.int 65536]
end
section
open PySem PySem.W PySem.Calls PyProof.Rows
theorem Be {a:aD}{o:ow}{K:gg}:K.lookup a=some o→(a,o)∈K:=by
 induction K with
 |nil=>exact nS
 |cons p r ih=>
  intro e
  replace e:(match a==p.1 with | true=>some p.2 | false=>r.lookup a)=some o:=e
  cases q:a==p.1 with
  |true=>rw[q] at e;replace e:=ae e;subst e;rw[beq_iff_eq.mp q];exact aI
  |false=>rw[q] at e;exact aG _ (ih e)
noncomputable def vInt:ai→Option Int
 |.int j _=>some j
 |_=>none
noncomputable def vStr:ai→Option bu
 |.str j _=>some j
 |_=>none
noncomputable def OY:ai→Option aD
 |.ref a=>some a
 |_=>none
noncomputable def vTy:ai→Option String
 |.type T=>some T
 |_=>none
noncomputable def O0:Data→Option (Array ai)
 |.seq xs _=>some xs
 |_=>none
noncomputable def Nm:Data→Option (Array eo)
 |.dict es _=>some es
 |_=>none
noncomputable def GA (K:gg) (v:ai) (T:String):Option ow:=jq (OY v) fun a=>jq (K.lookup a) fun o=>bif vTy o.cls==some T then some o else none
noncomputable def Gh (K:gg) (v:ai):Option (Array ai):=jq (GA K v "tuple") fun o=>O0 o.data
noncomputable def dictAt (K:gg) (v:ai):Option (Array eo):=jq (GA K v "dict") fun o=>bif !(v==.ref gh)&&(o.dict.isNone&&o.slots.size==0) then Nm o.data else none
mutual
noncomputable def B0 (K:gg):AV→ai→Bool
 |.int i,v=>vInt v==some i
 |.str s,v=>vStr v==some s
 |.fix x,v=>v==x
 |.tup vs,v=>iw (Gh K v) false fun l=>xm K vs l.toList
 |.iX kvs,v=>iw (dictAt K v) false fun l=>FH K kvs l.toList&&decide ((kvs.map (·.1)).Nodup)
 |_,_=>false
noncomputable def xm (K:gg):List AV→List ai→Bool
 |[],l=>l.isEmpty
 |x::xs,l=>iw l.head? false fun v=>B0 K x v&&xm K xs l.tail
noncomputable def FH (K:gg):List (Int×AV)→List eo→Bool
 |[],l=>l.isEmpty
 |(k,x)::xs,l=>iw l.head? false fun e=>(vInt e.key==some k)&&(decide (e.hash=hashInt k)&&(B0 K x e.val&&FH K xs l.tail))
end
noncomputable def Sw:ai→Bool
 |.builtin _=>true
 |.type _=>true
 |_=>false
noncomputable def HN:AV→Option ai
 |.fix v=>some v
 |_=>none
noncomputable def V3 (K:gg) (x:bu) (a:AV):Bool:=iw (EV K et x) false fun r=>iw r
 (iw (HN a) false fun v=>(I7 x==some v)&&(Sw v&&!(x=="__name__")))
 fun v=>B0 K a v&&iw (HN a) true (Qz K)
noncomputable def UB (K:gg) (over:Bool) (C:aD) (x:bu):Bool:=(qP K (.ref C) "__setattr__"==some (some (.builtin "object.__setattr__")))&&(over&&((Rd K C x==some none)&&(clsIn K C).any (·.hasDict)))
noncomputable def ftB (K:gg) (C:aD) (x:bu):Bool:=L0 K C x&&(hasDictIn K C&&(iw (qP K (.ref C) x) false (noGet K)&&UB K (plainOver K C) C x))
noncomputable def mtB (K:gg) (C:aD) (x:bu) (f:aD):Bool:=L0 K C x&&((qP K (.ref C) x==some (some (.ref f)))&&(isFn K (.ref f)&&Qz K (.ref f)))
noncomputable def mkB (K:gg) (p:aD×aD):Bool:=makesIn K p.1&&((qP K (.ref p.1) "__init__"==some (some (.ref p.2)))&&(typeIn K (.ref p.2)==some (.type "function")))
structure lX where
 body:FuncBody
 params:Fg
 names:List (bu×bc)
 ok:Bool
noncomputable def GR:Data→Option eJ
 |.func fd=>some fd
 |_=>none
noncomputable def MG:ScopeKind→Bool
 |.function=>true
 |_=>false
noncomputable def Sr (K:gg) (v:ai):Bool:=v==.none||iw (OY v) false fun T=>iw (K.lookup T) false fun o=>(O0 o.data).isSome
noncomputable def HG (K:gg) (fd:eJ):Bool:=fd.closure.isEmpty&&(tP fd.globals et&&(tP fd.builtins QC&&(!fd.scope.isCoroutine&&(!fd.scope.isGenerator&&(MG fd.scope.kind&&(codeIn K fd.code fd.qualname&&Sr K fd.defaults))))))
noncomputable def pJ (K:gg) (f:aD):Option lX:=jq (K.lookup f) fun o=>jq (GR o.data) fun fd=>some ⟨fd.body,fd.params,fd.scope.names,HG K fd⟩
noncomputable def qM:Option eF→Fg
 |some (.FunctionDef _ p _ _ _ _ _ _ _ _)=>p
 |_=>⟨[],[],none,[],[],none,[]⟩
noncomputable def pL (s:Option eF):Option lX:=some ⟨.stmts (iK s),qM s,namesOf s,true⟩
end
section
open PySem PySem.W PySem.Calls PyProof.Rows
structure td where
 defs:List (Option lX)
 init:Option lX
 bd:Option ow
 ok:Bool
noncomputable def RJ (K:gg):Bool:=iw (K.lookup 267) false fun o=>iw (GR o.data) false fun fd=>iw (Gh K fd.defaults) false fun l=>xm K [Aa,.tup [],.tup [],.int 256] l.toList
noncomputable def rsB (K:gg):Bool:=(qP K (.ref 88) "__init__"==some (some (.ref 48)))&&((typeIn K (.ref 48)==some (.type "function"))&&(UB K (BG K 88) 88 "reason"&&(Qz K (.ref 88)&&(EV K et "BadDevice"==some (some (.ref 88))))))
noncomputable def WZ (K:gg):Bool:=YS.all (fun p=>V3 K (fa p.1) p.2)&&(FT.all (fun e=>e.2.all fun x=>ftB K e.1 x)&&(MT.all (fun e=>e.2.all fun p=>mtB K e.1 p.1 p.2)&&(MK.all (mkB K)&&(rsB K&&RJ K))))
noncomputable def rg (K:gg):td:=⟨FN.map (fun e=>pJ K e.1),pJ K 48,K.lookup 88,WZ K⟩
noncomputable def bdO:ow:={ cls:=.type "type",data:=.cls { name:="BadDevice",bases:=[.ref 51],mro:=[.ref 88,.ref 51,.type "ValueError",.type "Exception",.type "BaseException",.type "object"],ns:=87,qualname:="BadDevice" },slots:=#[some (.ref 79),none,some (.str "BadDevice" 296),some (.str "BadDevice" 304),some (.builtin "ValueError.__new__"),some (.bool true)] }
noncomputable def rf:td:=⟨FN.map (fun e=>pL e.2.1),pL (mf 5 0),some bdO,true⟩
end
section
open PySem PySem.W PySem.Calls PyProof.Rows
noncomputable def ID:dI:={ scope:=rp.main.scope,locals:=mainNs,globals:=mainNs,cells:=[],code:=ai.ref 13,frame:=some 14 }
noncomputable def p0:ij:=⟨0,0,0,0⟩
noncomputable abbrev cE:Code:=Code.body (p6 rp) ID
noncomputable abbrev an:Option ai:=some (.ref 6)
noncomputable def Zs (P:vO):ow:={ cls:=.type "tuple",data:=.seq #[] }
noncomputable def q12 (P:vO):ow:={ cls:=.none,data:=.fields #[] }
noncomputable def Y7 (P:vO):ow:={ cls:=.type "code",data:=.fields #[.str "<module>" 182,.str "<module>" 183,.str "/claim/cut.py" 184,.int 1 0,.int 0 0,.int 0 0,.int 0 0,.int 0 0,.ref 11,.bool false,
 .int 181 0,.ref 12,.none,.none,.none,.none,.int 185 0,.int 1 0,.str "/claim/cut.py" 186] }
noncomputable def Xy (P:vO):ow:={ cls:=.type "frame",slots:=#[some (.ref 13),some (.ref 3),some (.ref 3),none,some (.str "__main__" 164),none,some (.ref 0)] }
noncomputable def Ha (P:vO):cf:={ objs:=#[boot_o_0 P,boot_o_1 P,boot_o_2 P,boot_o_3 P,boot_o_4 P,boot_o_5 P,boot_o_6 P,boot_o_7 P,boot_o_8 P,boot_o_9 P,boot_o_10 P,Zs P,q12 P,Y7 P,Xy P] }
noncomputable def Tb (P:vO):BT:=.node (boot_o_0 P)
  (.node (boot_o_1 P) (.node (boot_o_3 P) (.node (boot_o_7 P) .nil .nil) (.node (Zs P) .nil .nil)) (.node (boot_o_5 P) (.node (boot_o_9 P) .nil .nil) (.node (Y7 P) .nil .nil)))
  (.node (boot_o_2 P) (.node (boot_o_4 P) (.node (boot_o_8 P) .nil .nil) (.node (q12 P) .nil .nil)) (.node (boot_o_6 P) (.node (boot_o_10 P) .nil .nil) (.node (Xy P) .nil .nil)))
theorem KY (w:iN):(fun os=>topGo kg rp w 11 an 12 ⟨jj w.params,#[],qQ,tw,os⟩ (topStub rp))=fun os=>some (⟨Ha w.params,#[],{},187,os⟩,⟨denote kg cE,cE,p0,[B7 p0]⟩):=by kernel_rfl
theorem DC (w:iN):(fun os=>segRun kg rp w 11 an 1 1 ⟨Ha w.params,#[],{},187,os⟩ (blockOf (p6 rp) ID cE p0 [B7 p0])) =
  fun os=>some (.next,wG.abs ⟨Tb w.params,15,{},#[],{},187,os⟩,cE,p0):=by kernel_rfl
noncomputable def zY (x:String) (n:Nat):ai:=.str (.ofString x) n
noncomputable def zE (P:vO) (x:String) (n:Nat) (v:ai):eo:={ hash:=cZ P (.ofString x),key:=zY x n,val:=v }
noncomputable def zF (x:String) (l:List ai):ow:={ cls:=.type x,data:=.fields ⟨l⟩ }
noncomputable def zS (x:String) (l:List ai):ow:={ cls:=.type x,data:=.seq ⟨l⟩ }
noncomputable def zN (l:List ai):ow:={ cls:=.none,data:=.fields ⟨l⟩ }
noncomputable def zL (x:String) (l:List (Option ai)):ow:={ cls:=.type x,slots:=⟨l⟩ }
noncomputable def zD (l:List eo) (n:Nat):ow:={ cls:=.type "dict",data:=.dict ⟨l⟩ n }
noncomputable def zt:ow:=zS "tuple" []
noncomputable def MY:ow:=zF "builtin_function_or_method" [.builtin "type.__prepare__",.type "type"]
noncomputable def XM:List bu→Nat→List ai
 |[],_=>[]
 |x::r,t=>.str x t::XM r (t+1)
noncomputable def Vu:List Int→Nat→List ai
 |[],_=>[]
 |x::r,t=>.int x t::Vu r (t+1)
noncomputable def VD (l:List String) (t:Nat):ow:=zS "tuple" (XM (l.map .ofString) t)
noncomputable def SA (l:List (Int×Nat)):ow:=zN (l.flatMap fun p=>[.int p.1 0,.int 4 0,.ref p.2])
noncomputable def V9:String:="/claim/cut.py"
noncomputable def Ra (l:List Int) (t a:Nat):List ow:=[zS "tuple" (Vu l t),zF "tuple_iterator" [.none,.int l.length 0],zt,zF "StopIteration" [.ref a,.none,.none,.none,.bool false,.none]]
noncomputable def VB (x:String) (i t u:Nat):ow:={ cls:=.type "type",data:=.cls { name:=.ofString x,bases:=[.type "object"],mro:=[.ref i,.type "object"],ns:=i-1,qualname:=.ofString x },slots:=#[none,none,some (zY x t),some (zY x u),some (.builtin "object.__new__"),some (.bool true)] }
noncomputable def XY (x:String) (i t u:Nat):ow:={ cls:=.type "type",data:=.cls { name:=.ofString x,bases:=[.ref 51],mro:=[.ref i,.ref 51,.type "ValueError",.type "Exception",.type "BaseException",.type "object"],ns:=i-1,qualname:=.ofString x },slots:=#[some (.ref (i-9)),none,some (zY x t),some (zY x u),some (.builtin "ValueError.__new__"),some (.bool true)] }
noncomputable def Mz (x:String) (t a:Nat) (n:Int):ow:=zF "code" [zY x t,zY x (t+1),zY V9 (t+2),.int n 0,.int 0 0,.int 0 0,.int 0 0,.int 0 0,.ref a,.bool false,.int 181 0,.ref (a+1),.none,.none,.none,.none,.int (t+3:Nat) 0,.int n 0,zY V9 (t+4)]
noncomputable def Mr (a b:Nat) (m:ai):ow:=zL "frame" [some (.ref a),some (.ref 3),some (.ref b),none,some m,none,some (.ref 0)]
noncomputable def M1 (a:Nat):List ow:=[zF "super" [.ref a,.ref a,.ref a],zF "builtin_function_or_method" [.builtin "object.__init_subclass__",.ref a]]
noncomputable def Vm (t a:Nat):List ow:=[zF "getset_descriptor" [zY "__dict__" t,.ref a,.builtin "function.__dict__",.builtin "function.__dict__#set"],zF "getset_descriptor" [zY "__weakref__" (t+2),.ref a,.builtin "ExceptionGroup.__weakref__",.none]]
noncomputable def Wz:bc→Bool
 |.local=>true
 |_=>false
noncomputable def qh (s:Option eF) (q:String) (m:ai) (a t:Nat) (df:ai:=.none):List ow:=match s with
 |some (.FunctionDef nm ar bd _ _ _ sc _ _ ps)=>
  [zt,zN [],zS "tuple" (XM ((sc.names.filter fun p=>Wz p.2).map (·.1)) (t+3)),zt,{ cls:=.none,data:=.func ⟨nm,.ofString q,ar,.stmts bd,sc,0,[],.none,.none,.none,.none,none,.none,.none,0⟩ },
   zF "code" [.str nm t,zY q (t+1),zY V9 (t+2),.int ps.line 0,.int ar.args.length 0,.int 0 0,.int 0 0,.int 3 0,.ref a,.bool true,.int 181 0,.ref (a+1),.none,.ref (a+2),.ref (a+3),.ref (a+4),
    .int (t+3+(sc.names.filter fun p=>Wz p.2).length:Nat) 0,.int ps.line 0,zY V9 (t+4+(sc.names.filter fun p=>Wz p.2).length)],
   { cls:=.type "function",data:=.func ⟨nm,.ofString q,ar,.stmts bd,sc,3,[],df,.none,.none,m,none,.ref (a+5),.none,0⟩ }]
 |_=>[]
noncomputable def zm0:ai:=zY "__main__" 164
noncomputable def D5:ai:=zY "gluepage.errors" 234
noncomputable def zm2:ai:=zY "gluepage.scaled" 312
noncomputable def vt:ai:=zY "gluepage.fonts" 335
noncomputable def xP:ai:=zY "gluepage.dviread" 610
noncomputable def os1 (P:vO):List ow:=
 let E:=zE P
 List.flatten [[boot_o_0 P,boot_o_1 P,boot_o_2 P,zD [E "__name__" 165 (xP),E "__doc__" 166 (.none),E "__package__" 167 (.none),E "__loader__" 168 (.builtin "__main__.__loader__#opaque"),E "__spec__" 169 (.none),E "__annotations__" 170 (.ref 6),E "__builtins__" 171 (.ref 4),E "__file__" 173 (zY "/claim/cut.py" 172),E "__cached__" 174 (.none),E "_wall" 193 (.ref 21),E "SET_1" 203 (.int 128 194),E "SET_RULE" 204 (.int 132 195),E "PUT_1" 205 (.int 133 196),E "PUT_RULE" 206 (.int 137 197),E "NO_OPERATION" 207 (.int 138 198),E "PAGE_BEGIN" 208 (.int 139 199),E "PAGE_END" 209 (.int 140 200),E "PUSH" 210 (.int 141 201),E "POP" 211 (.int 142 202),E "RIGHT_1" 221 (.int 143 212),E "DOWN_1" 222 (.int 157 213),E "FONT_0" 223 (.int 171 214),E "FONT_1" 224 (.int 235 215),E "SPECIAL_1" 225 (.int 239 216),E "FONT_DEF_1" 226 (.int 243 217),E "PREAMBLE" 227 (.int 247 218),E "POSTAMBLE" 228 (.int 248 219),E "POST_POST" 229 (.int 249 220),E "FILLING" 232 (.int 223 230),E "IDENTITY" 233 (.int 2 231),E "PageError" 263 (.ref 51),E "BadArgument" 279 (.ref 64),E "BadFont" 295 (.ref 76),E "BadDevice" 311 (.ref 88),E "MAX_DIMEN" 319 (.int 1073741823 318),E "MAX_NUMBER" 325 (.int 2147483647 324),E "is_whole" 334 (.ref 97),E "EDGE" 338 (.int 256 337),E "MOST_FONTS" 340 (.int 255 339),E "MOST_PARAMS" 342 (.int 64 341),E "MOST_SIZE" 348 (.int 134217727 347),E "PLAIN_SORT" 353 (.int 0 349),E "PROGRAM_SORT" 354 (.int 1 350),E "LARGER_SORT" 355 (.int 2 351),E "PIECES_SORT" 356 (.int 3 352),E "STOP_SKIP" 360 (.int 128 357),E "KERN_OP" 361 (.int 128 358),E "LEAD" 362 (.int 255 359),E "NO_CHARACTER" 369 (.ref 106),E "LETTERS" 371 (zY "abcdefghjklmnopqrstuvwxyz" 370),E "SMALL_PARAMS" 379 (.ref 107),E "is_size" 386 (.ref 114),E "check_sizes" 394 (.ref 121),E "check_pieces" 404 (.ref 128),E "check_chars" 416 (.ref 135),E "check_larger" 426 (.ref 142),E "check_program" 444 (.ref 149),E "left_start" 455 (.ref 156),E "Font" 586 (.ref 246),E "font_name" 595 (.ref 257),E "font_of_rows" 609 (.ref 267),E "CHAR_ROW" 615 (.int 0 612),E "RULE_ROW" 616 (.int 1 613),E "SPECIAL_ROW" 617 (.int 2 614),E "OctetStream" 678 (.ref 309),E "PageState" 740 (.ref 351),E "Device" 776 (.ref 372)] 67,boot_o_4 P,boot_o_5 P,boot_o_6 P,boot_o_7 P,boot_o_8 P,boot_o_9 P,boot_o_10 P,Zs P,zN [.int 1 0,.int 0 0,.ref 20,.int 8 0,.int 0 0,.ref 39,.int 12 0,.int 0 0,.ref 60,.int 14 0,.int 0 0,.ref 72,.int 16 0,.int 0 0,.ref 84,.int 21 0,.int 0 0,.ref 96,.int 33 0,.int 0 0,.ref 113,.int 35 0,.int 0 0,.ref 120,.int 39 0,.int 0 0,.ref 127,.int 45 0,.int 0 0,.ref 134,.int 57 0,.int 0 0,.ref 141,.int 65 0,.int 0 0,.ref 148,.int 84 0,.int 0 0,.ref 155,.int 89 0,.int 0 0,.ref 162,.int 146 0,.int 0 0,.ref 256,.int 153 0,.int 0 0,.ref 266,.int 164 0,.int 0 0,.ref 277,.int 196 0,.int 0 0,.ref 319,.int 225 0,.int 0 0,.ref 361],Y7 P,Xy P],
  qh (df 0) "_wall" zm0 15 187,
  Ra [128,132,133,137,138,139,140,141,142] 194 24,
  Ra [143,157,171,235,239,243,247,248,249] 212 28,
  Ra [223,2] 230 32,
  [zS "tuple" [.type "ValueError"],MY,zD [E "__module__" 243 (D5),E "__qualname__" 245 (zY "PageError" 244),E "__firstlineno__" 247 (.int 8 246),E "__init__" 256 (.ref 48),E "__static_attributes__" 258 (.ref 49)] 5,zt,SA [(10,47)],Mz "PageError" 238 37 8,Mr 39 36 D5,zS "tuple" [zY "" 248]],
  qh (mf 5 0) "PageError.__init__" D5 42 249 (.ref 41),
  [zS "tuple" [zY "reason" 257],zD [E "__module__" 243 (D5),E "__firstlineno__" 247 (.int 8 246),E "__init__" 256 (.ref 48),E "__static_attributes__" 258 (.ref 49),E "__weakref__" 260 (.ref 52),E "__doc__" 261 (.none)] 3,{ cls:=.type "type",data:=Data.cls { name:="PageError",bases:=[.type "ValueError"],mro:=[.ref 51,.type "ValueError",.type "Exception",.type "BaseException",.type "object"],ns:=50,qualname:="PageError",subclasses:=[.ref 64,.ref 76,.ref 88] },slots:=#[some (.ref 34),none,some (zY "PageError" 236),some (zY "PageError" 244),some (.builtin "ValueError.__new__"),some (.bool true)] },zF "getset_descriptor" [zY "__weakref__" 259,.ref 51,.builtin "ExceptionGroup.__weakref__",.none]],
  M1 51,
  [zS "tuple" [.ref 51],MY,zD [E "__module__" 271 (D5),E "__qualname__" 273 (zY "BadArgument" 272),E "__firstlineno__" 275 (.int 12 274),E "__static_attributes__" 276 (.ref 62)] 4,zt,zN [],Mz "BadArgument" 266 58 12,Mr 60 57 D5,zt,zD [E "__module__" 271 (D5),E "__firstlineno__" 275 (.int 12 274),E "__static_attributes__" 276 (.ref 62),E "__doc__" 277 (.none)] 2,XY "BadArgument" 64 264 272],
  M1 64,
  [zS "tuple" [.ref 51],MY,zD [E "__module__" 287 (D5),E "__qualname__" 289 (zY "BadFont" 288),E "__firstlineno__" 291 (.int 14 290),E "__static_attributes__" 292 (.ref 74)] 4,zt,zN [],Mz "BadFont" 282 70 14,Mr 72 69 D5,zt,zD [E "__module__" 287 (D5),E "__firstlineno__" 291 (.int 14 290),E "__static_attributes__" 292 (.ref 74),E "__doc__" 293 (.none)] 2,XY "BadFont" 76 280 288],
  M1 76,
  [zS "tuple" [.ref 51],MY,zD [E "__module__" 303 (D5),E "__qualname__" 305 (zY "BadDevice" 304),E "__firstlineno__" 307 (.int 16 306),E "__static_attributes__" 308 (.ref 86)] 4,zt,zN [],Mz "BadDevice" 298 82 16,Mr 84 81 D5,zt,zD [E "__module__" 303 (D5),E "__firstlineno__" 307 (.int 16 306),E "__static_attributes__" 308 (.ref 86),E "__doc__" 309 (.none)] 2,XY "BadDevice" 88 296 304],
  M1 88,
  qh (df 12) "is_whole" zm2 91 326,
  Ra [0,1,2,3] 349 100,
  Ra [128,128,255] 357 104,
  [zS "tuple" (Vu [0,0,0,0,0,0] 363),zS "tuple" (Vu [0,196608,98304,65536,262144,655360,65536] 372)],
  qh (df 23) "is_size" vt 108 380,
  qh (df 24) "check_sizes" vt 115 387,
  qh (df 25) "check_pieces" vt 122 395,
  qh (df 26) "check_chars" vt 129 405,
  qh (df 27) "check_larger" vt 136 417,
  qh (df 28) "check_program" vt 143 427,
  qh (df 29) "left_start" vt 150 445,
  [zt,MY,zD [E "__module__" 463 (vt),E "__qualname__" 465 (zY "Font" 464),E "__firstlineno__" 467 (.int 89 466),E "__init__" 482 (.ref 173),E "has" 490 (.ref 180),E "width" 498 (.ref 187),E "height" 506 (.ref 194),E "depth" 514 (.ref 201),E "italic" 522 (.ref 208),E "starts" 530 (.ref 215),E "larger" 539 (.ref 222),E "pieces" 548 (.ref 229),E "param" 556 (.ref 236),E "set_param" 565 (.ref 243),E "__static_attributes__" 579 (.ref 244)] 15,zt,SA [(91,172),(115,179),(118,186),(121,193),(124,200),(127,207),(130,214),(133,221),(137,228),(141,235),(144,242)],Mz "Font" 458 160 89,Mr 162 159 vt,zt,zt,zS "tuple" [.ref 164,.ref 165,.int 256 337]],
  qh (mf 30 0) "Font.__init__" vt 167 468 (.ref 166),
  qh (mf 30 1) "Font.has" vt 174 483,
  qh (mf 30 2) "Font.width" vt 181 491,
  qh (mf 30 3) "Font.height" vt 188 499,
  qh (mf 30 4) "Font.depth" vt 195 507,
  qh (mf 30 5) "Font.italic" vt 202 515,
  qh (mf 30 6) "Font.starts" vt 209 523,
  qh (mf 30 7) "Font.larger" vt 216 531,
  qh (mf 30 8) "Font.pieces" vt 223 540,
  qh (mf 30 9) "Font.param" vt 230 549,
  qh (mf 30 10) "Font.set_param" vt 237 557,
  [VD ["boundary","chars","check","design","edge_start","hyphen_char","kerns","name","number","params","program","size","skew_char"] 566,zD [E "__module__" 463 (vt),E "__firstlineno__" 467 (.int 89 466),E "__init__" 482 (.ref 173),E "has" 490 (.ref 180),E "width" 498 (.ref 187),E "height" 506 (.ref 194),E "depth" 514 (.ref 201),E "italic" 522 (.ref 208),E "starts" 530 (.ref 215),E "larger" 539 (.ref 222),E "pieces" 548 (.ref 229),E "param" 556 (.ref 236),E "set_param" 565 (.ref 243),E "__static_attributes__" 579 (.ref 244),E "__dict__" 581 (.ref 247),E "__weakref__" 583 (.ref 248),E "__doc__" 584 (.none)] 4,VB "Font" 246 456 464],
  Vm 580 246,
  M1 246,
  qh (df 31) "font_name" vt 251 587,
  [zt,zt,zS "tuple" [.ref 107,.ref 258,.ref 259,.int 256 337]],
  qh (df 32) "font_of_rows" vt 261 596 (.ref 260),
  Ra [0,1,2] 612 270,
  [zt,MY,zD [E "__module__" 625 (xP),E "__qualname__" 627 (zY "OctetStream" 626),E "__firstlineno__" 629 (.int 164 628),E "__init__" 637 (.ref 285),E "number" 648 (.ref 292),E "signed" 658 (.ref 299),E "taken" 668 (.ref 306),E "__static_attributes__" 671 (.ref 307)] 8,zt,SA [(166,284),(172,291),(182,298),(189,305)],Mz "OctetStream" 620 275 164,Mr 277 274 xP],
  qh (mf 35 0) "OctetStream.__init__" xP 279 630,
  qh (mf 35 1) "OctetStream.number" xP 286 638,
  qh (mf 35 2) "OctetStream.signed" xP 293 649,
  qh (mf 35 3) "OctetStream.taken" xP 300 659,
  [VD ["at","octets"] 669,zD [E "__module__" 625 (xP),E "__firstlineno__" 629 (.int 164 628),E "__init__" 637 (.ref 285),E "number" 648 (.ref 292),E "signed" 658 (.ref 299),E "taken" 668 (.ref 306),E "__static_attributes__" 671 (.ref 307),E "__dict__" 673 (.ref 310),E "__weakref__" 675 (.ref 311),E "__doc__" 676 (.none)] 4,VB "OctetStream" 309 618 626],
  Vm 672 309,
  M1 309,
  [zt,MY,zD [E "__module__" 686 (xP),E "__qualname__" 688 (zY "PageState" 687),E "__firstlineno__" 690 (.int 196 689),E "__init__" 697 (.ref 327),E "push" 704 (.ref 334),E "pop" 711 (.ref 341),E "go" 722 (.ref 348),E "__static_attributes__" 733 (.ref 349)] 8,zt,SA [(198,326),(210,333),(214,340),(219,347)],Mz "PageState" 681 317 196,Mr 319 316 xP],
  qh (mf 36 0) "PageState.__init__" xP 321 691,
  qh (mf 36 1) "PageState.push" xP 328 698,
  qh (mf 36 2) "PageState.pop" xP 335 705,
  qh (mf 36 3) "PageState.go" xP 342 712,
  [VD ["deepest","font","h","rows","stack","v","w","x","y","z"] 723,zD [E "__module__" 686 (xP),E "__firstlineno__" 690 (.int 196 689),E "__init__" 697 (.ref 327),E "push" 704 (.ref 334),E "pop" 711 (.ref 341),E "go" 722 (.ref 348),E "__static_attributes__" 733 (.ref 349),E "__dict__" 735 (.ref 352),E "__weakref__" 737 (.ref 353),E "__doc__" 738 (.none)] 4,VB "PageState" 351 679 687],
  Vm 734 351,
  M1 351,
  [zt,MY,zD [E "__module__" 748 (xP),E "__qualname__" 750 (zY "Device" 749),E "__firstlineno__" 752 (.int 225 751),E "__init__" 761 (.ref 369),E "__static_attributes__" 769 (.ref 370)] 5,zt,SA [(227,368)],Mz "Device" 743 359 225,Mr 361 358 xP],
  qh (mf 37 0) "Device.__init__" xP 363 753,
  [VD ["comment","deepest","fonts","pages","tallest","units","widest"] 762,zD [E "__module__" 748 (xP),E "__firstlineno__" 752 (.int 225 751),E "__init__" 761 (.ref 369),E "__static_attributes__" 769 (.ref 370),E "__dict__" 771 (.ref 373),E "__weakref__" 773 (.ref 374),E "__doc__" 774 (.none)] 4,VB "Device" 372 741 749],
  Vm 770 372,
  M1 372]
noncomputable def ZM:List ow→List ow
 |x::_::r=>x::ZM r
 |r=>r
noncomputable def Zu:Nat→List ow→BT
 |n+1,x::r=>.node x (Zu n (ZM r)) (Zu n (ZM r.tail))
 |_,_=>.nil
noncomputable def T1 (P:vO):BT:=Zu 10 (os1 P)
noncomputable def p5:ij:=⟨225,0,234,24⟩
noncomputable def KR (w:iN) (os:m6):Option (AA×wG×Code×ij):=
 segRunT kg rp w 11 an 1 3563 ⟨Tb w.params,15,{},#[],{},187,os⟩ (piecesOf ((p6 rp).take 38) ID cE p0 [B7 p0])
noncomputable def s1 (w:iN) (os:m6):wG:=⟨T1 w.params,377,{},#[],{},777,os⟩
noncomputable def Eb (w:iN) (os:m6):Option (AA×wG×Code×ij):=
 segRunT kg rp w 11 an 1 1334 (s1 w os) (piecesOf ((p6 rp).drop 38) ID cE p5 [B7 p0])
noncomputable def sI:AA→Bool
 |.next=>true
 |_=>false
noncomputable def qv:mZ:=view rp [78]
noncomputable def lo:List bu:=rp.boundNames.filter fun n=>!(n=="law")
noncomputable def Xt (s:aH):Bool:=xlAt qv [] s&&recOk (RowW.records PySem.Challenge.rw_rg0159_01.row.toRowW) s
noncomputable def w8 (w:iN) (s:aH):Bool:=staticsOk (iz rp.main.body) (jj w.params) s.heap&&namesBound rp s.heap&&gensDone s&&laidKept (jj w.params) s.heap
noncomputable def Uo:List aD:=[3,88,87,51,50,48,47,41,64,76,246,245,309,308,351,350,372,371,106,107,462,463,464,166,258,259,260]++FN.flatMap fun e=>[e.1,e.1-1]
noncomputable def atT (s:wG) (a:aD):Option ow:=match ik a s.n with
 |true=>(match s.tree.get a with
  |some o=>alive o
  |none=>none)
 |false=>none
noncomputable def xl (s:wG) (as:List aD):gg:=as.filterMap fun a=>(atT s a).map fun o=>(a,o)
set_option tactic.hygienic true in
theorem IT (s:wG) (as:List aD):(xl s as).In s.abs.heap:=fun a o e=>by
 obtain⟨i,_,hi⟩:=Fh.mp (Be e)
 obtain⟨x,hx,q⟩:=bB.mp hi
 cases q
 unfold atT at hx
 split at hx
 ·rename_i hb
  split at hx
  ·rename_i o' ho
   exact(abs_get (aE hb) ho).trans hx
  ·cases hx
 ·cases hx
theorem Wf (w:iN) (s:aH) (c:Code) (p:ij):topRun kg rp w 11 an 2 s ⟨doneF .next,c,p,[B7 p0]⟩=some s:=by kernel_rfl
theorem ZI (w:iN):KR (w.withFollow "special-get-raises" false)=fun os=>some (.next,s1 (w.withFollow "special-get-raises" false) os,cE,p5):=by kernel_rfl
theorem We (w:iN):KR (w.withFollow "special-get-raises" true)=fun os=>some (.next,s1 (w.withFollow "special-get-raises" true) os,cE,p5):=by kernel_rfl
theorem Lc (w:iN):KR w=fun os=>some (.next,s1 w os,cE,p5):=byRow2 "special-get-raises" (P:=fun w=>KR w=fun os=>some (.next,s1 w os,cE,p5)) ZI We w
theorem Yb (w:iN):(fun os=>(Eb (w.withFollow "special-get-raises" false) os).map fun r=>(sI r.1,r.2.2.1,w8 (w.withFollow "special-get-raises" false) r.2.1.abs,wH qv lo (iz rp.main.body) Xt true r.2.1.abs,rg (xl r.2.1 Uo)))=fun _=>some (true,cE,true,B8 qv lo,rf):=by kernel_rfl
theorem XX (w:iN):(fun os=>(Eb (w.withFollow "special-get-raises" true) os).map fun r=>(sI r.1,r.2.2.1,w8 (w.withFollow "special-get-raises" true) r.2.1.abs,wH qv lo (iz rp.main.body) Xt true r.2.1.abs,rg (xl r.2.1 Uo)))=fun _=>some (true,cE,true,B8 qv lo,rf):=by kernel_rfl
theorem fin (w:iN):(fun os=>(Eb w os).map fun r=>(sI r.1,r.2.2.1,w8 w r.2.1.abs,wH qv lo (iz rp.main.body) Xt true r.2.1.abs,rg (xl r.2.1 Uo)))=fun _=>some (true,cE,true,B8 qv lo,rf):=
 byRow2 "special-get-raises" (P:=fun w=>(fun os=>(Eb w os).map fun r=>(sI r.1,r.2.2.1,w8 w r.2.1.abs,wH qv lo (iz rp.main.body) Xt true r.2.1.abs,rg (xl r.2.1 Uo)))=fun _=>some (true,cE,true,B8 qv lo,rf)) Yb XX w
theorem TP (w:iN):((jj w.params).isNs et&&(Array.mk []:Array p8).size==0,(jj w.params).objs.size,(jj w.params).nsMap et "__annotations__")=(true,11,an):=by kernel_rfl
theorem RM:∀w:iN,(fencedOpening kg rp w 6000).map (fun s=>(s.heap,s.gens,s.drawn,s.toks))=some (jj w.params,Array.mk [],qQ,tw):=
 boot_open (by kernel_rfl) (by decide) (fun s=>by kernel_rfl)
theorem OE {w:iN}{os:m6}{r:AA×wG×Code×ij}(h:Eb w os=some r) (hn:sI r.1=true) (hc:r.2.2.1=cE):topRun kg rp w 11 an 6000 ⟨jj w.params,#[],qQ,tw,os⟩ (topStub rp)=some r.2.1.abs:=by
 obtain⟨f,sT,c,pos⟩:=r
 change c=cE at hc
 subst hc
 cases f with
 |next=>
  unfold Eb at h
  have k0:=Wf w sT.abs cE pos
  have k1:=piece_app (rest:=[]) (segRun_of h) (piece_nil (env:=ID) k0)
  rw[cM] at k1
  have k3:=piece_app (segRun_of (congrFun (Lc w) os)) k1
  rw[List.take_append_drop] at k3
  have k2:=piece_block (congrFun (DC w) os) k3
  exact topRun_mono (6000-4912) _ _ _ _ (go_top (congrFun (KY w) os) k2)
 |_=>cases hn
noncomputable def K0 (s:aH):Prop:=∃K:gg,K.In s.heap∧rg K=rf
theorem left:LeftO rp qv lo Xt K0 (fun _=>True) 6000:=fun w=>by
 obtain⟨⟨h,gs,d,k,os⟩,e,e'⟩:=bB.mp (RM w)
 obtain⟨rfl,rfl,rfl,rfl⟩:h=jj w.params∧gs=Array.mk []∧d=qQ∧k=tw:=by simpa using e'
 obtain⟨z1,z2,z3⟩:_∧_∧_:=by simpa only[Prod.mk.injEq] using TP w
 obtain⟨r,r1,r2⟩:=bB.mp (congrFun (fin w) os)
 have l0:=congrArg Prod.fst r2
 have lc:=congrArg (fun x=>x.2.1) r2
 have l1:=congrArg (fun x=>x.2.2.1) r2
 have l2:=congrArg (fun x=>x.2.2.2.1) r2
 have l3:=congrArg (fun x=>x.2.2.2.2) r2
 change r.2.2.1=cE at lc
 change sI r.1=true at l0
 change w8 w r.2.1.abs=true at l1
 change wH qv lo (iz rp.main.body) Xt true r.2.1.abs=B8 qv lo at l2
 change rg (xl r.2.1 Uo)=rf at l3
 have t:topFrom kg rp w 6000 ⟨jj w.params,Array.mk [],qQ,tw,os⟩=some r.2.1.abs:=by
  unfold topFrom
  dsimp only
  rw[z1,z2,z3,OE r1 l0 lc]
  show(match w8 w r.2.1.abs with | true=>some r.2.1.abs | false=>none)=_
  rw[l1]
 unfold openEnds
 rw[e]
 show(topFrom kg rp w 6000 ⟨jj w.params,Array.mk [],qQ,tw,os⟩).map _=_
 rw[t]
 show some (wH qv lo (iz rp.main.body) Xt true r.2.1.abs,K0 r.2.1.abs)=_
 rw[l2,show K0 r.2.1.abs=True from eq_true ⟨_,IT _ _,l3⟩]
end
section
inductive Tm
 |v (i:Nat) | w (i:Nat) | l (n:Nat) | a (x y:Tm) | s (x y:Tm) | m (k:Nat) (x:Tm) | n (x:Tm) | c (x:Tm)
inductive Fm
 |L (x y:Tm) | T (x y:Tm) | E (x y:Tm) | l (x y:Tm) | t (x y:Tm) | e (x y:Tm) | N (p:Fm) | A (p q:Fm) | O (p q:Fm)
inductive Ct
 |k (ms:List Nat) | o (x y:Ct)
noncomputable def at_ {α:Type}(d:α):List α→Nat→α
 |[],_=>d
 |x::r,i=>match i with
  |0=>x
  |i+1=>at_ d r i
section
variable (xs:List Nat) (ys:List Int)
noncomputable def Tm.f:Tm→Nat
 |.v i=>at_ 0 xs i
 |.l k=>k
 |.a x y=>x.f+y.f
 |.m k x=>k*x.f
 |_=>0
noncomputable def Tm.g:Tm→Int
 |.v i=>(at_ 0 xs i:Nat)
 |.w i=>at_ 0 ys i
 |.l k=>@OfNat.ofNat Int k instOfNat
 |.a x y=>x.g+y.g
 |.s x y=>x.g-y.g
 |.m k x=>@OfNat.ofNat Int k instOfNat*x.g
 |.n x=>- x.g
 |.c x=>(x.f xs:Nat)
noncomputable def Fm.D:Fm→Prop
 |.L x y=>x.f xs≤y.f xs
 |.T x y=>x.f xs<y.f xs
 |.E x y=>x.f xs=y.f xs
 |.l x y=>x.g xs ys≤y.g xs ys
 |.t x y=>x.g xs ys<y.g xs ys
 |.e x y=>x.g xs ys=y.g xs ys
 |.N p=>¬p.D
 |.A p q=>p.D∧q.D
 |.O p q=>p.D∨q.D
noncomputable def sg (i:Nat):Int:=bif i==0 then 1 else bif i%2==1 then (at_ 0 xs (i / 2):Nat) else at_ 0 ys (i / 2-1)
noncomputable def ou (f:Nat→Int):Nat→List Int→Int
 |_,[]=>0
 |i,a::v=>a*f i+ou f (i+1) v
end
noncomputable def yn:List Int→List Int→List Int
 |[],v=>v
 |a::u,v=>match v with
  |[]=>a::u
  |b::v=>(a+b)::yn u v
noncomputable def yb (k:Int):List Int→List Int
 |[]=>[]
 |a::u=>(k*a)::yb k u
noncomputable def vu:Nat→List Int
 |0=>[1]
 |n+1=>0::vu n
noncomputable def Tm.p:Tm→List Int
 |.v i=>vu (2*i+1)
 |.l k=>[(k:Int)]
 |.a x y=>yn x.p y.p
 |.m k x=>yb k x.p
 |_=>[]
noncomputable def Tm.q:Tm→List Int
 |.v i=>vu (2*i+1)
 |.w i=>vu (2*i+2)
 |.l k=>[(k:Int)]
 |.a x y=>yn x.q y.q
 |.s x y=>yn x.q (yb (-1) y.q)
 |.m k x=>yb k x.q
 |.n x=>yb (-1) x.q
 |.c x=>x.p
noncomputable def PL (u v:List Int):List Int:=yn u (yb (-1) v)
noncomputable def Q7 (u v:List Int):List Int:=yn [1] (PL u v)
noncomputable abbrev KT:=Ct→List (List Int)→Bool
noncomputable def Yl (b:Bool) (u v:List Int) (K:KT) (c:Ct) (fs:List (List Int)):Bool:=K c ((bif b then PL u v else Q7 v u)::fs)
noncomputable def Y6 (b:Bool) (u v:List Int) (K:KT) (c:Ct) (fs:List (List Int)):Bool:=K c ((bif b then Q7 u v else PL v u)::fs)
noncomputable def Kw (f g:Ct→Bool) (c:Ct):Bool:=match c with
 |.o x y=>f x&&g y
 |_=>false
noncomputable def Zq (b:Bool) (u v:List Int) (K:KT) (c:Ct) (fs:List (List Int)):Bool:=match b with
 |true=>K c (PL u v::PL v u::fs)
 |false=>Kw (fun c=>K c (Q7 u v::fs)) (fun c=>K c (Q7 v u::fs)) c
noncomputable def Fm.go:Fm→Bool→KT→KT
 |.L x y,b,K=>Yl b x.p y.p K
 |.T x y,b,K=>Y6 b x.p y.p K
 |.E x y,b,K=>Zq b x.p y.p K
 |.l x y,b,K=>Yl b x.q y.q K
 |.t x y,b,K=>Y6 b x.q y.q K
 |.e x y,b,K=>Zq b x.q y.q K
 |.N p,b,K=>p.go (!b) K
 |.A p q,b,K=>fun c fs=>match b with
  |true=>p.go true (q.go true K) c fs
  |false=>Kw (fun c=>p.go false K c fs) (fun c=>q.go false K c fs) c
 |.O p q,b,K=>fun c fs=>match b with
  |false=>p.go false (q.go false K) c fs
  |true=>Kw (fun c=>p.go true K c fs) (fun c=>q.go true K c fs) c
noncomputable def G6:List Nat→List (List Int)→List Int
 |[],_=>[]
 |m::ms,fs=>match fs with
  |[]=>[]
  |f::fs=>yn (yb m f) (G6 ms fs)
noncomputable def Vq:Nat→List Int→Bool
 |_,[]=>true
 |i,a::r=>(bif i%2==1 then decide (0≤a) else decide (a=0))&&Vq (i+1) r
noncomputable def Sn (c:Ct) (fs:List (List Int)):Bool:=match c with
 |.k ms=>match G6 ms fs with
  |a::r=>decide (0<a)&&Vq 1 r
  |[]=>false
 |.o _ _=>false
noncomputable def Tz (g:Fm):List Fm→KT
 |[]=>g.go false Sn
 |p::ps=>p.go true (Tz g ps)
noncomputable def NO (xs:List Nat) (ys:List Int) (g:Fm):List Fm→Prop
 |[]=>g.D xs ys
 |p::ps=>p.D xs ys→NO xs ys g ps
noncomputable def Pj (xs:List Nat) (ys:List Int):List Fm→Prop
 |[]=>True
 |p::ps=>p.D xs ys∧Pj xs ys ps
section
variable {N:List Nat}{Z:List Int}{f:Nat→Int}{u v:List Int}{i:Nat}
theorem Yh {a b c d:Int}:a+b+(c+d)=a+c+(b+d):=by rw[Rf,Int.add_left_comm b,←Rf]
theorem pO {u:List Int}:∀{i:Nat}{v:List Int},ou f i (yn u v)=ou f i u+ou f i v:=by
 induction u with
 |nil=>exact(B9 _).symm
 |cons a u ih=>
  intro i v
  cases v with
  |nil=>exact(pw _).symm
  |cons b v=>show(a+b)*f i+ou f (i+1) (yn u v)=_;rw[ih,Int.add_mul];exact Yh
theorem pS {k:Int}{u:List Int}:∀{i:Nat},ou f i (yb k u)=k*ou f i u:=by
 induction u with
 |nil=>exact(Int.mul_zero _).symm
 |cons a u ih=>intro i;show k*a*f i+ou f (i+1) (yb k u)=_;rw[ih,Int.mul_assoc];exact(Int.mul_add ..).symm
theorem MQ {n:Nat}:∀{i:Nat},ou f i (vu n)=f (i+n):=by
 induction n with
 |zero=>exact(pw _).trans (Int.one_mul _)
 |succ n ih=>intro i;exact((congrArg (·+_) (Int.zero_mul _)).trans ((B9 _).trans ih)).trans (congrArg f (Nat.succ_add ..))
theorem Hq:ou f i (PL u v)=ou f i u-ou f i v:=pO.trans (congrArg (_+·) (pS.trans (wI _)))
theorem GO {k:Int}:ou (sg N Z) 0 [k]=k:=(pw _).trans (wa _)
theorem Pn:ou (sg N Z) 0 (Q7 u v)=1+(ou (sg N Z) 0 u-ou (sg N Z) 0 v):=pO.trans (congr (congrArg _ GO) Hq)
theorem UU:ou (sg N Z) 0 (vu (2*i+1))=(at_ 0 N i:Nat):=by
 rw[MQ,pz,sg,Nn,Np Nat.two_pos];rfl
theorem ZG:ou (sg N Z) 0 (vu (2*i+2))=at_ 0 Z i:=by
 rw[MQ,pz,sg,Nn,Np Nat.two_pos];rfl
theorem Tm.Bw (t:Tm):ou (sg N Z) 0 t.p=(t.f N:Nat):=by
 induction t with
 |v i=>exact UU
 |l n=>exact GO
 |a x y h1 h2=>exact pO.trans (congr (congrArg _ h1) h2)
 |m k x h=>exact pS.trans (congrArg _ h)
 |_=>rfl
theorem Tm.D6 (t:Tm):ou (sg N Z) 0 t.q=t.g N Z:=by
 induction t with
 |v i=>exact UU
 |w i=>exact ZG
 |l n=>exact GO
 |a x y h1 h2=>exact pO.trans (congr (congrArg _ h1) h2)
 |s x y h1 h2=>exact(show _=x.g N Z+- y.g N Z from pO.trans (congr (congrArg HAdd.hAdd h1) (pS.trans ((wI _).trans (congrArg Neg.neg h2)))))
 |m k x h=>exact pS.trans (congrArg _ h)
 |n x h=>exact pS.trans ((wI _).trans (congrArg Neg.neg h))
 |c x h=>exact x.Bw
noncomputable def rA (N:List Nat) (Z:List Int) (fs:List (List Int)):Prop:=∀f∈fs,ou (sg N Z) 0 f≤0
noncomputable def Q5 (N:List Nat) (Z:List Int) (K:KT):Prop:=∀c fs,K c fs=true→rA N Z fs→False
variable {fs:List (List Int)}{c:Ct}{K:KT}{b:Bool}{p:Prop}
theorem rA.cons (h:rA N Z fs) (h2:ou (sg N Z) 0 u≤0):rA N Z (u::fs):=fun f hf=>by
 cases hf with
 |head=>exact h2
 |tail _ hf=>exact h f hf
theorem Le {x y:Int}(h1:ou (sg N Z) 0 u=x) (h2:ou (sg N Z) 0 v=y) (h:x≤y):ou (sg N Z) 0 (PL u v)≤0:=lR (pA (Hq.trans (congr (congrArg _ h1) h2))) (EW h)
theorem Kg {x y:Int}(h1:ou (sg N Z) 0 u=x) (h2:ou (sg N Z) 0 v=y) (h:x<y):ou (sg N Z) 0 (Q7 u v)≤0:=lR (pA (Pn.trans (congrArg _ (congr (congrArg _ h1) h2)))) (by rw[Int.add_comm];exact Int.sub_neg_of_lt h)
noncomputable def VC (b:Bool) (p:Prop):Prop:=bif b then p else ¬p
theorem GI {x y:Int}(h1:ou (sg N Z) 0 u=x) (h2:ou (sg N Z) 0 v=y) (hK:Q5 N Z K) (e:p↔x≤y) (h:VC b p) (hc:Yl b u v K c fs=true) (hf:rA N Z fs):False:=by
 cases b with
 |true=>exact hK _ _ hc (hf.cons (Le h1 h2 (e.mp h)))
 |false=>exact hK _ _ hc (hf.cons (Kg h2 h1 (Int.not_le.mp fun q=>h (e.mpr q))))
theorem H8 {x y:Int}(h1:ou (sg N Z) 0 u=x) (h2:ou (sg N Z) 0 v=y) (hK:Q5 N Z K) (e:p↔x<y) (h:VC b p) (hc:Y6 b u v K c fs=true) (hf:rA N Z fs):False:=by
 cases b with
 |true=>exact hK _ _ hc (hf.cons (Kg h1 h2 (e.mp h)))
 |false=>exact hK _ _ hc (hf.cons (Le h2 h1 (jE.mp fun q=>h (e.mpr q))))
theorem BX {f g:Ct→Bool}(h:Kw f g c=true):∃x y,f x=true∧g y=true:=by
 cases c with
 |k ms=>cases h
 |o x y=>exact⟨x,y,(aS.mp h).1,(aS.mp h).2⟩
theorem Gb {x y:Int}(h1:ou (sg N Z) 0 u=x) (h2:ou (sg N Z) 0 v=y) (hK:Q5 N Z K) (e:p↔x=y) (h:VC b p) (hc:Zq b u v K c fs=true) (hf:rA N Z fs):False:=by
 cases b with
 |true=>exact hK _ _ hc ((hf.cons (Le h2 h1 (pA (e.mp h).symm))).cons (Le h1 h2 (pA (e.mp h))))
 |false=>
  obtain⟨c1,c2,k1,k2⟩:=BX hc
  exact(Int.lt_or_gt_of_ne fun q=>h (e.mpr q)).elim (fun q=>hK _ _ k1 (hf.cons (Kg h1 h2 q))) fun q=>hK _ _ k2 (hf.cons (Kg h2 h1 q))
theorem Fm.MP (p:Fm):∀{b:Bool}{K:KT}{c:Ct}{fs:List (List Int)},Q5 N Z K→VC b (p.D N Z)→p.go b K c fs=true→rA N Z fs→False:=by
 induction p with
 |L x y=>exact fun hK h=>GI x.Bw y.Bw hK dZ.symm h
 |T x y=>exact fun hK h=>H8 x.Bw y.Bw hK c0.symm h
 |E x y=>exact fun hK h=>Gb x.Bw y.Bw hK Int.ofNat_inj.symm h
 |l x y=>exact fun hK h=>GI x.D6 y.D6 hK Iff.rfl h
 |t x y=>exact fun hK h=>H8 x.D6 y.D6 hK Iff.rfl h
 |e x y=>exact fun hK h=>Gb x.D6 y.D6 hK Iff.rfl h
 |N p ih=>exact fun{b K c fs} hK h=>by cases b with
  |true=>exact ih (b:=false) hK h
  |false=>exact ih (b:=true) hK (uk h)
 |A p q h1 h2=>exact fun{b K c fs} hK h hc hf=>by cases b with
  |true=>exact h1 (b:=true) (fun _ _ k f=>h2 (b:=true) hK h.2 k f) h.1 hc hf
  |false=>
   obtain⟨c1,c2,k1,k2⟩:=BX hc
   exact(Classical.not_and_iff_not_or_not.mp h).elim (fun q=>h1 (b:=false) hK q k1 hf) fun q=>h2 (b:=false) hK q k2 hf
 |O p q h1 h2=>exact fun{b K c fs} hK h hc hf=>by cases b with
  |false=>exact h1 (b:=false) (fun _ _ k f=>h2 (b:=false) hK (fun z=>h (.inr z)) k f) (fun z=>h (.inl z)) hc hf
  |true=>
   obtain⟨c1,c2,k1,k2⟩:=BX hc
   exact Or.elim h (fun q=>h1 (b:=true) hK q k1 hf) fun q=>h2 (b:=true) hK q k2 hf
theorem LC {ms:List Nat}:∀{fs:List (List Int)},rA N Z fs→ou (sg N Z) 0 (G6 ms fs)≤0:=by
 induction ms with
 |nil=>exact fun _=>dR 0
 |cons m ms ih=>
  intro fs h
  cases fs with
  |nil=>exact dR 0
  |cons f fs=>exact lR (pA (pO.trans (congrArg (·+_) pS))) (Int.add_nonpos (Int.mul_nonpos_of_nonneg_of_nonpos (fR m) (h f aI)) (ih fun g hg=>h g (aG _ hg)))
theorem Qc {v:List Int}:∀{i:Nat},Vq (i+1) v=true→0≤ou (sg N Z) (i+1) v:=by
 induction v with
 |nil=>exact fun _=>dR 0
 |cons a r ih=>
  intro i h
  have h:=aS.mp h
  refine qR ?_ (ih h.2)
  have h:=h.1
  show 0≤a*bif (i+1)%2==1 then _ else _
  cases e:(i+1)%2==1 with
  |false=>rw[e] at h;rw[of_decide_eq_true h,Int.zero_mul];exact dR 0
  |true=>rw[e] at h;exact Int.mul_nonneg (of_decide_eq_true h) (fR _)
theorem NQ:Q5 N Z Sn:=fun c fs h hf=>by
 cases c with
 |o x y=>cases h
 |k ms=>
  have h0:=LC (ms:=ms) hf
  replace h:(match G6 ms fs with | a::r=>decide (0<a)&&Vq 1 r | []=>false)=true:=h
  generalize G6 ms fs=v at h h0
  cases v with
  |nil=>cases h
  |cons a r=>
   have h:=aS.mp h
   have h1:0<a*1:=(wa a).symm▸of_decide_eq_true h.1
   exact absurd h0 (Int.not_le.mpr (Int.add_pos_of_pos_of_nonneg h1 (Qc h.2)))
theorem P0 {g:Fm}(h:¬g.D N Z):∀{ps:List Fm},Pj N Z ps→Q5 N Z (Tz g ps):=by
 intro us
 induction us with
 |nil=>
  intro _
  exact fun _ _ hc hf=>g.MP (b:=false) NQ h hc hf
 |cons p ps ih=>
  intro hp
  exact fun _ _ hc hf=>p.MP (b:=true) (ih hp.2) hp.1 hc hf
theorem KJ {g:Fm}:∀{ps:List Fm},(Pj N Z ps→g.D N Z)→NO N Z g ps:=by
 intro us
 induction us with
 |nil=>
  intro h
  exact h trivial
 |cons p ps ih=>
  intro h
  exact fun hp=>ih fun q=>h ⟨hp,q⟩
end
theorem aW (N:List Nat) (Z:List Int) (ps:List Fm) (g:Fm) (c:Ct) (h:Tz g ps c []=true):NO N Z g ps:=
 KJ fun hp=>uk fun q=>P0 q hp c [] h fun _ hf=>by cases hf
noncomputable def Fm.fs (v x y:Tm):Fm:=.O (.A (.E (.a v y) x) (.L y x)) (.A (.E v (.l 0)) (.L x y))
noncomputable def Fm.fd (k:Nat) (q r x:Tm):Fm:=.A (.E (.a (.m k q) r) x) (.T r (.l k))
noncomputable def Fm.fD (k:Nat) (q r x:Tm):Fm:=.A (.e (.a (.m k q) r) x) (.A (.l (.l 0) r) (.t r (.l k)))
noncomputable def Fm.fm (v x y:Tm):Fm:=.O (.A (.E v x) (.L x y)) (.A (.E v y) (.L y x))
noncomputable def Fm.fi (v x y:Tm):Fm:=.O (.A (.e v x) (.l x y)) (.A (.e v y) (.l y x))
noncomputable def Fm.fI (v x y:Tm):Fm:=.O (.A (.e v x) (.l y x)) (.A (.e v y) (.l x y))
noncomputable def Fm.ft (v x:Tm):Fm:=.O (.A (.e v x) (.l (.l 0) x)) (.A (.E v (.l 0)) (.l x (.l 0)))
theorem eV (a b:Nat):(a-b+b=a∧b≤a)∨(a-b=0∧a≤b):=(Ca b a).imp (fun h=>⟨Nat.sub_add_cancel h,h⟩) fun h=>⟨Dt h,h⟩
theorem f_d (k a:Nat) (h:cw 1 k=true):k*(a / k)+a%k=a∧a%k<k:=⟨Nat.div_add_mod a k,Nat.mod_lt a (aE h)⟩
theorem ke (k:Nat) (i:Int) (h:cw 1 k=true):@OfNat.ofNat Int k instOfNat*(i / @OfNat.ofNat Int k instOfNat)+i%@OfNat.ofNat Int k instOfNat=i∧0≤i%@OfNat.ofNat Int k instOfNat∧i%@OfNat.ofNat Int k instOfNat<@OfNat.ofNat Int k instOfNat:=
 have p:(0:Int)<(k:Int):=c0.mpr (aE h)
 ⟨Int.mul_ediv_add_emod i k,lE i (Int.ne_of_gt p),jF i p⟩
theorem AH (a b:Nat):(min a b=a∧a≤b)∨(min a b=b∧b≤a):=(Ca a b).imp (fun h=>⟨fv h,h⟩) fun h=>⟨oh h,h⟩
theorem Mf (a b:Int):(min a b=a∧a≤b)∨(min a b=b∧b≤a):=(Cb a b).imp (fun h=>⟨wJ h,h⟩) fun h=>⟨vQ h,h⟩
theorem f_I (a b:Int):(max a b=a∧b≤a)∨(max a b=b∧a≤b):=(Cb b a).imp (fun h=>⟨Nq h,h⟩) fun h=>⟨oj h,h⟩
theorem kQ (i:Int):((i.toNat:Int)=i∧0≤i)∨(i.toNat=0∧i≤0):=(Cb 0 i).imp (fun h=>⟨rP h,h⟩) fun h=>⟨Fi h,h⟩
noncomputable abbrev aB:Tm:=.v 0
noncomputable abbrev aM:Tm:=.v 1
noncomputable abbrev cg:Tm:=.v 2
noncomputable abbrev fz:Tm:=.v 3
noncomputable abbrev ji:Tm:=.v 4
noncomputable abbrev qD:Tm:=.v 5
noncomputable abbrev bJ:Tm:=.w 0
noncomputable abbrev dO:Tm:=.w 1
noncomputable abbrev hO:Tm:=.w 2
noncomputable abbrev xB:Tm:=.w 3
noncomputable abbrev dF:Tm:=.l 0
noncomputable abbrev bP:Tm:=.l 1
noncomputable abbrev jL:Tm:=.l 2
noncomputable abbrev pQ:Tm:=.l 3
noncomputable abbrev iI:Tm:=.l 4
noncomputable abbrev jg:Tm:=.l 1000000
noncomputable abbrev rZ:Tm:=.l 100000
noncomputable abbrev tG:Tm:=.l 4611686018427387904
noncomputable abbrev D1:Tm:=.l 9223372036854775808
noncomputable abbrev cN:Ct:=.k [1,0,1]
noncomputable abbrev cK:Ct:=.k [1,1]
noncomputable abbrev jf:Ct:=.k [1,0,0,1]
noncomputable abbrev jN:Ct:=.k [1,0,1,0,1]
noncomputable abbrev nt:Ct:=.k [1]
noncomputable abbrev pE:Ct:=.k [1,0,0,0,0,1]
noncomputable abbrev ub:Ct:=.k [1,0,1,0,0,1]
noncomputable abbrev ui:Ct:=.k [1,1,1]
noncomputable abbrev xj:Ct:=.k [0,1,1]
noncomputable abbrev xK:Ct:=.k [0,1]
noncomputable abbrev n8:Ct:=.k [1,0,0,1,1]
noncomputable abbrev qu:Ct:=.k [1,1,0,1]
noncomputable abbrev rk:Ct:=.k [1,0,1,0,1,1]
noncomputable abbrev rt:Ct:=.k [1,1,0,0,1]
noncomputable abbrev tL:Ct:=.k [1,1,1,1]
noncomputable abbrev vG:Ct:=.k [0,1,0,0,1]
end
section
theorem yj {α:Type}{o:Option α}{d:Bool}{P:α→Bool}{W:Prop}(h:iw o d P=true) (k:∀x,o=some x→P x=true→W) (k0:o=none→d=true→W):W:=by
 cases o with
 |none=>exact k0 rfl h
 |some x=>exact k x rfl h
theorem oB {α:Type}{o:Option α}{d:Bool}{P:α→Bool}{x:α}(e:o=some x):iw o d P=P x:=by rw[e];rfl
theorem oN {α:Type}{o:Option α}{d:Bool}{P:α→Bool}(e:o=none):iw o d P=d:=by rw[e];rfl
theorem dY {a b:Bool}(h:(a&&b)=true):a=true∧b=true:=aS.mp h
theorem fT {P:Prop}(h:false=true):P:=nomatch h
theorem ej {α:Type}{o:Option α}{P:α→Bool}(h:iw o false P=true):∃x,o=some x∧P x=true:=yj h (fun x e q=>⟨x,e,q⟩) fun _ h=>fT h
section
variable {a b c d n m k:Nat}{i j:Int}
theorem ca (h:a≤b) (e:cw b n=true):a≤n:=az h (aE e)
theorem kr (h:a<b) (e:cw b n=true):a<n:=ca h e
theorem rC (h:a<b) (e:cw b (n+1)=true):a≤n:=fp (ca h e)
theorem oX (h:a≤b) (e:cw (b+1) n=true):a<n:=az (gR h) (aE e)
theorem B2 (h:b≤a) (e:cw n b=true):n≤a:=az (aE e) h
theorem S5 (h:¬a<b) (e:cw n b=true):n≤a:=B2 (aR h) e
theorem RF (h:b≤a) (e:cw (n+1) b=true):¬a=n:=gY (B2 h e)
theorem zG (h:a<b) (e:cw b n=true):¬a=n:=bV (kr h e)
theorem zA (h:b≤a) (e:cw n b=true):¬a<n:=bL (B2 h e)
theorem XS (h:¬a<b) (e:cw n b=true):¬a<n:=bL (S5 h e)
theorem Kn (h:b≤a) (e:cw n b=true):¬(m≤a∧a<n):=fun q=>zA h e q.2
theorem ZQ (h:a<b) (e:cw b m=true):¬(m≤a∧a<n):=fun q=>gq _ (aV (kr h e) q.1)
theorem Us (h:a≤b) (h':b≤c) (e:cw c n=true):a≤n:=ca (az h h') e
theorem wW (h:a≤b) (h':b<c) (pG:c≤d) (e:cw d n=true):a≤n:=ca (az (az h (dC h')) pG) e
theorem QS (h:a≤b):a≤b+1:=bz h
theorem lQ (k:Nat) (e:a+k=b):a≤b:=e▸bC a k
theorem f9 (k:Nat) (h:b≤c) (e:a+k=b):a≤c:=az (lQ k e) h
theorem zO (h:¬a<b):b<a+1:=j7 (aR h)
theorem pa (h:a=b) (h':b≤c):a≤c:=h▸h'
theorem EK (h:a=b) (h':¬b≤c):c<a:=h▸bq h'
theorem Xj (h:b≤a) (e:cw (n+1) b=true):n<a:=B2 h e
theorem Va (h:¬a<b) (h':¬a=b) (e:cw n b=true):n<a:=cq (aE e) (mA (aR h) (gS h'))
theorem HL (h:¬a<b) (h':¬a=b) (e:cw n (b+1)=true):¬a<n:=bL (az (aE e) (Va h h' (Nat.ble_self_eq_true b)))
theorem vl (h:a=b) (e:cw (b+1) n=true):a<n:=h▸aE e
theorem og (h:a=b) (e:cw b n=true):a≤n:=h▸aE e
theorem DL (h:a=b) (e:cw n b=true):n≤a:=h▸aE e
theorem uZ (h:a=b) (e:cw n b=true):¬a<n:=bL (DL h e)
theorem Z8 (h:a=b) (e:cw n b=true):¬(m≤a∧a<n):=fun q=>uZ h e q.2
theorem LM (h:¬(b≤a∧a<c)) (e:cw b m=true) (e':cw n c=true):¬(m≤a∧a<n):=fun q=>h ⟨az (aE e) q.1,aV q.2 (aE e')⟩
theorem JO {p q:Prop}(h:¬p):¬(p∧q):=fun z=>h z.1
theorem rF (h:k≤a):(a:Int)-@OfNat.ofNat Int k instOfNat=((a-k:Nat):Int):=(Rg h).symm
theorem gW (h:(a:Int)<@OfNat.ofNat Int k instOfNat):a<k:=c0.mp h
theorem pX (h:@OfNat.ofNat Int k instOfNat≤(a:Int)):k≤a:=dZ.mp h
theorem CX (h:¬(a:Int)<@OfNat.ofNat Int k instOfNat):k≤a:=aR fun q=>h (c0.mpr q)
theorem UJ (h:¬@OfNat.ofNat Int k instOfNat≤(a:Int)):a<k:=bq fun q=>h (dZ.mpr q)
theorem mO (h:(a:Int)=@OfNat.ofNat Int k instOfNat):a=k:=fY h
theorem hG (h:¬(a:Int)=@OfNat.ofNat Int k instOfNat):¬a=k:=fun q=>h (q▸rfl)
theorem Wj (h:@OfNat.ofNat Int k instOfNat≤(a:Int)) (e:cw n k=true):n≤a:=B2 (pX h) e
theorem dX (h:¬(a:Int)<@OfNat.ofNat Int k instOfNat) (e:cw n k=true):¬a<n:=zA (CX h) e
theorem vD (h:¬(a:Int)<@OfNat.ofNat Int k instOfNat) (e:cw n k=true):¬(m≤a∧a<n):=Kn (CX h) e
theorem uG (h:¬@OfNat.ofNat Int k instOfNat≤(a:Int)) (e:cw k m=true):¬(m≤a∧a<n):=ZQ (UJ h) e
theorem Hb (h:(a:Int)<(b:Int)):a<b:=c0.mp h
theorem Hm (h:¬(a:Int)<(b:Int)):b≤a:=aR fun q=>h (c0.mpr q)
theorem MX (h:(a:Int)=(b:Int)):a=b:=fY h
theorem Gd (h:¬(a:Int)=(b:Int)):¬a=b:=fun q=>h (q▸rfl)
theorem rl (h:@OfNat.ofNat Int k instOfNat<(a:Int)) (e:cw n k=true):n<a:=cq (aE e) (c0.mp h)
theorem tc (h:¬@OfNat.ofNat Int k instOfNat<(a:Int)) (e:cw k n=true):¬n<a:=fun q=>h (c0.mpr (cq (aE e) q))
theorem WQ (h:¬(a:Int)>@OfNat.ofNat Int k instOfNat) (e:cw k n=true):a≤n:=aR (tc h e)
theorem uO (h:a≤k) (e:cw (k+1) 9223372036854775808=true):(a:Int)<2^63:=Int.lt_of_lt_of_le (c0.mpr (cq h (aE e))) (by decide)
theorem Hg (h:a<b) (h':b≤k) (e:cw (k+1) 9223372036854775808=true):(a:Int)<2^63:=uO (az (dC h) h') e
theorem rm (h:a≤n):a-k≤n:=az (sM a k) h
theorem Il (h:a≤b) (e:cw b n=true):a-k≤n:=rm (ca h e)
theorem S4 (h:a=b) (e:cw n (b-k)=true):n≤a-k:=h▸aE e
theorem qA (h:a=b) (e:cw (n+1) b=true):n<a:=h▸aE e
theorem wm (h:a<b):b-(a+1)<b-a:=Fj h (d7 a)
theorem l7 (h:¬(a:Int)≠@OfNat.ofNat Int k instOfNat):a=k:=mO (yE h)
theorem Sy:((0:Int)+(a:Int)).toNat=a:=by rw[B9];rfl
theorem Ba {x:Int}(h:x≤(a:Int)):x≤((a+1:Nat):Int):=lR h (dZ.mpr (bX a))
theorem MN (h:a≤b) (h':b<c) (pG:c≤d) (h3:d≤k) (e:cw k n=true):a≤n:=wW h h' (az pG h3) e
theorem By (h:a<b) (h':b≤c) (pG:c≤k) (e:cw (k+1) 9223372036854775808=true):(a:Int)<2^63:=uO (az (dC h) (az h' pG)) e
theorem Ob (h:(a:Int)<@OfNat.ofNat Int k instOfNat) (e:cw (k+1) 9223372036854775808=true):(a:Int)<2^63:=uO (dC (gW h)) e
theorem Gw (h:@OfNat.ofNat Int k instOfNat≤(a:Int)):(a:Int)-@OfNat.ofNat Int k instOfNat=((a-k:Nat):Int):=rF (pX h)
theorem uK (h:¬(k≤a∧a<m)):¬(@OfNat.ofNat Int k instOfNat≤(a:Int)∧(a:Int)<@OfNat.ofNat Int m instOfNat):=fun q=>h ⟨dZ.mp q.1,c0.mp q.2⟩
theorem B3 {m:Nat}(h:0≤i) (h2:i<(m:Int)):i.natAbs<m:=by
 obtain⟨n,rfl⟩:=cI h
 exact c0.mp h2
theorem N6 (h:i=1∨i = -1):i.natAbs<1073741824:=by rcases h with rfl | rfl<;>decide
theorem ite_abs (i:Int):(if i<0 then -i else i)=(i.natAbs:Int):=by
 split
 ·exact(Int.ofNat_natAbs_of_nonpos (iZ ‹_›)).symm
 ·exact(Int.natAbs_of_nonneg (jE.mp ‹_›)).symm
theorem Ad {r a n:Nat}(h:r≤a) (h1:a<n):r≤n-(n-(a+1)):=by rw[vR h1];exact bz h
theorem Pl {L p e i n:Nat}(h:L-p≤i) (hn:i=n+1) (hg:p<e):L-e≤n:=by exact aW [_,_,_,_,_,_,_] [] [.L aB aM,.E aM (.a cg bP),.T fz ji,.fs qD (.v 6) ji,.fs aB (.v 6) fz] (.L qD cg) (.o (.o (.k [1,0,0,1,0,1,0,1,1,0,1]) (.k [1,1,0,0,0,1,0,1])) (.o pE pE)) rfl h hn hg (eV _ _) (eV _ _)
theorem SO {i:Nat}{m:Int}(h:i<(m-0).toNat) (h2:m<3):i+1≤2:=by exact aW [_,_] [_] [.T aB aM,.t bJ pQ,.ft aM (.s bJ dF)] (.L (.a aB bP) jL) (.o rk ub) rfl h h2 (kQ _)
theorem tn1 {v:Int}(h:0≤v):1+v=((1+v).toNat:Int):=(rP (qR (by decide) h)).symm
theorem Zd {v m:Int}(h:0≤v) (h2:v<m) (hm:m≤4):1≤(1+v).toNat∧(1+v).toNat≤4:=by exact aW [_] [_,_] [.l dF bJ,.t bJ dO,.l dO iI,.ft aB (.a bP bJ)] (.A (.L bP aB) (.L aB iI)) (.o (.o (.k [1,0,0,1,0,0,1]) rk) (.o (.k [0,1,0,0,0,0,1]) cN)) rfl h h2 hm (kQ _)
theorem F9 {a b:Int}:(if a<b then b-a else 0).toNat=(b-a).toNat:=by
 split
 ·rfl
 ·exact(Fi (EW (jE.mp ‹_›))).symm
theorem Hy (k:Nat) (h:¬(a:Int)<(k:Int)):(a:Int)-((k+1:Nat):Int)+1=((a-k:Nat):Int):=by exact aW [_,_,_] [] [.N (.t aB aM),.fs cg aB aM] (.e (.a (.s aB (.c (.a aM bP))) bP) cg) (.o (.o cN jf) (.o jN cK)) rfl h (eV _ _)
theorem OX (k:Nat) (h:¬(a:Int)<((k+1:Nat):Int)):(a:Int)-((k+1:Nat):Int)+1=((a-k:Nat):Int):=Hy k fun q=>h (Int.lt_trans q (c0.mpr (d7 k)))
theorem RR (h:n≤64):(n:Int)*5≤2^27:=lR (dZ.mpr (qS 5 h)) (by decide)
theorem So {r k:Int}{t:Nat}(h2:0≤k) (h3:k≤t) (h4:0≤r) (h5:r<1000003) (ht:t≤100000):(r+7103*(k+1)+20023).natAbs<2^64:=
 B3 (by exact aW [] [_,_] [.l dF bJ,.l dF dO] (.l dF (.a (.a dO (.m 7103 (.a bJ bP))) (.l 20023))) (.k [1,1,7103]) rfl h2 h4) (show _<(18446744073709551616:Int) by exact aW [_] [_,_] [.l bJ aB,.t dO (.l 1000003),.L aB rZ] (.t (.a (.a dO (.m 7103 (.a bJ bP))) (.l 20023)) (.l 18446744073709551616)) (.k [1,7103,1,7103]) rfl h3 h5 ht)
theorem ll:(0:Int)≤(a:Int):=fR a
end
theorem RI {α β γ:Type}{P:α→Prop}{Q:α→β→γ→Prop}(h:∃o a b,P o∧Q o a b):∃o,P o:=al h fun o h=>al h fun _ h=>al h fun _ h=>⟨o,h.1⟩
theorem bG {P1:Prop}{P2:Prop}{G:Prop}(h:(P1)∧P2) (k:P1→P2→G):G:=k  h.1 h.2
theorem fW {gD jG:Type}{P1:gD→jG→Prop}{G:Prop}(h:∃x1,∃x2,P1 x1 x2) (k:∀x1:gD,∀x2:jG,P1 x1 x2→G):G:=al h fun x0 h0=>al h0 (k x0)
theorem aq {gD:Type}{P1:gD→Prop}{P2:gD→Prop}{G:Prop}(h:∃x1,(P1 x1)∧P2 x1) (k:∀x1:gD,P1 x1→P2 x1→G):G:=al h fun x0 h0=>bG h0 (k x0)
theorem cD {gD jG:Type}{P1:gD→jG→Prop}{P2:gD→jG→Prop}{G:Prop}(h:∃x1,∃x2,(P1 x1 x2)∧P2 x1 x2) (k:∀x1:gD,∀x2:jG,P1 x1 x2→P2 x1 x2→G):G:=al h fun x0 h0=>aq h0 (k x0)
theorem bQ {P1:Prop}{P2:Prop}{P3:Prop}{G:Prop}(h:(P1)∧(P2)∧P3) (k:P1→P2→P3→G):G:=bG h.2 (k h.1)
theorem aL {gD:Type}{P1:gD→Prop}{P2:gD→Prop}{P3:gD→Prop}{G:Prop}(h:∃x1,(P1 x1)∧(P2 x1)∧P3 x1) (k:∀x1:gD,P1 x1→P2 x1→P3 x1→G):G:=al h fun x0 h0=>bQ h0 (k x0)
theorem eC {gD jG tT:Type}{P1:gD→jG→tT→Prop}{P2:gD→jG→tT→Prop}{G:Prop}(h:∃x1,∃x2,∃x3,(P1 x1 x2 x3)∧P2 x1 x2 x3) (k:∀x1:gD,∀x2:jG,∀x3:tT,P1 x1 x2 x3→P2 x1 x2 x3→G):G:=al h fun x0 h0=>cD h0 (k x0)
theorem aN {gD jG:Type}{P1:gD→jG→Prop}{P2:gD→jG→Prop}{P3:gD→jG→Prop}{G:Prop}(h:∃x1,∃x2,(P1 x1 x2)∧(P2 x1 x2)∧P3 x1 x2) (k:∀x1:gD,∀x2:jG,P1 x1 x2→P2 x1 x2→P3 x1 x2→G):G:=al h fun x0 h0=>aL h0 (k x0)
theorem fU {gD jG:Type}{P1:gD→Prop}{P2:gD→Prop}{P3:gD→jG→Prop}{G:Prop}(h:∃x1,(P1 x1)∧(P2 x1)∧∃x2,P3 x1 x2) (k:∀x1:gD,P1 x1→P2 x1→∀x2:jG,P3 x1 x2→G):G:=al h fun x0 h0=>al h0.2.2 (k x0 h0.1 h0.2.1)
theorem dn {P1:Prop}{P2:Prop}{P3:Prop}{P4:Prop}{G:Prop}(h:(P1)∧(P2)∧(P3)∧P4) (k:P1→P2→P3→P4→G):G:=bQ h.2 (k h.1)
theorem fF {gD:Type}{P1:gD→Prop}{P2:gD→Prop}{P3:gD→Prop}{P4:gD→Prop}{G:Prop}(h:∃x1,(P1 x1)∧(P2 x1)∧(P3 x1)∧P4 x1) (k:∀x1:gD,P1 x1→P2 x1→P3 x1→P4 x1→G):G:=al h fun x0 h0=>dn h0 (k x0)
theorem i9 {gD:Type}{P1:Prop}{P2:Prop}{P3:gD→Prop}{P4:gD→Prop}{G:Prop}(h:(P1)∧(P2)∧∃x1,(P3 x1)∧P4 x1) (k:P1→P2→∀x1:gD,P3 x1→P4 x1→G):G:=aq h.2.2 (k h.1 h.2.1)
theorem b9 {gD jG:Type}{P1:gD→jG→Prop}{P2:gD→jG→Prop}{P3:gD→jG→Prop}{P4:gD→jG→Prop}{G:Prop}(h:∃x1,∃x2,(P1 x1 x2)∧(P2 x1 x2)∧(P3 x1 x2)∧P4 x1 x2) (k:∀x1:gD,∀x2:jG,P1 x1 x2→P2 x1 x2→P3 x1 x2→P4 x1 x2→G):G:=al h fun x0 h0=>fF h0 (k x0)
theorem eT {gD jG tT QQ:Type}{P1:gD→jG→tT→QQ→Prop}{P2:gD→jG→tT→QQ→Prop}{P3:gD→Prop}{G:Prop}(h:∃x1,(∃x2,∃x3,∃x4,(P1 x1 x2 x3 x4)∧P2 x1 x2 x3 x4)∧P3 x1) (k:∀x1:gD,∀x2:jG,∀x3:tT,∀x4:QQ,P1 x1 x2 x3 x4→P2 x1 x2 x3 x4→P3 x1→G):G:=al h fun x0 h0=>eC h0.1 fun W9 aad Y2 Z4 Y5=>k x0 W9 aad Y2 Z4 Y5 h0.2
theorem cy {gD jG tT:Type}{P1:gD→jG→tT→Prop}{P2:gD→jG→tT→Prop}{P3:gD→jG→tT→Prop}{P4:gD→jG→tT→Prop}{G:Prop}(h:∃x1,∃x2,∃x3,(P1 x1 x2 x3)∧(P2 x1 x2 x3)∧(P3 x1 x2 x3)∧P4 x1 x2 x3) (k:∀x1:gD,∀x2:jG,∀x3:tT,P1 x1 x2 x3→P2 x1 x2 x3→P3 x1 x2 x3→P4 x1 x2 x3→G):G:=al h fun x0 h0=>b9 h0 (k x0)
theorem gN {gD jG tT:Type}{P1:gD→jG→Prop}{P2:gD→jG→tT→Prop}{P3:gD→jG→tT→Prop}{P4:gD→jG→Prop}{G:Prop}(h:∃x1,∃x2,(P1 x1 x2)∧(∃x3,(P2 x1 x2 x3)∧P3 x1 x2 x3)∧P4 x1 x2) (k:∀x1:gD,∀x2:jG,P1 x1 x2→∀x3:tT,P2 x1 x2 x3→P3 x1 x2 x3→P4 x1 x2→G):G:=al h fun x0 h0=>al h0 fun x1 h1=>aq h1.2.1 fun NW OP PW=>k x0 x1 h1.1 NW OP PW h1.2.2
theorem gc {gD jG:Type}{P1:gD→jG→Prop}{P2:gD→jG→Prop}{P3:gD→jG→Prop}{P4:gD→jG→Prop}{P5:gD→jG→Prop}{G:Prop}(h:∃x1,∃x2,(P1 x1 x2)∧(P2 x1 x2)∧(P3 x1 x2)∧(P4 x1 x2)∧P5 x1 x2) (k:∀x1:gD,∀x2:jG,P1 x1 x2→P2 x1 x2→P3 x1 x2→P4 x1 x2→P5 x1 x2→G):G:=al h fun x0 h0=>al h0 fun x1 h1=>dn h1.2 (k x0 x1 h1.1)
theorem eH {gD jG tT:Type}{P1:gD→jG→Prop}{P2:gD→jG→tT→Prop}{P3:gD→jG→tT→Prop}{P4:gD→jG→Prop}{P5:gD→jG→Prop}{P6:gD→jG→Prop}{G:Prop}(h:∃x1,∃x2,(P1 x1 x2)∧(∃x3,(P2 x1 x2 x3)∧P3 x1 x2 x3)∧(P4 x1 x2)∧(P5 x1 x2)∧P6 x1 x2) (k:∀x1:gD,∀x2:jG,P1 x1 x2→∀x3:tT,P2 x1 x2 x3→P3 x1 x2 x3→P4 x1 x2→P5 x1 x2→P6 x1 x2→G):G:=al h fun x0 h0=>al h0 fun x1 h1=>aq h1.2.1 fun NW OP PW=>bQ h1.2.2 (k x0 x1 h1.1 NW OP PW)
theorem g5 {gD jG tT QQ α5 α6 α7 α8 α9 Vi Td Ta RD T7:Type}{P1:gD→jG→tT→QQ→α5→α6→α7→α8→α9→Vi→Td→Ta→RD→T7→Prop}{G:Prop}(h:∃x1,∃x2,∃x3,∃x4,∃x5,∃x6,∃x7,∃x8,∃x9,∃O8,∃ND,∃Xg,∃XI,∃Y1,P1 x1 x2 x3 x4 x5 x6 x7 x8 x9 O8 ND Xg XI Y1) (k:∀x1:gD,∀x2:jG,∀x3:tT,∀x4:QQ,∀x5:α5,∀x6:α6,∀x7:α7,∀x8:α8,∀x9:α9,∀O8:Vi,∀ND:Td,∀Xg:Ta,∀XI:RD,∀Y1:T7,P1 x1 x2 x3 x4 x5 x6 x7 x8 x9 O8 ND Xg XI Y1→G):G:=al h fun x0 h0=>al h0 fun x1 h1=>al h1 fun x2 h2=>al h2 fun x3 h3=>al h3 fun x4 h4=>al h4 fun x5 h5=>al h5 fun x6 h6=>al h6 fun x7 h7=>al h7 fun x8 h8=>al h8 fun x9 h9=>al h9 fun O8 h10=>al h10 fun ND Uj=>fW Uj (k x0 x1 x2 x3 x4 x5 x6 x7 x8 x9 O8 ND)
end
section
noncomputable def be (bs:List UInt8):Nat:=bs.foldl (fun v x=>256*v+x.toNat) 0
noncomputable def gw (b:List UInt8) (a r:Nat):Option (Nat×Nat):=if a+r≤b.length then some (be ((b.drop a).take r),a+r) else none
noncomputable def QY (v r:Nat):Int:=if v≥128*256^(r-1) then (v:Int)-2*(128*256^(r-1)) else v
noncomputable def mQ (b:List UInt8) (a r:Nat):Option (Int×Nat):=(gw b a r).map fun p=>(QY p.1 r,p.2)
noncomputable def wq (b:List UInt8) (a r:Nat):Option (List UInt8×Nat):=if a+r≤b.length then some ((b.drop a).take r,a+r) else none
structure E9 where
 (h v w x y z:Int)
inductive n5 where
 |char (h v f c:Int)
 |rule (h v a b:Int)
 |spec (h v:Int) (t:List UInt8)
structure mw where
 (check size bW fo:Nat)
 name:List UInt8
deriving DecidableEq
noncomputable abbrev Known:=List (Int×mw)
structure fC where
 cA:E9
 qx:Int
 stack:List E9
 deep:Int
 rows:List n5
noncomputable def tj:List (Int×Int):=[(65,5),(97,-3),(200,70000)]
noncomputable def gT:List (Int×Int):=[(66,9),(98,0),(255,1073741823)]
noncomputable def rW (n:Int):List (Int×Int):=if n=3 then tj else if n=200 then gT else []
noncomputable def r7 (n:Int):Option (Nat×List UInt8):=if n=3 then some (0,[102,99]) else if n=200 then some (77,[102,104,122]) else none
noncomputable def un3 (x y:Int) (p:Int×Nat):Option ((Int×Int×Int)×Nat):=if min (min x y) p.1≤0 then none else some ((x,y,p.1),p.2)
noncomputable def un2 (b:List UInt8) (x:Int) (p:Int×Nat):=(mQ b p.2 4).bind (un3 x p.1)
noncomputable def un1 (b:List UInt8) (p:Int×Nat):=(mQ b p.2 4).bind (un2 b p.1)
noncomputable def nq (b:List UInt8) (a:Nat):Option ((Int×Int×Int)×Nat):=(mQ b a 4).bind (un1 b)
noncomputable def jt (dm check size bW:Nat) (nm:List UInt8):Bool:=match r7 dm with
 |none=>false
 |some (ck,nm')=>size==655360&&decide (0<bW)&&decide (bW≤134217727)&&(check==ck||check==0||ck==0)&&nm==nm'
noncomputable def VR (dm check size bW fo:Nat) (p:List UInt8×Nat):Option ((Nat×mw)×Nat):=if jt dm check size bW (p.1.drop fo) then some ((dm,⟨check,size,bW,fo,p.1⟩),p.2) else none
section
variable (b:List UInt8) (dm check size bW fo:Nat) (p:Nat×Nat)
noncomputable def fo6:=(wq b p.2 (fo+p.1)).bind (VR dm check size bW fo)
noncomputable def fo5:=(gw b p.2 1).bind (fo6 b dm check size bW p.1)
noncomputable def fo4:=(gw b p.2 1).bind (fo5 b dm check size p.1)
noncomputable def fo3:=(gw b p.2 4).bind (fo4 b dm check p.1)
noncomputable def fo2:=(gw b p.2 4).bind (fo3 b dm p.1)
noncomputable def fo1:=(gw b p.2 4).bind (fo2 b p.1)
end
noncomputable def mn (b:List UInt8) (op a:Nat):Option ((Nat×mw)×Nat):=(gw b a (op-242)).bind (fo1 b)
noncomputable def nw (b:List UInt8) (w a:Nat) (first vN:Int):Option ((Int×Int×Int)×Nat):=
 if w<4 then (mQ b a (w+1)).map fun p=>((p.1,first,vN),p.2)
 else if w<9 then
  if w>4 then (mQ b a (w-4)).map fun p=>((p.1,p.1,vN),p.2) else some ((first,first,vN),a)
 else if w>9 then (mQ b a (w-9)).map fun p=>((p.1,first,p.1),p.2) else some ((vN,first,vN),a)
noncomputable def fC.go (s:fC) (x y:Int):Option fC:=
 if (s.cA.h+x).natAbs≤2147483647∧(s.cA.v+y).natAbs≤2147483647 then some { s with cA:={ s.cA with h:=s.cA.h+x,v:=s.cA.v+y } } else none
noncomputable def fC.push (s:fC):fC:={ s with stack:=s.stack++[s.cA],deep:=max s.deep (s.stack.length+1) }
noncomputable def fC.pop (s:fC):Option fC:=s.stack.getLast?.map fun t=>{ s with stack:=s.stack.dropLast,cA:=t }
noncomputable def fC.row (s:fC) (r:n5):fC:={ s with rows:=s.rows++[r] }
noncomputable def PJ (s:fC) (code:Nat) (rq:Bool) (w:Int):Option fC:=if rq then (s.row (.char s.cA.h s.cA.v s.qx code)).go w 0 else some (s.row (.char s.cA.h s.cA.v s.qx code))
noncomputable def fC.vj (s:fC) (code:Nat) (rq:Bool):Option fC:=((rW s.qx).lookup (code:Int)).bind (PJ s code rq)
noncomputable def Mi (s:fC) (h w:Int):fC:=if h>0∧w>0 then s.row (.rule s.cA.h s.cA.v h w) else s
noncomputable def T2 (s:fC) (rq:Bool) (h:Int) (p:Int×Nat):Option (fC×Nat):=if rq then ((Mi s h p.1).go p.1 0).map fun t=>(t,p.2) else some (Mi s h p.1,p.2)
noncomputable def ru1 (b:List UInt8) (s:fC) (rq:Bool) (p:Int×Nat):=(mQ b p.2 4).bind (T2 s rq p.1)
noncomputable def qG (b:List UInt8) (a:Nat) (s:fC) (rq:Bool):Option (fC×Nat):=(mQ b a 4).bind (ru1 b s rq)
noncomputable def fC.choose (s:fC) (n:Int) (kn:Known):Option fC:=if (kn.lookup n).isSome then some { s with qx:=n } else none
noncomputable def ZF (kn:Known) (p:(Nat×mw)×Nat):Option (Known×Nat):=if (kn.lookup (p.1.1:Int)).isSome then none else some (kn++[((p.1.1:Int),p.1.2)],p.2)
noncomputable def lZ (b:List UInt8) (op a:Nat) (kn:Known):Option (Known×Nat):=(mn b op a).bind (ZF kn)
noncomputable abbrev pN:=fC×Known×Nat
section
variable (b:List UInt8) (s:fC) (kn:Known)
noncomputable def ltr (mv:Bool) (p:Nat×Nat):Option pN:=(s.vj p.1 mv).map fun t=>(t,kn,p.2)
noncomputable def mvA (r:(Int×Int×Int)×Nat):Option pN:=(fC.go { s with cA:={ s.cA with w:=r.1.2.1,x:=r.1.2.2 } } r.1.1 0).map fun t=>(t,kn,r.2)
noncomputable def mvD (r:(Int×Int×Int)×Nat):Option pN:=(fC.go { s with cA:={ s.cA with y:=r.1.2.1,z:=r.1.2.2 } } 0 r.1.1).map fun t=>(t,kn,r.2)
noncomputable def chs (p:Nat×Nat):Option pN:=(s.choose p.1 kn).map fun t=>(t,kn,p.2)
noncomputable def spc (p:Nat×Nat):Option pN:=(wq b p.2 p.1).map fun t=>(s.row (.spec s.cA.h s.cA.v t.1),kn,t.2)
variable (op a:Nat)
noncomputable def stE:Option pN:=if 243≤op∧op<247 then (lZ b op a kn).map fun p=>(s,p.1,p.2) else none
noncomputable def stD:Option pN:=if 239≤op∧op<243 then (gw b a (op-238)).bind (spc b s kn) else stE b s kn op a
noncomputable def stC:Option pN:=if 235≤op∧op<239 then (gw b a (op-234)).bind (chs s kn) else stD b s kn op a
noncomputable def stB:Option pN:=if 171≤op∧op<235 then (s.choose ((op-171:Nat):Int) kn).map fun t=>(t,kn,a) else stC b s kn op a
noncomputable def stA:Option pN:=if 157≤op∧op<171 then (nw b (op-157) a s.cA.y s.cA.z).bind (mvD s kn) else stB b s kn op a
noncomputable def st9:Option pN:=if 143≤op∧op<157 then (nw b (op-143) a s.cA.w s.cA.x).bind (mvA s kn) else stA b s kn op a
noncomputable def st8:Option pN:=if op=142 then s.pop.map fun t=>(t,kn,a) else st9 b s kn op a
noncomputable def st7:Option pN:=if op=141 then some (s.push,kn,a) else st8 b s kn op a
noncomputable def st6:Option pN:=if op=138 then some (s,kn,a) else st7 b s kn op a
noncomputable def st5:Option pN:=if op=137 then (qG b a s false).map fun p=>(p.1,kn,p.2) else st6 b s kn op a
noncomputable def st4:Option pN:=if op<137 then (gw b a (op-132)).bind (ltr s kn false) else st5 b s kn op a
noncomputable def st3:Option pN:=if op=132 then (qG b a s true).map fun p=>(p.1,kn,p.2) else st4 b s kn op a
noncomputable def Xe:Option pN:=if op<132 then (gw b a (op-127)).bind (ltr s kn true) else st3 b s kn op a
end
noncomputable def kI (b:List UInt8) (op a:Nat) (s:fC) (kn:Known):Option pN:=if op<128 then (s.vj op true).map fun t=>(t,kn,a) else Xe b s kn op a
noncomputable def Vv (L:Nat→Nat→fC→Known→Option pN) (s:fC) (kn:Known) (z:Nat×Nat):=L z.1 z.2 s kn
noncomputable def pgK (b:List UInt8) (L:Nat→Nat→fC→Known→Option pN) (q:pN):=(gw b q.2.2 1).bind (Vv L q.1 q.2.1)
noncomputable def gO (b:List UInt8):Nat→Nat→Nat→fC→Known→Option pN
 |n,op,a,s,kn=>if op=140 then some (s,kn,a) else match n with
  |0=>none
  |n+1=>(kI b op a s kn).bind (pgK b (gO b n))
noncomputable def AK:fC:=⟨⟨0,0,0,0,0,0⟩,-1,[],0,[]⟩
noncomputable def sgC (v:Int) (q:List Int×Nat):List Int×Nat:=(v::q.1,q.2)
noncomputable def zc (b:List UInt8):Nat→Nat→Option (List Int×Nat)
 |0,a=>some ([],a)
 |k+1,a=>(mQ b a 4).bind fun p=>(zc b k p.2).map (sgC p.1)
noncomputable def Vt (iE:List Int) (q:pN):Option ((List Int×fC)×Known×Nat):=if q.1.stack.length>0 then none else some ((iE,q.1),q.2.1,q.2.2)
noncomputable def pa3 (b:List UInt8) (kn:Known) (iE:List Int) (p:Nat×Nat):=(gO b (b.length-p.2) p.1 p.2 AK kn).bind (Vt iE)
noncomputable def Zr (b:List UInt8) (last:Int) (kn:Known) (iE:List Int) (p:Int×Nat):=if p.1≠last then none else (gw b p.2 1).bind (pa3 b kn iE)
noncomputable def pa1 (b:List UInt8) (last:Int) (kn:Known) (p:List Int×Nat):=(mQ b p.2 4).bind (Zr b last kn p.1)
noncomputable def nJ (b:List UInt8) (last:Int) (a:Nat) (kn:Known):Option ((List Int×fC)×Known×Nat):=(zc b 10 a).bind (pa1 b last kn)
noncomputable abbrev UD:=Nat×Nat×Known
noncomputable def pf1 (b:List UInt8) (kn told:Known) (p:(Nat×mw)×Nat):Option UD:=if (told.lookup (p.1.1:Int)).isSome∨kn.lookup (p.1.1:Int)≠some p.1.2 then none else (gw b p.2 1).map fun z=>(z.1,z.2,told++[((p.1.1:Int),p.1.2)])
noncomputable def pf2 (b:List UInt8) (op a:Nat) (told:Known):Option UD:=if op≠138 then none else (gw b a 1).map fun z=>(z.1,z.2,told)
noncomputable def mq (b:List UInt8) (kn:Known) (op a:Nat) (told:Known):Option UD:=if 243≤op∧op<247 then (mn b op a).bind (pf1 b kn told) else pf2 b op a told
noncomputable def gP (b:List UInt8) (kn:Known):Nat→Nat→Nat→Known→Option (Known×Nat)
 |n,op,a,told=>if op=249 then some (told,a) else match n with
  |0=>none
  |n+1=>(mq b kn op a told).bind fun q=>gP b kn n q.1 q.2.1 q.2.2
noncomputable def Vx (kn:Known) (q:Known×Nat):Option Nat:=if q.1.length≠kn.length then none else some q.2
noncomputable def pn1 (b:List UInt8) (kn:Known) (p:Nat×Nat):=(gP b kn (b.length-p.2) p.1 p.2 []).bind (Vx kn)
noncomputable def jd (b:List UInt8) (a:Nat) (kn:Known):Option Nat:=(gw b a 1).bind (pn1 b kn)
structure g7 where
 units:Int×Int×Int
 comment:List UInt8
 cb:List (List Int×List n5)
 cL:Known
 mc:Int
 widest:Int
 iy:Int
noncomputable abbrev Lm:=Nat×Nat×Int×g7
noncomputable def g7.Ly (v:g7) (q:(List Int×fC)×Known×Nat):g7:={ v with cb:=v.cb++[(q.1.1,q.1.2.rows)],iy:=max v.iy q.1.2.deep,cL:=q.2.1 }
noncomputable def mn1 (b:List UInt8) (a:Nat) (v:g7) (q:(List Int×fC)×Known×Nat):Option Lm:=(gw b q.2.2 1).map fun z=>(z.1,z.2,(a:Int)-1,v.Ly q)
noncomputable def mn2 (b:List UInt8) (last:Int) (v:g7) (q:Known×Nat):Option Lm:=(gw b q.2 1).map fun z=>(z.1,z.2,last,{ v with cL:=q.1 })
noncomputable def mn3 (b:List UInt8) (op a:Nat) (last:Int) (v:g7):Option Lm:=if op≠138 then none else (gw b a 1).map fun z=>(z.1,z.2,last,v)
noncomputable def mn4 (b:List UInt8) (op a:Nat) (last:Int) (v:g7):Option Lm:=if 243≤op∧op<247 then (lZ b op a v.cL).bind (mn2 b last v) else mn3 b op a last v
noncomputable def kF (b:List UInt8) (op a:Nat) (last:Int) (v:g7):Option Lm:=if op=139 then (nJ b last a v.cL).bind (mn1 b a v) else mn4 b op a last v
noncomputable def fQ (b:List UInt8):Nat→Nat→Nat→Int→g7→Option (Int×g7×Nat)
 |n,op,a,last,v=>if op=248 then some (last,v,a) else match n with
  |0=>none
  |n+1=>(kF b op a last v).bind fun q=>fQ b n q.1 q.2.1 q.2.2.1 q.2.2.2
section
variable (b:List UInt8) (a0:Nat) (last:Int) (v:g7) (pT wide:Int)
noncomputable def WM (p:Nat×Nat):Option g7:=if p.1≠2 then none else if b.length-p.2<4∨((b.drop p.2).any fun x=>x != 223) then none else some { v with mc:=pT,widest:=wide }
noncomputable def Yr (p:Nat×Nat):Option g7:=if p.1≠a0-1 then none else (gw b p.2 1).bind (WM b v pT wide)
noncomputable def VA (a:Nat):Option g7:=(gw b a 4).bind (Yr b a0 v pT wide)
noncomputable def Vk (p:Nat×Nat):Option g7:=if p.1≠v.cb.length%65536 then none else (jd b p.2 v.cL).bind (VA b a0 v pT wide)
noncomputable def WW (p:Nat×Nat):Option g7:=if (p.1:Int)<v.iy then none else (gw b p.2 2).bind (Vk b a0 v pT wide)
noncomputable def po5 (p:Int×Nat):Option g7:=(gw b p.2 2).bind (WW b a0 v pT p.1)
noncomputable def po4 (p:Int×Nat):Option g7:=(mQ b p.2 4).bind (po5 b a0 v p.1)
noncomputable def VM (p:(Int×Int×Int)×Nat):Option g7:=if p.1≠v.units then none else (mQ b p.2 4).bind (po4 b a0 v)
noncomputable def XK (p:Int×Nat):Option g7:=if p.1≠last then none else (nq b p.2).bind (VM b a0 v)
end
noncomputable def so (b:List UInt8) (a:Nat) (last:Int) (v:g7):Option g7:=(mQ b a 4).bind (XK b a last v)
section
variable (b:List UInt8) (u:Int×Int×Int)
noncomputable def fi6 (q:Int×g7×Nat):Option g7:=so b q.2.2 q.1 q.2.1
noncomputable def fi5 (cm:List UInt8) (p:Nat×Nat):Option g7:=(fQ b (b.length-p.2) p.1 p.2 (-1) ⟨u,cm,[],[],0,0,0⟩).bind (fi6 b)
noncomputable def fi4 (p:List UInt8×Nat):Option g7:=(gw b p.2 1).bind (fi5 b u p.1)
noncomputable def fi3 (p:Nat×Nat):Option g7:=(wq b p.2 p.1).bind (fi4 b u)
noncomputable def G5 (p:(Int×Int×Int)×Nat):Option g7:=(gw b p.2 1).bind (fi3 b p.1)
noncomputable def VJ (p:Nat×Nat):Option g7:=if p.1≠2 then none else (nq b p.2).bind (G5 b)
noncomputable def Ww (p:Nat×Nat):Option g7:=if p.1≠247 then none else (gw b p.2 1).bind (VJ b)
end
noncomputable def iD (b:List UInt8):Option g7:=(gw b 0 1).bind (Ww b)
theorem C6 (bs:List UInt8) (x:UInt8):be (bs++[x])=256*be bs+x.toNat:=by unfold be;rw[List.foldl_append];rfl
theorem J7 (b:List UInt8) (a i:Nat) (h:a+i<b.length):be ((b.drop a).take (i+1))=256*be ((b.drop a).take i)+(b.getD (a+i) 0).toNat:=by
 have:(b.drop a).take (i+1)=(b.drop a).take i++[b.getD (a+i) 0]:=by
  rw[gi,cG]
  congr 1
  rw[bt,aw h];rfl
 rw[this,C6]
theorem Mu (bs:List UInt8):be bs<256^bs.length:=by
 suffices h:∀(bs:List UInt8) (v k:Nat),v<256^k→bs.foldl (fun v x=>256*v+x.toNat) v<256^(k+bs.length) by
  have:=h bs 0 0 (by simp);simpa [be] using this
 intro bs
 induction bs with
 |nil=>intro v k h;simpa using h
 |cons x xs ih=>
  intro v k h
  have hx:=x.toNat_lt
  have:=ih (256*v+x.toNat) (k+1) (by rw[Nat.pow_succ];lia)
  rw[pB,cC]
  rwa [show k+(xs.length+1)=k+1+xs.length by exact aW [_,_] [] [] (.E (.a aB (.a aM bP)) (.a (.a aB bP) aM)) (.o nt nt) rfl]
theorem gM {b:List UInt8}{a r v a':Nat}(h:gw b a r=some (v,a')):a'=a+r∧a'≤b.length∧v<256^r:=by
 unfold gw at h
 split at h
 ·cases h
  have:=Mu ((b.drop a).take r)
  rw[cj,aJ,fv (by lia)] at this
  exact⟨rfl,by omega,this⟩
 ·exact nS h
theorem F2 {b:List UInt8}{a r v a':Nat}(h:gw b a r=some (v,a')):mQ b a r=some (QY v r,a'):=by unfold mQ;rw[h];rfl
theorem HS {b:List UInt8}{a r:Nat}(h:gw b a r=none):mQ b a r=none:=by unfold mQ;rw[h];rfl
theorem pd {b:List UInt8}{a r a':Nat}{v:Int}(h:mQ b a r=some (v,a')):a'=a+r∧a'≤b.length:=by
 unfold mQ at h
 cases e:gw b a r with
 |none=>rw[e] at h;exact nS h
 |some p=>
  obtain⟨v0,a0⟩:=p
  rw[e] at h
  cases h
  have:=gM e
  exact⟨this.1,this.2.1⟩
theorem bS {α β:Type}{x:Option α}{y:α}{f:α→Option β}{r:Option β}(e:x=some y) (q:f y=r):x.bind f=r:=by rw[e];exact q
theorem bN {α β:Type}{x:Option α}{f:α→Option β}{r:Option β}(e:x=none) (q:none=r):x.bind f=r:=by rw[e];exact q
theorem mS {α β:Type}{x:Option α}{y:α}{f:α→β}{r:Option β}(e:x=some y) (q:some (f y)=r):x.map f=r:=by rw[e];exact q
theorem mN {α β:Type}{x:Option α}{f:α→β}{r:Option β}(e:x=none) (q:none=r):x.map f=r:=by rw[e];exact q
theorem iT {α:Type}{c:Prop} [Decidable c] {x y r:α}(h:c) (q:x=r):(if c then x else y)=r:=(if_pos h).trans q
theorem iF {α:Type}{c:Prop} [Decidable c] {x y r:α}(h:¬c) (q:y=r):(if c then x else y)=r:=(if_neg h).trans q
noncomputable def hW {α:Type}(o:Option α) (P:α→Prop):Prop:=∀x,o=some x→P x
section
variable {α β:Type}{P Q:α→Prop}{R:β→Prop}
theorem hW.none:hW (none:Option α) P:=fun _ e=>nomatch e
theorem hW.some {x:α}(h:P x):hW (some x) P:=fun _ e=>ae e▸h
theorem hW.ite {p:Prop} [d:Decidable p] {x y:Option α}(h1:p→hW x P) (h2:¬p→hW y P):hW (if p then x else y) P:=by
 cases d with
 |isTrue h=>exact h1 h
 |isFalse h=>exact h2 h
theorem hW.bind {o:Option β}{f:β→Option α}(h:∀x,o=.some x→hW (f x) P):hW (o.bind f) P:=by
 cases o with
 |none=>exact .none
 |some x=>exact h x rfl
theorem hW.cV {o:Option β}{f:β→Option α}(k:hW o R) (h:∀x,R x→hW (f x) P):hW (o.bind f) P:=.bind fun x e=>h x (k x e)
theorem hW.map {o:Option β}{f:β→α}(h:∀x,o=.some x→P (f x)):hW (o.map f) P:=by
 cases o with
 |none=>exact .none
 |some x=>exact .some (h x rfl)
theorem hW.jB {o:Option β}{f:β→α}(k:hW o R) (h:∀x,R x→P (f x)):hW (o.map f) P:=.map fun x e=>h x (k x e)
theorem hW.no {o:Option α}{p:Prop}(k:hW o fun _=>p) (h:¬p):o=.none:=by
 cases e:o with
 |none=>rfl
 |some x=>exact absurd (k x e) h
theorem hW.mono {o:Option α}(k:hW o P) (h:∀x,P x→Q x):hW o Q:=fun x e=>h x (k x e)
end
theorem Gy {b t:List UInt8}{a r a':Nat}(h:wq b a r=some (t,a')):a'=a+r∧a'≤b.length:=by
 have k:hW (wq b a r) fun z=>z.2=a+r∧z.2≤b.length:=.ite (fun h=>.some ⟨rfl,h⟩) fun _=>.none
 exact k _ h
theorem Lg {b t:List UInt8}{a r a':Nat}(h:wq b a r=some (t,a')):t.length=r:=by
 have k:hW (wq b a r) fun z=>z.1.length=r:=.ite (fun h=>.some (by rw[cj,aJ];exact fv (Du h))) fun _=>.none
 exact k _ h
noncomputable def eZ (kn:Known):Prop:=(kn.map (·.1)).Nodup∧∀k∈kn.map (·.1),k=3∨k=200
theorem eZ.nil:eZ []:=⟨gF,fun _ h=>by cases h⟩
theorem BB {l:List Int}(h:l.Nodup) (h2:∀k∈l,k=3∨k=200):l.length≤2:=by
 rcases l with _ | ⟨x,_ | ⟨y,_ | ⟨z,r⟩⟩⟩
 ·exact cR _
 ·exact bX _
 ·exact aA _
 ·exfalso
  rw[du,du] at h
  have h1:x≠y:=fun e=>h.1 (e▸aI)
  have h3:x≠z:=fun e=>h.1 (e▸aG _ aI)
  have h4:y≠z:=fun e=>h.2.1 (e▸aI)
  have a:=h2 x aI
  have b:=h2 y (aG _ aI)
  have c:=h2 z (aG _ (aG _ aI))
  lia
theorem eZ.le {kn:Known}(h:eZ kn):kn.length≤2:=by
 have:=BB h.1 h.2
 rwa [aa] at this
theorem eZ.snoc {kn:Known}{k:Int}{r:mw}(h:eZ kn) (hk:kn.lookup k=none) (h3:k=3∨k=200):eZ (kn++[(k,r)]):=by
 unfold eZ
 rw[aF]
 refine⟨m7.mpr ⟨h.1,du.mpr ⟨bZ,gF⟩,fun x hx y hy e=>?_⟩,fun x hx=>(eG.mp hx).elim (h.2 x) fun hx=>cU.mp hx▸h3⟩
 refine aq (dJ.mp hx) fun p hp e2=>?_
 have h1:=gG.mp hk p hp
 have h2:k=p.1:=(cU.mp hy).symm.trans (e.symm.trans e2.symm)
 rw[h2,bne_self_eq_false] at h1
 exact fT h1
theorem vJ {dm check size bW:Nat}{nm:List UInt8}(h:jt dm check size bW nm=true):(dm:Int)=3∨(dm:Int)=200:=by
 unfold jt r7 at h
 by_cases h3:(dm:Int)=3
 ·exact .inl h3
 by_cases h4:(dm:Int)=200
 ·exact .inr h4
 rw[if_neg h3,if_neg h4] at h
 exact fT h
section
variable {b:List UInt8}{a r op w code:Nat}{s:fC}{mv:Bool}{x y f g n:Int}{kn:Known}
theorem DG:hW (gw b a r) fun z=>z.2=a+r∧z.2≤b.length:=.ite (fun h=>.some ⟨rfl,h⟩) fun _=>.none
theorem Jw:hW (mQ b a r) fun z=>z.2=a+r∧z.2≤b.length:=.jB DG fun _ h=>h
theorem Eu:hW (gw b a r) fun z=>a≤z.2∧z.2≤b.length:=.ite (fun h=>.some ⟨bC a r,h⟩) fun _=>.none
theorem Lj:hW (mQ b a r) fun z=>a≤z.2∧z.2≤b.length:=.jB Eu fun _ h=>h
theorem tkO:hW (wq b a r) fun z=>a≤z.2∧z.2≤b.length:=.ite (fun h=>.some ⟨bC a r,h⟩) fun _=>.none
structure SR (n m:Nat) (s':fC):Prop where
 st:s'.stack.length≤n+1
 rw:s'.rows.length≤m+1
theorem VK {m k:Nat}(h:s.stack.length≤m+1) (h':s.rows.length≤k+1):hW (s.go x y) (SR m k):=.ite (fun _=>.some ⟨h,h'⟩) fun _=>.none
theorem SR.refl:SR s.stack.length s.rows.length s:=⟨bX _,bX _⟩
theorem yc:hW (s.vj code mv) (SR s.stack.length s.rows.length):=.bind fun _ _=>.ite (fun _=>VK (bX _) (bF ah)) fun _=>.some ⟨bX _,bF ah⟩
theorem MI:hW (qG b a s mv) fun r=>SR s.stack.length s.rows.length r.1∧a≤r.2∧r.2≤b.length:=by
 refine .cV Lj fun u hu=>.cV Lj fun v hv=>?_
 have k:SR s.stack.length s.rows.length (Mi s u.1 v.1):=by
  unfold Mi
  split
  ·exact⟨bX _,bF ah⟩
  ·exact .refl
 exact .ite (fun _=>.jB (VK k.st k.rw) fun t ht=>⟨ht,az hu.1 hv.1,hv.2⟩) fun _=>.some ⟨k,az hu.1 hv.1,hv.2⟩
theorem Cu:hW (s.choose n kn) (SR s.stack.length s.rows.length):=.ite (fun _=>.some ⟨bX _,bX _⟩) fun _=>.none
theorem Yu:hW s.pop (SR s.stack.length s.rows.length):=.map fun _ _=>⟨by rw[List.length_dropLast];exact bz (sM _ _),bX _⟩
theorem Nk:hW (nw b w a f g) fun r=>a≤r.2∧(a≤b.length→r.2≤b.length):=
 .ite (fun _=>.jB Lj fun _ h=>⟨h.1,fun _=>h.2⟩) fun _=>.ite (fun _=>.ite (fun _=>.jB Lj fun _ h=>⟨h.1,fun _=>h.2⟩) fun _=>.some ⟨aA _,id⟩) fun _=>
  .ite (fun _=>.jB Lj fun _ h=>⟨h.1,fun _=>h.2⟩) fun _=>.some ⟨aA _,id⟩
theorem GY:hW (mn b op a) fun r=>(a≤r.2∧r.2≤b.length)∧((r.1.1:Int)=3∨(r.1.1:Int)=200):=
 .cV Eu fun _ h1=>.cV Eu fun _ h2=>.cV Eu fun _ h3=>.cV Eu fun _ h4=>.cV Eu fun _ h5=>.cV Eu fun _ h6=>.cV tkO fun _ h7=>
  .ite (fun h=>.some ⟨⟨az h1.1 (az h2.1 (az h3.1 (az h4.1 (az h5.1 (az h6.1 h7.1))))),h7.2⟩,vJ h⟩) fun _=>.none
theorem El {a':Nat}{r:Nat×mw}(h:mn b op a=some (r,a')):a≤a'∧a'≤b.length:=(GY _ h).1
theorem OV:hW (lZ b op a kn) fun r=>(a≤r.2∧r.2≤b.length∧r.1.length=kn.length+1)∧(eZ kn→eZ r.1):=
 .cV GY fun _ h=>.ite (fun _=>.none) fun k=>.some ⟨⟨h.1.1,h.1.2,ah⟩,fun q=>q.snoc (kD.mp k) h.2⟩
structure uS (b:List UInt8) (a:Nat) (s:fC) (kn:Known) (r:fC×Known×Nat):Prop where
 le:a≤r.2.2
 in_:a≤b.length→r.2.2≤b.length
 sr:SR s.stack.length s.rows.length r.1
 kl:r.2.1.length≤kn.length+1
 ok:eZ kn→eZ r.2.1
theorem uS.same {s':fC}(h:SR s.stack.length s.rows.length s'):uS b a s kn (s',kn,a):=⟨aA _,id,h,bX _,id⟩
theorem uS.on {s':fC}{a':Nat}(h:SR s.stack.length s.rows.length s') (k:a≤a'∧a'≤b.length):uS b a s kn (s',kn,a'):=⟨k.1,fun _=>k.2,h,bX _,id⟩
theorem GK:hW (kI b op a s kn) (uS b a s kn):=
 .ite (fun _=>.jB yc fun _ h=>.same h) fun _=>.ite (fun _=>.cV Eu fun _ k=>.jB yc fun _ h=>.on h k) fun _=>
 .ite (fun _=>.jB MI fun _ h=>.on h.1 h.2) fun _=>.ite (fun _=>.cV Eu fun _ k=>.jB yc fun _ h=>.on h k) fun _=>
 .ite (fun _=>.jB MI fun _ h=>.on h.1 h.2) fun _=>.ite (fun _=>.some (.same .refl)) fun _=>
 .ite (fun _=>.some (.same ⟨bF ah,bX _⟩)) fun _=>.ite (fun _=>.jB Yu fun _ h=>.same h) fun _=>
 .ite (fun _=>.cV Nk fun _ k=>.jB (VK (bX _) (bX _)) fun _ h=>⟨k.1,k.2,h,bX _,id⟩) fun _=>
 .ite (fun _=>.cV Nk fun _ k=>.jB (VK (bX _) (bX _)) fun _ h=>⟨k.1,k.2,h,bX _,id⟩) fun _=>
 .ite (fun _=>.jB Cu fun _ h=>.same h) fun _=>.ite (fun _=>.cV Eu fun _ k=>.jB Cu fun _ h=>.on h k) fun _=>
 .ite (fun _=>.cV Eu fun _ k=>.jB tkO fun _ k'=>.on ⟨bX _,bF ah⟩ ⟨az k.1 k'.1,k'.2⟩) fun _=>
 .ite (fun _=>.jB OV fun _ h=>⟨h.1.1,fun _=>h.1.2.1,.refl,bF h.1.2.2,h.2⟩) fun _=>.none
end
end
section
theorem uT (b:List UInt8) (i:Nat):∀a:Nat,zc b (i+1) a=(zc b i a).bind fun p=>(mQ b p.2 4).map fun q=>(p.1++[q.1],q.2):=by
 induction i with
 |zero=>
  intro a
  show(mQ b a 4).bind _=(mQ b a 4).map _
  cases mQ b a 4<;>rfl
 |succ i ih=>
  intro a
  show(mQ b a 4).bind _=((mQ b a 4).bind _).bind _
  cases mQ b a 4 with
  |none=>rfl
  |some p=>
   show(zc b (i+1) p.2).map _=((zc b i p.2).map _).bind _
   rw[ih]
   cases zc b i p.2 with
   |none=>rfl
   |some q=>
    show((mQ b q.2 4).map _).map _=(mQ b q.2 4).map _
    cases mQ b q.2 4<;>rfl
theorem Ii {b:List UInt8}{a j i:Nat}(h:zc b i a=none) (hi:i≤j):zc b j a=none:=by
 induction hi with
 |refl=>exact h
 |step _ ih=>rw[uT,ih];rfl
theorem OR {b:List UInt8}{i:Nat}:∀{a:Nat},hW (zc b i a) fun r=>r.2=a+4*i∧(a≤b.length→r.2≤b.length)∧r.1.length=i:=by
 induction i with
 |zero=>exact .some ⟨rfl,id,rfl⟩
 |succ i ih=>exact .cV Jw fun p h1=>.jB ih fun q h2=>⟨h2.1.trans (by rw[h1.1,Nat.mul_succ,nM,fJ 4]),fun _=>h2.2.1 h1.2,congrArg (·+1) h2.2.2⟩
theorem B6 {b:List UInt8}{a' i a:Nat}{vs:List Int}(h:zc b i a=some (vs,a')) (ha:a≤b.length):a'=a+4*i∧a'≤b.length∧vs.length=i:=
 have k:=OR _ h
 ⟨k.1,k.2.1 ha,k.2.2⟩
theorem Et {b:List UInt8}{op a a':Nat}{s s':fC}{kn oY:Known}(h:kI b op a s kn=some (s',oY,a')) (ha:a≤b.length) :
  a≤a'∧s'.stack.length≤s.stack.length+1∧s'.rows.length≤s.rows.length+1∧oY.length≤kn.length+1:=
 have k:=GK _ h
 ⟨k.le,k.sr.st,k.sr.rw,k.kl⟩
section
variable {b:List UInt8}{n op a a' tv VT:Nat}{s s':fC}{kn oY told:Known}
theorem uM (n:Nat):gO b n 140 a s kn=some (s,kn,a):=by cases n<;>exact if_pos rfl
theorem vM (ho:op≠140) (h:kI b op a s kn=none):gO b n op a s kn=none:=by
 cases n with
 |zero=>exact if_neg ho
 |succ n=>exact iF ho (bN h rfl)
theorem BI (ho:op≠140) (h:kI b op a s kn=some (s',oY,a')) (h2:gw b a' 1=none):gO b n op a s kn=none:=by
 cases n with
 |zero=>exact if_neg ho
 |succ n=>exact iF ho (bS h (bN h2 rfl))
theorem EP (ho:op≠140) (hn:b.length-a≤n) (ha:a≤b.length) (h:kI b op a s kn=some (s',oY,a')) (h2:gw b a' 1=some (tv,VT)) :
  ∃n',n=n'+1∧gO b n op a s kn=gO b n' tv VT s' oY∧b.length-VT≤n':=by
 have h3:=gM h2
 have h4:=Et h ha
 cases n with
 |zero=>exact(aW [_,_,_,_,_] [] [.E aB (.a aM bP),.L aB cg,.L fz aM,.fs ji cg fz] (.N (.L ji dF)) (.o (.k [1,0,0,1,1,1,0,1]) (.k [0,1,0,0,1,1,0,1])) rfl h3.1 h3.2.1 h4.1 (eV _ _) hn).elim
 |succ n=>
  exact⟨n,rfl,iF ho (bS h (bS h2 rfl)),by exact aW [_,_,_,_,_,_,_] [] [.E aB (.a aM bP),.L cg aM,.L fz (.a ji bP),.fs qD (.v 6) aB,.fs fz (.v 6) cg] (.L qD ji) (.o (.o (.k [1,0,0,1,0,1,0,1,1,0,1]) (.k [1,1,0,0,0,1,0,0,1,0,1])) (.o pE pE)) rfl h3.1 h4.1 hn (eV _ _) (eV _ _)⟩
end
end
section
section
variable {b:List UInt8}{n op a a' tv VT dm:Nat}{s s':fC}{kn oY told:Known}{row:mw}{last:Int}{v:g7}
theorem sz {a a' n:Nat}(h:a+1≤a'∧a'≤b.length) (hn:b.length-a≤n):∃n',n=n'+1∧b.length-a'≤n':=by
 cases n with
 |zero=>exact(aW [_,_,_,_] [] [.A (.L (.a aB bP) aM) (.L aM cg),.fs fz cg aB] (.N (.L fz dF)) (.o (.k [1,0,0,1,1,1]) (.k [0,1,0,0,1,1])) rfl h (eV _ _) hn).elim
 |succ n=>exact⟨n,rfl,fp (aV (Fj (aV h.1 h.2) h.1) hn)⟩
theorem EC:hW (gw b a 1) fun z=>a+1≤z.2∧z.2≤b.length:=.ite (fun h=>.some ⟨aA _,h⟩) fun _=>.none
theorem vp (n:Nat):gP b kn n 249 a told=some (told,a):=by cases n<;>exact if_pos rfl
theorem w7 (ho:op≠249) (h:mq b kn op a told=none):gP b kn n op a told=none:=by
 cases n with
 |zero=>exact if_neg ho
 |succ n=>exact iF ho (bN h rfl)
theorem CE:hW (mq b kn op a told) fun q=>a+1≤q.2.1∧q.2.1≤b.length:=
 .ite (fun _=>.cV GY fun _ h=>.ite (fun _=>.none) fun _=>.jB EC fun _ k=>⟨az (gR h.1.1) k.1,k.2⟩) fun _=>.ite (fun _=>.none) fun _=>.jB EC fun _ k=>k
theorem EB {q:UD}(ho:op≠249) (h:mq b kn op a told=some q) (hn:b.length-a≤n):∃n',n=n'+1∧gP b kn n op a told=gP b kn n' q.1 q.2.1 q.2.2∧b.length-q.2.1≤n':=by
 refine aq (sz (CE _ h) hn) fun n' e k=>?_
 subst e
 exact⟨n',rfl,iF ho (bS h rfl),k⟩
theorem vI (n:Nat):fQ b n 248 a last v=some (last,v,a):=by cases n<;>exact if_pos rfl
theorem r9 (ho:op≠248) (h:kF b op a last v=none):fQ b n op a last v=none:=by
 cases n with
 |zero=>exact if_neg ho
 |succ n=>exact iF ho (bN h rfl)
theorem K9 {n:Nat}:∀{op a:Nat}{s:fC}{kn:Known},hW (gO b n op a s kn) fun r=>a≤r.2.2∧(eZ kn→eZ r.2.1):=by
 induction n with
 |zero=>exact .ite (fun _=>.some ⟨aA _,id⟩) fun _=>.none
 |succ n ih=>exact .ite (fun _=>.some ⟨aA _,id⟩) fun _=>.cV GK fun _ h1=>.cV Eu fun _ h2=>ih.mono fun _ h3=>⟨az h1.le (az h2.1 h3.1),fun k=>h3.2 (h1.ok k)⟩
theorem Dk:hW (nJ b last a kn) fun r=>a+40≤r.2.2∧(eZ kn→eZ r.2.1):=
 .cV OR fun _ h1=>.cV Lj fun _ h2=>.ite (fun _=>.none) fun _=>.cV Eu fun _ h3=>.cV K9 fun _ h4=>.ite (fun _=>.none) fun _=>.some ⟨az (bF h1.1.symm) (az h2.1 (az h3.1 h4.1)),h4.2⟩
structure MnK (b:List UInt8) (a:Nat) (v:g7) (q:Lm):Prop where
 le:a+1≤q.2.1∧q.2.1≤b.length
 u:q.2.2.2.units=v.units
 c:q.2.2.2.comment=v.comment
 p:40*v.cb.length≤a→40*q.2.2.2.cb.length≤q.2.1
 k:eZ v.cL→eZ q.2.2.2.cL
 n:q.2.2.2.cb.length≤v.cb.length+1
theorem ue:hW (kF b op a last v) (MnK b a v):=
 .ite (fun _=>.cV Dk fun _ h=>.jB EC fun _ k=>⟨⟨az (az (bC (a+1) 40) (bF (sN a 1 40))) (az (gR h.1) k.1),k.2⟩,rfl,rfl,fun hp=>by
   show 40*(_++[_]).length≤_
   rw[ah]
   exact az (cS hp 40) (az h.1 (ng k.1)),h.2,bF ah⟩) fun _=>
 .ite (fun _=>.cV OV fun _ h=>.jB EC fun _ k=>⟨⟨az (gR h.1.1) k.1,k.2⟩,rfl,rfl,fun hp=>az hp (az h.1.1 (ng k.1)),h.2,bX _⟩) fun _=>
 .ite (fun _=>.none) fun _=>.jB EC fun _ k=>⟨k,rfl,rfl,fun hp=>az hp (ng k.1),id,bX _⟩
theorem DB {q:Lm}(ho:op≠248) (h:kF b op a last v=some q) (hn:b.length-a≤n):∃n',n=n'+1∧fQ b n op a last v=fQ b n' q.1 q.2.1 q.2.2.1 q.2.2.2∧b.length-q.2.1≤n':=by
 refine aq (sz (ue _ h).le hn) fun n' e k=>?_
 subst e
 exact⟨n',rfl,iF ho (bS h rfl),k⟩
theorem Si:hW (so b a last v) fun v'=>v'.cb=v.cb∧v'.cL=v.cL:=
 .bind fun _ _=>.ite (fun _=>.none) fun _=>.bind fun _ _=>.ite (fun _=>.none) fun _=>.bind fun _ _=>.bind fun _ _=>.bind fun _ _=>.ite (fun _=>.none) fun _=>.bind fun _ _=>.ite (fun _=>.none) fun _=>
 .bind fun _ _=>.bind fun _ _=>.ite (fun _=>.none) fun _=>.bind fun _ _=>.ite (fun _=>.none) fun _=>.ite (fun _=>.none) fun _=>.some ⟨rfl,rfl⟩
end
end
section
section
variable {b:List UInt8}{op a a' n:Nat}{s s':fC}{kn oY:Known}{last s7:Int}{v v':g7}
theorem MF {n:Nat}:∀{op a:Nat}{last:Int}{v:g7},hW (fQ b n op a last v) fun r=>eZ v.cL→eZ r.2.1.cL:=by
 induction n with
 |zero=>exact .ite (fun _=>.some id) fun _=>.none
 |succ n ih=>exact .ite (fun _=>.some id) fun _=>.cV ue fun _ h=>ih.mono fun _ k q=>k (h.k q)
theorem TF:hW (iD b) fun v=>eZ v.cL:=
 .bind fun _ _=>.ite (fun _=>.none) fun _=>.bind fun _ _=>.ite (fun _=>.none) fun _=>.bind fun _ _=>.bind fun _ _=>.bind fun _ _=>.bind fun _ _=>.cV MF fun _ h=>.mono Si fun _ k=>k.2▸h eZ.nil
theorem EU (h:iD b=some v):eZ v.cL:=TF _ h
end
end
section
structure fK where
 (op place:Nat)
 args:List UInt8
noncomputable def Nd:List Nat:=[1,2,3,4,0,1,2,3,4,0,1,2,3,4]
noncomputable def qN:List Nat:=bH 128 0++[1,2,3,4,8,1,2,3,4,8]++[0,44,0,0,0]++(Nd++Nd)++bH 64 0++[1,2,3,4]
noncomputable def da (b:List UInt8) (x y:Nat):List UInt8:=(b.drop x).take (y-x)
noncomputable def Ac (b:List UInt8):Nat:=(b.map UInt8.toNat).sum
noncomputable def aO (b:List UInt8) (op p:Nat):Nat:=
 if op<239 then p+1+qN.getD op 0
 else if op<243 then p+1+(op-238)+be (da b (p+1) (p+1+(op-238)))
 else if op<247 then p+1+(op-242+14)+Ac (da b (p+1+(op-242+14)-2) (p+1+(op-242+14)))
 else if op=247 then p+1+14+Ac (da b (p+1+14-1) (p+1+14))
 else if op=248 then p+1+28
 else if op=249 then b.length
 else p+1
noncomputable def jm (b:List UInt8):Nat→Nat→List fK→Option (List fK)
 |n,p,found=>if p<b.length then match n with
   |0=>none
   |n+1=>
    let op:=(b.getD p 0).toNat
    let e:=aO b op p
    if op>249∨e>b.length then none
    else if op=249 then some (found++[⟨op,p,da b (p+1) e⟩])
    else jm b n e (found++[⟨op,p,da b (p+1) e⟩])
  else none
noncomputable def jH (bs:List UInt8):Int:=(be bs:Int)-(if (bs.getD 0 0).toNat>127 then (256:Int)^bs.length else 0)
noncomputable def three (bs:List UInt8):Int×Int×Int:=(jH (da bs 0 4),jH (da bs 4 8),jH (da bs 8 12))
noncomputable def VF (dm check size bW fo:Nat) (name:List UInt8):Option (Nat×mw):=if jt dm check size bW (name.drop fo) then some (dm,⟨check,size,bW,fo,name⟩) else none
@[irreducible] noncomputable def me (args:List UInt8) (room:Nat):Option (Nat×mw):=VF (be (da args 0 room)) (be (da args room (room+4))) (be (da args (room+4) (room+8))) (be (da args (room+8) (room+12))) (args.getD (room+12) 0).toNat (args.drop (room+14))
theorem qL (b:List UInt8) (x y:Nat):(da b x y).length≤b.length:=by
 unfold da;rw[cj,aJ];exact aW [_,_,_,_,_] [] [.fs aB aM cg,.fm fz ji aB] (.L fz aM) (.o (.o (.k [1,1,1,0,0,1]) ub) (.o (.k [1,1,1,0,0,1]) ub)) rfl (eV _ _) (AH _ _)
theorem kU (b:List UInt8){x y:Nat}(h:y≤b.length):(da b x y).length=y-x:=by
 unfold da;rw[cj,aJ];exact aW [_,_,_,_,_,_] [] [.L aB aM,.fs cg aB fz,.fs ji aM fz,.fm qD cg ji] (.E qD cg) (.o (.o (.o (.o jf cN) (.o (.k [1,0,0,1,0,0,1,0,1,0,1]) ui)) (.o (.o jf cN) (.o (.k [1,0,0,0,1,0,0,0,1,0,1]) ui))) (.o (.o (.o jf cN) (.o (.k [1,0,0,0,0,0,0,0,1]) ui)) (.o (.o jf cN) (.o (.k [1,0,0,0,0,0,0,0,1]) ui)))) rfl h (eV _ _) (eV _ _) (AH _ _)
theorem jY {b:List UInt8}{op p:Nat}(hp:p<b.length):p<aO b op p:=by
 unfold aO
 repeat' split
 all_goals omega
noncomputable def uw (fn ck:Nat) (codes:List UInt8) (dm check size bW:Nat) (nm:List UInt8):Prop:=dm=fn∧size=655360∧nm=codes∧0<bW∧bW<134217728∧(check*ck=0∨check*ck=ck*ck)
theorem qC {dm check size bW:Nat}{nm:List UInt8}:jt dm check size bW nm=true↔uw 3 0 [102,99] dm check size bW nm∨uw 200 77 [102,104,122] dm check size bW nm:=by
 unfold jt r7 uw
 by_cases h:dm=3
 ·subst h
  simp
  exact⟨fun⟨⟨⟨h1,h2⟩,h3⟩,h4⟩=>⟨h1,h4,h2,by exact oX h3 rfl⟩,fun⟨h1,h4,h2,h3⟩=>⟨⟨⟨h1,h2⟩,by exact rC h3 rfl⟩,h4⟩⟩
 ·by_cases h':dm=200
  ·subst h'
   simp
   constructor
   ·rintro⟨⟨⟨⟨h1,h2⟩,h3⟩,h4⟩,h5⟩
    exact⟨h1,h5,h2,by exact oX h3 rfl,by lia⟩
   ·rintro⟨h1,h5,h2,h3,h4⟩
    exact⟨⟨⟨⟨h1,h2⟩,by exact rC h3 rfl⟩,by lia⟩,h5⟩
  ·simp[show ¬((dm:Int)=3) by exact aW [_] [] [.N (.E aB pQ)] (.N (.e aB pQ)) (.o xj cN) rfl h,show ¬((dm:Int)=200) by exact aW [_] [] [.N (.E aB (.l 200))] (.N (.e aB (.l 200))) (.o xj cN) rfl h',h,h']
end
section
structure ka where
 sp:List Int
 kept:List (List Int)
 rows:List n5
 deep:Int
 chosen:Int
section
variable (ax w:Nat) (args:List UInt8) (sp:List Int)
noncomputable def JA:Nat:=2+2*ax+(if w>8 then 1 else 0)
noncomputable def Kk:Int:=if args.length=0 then sp.getD (JA ax w) 0 else jH args
noncomputable def QX:List Int:=if w>3 then sp.set (JA ax w) (Kk ax w args sp) else sp
noncomputable def It:List Int:=(QX ax w args sp).set ax ((QX ax w args sp).getD ax 0+Kk ax w args sp)
end
noncomputable def lb (op:Nat) (args:List UInt8) (sp:List Int):List Int:=It ((op-143) / 14) ((op-143)%14) args sp
section
variable (op:Nat) (args:List UInt8) (sp:List Int) (chosen:Int) (rows:List n5) (h w:Int)
noncomputable def xk:List Int:=if op<133 then sp.set 0 (sp.getD 0 0+w) else sp
noncomputable def drR:List Int×List n5:=(xk op sp w,if min h w>0 then rows++[.rule (sp.getD 0 0) (sp.getD 1 0) h w] else rows)
noncomputable def drC (code:Nat):List Int×List n5:=(xk op sp w,rows++[.char (sp.getD 0 0) (sp.getD 1 0) chosen code])
noncomputable def R6 (code:Nat):Option (List Int×List n5):=((rW chosen).lookup (code:Int)).map fun w=>drC op sp chosen rows w code
noncomputable def my:Option (List Int×List n5):=if op=132∨op=137 then some (drR op sp rows (jH (da args 0 4)) (jH (args.drop 4))) else R6 op sp chosen rows (if op<128 then op else be args)
end
noncomputable def Of (kn:Known) (q:Nat×mw):Option Known:=if (kn.lookup (q.1:Int)).isSome then none else some (kn++[((q.1:Int),q.2)])
noncomputable def iJ (op:Nat) (args:List UInt8) (kn:Known):Option Known:=(me args (op-242)).bind (Of kn)
noncomputable def Yw (c:fK):Int:=if c.op>234 then (be c.args:Int) else (c.op:Int)-171
section
variable (c:fK) (s:ka) (kn:Known)
noncomputable def Zb:Option (ka×Known):=if c.op≠138 then none else some (s,kn)
noncomputable def U9:Option (ka×Known):=if 243≤c.op∧c.op<247 then (iJ c.op c.args kn).map fun k=>(s,k) else Zb c s kn
noncomputable def Sk:Option (ka×Known):=if 239≤c.op∧c.op<243 then some ({ s with rows:=s.rows++[.spec (s.sp.getD 0 0) (s.sp.getD 1 0) (c.args.drop (c.op-238))] },kn) else U9 c s kn
noncomputable def Gz:Option (ka×Known):=if (kn.lookup (Yw c)).isSome then some ({ s with chosen:=Yw c },kn) else none
noncomputable def TS:Option (ka×Known):=if 171≤c.op∧c.op<239 then Gz c s kn else Sk c s kn
noncomputable def S9:Option (ka×Known):=if 143≤c.op∧c.op<171 then some ({ s with sp:=lb c.op c.args s.sp },kn) else TS c s kn
noncomputable def ZX:Option (ka×Known):=if c.op=142∧s.kept≠[] then some ({ s with kept:=s.kept.dropLast,sp:=s.kept.getLast?.getD [] },kn) else S9 c s kn
noncomputable def Xu:Option (ka×Known):=if c.op=141 then some ({ s with kept:=s.kept++[s.sp],deep:=max s.deep (s.kept.length+1) },kn) else ZX c s kn
noncomputable def g8:Option (ka×Known):=if c.op<138 then (my c.op c.args s.sp s.chosen s.rows).map fun p=>({ s with sp:=p.1,rows:=p.2 },kn) else Xu c s kn
end
section
variable {c:fK}{s:ka}{kn:Known}
theorem C3 (h:143≤c.op):g8 c s kn=S9 c s kn:=iF (zA h rfl) (iF (RF h rfl) (if_neg (JO (RF h rfl))))
theorem Ds (h:171≤c.op):g8 c s kn=TS c s kn:=(C3 (f9 28 h rfl)).trans (if_neg (Kn h rfl))
theorem Dr (h:239≤c.op):g8 c s kn=Sk c s kn:=(Ds (f9 68 h rfl)).trans (if_neg (Kn h rfl))
theorem Cz (h:243≤c.op):g8 c s kn=U9 c s kn:=(Dr (f9 4 h rfl)).trans (if_neg (Kn h rfl))
theorem uL (h:143≤c.op∧c.op<171):g8 c s kn=some ({ s with sp:=lb c.op c.args s.sp },kn):=(C3 h.1).trans (if_pos h)
theorem u9 (h:171≤c.op∧c.op<239):g8 c s kn=Gz c s kn:=(Ds h.1).trans (if_pos h)
theorem Ao (h:239≤c.op∧c.op<243):g8 c s kn=some ({ s with rows:=s.rows++[.spec (s.sp.getD 0 0) (s.sp.getD 1 0) (c.args.drop (c.op-238))] },kn):=(Dr h.1).trans (if_pos h)
theorem yV (h:243≤c.op∧c.op<247):g8 c s kn=(iJ c.op c.args kn).map fun k=>(s,k):=(Cz h.1).trans (if_pos h)
theorem Dl (h1:¬c.op<138) (h2:c.op≠141) (h3:¬(c.op=142∧s.kept≠[])) (h4:¬(143≤c.op∧c.op<247)) (h5:c.op≠138):g8 c s kn=none:=
 iF h1 (iF h2 (iF h3 (iF (LM h4 rfl rfl) (iF (LM h4 rfl rfl) (iF (LM h4 rfl rfl) (iF (LM h4 rfl rfl) (if_pos h5)))))))
end
noncomputable def Kf (sp:List Int):Bool:=decide ((sp.getD 0 0).natAbs≤2147483647∧(sp.getD 1 0).natAbs≤2147483647)
noncomputable def XB (q:ka×Known):Option (ka×Known):=if Kf q.1.sp then some q else none
noncomputable def DF (c:fK) (s:ka) (kn:Known):Option (ka×Known):=(g8 c s kn).bind XB
noncomputable def lr:List fK→ka→Known→Option (ka×Known×List fK)
 |[],_,_=>none
 |c::r,s,kn=>if c.op=140 then (if s.kept=[] then some (s,kn,r) else none) else (DF c s kn).bind fun q=>lr r q.1 q.2
noncomputable def Sm:ka:=⟨[0,0,0,0,0,0],[],[],0,-1⟩
noncomputable def BN (ks:List Int):List Int:=ks.mergeSort fun a b=>decide (a≤b)
noncomputable def CG (args:List UInt8) (told kn:Known):Bool:=decide (BN (told.map (·.1))=BN (kn.map (·.1)))&&decide (args.drop 5=bH (args.length-5) 223)
noncomputable def ZY (args:List UInt8) (told kn:Known):Bool:=if (args.getD 4 0).toNat≠2 then false else CG args told kn
noncomputable def Yn (place:Nat) (args:List UInt8) (told kn:Known):Bool:=if be (da args 0 4)≠place then false else ZY args told kn
noncomputable def vK (place:Nat) (args:List UInt8) (told kn:Known):Bool:=if args.length<9 then false else Yn place args told kn
noncomputable def Zn (kn told:Known) (q:Nat×mw):Option Known:=if (told.lookup (q.1:Int)).isSome∨kn.lookup (q.1:Int)≠some q.2 then none else some (told++[((q.1:Int),q.2)])
noncomputable def le2 (c:fK) (told:Known):Option Known:=if c.op≠138 then none else some told
noncomputable def pn (kn:Known) (c:fK) (told:Known):Option Known:=if 243≤c.op∧c.op<247 then (me c.args (c.op-242)).bind (Zn kn told) else le2 c told
noncomputable def oa (place:Nat) (kn:Known):List fK→Known→Bool
 |[],_=>false
 |c::r,told=>if c.op=249 then vK place c.args told kn else iw (pn kn c told) false (oa place kn r)
structure lu where
 known:Known
 cb:List (List Int×List n5)
 last:Int
 deep:Int
noncomputable def xA (args:List UInt8):List Int:=(bh 10).map fun k=>jH (da args (4*k) (4*k+4))
noncomputable abbrev PK:=List fK×lu
noncomputable def lm1 (c:fK) (v:lu) (q:ka×Known×List fK):PK:=(q.2.2,{ known:=q.2.1,cb:=v.cb++[(xA c.args,q.1.rows)],last:=c.place,deep:=max v.deep q.1.deep })
noncomputable def lm2 (r:List fK) (v:lu) (kn:Known):PK:=(r,{ v with known:=kn })
noncomputable def lm3 (c:fK) (r:List fK) (v:lu):Option PK:=if c.op≠138 then none else some (r,v)
noncomputable def lm4 (c:fK) (r:List fK) (v:lu):Option PK:=if 243≤c.op∧c.op<247 then (iJ c.op c.args v.known).map (lm2 r v) else lm3 c r v
noncomputable def lq (c:fK) (r:List fK) (v:lu):Option PK:=if c.op=139∧jH (c.args.drop 40)=v.last then (lr r Sm v.known).map (lm1 c v) else lm4 c r v
noncomputable def mL:Nat→List fK→lu→Option (lu×List fK)
 |_,[],_=>none
 |n,c::r,v=>if c.op=248 then some (v,c::r) else match n with
  |0=>none
  |n+1=>(lq c r v).bind fun q=>mL n q.1 q.2
structure wk where
 scale:Int×Int×Int
 comment:List UInt8
 cb:List (List Int×List n5)
 pT:Int
 wide:Int
 deep:Int
 known:Known
noncomputable def lf5 (sc:Int×Int×Int) (cm:List UInt8) (v:lu) (p:fK):Option wk:=if (be (da p.args 24 26):Int)<v.deep∨be (p.args.drop 26)≠v.cb.length then none else
 some ⟨sc,cm,v.cb,jH (da p.args 16 20),jH (da p.args 20 24),v.deep,v.known⟩
noncomputable def V2 (sc:Int×Int×Int) (cm:List UInt8) (v:lu) (p:fK) (r:List fK):Option wk:=if jH (da p.args 0 4)≠v.last∨three (p.args.drop 4)≠sc∨oa p.place v.known r []=false then none else lf5 sc cm v p
noncomputable def Q2 (sc:Int×Int×Int) (cm:List UInt8) (q:lu×List fK):Option wk:=match q.2 with
 |[]=>none
 |p::r=>V2 sc cm q.1 p r
noncomputable def Vz (sc:Int×Int×Int) (cm:List UInt8) (cs:List fK):Option wk:=if min (min sc.1 sc.2.1) sc.2.2≤0 then none else (mL cs.length cs ⟨[],[],-1,0⟩).bind (Q2 sc cm)
noncomputable def Oc (c:fK) (cs:List fK):Option wk:=if c.op≠247∨(c.args.getD 0 0).toNat≠2 then none else Vz (three (c.args.drop 1)) (c.args.drop 14) cs
noncomputable def Vp:List fK→Option wk
 |[]=>none
 |c::cs=>Oc c cs
noncomputable def rI (b:List UInt8):Option wk:=(jm b b.length 0 []).bind Vp
structure rj (c:fK):Prop where
 op:c.op≤249
 short:c.op<239→c.args.length=qN.getD c.op 0
 spec:239≤c.op→c.op<243→c.op-238≤c.args.length
 qx:243≤c.op→c.op<247→c.op-242+14≤c.args.length
 pre:c.op=247→14≤c.args.length
 post:c.op=248→c.args.length=28
 small:c.args.length≤100000
noncomputable def Ends (l:List fK):Prop:=∃l' c,l=l'++[c]∧c.op=249
theorem Ends.tail {c:fK}{r:List fK}(h:Ends (c::r)) (hc:c.op≠249):Ends r:=by
 refine cD h fun l' d e hd=>?_
 clear h
 cases l' with
 |nil=>cases e;exact absurd hd hc
 |cons x l'=>cases e;exact⟨l',d,rfl,hd⟩
theorem Ends.ne {l:List fK}(h:Ends l):l≠[]:=by
 refine cD h fun l' c e _=>?_;clear h;rw[e];exact rT _ (JB _ _)
theorem Ew {b:List UInt8}{op p:Nat}(hb:b.length≤100000) (hp:p<b.length) (ho:op≤249) (he:aO b op p≤b.length):rj ⟨op,p,da b (p+1) (aO b op p)⟩:=by
 have hl:(da b (p+1) (aO b op p)).length=aO b op p-(p+1):=kU b he
 refine⟨ho,fun h=>?_,fun h1 h2=>?_,fun h1 h2=>?_,fun h=>?_,fun h=>?_,?_⟩
 all_goals dsimp only at *
 ·rw[hl];unfold aO;rw[if_pos h];exact aW [_,_,_] [] [.fs aB (.a (.a aM bP) cg) (.a aM bP)] (.E aB cg) (.o (.o jf cN) (.o cK cN)) rfl (eV _ _)
 ·rw[hl];unfold aO;rw[if_neg (by exact bL h1),if_pos h2];exact aW [_,_,_,_] [] [.fs aB (.a (.a (.a aM bP) cg) fz) (.a aM bP)] (.L cg aB) (.o jf cK) rfl (eV _ _)
 ·rw[hl];unfold aO;rw[if_neg (by exact zA h1 rfl),if_neg (by exact bL h1),if_pos h2];exact aW [_,_,_,_] [] [.fs aB (.a (.a (.a aM bP) (.a cg (.l 14))) fz) (.a aM bP)] (.L (.a cg (.l 14)) aB) (.o jf xK) rfl (eV _ _)
 ·rw[hl];unfold aO;rw[if_neg (by exact uZ h rfl),if_neg (by exact uZ h rfl),if_neg (by exact uZ h rfl),if_pos h];exact aW [_,_,_] [] [.fs aB (.a (.a (.a aM bP) (.l 14)) cg) (.a aM bP)] (.L (.l 14) aB) (.o jf xK) rfl (eV _ _)
 ·rw[hl];unfold aO;rw[if_neg (by exact uZ h rfl),if_neg (by exact uZ h rfl),if_neg (by exact uZ h rfl),if_neg (by exact gY (qA h rfl)),if_pos h];exact aW [_,_] [] [.fs aB (.a (.a aM bP) (.l 28)) (.a aM bP)] (.E aB (.l 28)) (.o (.o jf cN) (.o xK cN)) rfl (eV _ _)
 ·rw[hl];exact rm (az he hb)
theorem JY {b:List UInt8}(hb:b.length≤100000){n:Nat}:∀{p:Nat}{found cs:List fK},jm b n p found=some cs→(∀c∈found,rj c)→(∀c∈cs,rj c)∧Ends cs:=by
 suffices H:∀{p:Nat}{found:List fK},(∀c∈found,rj c)→hW (jm b n p found) fun cs=>(∀c∈cs,rj c)∧Ends cs from fun{p found cs} h hf=>H hf _ h
 induction n with
 |zero=>exact fun _=>by unfold jm;exact .ite (fun _=>.none) fun _=>.none
 |succ n ih=>
  intro p found hf
  unfold jm
  refine .ite (fun hp=>.ite (fun _=>.none) fun h1=>?_) fun _=>.none
  have hf':∀c∈found++[⟨(b.getD p 0).toNat,p,da b (p+1) (aO b (b.getD p 0).toNat p)⟩],rj c:=fun c hc=>(eG.mp hc).elim (hf c) fun hc=>
   cU.mp hc▸Ew hb hp (aR fun q=>h1 (.inl q)) (aR fun q=>h1 (.inr q))
  exact .ite (fun h2=>.some ⟨hf',_,_,rfl,h2⟩) fun _=>ih hf'
end
section
section
variable {place op p dm n:Nat}{kn told:Known}{args:List UInt8}{r:List fK}{c:fK}{v:lu}
theorem G3 (h:c.op=249):oa place kn (c::r) told=vK place c.args told kn:=if_pos h
theorem CI (h1:c.op≠249) (h:pn kn c told=none):oa place kn (c::r) told=false:=iF h1 (oN h)
theorem yt {t:Known}(h1:c.op≠249) (h:pn kn c told=some t):oa place kn (c::r) told=oa place kn r t:=iF h1 (oB h)
theorem pH (h:c.op=248):mL n (c::r) v=some (v,c::r):=by cases n<;>exact if_pos h
theorem kA (h1:c.op≠248) (h:lq c r v=none):mL n (c::r) v=none:=by
 cases n with
 |zero=>exact if_neg h1
 |succ n=>exact iF h1 (bN h rfl)
theorem mH {q:PK}(h1:c.op≠248) (h:lq c r v=some q):mL (n+1) (c::r) v=mL n q.1 q.2:=iF h1 (bS h rfl)
theorem Gp {room:Nat}:hW (me args room) fun q=>(q.1:Int)=3∨(q.1:Int)=200:=by
 unfold me
 exact .ite (fun h=>.some (vJ h)) fun _=>.none
theorem ED {room dm:Nat}{row:mw}(h:me args room=some (dm,row)):(dm:Int)=3∨(dm:Int)=200:=Gp _ h
theorem Bs:hW (iJ op args kn) fun k=>(eZ kn→eZ k)∧k.length=kn.length+1:=
 .cV Gp fun _ h=>.ite (fun _=>.none) fun k=>.some ⟨fun q=>q.snoc (kD.mp k) h,ah⟩
theorem Ec {oY:Known}(h:iJ op args kn=some oY) (hk:eZ kn):eZ oY:=(Bs _ h).1 hk
theorem WL {s:ka}(hk:eZ kn):hW (g8 c s kn) fun q=>eZ q.2:=
 .ite (fun _=>.map fun _ _=>hk) fun _=>.ite (fun _=>.some hk) fun _=>.ite (fun _=>.some hk) fun _=>.ite (fun _=>.some hk) fun _=>.ite (fun _=>.ite (fun _=>.some hk) fun _=>.none) fun _=>
 .ite (fun _=>.some hk) fun _=>.ite (fun _=>.jB Bs fun _ h=>h.1 hk) fun _=>.ite (fun _=>.none) fun _=>.some hk
theorem IU {s:ka}(h:c.op=249):g8 c s kn=none:=(Cz (DL h rfl)).trans (iF (Z8 h rfl) (if_pos (gY (qA h rfl))))
structure RwK (l:List fK) (kn:Known) (q:ka×Known×List fK):Prop where
 k:eZ kn→eZ q.2.1
 e:Ends l→Ends q.2.2
 n:q.2.2.length<l.length
theorem Mh:∀{s:ka}{kn:Known},eZ kn→hW (lr r s kn) (RwK r kn):=by
 induction r with
 |nil=>exact fun _=>.none
 |cons c r ih=>
  intro s kn hk
  refine .ite (fun h=>.ite (fun _=>.some ⟨id,fun e=>e.tail (bV (vl h rfl)),d7 _⟩) fun _=>.none) fun h=>.bind fun q e=>?_
  have k:hW (DF c s kn) fun q=>eZ q.2∧c.op≠249:=.bind fun q e=>.ite (fun _=>.some ⟨WL hk _ e,fun z=>by rw[IU z] at e;exact nS e⟩) fun _=>.none
  exact(ih (k _ e).1).mono fun _ z=>⟨fun _=>z.k (k _ e).1,fun y=>z.e (y.tail (k _ e).2),j8 z.n⟩
theorem CC:∀{s:ka}{kn:Known},hW (lr r s kn) fun q=>q.2.2.length<r.length:=by
 induction r with
 |nil=>exact fun{_ _}=>.none
 |cons c r ih=>exact fun{_ _}=>.ite (fun _=>.ite (fun _=>.some (d7 _)) fun _=>.none) fun _=>.bind fun _ _=>ih.mono fun _ h=>j8 h
theorem CD:hW (lq c r v) fun q=>q.1.length≤r.length:=
 .ite (fun _=>.jB CC fun _ h=>dC h) fun _=>.ite (fun _=>.map fun _ _=>aA _) fun _=>.ite (fun _=>.none) fun _=>.some (aA _)
theorem BP:∀{m:Nat}{cs:List fK}{v:lu},cs.length≤n→cs.length≤m→mL n cs v=mL m cs v:=by
 induction n with
 |zero=>
  intro m cs v hn hm
  cases dE.mp (jI.mp hn)
  cases m<;>rfl
 |succ n ih=>
  intro m cs v hn hm
  cases cs with
  |nil=>cases m<;>rfl
  |cons c r=>
   cases m with
   |zero=>exact absurd hm (Nat.not_succ_le_zero _)
   |succ m=>
    by_cases h:c.op=248
    ·exact(pH h).trans (pH h).symm
    cases e:lq c r v with
    |none=>exact(kA h e).trans (kA h e).symm
    |some q=>
     have k:=CD _ e
     exact(mH h e).trans ((ih (az k (Cc hn)) (az k (Cc hm))).trans (mH h e).symm)
theorem Gl {s s':ka}{oY:Known}{r':List fK}(h:lr r s kn=some (s',oY,r')) (hk:eZ kn):eZ oY∧(Ends r→Ends r'):=⟨(Mh hk _ h).k hk,(Mh hk _ h).e⟩
end
end
section
theorem F7 (bs:List UInt8):∀v:Nat,bs.foldl (fun v x=>256*v+x.toNat) v=v*256^bs.length+be bs:=by
 induction bs with
 |nil=>intro v;simp[be]
 |cons x xs ih=>
  intro v
  unfold be
  rw[pB,pB,ih,ih,cC,Nat.pow_succ]
  rw[Nat.mul_zero,pz,Nat.add_mul,Nat.mul_comm 256 v,Nat.mul_assoc,Nat.mul_comm 256 (256^xs.length),nM]
theorem KV (x:UInt8) (xs:List UInt8):be (x::xs)=x.toNat*256^xs.length+be xs:=by
 conv=>lhs;unfold be
 rw[pB,F7];simp
theorem Kh {bs:List UInt8}{r:Nat}(h:bs.length=r+1):QY (be bs) (r+1)=jH bs:=by
 cases bs with
 |nil=>simp at h
 |cons x xs=>
  have hl:xs.length=r:=by simpa using h
  have h1:=KV x xs
  have h2:=Mu xs
  rw[hl] at h1 h2
  have h3:=x.toNat_lt
  unfold QY jH
  rw[h,show r+1-1=r by exact rfl,show((256:Int)^(r+1))=2*(128*256^r) by rw[Cd];lia,show((x::xs).getD 0 0)=x from rfl]
  have h4:be (x::xs)≥128*256^r↔x.toNat>127:=by
   rw[h1]
   constructor
   ·intro g
    by_cases q:x.toNat>127
    ·exact q
    ·exfalso
     have:x.toNat*256^r≤127*256^r:=qS _ (by exact aR q)
     exact aW [_,_,_] [] [.T aB aM,.L (.m 128 aM) (.a cg aB)] (.N (.L cg (.m 127 aM))) ui rfl h2 g this
   ·intro g
    have:128*256^r≤x.toNat*256^r:=qS _ (by exact dk g)
    exact az this (bC _ _)
  by_cases q:x.toNat>127
  ·rw[if_pos (h4.mpr q),if_pos q]
  ·rw[if_neg (fun g=>q (h4.mp g)),if_neg q];exact rfl
theorem oW {b:List UInt8}{a r:Nat}(h:a+r≤b.length):gw b a r=some (be (da b a (a+r)),a+r):=by
 unfold gw da;rw[if_pos h,show a+r-a=r by exact aW [_,_,_] [] [.fs aB (.a aM cg) aM] (.E aB cg) (.o (.o jf cN) (.o cK cN)) rfl (eV _ _)]
theorem jA {b:List UInt8}{a r:Nat}(h:b.length<a+r):gw b a r=none:=by
 unfold gw;rw[if_neg (by exact i0 h)]
theorem nV {b:List UInt8}{a r:Nat}(h:a+r≤b.length) (hr:0<r):mQ b a r=some (jH (da b a (a+r)),a+r):=by
 obtain⟨r,rfl⟩:∃k,r=k+1:=⟨r-1,by exact aW [_,_] [] [.T dF aB,.fs aM aB bP] (.E aB (.a aM bP)) (.o (.o cN jf) (.o jN cK)) rfl hr (eV _ _)⟩
 rw[F2 (oW h),Kh]
 rw[kU b h];exact aW [_,_,_] [] [.fs aB (.a aM (.a cg bP)) aM] (.E aB (.a cg bP)) (.o (.o jf cN) (.o xK cN)) rfl (eV _ _)
theorem ya {b:List UInt8}{a r:Nat}(h:b.length<a+r):mQ b a r=none:=HS (jA h)
theorem GZ {b:List UInt8}{a r:Nat}(h:a+r≤b.length):wq b a r=some (da b a (a+r),a+r):=by
 unfold wq da;rw[if_pos h,show a+r-a=r by exact aW [_,_,_] [] [.fs aB (.a aM cg) aM] (.E aB cg) (.o (.o jf cN) (.o cK cN)) rfl (eV _ _)]
theorem BR {b:List UInt8}{a r:Nat}(h:b.length<a+r):wq b a r=none:=by
 unfold wq;rw[if_neg (by exact i0 h)]
theorem d9 {b:List UInt8}{p e i j:Nat}(h:p+j≤e):da (da b p e) i j=da b (p+i) (p+j):=by
 unfold da
 rw[Nr,List.take_take,xo,fv (by exact aW [_,_,_,_,_,_,_] [] [.L (.a aB aM) cg,.fs fz aM ji,.fs qD cg aB,.fs (.v 6) qD ji] (.L fz (.v 6)) (.o (.o (.o (.k [1,0,0,1,0,0,1,0,1,0,1]) (.k [1,1,0,0,0,0,1,0,1,0,1])) (.o (.k [1,0,0,0,1,0,0,0,1,0,1]) (.k [1,0,0,0,1,0,0,0,1,0,1]))) (.o (.o (.k [1,0,0,0,0,0,0,0,1]) (.k [1,0,0,0,0,0,0,0,1])) (.o (.k [1,0,0,0,0,0,0,0,1]) (.k [1,0,0,0,0,0,0,0,1])))) rfl h (eV _ _) (eV _ _) (eV _ _)),show p+j-(p+i)=j-i by exact aW [_,_,_,_,_] [] [.fs aB (.a aM cg) (.a aM fz),.fs ji cg fz] (.E aB ji) (.o (.o (.o (.k [1,0,1,0,0,0,1]) (.k [1,0,0,1,0,1])) (.o cN (.k [1,1,0,0,0,1]))) (.o (.o jN pE) (.o cN pE))) rfl (eV _ _) (eV _ _)]
theorem jo {b:List UInt8}{p e i:Nat}:(da b p e).drop i=da b (p+i) e:=by
 unfold da
 rw[Nr,xo,show e-p-i=e-(p+i) by lia]
theorem yB {b:List UInt8}{p e i:Nat}(h:p+i<e):(da b p e).getD i 0=b.getD (p+i) 0:=by
 unfold da
 rw[bt,List.getElem?_take,if_pos (by exact aW [_,_,_,_] [] [.T (.a aB aM) cg,.fs fz cg aB] (.T aM fz) (.o n8 vG) rfl h (eV _ _)),cG,←bt]
theorem ud {b:List UInt8}{x:Nat}(h:x<b.length):da b x (x+1)=[b.getD x 0]:=by
 unfold da
 rw[show x+1-x=1 by exact aW [_,_] [] [.fs aB (.a aM bP) aM] (.E aB bP) (.o (.o jf cN) (.o xK cN)) rfl (eV _ _),bt,aw h]
 rw[i3 h];rfl
theorem NN (x:UInt8):be [x]=x.toNat:=by simp[be]
theorem jW {b:List UInt8}{a:Nat}(h:a<b.length):gw b a 1=some ((b.getD a 0).toNat,a+1):=by
 rw[oW (by exact f9 0 h rfl),ud h,NN]
theorem JU {b:List UInt8}{x:Nat}(h:x+1<b.length):da b x (x+2)=[b.getD x 0,b.getD (x+1) 0]:=by
 have h1:=ud (b:=b) (x:=x) (by exact f9 1 h rfl)
 have h2:=ud h
 unfold da at *
 rw[show x+1-x=1 by exact aW [_,_] [] [.fs aB (.a aM bP) aM] (.E aB bP) (.o (.o jf cN) (.o xK cN)) rfl (eV _ _)] at h1
 rw[show x+1+1-(x+1)=1 by exact aW [_,_] [] [.fs aB (.a (.a aM bP) bP) (.a aM bP)] (.E aB bP) (.o (.o jf cN) (.o xK cN)) rfl (eV _ _)] at h2
 rw[show x+2-x=1+1 by exact aW [_,_] [] [.fs aB (.a aM jL) aM] (.E aB jL) (.o (.o jf cN) (.o xK cN)) rfl (eV _ _),List.take_add,h1,xo,h2];rfl
noncomputable def cut (b:List UInt8) (p:Nat):Option (List fK):=jm b (b.length-p) p []
theorem Hl {b:List UInt8}:∀{n p:Nat}{found:List fK},b.length-p≤n→jm b n p found=(cut b p).map (found++·):=by
 suffices H:∀(k:Nat){n m p:Nat}{found:List fK},b.length-p≤k→b.length-p≤n→b.length-p≤m→jm b n p found=(jm b m p []).map (found++·) from
  fun{n p found} h=>H (b.length-p) (aA _) h (aA _)
 intro k
 induction k with
 |zero=>
  intro n m p found hk hn hm
  unfold jm
  rw[if_neg (by exact aW [_,_,_] [] [.L aB dF,.fs aB aM cg] (.N (.T cg aM)) (.o n8 cK) rfl hk (eV _ _)),if_neg (by exact aW [_,_,_] [] [.L aB dF,.fs aB aM cg] (.N (.T cg aM)) (.o n8 cK) rfl hk (eV _ _))];rfl
 |succ k ih=>
  intro n m p found hk hn hm
  unfold jm
  by_cases hp:p<b.length
  ·rw[if_pos hp,if_pos hp]
   obtain⟨n,rfl⟩:∃i,n=i+1:=⟨n-1,by exact aW [_,_,_,_,_] [] [.L aB aM,.T cg fz,.fs ji aM bP,.fs aB fz cg] (.E aM (.a ji bP)) (.o (.o (.o pE (.k [1,0,0,0,0,0,1])) (.o pE (.k [1,0,0,0,0,0,1]))) (.o (.o (.k [1,0,0,1,0,1,0,1,1]) (.k [1,0,0,0,1])) (.o (.k [0,1,0,0,0,0,0,1]) (.k [1,0,0,0,1])))) rfl hn hp (eV _ _) (eV _ _)⟩
   obtain⟨m,rfl⟩:∃i,m=i+1:=⟨m-1,by exact aW [_,_,_,_,_] [] [.L aB aM,.T cg fz,.fs ji aM bP,.fs aB fz cg] (.E aM (.a ji bP)) (.o (.o (.o pE (.k [1,0,0,0,0,0,1])) (.o pE (.k [1,0,0,0,0,0,1]))) (.o (.o (.k [1,0,0,1,0,1,0,1,1]) (.k [1,0,0,0,1])) (.o (.k [0,1,0,0,0,0,0,1]) (.k [1,0,0,0,1])))) rfl hm hp (eV _ _) (eV _ _)⟩
   dsimp only
   have hg:=jY (op:=(b.getD p 0).toNat) hp
   by_cases h1:(b.getD p 0).toNat>249∨aO b (b.getD p 0).toNat p>b.length
   ·rw[if_pos h1,if_pos h1];rfl
   rw[if_neg h1,if_neg h1]
   by_cases h2:(b.getD p 0).toNat=249
   ·rw[if_pos h2,if_pos h2];rfl
   rw[if_neg h2,if_neg h2,ih (m:=m) (by exact aW [_,_,_,_,_,_] [] [.L aB (.a aM bP),.T cg fz,.fs ji qD fz,.fs aB qD cg] (.L ji aM) (.o (.o (.k [1,0,0,1,0,1,0,1,1]) (.k [1,1,0,0,0,1,0,1])) (.o pE pE)) rfl hk hg (eV _ _) (eV _ _)) (by exact aW [_,_,_,_,_,_] [] [.L aB (.a aM bP),.T cg fz,.fs ji qD fz,.fs aB qD cg] (.L ji aM) (.o (.o (.k [1,0,0,1,0,1,0,1,1]) (.k [1,1,0,0,0,1,0,1])) (.o pE pE)) rfl hn hg (eV _ _) (eV _ _)) (by exact aW [_,_,_,_,_,_] [] [.L aB (.a aM bP),.T cg fz,.fs ji qD fz,.fs aB qD cg] (.L ji aM) (.o (.o (.k [1,0,0,1,0,1,0,1,1]) (.k [1,1,0,0,0,1,0,1])) (.o pE pE)) rfl hm hg (eV _ _) (eV _ _))]
   conv=>rhs;rw[ih (m:=m) (by exact aW [_,_,_,_,_,_] [] [.L aB (.a aM bP),.T cg fz,.fs ji qD fz,.fs aB qD cg] (.L ji aM) (.o (.o (.k [1,0,0,1,0,1,0,1,1]) (.k [1,1,0,0,0,1,0,1])) (.o pE pE)) rfl hk hg (eV _ _) (eV _ _)) (by exact aW [_,_,_,_,_,_] [] [.L aB (.a aM bP),.T cg fz,.fs ji qD fz,.fs aB qD cg] (.L ji aM) (.o (.o (.k [1,0,0,1,0,1,0,1,1]) (.k [1,1,0,0,0,1,0,1])) (.o pE pE)) rfl hm hg (eV _ _) (eV _ _)) (by exact aW [_,_,_,_,_,_] [] [.L aB (.a aM bP),.T cg fz,.fs ji qD fz,.fs aB qD cg] (.L ji aM) (.o (.o (.k [1,0,0,1,0,1,0,1,1]) (.k [1,1,0,0,0,1,0,1])) (.o pE pE)) rfl hm hg (eV _ _) (eV _ _))]
   rw[wb]
   congr 1
   funext x
   simp
  ·rw[if_neg hp,if_neg hp];rfl
section
variable {b:List UInt8}{p:Nat}
theorem uh (h:b.length≤p):cut b p=none:=by
 unfold cut jm;rw[if_neg (by exact bL h)]
theorem Iq (h:p<b.length) (h1:(b.getD p 0).toNat>249∨aO b (b.getD p 0).toNat p>b.length):cut b p=none:=by
 unfold cut jm;rw[if_pos h]
 obtain⟨n,hn⟩:∃i,b.length-p=i+1:=⟨b.length-p-1,by exact aW [_,_,_,_] [] [.T aB aM,.fs cg aM aB,.fs fz cg bP] (.E cg (.a fz bP)) (.o (.o (.o cN jf) (.o (.k [1,0,1,0,0,0,1,1]) cK)) (.o (.o cN pE) (.o (.k [0,0,0,0,1,0,0,1]) pE))) rfl h (eV _ _) (eV _ _)⟩
 rw[hn]
 dsimp only
 rw[if_pos h1]
theorem CF (h:p<b.length) (h1:(b.getD p 0).toNat=249):cut b p=some [⟨249,p,da b (p+1) b.length⟩]:=by
 unfold cut jm;rw[if_pos h]
 obtain⟨n,hn⟩:∃i,b.length-p=i+1:=⟨b.length-p-1,by exact aW [_,_,_,_] [] [.T aB aM,.fs cg aM aB,.fs fz cg bP] (.E cg (.a fz bP)) (.o (.o (.o cN jf) (.o (.k [1,0,1,0,0,0,1,1]) cK)) (.o (.o cN pE) (.o (.k [0,0,0,0,1,0,0,1]) pE))) rfl h (eV _ _) (eV _ _)⟩
 rw[hn]
 dsimp only
 have e:aO b 249 p=b.length:=by unfold aO;simp
 rw[h1,e,if_neg (by exact aW [_] [] [] (.N (.O (.T (.l 249) (.l 249)) (.T aB aB))) (.o nt nt) rfl),if_pos rfl];rfl
theorem mj (h:p<b.length){op:Nat}(ho:(b.getD p 0).toNat=op) (h1:op<249) (h2:aO b op p≤b.length):cut b p=(cut b (aO b op p)).map (⟨op,p,da b (p+1) (aO b op p)⟩::·):=by
 conv=>lhs;unfold cut jm
 rw[if_pos h]
 have hg:=jY (op:=op) h
 obtain⟨n,hn⟩:∃i,b.length-p=i+1:=⟨b.length-p-1,by exact aW [_,_,_,_] [] [.T aB aM,.fs cg aM aB,.fs fz cg bP] (.E cg (.a fz bP)) (.o (.o (.o cN jf) (.o (.k [1,0,1,0,0,0,1,1]) cK)) (.o (.o cN pE) (.o (.k [0,0,0,0,1,0,0,1]) pE))) rfl h (eV _ _) (eV _ _)⟩
 rw[hn]
 dsimp only
 rw[ho,if_neg (by exact aW [_,_,_] [] [.T aB (.l 249),.L aM cg] (.N (.O (.T (.l 249) aB) (.T cg aM))) (.o cN cK) rfl h1 h2),if_neg (by exact bV h1),Hl (by exact aW [_,_,_,_,_,_] [] [.T aB aM,.E cg (.a fz bP),.fs ji qD aM,.fs cg qD aB] (.L ji fz) (.o (.o (.k [1,0,0,1,0,1,0,1,0,1]) (.k [1,1,0,0,0,1,0,0,0,1])) (.o pE pE)) rfl hg hn (eV _ _) (eV _ _))];rfl
end
end
section
noncomputable def sa (s:E9):List Int:=[s.h,s.v,s.w,s.x,s.y,s.z]
noncomputable def fC.l (s:fC):ka:=⟨sa s.cA,s.stack.map sa,s.rows,s.deep,s.qx⟩
noncomputable def Dq (s:E9):Prop:=s.h.natAbs≤2147483647∧s.v.natAbs≤2147483647
noncomputable def fC.Ok (s:fC):Prop:=Dq s.cA∧∀t∈s.stack,Dq t
noncomputable def cu (b:List UInt8) (op p:Nat):fK:=⟨op,p,da b (p+1) (aO b op p)⟩
noncomputable def gQ (b:List UInt8) (op p:Nat) (s:fC) (kn:Known):Option (fC×Known×Nat)→Prop
 |none=>b.length<aO b op p∨DF (cu b op p) s.l kn=none
 |some (s',oY,a')=>a'=aO b op p∧a'≤b.length∧s'.Ok∧g8 (cu b op p) s.l kn=some (s'.l,oY)
noncomputable def tJ (op:Nat):Nat:=
 if op<128 then 0 else if op<132 then op-127 else if op=132 then 8 else if op<137 then op-132 else if op=137 then 8 else if op=139 then 44 else if op<143 then 0
 else if op<147 then op-142 else if op=147 then 0 else if op<152 then op-147 else if op=152 then 0 else if op<157 then op-152
 else if op<161 then op-156 else if op=161 then 0 else if op<166 then op-161 else if op=166 then 0 else if op<171 then op-166 else if op<235 then 0 else op-234
theorem F5:(bh 239).all (fun op=>qN.getD op 0==tJ op)=true:=by decide +kernel
theorem Ki {op:Nat}(h:op<239):qN.getD op 0=tJ op:=by
 have:=ba.mp F5 op (dg.mpr h)
 simpa using this
section
variable {b:List UInt8}{op p:Nat}{s:fC}{kn:Known}
theorem eE {k:Nat}(h:op<239) (hk:tJ op=k):aO b op p=p+1+k:=iT h (by rw[Ki h,hk])
theorem Oj (h:Dq s.cA):Kf s.l.sp=true:=decide_eq_true h
theorem Lx {x y:Int}:hW (s.go x y) fun s'=>s'={ s with cA:={ s.cA with h:=s.cA.h+x,v:=s.cA.v+y } }∧Dq s'.cA:=.ite (fun h=>.some ⟨rfl,h⟩) fun _=>.none
theorem JQ {x y:Int}(h:s.go x y=none):Kf ({ s with cA:={ s.cA with h:=s.cA.h+x,v:=s.cA.v+y } }:fC).l.sp=false:=
 decide_eq_false fun q=>nS (h.symm.trans (if_pos q))
theorem BH {r:n5}(h:s.Ok):(s.row r).Ok:=h
theorem vz {k:Nat}(h:aO b op p=p+1+k):(cu b op p).args=da b (p+1) (p+1+k):=congrArg (da b (p+1)) h
theorem oP {k:Nat}(h:aO b op p=p+1+k) (he:aO b op p≤b.length):(cu b op p).args.length=k:=
 (kU b he).trans (by rw[h];exact fq ..)
theorem gQ.cut (h:b.length<aO b op p):gQ b op p s kn none:=.inl h
theorem gQ.mid (h:g8 (cu b op p) s.l kn=none):gQ b op p s kn none:=.inr (bN h rfl)
theorem gQ.ite {c:Prop} [Decidable c] {x y:Option pN}(h1:c→gQ b op p s kn x) (h2:¬c→gQ b op p s kn y):gQ b op p s kn (if c then x else y):=by
 by_cases h:c
 ·rw[if_pos h];exact h1 h
 ·rw[if_neg h];exact h2 h
theorem gQ.Kv {β:Type}{c:Prop} [Decidable c] {x y:Option β}{f:β→Option pN}(h1:c→gQ b op p s kn (x.bind f)) (h2:¬c→gQ b op p s kn (y.bind f)):gQ b op p s kn ((if c then x else y).bind f):=by
 by_cases h:c
 ·rw[if_pos h];exact h1 h
 ·rw[if_neg h];exact h2 h
theorem gQ.nm {k:Nat}{f:Nat×Nat→Option pN}(kP:aO b op p=p+1+k) (h:aO b op p≤b.length→gQ b op p s kn (f (be (cu b op p).args,aO b op p))):gQ b op p s kn ((gw b (p+1) k).bind f):=by
 by_cases he:p+1+k≤b.length
 ·rw[oW he,←vz kP,←kP];exact h (pa kP he)
 ·rw[jA (bq he)];exact .cut (EK kP he)
theorem gQ.sg {k:Nat}{β:Type}{F:Int×Nat→β}{f:β→Option pN}(kP:aO b op p=p+1+k) (hk:0<k) (h:aO b op p≤b.length→gQ b op p s kn (f (F (jH (cu b op p).args,aO b op p)))):gQ b op p s kn (((mQ b (p+1) k).map F).bind f):=by
 by_cases he:p+1+k≤b.length
 ·rw[nV he hk,←vz kP,←kP];exact h (pa kP he)
 ·rw[ya (bq he)];exact .cut (EK kP he)
theorem Di {x y:Int}{s0:fC}(h:s0.Ok) (he:aO b op p≤b.length)
  (hm:g8 (cu b op p) s.l kn=some (({ s0 with cA:={ s0.cA with h:=s0.cA.h+x,v:=s0.cA.v+y } }:fC).l,kn)):gQ b op p s kn ((s0.go x y).map fun t=>(t,kn,aO b op p)):=by
 cases e:s0.go x y with
 |none=>exact .inr (bS hm (if_neg (by rw[JQ e];exact fN)))
 |some t=>
  have k:=Lx _ e
  exact⟨rfl,he,⟨k.2,k.1▸h.2⟩,k.1▸hm⟩
theorem pf {x:Int}{s0:fC}(h:s0.Ok) (he:aO b op p≤b.length) (hm:g8 (cu b op p) s.l kn=some (({ s0 with cA:={ s0.cA with h:=s0.cA.h+x } }:fC).l,kn)):gQ b op p s kn ((s0.go x 0).map fun t=>(t,kn,aO b op p)):=
 Di h he (hm.trans (by rw[pw]))
theorem vv {y:Int}{s0:fC}(h:s0.Ok) (he:aO b op p≤b.length) (hm:g8 (cu b op p) s.l kn=some (({ s0 with cA:={ s0.cA with v:=s0.cA.v+y } }:fC).l,kn)):gQ b op p s kn ((s0.go 0 y).map fun t=>(t,kn,aO b op p)):=
 Di h he (hm.trans (by rw[pw]))
theorem o6 {code:Nat}(hs:s.Ok) (mv:Bool) (Ws:mv=decide (op<133)) (h1:op<138) (h2:op≠132) (h3:op≠137) (he:aO b op p≤b.length) (hc:(if op<128 then op else be (cu b op p).args)=code) :
  gQ b op p s kn ((s.vj code mv).map fun t=>(t,kn,aO b op p)):=by
 have hm:g8 (cu b op p) s.l kn=_:=if_pos h1
 have hd:my op (cu b op p).args (sa s.cA) s.qx s.rows=R6 op (sa s.cA) s.qx s.rows code:=iF (fun h=>h.elim h2 h3) (congrArg _ hc)
 have hm:=hm.trans (congrArg (kh _) hd)
 subst Ws
 show gQ b op p s kn ((((rW s.qx).lookup (code:Int)).bind _).map _)
 replace hm:_=(((rW s.qx).lookup (code:Int)).map _).map _:=hm
 cases e:(rW s.qx).lookup (code:Int) with
 |none=>rw[e] at hm;exact .mid hm
 |some w=>
  rw[e] at hm
  show gQ b op p s kn ((if decide (op<133)=true then _ else _:Option fC).map _)
  by_cases q:op<133
  ·rw[if_pos (decide_eq_true q)]
   exact pf (BH hs) he (hm.trans (congrArg some (gH (by show ka.mk (xk _ _ _) _ _ _ _=_;rw[xk,if_pos q];rfl) rfl)))
  ·rw[if_neg (by rw[decide_eq_false q];exact fN)]
   exact⟨rfl,he,BH hs,hm.trans (congrArg some (gH (by show ka.mk (xk _ _ _) _ _ _ _=_;rw[xk,if_neg q];rfl) rfl))⟩
theorem Cw {x y:Int}:min x y>0↔x>0∧y>0:=Int.lt_min
theorem xb (hs:s.Ok) (mv:Bool) (Ws:mv=decide (op<133)) (h:op=132∨op=137):gQ b op p s kn ((qG b (p+1) s mv).map fun q=>(q.1,kn,q.2)):=by
 have lP:op<138:=h.elim (fun h=>vl h rfl) fun h=>vl h rfl
 have kP:aO b op p=p+1+8:=eE (kr lP rfl) (h.elim (fun h=>h▸rfl) fun h=>h▸rfl)
 by_cases h8:p+1+8≤b.length
 rotate_left
 ·have:qG b (p+1) s mv=none:=by
   by_cases h4:p+1+4≤b.length
   ·exact bS (nV h4 (by decide)) (bN (ya (bq h8)) rfl)
   ·exact bN (ya (bq h4)) rfl
  rw[this]
  exact .cut (EK kP h8)
 have he:=pa kP h8
 have hm:g8 (cu b op p) s.l kn=_:=iT lP (congrArg (kh _) (if_pos h))
 have a1:da (cu b op p).args 0 4=da b (p+1) (p+1+4):=by rw[vz kP,d9 (show p+1+4≤p+1+8 from lQ 4 rfl)]
 have a2:(cu b op p).args.drop 4=da b (p+1+4) (p+1+4+4):=by rw[vz kP,jo]
 rw[show(cu b op p).op=op from rfl,a1,a2] at hm
 have e:qG b (p+1) s mv=T2 s mv (jH (da b (p+1) (p+1+4))) (jH (da b (p+1+4) (p+1+4+4)),aO b op p):=bS (nV (f9 4 h8 rfl) (by decide)) (bS (nV h8 (by decide)) (congrArg (fun x=>T2 s mv _ (_,x)) kP.symm))
 rw[e]
 generalize jH (da b (p+1) (p+1+4))=x at *
 generalize jH (da b (p+1+4) (p+1+4+4))=y at *
 have hr:Mi s x y={ s with rows:=if min x y>0 then s.rows++[.rule s.cA.h s.cA.v x y] else s.rows }:=by
  unfold Mi
  by_cases q:x>0∧y>0
  ·rw[if_pos q,if_pos (Cw.mpr q)];rfl
  ·rw[if_neg q,if_neg fun z=>q (Cw.mp z)]
 subst Ws
 show gQ b op p s kn ((if decide (op<133)=true then _ else _:Option _).map _)
 rw[hr]
 by_cases q:op<133
 ·rw[if_pos (decide_eq_true q),wb]
  exact pf (s0:={ s with rows:=if min x y>0 then s.rows++[.rule s.cA.h s.cA.v x y] else s.rows }) hs he (hm.trans (congrArg some (gH (by show ka.mk (xk _ _ _) _ _ _ _=_;rw[xk,if_pos q];rfl) rfl)))
 ·rw[if_neg (by rw[decide_eq_false q];exact fN)]
  exact⟨rfl,he,hs,hm.trans (congrArg some (gH (by show ka.mk (xk _ _ _) _ _ _ _=_;rw[xk,if_neg q];rfl) rfl))⟩
end
end
section
section
variable {b:List UInt8}{op p:Nat}{s:fC}{kn:Known}
theorem JK {w:Nat}{args:List UInt8}{sp:List Int}(hw:w<14):lb (143+w) args sp=It 0 w args sp:=by
 unfold lb;rw[fq,L2 hw,vU hw]
theorem J9 {w:Nat}{args:List UInt8}{sp:List Int}(hw:w<14):lb (157+w) args sp=It 1 w args sp:=by
 unfold lb
 rw[show 157+w-143=w+14*1 by rw[fJ 157];rfl,Nat.add_mul_div_left _ _ (by decide),Nat.add_mul_mod_self_left,L2 hw,vU hw]
noncomputable def Sf (w:Nat):Nat:=if w<4 then w+1 else if w=4 then 0 else if w<9 then w-4 else if w=9 then 0 else w-9
theorem Ky:(bh 14).all (fun w=>tJ (143+w)==Sf w&&tJ (157+w)==Sf w)=true:=by decide +kernel
theorem Hd {w:Nat}(h:w<14):tJ (143+w)=Sf w∧tJ (157+w)=Sf w:=
 have k:=dY (ba.mp Ky w (dg.mpr h))
 ⟨eq_of_beq k.1,eq_of_beq k.2⟩
theorem Qh {ax w:Nat}{args:List UInt8}{sp:List Int}(h:¬3<w):It ax w args sp=sp.set ax (sp.getD ax 0+Kk ax w args sp):=by
 unfold It QX;rw[if_neg h]
theorem xy {ax w:Nat}{args:List UInt8}{sp:List Int}(h:3<w):It ax w args sp=(sp.set (JA ax w) (Kk ax w args sp)).set ax ((sp.set (JA ax w) (Kk ax w args sp)).getD ax 0+Kk ax w args sp):=by
 unfold It QX;rw[if_pos h]
theorem IB {ax w:Nat}{args:List UInt8}{sp:List Int}(h:args.length≠0):Kk ax w args sp=jH args:=if_neg h
theorem MC {ax w:Nat}{args:List UInt8}{sp:List Int}(h:args.length=0):Kk ax w args sp=sp.getD (JA ax w) 0:=if_pos h
theorem GC {ax w:Nat}(h:¬8<w):JA ax w=2+2*ax:=by unfold JA;rw[if_neg h];rfl
theorem Ic {ax w:Nat}(h:8<w):JA ax w=3+2*ax:=by unfold JA;rw[if_pos h,sN]
theorem wO {ax w:Nat}{f g:Int}{F:(Int×Int×Int)×Nat→Option pN}(hp:p<b.length) (hw:w<14) (lP:op<239) (hl:tJ op=Sf w)
  (hf:(sa s.cA).getD (2+2*ax) 0=f) (hg:(sa s.cA).getD (3+2*ax) 0=g)
  (h1:∀z,aO b op p≤b.length→It ax w (cu b op p).args (sa s.cA)=(sa s.cA).set ax ((sa s.cA).getD ax 0+z)→gQ b op p s kn (F ((z,f,g),aO b op p)))
  (h2:∀z,aO b op p≤b.length→It ax w (cu b op p).args (sa s.cA)=((sa s.cA).set (2+2*ax) z).set ax (((sa s.cA).set (2+2*ax) z).getD ax 0+z)→gQ b op p s kn (F ((z,z,g),aO b op p)))
  (h3:∀z,aO b op p≤b.length→It ax w (cu b op p).args (sa s.cA)=((sa s.cA).set (3+2*ax) z).set ax (((sa s.cA).set (3+2*ax) z).getD ax 0+z)→gQ b op p s kn (F ((z,f,z),aO b op p))) :
  gQ b op p s kn ((nw b w (p+1) f g).bind F):=by
 refine .Kv (fun c1=>?_) fun c1=>.Kv (fun c3=>.Kv (fun c2=>?_) fun c2=>?_) fun c3=>.Kv (fun c4=>?_) fun c4=>?_
 ·have kP:aO b op p=p+1+(w+1):=eE lP (hl.trans (if_pos c1))
  exact .sg kP (Nat.succ_pos _) fun he=>h1 _ he ((Qh (bL (fp c1))).trans (by rw[IB (oP kP he▸om _)]))
 ·have kP:aO b op p=p+1+(w-4):=eE lP (hl.trans (iF c1 (iF (gY c2) (if_pos c3))))
  exact .sg kP (nh c2) fun he=>h2 _ he ((xy (tQ c2)).trans (by rw[IB (oP kP he▸Dv c2),GC (bL (fp c3))]))
 ·have e:w=4:=Nt (aR c2) (aR c1)
  have kP:aO b op p=p+1+0:=eE lP (hl.trans (e▸rfl))
  have he:aO b op p≤b.length:=pa kP hp
  rw[show p+1=aO b op p from kP.symm]
  exact h2 f he ((xy (e▸by decide)).trans (by rw[MC (oP kP he),GC (bL (fp c3)),hf]))
 ·have kP:aO b op p=p+1+(w-9):=eE lP (hl.trans (iF c1 (iF (fun e=>c3 (e▸by decide)) (iF c3 (if_neg (gY c4))))))
  have c8:8<w:=tQ c4
  exact .sg kP (nh c4) fun he=>h3 _ he ((xy (bq fun q=>c1 (j7 q))).trans (by rw[IB (oP kP he▸Dv c4),Ic c8]))
 ·have e:w=9:=Nt (aR c4) (aR c3)
  have kP:aO b op p=p+1+0:=eE lP (hl.trans (e▸rfl))
  have he:aO b op p≤b.length:=pa kP hp
  rw[show p+1=aO b op p from kP.symm]
  exact h3 g he ((xy (e▸by decide)).trans (by rw[MC (oP kP he),Ic (e▸by decide),hg]))
theorem zP (hs:s.Ok) (hp:p<b.length) (h:143≤op∧op<157):gQ b op p s kn ((nw b (op-143) (p+1) s.cA.w s.cA.x).bind (mvA s kn)):=by
 have hm:g8 (cu b op p) s.l kn=_:=uL (c:=cu b op p) ⟨h.1,kr h.2 rfl⟩
 refine al (jJ h.1) fun w gC=>?_
 subst gC
 have hw:w<14:=i6 h.2
 rw[show lb (cu b (143+w) p).op _ _=_ from JK hw] at hm
 rw[fq]
 exact wO (ax:=0) hp hw (kr h.2 rfl) (Hd hw).1 rfl rfl (fun z he e=>pf hs he (hm.trans (congrArg some (gH (congrArg (ka.mk · _ _ _ _) e) rfl))))
  (fun z he e=>pf (s0:={ s with cA:={ s.cA with w:=z } }) hs he (hm.trans (congrArg some (gH (congrArg (ka.mk · _ _ _ _) e) rfl))))
  (fun z he e=>pf (s0:={ s with cA:={ s.cA with x:=z } }) hs he (hm.trans (congrArg some (gH (congrArg (ka.mk · _ _ _ _) e) rfl))))
theorem En (hs:s.Ok) (hp:p<b.length) (h:157≤op∧op<171):gQ b op p s kn ((nw b (op-157) (p+1) s.cA.y s.cA.z).bind (mvD s kn)):=by
 have hm:g8 (cu b op p) s.l kn=_:=uL (c:=cu b op p) ⟨f9 14 h.1 rfl,h.2⟩
 refine al (jJ h.1) fun w iu=>?_
 subst iu
 have hw:w<14:=i6 h.2
 rw[show lb (cu b (157+w) p).op _ _=_ from J9 hw] at hm
 rw[fq]
 exact wO (ax:=1) hp hw (kr h.2 rfl) (Hd hw).2 rfl rfl (fun z he e=>vv hs he (hm.trans (congrArg some (gH (congrArg (ka.mk · _ _ _ _) e) rfl))))
  (fun z he e=>vv (s0:={ s with cA:={ s.cA with y:=z } }) hs he (hm.trans (congrArg some (gH (congrArg (ka.mk · _ _ _ _) e) rfl))))
  (fun z he e=>vv (s0:={ s with cA:={ s.cA with z:=z } }) hs he (hm.trans (congrArg some (gH (congrArg (ka.mk · _ _ _ _) e) rfl))))
end
end
section
section
variable {b:List UInt8}{op p:Nat}{s:fC}{kn:Known}
theorem zh (h:243≤op∧op<247):aO b op p=p+1+(op-242+14)+Ac (da b (p+1+(op-242+14)-2) (p+1+(op-242+14))):=by
 unfold aO;rw[if_neg (by exact zA h.1 rfl),if_neg (by exact bL h.1),if_pos (by exact h.2)]
theorem DR (h:243≤op∧op<247) (hl:p+1+(op-242+14)≤b.length):aO b op p=p+1+(op-242)+14+((b.getD (p+1+(op-242)+12) 0).toNat+(b.getD (p+1+(op-242)+12+1) 0).toNat):=by
 rw[zh h,show p+1+(op-242+14)-2=p+1+(op-242)+12 by exact rfl,show p+1+(op-242+14)=p+1+(op-242)+12+2 by exact rfl,JU (by exact f9 0 hl rfl)]
 simp[Ac]
theorem NP {dm check size bW fo:Nat}{q:List UInt8×Nat}:VR dm check size bW fo q=(VF dm check size bW fo q.1).map fun x=>(x,q.2):=by
 unfold VR VF
 split<;>rfl
theorem LK {e k q:Nat}(h:q+(k+14)≤e):me (da b q e) k=VF (be (da b q (q+k))) (be (da b (q+k) (q+k+4))) (be (da b (q+k+4) (q+k+8))) (be (da b (q+k+8) (q+k+12))) (b.getD (q+k+12) 0).toNat (da b (q+k+14) e):=by
 unfold me
 rw[d9 (show q+k≤e from f9 14 h rfl),d9 (show q+(k+4)≤e from f9 10 h rfl),d9 (show q+(k+8)≤e from f9 6 h rfl),d9 (show q+(k+12)≤e from f9 2 h rfl),yB (show q+(k+12)<e from f9 1 h rfl),jo];rfl
theorem Uk {a:Nat}:hW (mn b op a) fun _=>a+(op-242+14)≤b.length:=
 .cV DG fun _ h1=>.cV DG fun _ h2=>.cV DG fun _ h3=>.cV DG fun _ h4=>.cV DG fun _ h5=>.cV DG fun _ h6=>fun _ _=>by
  have:=h6.2
  rw[h6.1,h5.1,h4.1,h3.1,h2.1,h1.1] at this
  exact this
theorem CN (h:243≤op∧op<247):mn b op (p+1)=if aO b op p≤b.length then (me (cu b op p).args (op-242)).map fun q=>(q,aO b op p) else none:=by
 by_cases hl:p+1+(op-242+14)≤b.length
 ·have kP:=DR h hl
  have hx:p+1+(op-242)+4+4+4+1+1+((b.getD (p+1+(op-242)+4+4+4) 0).toNat+(b.getD (p+1+(op-242)+4+4+4+1) 0).toNat)=aO b op p:=kP.symm
  have e:mn b op (p+1)=(wq b (p+1+(op-242)+4+4+4+1+1) ((b.getD (p+1+(op-242)+4+4+4) 0).toNat+(b.getD (p+1+(op-242)+4+4+4+1) 0).toNat)).bind _:=
   bS (oW (f9 14 hl rfl)) (bS (oW (f9 10 hl rfl)) (bS (oW (f9 6 hl rfl)) (bS (oW (f9 2 hl rfl)) (bS (jW (f9 1 hl rfl)) (bS (jW (f9 0 hl rfl)) rfl)))))
  rw[e]
  by_cases yO:aO b op p≤b.length
  ·rw[if_pos yO,show(cu b op p).args=da b (p+1) (aO b op p) from rfl,LK (show p+1+(op-242+14)≤aO b op p from kP▸bC _ _)]
   exact bS (GZ (hx▸yO)) (NP.trans (by rw[hx]))
  ·rw[if_neg yO]
   exact bN (BR (bq (hx▸yO))) rfl
 ·rw[if_neg fun q=>hl (az (by rw[zh h];exact bC _ _) q)]
  exact Uk.no hl
theorem yX (h:243≤op∧op<247):lZ b op (p+1) kn=if aO b op p≤b.length then (iJ op (cu b op p).args kn).map fun q=>(q,aO b op p) else none:=by
 unfold lZ iJ
 rw[CN h]
 by_cases hl:aO b op p≤b.length
 ·rw[if_pos hl,if_pos hl]
  cases me (cu b op p).args (op-242) with
  |none=>rfl
  |some q=>
   show ZF kn (q,_)=(Of kn q).map _
   unfold ZF Of
   split<;>rfl
 ·rw[if_neg hl,if_neg hl];rfl
theorem DV (hs:s.Ok) (h:243≤op∧op<247):gQ b op p s kn ((lZ b op (p+1) kn).map fun q=>(s,q.1,q.2)):=by
 rw[yX h]
 by_cases hl:aO b op p≤b.length
 ·rw[if_pos hl]
  have hm:g8 (cu b op p) s.l kn=_:=yV (c:=cu b op p) h
  replace hm:_=(iJ op (cu b op p).args kn).map _:=hm
  cases e:iJ op (cu b op p).args kn with
  |none=>rw[e] at hm;exact .mid hm
  |some k=>rw[e] at hm;exact⟨rfl,hl,hs,hm⟩
 ·rw[if_neg hl];exact .cut (bq hl)
theorem sZ (hs:s.Ok){n:Nat}(h:171≤op∧op<239) (he:aO b op p≤b.length) (hn:Yw (cu b op p)=n):gQ b op p s kn ((s.choose n kn).map fun t=>(t,kn,aO b op p)):=by
 have hm:g8 (cu b op p) s.l kn=_:=u9 (c:=cu b op p) h
 unfold Gz at hm
 unfold fC.choose
 rw[hn] at hm
 by_cases hk:(kn.lookup (n:Int)).isSome
 ·rw[if_pos hk] at hm ⊢;exact⟨rfl,he,hs,hm⟩
 ·rw[if_neg hk] at hm ⊢;exact .mid hm
theorem Ex (hs:s.Ok) (h:239≤op∧op<243):gQ b op p s kn ((gw b (p+1) (op-238)).bind (spc b s kn)):=by
 have kP:aO b op p=p+1+(op-238)+be (da b (p+1) (p+1+(op-238))):=iF (bL h.1) (if_pos h.2)
 by_cases h1:p+1+(op-238)≤b.length
 ·rw[oW h1]
  show gQ b op p s kn ((wq b _ _).map _)
  by_cases h2:aO b op p≤b.length
  ·rw[GZ (kP▸h2),←kP]
   exact⟨rfl,h2,BH hs,(Ao (c:=cu b op p) h).trans (congrArg some (gH (congrArg (ka.mk _ _ · _ _) (congrArg (fun t=>s.rows++[n5.spec _ _ t]) jo)) rfl))⟩
  ·rw[BR (bq (kP▸h2))];exact .cut (bq h2)
 ·rw[jA (bq h1)];exact .cut (aV (bq h1) (kP▸bC _ _))
theorem Ks:(bh 64).all (fun w=>tJ (171+w)==0)=true:=by decide +kernel
theorem Lf:(bh 4).all (fun w=>tJ (235+w)==w+1)=true:=by decide +kernel
theorem Py (h:171≤op∧op<235):tJ op=0:=by
 refine al (jJ h.1) fun w gC=>?_
 subst gC
 exact eq_of_beq (ba.mp Ks w (dg.mpr (i6 h.2)))
theorem Qq (h:235≤op∧op<239):tJ op=op-234:=by
 refine al (jJ h.1) fun w iu=>?_
 subst iu
 rw[show 235+w-234=w+1 by rw[fJ];rfl]
 exact eq_of_beq (ba.mp Lf w (dg.mpr (i6 h.2)))
theorem wt {α:Type}{l:List α}{x:α}(h:l.getLast?=some x):l=l.dropLast++[x]:=by
 cases l with
 |nil=>exact nS h
 |cons y ys=>
  rw[List.getLast?_eq_some_getLast (by simp)] at h
  replace h:=ae h
  subst h
  exact(List.dropLast_concat_getLast (by simp)).symm
theorem DT (hs:s.Ok) (hp:p<b.length):gQ b 141 p s kn (some (s.push,kn,p+1)):=by
 refine⟨(eE (op:=141) (by decide) rfl).symm,hp,⟨hs.1,fun t ht=>(eG.mp ht).elim (hs.2 t) fun h=>cU.mp h▸hs.1⟩,?_⟩
 refine iF (by exact(by decide:¬141<138)) (iT rfl (congrArg some (gH ?_ rfl)))
 show ka.mk _ (s.stack.map sa++[sa s.cA]) _ (max s.deep ((s.stack.map sa).length+1)) _=ka.mk _ ((s.stack++[s.cA]).map sa) _ _ _
 rw[aF,aa];rfl
theorem FP (hs:s.Ok) (hp:p<b.length):gQ b 142 p s kn (s.pop.map fun t=>(t,kn,p+1)):=by
 unfold fC.pop
 cases e:s.stack.getLast? with
 |none=>
  have e:=List.getLast?_eq_none_iff.mp e
  refine .mid (Dl (c:=cu b 142 p) (by exact(by decide:¬142<138)) (by exact(by decide:142≠141)) (fun h=>h.2 ?_) (by exact(by decide:¬(143≤142∧142<247))) (by exact(by decide:142≠138)))
  show s.stack.map sa=[]
  rw[e];rfl
 |some t=>
  have Xc:=wt e
  refine⟨(eE (op:=142) (by decide) rfl).symm,hp,⟨hs.2 t (Xc▸List.mem_append_right _ aI),fun x hx=>hs.2 x (Xc▸Dw _ hx)⟩,?_⟩
  have v7:s.stack.map sa≠[]:=by rw[Xc,aF];exact rT _ (JB _ _)
  refine iF (by exact(by decide:¬142<138)) (iF (by exact(by decide:¬142=141)) (iT ⟨rfl,v7⟩ (congrArg some (gH ?_ rfl))))
  show ka.mk ((s.stack.map sa).getLast?.getD []) (s.stack.map sa).dropLast _ _ _=ka.mk (sa t) (s.stack.dropLast.map sa) _ _ _
  rw[List.map_dropLast,List.getLast?_map,e];rfl
theorem DD (hs:s.Ok) (hp:p<b.length) (aam:op≠140):gQ b op p s kn (kI b op (p+1) s kn):=by
 have one:∀{k:Nat},aO b op p=p+1+0→p+1=aO b op p∧aO b op p≤b.length:=fun h=>⟨h.symm,pa h hp⟩
 refine .ite (fun c1=>?_) fun c1=>.ite (fun c2=>?_) fun c2=>.ite (fun c3=>?_) fun c3=>.ite (fun c4=>?_) fun c4=>.ite (fun c5=>?_) fun c5=>.ite (fun c6=>?_) fun c6=>.ite (fun c7=>?_) fun c7=>
  .ite (fun c8=>?_) fun c8=>.ite (fun c9=>?_) fun c9=>.ite (fun Zy=>?_) fun Zy=>.ite (fun M9=>?_) fun M9=>.ite (fun PG=>?_) fun PG=>.ite (fun ZB=>?_) fun ZB=>.ite (fun ZO=>?_) fun ZO=>?_
 ·have k:=one (k:=0) (eE (kr c1 rfl) (if_pos c1))
  rw[k.1]
  exact o6 hs _ (decide_eq_true (kr c1 rfl)).symm (kr c1 rfl) (zG c1 rfl) (zG c1 rfl) k.2 (if_pos c1)
 ·exact .nm (eE (kr c2 rfl) (iF c1 (if_pos c2))) fun he=>o6 hs _ (decide_eq_true (kr c2 rfl)).symm (kr c2 rfl) (bV c2) (zG c2 rfl) he (if_neg c1)
 ·exact xb hs _ (decide_eq_true (vl c3 rfl)).symm (.inl c3)
 ·exact .nm (eE (kr c4 rfl) (iF c1 (iF c2 (iF c3 (if_pos c4))))) fun he=>o6 hs _ (decide_eq_false (HL c2 c3 rfl)).symm (kr c4 rfl) c3 (bV c4) he (if_neg c1)
 ·exact xb hs _ (decide_eq_false (HL c2 c3 rfl)).symm (.inr c5)
 ·subst c6
  have k:=one (k:=0) (eE (by decide) rfl)
  exact⟨k.1,hp,hs,rfl⟩
 ·subst c7;exact DT hs hp
 ·subst c8;exact FP hs hp
 ·exact zP hs hp c9
 ·exact En hs hp Zy
 ·have k:=one (k:=0) (eE (kr M9.2 rfl) (Py M9))
  rw[k.1]
  exact sZ hs ⟨M9.1,kr M9.2 rfl⟩ k.2 (iF (bL (rC M9.2 rfl)) (rF M9.1))
 ·exact .nm (eE PG.2 (Qq PG)) fun he=>sZ hs ⟨f9 64 PG.1 rfl,PG.2⟩ he (if_pos (Xj PG.1 rfl))
 ·exact Ex hs ZB
 ·exact DV hs ZO
 ·refine .mid (Dl (c:=cu b op p) (HL c4 c5 rfl) c7 (JO c8) (fun z=>?_) c6)
  exact(pC op 157).elim (fun q=>c9 ⟨z.1,q⟩) fun q1=>(pC op 171).elim (fun q=>Zy ⟨q1,q⟩) fun q2=>(pC op 235).elim (fun q=>M9 ⟨q2,q⟩) fun q3=>(pC op 239).elim (fun q=>PG ⟨q3,q⟩) fun q4=>(pC op 243).elim (fun q=>ZB ⟨q4,q⟩) fun q5=>ZO ⟨q5,z.2⟩
end
end
section
section
variable {b:List UInt8}{op p:Nat}{s:fC}{kn:Known}
theorem DQ {c:fK}{s:ka}{s':fC}{oY:Known}(h:g8 c s kn=some (s'.l,oY)) (ok:s'.Ok):DF c s kn=some (s'.l,oY):=bS h (if_pos (Oj ok.1))
theorem Uw {c:fK}{s:ka}:hW (g8 c s kn) fun _=>c.op<249:=
 .ite (fun h=>.map fun _ _=>kr h rfl) fun _=>.ite (fun h=>.some (vl h rfl)) fun _=>.ite (fun h=>.some (vl h.1 rfl)) fun _=>.ite (fun h=>.some (kr h.2 rfl)) fun _=>
 .ite (fun h=>.ite (fun _=>.some (kr h.2 rfl)) fun _=>.none) fun _=>.ite (fun h=>.some (kr h.2 rfl)) fun _=>.ite (fun h=>.map fun _ _=>kr h.2 rfl) fun _=>.ite (fun _=>.none) fun h=>.some (vl (jk.mp h) rfl)
theorem mi (hp:p<b.length) (ho:(b.getD p 0).toNat=op):cut b p=none∨∃r,cut b p=some (cu b op p::r):=by
 by_cases h1:op>249∨aO b op p>b.length
 ·exact .inl (Iq hp (ho▸h1))
 by_cases h2:op=249
 ·refine .inr ⟨[],(CF hp (ho.trans h2)).trans ?_⟩
  subst h2
  exact congrArg (fun e=>some [fK.mk 249 p (da b (p+1) e)]) (show b.length=aO b 249 p from rfl)
 rw[mj hp ho (mA (aR fun q=>h1 (.inl q)) h2) (aR fun q=>h1 (.inr q))]
 cases cut b (aO b op p) with
 |none=>exact .inl rfl
 |some r=>exact .inr ⟨r,rfl⟩
theorem nu (hp:p<b.length) (ho:(b.getD p 0).toNat=op) (h:b.length<aO b op p):cut b p=none:=Iq hp (ho▸.inr h)
noncomputable def Iy (b:List UInt8) (p:Nat) (s:fC) (kn:Known):Option (ka×Known×List fK):=(cut b p).bind fun cs=>lr cs s.l kn
noncomputable def GP (b:List UInt8) (q:pN):Option (ka×Known×List fK):=if q.1.stack.length>0 then none else (cut b q.2.2).map fun r=>(q.1.l,q.2.1,r)
noncomputable def yC (b:List UInt8) (o:Option pN):Option (ka×Known×List fK):=o.bind (GP b)
theorem Ez {n:Nat}{q:pN}(ho:op≠140) (h:kI b op (p+1) s kn=some q) (hn:b.length-(p+1)≤n) (ha:p+1≤q.2.2):gO b n op (p+1) s kn=(gw b q.2.2 1).bind (Vv (gO b (n-1)) q.1 q.2.1):=by
 cases n with
 |zero=>exact iF ho (bN (jA (j7 (az (fV (jI.mp hn)) ha))) rfl).symm
 |succ n=>exact iF ho (bS h rfl)
theorem sub_le {a p m:Nat}(ha:p+1≤a) (h:b.length-p≤m+1):b.length-a≤m:=az (Fl ha _) (by rw[Nat.sub_succ];exact L4 h)
theorem yd {a p n:Nat}(ha:p+1≤a) (h:b.length-(p+1)≤n):b.length-(a+1)≤n-1:=az (Fl (gR ha) _) (by rw[Nat.sub_succ];exact L4 h)
theorem Em (b:List UInt8) (m:Nat):∀{n p:Nat}{s:fC}{kn:Known},b.length-p≤m→b.length-(p+1)≤n→s.Ok→Iy b p s kn=yC b ((gw b p 1).bind (Vv (gO b n) s kn)):=by
 have out:∀{n p:Nat}{s:fC}{kn:Known},¬p<b.length→Iy b p s kn=yC b ((gw b p 1).bind (Vv (gO b n) s kn)):=fun hp=>(bN (uh (aR hp)) rfl).trans (congrArg (yC b) (bN (jA (zO hp)) rfl).symm)
 induction m with
 |zero=>exact fun hm _ _=>out (bL (fV (jI.mp hm)))
 |succ m ih=>
  intro n p s kn hm hn hs
  by_cases hp:p<b.length
  rotate_left
  ·exact out hp
  rw[jW hp]
  generalize ho:(b.getD p 0).toNat=op
  show _=yC b (gO b n op (p+1) s kn)
  by_cases h3:op=140
  ·subst h3
   have hc:aO b 140 p=p+1:=eE (op:=140) (by decide) rfl
   rw[uM]
   show(cut b p).bind _=if s.stack.length>0 then none else (cut b (p+1)).map _
   rw[mj hp ho (by decide) (pa hc hp),hc]
   by_cases i4:s.stack.length>0
   ·rw[if_pos i4]
    cases cut b (p+1) with
    |none=>rfl
    |some r=>exact if_neg fun(z:s.stack.map sa=[])=>gY i4 ((aa sa).symm.trans (congrArg m8 z))
   ·rw[if_neg i4]
    cases cut b (p+1) with
    |none=>rfl
    |some r=>exact if_pos (List.map_eq_nil_iff.mpr (dE.mp (Nat.eq_zero_of_not_pos i4)))
  have i4:=DD (kn:=kn) hs hp h3
  cases CY:kI b op (p+1) s kn with
  |none=>
   rw[CY] at i4
   rw[vM h3 CY]
   refine i4.elim (fun h=>bN (nu hp ho h) rfl) fun h=>(mi hp ho).elim (fun e=>bN e rfl) ?_
   rintro⟨r,e⟩
   exact bS e (iF h3 (bN h rfl))
  |some q=>
   rw[CY] at i4
   obtain⟨s',oY,a'⟩:=q
   have ha:p+1≤a':=i4.1▸jY hp
   rw[Ez h3 CY hn ha]
   refine oA ?_ (ih (sub_le ha hm) (yd ha hn) i4.2.2.1)
   show(cut b p).bind _=(cut b a').bind _
   rw[mj hp ho (Uw _ i4.2.2.2) (i4.1▸i4.2.1),←i4.1]
   cases cut b a' with
   |none=>rfl
   |some r=>
    have e:(fK.mk op p (da b (p+1) a'))=cu b op p:=congrArg (fun e=>fK.mk op p (da b (p+1) e)) i4.1
    exact e▸iF h3 (bS (DQ i4.2.2.2 i4.2.2.1) rfl)
theorem Ot:AK.Ok:=⟨⟨by decide,by decide⟩,fun t h=>by cases h⟩
theorem GJ {k:Nat}:∀{a:Nat},a+4*k≤b.length→zc b k a=some ((bh k).map fun i=>jH (da b (a+4*i) (a+4*i+4)),a+4*k):=by
 induction k with
 |zero=>exact fun _=>rfl
 |succ k ih=>
  intro a h
  have e:∀i,a+4+4*i=a+4*(i+1):=fun i=>by rw[Nat.mul_succ,nM,fJ 4]
  refine bS (nV (az (gI (Nat.le_mul_of_pos_right 4 (Nat.succ_pos k)) a) h) (by decide)) ((congrArg (kh _) (ih (e k▸h))).trans ?_)
  refine congrArg some (gH ?_ (e k))
  rw[AN,bY,dy]
  exact congrArg (_::·) (i7 fun i _=>congrArg (fun x=>jH (da b x (x+4))) (e i))
theorem KZ {k a:Nat}(h:b.length<a+4*k) (ha:a≤b.length):zc b k a=none:=
 hW.no (p:=a+4*k≤b.length) (OR.mono fun _ h=>h.1▸h.2.1 ha) (i0 h)
theorem s6:aO b 139 p=p+1+44:=eE (op:=139) (by decide) rfl
noncomputable def Mw (b:List UInt8) (q:(List Int×fC)×Known×Nat):Option ((List Int×ka)×Known×List fK):=(cut b q.2.2).map fun r=>((q.1.1,q.1.2.l),q.2.1,r)
theorem KG {last:Int}(hp:p<b.length) :
  ((nJ b last (p+1) kn).bind (Mw b)) =
   if aO b 139 p≤b.length∧jH ((cu b 139 p).args.drop 40)=last then (Iy b (aO b 139 p) AK kn).map fun q=>((xA (cu b 139 p).args,q.1),q.2.1,q.2.2) else none:=by
 have a0:(cu b 139 p).args=da b (p+1) (p+1+44):=vz s6
 rw[a0,jo,s6]
 by_cases hl:p+1+44≤b.length
 rotate_left
 ·rw[if_neg fun h=>hl h.1]
  by_cases h4:p+1+4*10≤b.length
  ·exact bN (bS (GJ h4) (bN (ya (bq hl)) rfl)) rfl
  ·exact bN (bN (KZ (bq h4) hp) rfl) rfl
 have e:nJ b last (p+1) kn=Zr b last kn _ (jH (da b (p+1+40) (p+1+44)),p+1+44):=bS (GJ (f9 4 hl rfl)) (bS (nV hl (by decide)) rfl)
 rw[e]
 unfold Zr
 by_cases hq:jH (da b (p+1+40) (p+1+44))=last
 rotate_left
 ·rw[if_pos hq,if_neg fun h=>hq h.2];rfl
 rw[if_neg fun h=>h hq,if_pos ⟨hl,hq⟩]
 have a2:xA (da b (p+1) (p+1+44))=(bh 10).map fun i=>jH (da b (p+1+4*i) (p+1+4*i+4)):=
  i7 fun i hi=>congrArg jH (d9 (gI (az (cS (Nat.mul_le_mul_left 4 (fp (dg.mp hi))) 4) (by decide:4*9+4≤44)) _))
 rw[a2,Em b _ (n:=b.length-(p+1+44+1)) (aA _) (aA _) Ot]
 by_cases hx:p+1+44<b.length
 rotate_left
 ·rw[jA (zO hx)];rfl
 rw[jW hx]
 show((gO b (b.length-(p+1+44+1)) _ _ _ _).bind _).bind _=((gO b (b.length-(p+1+44+1)) _ _ _ _).bind _).map _
 cases gO b (b.length-(p+1+44+1)) (b.getD (p+1+44) 0).toNat (p+1+44+1) AK kn with
 |none=>rfl
 |some q=>
  show(Vt _ q).bind _=(GP b q).map _
  unfold Vt GP
  by_cases i4:q.1.stack.length>0
  ·rw[if_pos i4,if_pos i4];rfl
  ·rw[if_neg i4,if_neg i4]
   show(cut b q.2.2).map _=((cut b q.2.2).map _).map _
   rw[wb];rfl
end
end
section
section
variable {b:List UInt8}{op p:Nat}{s:fC}{kn:Known}
noncomputable def g7.l (v:g7) (last:Int):lu:=⟨v.cL,v.cb,last,v.iy⟩
noncomputable def Hk (v:lu) (cs:List fK):Option (lu×List fK):=mL cs.length cs v
noncomputable def rG (b:List UInt8) (p:Nat) (v:lu):Option (lu×List fK):=(cut b p).bind (Hk v)
noncomputable def S8 (b:List UInt8) (q:Int×g7×Nat):Option (lu×List fK):=(cut b (q.2.2-1)).map fun r=>(q.2.1.l q.1,r)
noncomputable def sL (b:List UInt8) (o:Option (Int×g7×Nat)):Option (lu×List fK):=o.bind (S8 b)
noncomputable def X0 (L:Nat→Nat→Int→g7→Option (Int×g7×Nat)) (last:Int) (v:g7) (z:Nat×Nat):=L z.1 z.2 last v
theorem ye {c:fK}{r:List fK}{v:lu}{q:PK}(h1:c.op≠248) (h:lq c r v=some q):Hk v (c::r)=Hk q.2 q.1:=(mH h1 h).trans (BP (CD _ h) (aA _))
theorem D8 {n a:Nat}{last s7:Int}{v v':g7}(ho:op≠248) (h:kF b op (p+1) last v=(gw b a 1).map fun z=>(z.1,z.2,s7,v')) (hn:b.length-(p+1)≤n) (ha:p+1≤a) :
  fQ b n op (p+1) last v=(gw b a 1).bind (X0 (fQ b (n-1)) s7 v'):=by
 cases n with
 |zero=>exact iF ho (bN (jA (j7 (az (fV (jI.mp hn)) ha))) rfl).symm
 |succ n=>
  refine iF ho ?_
  rw[h]
  cases gw b a 1<;>rfl
theorem D9 (b:List UInt8) (m:Nat):∀{n p:Nat}{last:Int}{v:g7},b.length-p≤m→b.length-(p+1)≤n→rG b p (v.l last)=sL b ((gw b p 1).bind (X0 (fQ b n) last v)):=by
 have out:∀{n p:Nat}{last:Int}{v:g7},¬p<b.length→rG b p (v.l last)=sL b ((gw b p 1).bind (X0 (fQ b n) last v)):=fun hp=>(bN (uh (aR hp)) rfl).trans (congrArg (sL b) (bN (jA (zO hp)) rfl).symm)
 induction m with
 |zero=>exact fun hm _=>out (bL (fV (jI.mp hm)))
 |succ m ih=>
  intro n p last v hm hn
  by_cases hp:p<b.length
  rotate_left
  ·exact out hp
  rw[jW hp]
  generalize ho:(b.getD p 0).toNat=op
  show _=sL b (fQ b n op (p+1) last v)
  by_cases h8:op=248
  ·subst h8
   rw[vI]
   show(cut b p).bind _=(cut b p).map _
   refine(mi hp ho).elim (fun e=>by rw[e];rfl) ?_
   rintro⟨r,e⟩
   rw[e]
   exact pH rfl
  -- R2 is Wa,and R2 aaj on
  have no:kF b op (p+1) last v=none→(∀r,cut b p=some (cu b op p::r)→lq (cu b op p) r (v.l last)=none)→rG b p (v.l last)=sL b (fQ b n op (p+1) last v):=fun h k=>by
   rw[r9 h8 h]
   refine(mi hp ho).elim (fun e=>bN e rfl) ?_
   rintro⟨r,e⟩
   exact bS e (kA h8 (k r e))
  have go:∀{a:Nat}{s7:Int}{v':g7},kF b op (p+1) last v=((gw b a 1).map fun z=>(z.1,z.2,s7,v'))→p+1≤a→rG b p (v.l last)=rG b a (v'.l s7)→rG b p (v.l last)=sL b (fQ b n op (p+1) last v):=fun h ha e=>by
   rw[D8 h8 h hn ha]
   exact e.trans (ih (sub_le ha hm) (yd ha hn))
  by_cases h1:op=139
  ·subst h1
   have key:=KG (kn:=v.cL) (last:=last) hp
   have hs:kF b 139 (p+1) last v=(nJ b last (p+1) v.cL).bind (mn1 b (p+1) v):=if_pos rfl
   have e1:rG b p (v.l last)=((nJ b last (p+1) v.cL).bind (Mw b)).bind fun q=>Hk ⟨q.2.1,v.cb++[(q.1.1,q.1.2.rows)],(p:Int),max v.iy q.1.2.deep⟩ q.2.2:=by
    rw[key]
    by_cases hc:aO b 139 p≤b.length∧jH ((cu b 139 p).args.drop 40)=last
    ·rw[if_pos hc]
     show(cut b p).bind _=(((cut b _).bind _).map _).bind _
     rw[mj hp ho (by decide) hc.1]
     cases cut b (aO b 139 p) with
     |none=>rfl
     |some r=>
      have hl:lq (cu b 139 p) r (v.l last)=(lr r AK.l v.cL).map (lm1 (cu b 139 p) (v.l last)):=if_pos ⟨rfl,hc.2⟩
      show Hk _ (cu b 139 p::r)=((lr r AK.l v.cL).map _).bind _
      cases e:lr r AK.l v.cL with
      |none=>rw[e] at hl;exact kA (by exact h8) hl
      |some q=>rw[e] at hl;exact ye (by exact h8) hl
    ·rw[if_neg hc]
     refine(mi hp ho).elim (fun e=>bN e rfl) ?_
     rintro⟨r,e⟩
     by_cases hf:b.length<aO b 139 p
     ·rw[nu hp ho hf] at e;exact nS e
     ·exact bS e (kA h8 (iF (fun z=>hc ⟨aR hf,z.2⟩) (iF (by exact(by decide:¬(243≤139∧139<247))) (if_pos (by exact(by decide:139≠138))))))
   cases hr:nJ b last (p+1) v.cL with
   |none=>
    rw[hr] at e1 hs
    rw[e1,r9 h8 hs];rfl
   |some q=>
    rw[hr] at e1 hs
    refine go (a:=q.2.2) (hs.trans (by show(gw b q.2.2 1).map _=_;rw[show(((p+1:Nat):Int)-1)=(p:Int) from(show(p:Int)+1-1=p from Int.add_sub_cancel _ _)])) (az (bC _ 40) (Dk _ hr).1) (e1.trans ?_)
    show((cut b q.2.2).map _).bind _=(cut b q.2.2).bind _
    cases cut b q.2.2<;>rfl
  by_cases h3:243≤op∧op<247
  ·have hs:kF b op (p+1) last v=(lZ b op (p+1) v.cL).bind (mn2 b last v):=iF h1 (if_pos h3)
   have hl:∀r,lq (cu b op p) r (v.l last)=(iJ op (cu b op p).args v.cL).map (lm2 r (v.l last)):=fun r=>iF (fun z=>h1 z.1) (if_pos h3)
   rw[yX h3] at hs
   by_cases he:aO b op p≤b.length
   ·rw[if_pos he] at hs
    cases hk:iJ op (cu b op p).args v.cL with
    |none=>rw[hk] at hs hl;exact no hs fun r _=>hl r
    |some k=>
     rw[hk] at hs hl
     refine go (a:=aO b op p) (v':={ v with cL:=k }) hs (jY hp) ?_
     show(cut b p).bind _=(cut b _).bind _
     rw[mj hp ho (kr h3.2 rfl) he]
     cases cut b (aO b op p) with
     |none=>rfl
     |some r=>exact ye h8 (hl r)
   ·rw[if_neg he] at hs
    exact no hs fun r e=>nS ((nu hp ho (bq he)).symm.trans e)
  by_cases h4:op=138
  ·subst h4
   have hc:aO b 138 p=p+1:=eE (op:=138) (by decide) rfl
   refine go (a:=p+1) (iF h1 (iF h3 (if_neg fun z=>z rfl))) (aA _) ?_
   show(cut b p).bind _=(cut b _).bind _
   rw[mj hp ho (by decide) (pa hc hp),hc]
   cases cut b (p+1) with
   |none=>rfl
   |some r=>exact ye h8 (iF (fun z=>h1 z.1) (iF h3 (if_neg fun z=>z rfl)))
  ·exact no (iF h1 (iF h3 (if_pos h4))) fun r _=>iF (fun z=>h1 z.1) (iF h3 (if_pos h4))
theorem RQ {n:Nat}:∀{op a:Nat}{last:Int}{v:g7},a≤b.length→40*v.cb.length≤a→hW (fQ b n op a last v) fun r=>r.2.1.units=v.units∧r.2.1.comment=v.comment∧40*r.2.1.cb.length≤b.length:=by
 induction n with
 |zero=>exact fun ha hp=>.ite (fun _=>.some ⟨rfl,rfl,az hp ha⟩) fun _=>.none
 |succ n ih=>exact fun ha hp=>.ite (fun _=>.some ⟨rfl,rfl,az hp ha⟩) fun _=>.cV ue fun _ h=>(ih h.le.2 (h.p hp)).mono fun _ k=>⟨k.1.trans h.u,k.2.1.trans h.c,k.2.2⟩
end
end
section
section
variable {b:List UInt8}{op p:Nat}{s:fC}{kn told:Known}
structure Sub (told kn:Known):Prop where
 nd:(told.map (·.1)).Nodup
 sub:∀k∈told.map (·.1),k∈kn.map (·.1)
theorem DK {l:Known}{k:Int}{r:mw}(h:l.lookup k=some r):k∈l.map (·.1):=by
 induction l with
 |nil=>exact nS h
 |cons x xs ih=>
  rw[dK] at h
  cases e:k==x.1 with
  |true=>exact eq_of_beq e▸aI
  |false=>rw[e] at h;exact aG _ (ih h)
theorem Sub.snoc {k:Int}{r:mw}(h:Sub told kn) (h1:told.lookup k=none) (h2:kn.lookup k=some r):Sub (told++[(k,r)]) kn:=by
 refine⟨?_,fun x hx=>?_⟩
 ·rw[aF,m7]
  refine⟨h.nd,du.mpr ⟨bZ,gF⟩,fun x hx y hy e=>?_⟩
  refine aq (dJ.mp hx) fun q hq e2=>?_
  have h1:=gG.mp h1 q hq
  rw[show k=q.1 from(cU.mp hy).symm.trans (e.symm.trans e2.symm),bne_self_eq_false] at h1
  exact fT h1
 ·rw[aF,eG] at hx
  exact hx.elim (h.sub x) fun hx=>cU.mp hx▸DK h2
theorem Xl {l:List Int}(h:l.Nodup) (h2:∀k∈l,k=3∨k=200) (hl:l.length=2):l=[3,200]∨l=[200,3]:=by
 obtain⟨a,b,rfl⟩:∃a b,l=[a,b]:=by
  rcases l with _ | ⟨a,_ | ⟨b,_ | ⟨c,r⟩⟩⟩
  ·cases hl
  ·cases hl
  ·exact⟨a,b,rfl⟩
  ·cases hl
 have AJ:a≠b:=fun e=>(du.mp h).1 (e▸aI)
 rcases h2 a aI with rfl | rfl<;>rcases h2 b (aG _ aI) with rfl | rfl
 ·exact absurd rfl AJ
 ·exact .inl rfl
 ·exact .inr rfl
 ·exact absurd rfl AJ
theorem Xb:BN [3,200]=[3,200]:=by unfold BN;rw[Nu];simp[lF]
theorem YE:BN [200,3]=[3,200]:=by unfold BN;rw[Nu];simp[lF]
theorem Ul {l:List Int}(h:l.Nodup) (h2:∀k∈l,k=3∨k=200) (hl:l.length=2):BN l=[3,200]:=(Xl h h2 hl).elim (fun e=>e▸Xb) fun e=>e▸YE
theorem J2 (hk:eZ kn) (h:Sub told kn):BN (told.map (·.1))=BN (kn.map (·.1))↔told.length=kn.length:=by
 have e1:told.length=(told.map (·.1)).length:=aa _ |>.symm
 have e2:kn.length=(kn.map (·.1)).length:=aa _ |>.symm
 rw[e1,e2]
 have c1:=BB hk.1 hk.2
 have c2:∀k∈told.map (·.1),k=3∨k=200:=fun k hh=>hk.2 k (h.sub k hh)
 have c3:=h.sub
 have c4:=h.nd
 have c5:=hk.1
 have c6:=hk.2
 generalize told.map (·.1)=x at *
 generalize kn.map (·.1)=y at *
 refine⟨fun q=>?_,fun q=>?_⟩
 ·have:=congrArg m8 q
  unfold BN at this
  rw[Ce,Ce] at this
  exact this
 ·by_cases l2:y.length=2
  ·exact(Ul c4 c2 (q.trans l2)).trans (Ul c5 c6 l2).symm
  by_cases l1:y.length=1
  ·obtain⟨a,rfl⟩:=AO.mp l1
   obtain⟨c,rfl⟩:=AO.mp (q.trans l1)
   rw[cU.mp (c3 c aI)]
  ·have l0:y.length=0:=jI.mp (fp (mA (fp (mA c1 l2)) l1))
   rw[dE.mp l0,dE.mp (q.trans l0)]
noncomputable def U2 (b:List UInt8) (y:Nat×Nat):Bool:=if y.1≠2 then false else !(decide (b.length-y.2<4)||(b.drop y.2).any fun x=>x != 223)
noncomputable def Zx (b:List UInt8) (place:Nat) (z:Nat×Nat):Bool:=if z.1≠place then false else iw (gw b z.2 1) false (U2 b)
noncomputable def oE (b:List UInt8) (place a:Nat):Bool:=iw (gw b a 4) false (Zx b place)
theorem KH (l:List UInt8):(l.any fun x=>x != 223)=!decide (l=bH l.length 223):=by
 induction l with
 |nil=>rfl
 |cons x r ih=>
  rw[rQ,ih,cC,i8]
  by_cases h:x=223
  ·subst h
   rw[bne_self_eq_false,ni]
   exact congrArg not (decide_eq_decide.mpr ⟨fun e=>congrArg _ e,fun e=>(Fo e).2⟩)
  ·rw[bne_iff_ne.mpr h,Bool.true_or,decide_eq_false fun e=>h (Fo e).1];rfl
theorem R5 {c:Prop} [Decidable c] {x:Bool}(h:(if c then false else x)=true):¬c∧x=true:=by
 by_cases k:c
 ·rw[if_pos k] at h;exact fT h
 ·rw[if_neg k] at h;exact⟨k,h⟩
theorem J6 {place a:Nat}(h:b.length-a<9):oE b place a=false:=I8.mpr fun e=>by
 refine aq (ej e) fun z hz e=>?_
 refine aq (ej (R5 e).2) fun y hy e=>?_
 have k:=Bool.or_eq_false_iff.mp ((m9 _).mp (R5 e).2)
 have k:=of_decide_eq_false k.1
 rw[(DG _ hy).1,(DG _ hz).1] at k
 exact k (by rw[nM,←Nat.sub_sub];exact Nat.sub_lt_left_of_lt_add (aR fun z=>k (cq (by rw[nM,←Nat.sub_sub];exact bF (Dt (dC z))) (by decide))) h)
theorem tail_eq {place q:Nat}(hk:eZ kn) (hs:Sub told kn) (hq:q<b.length) :
  vK place (da b (q+1) b.length) told kn=(decide (told.length=kn.length)&&oE b place (q+1)):=by
 have hl:(da b (q+1) b.length).length=b.length-(q+1):=kU b (aA _)
 unfold vK
 by_cases h9:b.length-(q+1)<9
 ·rw[if_pos (hl▸h9),J6 h9,qq]
 have Vf:q+1+9≤b.length:=by rw[fJ];exact Nat.add_le_of_le_sub hq (aR h9)
 have t1:oE b place (q+1)=if be (da b (q+1) (q+1+4))≠place then false else iw (gw b (q+1+4) 1) false (U2 b):=oB (oW (show q+1+4≤b.length from f9 5 Vf rfl))
 have t2:iw (gw b (q+1+4) 1) false (U2 b)=if (b.getD (q+1+4) 0).toNat≠2 then false else !(decide (b.length-(q+1+4+1)<4)||(b.drop (q+1+5)).any fun x=>x != 223):=oB (jW (show q+1+4<b.length from f9 4 Vf rfl))
 rw[if_neg (hl▸h9),t1,t2]
 unfold Yn
 rw[d9 (show q+1+4≤b.length from f9 5 Vf rfl)]
 by_cases hb:be (da b (q+1) (q+1+4))≠place
 ·exact iT hb (by rw[if_pos hb,qq])
 refine iF hb ?_
 rw[if_neg hb]
 unfold ZY
 rw[yB (show q+1+4<b.length from f9 4 Vf rfl)]
 by_cases h2:(b.getD (q+1+4) 0).toNat≠2
 ·rw[if_pos h2,if_pos h2,qq]
 rw[if_neg h2,if_neg h2,decide_eq_false (show ¬b.length-(q+1+4+1)<4 from bL (Du Vf)),ni,KH,Bool.not_not]
 unfold CG
 rw[decide_eq_decide.mpr (J2 hk hs),hl,jo,show da b (q+1+5) b.length=b.drop (q+1+5) from dM (bF aJ),aJ]
 rfl
noncomputable def ZZ (L:Nat→Nat→Known→Option (Known×Nat)) (told:Known) (z:Nat×Nat):=L z.1 z.2 told
noncomputable def rH (b:List UInt8) (place q:Nat) (kn told:Known):Bool:=iw (cut b q) false fun r=>oa place kn r told
noncomputable def SX (b:List UInt8) (place:Nat) (kn:Known) (z:Known×Nat):Bool:=decide (z.1.length=kn.length)&&oE b place z.2
noncomputable def uB (b:List UInt8) (place:Nat) (kn:Known) (o:Option (Known×Nat)):Bool:=iw o false (SX b place kn)
theorem D4 {n a:Nat}{w3:Known}(ho:op≠249) (h:mq b kn op (p+1) told=(gw b a 1).map fun z=>(z.1,z.2,w3)) (hn:b.length-(p+1)≤n) (ha:p+1≤a) :
  gP b kn n op (p+1) told=(gw b a 1).bind (ZZ (gP b kn (n-1)) w3):=by
 cases n with
 |zero=>exact iF ho (bN (jA (j7 (az (fV (jI.mp hn)) ha))) rfl).symm
 |succ n=>
  refine iF ho ?_
  rw[h]
  cases gw b a 1<;>rfl
theorem D2 (b:List UInt8) (place:Nat) (kn:Known) (hk:eZ kn) (m:Nat):∀{n p:Nat}{told:Known},b.length-p≤m→b.length-(p+1)≤n→Sub told kn →
  rH b place p kn told=uB b place kn ((gw b p 1).bind (ZZ (gP b kn n) told)):=by
 have out:∀{n p:Nat}{told:Known},¬p<b.length→rH b place p kn told=uB b place kn ((gw b p 1).bind (ZZ (gP b kn n) told)):=fun hp=>(oN (uh (aR hp))).trans (oN (bN (jA (zO hp)) rfl)).symm
 induction m with
 |zero=>exact fun hm _ _=>out (bL (fV (jI.mp hm)))
 |succ m ih=>
  intro n p told hm hn hs
  by_cases hp:p<b.length
  rotate_left
  ·exact out hp
  rw[jW hp]
  generalize ho:(b.getD p 0).toNat=op
  show _=uB b place kn (gP b kn n op (p+1) told)
  by_cases h9:op=249
  ·subst h9
   rw[vp]
   exact(oB (CF hp ho)).trans ((G3 rfl).trans (tail_eq hk hs hp))
  have no:mq b kn op (p+1) told=none→(∀r,cut b p=some (cu b op p::r)→pn kn (cu b op p) told=none)→rH b place p kn told=uB b place kn (gP b kn n op (p+1) told):=fun h k=>by
   rw[w7 h9 h]
   refine(mi hp ho).elim (fun e=>oN e) ?_
   rintro⟨r,e⟩
   exact(oB e).trans (CI h9 (k r e))
  have go:∀{a:Nat}{w3:Known},mq b kn op (p+1) told=((gw b a 1).map fun z=>(z.1,z.2,w3))→p+1≤a→Sub w3 kn→rH b place p kn told=rH b place a kn w3→rH b place p kn told=uB b place kn (gP b kn n op (p+1) told):=fun h ha hs e=>by
   rw[D4 h9 h hn ha]
   exact e.trans (ih (sub_le ha hm) (yd ha hn) hs)
  by_cases h3:243≤op∧op<247
  ·have hf:mq b kn op (p+1) told=(mn b op (p+1)).bind (pf1 b kn told):=if_pos h3
   have hl:pn kn (cu b op p) told=(me (cu b op p).args (op-242)).bind (Zn kn told):=if_pos h3
   rw[CN h3] at hf
   by_cases he:aO b op p≤b.length
   ·rw[if_pos he] at hf
    cases e:me (cu b op p).args (op-242) with
    |none=>rw[e] at hf hl;exact no hf fun _ _=>hl
    |some z=>
     rw[e] at hf hl
     by_cases h5:(told.lookup (z.1:Int)).isSome∨kn.lookup (z.1:Int)≠some z.2
     ·exact no (hf.trans (if_pos h5)) fun _ _=>hl.trans (if_pos h5)
     ·refine go (a:=aO b op p) (hf.trans (if_neg h5)) (jY hp) (hs.snoc (kD.mp fun q=>h5 (.inl q)) (jk.mp fun q=>h5 (.inr q))) ?_
      show iw (cut b p) _ _=iw (cut b _) _ _
      rw[mj hp ho (kr h3.2 rfl) he]
      cases cut b (aO b op p) with
      |none=>rfl
      |some r=>exact yt h9 (hl.trans (if_neg h5))
   ·rw[if_neg he] at hf
    exact no hf fun r e=>nS ((nu hp ho (bq he)).symm.trans e)
  by_cases h4:op=138
  ·subst h4
   have hc:aO b 138 p=p+1:=eE (op:=138) (by decide) rfl
   refine go (a:=p+1) (iF h3 (if_neg fun z=>z rfl)) (aA _) hs ?_
   show iw (cut b p) _ _=iw (cut b _) _ _
   rw[mj hp ho (by decide) (pa hc hp),hc]
   cases cut b (p+1) with
   |none=>rfl
   |some r=>exact yt h9 (iF h3 (if_neg fun z=>z rfl))
  ·exact no (iF h3 (if_pos h4)) fun _ _=>iF h3 (if_pos h4)
noncomputable def g7.out (v:g7):wk:=⟨v.units,v.comment,v.cb,v.mc,v.widest,v.iy,v.cL⟩
noncomputable def VY (u:Int×Int×Int) (a:Nat):Option ((Int×Int×Int)×Nat):=if min (min u.1 u.2.1) u.2.2≤0 then none else some (u,a)
theorem zp {a:Nat}(h:a+12≤b.length):nq b a=VY (three (da b a (a+12))) (a+12):=
 bS (nV (f9 8 h rfl) (by decide)) (bS (nV (f9 4 h rfl) (by decide)) (bS (nV h (by decide)) (by
  unfold three
  rw[d9 (show a+4≤a+12 from lQ 8 rfl),d9 (show a+8≤a+12 from lQ 4 rfl),d9 (show a+12≤a+12 from aA _)]
  rfl)))
end
end
section
section
variable {b:List UInt8}{op p:Nat}{kn:Known}
theorem Bb {a x a':Nat}(h:gw b a 1=some (x,a')):a'=a+1∧a<b.length∧(b.getD a 0).toNat=x:=by
 by_cases hp:a<b.length
 ·rw[jW hp] at h;cases h;exact⟨rfl,hp,rfl⟩
 ·rw[jA (zO hp)] at h;exact nS h
noncomputable def Kb (b:List UInt8) (op a':Nat):Prop:=∃p,a'=p+1∧p<b.length∧(b.getD p 0).toNat=op
theorem Om {a:Nat}:hW (gw b a 1) fun z=>Kb b z.1 z.2:=fun z e=>⟨a,Bb e⟩
theorem OU {a:Nat}{last:Int}{v:g7}:hW (kF b op a last v) fun q=>Kb b q.1 q.2.1:=
 .ite (fun _=>.bind fun _ _=>.jB Om fun _ h=>h) fun _=>.ite (fun _=>.bind fun _ _=>.jB Om fun _ h=>h) fun _=>.ite (fun _=>.none) fun _=>.jB Om fun _ h=>h
theorem atO {n:Nat}:∀{op a:Nat}{last:Int}{v:g7},Kb b op a→hW (fQ b n op a last v) fun r=>Kb b 248 r.2.2:=by
 induction n with
 |zero=>exact fun h=>.ite (fun e=>.some (e▸h)) fun _=>.none
 |succ n ih=>exact fun h=>.ite (fun e=>.some (e▸h)) fun _=>.cV OU fun _ k=>ih k
theorem xx {q place:Nat}(hk:eZ kn):rH b place q kn []=iw (jd b q kn) false (oE b place):=by
 rw[D2 b place kn hk _ (told:=[]) (n:=b.length-(q+1)) (aA _) (aA _) ⟨gF,fun k h=>by cases h⟩]
 unfold jd
 by_cases hq:q<b.length
 ·rw[jW hq]
  show iw (gP b kn (b.length-(q+1)) _ _ _) _ _=iw ((gP b kn (b.length-(q+1)) _ _ _).bind _) _ _
  cases gP b kn (b.length-(q+1)) (b.getD q 0).toNat (q+1) [] with
  |none=>rfl
  |some z=>
   show(decide (z.1.length=kn.length)&&_)=iw (Vx kn z) _ _
   unfold Vx
   by_cases h1:z.1.length=kn.length
   ·rw[decide_eq_true h1,QD,if_neg fun k=>k h1];rfl
   ·rw[decide_eq_false h1,xp,if_pos h1];rfl
 ·rw[jA (zO hq)];rfl
theorem Gr {place a:Nat}{v:g7}{pT wide:Int}:VA b (place+1) v pT wide a=cond (oE b place a) (some { v with mc:=pT,widest:=wide }) none:=by
 show(gw b a 4).bind _=cond (iw (gw b a 4) _ _) _ _
 cases gw b a 4 with
 |none=>rfl
 |some z=>
  show Yr b (place+1) v pT wide z=cond (Zx b place z) _ _
  unfold Yr Zx
  by_cases h1:z.1≠place
  ·rw[if_pos h1];exact if_pos h1
  rw[if_neg h1]
  refine iF h1 ?_
  cases gw b z.2 1 with
  |none=>rfl
  |some y=>
   show WM b v pT wide y=cond (U2 b y) _ _
   unfold WM U2
   by_cases h2:y.1≠2
   ·rw[if_pos h2,if_pos h2];rfl
   rw[if_neg h2,if_neg h2]
   by_cases h3:b.length-y.2<4
   ·rw[if_pos (.inl h3),decide_eq_true h3];rfl
   ·rw[decide_eq_false h3,ni]
    cases e:(b.drop y.2).any fun x=>x != 223 with
    |true=>exact if_pos (.inr rfl)
    |false=>exact if_neg fun k=>k.elim h3 fT
theorem Pq {a:Nat}{last:Int}{v:g7}:hW (so b a last v) fun _=>a+28≤b.length:=
 .cV Jw fun _ h1=>.ite (fun _=>.none) fun _=>.cV (R:=fun z=>∃x,x≤b.length∧z.2=x∧x=_+12) (.cV Jw fun _ h1=>.cV Jw fun _ h2=>.cV Jw fun _ h3=>.ite (fun _=>.none) fun _=>.some ⟨_,h3.2,rfl,by rw[h3.1,h2.1,h1.1]⟩) fun _ h2=>
 .ite (fun _=>.none) fun _=>.cV Jw fun _ h3=>.cV Jw fun _ h4=>.cV DG fun _ h5=>.ite (fun _=>.none) fun _=>.cV DG fun _ h6=>.ite (fun _=>.none) fun _=>
 fun _ _=>by refine aL h2 fun x _ e h=>?_;clear h2;have:=h6.2;rw[h6.1,h5.1,h4.1,h3.1,e,h,h1.1] at this;exact this
theorem xU {α:Type}{c d:Prop} [Decidable c] [Decidable d] {x y:α}:(if c∨d then x else y)=if c then x else if d then x else y:=by
 by_cases h:c
 ·rw[if_pos h,if_pos (.inl h)]
 ·rw[if_neg h]
  by_cases k:d
  ·rw[if_pos k,if_pos (.inr k)]
  ·rw[if_neg k,if_neg fun z=>z.elim h k]
theorem Hu (e:aO b 248 p=p+1+28):(cu b 248 p).args=da b (p+1) (p+1+28):=congrArg (da b (p+1)) e
theorem post_eq {sc:Int×Int×Int}{cm:List UInt8}{last:Int}{v:g7}(hp:p<b.length) (ho:(b.getD p 0).toNat=248) (hu:v.units=sc) (hcm:v.comment=cm) (h0:¬min (min sc.1 sc.2.1) sc.2.2≤0) (hk:eZ v.cL)
  (hpg:v.cb.length<65536):((cut b p).bind fun cs=>Q2 sc cm (v.l last,cs))=(so b (p+1) last v).map g7.out:=by
 subst hu
 subst hcm
 have hc:aO b 248 p=p+1+28:=iF (by decide) (iF (by decide) (iF (by decide) (iF (by decide) (if_pos rfl))))
 by_cases he:p+1+28≤b.length
 rotate_left
 ·exact(bN (nu hp ho (hc▸bq he)) rfl).trans (mN (Pq.no he) rfl).symm
 have e1:so b (p+1) last v=XK b (p+1) last v (jH (da b (p+1) (p+1+4)),p+1+4):=bS (nV (f9 24 he rfl) (by decide)) rfl
 have a0:∀i j,j≤28→da (da b (p+1) (p+1+28)) i j=da b (p+1+i) (p+1+j):=fun i j h=>d9 (gI h _)
 have a2:three (da b (p+1+4) (p+1+28))=three (da b (p+1+4) (p+1+4+12)):=by
  unfold three
  rw[d9 (show p+1+4+4≤p+1+28 from lQ 20 rfl),d9 (show p+1+4+8≤p+1+28 from lQ 16 rfl),d9 (show p+1+4+12≤p+1+28 from lQ 12 rfl),d9 (show p+1+4+4≤p+1+4+12 from lQ 8 rfl),d9 (show p+1+4+8≤p+1+4+12 from lQ 4 rfl),d9 (show p+1+4+12≤p+1+4+12 from aA _)]
 have hl:∀r,Q2 v.units v.comment (v.l last,cu b 248 p::r)=if jH (da b (p+1) (p+1+4))≠last then none else if three (da b (p+1+4) (p+1+4+12))≠v.units then none else
   if oa p v.cL r []=false then none else if (be (da b (p+1+24) (p+1+26)):Int)<v.iy then none else if be (da b (p+1+26) (p+1+28))≠v.cb.length then none else
   some ⟨v.units,v.comment,v.cb,jH (da b (p+1+16) (p+1+20)),jH (da b (p+1+20) (p+1+24)),v.iy,v.cL⟩:=fun r=>by
  show V2 _ _ _ (cu b 248 p) r=_
  unfold V2 lf5
  rw[Hu hc,a0 0 4 (by decide),jo,a2,a0 24 26 (by decide),jo,a0 16 20 (by decide),a0 20 24 (by decide),xU,xU,xU]
  rfl
 rw[e1]
 unfold XK
 by_cases h1:jH (da b (p+1) (p+1+4))≠last
 ·rw[if_pos h1]
  refine(mi hp ho).elim (fun e=>bN e rfl) ?_
  rintro⟨r,e⟩
  exact bS e ((hl r).trans (if_pos h1))
 rw[if_neg h1,zp (show p+1+4+12≤b.length from f9 12 he rfl)]
 unfold VY
 by_cases h2:three (da b (p+1+4) (p+1+4+12))≠v.units
 ·have:((if min (min (three (da b (p+1+4) (p+1+4+12))).1 (three (da b (p+1+4) (p+1+4+12))).2.1) (three (da b (p+1+4) (p+1+4+12))).2.2≤0 then none else some (three (da b (p+1+4) (p+1+4+12)),p+1+4+12)).bind (VM b (p+1) v))=none:=
   hW.no (p:=False) (.cV (R:=fun z=>z.1≠v.units) (.ite (fun _=>.none) fun _=>.some h2) fun _ k=>.ite (fun _=>.none) fun q=>absurd k q) id
  rw[this]
  refine(mi hp ho).elim (fun e=>bN e rfl) ?_
  rintro⟨r,e⟩
  exact bS e ((hl r).trans (iF h1 (if_pos h2)))
 have h2':=jk.mp h2
 rw[if_neg (h2'▸h0)]
 have e2:VM b (p+1) v (three (da b (p+1+4) (p+1+4+12)),p+1+4+12)=WW b (p+1) v (jH (da b (p+1+16) (p+1+20))) (jH (da b (p+1+20) (p+1+24))) (be (da b (p+1+24) (p+1+26)),p+1+26):=
  iF h2 (bS (nV (show p+1+4+12+4≤b.length from f9 8 he rfl) (by decide)) (bS (nV (show p+1+4+12+4+4≤b.length from f9 4 he rfl) (by decide)) (bS (oW (show p+1+4+12+4+4+2≤b.length from f9 2 he rfl)) rfl)))
 show _=(VM b (p+1) v _).map _
 rw[e2]
 unfold WW
 by_cases h3:(be (da b (p+1+24) (p+1+26)):Int)<v.iy
 ·rw[if_pos h3]
  refine(mi hp ho).elim (fun e=>bN e rfl) ?_
  rintro⟨r,e⟩
  refine bS e ((hl r).trans (iF h1 (iF h2 ?_)))
  by_cases k:oa p v.cL r []=false
  ·exact if_pos k
  ·exact iF k (if_pos h3)
 have e3:(gw b (p+1+26) 2).bind (Vk b (p+1) v (jH (da b (p+1+16) (p+1+20))) (jH (da b (p+1+20) (p+1+24))))=Vk b (p+1) v (jH (da b (p+1+16) (p+1+20))) (jH (da b (p+1+20) (p+1+24))) (be (da b (p+1+26) (p+1+28)),p+1+28):=bS (oW he) rfl
 refine oA ?_ (congrArg (kh g7.out) (iF h3 e3)).symm
 unfold Vk
 rw[vU hpg]
 by_cases h4:be (da b (p+1+26) (p+1+28))≠v.cb.length
 ·refine oA ?_ (congrArg (kh g7.out) (if_pos h4)).symm
  refine(mi hp ho).elim (fun e=>bN e rfl) ?_
  rintro⟨r,e⟩
  refine bS e ((hl r).trans (iF h1 (iF h2 ?_)))
  by_cases k:oa p v.cL r []=false
  ·exact if_pos k
  ·exact iF k (iF h3 (if_pos h4))
 refine oA ?_ (congrArg (kh g7.out) (if_neg h4)).symm
 have key:=xx (b:=b) (q:=p+1+28) (place:=p) hk
 have e5:(((jd b (p+1+28) v.cL).bind (VA b (p+1) v (jH (da b (p+1+16) (p+1+20))) (jH (da b (p+1+20) (p+1+24))))).map g7.out)=cond (rH b p (p+1+28) v.cL []) (some ⟨v.units,v.comment,v.cb,jH (da b (p+1+16) (p+1+20)),jH (da b (p+1+20) (p+1+24)),v.iy,v.cL⟩) none:=by
  rw[key]
  cases jd b (p+1+28) v.cL with
  |none=>rfl
  |some a=>
   show(VA b (p+1) v _ _ a).map _=cond (oE b p a) _ _
   rw[Gr]
   cases oE b p a<;>rfl
 refine oA ?_ e5.symm
 unfold rH
 rw[mj hp ho (by decide) (pa hc he),hc]
 cases cut b (p+1+28) with
 |none=>rfl
 |some r=>
  have e:fK.mk 248 p (da b (p+1) (p+1+28))=cu b 248 p:=congrArg (fun e=>fK.mk 248 p (da b (p+1) e)) hc.symm
  show Q2 _ _ (_,fK.mk 248 p (da b (p+1) (p+1+28))::r)=cond (oa p v.cL r []) _ _
  rw[e]
  refine(hl r).trans (iF h1 (iF h2 ?_))
  cases oa p v.cL r [] with
  |false=>rfl
  |true=>exact iF Bool.noConfusion (iF h3 (if_neg h4))
theorem CL (b:List UInt8) (hb:b.length≤100000):rI b=(iD b).map g7.out:=by
 show(cut b 0).bind Vp=((gw b 0 1).bind _).map _
 by_cases hp:0<b.length
 rotate_left
 ·exact(bN (uh (aR hp)) rfl).trans (mN (bN (jA (zO hp)) rfl) rfl).symm
 rw[jW hp]
 generalize ho:(b.getD 0 0).toNat=op
 have no:(∀r,Oc (cu b op 0) r=none)→(cut b 0).bind Vp=none:=fun h=>(mi hp ho).elim (fun e=>bN e rfl) (by rintro⟨r,e⟩;exact bS e (h r))
 show _=(Ww b (op,0+1)).map _
 by_cases h7:op≠247
 ·exact(no fun r=>if_pos (.inl h7)).trans (mN (if_pos h7) rfl).symm
 have h7:op=247:=jk.mp h7
 subst h7
 have kP:aO b 247 0=15+Ac (da b 14 15):=iF (by decide) (iF (by decide) (iF (by decide) (if_pos rfl)))
 have e1:Ww b (247,0+1)=(gw b 1 1).bind (VJ b):=if_neg fun h=>h rfl
 rw[e1]
 by_cases Q0:15≤b.length
 rotate_left
 ·refine(bN (nu hp ho (aV (bq Q0) (kP▸bC _ _))) rfl).trans (mN ?_ rfl).symm
  exact hW.no (p:=15≤b.length) (.cV DG fun _ h1=>.ite (fun _=>.none) fun _=>.cV (R:=fun z=>∃x,x≤b.length∧z.2=x∧x=_+12) (.cV Jw fun _ h1=>.cV Jw fun _ h2=>.cV Jw fun _ h3=>.ite (fun _=>.none) fun _=>.some ⟨_,h3.2,rfl,by rw[h3.1,h2.1,h1.1]⟩) fun _ h2=>
   .cV DG fun _ h3=>fun _ _=>by refine aL h2 fun x _ e h=>?_;clear h2;have:=h3.2;rw[h3.1,e,h,h1.1] at this;exact this) Q0
 have hm:Ac (da b 14 15)=(b.getD 14 0).toNat:=by rw[ud (b:=b) (x:=14) Q0];exact Nat.add_zero _
 rw[hm] at kP
 generalize Ve:(b.getD 14 0).toNat=hH at *
 have a0:(cu b 247 0).args.getD 0 0=b.getD 1 0:=yB (kP▸aV (by decide) (bC 15 hH))
 have a2:(cu b 247 0).args.drop 14=da b 15 (15+hH):=(jo).trans (by rw[kP])
 have a1:three ((cu b 247 0).args.drop 1)=three (da b 2 14):=by
  have h:∀j,j≤12→2+j≤aO b 247 0:=fun j h=>kP▸az (gI h 2) (az (by decide) (bC 15 hH))
  show three ((da b 1 (aO b 247 0)).drop 1)=_
  unfold three
  rw[jo,d9 (h 4 (by decide)),d9 (h 8 (by decide)),d9 (h 12 (by decide)),d9 (show 2+4≤14 by decide),d9 (show 2+8≤14 by decide),d9 (show 2+12≤14 by decide)]
 rw[jW (show 1<b.length from f9 13 Q0 rfl)]
 have l1:∀r,Oc (cu b 247 0) r=if (b.getD 1 0).toNat≠2 then none else Vz (three (da b 2 14)) (da b 15 (15+hH)) r:=fun r=>by
  unfold Oc
  rw[a0,a1,a2,xU]
  exact if_neg fun h=>h rfl
 show _=(VJ b ((b.getD 1 0).toNat,1+1)).map _
 by_cases h2:(b.getD 1 0).toNat≠2
 ·exact(no fun r=>(l1 r).trans (if_pos h2)).trans (mN (if_pos h2) rfl).symm
 have l2:∀r,Oc (cu b 247 0) r=Vz (three (da b 2 14)) (da b 15 (15+hH)) r:=fun r=>(l1 r).trans (if_neg h2)
 have e2:VJ b ((b.getD 1 0).toNat,1+1)=(VY (three (da b 2 14)) 14).bind (G5 b):=iF h2 (congrArg (Option.bind · (G5 b)) (zp (a:=2) (f9 1 Q0 rfl)))
 rw[e2]
 generalize three (da b 2 14)=sc at *
 unfold VY
 by_cases h3:min (min sc.1 sc.2.1) sc.2.2≤0
 ·rw[if_pos h3]
  exact no fun r=>(l2 r).trans (if_pos h3)
 rw[if_neg h3]
 have e3:G5 b (sc,14)=(wq b 15 hH).bind (fi4 b sc):=bS (jW (show 14<b.length from Q0)) (by rw[Ve];rfl)
 show _=(G5 b (sc,14)).map _
 rw[e3]
 by_cases he:15+hH≤b.length
 rotate_left
 ·exact(bN (nu hp ho (kP▸bq he)) rfl).trans (mN (bN (BR (bq he)) rfl) rfl).symm
 rw[GZ he,mj hp ho (by decide) (pa kP he),kP]
 generalize hE:15+hH=e at *
 have key:=D9 b _ (n:=b.length-(e+1)) (p:=e) (last:=-1) (v:=⟨sc,da b 15 e,[],[],0,0,0⟩) (aA _) (aA _)
 have L1:((cut b e).map (fK.mk 247 0 (da b (0+1) e)::·)).bind Vp=(rG b e (g7.l ⟨sc,da b 15 e,[],[],0,0,0⟩ (-1))).bind (Q2 sc (da b 15 e)):=by
  unfold rG
  cases hc:cut b e with
  |none=>rfl
  |some cs=>
   have e':fK.mk 247 0 (da b (0+1) e)=cu b 247 0:=congrArg (fun e=>fK.mk 247 0 (da b (0+1) e)) kP.symm
   show Oc (fK.mk 247 0 (da b (0+1) e)) cs=(mL cs.length cs _).bind _
   rw[e']
   exact(l2 cs).trans (if_neg h3)
 refine L1.trans ?_
 rw[key]
 show _=((gw b e 1).bind (fi5 b sc (da b 15 e))).map _
 by_cases hx:e<b.length
 rotate_left
 ·rw[jA (zO hx)];rfl
 rw[jW hx]
 show((fQ b (b.length-(e+1)) _ _ _ _).bind _).bind _=((fQ b (b.length-(e+1)) _ _ _ _).bind _).map _
 cases WS:fQ b (b.length-(e+1)) (b.getD e 0).toNat (e+1) (-1) ⟨sc,da b 15 e,[],[],0,0,0⟩ with
 |none=>rfl
 |some q=>
  obtain⟨s7,v',a'⟩:=q
  refine aL (atO ⟨e,rfl,hx,rfl⟩ _ WS) fun p ha Ye hp8=>?_
  have ha:a'=p+1:=ha
  subst ha
  have hs:=RQ hx (cR _) _ WS
  have Jn:=MF _ WS eZ.nil
  refine oA ?_ (post_eq (b:=b) (p:=p) (sc:=sc) (cm:=da b 15 e) (last:=s7) (v:=v') Ye hp8 hs.1 hs.2.1 h3 Jn (aW [_,_] [] [.L aB rZ,.L (.m 40 aM) aB] (.T aM (.l 65536)) (.k [40,1,1]) rfl hb hs.2.2))
  show((cut b p).map _).bind _=_
  cases cut b p<;>rfl
end
end
section
open PySem PySem.W PySem.Calls PyProof.Rows
inductive ag where
 |list (vs:List AV)
 |dict (kvs:List (Int×AV))
 |eU (kvs:List (Int×AV)) (ep:Nat)
 |inst (C:aD) (fs:List (bu×AV))
structure Cx where
 prog:mZ
 w:iN
 hb:cf
 K:gg
 pv:mZ
 loose:List bu
 mg:bu→Option ai
 mb:bu→Option ai
 bd:aD
 sd:Array p8×m6
structure Cx.Ok (c:Cx):Prop where
 X:c.K.In c.hb
 T:TopRead c.pv c.loose c.mg c.mb c.hb
noncomputable abbrev Cx.M (c:Cx):Fp:=ki c.prog c.w
noncomputable abbrev Am:=List (aD×aD)
noncomputable abbrev Sd:=Array p8×m6
noncomputable abbrev gL (s:aH):Sd:=(s.gens,s.os)
mutual
noncomputable def bM (c:Cx) (h:cf) (α:Am):AV→ai→Prop
 |.none,v=>v=.none
 |.bool b,v=>v=.bool b
 |.int i,v=>∃t,v=.int i t
 |.str s,v=>∃t,v=.str s t
 |.eg b,v=>∃t,v=.bytes b.toArray t
 |.fix x,v=>v=x
 |.tup vs,v=>∃a items,v=.ref a∧dq h a items∧bl c h α vs items.toList
 |.obj n,v=>∃p,α[n]?=some p∧v=.ref p.1
 |.iX kvs,v=>∃a kv,v=.ref a∧(a==gh)=false∧c.hb.DictOf (ia c.prog c.w) a kv∧de c h α kvs kv
noncomputable def bl (c:Cx) (h:cf) (α:Am):List AV→List ai→Prop
 |[],l=>l=[]
 |x::xs,l=>∃v r,l=v::r∧bM c h α x v∧bl c h α xs r
noncomputable def de (c:Cx) (h:cf) (α:Am):List (Int×AV)→List (Int×ai)→Prop
 |[],l=>l=[]
 |(k,x)::xs,l=>∃v r,l=(k,v)::r∧bM c h α x v∧de c h α xs r
end
noncomputable def eN (c:Cx) (h:cf) (α:Am):List (bu×AV)→List eo→Prop
 |[],l=>l=[]
 |(k,x)::xs,l=>∃e r t,l=e::r∧e.key=.str k t∧bM c h α x e.val∧eN c h α xs r
mutual
noncomputable def mD (f:Nat→Nat):AV→AV
 |.obj n=>.obj (f n)
 |.tup vs=>.tup (j6 f vs)
 |.iX kvs=>.iX (nW f kvs)
 |a=>a
noncomputable def j6 (f:Nat→Nat):List AV→List AV
 |[]=>[]
 |x::xs=>mD f x::j6 f xs
noncomputable def nW (f:Nat→Nat):List (Int×AV)→List (Int×AV)
 |[]=>[]
 |(k,x)::xs=>(k,mD f x)::nW f xs
end
noncomputable def wz (f:Nat→Nat):List (bu×AV)→List (bu×AV)
 |[]=>[]
 |(k,x)::xs=>(k,mD f x)::wz f xs
inductive iU (α:Am) (b:aD):Prop
 |mk (n:Nat) (p:aD×aD) (e:α[n]?=some p) (q:b=p.1∨b=p.2)
inductive TZ (c:Cx) (h:cf) (α:Am) (p:aD×aD) (vs:List AV):Prop
 |mk (items:Array ai) (n:Nat) (ho:h.get? p.1=some ⟨.type "list",none,.seq items n,#[]⟩) (rs:bl c h α vs items.toList) (q:p.2=p.1)
inductive RB (c:Cx) (h:cf) (α:Am) (p:aD×aD) (kvs:List (Int×AV)):Prop
 |mk (kv:List (Int×ai)) (ho:h.DictOf (ia c.prog c.w) p.1 kv) (rs:de c h α kvs kv) (q:p.2=p.1∧(p.1==gh)=false)
inductive Ox (c:Cx) (h:cf) (α:Am) (p:aD×aD) (kvs:List (Int×AV)) (ep:Nat):Prop
 |mk (kv:List (Int×ai)) (ho:h.DictAt (ia c.prog c.w) p.1 kv ep) (rs:de c h α kvs kv) (q:p.2=p.1∧(p.1==gh)=false)
inductive T4 (c:Cx) (h:cf) (α:Am) (p:aD×aD) (C:aD) (fs:List (bu×AV)):Prop
 |mk (es:List eo) (n:Nat) (sl:Array (Option ai)) (h1:h.get? p.1=some ⟨.ref C,some p.2,.plain,sl⟩) (h2:h.get? p.2=some (dictOf es n)) (rs:eN c h α fs es)
noncomputable def lA (c:Cx) (h:cf) (α:Am) (p:aD×aD):ag→Prop
 |.list vs=>TZ c h α p vs
 |.dict kvs=>RB c h α p kvs
 |.eU kvs ep=>Ox c h α p kvs ep
 |.inst C fs=>T4 c h α p C fs
structure gu (c:Cx) (h:cf) (α:Am) (H:List ag):Prop where
 len:α.length=H.length
 cell:∀{n:Nat}{x:ag}{p:aD×aD},H[n]?=some x→α[n]?=some p→lA c h α p x
 apart:∀{i j:Nat}{p q:aD×aD},α[i]?=some p→α[j]?=some q→i≠j→p.1≠q.1∧p.1≠q.2∧p.2≠q.1∧p.2≠q.2
 base:∀b o,c.hb.get? b=some o→h.get? b=some o
 new:∀b,iU α b→c.hb.get? b=none
inductive Zm (fr:Option (List dI)) (b:aD):Prop
 |mk (l:List dI) (env:dI) (e:fr=some l) (m:env∈l) (f:env.frame=some b)
noncomputable def AI (A:aU) (b:aD):Prop:=Zm A.frames b
structure bO (A:aU) (own:aD→Prop) (α:Am) (h:cf) (bD:Am) (h':cf):Prop where
 pre:∀{n:Nat}{p:aD×aD},α[n]?=some p→bD[n]?=some p
 fresh:∀{b},iU bD b→iU α b∨h.get? b=none
 alive:∀{b o},h.get? b=some o→∃o',h'.get? b=some o'
 keep:∀{b o},h.get? b=some o→¬iU α b→¬own b→¬AI A b→h'.get? b=some o
 slot:∀{b o},h.get? b=some o→¬iU α b→¬own b→∃sl,h'.get? b=some { o with slots:=sl }
theorem bO.refl (A:aU) (own:aD→Prop) (α:Am) (h:cf):bO A own α h α h:=
 ⟨id,.inl,fun e=>⟨_,e⟩,fun e _ _ _=>e,fun{_ o} e _ _=>⟨o.slots,e⟩⟩
theorem bO.trans {A:aU}{own:aD→Prop}{α bD jh:Am}{h h' pG:cf}(x:bO A own α h bD h') (y:bO A own bD h' jh pG):bO A own α h jh pG:=by
 have na:∀{b o},h.get? b=some o→¬iU α b→¬iU bD b:=fun{b o} e n q=>by
  rcases x.fresh q with q | q
  ·exact n q
  ·rw[q] at e;exact nS e
 refine⟨fun e=>y.pre (x.pre e),fun{b} q=>?_,fun e=>?_,fun e n1 n2 n3=>y.keep (x.keep e n1 n2 n3) (na e n1) n2 n3,fun e n1 n2=>?_⟩
 ·rcases y.fresh q with q | q
  ·exact x.fresh q
  ·right
   cases e:h.get? b with
   |none=>rfl
   |some o=>refine al (x.alive e) fun o' e'=>?_;rw[q] at e';exact nS e'
 ·refine al (x.alive e) fun _ e'=>?_;exact y.alive e'
 ·refine al (x.slot e n1 n2) fun sl e'=>?_
  refine al (y.slot e' (na e n1) n2) fun M3 Xm=>?_
  exact⟨M3,Xm⟩
theorem gu.at {c:Cx}{h:cf}{α:Am}{H:List ag}(O:gu c h α H){b:aD}(a:iU α b):∃o,h.get? b=some o∧∀items n,o.data=.seq items n→o.cls=.type "list":=by
 obtain⟨n,p,e,q⟩:=a
 have hn:n<H.length:=by
  rw[←O.len];exact(ao.mp e).1
 have e2:=aw hn
 have cr:=O.cell e2 e
 cases hc:H[n] with
 |list vs=>
  rw[hc] at cr
  obtain⟨items,n,ho,_,h3⟩:=cr
  have:b=p.1:=by rcases q with q | q;exact q;rw[q,h3]
  exact⟨_,this▸ho,fun _ _ _=>rfl⟩
 |dict kvs=>
  rw[hc] at cr
  obtain⟨kv,⟨o,es,ep,ho,_,hd,_⟩,_,h3,_⟩:=cr
  have:b=p.1:=by rcases q with q | q;exact q;rw[q,h3]
  exact⟨o,this▸ho,fun _ _ e=>by rw[hd] at e;cases e⟩
 |eU kvs ep=>
  rw[hc] at cr
  obtain⟨kv,⟨o,es,ho,_,hd,_⟩,_,h3,_⟩:=cr
  have:b=p.1:=by rcases q with q | q;exact q;rw[q,h3]
  exact⟨o,this▸ho,fun _ _ e=>by rw[hd] at e;cases e⟩
 |inst C fs=>
  rw[hc] at cr
  obtain⟨es,n,sl,h1,h2,_⟩:=cr
  rcases q with q | q
  ·exact⟨_,q▸h1,fun _ _ e=>by cases e⟩
  ·exact⟨_,q▸h2,fun _ _ e=>by cases e⟩
theorem gu.MS {c:Cx}{h:cf}{α:Am}{H:List ag}(O:gu c h α H){b:aD}{items:Array ai}(t:dq h b items):¬iU α b:=fun a=>by
 refine aq (O.at a) fun o ho hs=>?_
 refine fU t fun o' jQ hc n hd=>?_
 clear t
 rw[ho] at jQ;replace jQ:=ae jQ;subst jQ
 have:=hs _ _ hd
 rw[hc] at this
 exact absurd (ai.type.inj this) (by decide)
noncomputable def eM (h:cf) (own:aD→Prop):Prop:=∀b,own b→∃o,h.get? b=some o∧(∀xs n,o.data≠.seq xs n)∧∀vs,o.data≠.fields vs
section
variable {c:Cx}{A:aU}{own:aD→Prop}{α bD:Am}{h h':cf}{H:List ag}
theorem bO.tup (x:bO A own α h bD h') (O:gu c h α H) (S:eM h own){a:aD}{items:Array ai}(t:dq h a items):dq h' a items:=by
 have n1:=O.MS t
 refine fU t fun o ho hc n hd=>?_
 clear t
 have n2:¬own a:=fun q=>by
  refine aL (S a q) fun o' jQ hs _=>?_
  rw[ho] at jQ;replace jQ:=ae jQ;subst jQ
  exact hs _ _ hd
 refine al (x.slot ho n1 n2) fun sl e=>?_
 exact⟨_,e,hc,n,hd⟩
section carry
variable {f g:Nat→Nat}{T:AV→Prop}
structure Mv (c:Cx) (h h':cf) (α bD:Am) (f g:Nat→Nat) (T:AV→Prop):Prop where
 t:∀{vs:List AV},T (.tup vs)→∀x∈vs,T x
 d:∀{kvs:List (Int×AV)},T (.iX kvs)→∀p∈kvs,T p.2
 b:∀{n:Nat}{p:aD×aD},T (.obj n)→α[f n]?=some p→bD[g n]?=some p
 i:∀{a:aD}{items:Array ai},dq h a items→dq h' a items
theorem AV.ind {P:AV→Prop}(h0:P .none) (h1:∀b,P (.bool b)) (h2:∀i,P (.int i)) (h3:∀s,P (.str s)) (h4:∀b,P (.eg b)) (h5:∀v,P (.fix v)) (h6:∀n,P (.obj n)) (ht:∀vs,(∀x∈vs,P x)→P (.tup vs)) (hd:∀kvs:List (Int×AV),(∀p∈kvs,P p.2)→P (.iX kvs)) (a:AV):P a:=
 AV.rec (motive_1:=P) (motive_2:=fun l=>∀x∈l,P x) (motive_3:=fun l=>∀p∈l,P p.2) (motive_4:=fun p=>P p.2) h0 h1 h2 h3 h4 h5 ht h6 hd (fun _ h=>nomatch h) (fun _ _ p q=>gj.mpr ⟨p,q⟩) (fun _ h=>nomatch h) (fun _ _ p q=>gj.mpr ⟨p,q⟩) (fun _ _ p=>p) a
theorem bl.mo {xs:List AV}:∀{vs:List ai},(∀x∈xs,∀{v},bM c h α (mD f x) v→bM c h' bD (mD g x) v)→bl c h α (j6 f xs) vs→bl c h' bD (j6 g xs) vs:=by
 induction xs with
 |nil=>exact fun _ r=>r
 |cons x xs ih=>exact fun k r=>aN r fun v l e r1 r2=>⟨v,l,e,k x aI r1,ih (fun y hy=>k y (aG _ hy)) r2⟩
theorem de.mo {xs:List (Int×AV)}:∀{vs:List (Int×ai)},(∀x∈xs,∀{v},bM c h α (mD f x.2) v→bM c h' bD (mD g x.2) v)→de c h α (nW f xs) vs→de c h' bD (nW g xs) vs:=by
 induction xs with
 |nil=>exact fun _ r=>r
 |cons x xs ih=>exact fun k r=>aN r fun v l e r1 r2=>⟨v,l,e,k x aI r1,ih (fun y hy=>k y (aG _ hy)) r2⟩
theorem eN.mo {xs:List (bu×AV)}:∀{vs:List eo},(∀x∈xs,∀{v},bM c h α (mD f x.2) v→bM c h' bD (mD g x.2) v)→eN c h α (wz f xs) vs→eN c h' bD (wz g xs) vs:=by
 induction xs with
 |nil=>exact fun _ r=>r
 |cons x xs ih=>exact fun k r=>cy r fun v l t e q r1 r2=>⟨v,l,t,e,q,k x aI r1,ih (fun y hy=>k y (aG _ hy)) r2⟩
theorem Mv.V (M:Mv c h h' α bD f g T) (a:AV):T a→∀{v:ai},bM c h α (mD f a) v→bM c h' bD (mD g a) v:=
 AV.ind (P:=fun a=>T a→∀{v:ai},bM c h α (mD f a) v→bM c h' bD (mD g a) v) (fun _ _ r=>r) (fun _ _ _ r=>r) (fun _ _ _ r=>r) (fun _ _ _ r=>r) (fun _ _ _ r=>r) (fun _ _ _ r=>r)
  (fun n t _ r=>aq r fun p e q=>⟨p,M.b t e,q⟩)
  (fun vs ih t _ r=>aN r fun a items e y r=>⟨a,items,e,M.i y,bl.mo (fun x hx=>ih x hx (M.t t x hx)) r⟩)
  (fun kvs ih t _ r=>b9 r fun a kv e q d r=>⟨a,kv,e,q,d,de.mo (fun x hx=>ih x hx (M.d t x hx)) r⟩) a
theorem uP {xs:List AV}(h:∀x∈xs,mD f x=x):j6 f xs=xs:=by
 induction xs with
 |nil=>rfl
 |cons x xs ih=>exact(congrArg (·::j6 f xs) (h x aI)).trans (congrArg (x::·) (ih fun y hy=>h y (aG _ hy)))
theorem ux {xs:List (Int×AV)}(h:∀x∈xs,mD f x.2=x.2):nW f xs=xs:=by
 induction xs with
 |nil=>rfl
 |cons x xs ih=>exact(congrArg (fun y=>(x.1,y)::nW f xs) (h x aI)).trans (congrArg (x::·) (ih fun y hy=>h y (aG _ hy)))
theorem zw {xs:List (bu×AV)}(h:∀x∈xs,mD f x.2=x.2):wz f xs=xs:=by
 induction xs with
 |nil=>rfl
 |cons x xs ih=>exact(congrArg (fun y=>(x.1,y)::wz f xs) (h x aI)).trans (congrArg (x::·) (ih fun y hy=>h y (aG _ hy)))
theorem Dn (t:∀{vs:List AV},T (.tup vs)→∀x∈vs,T x) (d:∀{kvs:List (Int×AV)},T (.iX kvs)→∀p∈kvs,T p.2) (b:∀{n:Nat},T (.obj n)→f n=n) (a:AV):T a→mD f a=a:=
 AV.ind (P:=fun a=>T a→mD f a=a) (fun _=>rfl) (fun _ _=>rfl) (fun _ _=>rfl) (fun _ _=>rfl) (fun _ _=>rfl) (fun _ _=>rfl) (fun _ h=>congrArg AV.obj (b h))
  (fun _ ih h=>congrArg AV.tup (uP fun x hx=>ih x hx (t h x hx))) (fun _ ih h=>congrArg AV.iX (ux fun x hx=>ih x hx (d h x hx))) a
theorem mU {a:AV}:mD id a=a:=Dn (T:=fun _=>True) (fun _ _ _=>trivial) (fun _ _ _=>trivial) (fun _=>rfl) a trivial
theorem pK {a:List AV}:j6 id a=a:=uP fun _ _=>mU
theorem sk {a:List (Int×AV)}:nW id a=a:=ux fun _ _=>mU
theorem sf {a:List (bu×AV)}:wz id a=a:=zw fun _ _=>mU
section
variable (pre:∀{n:Nat}{p:aD×aD},α[n]?=some p→bD[n]?=some p) (ht:∀{a:aD}{items:Array ai},dq h a items→dq h' a items)
include pre ht
theorem VL:Mv c h h' α bD id id fun _=>True:=⟨fun _ _ _=>trivial,fun _ _ _=>trivial,fun _=>pre,ht⟩
theorem bM.carry {a:AV}{v:ai}(r:bM c h α a v):bM c h' bD a v:=by
 have:=(VL (c:=c) pre ht).V a trivial (v:=v);rw[mU] at this;exact this r
theorem bl.carry {a:List AV}{v:List ai}(r:bl c h α a v):bl c h' bD a v:=by
 have:=bl.mo (vs:=v) fun x (_:x∈a)=>(VL (c:=c) pre ht).V x trivial;rw[pK] at this;exact this r
theorem de.carry {a:List (Int×AV)}{v:List (Int×ai)}(r:de c h α a v):de c h' bD a v:=by
 have:=de.mo (vs:=v) fun x (_:x∈a)=>(VL (c:=c) pre ht).V x.2 trivial;rw[sk] at this;exact this r
theorem eN.carry {a:List (bu×AV)}{v:List eo}(r:eN c h α a v):eN c h' bD a v:=by
 have:=eN.mo (vs:=v) fun x (_:x∈a)=>(VL (c:=c) pre ht).V x.2 trivial;rw[sf] at this;exact this r
end
end carry
theorem lA.qm {p:aD×aD}{x:ag}(pre:∀{n:Nat}{q:aD×aD},α[n]?=some q→bD[n]?=some q) (ht:∀{a:aD}{items:Array ai},dq h a items→dq h' a items)
  (hk:∀b o,b=p.1∨b=p.2→h.get? b=some o→h'.get? b=some o) (r:lA c h α p x):lA c h' bD p x:=by
 cases x with
 |list vs=>obtain⟨items,n,ho,rs,q⟩:=r;exact⟨items,n,hk _ _ (.inl rfl) ho,rs.carry pre ht,q⟩
 |dict kvs=>obtain⟨kv,⟨o,es,ep,ho,rr⟩,rs,q⟩:=r;exact⟨kv,⟨o,es,ep,hk _ _ (.inl rfl) ho,rr⟩,rs.carry pre ht,q⟩
 |eU kvs ep=>obtain⟨kv,⟨o,es,ho,rr⟩,rs,q⟩:=r;exact⟨kv,⟨o,es,hk _ _ (.inl rfl) ho,rr⟩,rs.carry pre ht,q⟩
 |inst C fs=>obtain⟨es,n,sl,h1,h2,rs⟩:=r;exact⟨es,n,sl,hk _ _ (.inl rfl) h1,hk _ _ (.inr rfl) h2,rs.carry pre ht⟩
theorem gu.qm (O:gu c h α H) (ht:∀{a:aD}{items:Array ai},dq h a items→dq h' a items) (hk:∀b o,iU α b→h.get? b=some o→h'.get? b=some o) (hb:∀b o,c.hb.get? b=some o→h'.get? b=some o):gu c h' α H:=
 ⟨O.len,fun{n _ p} e e'=>(O.cell e e').qm id ht fun b o q=>hk b o ⟨n,p,e',q⟩,O.apart,hb,O.new⟩
theorem gu.keeps (O:gu c h α H) (hk:∀b o,h.get? b=some o→h'.get? b=some o):gu c h' α H:=O.qm (fun t=>t.keeps hk) (fun b o _=>hk b o) fun b o e=>hk b o (O.base b o e)
theorem bM.mono (x:bO A own α h bD h') (O:gu c h α H) (S:eM h own){a:AV}{v:ai}(r:bM c h α a v):bM c h' bD a v:=r.carry x.pre (x.tup O S)
theorem bl.mono (x:bO A own α h bD h') (O:gu c h α H) (S:eM h own){a:List AV}{v:List ai}(r:bl c h α a v):bl c h' bD a v:=r.carry x.pre (x.tup O S)
theorem de.mono (x:bO A own α h bD h') (O:gu c h α H) (S:eM h own){a:List (Int×AV)}{v:List (Int×ai)}(r:de c h α a v):de c h' bD a v:=r.carry x.pre (x.tup O S)
end
structure dD (m:Nat) (A:aU) (own:aD→Prop) (α:Am) (h:cf) (bD:Am) (h':cf):Prop where
 pre:∀{n:Nat}{p:aD×aD},n<m→α[n]?=some p→bD[n]?=some p
 fresh:∀{b},iU bD b→iU α b∨h.get? b=none
 alive:∀{b o},h.get? b=some o→∃o',h'.get? b=some o'
 keep:∀{b o},h.get? b=some o→¬iU α b→¬own b→¬AI A b→h'.get? b=some o
 slot:∀{b o},h.get? b=some o→¬iU α b→¬own b→∃sl,h'.get? b=some { o with slots:=sl }
section
variable {c:Cx}{m k:Nat}{A:aU}{α bD jh ct:Am}{h h' pG h₀:cf}{H H':List ag}{own own':aD→Prop}
theorem bO.toM (x:bO A own α h bD h'):dD m A own α h bD h':=⟨fun _=>x.pre,x.fresh,x.alive,x.keep,x.slot⟩
theorem dD.refl:dD m A own α h α h:=(bO.refl A own α h).toM
theorem dD.na (x:dD m A own α h bD h'){b:aD}{o:ow}(e:h.get? b=some o) (n:¬iU α b):¬iU bD b:=fun q=>by
 rcases x.fresh q with q | q
 ·exact n q
 ·rw[q] at e;exact nS e
theorem dD.trans (x:dD m A own α h bD h') (y:dD m A own bD h' jh pG):dD m A own α h jh pG:=by
 refine⟨fun hn e=>y.pre hn (x.pre hn e),fun{b} q=>?_,fun e=>?_,fun e n1 n2 n3=>y.keep (x.keep e n1 n2 n3) (x.na e n1) n2 n3,fun e n1 n2=>?_⟩
 ·rcases y.fresh q with q | q
  ·exact x.fresh q
  ·right
   cases e:h.get? b with
   |none=>rfl
   |some o=>refine al (x.alive e) fun o' e'=>?_;rw[q] at e';exact nS e'
 ·refine al (x.alive e) fun _ e'=>?_;exact y.alive e'
 ·refine al (x.slot e n1 n2) fun sl e'=>?_
  refine al (y.slot e' (x.na e n1) n2) fun M3 Xm=>?_
  exact⟨M3,Xm⟩
theorem dD.le (x:dD k A own α h bD h') (hm:m≤k):dD m A own α h bD h':=⟨fun hn=>x.pre (aV hn hm),x.fresh,x.alive,x.keep,x.slot⟩
theorem dD.full (x:dD m A own α h bD h') (hm:α.length≤m):bO A own α h bD h':=⟨fun e=>x.pre (aV (ao.mp e).1 hm) e,x.fresh,x.alive,x.keep,x.slot⟩
theorem dD.nT (x:dD m A own α h bD h') (hw:∀b,own b→own' b):dD m A own' α h bD h':=
 ⟨x.pre,x.fresh,x.alive,fun e n1 n2 n3=>x.keep e n1 (fun q=>n2 (hw _ q)) n3,fun e n1 n2=>x.slot e n1 fun q=>n2 (hw _ q)⟩
theorem dD.drop (x:dD m A own' α h bD h') (hw:∀b o,own' b→¬own b→h.get? b=some o→False):dD m A own α h bD h':=
 ⟨x.pre,x.fresh,x.alive,fun{b o} e n1 n2 n3=>x.keep e n1 (fun q=>hw b o q n2 e) n3,fun{b o} e n1 n2=>x.slot e n1 fun q=>hw b o q n2 e⟩
theorem dD.gone (x:dD m A own α h bD h'){b:aD}(e:h'.get? b=none):h.get? b=none:=by
 cases q:h.get? b with
 |none=>rfl
 |some o=>refine al (x.alive q) fun o' e'=>?_;rw[e] at e';exact nS e'
theorem dD.tup (x:dD m A own α h bD h') (O:gu c h α H) (S:eM h own){a:aD}{items:Array ai}(t:dq h a items):dq h' a items:=by
 have n1:=O.MS t
 refine fU t fun o ho hc n hd=>?_
 clear t
 have n2:¬own a:=fun q=>by
  refine aL (S a q) fun o' jQ hs _=>?_
  rw[ho] at jQ;replace jQ:=ae jQ;subst jQ
  exact hs _ _ hd
 refine al (x.slot ho n1 n2) fun sl e=>?_
 exact⟨_,e,hc,n,hd⟩
end
end
section
open PySem PySem.W PySem.Calls PyProof.Rows
noncomputable def xR (k:bc):Prop:=k=.cell∨k=.free
noncomputable def cz (env:dI) (b:aD):Prop:=b=env.locals∨env.frame=some env.locals∧∃(i:Nat) (x:bu) (k:bc),env.scope.names[i]?=some (x,k)∧xR k∧env.cells.lookup x=some b
structure GU (env:dI):Prop where
 kind:env.scope.kind=.function
 glob:env.globals=et
 bi:env.builtins=QC
 nodup:(env.scope.names.map (·.1)).Nodup
 apart:∀{x y:bu}{b:aD},env.cells.lookup x=some b→env.cells.lookup y=some b→x=y
 B4:∀{x:bu}{b:aD},env.cells.lookup x=some b→b≠env.locals
 frame:∃F,env.frame=some F
noncomputable abbrev Loc:=List (Option AV)
structure pk (c:Cx) (env:dI) (h:cf) (α:Am) (l:Loc):Prop where
 ns:∃m,h.Ns env.locals m∧∀{i:Nat}{x:bu}{v:AV},env.scope.names[i]?=some (x,.local)→l[i]?=some (some v)→∃val,m x=some val∧bM c h α v val
 cl:∀{i:Nat}{x:bu}{k:bc},env.scope.names[i]?=some (x,k)→xR k→∃b ov,env.cells.lookup x=some b∧h.IsCell b ov∧¬iU α b∧c.hb.get? b=none ∧
  ∀{v:AV},l[i]?=some (some v)→∃val,ov=some val∧bM c h α v val
 no:¬iU α env.locals
 new:c.hb.get? env.locals=none
structure dQ (c:Cx) (A:aU) (g:Sd) (h:cf) (α:Am):Prop where
 fr:∃l,A.frames=some l∧h.FunFrames c.hb l∧∀env∈l,∀b,env.frame=some b→¬iU α b
 la:g=c.sd
structure vC (d:Nat) (A:aU):Prop where
 depth:A.depth+4*d<kJ
 units:A.units+40*d<L5
 hd:A.handled=none
structure Inv (c:Cx) (d:Nat) (A:aU) (env:dI) (l:Loc) (α:Am) (H:List ag) (s:aH):Prop where
 ok:c.Ok
 e:GU env
 r:vC d A
 top:∃en o,A.frames=some (en::o)∧en.frame=env.frame
 h:gu c s.heap α H
 f:pk c env s.heap α l
 k:dQ c A (gL s) s.heap α
inductive Xr (c:Cx) (h₀ h:cf) (α:Am) (e:aD) (f:ai) (vs:Array ai):Prop
 |mk (T:aD) (oT:ow) (ts:Array ai) (y1:vs[1]?=some (.ref T)) (y2:T≠e) (y3:h.get? T=some oT) (y4:oT.data=.fields ts) (y5:ts[3]?=some f) (y6:¬iU α T) (y7:c.hb.get? T=none) (y8:h₀.get? T=none)
noncomputable def Ze (c:Cx) (h₀ h:cf) (α:Am) (e:aD) (vs:Array ai):Option ai→Prop
 |none=>vs[1]?=some .none
 |some f=>Xr c h₀ h α e f vs
inductive iR (c:Cx) (h₀ h:cf) (α:Am) (e:aD) (fl:Option ai):Prop
 |mk (n1:¬iU α e) (n2:c.hb.get? e=none) (n3:h₀.get? e=none) (oe:ow) (vs:Array ai) (a0:ai) (e1:h.get? e=some oe) (e2:oe.cls=.ref c.bd) (e3:oe.data=.fields vs) (e4:vs[0]?=some a0) (tl:Ze c h₀ h α e vs fl)
noncomputable def wx (env:dI) (fl:Option ai):Prop:=fl=none∨fl=some .none∨∃L,env.frame=some L∧fl=some (ib L)
inductive kG (c:Cx) (A:aU) (env:dI) (α:Am) (h:cf) (X:List ag→Prop) (x:ai) (s':aH):Prop
 |mk (e:aD) (fl:Option ai) (bD:Am) (H':List ag) (q:x=.ref e) (f:wx env fl) (z:iR c h s'.heap bD e fl) (m:bO A (cz env) α h bD s'.heap) (r1:gu c s'.heap bD H') (r2:dQ c A (gL s') s'.heap bD) (r3:X H') (mm:bu→Option ai) (r4:s'.heap.Ns env.locals mm)
inductive pU (c:Cx) (d:Nat) (A:aU) (env:dI) (l:Loc) (α:Am) (h:cf) (Q:AV→List ag→Prop) (v:ai) (s':aH):Prop
 |mk (a:AV) (bD:Am) (H':List ag) (m:bO A (cz env) α h bD s'.heap) (i:Inv c d A env l bD H' s') (r:bM c s'.heap bD a v) (q:Q a H')
inductive ru (c:Cx) (d:Nat) (A:aU) (env:dI) (l:Loc) (α:Am) (h:cf) (Q:Bool→List ag→Prop) (b:Bool) (s':aH):Prop
 |mk (bD:Am) (H':List ag) (m:bO A (cz env) α h bD s'.heap) (i:Inv c d A env l bD H' s') (q:Q b H')
inductive uC (c:Cx) (d:Nat) (A:aU) (env:dI) (α:Am) (h:cf) (Q:Loc→List ag→Prop) (u:Unit) (s':aH):Prop
 |mk (l':Loc) (bD:Am) (H':List ag) (m:bO A (cz env) α h bD s'.heap) (i:Inv c d A env l' bD H' s') (q:Q l' H')
inductive AF where
 |next | brk | cont
 |ret (v:AV)
noncomputable def M7 (c:Cx) (h:cf) (α:Am):AF→AA→Prop
 |.next,f=>f=.next
 |.brk,f=>f=.brk
 |.cont,f=>f=.cont
 |.ret a,f=>∃v,f=.ret v∧bM c h α a v
inductive te (c:Cx) (d:Nat) (A:aU) (env:dI) (α:Am) (h:cf) (Q:AF→Loc→List ag→Prop) (f:AA) (s':aH):Prop
 |mk (af:AF) (l':Loc) (bD:Am) (H':List ag) (m:bO A (cz env) α h bD s'.heap) (i:Inv c d A env l' bD H' s') (fr:M7 c s'.heap bD af f) (q:Q af l' H')
noncomputable def WE (c:Cx) (d:Nat) (A:aU) (env:dI) (e:Expr) (l:Loc) (H:List ag) (Q:AV→List ag→Prop) (X:List ag→Prop):Prop:=
 ∀α s,Inv c d A env l α H s→bj c.M A (gr e env) (pU c d A env l α s.heap Q) (kG c A env α s.heap X) s
noncomputable def WB (c:Cx) (d:Nat) (A:aU) (env:dI) (e:Expr) (l:Loc) (H:List ag) (Q:Bool→List ag→Prop) (X:List ag→Prop):Prop:=
 ∀α s,Inv c d A env l α H s→bj c.M A (isTrue e env (gr e env)) (ru c d A env l α s.heap Q) (kG c A env α s.heap X) s
noncomputable def WV (c:Cx) (d:Nat) (A:aU) (env:dI) (t:List ai→rU ai) (as:List AV) (l:Loc) (H:List ag) (Q:AV→List ag→Prop) (X:List ag→Prop):Prop:=
 ∀α s vs,Inv c d A env l α H s→bl c s.heap α as vs→bj c.M A (t vs) (pU c d A env l α s.heap Q) (kG c A env α s.heap X) s
noncomputable def WU (c:Cx) (d:Nat) (A:aU) (env:dI) (t:List ai→rU Unit) (as:List AV) (l:Loc) (H:List ag) (Q:Loc→List ag→Prop) (X:List ag→Prop):Prop:=
 ∀α s vs,Inv c d A env l α H s→bl c s.heap α as vs→bj c.M A (t vs) (uC c d A env α s.heap Q) (kG c A env α s.heap X) s
noncomputable def yP (c:Cx) (d:Nat) (A:aU) (env:dI) (a:AV) (l:Loc) (H:List ag) (Q:Bool→List ag→Prop) (X:List ag→Prop):Prop:=
 ∀α s v,Inv c d A env l α H s→bM c s.heap α a v→bj c.M A (truthy v) (ru c d A env l α s.heap Q) (kG c A env α s.heap X) s
noncomputable def WX (c:Cx) (d:Nat) (A:aU) (env:dI) (st:eF) (l:Loc) (H:List ag) (Q:AF→Loc→List ag→Prop) (X:List ag→Prop):Prop:=
 ∀α s,Inv c d A env l α H s→bj c.M A (exec st env) (te c d A env α s.heap Q) (kG c A env α s.heap X) s
section
variable {c:Cx}{d:Nat}{A:aU}{env:dI}{l l':Loc}{α bD:Am}{h h':cf}{H H':List ag}{s s':aH}
theorem pk.solid (F:pk c env h α l):eM h (cz env):=by
 rintro b (rfl | ⟨-,i,x,k,e,hk,hb⟩)
 ·refine eT F.ns fun m o es ep ho gC _=>?_
  refine bG gC fun hd _=>?_
  exact⟨o,ho,(fun _ _ q=>by rw[hd] at q;cases q),(fun _ q=>by rw[hd] at q;cases q)⟩
 ·refine gN (F.cl e hk) fun b' ov e' o ho hd _=>?_
  rw[hb] at e';replace e':=ae e';subst e'
  exact⟨o,ho,(fun _ _ q=>by rw[hd] at q;cases q),(fun _ q=>by rw[hd] at q;cases q)⟩
theorem Inv.solid (I:Inv c d A env l α H s):eM s.heap (cz env):=I.f.solid
theorem bO.gone (m:bO A (cz env) α h bD h'){b:aD}(e:h'.get? b=.none):h.get? b=.none:=by
 cases q:h.get? b with
 |none=>rfl
 |some o=>obtain⟨o',e'⟩:=m.alive q;rw[e] at e';exact nS e'
theorem iR.back {e8:cf}{bE:Am}{e:aD}{fl:Option ai}(m:bO A (cz env) α h bD h') (z:iR c h' e8 bE e fl):iR c h e8 bE e fl:=by
 obtain⟨z1,z2,z3,oe,vs,a0,z4,z5,z6,z7,z8⟩:=z
 refine⟨z1,z2,m.gone z3,oe,vs,a0,z4,z5,z6,z7,?_⟩
 cases fl with
 |none=>exact z8
 |some f=>
  obtain⟨T,oT,ts,y1,y2,y3,y4,y5,y6,y7,y8⟩:=z8
  exact⟨T,oT,ts,y1,y2,y3,y4,y5,y6,y7,m.gone y8⟩
theorem kG.weak {X:List ag→Prop}{x:ai}(m:bO A (cz env) α h bD h') (e:kG c A env bD h' X x s'):kG c A env α h X x s':=by
 obtain⟨e,fl,jh,H',q,f,z,m',r1,r2,r3,mm,r4⟩:=e
 exact⟨e,fl,jh,H',q,f,z.back m,m.trans m',r1,r2,r3,mm,r4⟩
theorem kG.mono {X X':List ag→Prop}{x:ai}(hX:∀H,X H→X' H) (e:kG c A env α h X x s'):kG c A env α h X' x s':=by
 obtain⟨e,fl,jh,H',q,f,z,m',r1,r2,r3,mm,r4⟩:=e
 exact⟨e,fl,jh,H',q,f,z,m',r1,r2,hX _ r3,mm,r4⟩
theorem pU.weak {Q:AV→List ag→Prop}{x:ai}(m:bO A (cz env) α h bD h') (e:pU c d A env l bD h' Q x s'):pU c d A env l α h Q x s':=by
 obtain⟨a,jh,H',m',i,r,q⟩:=e
 exact⟨a,jh,H',m.trans m',i,r,q⟩
theorem ru.weak {Q:Bool→List ag→Prop}{x:Bool}(m:bO A (cz env) α h bD h') (e:ru c d A env l bD h' Q x s'):ru c d A env l α h Q x s':=by
 obtain⟨jh,H',m',i,q⟩:=e
 exact⟨jh,H',m.trans m',i,q⟩
theorem uC.weak {Q:Loc→List ag→Prop}{x:Unit}(m:bO A (cz env) α h bD h') (e:uC c d A env bD h' Q x s'):uC c d A env α h Q x s':=by
 obtain⟨a,jh,H',m',i,q⟩:=e
 exact⟨a,jh,H',m.trans m',i,q⟩
theorem Ut {t:rU ai}{Q:AV→List ag→Prop}{X:List ag→Prop}{P:ai→aH→Prop}
  (h1:bj c.M A t (pU c d A env l α s.heap Q) (kG c A env α s.heap X) s)
  (h2:∀v bf a aP H₁,bO A (cz env) α s.heap aP bf.heap→Inv c d A env l aP H₁ bf→bM c bf.heap aP a v→Q a H₁→P v bf) :
  bj c.M A t P (kG c A env α s.heap X) s:=
 au h1 (by rintro v bf ⟨a,aP,H₁,m,i,r,q⟩;exact h2 v bf a aP H₁ m i r q) fun _ _ e=>e
theorem oV {t:rU ai}{Q:AV→List ag→Prop}{X:List ag→Prop}(m:bO A (cz env) α h bD s.heap)
  (h1:bj c.M A t (pU c d A env l bD s.heap Q) (kG c A env bD s.heap X) s):bj c.M A t (pU c d A env l α h Q) (kG c A env α h X) s:=
 au h1 (fun _ _ p=>p.weak m) fun _ _ p=>p.weak m
theorem IQ {t:rU Bool}{Q:Bool→List ag→Prop}{X:List ag→Prop}(m:bO A (cz env) α h bD s.heap)
  (h1:bj c.M A t (ru c d A env l bD s.heap Q) (kG c A env bD s.heap X) s):bj c.M A t (ru c d A env l α h Q) (kG c A env α h X) s:=
 au h1 (fun _ _ p=>p.weak m) fun _ _ p=>p.weak m
theorem Nf {t:rU Unit}{Q:Loc→List ag→Prop}{X:List ag→Prop}(m:bO A (cz env) α h bD s.heap)
  (h1:bj c.M A t (uC c d A env bD s.heap Q) (kG c A env bD s.heap X) s):bj c.M A t (uC c d A env α h Q) (kG c A env α h X) s:=
 au h1 (fun _ _ p=>p.weak m) fun _ _ p=>p.weak m
theorem Inv.toks {dr:Cf}{tk:Nat}(I:Inv c d A env l α H s):Inv c d A env l α H ⟨s.heap,s.gens,dr,tk,s.os⟩:=⟨I.ok,I.e,I.r,I.top,I.h,I.f,I.k⟩
theorem Inv.done {dr:Cf}{tk:Nat}{a:AV}{v:ai}{Q:AV→List ag→Prop}(I:Inv c d A env l α H s) (r:bM c s.heap α a v) (q:Q a H) :
  pU c d A env l α s.heap Q v ⟨s.heap,s.gens,dr,tk,s.os⟩:=⟨a,α,H,.refl ..,I.toks,r,q⟩
theorem Inv.I2 {dr:Cf}{tk:Nat}{b:Bool}{Q:Bool→List ag→Prop}(I:Inv c d A env l α H s) (q:Q b H) :
  ru c d A env l α s.heap Q b ⟨s.heap,s.gens,dr,tk,s.os⟩:=⟨α,H,.refl ..,I.toks,q⟩
theorem iq {i:Int}{t:Tok}:bM c h α (.int i) (.int i t):=⟨t,rfl⟩
theorem LA {i:bu}{t:Tok}:bM c h α (.str i) (.str i t):=⟨t,rfl⟩
theorem Tp {b:List UInt8}{t:Tok}:bM c h α (.eg b) (.bytes b.toArray t):=⟨t,rfl⟩
theorem qp {b:Bool}:bM c h α (.bool b) (.bool b):=rfl
theorem xh:bM c h α .none .none:=rfl
theorem TH {v:ai}:bM c h α (.fix v) v:=rfl
theorem jD:bl c h α [] []:=rfl
theorem eD {x:AV}{xs:List AV}{v:ai}{vs:List ai}(r:bM c h α x v) (rs:bl c h α xs vs):bl c h α (x::xs) (v::vs):=⟨v,vs,rfl,r,rs⟩
theorem Sv {vs:List AV}{a:aD}{items:Array ai}(t:dq h a items) (r:bl c h α vs items.toList):bM c h α (.tup vs) (.ref a):=⟨a,items,rfl,t,r⟩
theorem yi {n:Nat}{p:aD×aD}(e:α[n]?=some p):bM c h α (.obj n) (.ref p.1):=⟨p,e,rfl⟩
theorem bM.int {i:Int}{v:ai}(r:bM c h α (.int i) v):∃t,v=.int i t:=r
theorem bM.str {i:bu}{v:ai}(r:bM c h α (.str i) v):∃t,v=.str i t:=r
theorem bM.eg {i:List UInt8}{v:ai}(r:bM c h α (.eg i) v):∃t,v=.bytes i.toArray t:=r
theorem bM.bool {b:Bool}{v:ai}(r:bM c h α (.bool b) v):v=.bool b:=r
theorem bM.none {v:ai}(r:bM c h α .none v):v=.none:=r
theorem bM.fix {x v:ai}(r:bM c h α (.fix x) v):v=x:=r
theorem bM.tup {vs:List AV}{v:ai}(r:bM c h α (.tup vs) v):∃a items,v=.ref a∧dq h a items∧bl c h α vs items.toList:=r
theorem bM.obj {n:Nat}{v:ai}(r:bM c h α (.obj n) v):∃p,α[n]?=some p∧v=.ref p.1:=r
theorem bl.nil {vs:List ai}(r:bl c h α [] vs):vs=[]:=r
theorem bl.cons {x:AV}{xs:List AV}{vs:List ai}(r:bl c h α (x::xs) vs):∃v r',vs=v::r'∧bM c h α x v∧bl c h α xs r':=r
theorem bl.one {x:AV}{vs:List ai}(r:bl c h α [x] vs):∃v,vs=[v]∧bM c h α x v:=by
 refine aN r.cons fun v r' lC h1 h2=>?_
 subst lC
 cases h2.nil;exact⟨v,rfl,h1⟩
theorem bl.two {x y:AV}{vs:List ai}(r:bl c h α [x,y] vs):∃v w,vs=[v,w]∧bM c h α x v∧bM c h α y w:=by
 refine aN r.cons fun v r' jZ h1 h2=>?_
 subst jZ
 refine aq h2.one fun w u0 h3=>?_;subst u0;exact⟨v,w,rfl,h1,h3⟩
theorem bl.three {x y z:AV}{vs:List ai}(r:bl c h α [x,y,z] vs):∃v w u,vs=[v,w,u]∧bM c h α x v∧bM c h α y w∧bM c h α z u:=by
 refine aN r.cons fun v r' sy h1 h2=>?_
 subst sy
 refine aN h2.two fun w u mx h3 h4=>?_;subst mx;exact⟨v,w,u,rfl,h1,h3,h4⟩
theorem bl.length {xs:List AV}:∀{vs:List ai},bl c h α xs vs→vs.length=xs.length:=by
 induction xs with
 |nil=>intro vs r;rw[r.nil];rfl
 |cons x xs ih=>intro vs r;refine aN r.cons fun v r' qH _ h2=>?_;subst qH;exact congrArg Nat.succ (ih h2)
theorem bl.get {xs:List AV}:∀{vs:List ai}{i:Nat}{x:AV},bl c h α xs vs→xs[i]?=some x→∃v,vs[i]?=some v∧bM c h α x v:=by
 induction xs with
 |nil=>exact fun _ e=>nS e
 |cons y ys ih=>
  intro vs i x r e
  refine aN r.cons fun v r' gC h1 h2=>?_
  subst gC
  cases i with
  |zero=>exact⟨v,rfl,ae e▸h1⟩
  |succ i=>exact ih (i:=i) h2 e
theorem bl.append {xs:List AV}:∀{ys:List AV}{vs ws:List ai},bl c h α xs vs→bl c h α ys ws→bl c h α (xs++ys) (vs++ws):=by
 induction xs with
 |nil=>intro ys vs ws r r2;cases r.nil;exact r2
 |cons x xs ih=>intro ys vs ws r r2;refine aN r.cons fun v r' vq h1 h2=>?_;subst vq;exact eD h1 (ih h2 r2)
theorem cX {names:List (bu×bc)}:∀{i:Nat}{x:bu}{k:bc},(names.map (·.1)).Nodup→names[i]?=some (x,k)→names.lookup x=some k:=by
 induction names with
 |nil=>exact fun _ e=>nS e
 |cons p r ih=>
  intro i x k nd e
  have nd:=du.mp nd
  cases i with
  |zero=>
   replace e:=ae e
   subst e
   simp[dG]
  |succ i=>
   have e':r[i]?=some (x,k):=e
   have hb:(x==p.1)=false:=beq_eq_false_iff_ne.mpr fun q=>nd.1 (dJ.mpr ⟨_,a9 e',q⟩)
   simp only[dG,hb]
   exact ih nd.2 e'
theorem sj {names:List (bu×bc)}(nd:(names.map (·.1)).Nodup){i j:Nat}{x:bu}{k k':bc}(e:names[i]?=some (x,k)) (e':names[j]?=some (x,k')):i=j:=by
 have h1:(names.map (·.1))[i]?=some x:=by simp[e]
 have h2:(names.map (·.1))[j]?=some x:=by simp[e']
 have l1:=(ao.mp h1).1
 exact(I9 l1 nd).mp (h1.trans h2.symm)
variable {Q:AV→List ag→Prop}{X:List ag→Prop}{pos:ij}
theorem WE.X3 {i:Int}{k:Nat}(q:Q (.int i) H):WE c d A env (.Constant (.int i) k pos) l H Q X:=fun _ _ I=>QE (I.done iq q)
theorem WE.XO {i:bu}{k:Nat}(q:Q (.str i) H):WE c d A env (.Constant (.str i) k pos) l H Q X:=fun _ _ I=>Constant_str (I.done LA q)
theorem WE.RS {k:Nat}(q:Q .none H):WE c d A env (.Constant .none k pos) l H Q X:=fun _ _ I=>Constant_none (I.done xh q)
theorem WE.UH {b:Bool}{k:Nat}(q:Q (.bool b) H):WE c d A env (.Constant (.bool b) k pos) l H Q X:=fun _ _ I=>Constant_bool (I.done qp q)
theorem WE.loc {x:bu}{v:AV}(i:Nat) (hn:env.scope.names[i]?=some (x,.local)) (hv:l[i]?=some (some v)) (hd:(x==("__debug__":bu))=false) (q:Q v H):WE c d A env (.Name x pos) l H Q X:=fun α s I=>by
 refine aq I.f.ns fun m hm hr=>?_
 refine aq (hr hn hv) fun val e r=>?_
 exact Cg (sO I.e.kind (cX I.e.nodup hn) hm e (I.done r q)) hd
theorem WE.cell {x:bu}{v:AV}(i:Nat) (hn:env.scope.names[i]?=some (x,.cell)) (hv:l[i]?=some (some v)) (hd:(x==("__debug__":bu))=false) (q:Q v H):WE c d A env (.Name x pos) l H Q X:=fun α s I=>by
 refine gc (I.f.cl hn (.inl rfl)) fun b ov e1 e2 _ _ hr=>?_
 refine aq (hr hv) fun val IF r=>?_
 subst IF
 exact Cg (wpAny_loadName_cell I.e.kind (cX I.e.nodup hn) e1 e2 (I.done r q)) hd
theorem Inv.g (I:Inv c d A env l α H s):s.heap.Ns env.globals c.mg:=I.e.glob▸I.ok.T.g.keeps I.h.base
theorem Inv.b (I:Inv c d A env l α H s):s.heap.Ns env.builtins c.mb:=I.e.bi▸I.ok.T.b.keeps I.h.base
theorem Inv.ql (I:Inv c d A env l α H s):c.K.In s.heap:=I.ok.X.keeps I.h.base
theorem WE.glob {x:bu}{v:ai}{a:AV}(i:Nat) (hn:env.scope.names[i]?=some (x,.globalImplicit)) (hv:EV c.K et x=some (some v)) (hd:(x==("__debug__":bu))=false)
  (hr:∀h α,(∀b o,c.hb.get? b=some o→h.get? b=some o)→bM c h α a v) (q:Q a H):WE c d A env (.Name x pos) l H Q X:=fun α s I=>
 lS I.e.kind (cX I.e.nodup hn) (wK I.g (mg_of I.ok.X I.ok.T.g hv) (I.done (hr _ _ I.h.base) q)) hd
theorem WE.Mg {x:bu}{v:ai}(i:Nat) (hn:env.scope.names[i]?=some (x,.globalImplicit)) (hv:EV c.K et x=some none) (hb:I7 x=some v) (hx:x≠"__name__") (hd:(x==("__debug__":bu))=false)
  (q:Q (.fix v) H):WE c d A env (.Name x pos) l H Q X:=fun α s I=>
 lS I.e.kind (cX I.e.nodup hn) (loadGlobal_builtin I.g (mg_none_of I.ok.X I.ok.T.g hv) I.b ((I.ok.T.builtins x hx).trans hb) (I.done TH q)) hd
theorem WE.bin {e1 e2:Expr}{op:Ch}(w:WE c d A env e1 l H (fun a H1=>WE c d A env e2 l H1 (fun b H2=>WV c d A env (fun vs=>fb op (vs[0]?.getD .none) (vs[1]?.getD .none)) [a,b] l H2 Q X) X) X) :
  WE c d A env (.BinOp e1 op e2 pos) l H Q X:=fun α s I=>by
 refine wpAny_BinOp (Ut (w α s I) fun v bf a aP H₁ b0 bp fH jc=>?_)
 refine au (jc aP bf bp) (fun oG cY eS=>?_) fun _ _ e=>e.weak b0
 obtain⟨b,bE,eY,cW,cB,jr,nC⟩:=eS
 have m:=b0.trans cW
 refine oV m (nC bE cY [v,oG] cB (eD (fH.mono cW bp.h bp.solid) (eD jr jD)))
theorem WE.mono {e:Expr}{Q':AV→List ag→Prop}{X':List ag→Prop}(w:WE c d A env e l H Q X) (hq:∀a H,Q a H→Q' a H) (hx:∀H,X H→X' H):WE c d A env e l H Q' X':=fun α s I=>
 au (w α s I) (by rintro u' u' ⟨a,bD,H',m,i,r,q⟩;exact⟨a,bD,H',m,i,r,hq _ _ q⟩) fun _ _ e=>e.mono hx
end
end
section
open PySem PySem.W PySem.Calls PyProof.Rows
section
variable {c:Cx}{d:Nat}{A:aU}{env:dI}{l l':Loc}{α bD:Am}{h h':cf}{H H':List ag}{s s':aH}
variable {Q:AV→List ag→Prop}{X:List ag→Prop}{pos:ij}
theorem FunFrames.none {hb h:cf}{l:List dI}(F:h.FunFrames hb l):∀env∈l,∀b,env.frame=some b→hb.get? b=none∧∃o,h.get? b=some o∧∀vs,o.data≠.fields vs:=by
 induction l with
 |nil=>intro e he;cases he
 |cons env r ih=>
  refine bQ F fun _ hx hr=>?_
  clear F
  refine b9 hx fun L o hf hn ho hd=>?_
  clear hx
  intro e he b nZ
  rcases br.mp he with rfl | he
  ·rw[hf] at nZ;replace nZ:=ae nZ;subst nZ;exact⟨hn,o,ho,hd⟩
  ·exact ih hr e he b nZ
theorem dQ.none {g:Sd}(K:dQ c A g h α){b:aD}(x:AI A b):c.hb.get? b=none∧¬iU α b∧∃o,h.get? b=some o∧∀vs,o.data≠.fields vs:=by
 obtain⟨l,env,e,he,hf⟩:=x
 refine aL K.fr fun l' e' F n=>?_
 rw[e] at e';replace e':=ae e';subst e'
 have:=FunFrames.none F env he b hf
 exact⟨this.1,n env he b hf,this.2⟩
theorem pk.K8 (F:pk c env h α l){b:aD}(x:cz env b):c.hb.get? b=none∧¬iU α b:=by
 rcases x with rfl | ⟨-,i,x,k,e,hk,hb⟩
 ·exact⟨F.new,F.no⟩
 ·refine gc (F.cl e hk) fun b' ov e' _ h1 h2 _=>?_
  rw[hb] at e';replace e':=ae e';subst e';exact⟨h2,h1⟩
theorem bO.base {g:Sd}{own:aD→Prop}(m:bO A own α h bD h') (O:gu c h α H) (K:dQ c A g h α) (hw:∀b,own b→c.hb.get? b=none):∀b o,c.hb.get? b=some o→h'.get? b=some o:=fun b o e=>by
 refine m.keep (O.base b o e) (fun q=>?_) (fun q=>?_) fun q=>?_
 ·rw[O.new b q] at e;exact nS e
 ·rw[hw b q] at e;exact nS e
 ·rw[(K.none q).1] at e;exact nS e
theorem gu.same {g:Sd}{own:aD→Prop}(m:bO A own α h α h') (O:gu c h α H) (S:eM h own) (K:dQ c A g h α) (hw:∀b,own b→c.hb.get? b=none) (hk:∀b o,iU α b→h.get? b=some o→h'.get? b=some o):gu c h' α H:=O.qm (fun t=>m.tup O S t) hk (m.base O K hw)
theorem Inv.hw (I:Inv c d A env l α H s):∀b,cz env b→c.hb.get? b=.none:=fun _ x=>(I.f.K8 x).1
theorem Inv.UI (I:Inv c d A env l α H s) (m:bO A (cz env) α s.heap bD h') (F:pk c env h' bD l'):dQ c A (gL s) h' bD:=by
 refine aL I.k.fr fun lf e Fs n=>?_
 refine cD I.top fun en0 o e2 iu=>?_
 clear iu
 rw[e] at e2;replace e2:=ae e2;subst e2
 have na:∀{b},(∃o,s.heap.get? b=some o)→¬iU α b→¬iU bD b:=fun{b} ⟨o,q⟩ hn x=>by
  rcases m.fresh x with x | x
  ·exact hn x
  ·rw[q] at x;exact nS (fZ x)
 have key:∀(l2:List dI),s.heap.FunFrames c.hb l2→(∀env∈l2,∀b,env.frame=some b→¬iU α b)→h'.FunFrames c.hb l2:=by
  intro l2
  induction l2 with
  |nil=>intro _ _;trivial
  |cons en r ih=>
   intro lH hna
   refine bQ lH fun hk iu hr=>?_
   clear lH
   refine b9 iu fun L o hf hn ho hd=>?_
   refine⟨hk,?_,ih hr fun e he=>hna e (.tail _ he)⟩
   by_cases jM:cz env L
   ·refine aL (F.solid L jM) fun o' jQ _ qz=>?_
    exact⟨L,o',hf,hn,jQ,qz⟩
   ·obtain⟨sl,hs⟩:=m.slot ho (hna en (.head _) L hf) jM
    exact⟨L,_,hf,hn,hs,hd⟩
 refine⟨⟨_,e,key _ Fs n,fun en he b hb=>na ?_ (n en he b hb)⟩,I.k.la⟩
 refine bG (FunFrames.none Fs en he b hb) fun _ jX=>?_
 refine aq jX fun o ho _=>?_
 exact⟨o,ho⟩
theorem Inv.next (I:Inv c d A env l α H s) (m:bO A (cz env) α s.heap bD s'.heap) (O:gu c s'.heap bD H') (F:pk c env s'.heap bD l') (zj:gL s'=gL s:=by rfl):Inv c d A env l' bD H' s':=
 ⟨I.ok,I.e,I.r,I.top,O,F,zj▸I.UI m F⟩
theorem pk.keep {own:aD→Prop}(F:pk c env h α l) (m:bO A own α h bD h') (O:gu c h α H) (S:eM h own) (hl:¬own env.locals) (jM:∀(i:Nat) x k b,env.scope.names[i]?=some (x,k)→xR k→env.cells.lookup x=some b→¬own b):pk c env h' bD l:=by
 have na:∀{b},(∃o,h.get? b=some o)→¬iU α b→¬iU bD b:=fun{b} ⟨o,q⟩ hn x=>by
  rcases m.fresh x with x | x
  ·exact hn x
  ·rw[q] at x;exact nS (fZ x)
 refine⟨?_,fun{i x k} e hk=>?_,?_,F.new⟩
 ·refine eT F.ns fun mm o es ep ho r hr=>?_
  obtain⟨sl,hs⟩:=m.slot ho F.no hl
  refine⟨mm,⟨_,es,ep,hs,r⟩,fun{i x v} e1 e2=>?_⟩
  refine aq (hr e1 e2) fun val q rr=>?_
  exact⟨val,q,rr.mono m O S⟩
 ·refine eH (F.cl e hk) fun b ov e1 o ho hd n1 n2 hr=>?_
  obtain⟨sl,hs⟩:=m.slot ho n1 (jM i x k b e hk e1)
  exact⟨b,ov,e1,⟨_,hs,hd⟩,na ⟨o,ho⟩ n1,n2,fun{v} q=>by refine aq (hr q) fun val q1 q2=>?_;exact⟨val,q1,q2.mono m O S⟩⟩
 ·refine eT F.ns fun mm o es ep ho r hr=>?_
  exact na ⟨o,ho⟩ F.no
theorem nG {own:aD→Prop}{b:aD}(hs:dz b h h') (hb:own b) (ho:∃o,h'.get? b=some o):bO A own α h α h':=by
 refine⟨id,.inl,fun{x o} e=>?_,fun{x o} e _ n _=>?_,fun{x o} e _ n=>⟨o.slots,?_⟩⟩
 ·by_cases q:x=b
  ·subst q;exact ho
  ·exact⟨o,(hs.2 x q).trans e⟩
 ·exact(hs.2 x fun q=>n (q▸hb)).trans e
 ·exact(hs.2 x fun q=>n (q▸hb)).trans e
theorem WU.stLoc {x:bu}{a:AV}{Q:Loc→List ag→Prop}(i:Nat) (hn:env.scope.names[i]?=some (x,.local)) (hi:i<l.length) (q:Q (l.set i (some a)) H) :
  WU c d A env (fun vs=>p9 env x (vs[0]?.getD .none)) [a] l H Q X:=fun α s vs I rs=>by
 refine aq rs.one fun v j5 r=>?_
 subst j5
 refine aq I.f.ns fun m hm hr=>?_
 refine JC (cX I.e.nodup hn) hm (fun h' ua hs=>?_) (by rw[I.e.kind];rfl)
 have w0:bO A (cz env) α s.heap α h':=nG hs (.inl rfl) (RI ua)
 have O:gu c h' α H:=I.h.same w0 I.solid I.k I.hw fun b o ad e=>(hs.2 b fun q=>I.f.no (q▸ad)).trans e
 refine⟨_,α,H,w0,I.next (s':={ s with heap:=h',toks:=s.toks+1 }) w0 O ⟨⟨_,ua,fun{j y w} e1 e2=>?_⟩,fun{j y k} e1 hk=>?_,I.f.no,I.f.new⟩,q⟩
 ·by_cases hj:j=i
  ·subst hj
   rw[hn] at e1;cases e1
   rw[ew hi] at e2
   cases e2
   exact⟨v,by simp,r.mono w0 I.h I.solid⟩
  ·rw[cO (fun q=>hj q.symm)] at e2
   refine aq (hr e1 e2) fun val q1 q2=>?_
   have X7:y≠x:=fun q=>hj (sj I.e.nodup (q▸e1) hn)
   exact⟨val,by simp[X7,q1],q2.mono w0 I.h I.solid⟩
 ·refine eH (I.f.cl e1 hk) fun b ov e2 o ho hd n1 n2 QW=>?_
  refine⟨b,ov,e2,⟨o,(hs.2 b (I.e.B4 e2)).trans ho,hd⟩,n1,n2,fun{w} e3=>?_⟩
  have hj:i≠j:=fun q=>by
   subst q;rw[hn] at e1;cases e1
   rcases hk with hk | hk<;>cases hk
  rw[cO hj] at e3
  refine aq (QW e3) fun val q1 q2=>?_
  exact⟨val,q1,q2.mono w0 I.h I.solid⟩
theorem WU.PU {x:bu}{a:AV}{Q:Loc→List ag→Prop}(mu:env.frame=some env.locals) (i:Nat) (hn:env.scope.names[i]?=some (x,.cell)) (hi:i<l.length) (q:Q (l.set i (some a)) H) :
  WU c d A env (fun vs=>p9 env x (vs[0]?.getD .none)) [a] l H Q X:=fun α s vs I rs=>by
 refine aq rs.one fun v j4 r=>?_
 subst j4
 refine gc (I.f.cl hn (.inl rfl)) fun b ov e0 hc n1 n2 hr0=>?_
 refine wpAny_storeName_cell I.e.kind (cX I.e.nodup hn) e0 hc fun h' Jz hs=>?_
 have w0:bO A (cz env) α s.heap α h':=nG hs (.inr ⟨mu,i,x,_,hn,.inl rfl,e0⟩) (let⟨o,ho,_⟩:=Jz;⟨o,ho⟩)
 have O:gu c h' α H:=I.h.same w0 I.solid I.k I.hw fun b' o ad e=>(hs.2 b' fun q=>n1 (q▸ad)).trans e
 refine⟨_,α,H,w0,I.next (s':={ s with heap:=h' }) w0 O ⟨?_,fun{j y k} e1 hk=>?_,I.f.no,I.f.new⟩,q⟩
 ·refine aq I.f.ns fun m hm hr=>?_
  refine⟨m,hm.sameBut hs (gS (I.e.B4 e0)),fun{j y w} e1 e2=>?_⟩
  have hj:i≠j:=fun q=>by subst q;rw[hn] at e1;cases e1
  rw[cO hj] at e2
  refine aq (hr e1 e2) fun val q1 q2=>?_
  exact⟨val,q1,q2.mono w0 I.h I.solid⟩
 ·by_cases hj:j=i
  ·subst hj
   rw[hn] at e1;cases e1
   refine⟨b,_,e0,Jz,n1,n2,fun{w} e3=>?_⟩
   rw[ew hi] at e3;replace e3:=ae (ae e3);subst e3
   exact⟨v,rfl,r.mono w0 I.h I.solid⟩
  ·refine eH (I.f.cl e1 hk) fun b' VI e2 o ho hd m1 m2 QW=>?_
   have hbb:b'≠b:=fun q=>hj (by
    subst q
    have:=I.e.apart e2 e0
    subst this
    exact sj I.e.nodup e1 hn)
   refine⟨b',VI,e2,⟨o,(hs.2 b' hbb).trans ho,hd⟩,m1,m2,fun{w} e3=>?_⟩
   rw[cO (fun q=>hj q.symm)] at e3
   refine aq (QW e3) fun val q1 q2=>?_
   exact⟨val,q1,q2.mono w0 I.h I.solid⟩
variable {SQ:AF→Loc→List ag→Prop}
theorem WX.ret {e:Expr}(w:WE c d A env e l H (fun a H'=>SQ (.ret a) l H') X):WX c d A env (.Return (some e) pos) l H SQ X:=fun α s I=>
 Rh (au (w α s I) (by intro v bf mr;obtain⟨a,aP,H₁,m,bp,r,q⟩:=mr;exact⟨.ret a,l,aP,H₁,m,bp,⟨v,rfl,r⟩,q⟩) fun _ _ e=>e)
theorem WX.Kz (q:SQ (.ret .none) l H):WX c d A env (.Return none pos) l H SQ X:=fun α s I=>
 wpAny_Return_none ⟨.ret .none,l,α,H,.refl ..,I,⟨_,rfl,xh⟩,q⟩
theorem WX.cont (q:SQ .cont l H):WX c d A env (.Continue pos) l H SQ X:=fun α s I=>wpAny_Continue ⟨.cont,l,α,H,.refl ..,I,rfl,q⟩
theorem WX.asg {x:bu}{e:Expr}{np:ij}(w:WE c d A env e l H (fun a H'=>WU c d A env (fun vs=>p9 env x (vs[0]?.getD .none)) [a] l H' (fun l' yq=>SQ .next l' yq) X) X)
  (hs:lG e (some (.Name x np)) pos.line env=pure false):WX c d A env (.Assign [.Name x np] e pos) l H SQ X:=fun α s I=>by
 refine wpAny_Assign_Name (au (w α s I) (fun v bf eS=>?_) fun _ _ e=>e) hs
 obtain⟨a,aP,H₁,m,bp,r,q⟩:=eS
 exact au (q aP bf [v] bp (eD r jD)) (by intro u' cY pY;obtain⟨l₂,bE,eY,cW,cB,pV⟩:=pY;exact⟨.next,l₂,bE,eY,m.trans cW,cB,rfl,pV⟩) fun _ _ e=>e.weak m
end
end
section
open PySem PySem.W PySem.Calls PyProof.Rows
section
variable {c:Cx}{d:Nat}{A:aU}{env:dI}{l l':Loc}{α bD ct:Am}{h h' h₀:cf}{H H':List ag}{s s':aH}{k:Nat}
variable {Q:AV→List ag→Prop}{X:List ag→Prop}{pos:ij}{own:aD→Prop}
inductive Gi (c:Cx) (h₀ h:cf) (α:Am) (b:aD):Prop
 |mk (n1:¬iU α b) (n2:c.hb.get? b=none) (n3:h₀.get? b=none) (o:ow) (vs:Array ai) (e:h.get? b=some o) (f:o.data=.fields vs)
theorem Ux {e:aD}(b:Gi c h₀ h α e):∀x∈[e],Gi c h₀ h α x:=fun x hx=>by simp at hx;subst hx;exact b
theorem LV {e T:aD}(b:Gi c h₀ h α e) (b2:Gi c h₀ h α T):∀x∈[e,T],Gi c h₀ h α x:=fun x hx=>by
 simp at hx
 rcases hx with rfl | rfl
 ·exact b
 ·exact b2
theorem qJ {fl:List dI}{b:aD}:b∈fl.filterMap (·.frame)↔∃env∈fl,env.frame=some b:=Fh
theorem gu.live (O:gu c h α H){b:aD}(e:h.get? b=none):¬iU α b:=fun a=>by
 refine aq (O.at a) fun o ho _=>?_
 rw[e] at ho;exact nS ho
theorem JL {fs:List aD}{b:aD}{o:ow}(st:(lI h fs).StaysIn h') (e:h.get? b=some o) (n:b∉fs):h'.get? b=some o:=st b o (hideAll_get fs e n)
theorem mT {g:Sd}{fl:List dI}{bads:List aD}{e:aD}{a0 f:ai}(mu:A.frames=some fl) (m:dD k A own ct h₀ α h) (O:gu c h α H) (K:dQ c A g h α)
  (yY:∀b∈bads,Gi c h₀ h α b) (he:e∈bads) (st:(lI h (fl.filterMap (·.frame)++bads)).StaysIn h') (sl:h.UpToSlots h')
  (T:h'.TracedAtW (lI h (fl.filterMap (·.frame)++bads)) e (.ref c.bd) a0 f) :
  iR c h₀ h' α e (some f)∧dD k A own ct h₀ α h'∧gu c h' α H∧dQ c A g h' α:=by
 have Ub:∀b,b∈fl.filterMap (·.frame)→AI A b:=fun b hb=>by
  refine aq (qJ.mp hb) fun env he hf=>?_
  exact⟨fl,env,mu,he,hf⟩
 have aah:∀b,AI A b→b∈fl.filterMap (·.frame):=fun b ⟨l',env,e1,e2,e3⟩=>by
  rw[mu] at e1;replace e1:=ae e1;subst e1;exact qJ.mpr ⟨env,e2,e3⟩
 have keep:∀{b o},h.get? b=some o→¬AI A b→b∉bads→h'.get? b=some o:=fun{b o} e n1 n2=>JL st e fun q=>by
  rcases eG.mp q with q | q
  ·exact n1 (Ub b q)
  ·exact n2 q
 have aao:∀{b o},h.get? b=some o→(∀vs,o.data≠.fields vs)→b∉bads:=fun{b o} e n q=>by
  obtain⟨_,_,_,o',vs,e',hd⟩:=yY b q
  rw[e] at e';replace e':=ae e';subst e';exact n vs hd
 have XG:∀{a:aD}{items:Array ai},dq h a items→dq h' a items:=fun{a items} ⟨o,ho,hc,n,hd⟩=>by
  refine al (sl a o ho fun vs q=>by rw[hd] at q;cases q) fun M3 hs=>?_
  exact⟨_,hs,hc,n,hd⟩
 have U6:∀b o,iU α b→h.get? b=some o→h'.get? b=some o:=fun b o ha e=>keep e (fun q=>(K.none q).2.1 ha) fun q=>(yY b q).1 ha
 have Ud:∀b o,c.hb.get? b=some o→h'.get? b=some o:=fun b o e=>keep (O.base b o e) (fun q=>by rw[(K.none q).1] at e;exact nS e) fun q=>by rw[(yY b q).2] at e;exact nS e
 have old:∀{b o},h₀.get? b=some o→b∉bads:=fun{b o} e q=>by rw[(yY b q).3] at e;exact nS e
 obtain⟨be1,be2,be3,_⟩:=yY e he
 refine⟨?_,⟨m.pre,m.fresh,fun{b o} e=>?_,fun{b o} e n1 n2 n3=>keep (m.keep e n1 n2 n3) n3 (old e),fun{b o} e n1 n2=>?_⟩,⟨O.len,fun{n x p} e e'=>?_,O.apart,Ud,O.new⟩,?_⟩
 ·refine fW T fun oe vs jX=>?_
  clear T
  refine cy jX fun Tb oT ts t1 j5 t4 j4=>?_
  refine bG j5 fun t2 t3=>?_
  refine dn j4 fun t5 t6 t7 nF=>?_
  refine bQ nF fun t8 t9 t10=>?_
  have hT:¬iU α Tb∧c.hb.get? Tb=none∧h₀.get? Tb=none:=by
   cases q:h.get? Tb with
   |none=>
    refine⟨O.live q,?_,?_⟩
    ·cases q2:c.hb.get? Tb with
     |none=>rfl
     |some o=>rw[O.base _ _ q2] at q;exact nS (fZ q)
    ·cases q2:h₀.get? Tb with
     |none=>rfl
     |some o=>refine al (m.alive q2) fun o' q3=>?_;rw[q] at q3;exact nS q3
   |some o=>
    by_cases z1:Tb∈bads
    ·exact⟨(yY _ z1).1,(yY _ z1).2,(yY _ z1).3⟩
    ·by_cases z2:AI A Tb
     ·refine i9 (K.none z2) fun _ _ o2 q2 q3=>?_
      refine al (sl _ _ q2 q3) fun M3 q4=>?_
      rw[t8] at q4;replace q4:=ae q4;subst q4
      exact absurd t9 (q3 _)
     ·rw[hideAll_get _ q (fun w=>by
       rcases eG.mp w with w | w
       ·exact z2 (Ub _ w)
       ·exact z1 w)] at t6
      exact nS (fZ t6)
  exact⟨be1,be2,be3,oe,vs,a0,t1,t2,t4,t3,Tb,oT,ts,t5,t7,t8,t9,t10,hT.1,hT.2.1,hT.2.2⟩
 ·refine al (m.alive e) fun o' e'=>?_
  by_cases q:AI A b
  ·refine i9 (K.none q) fun _ _ o2 q2 q3=>?_
   refine al (sl _ _ q2 q3) fun M3 q4=>?_
   exact⟨_,q4⟩
  ·exact⟨o',keep e' q (old e)⟩
 ·refine al (m.slot e n1 n2) fun sl1 e1=>?_
  by_cases q:AI A b
  ·refine i9 (K.none q) fun _ _ o2 q2 q3=>?_
   rw[e1] at q2;replace q2:=ae q2;subst q2
   refine al (sl _ _ e1 q3) fun M3 q4=>?_
   exact⟨_,q4⟩
  ·exact⟨sl1,keep e1 q (old e)⟩
 ·exact(O.cell e e').qm id XG fun b o q=>U6 b o ⟨n,p,e',q⟩
 ·refine aL K.fr fun lf e Fs n=>?_
  refine⟨⟨lf,e,Fs.of_keeps fun b o e hn=>?_,n⟩,K.la⟩
  refine al (sl b o e hn) fun M3 hs=>?_
  exact⟨_,hs,rfl⟩
theorem iR.Gu {e:aD}{fl:Option ai}(z:iR c h₀ h α e fl):Gi c h₀ h α e:=by
 obtain⟨z1,z2,z3,oe,vs,a0,z4,z5,z6,z7,z8⟩:=z
 exact⟨z1,z2,z3,oe,vs,z4,z6⟩
theorem funFrames_hide {fl:List dI}{as:List aD}(F:h.FunFrames c.hb fl):h.FunFrames (lI h (fl.filterMap (·.frame)++as)) fl:=by
 have key:∀(l2:List dI),(∀e∈l2,e∈fl)→h.FunFrames c.hb l2→h.FunFrames (lI h (fl.filterMap (·.frame)++as)) l2:=by
  intro l2
  induction l2 with
  |nil=>intro _ _;trivial
  |cons en r ih=>
   intro hin lH
   refine bQ lH fun hk j5 hr=>?_
   clear lH
   refine b9 j5 fun L o hf hn ho hd=>?_
   exact⟨hk,⟨L,o,hf,fS _ (Dw _ (qJ.mpr ⟨en,hin en (.head _),hf⟩)),ho,hd⟩,ih (fun e he=>hin e (.tail _ he)) hr⟩
 exact key fl (fun _ h=>h) F
theorem k9 (as:List aD):(lI h as).StaysIn h:=fun _ _ e=>of_hideAll _ e
theorem Qb {en:dI}{o:List dI}{L:aD}{e:aD}{fl:Option ai}{P:Unit→aH→Prop}{E:ai→aH→Prop}(mu:A.frames=some (en::o)) (hL:en.frame=some L) (uj:wx en fl)
  (m:dD k A own ct h₀ α s.heap) (O:gu c s.heap α H) (K:dQ c A (gL s) s.heap α) (z:iR c h₀ s.heap α e fl)
  (h:∀h',iR c h₀ h' α e (some .none)→dD k A own ct h₀ α h'→gu c h' α H→dQ c A (gL s) h' α→P () { s with heap:=h' }):bj c.M A (leaving en (.ref e)) P E s:=by
 refine aL K.fr fun lf e1 Fs nf=>?_
 rw[mu] at e1;replace e1:=ae e1;subst e1
 have be:=z.Gu
 obtain⟨z1,z2,z3,oe,vs,a0,z4,z5,z6,z7,z8⟩:=z
 rcases uj with rfl | rfl | ⟨L',Qa,rfl⟩
 ·-- fresh
  refine wpAny_leaving_firstW (base:=lI s.heap ((en::o).filterMap (·.frame)++[e])) mu (funFrames_hide Fs) hL z4 (k9 _) (fS _ (by simp)) z6 z8 z7 fun h' eS=>?_
  refine dn eS fun k1 k2 k3 k4=>?_
  clear eS
  refine dn (mT (e:=e) (bads:=[e]) mu m O K (Ux be) (by simp) k1 k4 (by rw[z5] at k3;exact k3.at)) fun r1 r2 r3 r4=>?_
  exact h h' r1 r2 r3 r4
 ·obtain⟨T,oT,ts,y1,y2,y3,y4,y5,y6,y7,y8⟩:=z8
  have bT:Gi c h₀ s.heap α T:=⟨y6,y7,y8,oT,ts,y3,y4⟩
  refine wpAny_leaving_nextW (base:=lI s.heap ((en::o).filterMap (·.frame)++[e,T])) mu (funFrames_hide Fs) hL ⟨oe,vs,T,oT,ts,z4,⟨z5,z7⟩,z6,y1,fS _ (by simp),y2,y3,y4,y5⟩ (k9 _) (fS _ (by simp)) fun h' eS=>?_
  refine dn eS fun k1 k2 k3 k4=>?_
  clear eS
  refine dn (mT (e:=e) (bads:=[e,T]) mu m O K (LV be bT) (by simp) k1 k4 k3.at) fun r1 r2 r3 r4=>?_
  exact h h' r1 r2 r3 r4
 ·obtain⟨T,oT,ts,y1,y2,y3,y4,y5,y6,y7,y8⟩:=z8
  have bT:Gi c h₀ s.heap α T:=⟨y6,y7,y8,oT,ts,y3,y4⟩
  have tr:s.heap.TracedAtW (lI s.heap ((en::o).filterMap (·.frame)++[e,T])) e (.ref c.bd) a0 (ib L'):=⟨oe,vs,T,oT,ts,z4,⟨z5,z7⟩,z6,y1,fS _ (by simp),y2,y3,y4,y5⟩
  unfold leaving
  refine ak (Ja Qa tr ?_)
  refine wpAny_setFlight_noneW (k9 _) (funFrames_hide Fs) tr fun h' k1 k2 k3 k4=>?_
  refine dn (mT (e:=e) (bads:=[e,T]) mu m O K (LV be bT) (by simp) k1 (fun b o hb hn=>⟨o.slots,k4 b o hb hn⟩) k3.at) fun r1 r2 r3 r4=>?_
  exact h h' r1 r2 r3 r4
theorem MJ {en:dI}{o:List dI}{L:aD}{e:aD}{fl:Option ai}{P:Unit→aH→Prop}{E:ai→aH→Prop}(mu:A.frames=some (en::o)) (hL:en.frame=some L) (uj:wx en fl)
  (m:dD k A own ct h₀ α s.heap) (O:gu c s.heap α H) (K:dQ c A (gL s) s.heap α) (z:iR c h₀ s.heap α e fl)
  (h:∀h',iR c h₀ h' α e (some (ib L))→dD k A own ct h₀ α h'→gu c h' α H→dQ c A (gL s) h' α→s.heap.UpToSlots h'→P () { s with heap:=h' }):bj c.M A (tx (.ref e) en) P E s:=by
 refine aL K.fr fun lf e1 Fs nf=>?_
 rw[mu] at e1;replace e1:=ae e1;subst e1
 have be:=z.Gu
 have z':=z
 obtain⟨z1,z2,z3,oe,vs,a0,z4,z5,z6,z7,z8⟩:=z
 rcases uj with rfl | rfl | ⟨L',Qa,rfl⟩
 ·unfold tx
  simp only[hL]
  refine ak (g9 z4 z6 z8 ?_)
  rw[if_neg (by decide)]
  refine wpAny_entryW (base:=lI s.heap ((en::o).filterMap (·.frame)++[e])) mu (funFrames_hide Fs) hL z4 (k9 _) (fS _ (by simp)) z6 (lT.mp z8).1 z7 fun h' u'2=>?_
  refine dn u'2 fun k1 k2 k3 k4=>?_
  refine dn (mT (e:=e) (bads:=[e]) mu m O K (Ux be) (by simp) k1 k4 (by rw[z5] at k3;exact k3)) fun r1 r2 r3 r4=>?_
  exact h h' r1 r2 r3 r4 k4
 ·obtain⟨T,oT,ts,y1,y2,y3,y4,y5,y6,y7,y8⟩:=z8
  have bT:Gi c h₀ s.heap α T:=⟨y6,y7,y8,oT,ts,y3,y4⟩
  refine wpAny_noteFrame_onW (base:=lI s.heap ((en::o).filterMap (·.frame)++[e,T])) mu (funFrames_hide Fs) hL ⟨oe,vs,T,oT,ts,z4,⟨z5,z7⟩,z6,y1,fS _ (by simp),y2,y3,y4,y5⟩ (k9 _) (fS _ (by simp)) fun h' eS=>?_
  refine dn eS fun k1 k2 k3 k4=>?_
  clear eS
  refine dn (mT (e:=e) (bads:=[e,T]) mu m O K (LV be bT) (by simp) k1 k4 k3) fun r1 r2 r3 r4=>?_
  exact h h' r1 r2 r3 r4 k4
 ·obtain⟨T,oT,ts,y1,y2,y3,y4,y5,y6,y7,y8⟩:=z8
  have tr:s.heap.TracedAtW (lI s.heap ((en::o).filterMap (·.frame)++[e,T])) e (.ref c.bd) a0 (ib L'):=⟨oe,vs,T,oT,ts,z4,⟨z5,z7⟩,z6,y1,fS _ (by simp),y2,y3,y4,y5⟩
  refine Ja Qa tr ?_
  rw[hL] at Qa;replace Qa:=ae Qa;subst Qa
  exact h s.heap z' m O K fun _ o e _=>⟨o.slots,e⟩
theorem vL {fr:Option aD}{fl:List dI}{e:aD}{f:ai}{P:Unit→aH→Prop}{E:ai→aH→Prop}(mu:A.frames=some fl)
  (m:dD k A own ct h₀ α s.heap) (O:gu c s.heap α H) (K:dQ c A (gL s) s.heap α) (z:iR c h₀ s.heap α e (some f))
  (h:∀h',iR c h₀ h' α e (some (fr.elim .none fun x=>ib x))→dD k A own ct h₀ α h'→gu c h' α H→dQ c A (gL s) h' α→s.heap.UpToSlots h'→P () { s with heap:=h' }):bj c.M A (setFlight (.ref e) fr) P E s:=by
 have be:=z.Gu
 obtain⟨z1,z2,z3,oe,vs,a0,z4,z5,z6,z7,T,oT,ts,y1,y2,y3,y4,y5,y6,y7,y8⟩:=z
 have bT:Gi c h₀ s.heap α T:=⟨y6,y7,y8,oT,ts,y3,y4⟩
 have Tl:3<ts.size:=(lT.mp y5).1
 have CQ:∀b,b≠T→(s.heap.update T (Ri (·.setIfInBounds 3 (fr.elim ai.none fun f=>ib f)))).get? b=s.heap.get? b:=fun b hb=>cP _ _ (gS hb)
 unfold setFlight
 refine ak (g9 z4 z6 y1 ?_)
 rw[if_pos (show(ai.ref T != ai.none)=true from by simp)]
 refine wpAny_setField y3 y4 Tl ?_
 obtain⟨r1,r2,r3,r4⟩:=mT (e:=e) (h':=s.heap.update T (Ri (·.setIfInBounds 3 (fr.elim ai.none fun f=>ib f)))) (bads:=[e,T]) (a0:=a0) (f:=fr.elim ai.none fun f=>ib f) mu m O K (LV be bT) (by simp)
  (fun b o hb=>(CQ b fun q=>by rw[q,fS _ (by simp)] at hb;exact nS hb).trans (of_hideAll _ hb))
  (fun b o hb hn=>⟨o.slots,(CQ b fun q=>by rw[q,y3] at hb;replace hb:=ae hb;subst hb;exact hn _ y4).trans hb⟩)
  ⟨oe,vs,T,_,_,(CQ e (gS y2)).trans z4,⟨z5,z7⟩,z6,y1,fS _ (by simp),y2,dx _ y3 (ow.isFreed_of_fields (Jb y4 _)),Jb y4 _,by simp[Tl]⟩
 exact h _ r1 r2 r3 r4 fun b o hb hn=>⟨o.slots,(CQ b fun q=>by rw[q,y3] at hb;replace hb:=ae hb;subst hb;exact hn _ y4).trans hb⟩
theorem leave {en:dI}{o:List dI}{L:aD}{e:aD}{fl:Option ai}{P:Unit→aH→Prop}{E:ai→aH→Prop}(mu:A.frames=some (en::o)) (hL:en.frame=some L) (uj:wx en fl)
  (m:bO A own ct h₀ α s.heap) (O:gu c s.heap α H) (K:dQ c A (gL s) s.heap α) (z:iR c h₀ s.heap α e fl)
  (h:∀h',iR c h₀ h' α e (some .none)→bO A own ct h₀ α h'→gu c h' α H→dQ c A (gL s) h' α→P () { s with heap:=h' }):bj c.M A (leaving en (.ref e)) P E s:=
 Qb mu hL uj (m.toM (m:=ct.length)) O K z fun h' a b=>h h' a (b.full (aA _))
theorem OQ {en:dI}{o:List dI}{L:aD}{e:aD}{fl:Option ai}{P:Unit→aH→Prop}{E:ai→aH→Prop}(mu:A.frames=some (en::o)) (hL:en.frame=some L) (uj:wx en fl)
  (m:bO A own ct h₀ α s.heap) (O:gu c s.heap α H) (K:dQ c A (gL s) s.heap α) (z:iR c h₀ s.heap α e fl)
  (h:∀h',iR c h₀ h' α e (some (ib L))→bO A own ct h₀ α h'→gu c h' α H→dQ c A (gL s) h' α→s.heap.UpToSlots h'→P () { s with heap:=h' }):bj c.M A (tx (.ref e) en) P E s:=
 MJ mu hL uj (m.toM (m:=ct.length)) O K z fun h' a b=>h h' a (b.full (aA _))
theorem pR {fr:Option aD}{fl:List dI}{e:aD}{f:ai}{P:Unit→aH→Prop}{E:ai→aH→Prop}(mu:A.frames=some fl)
  (m:bO A own ct h₀ α s.heap) (O:gu c s.heap α H) (K:dQ c A (gL s) s.heap α) (z:iR c h₀ s.heap α e (some f))
  (h:∀h',iR c h₀ h' α e (some (fr.elim .none fun x=>ib x))→bO A own ct h₀ α h'→gu c h' α H→dQ c A (gL s) h' α→s.heap.UpToSlots h'→P () { s with heap:=h' }):bj c.M A (setFlight (.ref e) fr) P E s:=
 vL mu (m.toM (m:=ct.length)) O K z fun h' a b=>h h' a (b.full (aA _))
theorem jw {en:dI}(h:en.frame=env.frame) (e:ai):tx e env=tx e en:=by
 unfold tx PySem.frameOf
 rw[h]
theorem Ns.upTo {h h':cf}{a:aD}{m:bu→Option ai}(x:h.Ns a m) (u:h.UpToSlots h'):h'.Ns a m:=by
 refine eC x fun o es ep ho qH=>?_
 clear x
 refine bG qH fun hd r=>?_
 refine al (u a o ho fun vs q=>by rw[hd] at q;cases q) fun sl e=>?_
 exact⟨_,es,ep,e,hd,r⟩
end
end
section
open PySem PySem.W PySem.Calls PyProof.Rows
structure FO (c:Cx) (d:Nat) (A:aU) (α:Am) (H:List ag) (s:aH):Prop where
 ok:c.Ok
 r:vC d A
 h:gu c s.heap α H
 k:dQ c A (gL s) s.heap α
noncomputable def iQ:aD→Prop:=fun _=>False
inductive RO (c:Cx) (A:aU) (α:Am) (h:cf) (Q:AV→List ag→Prop) (v:ai) (s':aH):Prop
 |mk (a:AV) (bD:Am) (H':List ag) (m:bO A iQ α h bD s'.heap) (o:gu c s'.heap bD H') (k:dQ c A (gL s') s'.heap bD) (r:bM c s'.heap bD a v) (q:Q a H')
inductive Z3 (c:Cx) (A:aU) (α:Am) (h:cf) (X:List ag→Prop) (x:ai) (s':aH):Prop
 |mk (e:aD) (bD:Am) (H':List ag) (q:x=.ref e) (z:iR c h s'.heap bD e (some .none)) (m:bO A iQ α h bD s'.heap) (o:gu c s'.heap bD H') (k:dQ c A (gL s') s'.heap bD) (p:X H')
noncomputable def RG (c:Cx) (A:aU) (α:Am) (h:cf) (Q:AV→List ag→Prop) (X:List ag→Prop):sP→aH→Prop:=fun r s'=>match r with
 |.ok (.ret v)=>RO c A α h Q v s'
 |.ok _=>False
 |.error e=>Z3 c A α h X e s'
noncomputable def WC (c:Cx) (d:Nat) (f:ai) (as:List AV) (H:List ag) (Q:AV→List ag→Prop) (X:List ag→Prop):Prop:=
 ∀A α s vs,FO c d A α H s→bl c s.heap α as vs→ic c.M A (.call f ⟨vs,[]⟩) (RG c A α s.heap Q X) s
theorem vC.le {d d':Nat}{A:aU}(h:d'≤d) (r:vC d A):vC d' A:=⟨by have:=r.depth;exact aW [_,_,_] [] [.L aB aM,.T (.a cg (.m 4 aM)) (.l 1000)] (.T (.a cg (.m 4 aB)) (.l 1000)) (.k [1,1,4]) rfl h this,by have:=r.units;exact aW [_,_,_] [] [.L aB aM,.T (.a cg (.m 40 aM)) (.l 9900)] (.T (.a cg (.m 40 aB)) (.l 9900)) (.k [1,1,40]) rfl h this,r.hd⟩
theorem vC.deeper {d:Nat}{A:aU}{env:dI}(r:vC (d+1) A):vC d (A.deeper env):=by
 refine⟨?_,?_,r.hd⟩
 ·have:=r.depth;show A.depth+1+4*d<kJ;exact aW [_,_] [] [.T (.a aB (.m 4 (.a aM bP))) (.l 1000)] (.T (.a (.a aB bP) (.m 4 aM)) (.l 1000)) cK rfl this
 ·have:=r.units;show A.units+3+40*d<L5;exact aW [_,_] [] [.T (.a aB (.m 40 (.a aM bP))) (.l 9900)] (.T (.a (.a aB pQ) (.m 40 aM)) (.l 9900)) cK rfl this
theorem BU {kindOf:bu→Option bc}{x:bu}:∀{mG:List (bu×ai)}{m:bu→Option ai},x∉mG.map (·.1)→Rj kindOf mG m x=m x:=by
 intro us
 induction us with
 |nil=>
  intro _ _
  exact rfl
 |cons hd r ih=>
  obtain⟨n,v⟩:=hd
  intro m h
  unfold Rj
  rw[ih (fun q=>h (aG _ q))]
  split
  ·exact if_neg (fun q:x=n=>h (by rw[q];exact aI))
  ·rfl
theorem sq {kindOf:bu→Option bc}{x:bu}{v:ai}(hk:kindOf x=some .local):∀{mG:List (bu×ai)}{m:bu→Option ai},(mG.map (·.1)).Nodup→(x,v)∈mG→Rj kindOf mG m x=some v:=by
 intro us
 induction us with
 |nil=>
  intros;first | contradiction | simp at *
 |cons hd r ih=>
  obtain⟨n,w⟩:=hd
  intro m nd h
  unfold Rj
  simp only[bY,du] at nd
  rcases br.mp h with e | h
  ·cases e
   rw[BU nd.1,if_pos hk,if_pos rfl]
  ·exact ih nd.2 h
theorem Bz {kindOf:bu→Option bc}{x:bu}:∀{mG:List (bu×ai)}{m:bu→Option ai},x∉mG.map (·.1)→bindC kindOf mG m x=m x:=by
 intro us
 induction us with
 |nil=>
  intro _ _
  exact rfl
 |cons hd r ih=>
  obtain⟨n,v⟩:=hd
  intro m h
  unfold bindC
  rw[ih (fun q=>h (aG _ q))]
  split
  ·rfl
  ·exact if_neg (fun q:x=n=>h (by rw[q];exact aI))
theorem DP {kindOf:bu→Option bc}{x:bu}{v:ai}(hk:kindOf x≠some .local):∀{mG:List (bu×ai)}{m:bu→Option ai},(mG.map (·.1)).Nodup→(x,v)∈mG→bindC kindOf mG m x=some v:=by
 intro us
 induction us with
 |nil=>
  intros;first | contradiction | simp at *
 |cons hd r ih=>
  obtain⟨n,w⟩:=hd
  intro m nd h
  unfold bindC
  simp only[bY,du] at nd
  rcases br.mp h with e | h
  ·cases e
   rw[Bz nd.1,if_neg hk,if_pos rfl]
  ·exact ih nd.2 h
theorem wy {x:bu}:∀{names:List (bu×bc)}{n:Nat}{acc:List (bu×aD)},(acc.lookup x).isSome=true→((qa n names acc).lookup x).isSome=true:=by
 intro us
 induction us with
 |nil=>
  intro _ _ h
  exact h
 |cons hd r ih=>
  obtain⟨y,k⟩:=hd
  intro n acc h
  unfold qa
  split
  ·refine ih ?_
   rw[dK]
   split
   ·rfl
   ·exact h
  ·exact ih h
theorem qj {x:bu}:∀{names:List (bu×bc)}{n:Nat}{acc:List (bu×aD)},(x,bc.cell)∈names→((qa n names acc).lookup x).isSome=true:=by
 intro us
 induction us with
 |nil=>
  intros;first | contradiction | simp at *
 |cons hd r ih=>
  obtain⟨y,k⟩:=hd
  intro n acc h
  unfold qa
  rcases br.mp h with e | h
  ·cases e
   rw[if_pos (by decide)]
   refine wy ?_
   simp[dG]
  ·split
   ·exact ih h
   ·exact ih h
noncomputable def uA (as:List AV) (n:Nat):Loc:=as.map some++bH n none
section
variable {c:Cx}{d:Nat}{A:aU}{l l':Loc}{α bD:Am}{h h':cf}{H H':List ag}{s s':aH}
variable {Q:AV→List ag→Prop}{X:List ag→Prop}{pos:ij}
structure qk (K:gg) (f:aD) (fd:eJ) (body:List eF) (ps:List bu):Prop where
 at_:∃oc od sl,K.lookup f=some ⟨oc,od,.func fd,sl⟩
 body:fd.body=.stmts body
 clo:fd.closure=[]
 glob:fd.globals=et
 bi:fd.builtins=QC
 co:fd.scope.isCoroutine=false
 gen:fd.scope.isGenerator=false
 kind:fd.scope.kind=.function
 code:codeIn K fd.code fd.qualname=true
 nodup:(fd.scope.names.map (·.1)).Nodup
 Qp:∀p∈fd.scope.names,p.2≠.free
 par:(bh ps.length).all (fun j=>match ps[j]?,fd.scope.names[j]? with
  |some x,some (y,k)=>x==y&&(k==.local||k==.cell)
  |_,_=>false)=true
theorem qk.A6 {K:gg}{f:aD}{fd:eJ}{body:List eF}{ps:List bu}(D:qk K f fd body ps){j:Nat}{x:bu}(e:ps[j]?=some x) :
  ∃k,fd.scope.names[j]?=some (x,k)∧(k=.local∨k=.cell):=by
 have hj:j<ps.length:=(ao.mp e).1
 have:=ba.mp D.par j (dg.mpr hj)
 rw[e] at this
 cases q:fd.scope.names[j]? with
 |none=>rw[q] at this;exact fT this
 |some p=>
  obtain⟨y,k⟩:=p
  rw[q] at this
  simp only[gJ,L6,beq_iff_eq] at this
  refine bG this fun nv hk=>?_
  clear this
  subst nv
  exact⟨k,rfl,hk⟩
theorem zip_get {β γ:Type}{as:List β}:∀{bs:List γ}{j:Nat}{a:β}{b:γ},as[j]?=some a→bs[j]?=some b→(a,b)∈as.zip bs:=by
 induction as with
 |nil=>exact fun e=>nS e
 |cons x as ih=>
  intro bs j a b e e'
  cases bs with
  |nil=>exact nS e'
  |cons y bs=>cases j with
   |zero=>exact br.mpr (.inl (congr (congrArg Prod.mk (ae e).symm) (ae e').symm))
   |succ j=>exact aG _ (ih (j:=j) e e')
theorem Ka {β γ:Type}{as:List β}:∀{bs:List γ}{a:β}{b:γ},(a,b)∈as.zip bs→∃j:Nat,as[j]?=some a∧bs[j]?=some b:=by
 induction as with
 |nil=>exact fun h=>nomatch h
 |cons x as ih=>
  intro bs a b h
  cases bs with
  |nil=>exact absurd h bZ
  |cons y bs=>exact(br.mp h).elim (fun e=>⟨0,congrArg (fun p:β×γ=>some p.1) e.symm,congrArg (fun p:β×γ=>some p.2) e.symm⟩) fun h=>aq (ih h) fun j e1 e2=>⟨j+1,e1,e2⟩
theorem qk.G8 {K:gg}{f:aD}{fd:eJ}{body:List eF}{ps:List bu}(D:qk K f fd body ps):ps.Nodup:=by
 have TJ:ps=(fd.scope.names.map (·.1)).take ps.length:=by
  apply Jc
  intro j
  by_cases hj:j<ps.length
  ·refine aq (D.A6 (aw hj)) fun k e _=>?_
   rw[yQ hj,aK,e,aw hj];rfl
  ·rw[cH (by exact aR hj),cH (by rw[cj];exact aW [_,_,_,_] [] [.N (.T aB aM),.fm cg aM fz] (.L cg aB) (.o jN (.k [1,1,1,0,1])) rfl hj (AH _ _))]
 rw[TJ]
 exact D.nodup.sublist (List.take_sublist _ _)
noncomputable def qE (Q:AV→List ag→Prop):AF→Loc→List ag→Prop
 |.ret a,_,H=>Q a H
 |_,_,H=>Q .none H
noncomputable def Zl (c:Cx) (h:cf) (α:Am) (a:AV):AA→Prop
 |.ret v=>bM c h α a v
 |_=>a=.none
inductive HV (c:Cx) (A:aU) (env:dI) (α:Am) (h:cf) (Q:AV→List ag→Prop) (f:AA) (s':aH):Prop
 |mk (a:AV) (bD:Am) (H':List ag) (m:bO A (cz env) α h bD s'.heap) (o:gu c s'.heap bD H') (k:dQ c A (gL s') s'.heap bD) (r:Zl c s'.heap bD a f) (q:Q a H')
theorem te.toR {env:dI}{f:AA}(p:te c d A env α h (qE Q) f s'):HV c A env α h Q f s':=by
 obtain⟨af,l₂,bE,eY,cW,cB,fr,q⟩:=p
 cases af with
 |next=>cases fr;exact⟨.none,bE,eY,cW,cB.h,cB.k,rfl,q⟩
 |brk=>cases fr;exact⟨.none,bE,eY,cW,cB.h,cB.k,rfl,q⟩
 |cont=>cases fr;exact⟨.none,bE,eY,cW,cB.h,cB.k,rfl,q⟩
 |ret a=>refine aq fr fun v lC rv=>?_;clear fr;subst lC;exact⟨a,bE,eY,cW,cB.h,cB.k,rv,q⟩
theorem WC.Qs {K:gg}(hK:c.K=K){f:aD}{fd:eJ}{body:List eF}{ps:List bu}(D:qk K f fd body ps){as as':List AV}
  (qw:as'.length=ps.length)
  (hb:∀(α:Am) (s:aH) (vs:List ai),FO c (d+1) A α H s→bl c s.heap α as vs→∃y0,bl c s.heap α as' y0∧wL s fd ⟨vs,[]⟩ (ps.zip y0))
  (w:∀A env,env.scope=fd.scope→env.frame=some env.locals→∀α s,Inv c d A env (uA as' (fd.scope.names.length-as'.length)) α H s→bj c.M A (execs body env) (HV c A env α s.heap Q) (kG c A env α s.heap X) s) :
  ∀α s vs,FO c (d+1) A α H s→bl c s.heap α as vs→ic c.M A (.call (.ref f) ⟨vs,[]⟩) (RG c A α s.heap Q X) s:=fun α s vs I r=>by
 subst hK
 have ql:=I.ok.X.keeps I.h.base
 refine fW D.at_ fun oc od jZ=>?_
 refine al jZ fun sl Nj=>?_
 refine aq (hb α s vs I r) fun y0 r' TY=>?_
 have hvl:y0.length=ps.length:=by rw[r'.length,qw]
 have Bo:s.heap.NoLimit:=I.ok.T.nolimit.keeps I.h.base
 refine JD (by have:=I.r.depth;exact aW [_,_] [] [.T (.a aB (.m 4 (.a aM bP))) (.l 1000)] (.T aB (.l 1000)) cK rfl this) (ql _ _ Nj) rfl D.co D.gen D.body (codeRec_of ql D.code) (TY _ _ _ _ ?_)
 have hkb:∀x∈ps.zip y0,fd.scope.names.lookup x.1=some .local∨(fd.scope.names.lookup x.1=some .cell∧((qa (s.heap.objs.size+1) fd.scope.names []).lookup x.1).isSome=true):=by
  rintro⟨x,v⟩ hx
  refine aq (Ka hx) fun j e1 e2=>?_
  refine aq (D.A6 e1) fun k e3 hk=>?_
  have lk:=cX D.nodup e3
  rcases hk with rfl | rfl
  ·exact .inl lk
  ·exact .inr ⟨lk,qj (a9 e3)⟩
 rw[D.clo]
 refine Ci D.kind hkb fun env he bf x=>⟨Bo.keeps x.toInCall.keep,codeAny_func ?_⟩
 have keep:=x.toInCall.keep
 have zj:gL bf=gL s:=by refine cD x.done fun h' tk e _=>?_;rw[e]
 have hL:env.locals=s.heap.objs.size:=by rw[he];rfl
 have w6:env.scope=fd.scope:=by rw[he];rfl
 have V8:env.cells=qa (s.heap.objs.size+1) fd.scope.names []:=by rw[he];rfl
 have BA:env.frame=some env.locals:=by rw[he];rfl
 have Vb:∀y,env.kindOf y=fd.scope.names.lookup y:=fun y=>by rw[he];rfl
 have fresh:∀{b},s.heap.objs.size≤b→¬iU α b∧c.hb.get? b=none∧s.heap.get? b=none:=fun{b} yO=>by
  have e:s.heap.get? b=none:=gk yO
  refine⟨I.h.live e,?_,e⟩
  cases q:c.hb.get? b with
  |none=>rfl
  |some o=>rw[I.h.base b o q] at e;exact nS (fZ e)
 have above:∀{y b},env.cells.lookup y=some b→s.heap.objs.size≤b∧b≠env.locals:=fun{y b} e=>by
  have h1:env.locals<b:=x.above y b (mem_of_lookup e)
  exact⟨by rw[←hL];exact dC h1,gY h1⟩
 have eok:GU env:=⟨w6▸D.kind,by rw[he];exact D.glob,by rw[he];exact D.bi,w6▸D.nodup,fun{y z b} e1 e2=>name_of_addr x.apart (mem_of_lookup e1) (mem_of_lookup e2),fun e=>(above e).2,⟨_,BA⟩⟩
 have jM:∀{b},cz env b→s.heap.objs.size≤b:=fun{b} q=>by
  rcases q with rfl | ⟨_,_,y,_,_,_,e⟩
  ·rw[hL];exact aA _
  ·exact(above e).1
 refine aL I.k.fr fun lf mu Fs nfr=>?_
 have EJ:(A.deeper env).frames=some (env::lf):=aU.frames_deeper mu
 have m1:bO (A.deeper env) (cz env) α s.heap α bf.heap:=⟨id,.inl,fun e=>⟨_,keep _ _ e⟩,fun e _ _ _=>keep _ _ e,fun{_ o} e _ _=>⟨o.slots,keep _ _ e⟩⟩
 have O1:gu c bf.heap α H:=I.h.keeps fun b o=>keep b o
 have r1:bl c bf.heap α as' y0:=r'.carry id fun t=>t.keeps keep
 have GF:∀{i:Nat}{y:bu}{k:bc}{v:AV},env.scope.names[i]?=some (y,k)→(uA as' (fd.scope.names.length-as'.length))[i]?=some (some v)→∃val,(y,val)∈ps.zip y0∧bM c bf.heap α v val:=by
  intro i y k v e1 e2
  unfold uA at e2
  by_cases hi:i<as'.length
  ·rw[aC (by simpa using hi),aK] at e2
   rw[aw hi] at e2
   have hv:as'[i]?=some v:=by
    rw[aw hi]
    simpa using e2
   refine aq (r1.get hv) fun val e3 r3=>?_
   have Jr:i<ps.length:=qw▸hi
   refine aq (D.A6 (aw Jr)) fun k' e4 _=>?_
   rw[w6,e4] at e1
   cases e1
   exact⟨val,zip_get (aw Jr) e3,r3⟩
  ·rw[aY (by simpa using hi)] at e2
   have:=a9 e2
   simp at this
 have HX:((ps.zip y0).map (·.1)).Nodup:=by
  rw[List.map_fst_zip (by exact aW [_,_] [] [.E aB aM] (.L aM aB) cN rfl hvl)];exact D.G8
 have F1:pk c env bf.heap α (uA as' (fd.scope.names.length-as'.length)):=by
  refine⟨⟨_,x.toInCall.ns,fun{i y v} e1 e2=>?_⟩,fun{i y k} e1 hk=>?_,?_,?_⟩
  ·refine aq (GF e1 e2) fun val hm rv=>?_
   exact⟨val,sq (by rw[Vb];exact cX D.nodup (w6▸e1)) HX hm,rv⟩
  ·have hkc:k=.cell:=by
    rcases hk with rfl | rfl
    ·rfl
    ·exact absurd rfl (D.Qp _ (a9 (w6▸e1)))
   subst hkc
   have hs:=qj (n:=s.heap.objs.size+1) (acc:=[]) (a9 (w6▸e1))
   refine al (xq.mp hs) fun b nZ=>?_
   have YU:env.cells.lookup y=some b:=V8▸nZ
   have fr:=fresh (above YU).1
   refine⟨b,_,YU,x.cell y b YU,fr.1,fr.2.1,fun{v} e2=>?_⟩
   refine aq (GF e1 e2) fun val hm rv=>?_
   exact⟨val,DP (by rw[Vb,cX D.nodup (w6▸e1)];decide) HX hm,rv⟩
  ·exact(fresh (by rw[hL];exact aA _)).1
  ·exact(fresh (by rw[hL];exact aA _)).2.1
 have K1:dQ c (A.deeper env) (gL bf) bf.heap α:=by
  refine⟨⟨_,EJ,.cons (by rw[w6,D.kind];decide) BA x.toInCall.ns F1.new (Fs.of_keeps fun b o e _=>⟨o,keep _ _ e,rfl⟩),fun en he b hb=>?_⟩,zj.trans I.k.la⟩
  rcases br.mp he with e | he
  ·rw[e,BA] at hb;replace hb:=ae hb;subst hb;exact F1.no
  ·exact nfr en he b hb
 have I1:Inv c d (A.deeper env) env (uA as' (fd.scope.names.length-as'.length)) α H bf:=⟨I.ok,eok,I.r.deeper,⟨env,lf,EJ,rfl⟩,O1,F1,K1⟩
 -- R2 is shown of the Z6,told VU
 have out:∀{bD h'},bO (A.deeper env) (cz env) α bf.heap bD h'→bO A iQ α s.heap bD h':=fun{bD h'} m2=>by
  have m:=m1.trans m2
  have no:∀{b o},s.heap.get? b=some o→¬cz env b:=fun{b o} e q=>absurd (bU e) (Jd.mpr (jM q))
  refine⟨m.pre,m.fresh,m.alive,fun{b o} e n1 _ n3=>m.keep e n1 (no e) fun q=>?_,fun{b o} e n1 _=>m.slot e n1 (no e)⟩
  obtain⟨l2,en,q1,q2,q3⟩:=q
  rw[EJ] at q1;replace q1:=ae q1;subst q1
  rcases br.mp q2 with e2 | q2
  ·rw[e2,BA] at q3;replace q3:=ae q3;subst q3;exact no e (.inl rfl)
  ·exact n3 ⟨lf,en,mu,q2,q3⟩
 have NC:∀{g bD h'},dQ c (A.deeper env) g h' bD→dQ c A g h' bD:=fun{g bD h'} k=>by
  refine aL k.fr fun l2 q1 q2 q3=>?_
  rw[EJ] at q1;replace q1:=ae q1;subst q1
  exact⟨⟨lf,mu,q2.2.2,fun en he=>q3 en (.tail _ he)⟩,k.la⟩
 refine au (w (A.deeper env) env w6 BA α bf I1) (fun fl cY ⟨a,bE,eY,cW,Sh,Ab,fr,q⟩=>?_) fun e cY ⟨e',flx,bE,eY,q1,q2,q3,q4,q5,q6,q7,mm,q8⟩=>?_
 ·cases fl with
  |ret v=>exact⟨a,bE,eY,out cW,Sh,NC Ab,fr,q⟩
  |_=>subst fr;exact⟨.none,bE,eY,out cW,Sh,NC Ab,xh,q⟩
 ·subst q1
  refine leave (own:=iQ) (h₀:=s.heap) (ct:=α) EJ BA q2 ?_ q5 q6 (q3.back m1) fun h3 z3 m3 O3 K3=>?_
  ·have m:=m1.trans q4
   refine⟨m.pre,m.fresh,m.alive,fun{b o} e n1 _ n3=>m.keep e n1 (fun q=>absurd (bU e) (Jd.mpr (jM q))) n3,fun{b o} e n1 _=>m.slot e n1 fun q=>absurd (bU e) (Jd.mpr (jM q))⟩
  ·refine⟨e',bE,eY,rfl,z3,?_,O3,NC K3,q7⟩
   refine⟨m3.pre,m3.fresh,m3.alive,fun{b o} e n1 n2 n3=>m3.keep e n1 n2 fun q=>?_,m3.slot⟩
   obtain⟨l2,en,y1,y2,y3⟩:=q
   rw[EJ] at y1;replace y1:=ae y1;subst y1
   rcases br.mp y2 with e2 | y2
   ·rw[e2,BA] at y3;replace y3:=ae y3;subst y3
    exact absurd (bU e) (by rw[hL];exact gq _)
   ·exact n3 ⟨lf,en,mu,y2,y3⟩
end
end
section
open PySem PySem.W PySem.Calls PyProof.Rows
inductive RA (c:Cx) (d:Nat) (A:aU) (env:dI) (l:Loc) (α:Am) (h:cf) (Q:List AV→List ag→Prop) (vs:List ai) (s':aH):Prop
 |mk (as:List AV) (bD:Am) (H':List ag) (m:bO A (cz env) α h bD s'.heap) (i:Inv c d A env l bD H' s') (r:bl c s'.heap bD as vs) (q:Q as H')
noncomputable def WA (c:Cx) (d:Nat) (A:aU) (env:dI) (es:List Expr) (l:Loc) (H:List ag) (Q:List AV→List ag→Prop) (X:List ag→Prop):Prop:=
 ∀α s,Inv c d A env l α H s→bj c.M A (spliced (es.map fun e=>(false,gr e env))) (RA c d A env l α s.heap Q) (kG c A env α s.heap X) s
section
variable {c:Cx}{d:Nat}{A:aU}{env:dI}{l l':Loc}{α bD:Am}{h h':cf}{H H':List ag}{s s':aH}
variable {Q:AV→List ag→Prop}{X:List ag→Prop}{pos:ij}
theorem WA.nil {Q:List AV→List ag→Prop}(q:Q [] H):WA c d A env [] l H Q X:=fun α s I=>L7 ⟨[],α,H,.refl ..,I,jD,q⟩
theorem WA.cons {e:Expr}{es:List Expr}{Q:List AV→List ag→Prop}(w:WE c d A env e l H (fun a H1=>WA c d A env es l H1 (fun as H2=>Q (a::as) H2) X) X):WA c d A env (e::es) l H Q X:=fun α s I=>by
 refine spliced_cons (au (w α s I) (fun v bf eS=>?_) fun _ _ e=>e)
 obtain⟨a,aP,H₁,b0,bp,fH,xD⟩:=eS
 refine au (xD aP bf bp) (fun vs cY eS=>?_) fun _ _ e=>e.weak b0
 obtain⟨as,bE,eY,cW,cB,jr,pV⟩:=eS
 exact⟨a::as,bE,eY,b0.trans cW,cB,eD (fH.mono cW bp.h bp.solid) jr,pV⟩
theorem kb {M:Fp}{E:ai→aH→Prop}{f:ai}{P:Args→aH→Prop}:∀{es:List Expr},bj M A (spliced (es.map fun e=>(false,gr e env))) (fun vs s'=>P ⟨vs,[]⟩ s') E s →
  bj M A (evalArgs f true (es.map fun e=>(false,gr e env)) []) P E s
 |[],h=>by
  unfold evalArgs
  show bj M A (spliced [] >>= _) _ _ _
  refine ak (au h (fun vs s' h'=>?_) fun _ _ x=>x)
  refine cv ?_
  exact ak (aQ (ak (aQ (aQ h'))))
 |_::_,h=>evalArgs_plain h
noncomputable def gV (c:Cx) (v:ai):Prop:=Qz c.K v=true∨(∃id,v=.builtin id)∨∃T,v=.type T
theorem gV.CO {v:ai}(k:gV c v){M:Fp}(h:cf) (X:c.K.In h):∃k,(k=Keeper.frame∨k=Keeper.machine∨k=Keeper.boundFrame)∧Looks M h (keeperOf v) k:=by
 rcases k with k | ⟨id,rfl⟩ | ⟨T,rfl⟩
 ·exact keeps_K k h X
 ·exact⟨.machine,.inr (.inl rfl),Nv rfl⟩
 ·exact⟨.machine,.inr (.inl rfl),Nv rfl⟩
theorem MR {v:ai}{first:List ai}{as0:List AV}{es:List Expr}(k:gV c v) (I:Inv c d A env l α H s) (r0:bl c s.heap α as0 first)
  (i4:mB pos (dS es env)=es.map fun e=>(false,gr e env))
  (w:WA c d A env es l H (fun as H2=>WV c d A env (fun vs=>PySem.call v vs) (as0++as) l H2 Q X) X) :
  bj c.M A (lU pos v first (mB pos (dS es env)) []) (pU c d A env l α s.heap Q) (kG c A env α s.heap X) s:=by
 rw[i4]
 refine yR (P:=fun h=>c.K.In h) (by simp) (fun h X=>k.CO h X) (kb ?_)
 refine au (w α s I) (fun vs bf ⟨as,aP,H₁,b0,bp,fH,xD⟩=>⟨bp.ql,?_⟩) fun _ _ e=>e
 exact oV b0 (xD aP bf (first++vs) bp ((r0.mono b0 I.h I.solid).append fH))
theorem oH {es:List Expr}(h:dS es env=es.map fun e=>(false,gr e env)):mB pos (dS es env)=es.map fun e=>(false,gr e env):=by
 rw[h]
 unfold mB
 rw[dy]
 rfl
theorem WE.call {f:Expr}{es:List Expr}(w:WE c d A env f l H (fun a H1=>∃v,a=.fix v∧gV c v∧WA c d A env es l H1 (fun as H2=>WV c d A env (fun vs=>PySem.call v vs) as l H2 Q X) X) X)
  (Iu:gr (.Call f es [] pos) env=(do lU pos (←gr f env) [] (mB pos (dS es env)) [])) (i4:dS es env=es.map fun e=>(false,gr e env)) :
  WE c d A env (.Call f es [] pos) l H Q X:=fun α s I=>by
 rw[Iu]
 refine ak (au (w α s I) (fun v bf p=>?_) fun _ _ e=>e)
 obtain⟨a,aP,H₁,b0,bp,fH,v',rfl,k,xD⟩:=p
 cases fH.fix
 exact oV b0 (MR (as0:=[]) k bp jD (oH i4) xD)
theorem bO.toOwn {own:aD→Prop}(m:bO A iQ α h bD h'):bO A own α h bD h':=⟨m.pre,m.fresh,m.alive,fun e n1 _ n3=>m.keep e n1 id n3,fun e n1 _=>m.slot e n1 id⟩
theorem eM.no (h:cf):eM h iQ:=fun _ x=>x.elim
theorem WV.ofC {d':Nat}{f:ai}{as:List AV}(w:WC c d' f as H Q X) (hd:d'≤d):WV c d A env (fun vs=>PySem.call f vs) as l H Q X:=fun α s vs I r=>by
 refine QF (qT (w A α s vs ⟨I.ok,I.r.le hd,I.h,I.k⟩ r) fun Jp bf p=>?_)
 rcases Jp with x | (v | _ | _ | _)<;>first | exact p.elim | skip
 rotate_left
 ·obtain⟨a,aP,H₁,m,O,K,rv,q⟩:=p
  exact⟨a,aP,H₁,m.toOwn,⟨I.ok,I.e,I.r,I.top,O,I.f.keep m I.h (eM.no _) id (fun _ _ _ _ _ _ _=>id),K⟩,rv,q⟩
 ·obtain⟨e,aP,H₁,rfl,z,m,O,K,q⟩:=p
  refine aq ((I.f.keep m I.h (eM.no _) id fun _ _ _ _ _ _ _=>id).ns) fun mm ua _=>?_
  exact⟨e,_,aP,H₁,rfl,.inr (.inl rfl),z,m.toOwn,O,K,q,mm,ua⟩
theorem WE.ZH {o:Expr}{name:bu}{oR:ij}{es:List Expr}{pl:rU Bool}
  (Iu:gr (.Call (.Attribute o name oR) es [] pos) env=(do
   let ov ←gr o env
   qU oR.atName
   let(f,first) ←lJ [ov] (kj ov name pl)
   lU pos f first (mB pos (dS es env)) (Cj pos (sQ [] env))))
  (i4:dS es env=es.map fun e=>(false,gr e env))
  (w:WE c d A env o l H (fun a H1=>∃v,gV c v ∧
   (∀α s x,Inv c d A env l α H1 s→bM c s.heap α a x→∀P:ai×List ai→aH→Prop,∀E,P (v,[x]) s→bj c.M A (kj x name pl) P E s) ∧
   WA c d A env es l H1 (fun as H2=>WV c d A env (fun vs=>PySem.call v vs) (a::as) l H2 Q X) X) X) :
  WE c d A env (.Call (.Attribute o name oR) es [] pos) l H Q X:=fun α s I=>by
 rw[Iu]
 refine ak (au (w α s I) (fun x bf SW=>?_) fun _ _ e=>e)
 obtain⟨a,aP,H₁,b0,bp,fH,jc⟩:=SW
 refine aL jc fun v k hm xD=>?_
 refine ak (iB (ak (cv ?_)))
 refine hm aP bf x bp fH _ _ ?_
 exact oV b0 (MR (as0:=[a]) k bp (eD fH jD) (oH i4) xD)
theorem lA.Bg {C:aD}{fs:List (bu×AV)}{p:aD×aD}(r:lA c h α p (.inst C fs)):∃es n sl,InstAt h p.1 ⟨.ref C,some p.2,.plain,sl⟩ C (some (dictOf es n))∧eN c h α fs es:=by
 obtain⟨es,n,sl,h1,h2,r⟩:=r
 exact⟨es,n,sl,⟨h1,rfl,rfl,h2⟩,r⟩
theorem gu.look (O:gu c h α H){n:Nat}{x:ag}(e:H[n]?=some x){v:ai}(r:bM c h α (.obj n) v):∃p,α[n]?=some p∧v=.ref p.1∧lA c h α p x:=by
 refine aq r.obj fun p e' nv=>?_
 subst nv
 exact⟨p,e',rfl,O.cell e e'⟩
theorem eN.get {name:bu}:∀{fs:List (bu×AV)}{es:List eo},eN c h α fs es →
  match fs.lookup name with
  |some a=>∃v,getL name es=some (some v)∧bM c h α a v
  |none=>getL name es=some none:=by
 intro us
 induction us with
 |nil=>
  intro es r
  subst r
  rfl
 |cons hd xs ih=>
  obtain⟨k,x⟩:=hd
  intro es r
  refine cy r fun e r' t lC hk rv rr=>?_
  clear r
  subst lC
  have ih:=ih rr
  have hb:e.key.isStr name=(k==name):=by rw[hk];rfl
  by_cases q:name=k
  ·subst q
   simp only[dG,beq_self_eq_true]
   refine⟨e.val,?_,rv⟩
   unfold getL
   rw[wc,hb,beq_self_eq_true]
  ·have q1:(name==k)=false:=beq_eq_false_iff_ne.mpr q
   have q2:(k==name)=false:=beq_eq_false_iff_ne.mpr (gS q)
   have hr:e.refKey=false:=by unfold eo.refKey;rw[hk]
   have:getL name (e::r')=getL name r':=by
    unfold getL
    rw[wc,hb,q2,rQ,hr,ni]
   simp only[dG,q1,this]
   exact ih
end
end
section
open PySem PySem.W PySem.Calls PyProof.Rows
section
variable {c:Cx}{d:Nat}{A:aU}{env:dI}{l l':Loc}{α bD:Am}{h h':cf}{H H':List ag}{s s':aH}
variable {Q:AV→List ag→Prop}{X:List ag→Prop}{pos:ij}{own:aD→Prop}
theorem kq {b:aD}(hb:iU α b) (hs:dz b h h') (ha:∃o,h'.get? b=some o):bO A own α h α h':=by
 refine⟨id,.inl,fun{x o} e=>?_,fun{x o} e n _ _=>?_,fun{x o} e n _=>⟨o.slots,?_⟩⟩
 ·by_cases q:x=b
  ·subst q;exact ha
  ·exact⟨o,(hs.2 x q).trans e⟩
 ·exact(hs.2 x fun q=>n (q▸hb)).trans e
 ·exact(hs.2 x fun q=>n (q▸hb)).trans e
theorem oL {n:Nat}{p:aD×aD}(e:α[n]?=some p):iU α p.1∧iU α p.2:=⟨⟨n,p,e,.inl rfl⟩,⟨n,p,e,.inr rfl⟩⟩
theorem gu.upd {n:Nat}{p:aD×aD}{b:aD}{x:ag}(O:gu c h α H) (e:α[n]?=some p) (hb:b=p.1∨b=p.2) (hs:dz b h h') (ha:∃o,h'.get? b=some o) (cr:lA c h' α p x):gu c h' α (H.set n x):=by
 have ad:iU α b:=⟨n,p,e,hb⟩
 have m:bO ({}:aU) iQ α h α h':=kq ad hs ha
 have tk:∀{a:aD}{items:Array ai},dq h a items→dq h' a items:=fun t=>m.tup O (eM.no h) t
 refine⟨by rw[dH];exact O.len,fun{k y q} e1 e2=>?_,O.apart,fun y o e1=>?_,O.new⟩
 ·by_cases hk:n=k
  ·subst hk
   rw[e] at e2;replace e2:=ae e2;subst e2
   have:n<H.length:=by rw[←O.len];exact(ao.mp e).1
   rw[ew this] at e1
   replace e1:=ae e1;subst e1;exact cr
  ·rw[cO hk] at e1
   have ap:=O.apart e e2 hk
   refine(O.cell e1 e2).qm id tk fun y o q ho=>(hs.2 y fun z=>?_).trans ho
   rcases hb with rfl | rfl<;>rcases q with rfl | rfl
   ·exact ap.1 z.symm
   ·exact ap.2.1 z.symm
   ·exact ap.2.2.1 z.symm
   ·exact ap.2.2.2 z.symm
 ·exact(hs.2 y fun q=>by subst q;rw[O.new y ad] at e1;exact nS e1).trans (O.base _ _ e1)
theorem Inv.upd {n:Nat}{p:aD×aD}{b:aD}{x:ag}(I:Inv c d A env l α H s) (e:α[n]?=some p) (hb:b=p.1∨b=p.2) (hs:dz b s.heap s'.heap) (ha:∃o,s'.heap.get? b=some o) (cr:lA c s'.heap α p x) (zj:gL s'=gL s:=by rfl) :
  bO A (cz env) α s.heap α s'.heap∧Inv c d A env l α (H.set n x) s':=by
 have ad:iU α b:=⟨n,p,e,hb⟩
 have m:bO A iQ α s.heap α s'.heap:=kq ad hs ha
 exact⟨m.toOwn,I.next m.toOwn (I.h.upd e hb hs ha cr) (I.f.keep m I.h (eM.no _) id fun _ _ _ _ _ _ _=>id) zj⟩
theorem iY {β:Type}{xs:List β}{y:β}{n:Nat}{x:β}(e:xs[n]?=some x):(xs++[y])[n]?=some x:=by
 rw[aC (ao.mp e).1];exact e
theorem ny {β:Type}{xs:List β}{y:β}{n:Nat}{x:β}(e:(xs++[y])[n]?=some x):xs[n]?=some x∨(n=xs.length∧x=y):=by
 by_cases h:n<xs.length
 ·rw[aC h] at e;exact .inl e
 ·rw[aY (by exact aR h)] at e
  have:n-xs.length=0:=by
   cases q:n-xs.length with
   |zero=>rfl
   |succ k=>rw[q] at e;simp at e
  rw[this] at e
  replace e:=ae e
  subst e
  exact .inr ⟨by exact aW [_,_,_] [] [.N (.T aB aM),.E cg dF,.fs cg aB aM] (.E aB aM) (.o (.o (.k [1,0,0,0,0,0,1]) n8) (.o (.k [1,0,0,0,0,0,1]) cK)) rfl h this (eV _ _),rfl⟩
theorem FZ {p:aD×aD}{b:aD}(a:iU (α++[p]) b):iU α b∨b=p.1∨b=p.2:=by
 obtain⟨n,q,e,hb⟩:=a
 rcases ny e with e | ⟨_,rfl⟩
 ·exact .inl ⟨n,q,e,hb⟩
 ·exact .inr hb
theorem gu.alloc {p:aD×aD}{x:ag}(O:gu c h α H) (hk:∀b o,h.get? b=some o→h'.get? b=some o) (n1:h.get? p.1=none) (n2:h.get? p.2=none)
  (cr:lA c h' (α++[p]) p x):bO A iQ α h (α++[p]) h'∧gu c h' (α++[p]) (H++[x]):=by
 have old:∀{b},iU (α++[p]) b→iU α b∨h.get? b=none:=fun{b} a=>(FZ a).imp id fun q=>q.elim (fun q=>q▸n1) fun q=>q▸n2
 have live:∀{b},iU α b→b≠p.1∧b≠p.2:=fun{b} a=>by
  refine aq (O.at a) fun o ho _=>?_
  exact⟨(fun q=>by rw[q,n1] at ho;exact nS ho),(fun q=>by rw[q,n2] at ho;exact nS ho)⟩
 have ap:∀{i:Nat}{q:aD×aD},α[i]?=some q→(q.1≠p.1∧q.1≠p.2)∧q.2≠p.1∧q.2≠p.2:=fun e=>⟨live (oL e).1,live (oL e).2⟩
 refine⟨⟨fun e=>iY e,old,fun e=>⟨_,hk _ _ e⟩,fun e _ _ _=>hk _ _ e,fun{_ o} e _ _=>⟨o.slots,hk _ _ e⟩⟩,
  ⟨by rw[ah,ah,O.len];rfl,fun{k y q} e1 e2=>?_,fun{i j q r} e1 e2 hij=>?_,fun b o e=>hk _ _ (O.base b o e),fun b a=>?_⟩⟩
 ·rcases ny e2 with e2 | ⟨hk1,hq⟩
  ·rw[aC (by rw[←O.len];exact(ao.mp e2).1)] at e1
   exact(O.cell e1 e2).qm iY (fun t=>t.keeps hk) fun b o _=>hk b o
  ·rw[hk1,O.len,aY (aA _),gZ] at e1
   replace e1:=ae e1
   subst e1
   exact hq▸cr
 ·rcases ny e1 with f1 | ⟨h1,q1⟩<;>rcases ny e2 with f2 | ⟨h2,q2⟩
  ·exact O.apart f1 f2 hij
  ·have a:=ap f1
   exact q2▸⟨a.1.1,a.1.2,a.2.1,a.2.2⟩
  ·have a:=ap f2
   exact q1▸⟨gS a.1.1,gS a.2.1,gS a.1.2,gS a.2.2⟩
  ·exact absurd (h1.trans h2.symm) hij
 ·rcases old a with a | a
  ·exact O.new b a
  ·cases q:c.hb.get? b with
   |none=>rfl
   |some o=>rw[O.base _ _ q] at a;exact nS (fZ a)
theorem Inv.alloc {p:aD×aD}{x:ag}(I:Inv c d A env l α H s) (hk:∀b o,s.heap.get? b=some o→s'.heap.get? b=some o) (n1:s.heap.get? p.1=none) (n2:s.heap.get? p.2=none)
  (cr:lA c s'.heap (α++[p]) p x) (zj:gL s'=gL s:=by rfl):bO A (cz env) α s.heap (α++[p]) s'.heap∧Inv c d A env l (α++[p]) (H++[x]) s':=
 have⟨m,O⟩:=I.h.alloc (A:=A) hk n1 n2 cr
 ⟨m.toOwn,I.next m.toOwn O (I.f.keep m I.h (eM.no _) id fun _ _ _ _ _ _ _=>id) zj⟩
theorem Inv.grow (I:Inv c d A env l α H s) (hk:∀b o,s.heap.get? b=some o→s'.heap.get? b=some o) (zj:gL s'=gL s:=by rfl):bO A (cz env) α s.heap α s'.heap∧Inv c d A env l α H s':=by
 have m:bO A iQ α s.heap α s'.heap:=⟨id,.inl,fun e=>⟨_,hk _ _ e⟩,fun e _ _ _=>hk _ _ e,fun{_ o} e _ _=>⟨o.slots,hk _ _ e⟩⟩
 exact⟨m.toOwn,I.next m.toOwn (I.h.same m (eM.no _) I.k (fun _ q=>q.elim) fun b o _ e=>hk b o e) (I.f.keep m I.h (eM.no _) id fun _ _ _ _ _ _ _=>id) zj⟩
theorem gf {o:ow}:∀b o',h.get? b=some o'→(h.push o).get? b=some o':=fun _ _ e=>aT _ e
theorem bR:h.get? h.objs.size=none:=gk (aA _)
theorem Inv.newList {vs:List ai}{as:List AV}(I:Inv c d A env l α H s) (r:bl c s.heap α as vs) (q:Q (.obj H.length) (H++[.list as])) :
  pU c d A env l α s.heap Q (.ref s.heap.objs.size) { s with heap:=s.heap.push { cls:=.type "list",data:=.seq vs.toArray } }:=by
 obtain⟨m,I'⟩:=I.alloc (s':={ s with heap:=s.heap.push { cls:=.type "list",data:=.seq vs.toArray } }) (p:=(s.heap.objs.size,s.heap.objs.size)) (x:=.list as) gf bR bR
  ⟨vs.toArray,0,aX _ rfl,by simpa using r.carry iY fun t=>t.push _,rfl⟩
 refine⟨.obj H.length,_,_,m,I',?_,q⟩
 have:(α++[(s.heap.objs.size,s.heap.objs.size)])[H.length]?=some (s.heap.objs.size,s.heap.objs.size):=by rw[←I.h.len];simp
 exact yi this
theorem Inv.xw {vs:List ai}{as:List AV}(I:Inv c d A env l α H s) (r:bl c s.heap α as vs) (q:Q (.tup as) H) :
  pU c d A env l α s.heap Q (.ref s.heap.objs.size) { s with heap:=s.heap.push { cls:=.type "tuple",data:=.seq vs.toArray } }:=by
 obtain⟨m,I'⟩:=I.grow (s':={ s with heap:=s.heap.push { cls:=.type "tuple",data:=.seq vs.toArray } }) gf
 exact⟨.tup as,α,H,m,I',Sv (.new _ _) (by simpa using r.carry id fun t=>t.push _),q⟩
theorem WE.tup {es:List Expr}{k:Nat}(i4:dS es env=es.map fun e=>(false,gr e env)) (w:WA c d A env es l H (fun as H'=>as.length≤1000∧Q (.tup as) H') X):WE c d A env (.Tuple es k pos) l H Q X:=fun α s I=>by
 refine wpAny_Tuple ?_
 rw[oH i4]
 refine au (w α s I) (fun vs bf ⟨as,aP,H₁,m,bp,r,hq,q⟩=>⟨?_,(bp.xw r q).weak m⟩) fun _ _ e=>e
 rw[r.length,cx];exact ca hq rfl
theorem WE.list {es:List Expr}(i4:dS es env=es.map fun e=>(false,gr e env)) (w:WA c d A env es l H (fun as H'=>as.length≤1000∧Q (.obj H'.length) (H'++[.list as])) X):WE c d A env (.List es pos) l H Q X:=fun α s I=>by
 refine wpAny_List ?_
 rw[oH i4]
 refine au (w α s I) (fun vs bf ⟨as,aP,H₁,m,bp,r,hq,q⟩=>⟨?_,(bp.newList r q).weak m⟩) fun _ _ e=>e
 rw[r.length,cx];exact ca hq rfl
theorem WE.Su (q:Q (.obj H.length) (H++[.dict []])):WE c d A env (.Dict [] [] pos) l H Q X:=fun α s I=>by
 refine wpAny_Dict_empty ?_
 have kT:s.heap.objs.size≠gh:=fun q=>by
  have h1:s.heap.Ns cStatics _:=(I.ok.T.nolimit.keeps I.h.base).choose_spec.1
  have:=h1.lt
  rw[q] at this
  exact absurd this (by decide)
 obtain⟨m,I'⟩:=I.alloc (s':={ s with heap:=s.heap.push { cls:=.type "dict",data:=.dict #[] } }) (p:=(s.heap.objs.size,s.heap.objs.size)) (x:=.dict []) gf bR bR
  ⟨[],⟨_,#[],0,aX _ rfl,⟨rfl,rfl,rfl⟩,rfl,fun e he=>by simp at he,.nil,gF⟩,rfl,rfl,by simpa using kT⟩
 have:(α++[(s.heap.objs.size,s.heap.objs.size)])[H.length]?=some (s.heap.objs.size,s.heap.objs.size):=by rw[←I.h.len];simp
 exact⟨.obj H.length,_,_,m,I',yi this,q⟩
structure yr (K:gg) (C:aD) (name:bu):Prop where
 get:L0 K C name=true
 dict:hasDictIn K C=true
 cls:∃attr,qP K (.ref C) name=some attr∧noGet K attr=true
noncomputable def vi:AV→Bool
 |.fix _=>false
 |_=>true
theorem handed {a:AV}{v:ai}(r:bM c h α a v) (n:vi a=true):handedIn v=true:=by
 cases a with
 |none=>rw[r.none];rfl
 |bool=>rw[r.bool];rfl
 |int=>obtain⟨t,rfl⟩:=r.int;rfl
 |str=>obtain⟨t,rfl⟩:=r.str;rfl
 |eg=>obtain⟨t,rfl⟩:=r.eg;rfl
 |fix=>cases n
 |tup=>refine cD r.tup fun a i j4 _=>?_;subst j4;rfl
 |obj=>refine aq r.obj fun p _ nF=>?_;subst nF;rfl
 |iX=>refine cD r fun a kv mI _=>?_;clear r;subst mI;rfl
theorem WE.attr {e:Expr}{name:bu}(w:WE c d A env e l H (fun a H1=>∃n C fs v,a=.obj n∧H1[n]?=some (.inst C fs)∧fs.lookup name=some v∧yr c.K C name∧vi v=true∧Q v H1) X)
  (he:gr (.Attribute e name pos) env=(do
   let o ←gr e env
   qU pos.atName
   let r ←lJ [o] (getAttr o name true)
   letTemporaryGo e o r
   pure r)):WE c d A env (.Attribute e name pos) l H Q X:=fun α s I=>by
 refine Attribute_any_ (au (w α s I) (fun v bf p=>?_) fun _ _ e=>e) he
 obtain⟨a,aP,H₁,m,bp,r,n,C,fs,x,rfl,e1,e2,ok,nf,q⟩:=p
 refine aL (bp.h.look e1 r) fun p e3 tO cr=>?_
 subst tO
 refine eC cr.Bg fun es nn sl inst fr=>?_
 have fg:=eN.get (name:=name) fr
 rw[e2] at fg
 refine aq fg fun y hy ry=>?_
 clear fg
 refine aq ok.cls fun attr c1 c2=>?_
 exact get_value bp.ql inst (L8 ok.get).1 (findObj_own ok.dict c1 c2 hy) (handed ry nf) ((bp.done ry q).weak m)
noncomputable def yA (name:bu) (a:AV):List (bu×AV)→List (bu×AV)
 |[]=>[(name,a)]
 |(k,x)::r=>if k==name then (k,a)::r else (k,x)::yA name a r
theorem eN.put {name:bu}{a:AV}{v:ai}{hsh:Int}{t:Tok}(ra:bM c h α a v):∀{fs:List (bu×AV)}{es:List eo},eN c h α fs es→eN c h α (yA name a fs) (QG name hsh (.str name t) v es):=by
 intro us
 induction us with
 |nil=>
  intro es r
  subst r
  unfold yA QG eN
  exact⟨_,[],t,rfl,rfl,ra,rfl⟩
 |cons hd xs ih=>
  obtain⟨k,x⟩:=hd
  intro es r
  refine cy r fun e r' t' jZ hk rv rr=>?_
  clear r
  subst jZ
  have hb:e.key.isStr name=(k==name):=by rw[hk];rfl
  unfold yA QG
  rw[hb]
  cases k==name with
  |true=>exact⟨_,_,t',rfl,hk,ra,rr⟩
  |false=>exact⟨_,_,t',rfl,hk,rv,ih rr⟩
structure CM (K:gg) (C:aD) (name:bu):Prop where
 set:qP K (.ref C) "__setattr__"=some (some (.builtin "object.__setattr__"))
 over:plainOver K C=true
 GB:Rd K C name=some none
 dict:(clsIn K C).any (·.hasDict)=true
theorem eN.JM {name:bu}{fs:List (bu×AV)}{es:List eo}(r:eN c h α fs es):(getL name es).isSome=true:=by
 have:=eN.get (name:=name) r
 cases q:fs.lookup name with
 |none=>rw[q] at this;rw[this];rfl
 |some x=>rw[q] at this;refine aq this fun v e _=>?_;clear this;rw[e];rfl
theorem eN.length:∀{fs:List (bu×AV)}{es:List eo},eN c h α fs es→es.length=fs.length:=by
 intro us
 induction us with
 |nil=>
  intro es r
  subst r;rfl
 |cons _ _ ih=>
  intro es r
  refine cy r fun e r' t' u0 _ _ rr=>?_
  clear r
  subst u0
  simp[ih rr]
theorem zx (name:bu) (a:AV) (fs:List (bu×AV)):(yA name a fs).length≤fs.length+1:=by
 induction fs with
 |nil=>exact aA _
 |cons p r ih=>
  unfold yA
  split
  ·exact bX _
  ·exact gR ih
set_option tactic.hygienic true in
theorem WU.setAttr {n:Nat}{C:aD}{fs:List (bu×AV)}{name:bu}{a:AV}{Q:Loc→List ag→Prop}(e:H[n]?=some (.inst C fs)) (ok:CM c.K C name) (hz:fs.length≤100)
  (q:Q l (H.set n (.inst C (yA name a fs)))):WU c d A env (fun vs=>setAttr (vs[0]?.getD .none) name (vs[1]?.getD .none)) [.obj n,a] l H Q X:=fun α s vs I rs=>by
 refine aN rs.two fun x v sy rx ra=>?_
 subst sy
 refine aL (I.h.look e rx) fun p e3 mx cr=>?_
 subst mx
 refine eC cr.Bg fun es nn sl inst fr=>?_
 have D:=inst.dict
 dsimp only at D
 refine set_plain I.ql inst ok.set ?_
 refine osa_open (s:={ s with toks:=s.toks+1 }) I.ql inst ok.over ok.GB fun b=>?_
 refine aq (any_some ok.dict) fun cd hc qz=>?_
 obtain⟨hx,r5,hn,-⟩:=inst
 dsimp only at r5
 have qw:=eN.length fr
 have hl:=eN.JM (name:=name) fr
 have Sl:jK name (cZ c.w.params name) (.str name (s.toks+1)) v (dictOf es nn)=dictOf (QG name (cZ c.w.params name) (.str name (s.toks+1)) v es) (putN name es nn):=putName_dict ..
 have D':(s.heap.update p.2 (jK name (cZ c.w.params name) (.str name (s.toks+1)) v)).get? p.2=some (dictOf (QG name (cZ c.w.params name) (.str name (s.toks+1)) v es) (putN name es nn)):=by
  rw[dx _ D (by rw[Sl];rfl),Sl]
 refine ak (aQ (ak (ak (sR hx (ak (Looks.here (s:={ s with toks:=s.toks+1 }) (L9 I.ql hc) ?_))))))
 rw[qz]
 refine aQ (a:=some p.2) (ak (aQ (ak ?_)))
 unfold nsSet
 refine ak (ak (wpAny_askSetting (aQ (ak (wpAny_mkText (ak (sR D ?_)))))))
 dsimp only
 have cc:(!es.toArray.any (·.key.isStr name)&&es.toArray.any (·.refKey))=false:=by
  rw[←tR,←tR]
  show(!es.any _&&es.any _)=false
  unfold getL at hl
  split at hl
  ·rename_i en he
   rw[um.mpr ⟨en,List.mem_of_find?_eq_some he,List.find?_some he⟩];rfl
  ·split at hl
   ·cases hl
   ·rename_i z;rw[Bool.not_eq_true] at z;rw[z,qq]
 rw[Je,cc]
 refine wpAny_updatePart D ?_
 have hz':(QG name (cZ c.w.params name) (.str name (s.toks+1)) v es).length≤1000:=by
  have h1:=eN.length (eN.put (name:=name) (hsh:=cZ c.w.params name) (t:=s.toks+1) ra fr)
  have h2:=zx name a fs
  exact aW [_,_,_] [] [.L aB (.l 100),.E aM cg,.L cg (.a aB bP)] (.L aM (.l 1000)) (.k [1,1,1,0,1]) rfl hz h1 h2
 refine ak (wpAny_lookBehind D' (pastItsLine_dict (by rw[nc,cx];exact ca hz' rfl)) ?_)
 refine aQ ?_
 have hs:dz p.2 s.heap (s.heap.update p.2 (jK name (cZ c.w.params name) (.str name (s.toks+1)) v)):=j9 ..
 have m0:bO A iQ α s.heap α (s.heap.update p.2 (jK name (cZ c.w.params name) (.str name (s.toks+1)) v)):=kq (oL e3).2 hs ⟨_,D'⟩
 have v7:p.1≠p.2:=fun z=>by rw[z,D] at hx;cases hx
 obtain⟨m,I'⟩:=I.upd (s':={ s with heap:=s.heap.update p.2 (jK name (cZ c.w.params name) (.str name (s.toks+1)) v),toks:=s.toks+1+1 }) (x:=.inst C (yA name a fs)) e3 (.inr rfl) hs ⟨_,D'⟩
  ⟨_,_,sl,(hs.2 _ v7).trans hx,D',eN.put (ra.mono m0 I.h (eM.no _)) (fr.carry id fun t=>m0.tup I.h (eM.no _) t)⟩
 exact⟨l,α,_,m,I',q⟩
end
end
section
open PySem PySem.W PySem.Calls PyProof.Rows
inductive CW (c:Cx) (d:Nat) (A:aU) (env:dI) (l:Loc) (α:Am) (h:cf) (Q:Bool→List ag→Prop) (v:ai) (s':aH):Prop
 |mk (t:Bool) (bD:Am) (H':List ag) (e:v=.bool t) (m:bO A (cz env) α h bD s'.heap) (i:Inv c d A env l bD H' s') (q:Q t H')
noncomputable def WO (c:Cx) (d:Nat) (A:aU) (env:dI) (op:mE) (a b:AV) (l:Loc) (H:List ag) (Q:Bool→List ag→Prop) (X:List ag→Prop):Prop:=
 ∀α s v w,Inv c d A env l α H s→bM c s.heap α a v→bM c s.heap α b w→bj c.M A (compareOp op v w) (CW c d A env l α s.heap Q) (kG c A env α s.heap X) s
section
variable {c:Cx}{d:Nat}{A:aU}{env:dI}{l l':Loc}{α bD:Am}{h h':cf}{H H':List ag}{s s':aH}
variable {Q:AV→List ag→Prop}{QB:Bool→List ag→Prop}{X:List ag→Prop}{pos:ij}{own:aD→Prop}
theorem Inv.iV {dr:Cf}{tk:Nat}{t:Bool}(I:Inv c d A env l α H s) (q:QB t H) :
  CW c d A env l α s.heap QB (.bool t) ⟨s.heap,s.gens,dr,tk,s.os⟩:=⟨t,α,H,rfl,.refl ..,I.toks,q⟩
variable {i j:Int}
theorem WV.ZT (q:Q (.int (i+j)) H):WV c d A env (fun vs=>fb .Add (vs[0]?.getD .none) (vs[1]?.getD .none)) [.int i,.int j] l H Q X:=fun α s vs I rs=>by
 refine aN rs.two fun _ _ iu ra rb=>?_;subst iu;obtain⟨_,rfl⟩:=ra.int;obtain⟨_,rfl⟩:=rb.int
 exact P.add_int (I.done iq q)
theorem WV.Zh (q:Q (.int (i-j)) H):WV c d A env (fun vs=>fb .Sub (vs[0]?.getD .none) (vs[1]?.getD .none)) [.int i,.int j] l H Q X:=fun α s vs I rs=>by
 refine aN rs.two fun _ _ j4 ra rb=>?_;subst j4;obtain⟨_,rfl⟩:=ra.int;obtain⟨_,rfl⟩:=rb.int
 exact P.sub_int (I.done iq q)
theorem WV.YF (hm:IntMulOk i j) (q:Q (.int (i*j)) H):WV c d A env (fun vs=>fb .Mult (vs[0]?.getD .none) (vs[1]?.getD .none)) [.int i,.int j] l H Q X:=fun α s vs I rs=>by
 refine aN rs.two fun _ _ nv ra rb=>?_;subst nv;obtain⟨_,rfl⟩:=ra.int;obtain⟨_,rfl⟩:=rb.int
 exact P.mul_int (I.done iq q) hm
theorem WV.XJ (hj:0<j) (q:Q (.int (i%j)) H):WV c d A env (fun vs=>fb .Mod (vs[0]?.getD .none) (vs[1]?.getD .none)) [.int i,.int j] l H Q X:=fun α s vs I rs=>by
 refine aN rs.two fun _ _ jZ ra rb=>?_;subst jZ;obtain⟨_,rfl⟩:=ra.int;obtain⟨_,rfl⟩:=rb.int
 exact mod_int' (by exact aW [] [_] [.t dF bJ] (.N (.e bJ dF)) cN rfl hj) (I.done (by rw[Int.fmod_eq_emod_of_nonneg _ (by exact aW [] [_] [.t dF bJ] (.l dF bJ) cK rfl hj)];exact iq) q)
theorem WV.AY {n:Int}(hn:0≤n) (kT:(fc i:Int)*n≤2^27) (q:Q (.int (i^n.toNat)) H):WV c d A env (fun vs=>fb .Pow (vs[0]?.getD .none) (vs[1]?.getD .none)) [.int i,.int n] l H Q X:=fun α s vs I rs=>by
 refine aN rs.two fun _ _ mx ra rb=>?_;subst mx;obtain⟨_,rfl⟩:=ra.int;obtain⟨_,rfl⟩:=rb.int
 exact pow_int hn kT (I.done iq q)
theorem WV.Wq {n:Int}(hn:0≤n) (q:Q (.int (i / (2^n.toNat))) H):WV c d A env (fun vs=>fb .RShift (vs[0]?.getD .none) (vs[1]?.getD .none)) [.int i,.int n] l H Q X:=fun α s vs I rs=>by
 refine aN rs.two fun _ _ uy ra rb=>?_;subst uy;obtain⟨_,rfl⟩:=ra.int;obtain⟨_,rfl⟩:=rb.int
 exact rshift_int hn (I.done (by rw[yF _ (iZ (Int.pow_pos (by decide)))];exact iq) q)
theorem WE.neg {e:Expr}(w:WE c d A env e l H (fun a H'=>∃i,a=.int i∧Q (.int (-i)) H') X):WE c d A env (.UnaryOp .USub e pos) l H Q X:=fun α s I=>by
 refine UnaryOp_ (au (w α s I) (fun v bf p=>?_) fun _ _ e=>e)
 obtain⟨a,aP,H₁,m,bp,r,i,rfl,q⟩:=p
 obtain⟨_,rfl⟩:=r.int
 exact P.neg_int ((bp.done iq q).weak m)
theorem WO.eqI (q:QB (decide (i=j)) H):WO c d A env .Eq (.int i) (.int j) l H QB X:=fun α s v w I ra rb=>by
 obtain⟨_,rfl⟩:=ra.int;obtain⟨_,rfl⟩:=rb.int
 exact P.eq_int (I.iV (by rw[show(i==j)=decide (i=j) from rfl];exact q))
theorem WO.neI (q:QB (decide (i≠j)) H):WO c d A env .NotEq (.int i) (.int j) l H QB X:=fun α s v w I ra rb=>by
 obtain⟨_,rfl⟩:=ra.int;obtain⟨_,rfl⟩:=rb.int
 refine P.ne_int (I.iV ?_)
 rw[show(i != j)=decide (i≠j) from by by_cases h:i=j<;>simp[h,bne]];exact q
theorem WO.ltI (q:QB (decide (i<j)) H):WO c d A env .Lt (.int i) (.int j) l H QB X:=fun α s v w I ra rb=>by
 obtain⟨_,rfl⟩:=ra.int;obtain⟨_,rfl⟩:=rb.int
 exact P.lt_int (I.iV q)
theorem WO.leI (q:QB (decide (i≤j)) H):WO c d A env .LtE (.int i) (.int j) l H QB X:=fun α s v w I ra rb=>by
 obtain⟨_,rfl⟩:=ra.int;obtain⟨_,rfl⟩:=rb.int
 exact P.le_int (I.iV q)
theorem WO.gtI (q:QB (decide (i>j)) H):WO c d A env .Gt (.int i) (.int j) l H QB X:=fun α s v w I ra rb=>by
 obtain⟨_,rfl⟩:=ra.int;obtain⟨_,rfl⟩:=rb.int
 exact P.gt_int (I.iV q)
theorem WO.geI (q:QB (decide (i≥j)) H):WO c d A env .GtE (.int i) (.int j) l H QB X:=fun α s v w I ra rb=>by
 obtain⟨_,rfl⟩:=ra.int;obtain⟨_,rfl⟩:=rb.int
 exact P.ge_int (I.iV q)
theorem WB.cmp {e1 e2:Expr}{op:mE}(w:WE c d A env e1 l H (fun a H1=>WE c d A env e2 l H1 (fun b H2=>WO c d A env op a b l H2 QB X) X) X) (hm:lK op e2=false:=by with_unfolding_all rfl) :
  WB c d A env (.Compare e1 [op] [e2] pos) l H QB X:=fun α s I=>by
 refine wpAny_isTrue_Compare1 (au (w α s I) (fun v bf eS=>?_) fun _ _ e=>e) hm
 obtain⟨a,aP,H₁,b0,bp,fH,jc⟩:=eS
 refine au (jc aP bf bp) (fun oG cY eS=>?_) fun _ _ e=>e.weak b0
 obtain⟨b,bE,eY,cW,cB,jr,nC⟩:=eS
 have m:=b0.trans cW
 refine au (nC bE cY v oG cB (fH.mono cW bp.h bp.solid) jr) (fun x hZ p=>?_) fun _ _ e=>e.weak m
 obtain⟨t,fe,lh,rfl,gX,fP,q⟩:=p
 exact iO ⟨fe,lh,m.trans gX,fP,q⟩
theorem WE.cmp {e1 e2:Expr}{op:mE}(w:WE c d A env e1 l H (fun a H1=>WE c d A env e2 l H1 (fun b H2=>WO c d A env op a b l H2 (fun t H3=>Q (.bool t) H3) X) X) X) (hm:lK op e2=false:=by with_unfolding_all rfl) :
  WE c d A env (.Compare e1 [op] [e2] pos) l H Q X:=fun α s I=>by
 refine wpAny_Compare1 (au (w α s I) (fun v bf eS=>?_) fun _ _ e=>e) hm
 obtain⟨a,aP,H₁,b0,bp,fH,jc⟩:=eS
 refine au (jc aP bf bp) (fun oG cY eS=>?_) fun _ _ e=>e.weak b0
 obtain⟨b,bE,eY,cW,cB,jr,nC⟩:=eS
 have m:=b0.trans cW
 refine au (nC bE cY v oG cB (fH.mono cW bp.h bp.solid) jr) (fun x hZ p=>?_) fun _ _ e=>e.weak m
 obtain⟨t,fe,lh,rfl,gX,fP,q⟩:=p
 exact⟨.bool t,fe,lh,m.trans gX,fP,qp,q⟩
theorem WB.Oz {e1 e2 e3:Expr}{op tv:mE}(w:WE c d A env e1 l H (fun a H1=>WE c d A env e2 l H1 (fun b H2=>WO c d A env op a b l H2 (fun t H3=>
   if t then WE c d A env e3 l H3 (fun z H4=>WO c d A env tv b z l H4 QB X) X else QB false H3) X) X) X) (hm:lastMarks [op,tv] [e2,e3]=false:=by with_unfolding_all rfl) :
  WB c d A env (.Compare e1 [op,tv] [e2,e3] pos) l H QB X:=fun α s I=>by
 refine isTrue_chain (au (w α s I) (fun v bf SW=>?_) fun _ _ e=>e) hm
 obtain⟨a,aP,H₁,b0,bp,fH,jc⟩:=SW
 refine test_link ?_
 refine au (jc aP bf bp) (fun oG cY eS=>?_) fun _ _ e=>e.weak b0
 obtain⟨b,bE,eY,cW,cB,jr,nC⟩:=eS
 have m:=b0.trans cW
 refine au (nC bE cY v oG cB (fH.mono cW bp.h bp.solid) jr) (fun x hZ p=>?_) fun _ _ e=>e.weak m
 obtain⟨t,fe,lh,rfl,gX,fP,q⟩:=p
 refine iO ?_
 cases t with
 |false=>exact⟨fe,lh,m.trans gX,fP,q⟩
 |true=>
  refine test_last (au (q fe hZ fP) (fun Pt n7 eS=>?_) fun _ _ e=>e.weak (m.trans gX))
  obtain⟨z,rJ,FJ,km,jT,Gv,Pm⟩:=eS
  have mm:=(m.trans gX).trans km
  have rb:=(jr.mono gX cB.h cB.solid).mono km fP.h fP.solid
  refine au (Pm rJ n7 oG Pt jT rb Gv) (fun x A1 p=>?_) fun _ _ e=>e.weak mm
  obtain⟨t,mX,zr,rfl,pW,lp,q⟩:=p
  exact iO ⟨mX,zr,mm.trans pW,lp,q⟩
theorem WE.Oz {e1 e2 e3:Expr}{op tv:mE}(w:WE c d A env e1 l H (fun a H1=>WE c d A env e2 l H1 (fun b H2=>WO c d A env op a b l H2 (fun t H3=>
   if t then WE c d A env e3 l H3 (fun z H4=>WO c d A env tv b z l H4 (fun t H=>Q (.bool t) H) X) X else Q (.bool false) H3) X) X) X) (hm:lastMarks [op,tv] [e2,e3]=false:=by with_unfolding_all rfl) :
  WE c d A env (.Compare e1 [op,tv] [e2,e3] pos) l H Q X:=fun α s I=>by
 refine Compare_chain (au (w α s I) (fun v bf SW=>?_) fun _ _ e=>e) hm
 obtain⟨a,aP,H₁,b0,bp,fH,jc⟩:=SW
 refine chain_link ?_
 refine au (jc aP bf bp) (fun oG cY eS=>?_) fun _ _ e=>e.weak b0
 obtain⟨b,bE,eY,cW,cB,jr,nC⟩:=eS
 have m:=b0.trans cW
 refine au (nC bE cY v oG cB (fH.mono cW bp.h bp.solid) jr) (fun x hZ p=>?_) fun _ _ e=>e.weak m
 obtain⟨t,fe,lh,rfl,gX,fP,q⟩:=p
 refine iO ?_
 cases t with
 |false=>exact⟨.bool false,fe,lh,m.trans gX,fP,qp,q⟩
 |true=>
  refine chain_last (au (q fe hZ fP) (fun Pt n7 eS=>?_) fun _ _ e=>e.weak (m.trans gX))
  obtain⟨z,rJ,FJ,km,jT,Gv,Pm⟩:=eS
  have mm:=(m.trans gX).trans km
  have rb:=(jr.mono gX cB.h cB.solid).mono km fP.h fP.solid
  refine au (Pm rJ n7 oG Pt jT rb Gv) (fun x A1 p=>?_) fun _ _ e=>e.weak mm
  obtain⟨t,mX,zr,rfl,pW,lp,q⟩:=p
  exact⟨.bool t,mX,zr,mm.trans pW,lp,qp,q⟩
theorem yP.bool {b:Bool}(q:QB b H):yP c d A env (.bool b) l H QB X:=fun α s v I r=>by
 cases r.bool;exact iO (I.I2 q)
theorem yP.none (q:QB false H):yP c d A env .none l H QB X:=fun α s v I r=>by
 cases r.none;exact truthy_none (I.I2 q)
theorem yP.int (q:QB (decide (i≠0)) H):yP c d A env (.int i) l H QB X:=fun α s v I r=>by
 obtain⟨_,rfl⟩:=r.int
 refine P.truthy_int (I.I2 ?_)
 rw[show(i != 0)=decide (i≠0) from by by_cases h:i=0<;>simp[h,bne]];exact q
theorem WB.plain {e:Expr}(w:WE c d A env e l H (fun a H1=>yP c d A env a l H1 QB X) X) (he:isTrue e env (gr e env)=(do let v ←gr e env;qU e.pos;lJ [v] (truthy v))):WB c d A env e l H QB X:=fun α s I=>
 isTrue_plain (au (w α s I) (by rintro v bf ⟨a,aP,H₁,b0,bp,fH,jc⟩;exact IQ b0 (jc aP bf v bp fH)) fun _ _ e=>e) he
theorem WB.not {e:Expr}(w:WB c d A env e l H (fun t H1=>QB (!t) H1) X):WB c d A env (.UnaryOp .Not e pos) l H QB X:=fun α s I=>
 isTrue_not (au (w α s I) (by rintro t bf ⟨aP,H₁,b0,bp,q⟩;exact⟨aP,H₁,b0,bp,q⟩) fun _ _ e=>e)
theorem WB.Wk (q:QB true H):WB c d A env (.BoolOp .And [] pos) l H QB X:=fun α s I=>isTrue_and_nil ⟨α,H,.refl ..,I,q⟩
theorem WB.orN (q:QB false H):WB c d A env (.BoolOp .Or [] pos) l H QB X:=fun α s I=>isTrue_or_nil ⟨α,H,.refl ..,I,q⟩
theorem WB.and {e:Expr}{es:List Expr}(w:WB c d A env e l H (fun t H1=>if t then WB c d A env (.BoolOp .And es pos) l H1 QB X else QB false H1) X):WB c d A env (.BoolOp .And (e::es) pos) l H QB X:=fun α s I=>by
 refine isTrue_and (au (w α s I) (fun t bf eS=>?_) fun _ _ e=>e)
 obtain⟨aP,H₁,b0,bp,q⟩:=eS
 cases t with
 |true=>exact IQ b0 (q aP bf bp)
 |false=>exact⟨aP,H₁,b0,bp,q⟩
theorem WB.or {e:Expr}{es:List Expr}(w:WB c d A env e l H (fun t H1=>if t then QB true H1 else WB c d A env (.BoolOp .Or es pos) l H1 QB X) X):WB c d A env (.BoolOp .Or (e::es) pos) l H QB X:=fun α s I=>by
 refine isTrue_or (au (w α s I) (fun t bf eS=>?_) fun _ _ e=>e)
 obtain⟨aP,H₁,b0,bp,q⟩:=eS
 cases t with
 |true=>exact⟨aP,H₁,b0,bp,q⟩
 |false=>exact IQ b0 (q aP bf bp)
theorem WE.not {e:Expr}(w:WE c d A env e l H (fun a H1=>yP c d A env a l H1 (fun t H2=>Q (.bool (!t)) H2) X) X):WE c d A env (.UnaryOp .Not e pos) l H Q X:=fun α s I=>by
 refine UnaryOp_ (au (w α s I) (fun v bf ⟨a,aP,H₁,m,bp,r,q⟩=>not_of ?_) fun _ _ e=>e)
 exact au (q aP bf v bp r) (by rintro t cY ⟨bE,eY,cW,cB,pV⟩;exact⟨.bool (!t),bE,eY,m.trans cW,cB,qp,pV⟩) fun _ _ e=>e.weak m
theorem WE.one {op:BoolOp}{e:Expr}(w:WE c d A env e l H Q X):WE c d A env (.BoolOp op [e] pos) l H Q X:=fun α s I=>BoolOp_one (w α s I)
theorem WE.and {e e2:Expr}{es:List Expr}(w:WE c d A env e l H (fun a H1=>yP c d A env a l H1 (fun t H2=>if t then WE c d A env (.BoolOp .And (e2::es) pos) l H2 Q X else Q a H2) X) X):WE c d A env (.BoolOp .And (e::e2::es) pos) l H Q X:=fun α s I=>by
 refine BoolOp_and (au (w α s I) (fun v bf eS=>?_) fun _ _ e=>e)
 obtain⟨a,aP,H₁,m,bp,r,q⟩:=eS
 refine au (q aP bf v bp r) (fun t cY eS=>?_) fun _ _ e=>e.weak m
 obtain⟨bE,eY,cW,cB,pV⟩:=eS
 cases t with
 |true=>exact oV (m.trans cW) (pV bE cY cB)
 |false=>exact⟨a,bE,eY,m.trans cW,cB,r.mono cW bp.h bp.solid,pV⟩
theorem WE.or {e e2:Expr}{es:List Expr}(w:WE c d A env e l H (fun a H1=>yP c d A env a l H1 (fun t H2=>if t then Q a H2 else WE c d A env (.BoolOp .Or (e2::es) pos) l H2 Q X) X) X):WE c d A env (.BoolOp .Or (e::e2::es) pos) l H Q X:=fun α s I=>by
 refine BoolOp_or (au (w α s I) (fun v bf eS=>?_) fun _ _ e=>e)
 obtain⟨a,aP,H₁,m,bp,r,q⟩:=eS
 refine au (q aP bf v bp r) (fun t cY eS=>?_) fun _ _ e=>e.weak m
 obtain⟨bE,eY,cW,cB,pV⟩:=eS
 cases t with
 |true=>exact⟨a,bE,eY,m.trans cW,cB,r.mono cW bp.h bp.solid,pV⟩
 |false=>exact oV (m.trans cW) (pV bE cY cB)
theorem WE.ite {e1 e2 e3:Expr}(w:WB c d A env e1 l H (fun t H1=>if t then WE c d A env e2 l H1 Q X else WE c d A env e3 l H1 Q X) X):WE c d A env (.IfExp e1 e2 e3 pos) l H Q X:=fun α s I=>by
 refine IfExp_ (au (w α s I) (fun t bf eS=>?_) fun _ _ e=>e)
 obtain⟨aP,H₁,b0,bp,q⟩:=eS
 cases t with
 |true=>exact oV b0 (q aP bf bp)
 |false=>exact oV b0 (q aP bf bp)
theorem WO.isNone {a:AV}(ha:vi a=true) (q:QB (match a with | .none=>true | _=>false) H):WO c d A env .Is a .none l H QB X:=fun α s v w I ra rb=>by
 cases rb.none
 cases a with
 |none=>cases ra.none;exact g0 rfl (I.iV q)
 |bool=>cases ra.bool;exact g0 rfl (I.iV q)
 |int=>obtain⟨_,rfl⟩:=ra.int;exact g0 rfl (I.iV q)
 |str=>obtain⟨_,rfl⟩:=ra.str;exact g0 rfl (I.iV q)
 |eg=>obtain⟨_,rfl⟩:=ra.eg;exact g0 rfl (I.iV q)
 |fix=>cases ha
 |tup=>refine cD ra.tup fun _ _ X4 _=>?_;subst X4;exact g0 rfl (I.iV q)
 |obj=>refine aq ra.obj fun _ _ Xw=>?_;subst Xw;exact g0 rfl (I.iV q)
 |iX=>refine cD ra fun _ _ Yk _=>?_;clear ra;subst Yk;exact g0 rfl (I.iV q)
end
end
section
open PySem PySem.W PySem.Calls PyProof.Rows
noncomputable def lM {β:Type}(lo hi:Option Int) (xs:List β):List β:=(xs.drop (lo.elim 0 (QH xs.length))).take (hi.elim xs.length (QH xs.length)-lo.elim 0 (QH xs.length))
theorem qo (items:Array ai) (lo hi:Option Int):slicePick items lo hi none=(lM lo hi items.toList).toArray:=by
 unfold slicePick lM
 rw[sliceBounds_plain]
 simp only[sliceRange_one,pick_run,dw]
theorem uX (b:List UInt8) (lo hi:Option Int):KBy.picked b.toArray lo hi=(lM lo hi b).toArray:=by
 rw[KBc.picked_eq]
 unfold lM
 simp
section
variable {c:Cx}{d:Nat}{A:aU}{env:dI}{l l':Loc}{α bD:Am}{h h':cf}{H H':List ag}{s s':aH}
variable {Q:AV→List ag→Prop}{QB:Bool→List ag→Prop}{X:List ag→Prop}{pos:ij}{own:aD→Prop}
theorem bl.drop {xs:List AV}{vs:List ai}(k:Nat) (r:bl c h α xs vs):bl c h α (xs.drop k) (vs.drop k):=by
 induction k generalizing xs vs with
 |zero=>exact r
 |succ k ih=>cases xs with
  |nil=>cases r.nil;exact jD
  |cons x xs=>refine aN r.cons fun v r' gC _ h2=>?_;subst gC;exact ih h2
theorem bl.take {xs:List AV}{vs:List ai}(k:Nat) (r:bl c h α xs vs):bl c h α (xs.take k) (vs.take k):=by
 induction k generalizing xs vs with
 |zero=>exact jD
 |succ k ih=>cases xs with
  |nil=>cases r.nil;exact jD
  |cons x xs=>refine aN r.cons fun v r' gC h1 h2=>?_;subst gC;exact eD h1 (ih h2)
theorem bl.lM {xs:List AV}{vs:List ai}(lo hi:Option Int) (r:bl c h α xs vs):bl c h α (lM lo hi xs) (Mine.lM lo hi vs):=by
 unfold Mine.lM
 rw[r.length]
 exact(r.drop _).take _
theorem bl.rev {xs:List AV}:∀{vs:List ai},bl c h α xs vs→bl c h α xs.reverse vs.reverse:=by
 induction xs with
 |nil=>intro vs r;cases r.nil;exact jD
 |cons x xs ih=>
  intro vs r
  refine aN r.cons fun v r' jX h1 h2=>?_
  subst jX
  rw[Jf,Jf]
  exact(ih h2).append (eD h1 jD)
noncomputable def WG (c:Cx) (d:Nat) (A:aU) (env:dI) (a b:AV) (l:Loc) (H:List ag) (Q:AV→List ag→Prop) (X:List ag→Prop):Prop:=
 ∀α s v w,Inv c d A env l α H s→bM c s.heap α a v→bM c s.heap α b w→∃T id,s.TypeIs v T∧QJ (.type T) "__getitem__"=pure (some (.builtin id)) ∧
  bj c.M A (Rk v w) (pU c d A env l α s.heap Q) (kG c A env α s.heap X) s
theorem WE.sub {e1 e2:Expr}(w:WE c d A env e1 l H (fun a H1=>WE c d A env e2 l H1 (fun b H2=>WG c d A env a b l H2 Q X) X) X)
  (hs:∀o i,subscripted e2 false o i=operate [o,i] (Rk o i)):WE c d A env (.Subscript e1 e2 pos) l H Q X:=fun α s I=>by
 refine QK (au (w α s I) (fun v bf eS=>?_) fun _ _ e=>e)
 obtain⟨a,aP,H₁,b0,bp,fH,jc⟩:=eS
 refine au (jc aP bf bp) (fun oG cY eS=>?_) fun _ _ e=>e.weak b0
 obtain⟨b,bE,eY,cW,cB,jr,nC⟩:=eS
 refine aN (nC bE cY v oG cB (fH.mono cW bp.h bp.solid) jr) fun T id hT hl hg=>?_
 exact tail_any hT hl (oV (b0.trans cW) hg) (hs _ _)
theorem lA.isList {vs:List AV}{p:aD×aD}(r:lA c h α p (.list vs)):∃items,h.IsList p.1 items∧bl c h α vs items.toList:=by
 obtain⟨items,n,ho,rs,_⟩:=r
 exact⟨items,⟨_,ho,rfl,n,rfl⟩,rs⟩
theorem WG.list {n:Nat}{vs:List AV}{k:Int}{x:AV}(e:H[n]?=some (.list vs)) (h0:0≤k) (hk:k<2^63) (hx:vs[k.toNat]?=some x) (q:Q x H):WG c d A env (.obj n) (.int k) l H Q X:=fun α s v w I ra rb=>by
 refine aL (I.h.look e ra) fun p e3 mI cr=>?_
 subst mI
 refine aq cr.isList fun items hl rs=>?_
 obtain⟨_,rfl⟩:=rb.int
 refine aq (rs.get hx) fun y hy ry=>?_
 exact⟨_,_,hl.typeIs,oC.lookup,wpAny_getItem_list hl h0 hk (by simpa using hy) (I.done ry q)⟩
theorem WG.tup {vs:List AV}{k:Int}{x:AV}(h0:0≤k) (hk:k<2^63) (hx:vs[k.toNat]?=some x) (q:Q x H):WG c d A env (.tup vs) (.int k) l H Q X:=fun α s v w I ra rb=>by
 refine aN ra.tup fun a items tO ht rs=>?_
 subst tO
 obtain⟨_,rfl⟩:=rb.int
 refine aq (rs.get hx) fun y hy ry=>?_
 have iS:k.toNat<items.size:=by
  have:=(ao.mp hy).1
  simpa using this
 refine⟨_,_,ht.typeIs,nN.lookup,getItem_tuple ht (by exact aW [] [_] [.l dF bJ] (.l (.n D1) bJ) cK rfl h0) hk (j:=k.toNat) ?_ (by simpa using hy) (I.done ry q)⟩
 have h1:¬k<0:=by exact aW [] [_] [.l dF bJ] (.N (.t bJ dF)) cK rfl h0
 have h2:k<(items.size:Int):=by exact aW [_,_] [_] [.T aB aM,.ft aB bJ] (.t bJ aM) (.o n8 rt) rfl iS (kQ _)
 simp[seqIndex?,h1,h0,h2]
theorem WG.eg {b:List UInt8}{k:Int}(h0:0≤k) (hk:k<b.length) (hf:b.length≤1099511627776) (q:Q (.int (b.getD k.toNat 0).toNat) H):WG c d A env (.eg b) (.int k) l H Q X:=fun α s v w I ra rb=>by
 obtain⟨_,rfl⟩:=ra.eg
 obtain⟨_,rfl⟩:=rb.int
 exact⟨_,_,kK _ _ _,qr.lookup,getItem_bytes hf h0 hk (I.done iq q)⟩
noncomputable def DictAt (c:Cx) (H:List ag) (a:AV) (kvs:List (Int×AV)):Prop:=a=.iX kvs∨∃n:Nat,a=.obj n∧(H[n]?=some (.dict kvs)∨∃ep,H[n]?=some (.eU kvs ep))
theorem de.val {k:Int}{kvs:List (Int×AV)}:∀{kv:List (Int×ai)},de c h α kvs kv →
  match kvs.lookup k with
  |some a=>∃v,AP kv k=some v∧bM c h α a v
  |none=>AP kv k=none:=by
 induction kvs with
 |nil=>intro kv r;subst r;rfl
 |cons p xs ih=>
  intro kv r
  refine aN r fun v r' e rv rr=>?_
  subst e
  have ih:=ih rr
  by_cases q:k=p.1
  ·subst q
   simp only[dG,beq_self_eq_true]
   exact⟨v,by simp[AP],rv⟩
  ·have q1:(k==p.1)=false:=beq_eq_false_iff_ne.mpr q
   have:AP ((p.1,v)::r') k=AP r' k:=by
    unfold AP
    rw[wc]
    have:decide (p.1=k)=false:=decide_eq_false fun e=>q e.symm
    simp only[this]
   simp only[dG,q1,this]
   exact ih
theorem DictAt.look {a:AV}{kvs:List (Int×AV)}{v:ai}(D:DictAt c H a kvs) (O:gu c h α H) (r:bM c h α a v) :
  ∃b kv,v=.ref b∧(b==gh)=false∧h.DictOf (ia c.prog c.w) b kv∧de c h α kvs kv:=by
 rcases D with rfl | ⟨n,rfl,e | ⟨ep,e⟩⟩
 ·unfold bM at r
  refine b9 r fun b kv mx hm qH dr=>?_
  clear r
  refine eC qH fun o es ep ho rr=>?_
  subst mx
  exact⟨b,kv,rfl,hm,⟨o,es,ep,O.base _ _ ho,rr⟩,dr⟩
 ·refine aL (O.look e r) fun p e3 sG cr=>?_
  subst sG
  obtain⟨kv,hd,dr,_,hm⟩:=cr
  exact⟨p.1,kv,rfl,hm,hd,dr⟩
 ·refine aL (O.look e r) fun p e3 vq cr=>?_
  subst vq
  obtain⟨kv,hd,dr,_,hm⟩:=cr
  exact⟨p.1,kv,rfl,hm,hd.dictOf,dr⟩
theorem WG.dict {a x:AV}{kvs:List (Int×AV)}{k:Int}(D:DictAt c H a kvs) (hx:kvs.lookup k=some x) (q:Q x H):WG c d A env a (.int k) l H Q X:=fun α s v w I ra rb=>by
 refine b9 (D.look I.h ra) fun b kv xN hm hd dr=>?_
 subst xN
 obtain⟨_,rfl⟩:=rb.int
 have dv:=de.val (k:=k) dr
 rw[hx] at dv
 refine aq dv fun y hy ry=>?_
 clear dv
 exact⟨_,_,hd.mapOf.typeIs,slot_dict_getitem.lookup,wpAny_getItem_of (nO _ _ _ _) hd.mapOf hy (I.done ry q)⟩
theorem WO.inD {a:AV}{kvs:List (Int×AV)}{k:Int}(D:DictAt c H a kvs) (q:QB (kvs.lookup k).isSome H):WO c d A env .In (.int k) a l H QB X:=fun α s v w I ra rb=>by
 refine b9 (D.look I.h rb) fun b kv GQ hm hd dr=>?_
 subst GQ
 obtain⟨_,rfl⟩:=ra.int
 refine wpAny_in_of (nO _ _ _ _) hm hd.mapOf (I.iV ?_)
 have dv:=de.val (k:=k) dr
 cases e:kvs.lookup k with
 |none=>rw[e] at dv q;rw[dv];exact q
 |some x=>rw[e] at dv q;refine aq dv fun y hy _=>?_;clear dv;rw[hy];exact q
theorem WO.X2 {a:AV}{kvs:List (Int×AV)}{k:Int}(D:DictAt c H a kvs) (q:QB (!(kvs.lookup k).isSome) H):WO c d A env .NotIn (.int k) a l H QB X:=fun α s v w I ra rb=>by
 refine b9 (D.look I.h rb) fun b kv yh hm hd dr=>?_
 subst yh
 obtain⟨_,rfl⟩:=ra.int
 refine wpAny_notIn_of (nO _ _ _ _) hm hd.mapOf (I.iV ?_)
 have dv:=de.val (k:=k) dr
 cases e:kvs.lookup k with
 |none=>rw[e] at dv q;rw[dv];exact q
 |some x=>rw[e] at dv q;refine aq dv fun y hy _=>?_;clear dv;rw[hy];exact q
noncomputable def WP (c:Cx) (d:Nat) (A:aU) (env:dI) (e:Option Expr) (l:Loc) (H:List ag) (Q:Option Int→List ag→Prop) (X:List ag→Prop):Prop:=
 match e with
 |none=>Q none H
 |some e=>WE c d A env e l H (fun a H'=>∃i,a=.int i∧Q (some i) H') X
theorem WP.run {e:Option Expr}{Q:Option Int→List ag→Prop}(w:WP c d A env e l H Q X) (I:Inv c d A env l α H s) :
  bj c.M A (evalPart e env) (fun v bf=>∃o aP H₁,bO A (cz env) α s.heap aP bf.heap∧Inv c d A env l aP H₁ bf∧Jg v o∧Q o H₁) (kG c A env α s.heap X) s:=by
 cases e with
 |none=>exact aQ ⟨none,α,H,.refl ..,I,.none,w⟩
 |some e=>
  refine au (w α s I) (fun v bf p=>?_) fun _ _ e=>e
  obtain⟨a,aP,H₁,m,bp,r,i,rfl,q⟩:=p
  obtain⟨_,rfl⟩:=r.int
  exact⟨some i,aP,H₁,m,bp,.int _ _,q⟩
noncomputable def AL (c:Cx) (d:Nat) (A:aU) (env:dI) (a:AV) (lo hi:Option Int) (l:Loc) (H:List ag) (Q:AV→List ag→Prop) (X:List ag→Prop):Prop:=
 ∀α s v sl x y,Inv c d A env l α H s→bM c s.heap α a v→s.heap.IsSliceOf sl x y .none→Jg x lo→Jg y hi→∃T id,s.TypeIs v T∧QJ (.type T) "__getitem__"=pure (some (.builtin id)) ∧
  bj c.M A (Rk v (.ref sl)) (pU c d A env l α s.heap Q) (kG c A env α s.heap X) s
theorem WE.slice {e:Expr}{e1 e2:Option Expr}{p:ij}(w:WE c d A env e l H (fun a H1=>WP c d A env e1 l H1 (fun lo H2=>WP c d A env e2 l H2 (fun hi H3=>AL c d A env a lo hi l H3 Q X) X) X) X) :
  WE c d A env (.Subscript e (.Slice e1 e2 none p) pos) l H Q X:=fun α s I=>by
 refine QK (au (w α s I) (fun v bf eS=>?_) fun _ _ e=>e)
 obtain⟨a,aP,H₁,b0,bp,fH,jc⟩:=eS
 refine wpAny_Slice (au (jc.run bp) (fun x cY eS=>?_) fun _ _ e=>e.weak b0)
 refine cy eS fun lo bE eY cW cB Ys nC=>?_
 clear eS
 refine au (nC.run cB) (fun y hZ eS=>?_) fun _ _ e=>e.weak (b0.trans cW)
 refine cy eS fun hi fe lh gX fP Wx Pb=>?_
 clear eS
 refine aQ ?_
 have m:=(b0.trans cW).trans gX
 obtain⟨km,jT⟩:=fP.grow (s':={ hZ with heap:=hZ.heap.push { cls:=.type "slice",data:=.fields #[x,y,.none] } }) gf
 have r:=((fH.mono cW bp.h bp.solid).mono gX cB.h cB.solid).mono km fP.h fP.solid
 refine aN (Pb fe _ v hZ.heap.objs.size x y jT r (wd ..) Ys Wx) fun T id hT hl hg=>?_
 exact tail_any hT hl (oV (m.trans km) hg) rfl
theorem wA {β:Type}(lo hi:Option Int) (xs:List β):(lM lo hi xs).length≤xs.length:=by
 unfold lM
 rw[cj,aJ];exact aW [_,_,_,_,_] [] [.fs aB aM cg,.fm fz ji aB] (.L fz aM) (.o (.o (.k [1,1,1,0,0,1]) ub) (.o (.k [1,1,1,0,0,1]) ub)) rfl (eV _ _) (AH _ _)
theorem AL.list {n:Nat}{vs:List AV}{lo hi:Option Int}(e:H[n]?=some (.list vs)) (hz:vs.length≤1000000) (q:Q (.obj H.length) (H++[.list (lM lo hi vs)])):AL c d A env (.obj n) lo hi l H Q X:=fun α s v sl x y I ra hs p1 p2=>by
 refine aL (I.h.look e ra) fun p e3 Hx cr=>?_
 subst Hx
 refine aq cr.isList fun items hl rs=>?_
 have kT:items.size=vs.length:=by rw[←rs.length];simp
 refine⟨_,_,hl.typeIs,oC.lookup,pD hl hs p1 p2 .none (by simp) ?_ (by rw[kT,cx];exact ca hz rfl)⟩
 rw[qo]
 exact I.newList (rs.lM lo hi) q
theorem AL.eg {b:List UInt8}{lo hi:Option Int}(hz:b.length≤1000000) (q:Q (.eg (lM lo hi b)) H):AL c d A env (.eg b) lo hi l H Q X:=fun α s v sl x y I ra hs p1 p2=>by
 obtain⟨_,rfl⟩:=ra.eg
 refine⟨_,_,kK _ _ _,qr.lookup,getItem_meets (kK _ _ _) (by decide) qr FB.entry_bytes_getitem (FB.args_bytes_getitem_2 _ _) (KBc.meets_slice2 b.toArray _ sl p1 p2) ⟨hs,?_,fun t' k=>?_⟩⟩
 ·rw[uX,cx]
  have:=wA lo hi b
  simp;exact Us this hz rfl
 ·rw[uX];exact I.done Tp q
end
end
section
open PySem PySem.W PySem.Calls PyProof.Rows
noncomputable def ml (k:Int) (v:AV) (kvs:List (Int×AV)):List (Int×AV):=
 if kvs.any (fun kv=>kv.1=k) then kvs.map (fun kv=>if kv.1=k then (kv.1,v) else kv) else kvs++[(k,v)]
section
variable {c:Cx}{d:Nat}{A:aU}{env:dI}{l l':Loc}{α bD:Am}{h h':cf}{H H':List ag}{s s':aH}
variable {Q:AV→List ag→Prop}{QB:Bool→List ag→Prop}{X:List ag→Prop}{pos:ij}{own:aD→Prop}{QU:Loc→List ag→Prop}{SQ:AF→Loc→List ag→Prop}
theorem de.length:∀{kvs:List (Int×AV)}{kv:List (Int×ai)},de c h α kvs kv→kv.length=kvs.length:=by
 intro us
 induction us with
 |nil=>
  intro kv r
  subst r;rfl
 |cons hd xs ih=>
  obtain⟨_,_⟩:=hd
  intro kv r
  refine aN r fun v r' iu _ rr=>?_
  clear r
  subst iu
  simp[ih rr]
theorem Cy {k:Int}{x:AV}{v:ai}{xs:List (Int×AV)}{vs:List (Int×ai)}(r:bM c h α x v) (rs:de c h α xs vs):de c h α ((k,x)::xs) ((k,v)::vs):=by
 exact⟨v,vs,rfl,r,rs⟩
theorem Ti:de c h α [] []:=rfl
theorem de.any {k:Int}:∀{kvs:List (Int×AV)}{kv:List (Int×ai)},de c h α kvs kv→kv.any (fun p=>decide (p.1=k))=kvs.any (fun p=>decide (p.1=k)):=by
 intro us
 induction us with
 |nil=>
  intro kv r
  subst r;rfl
 |cons hd xs ih=>
  obtain⟨_,_⟩:=hd
  intro kv r
  refine aN r fun v r' j5 _ rr=>?_
  clear r
  subst j5
  simp[ih rr]
theorem de.map {k:Int}{a:AV}{v:ai}(ra:bM c h α a v):∀{kvs:List (Int×AV)}{kv:List (Int×ai)},de c h α kvs kv →
  de c h α (kvs.map fun p=>if p.1=k then (p.1,a) else p) (kv.map fun p=>if p.1=k then (p.1,v) else p):=by
 intro us
 induction us with
 |nil=>
  intro kv r
  subst r;exact Ti
 |cons hd xs ih=>
  obtain⟨k',_⟩:=hd
  intro kv r
  refine aN r fun w r' nF Js rr=>?_
  clear r
  subst nF
  simp only[bY]
  by_cases q:k'=k
  ·rw[if_pos q,if_pos q];exact Cy ra (ih rr)
  ·rw[if_neg q,if_neg q];exact Cy Js (ih rr)
theorem de.snoc {k:Int}{a:AV}{v:ai}(ra:bM c h α a v):∀{kvs:List (Int×AV)}{kv:List (Int×ai)},de c h α kvs kv→de c h α (kvs++[(k,a)]) (kv++[(k,v)]):=by
 intro us
 induction us with
 |nil=>
  intro kv r
  subst r;exact Cy ra Ti
 |cons hd xs ih=>
  obtain⟨k',_⟩:=hd
  intro kv r
  refine aN r fun w r' nv Js rr=>?_
  clear r
  subst nv
  exact Cy Js (ih rr)
theorem de.put {k:Int}{a:AV}{v:ai}{kvs:List (Int×AV)}{kv:List (Int×ai)}(ra:bM c h α a v) (r:de c h α kvs kv):de c h α (ml k a kvs) (stored kv k v):=by
 unfold ml stored
 rw[r.any]
 split
 ·exact r.map ra
 ·exact r.snoc ra
theorem bl.setAt {c:Cx}{h:cf}{α:Am}{a:AV}{v:ai}{xs:List AV}:∀{ws:List ai}{j:Nat},bl c h α xs ws→bM c h α a v→bl c h α (xs.set j a) (ws.set j v):=by
 induction xs with
 |nil=>intro ws j r _;cases r.nil;exact jD
 |cons x xs ih=>
  intro ws j r ra
  refine aN r.cons fun w r' mx h1 h2=>?_
  subst mx
  cases j with
  |zero=>exact eD ra h2
  |succ j=>exact eD h1 (ih h2 ra)
theorem WU.KQ {n:Nat}{vs:List AV}{k:Int}{a:AV}(e:H[n]?=some (.list vs)) (h0:0≤k) (hk:k<vs.length) (hz:vs.length≤1000000) (q:QU l (H.set n (.list (vs.set k.toNat a)))) :
  WU c d A env (fun xs=>setItem (xs[0]?.getD .none) (xs[1]?.getD .none) (xs[2]?.getD .none)) [.obj n,.int k,a] l H QU X:=fun α s xs I rs=>by
 refine cy rs.three fun x y v tO rx ry rv=>?_
 subst tO
 refine aL (I.h.look e rx) fun p e3 lC cr=>?_
 subst lC
 obtain⟨items,nn,ho,ri,e2⟩:=cr
 refine al ry.int fun t u0=>?_
 subst u0
 have kT:items.size=vs.length:=by rw[←ri.length];simp
 have hl:s.heap.IsList p.1 items:=⟨_,ho,rfl,nn,rfl⟩
 show bj _ _ (setItem (.ref p.1) (.int k t) v) _ _ _
 unfold setItem
 try with_reducible refine cv ?_
 first | refine ak (aQ ?_) | skip
 refine ak (Rl hl.typeIs (by decide) ?_)
 refine ak (qb (name:=fa "__setitem__") hl.typeIs Rm
  (qc Rm hl.typeIs entry_list_setitem ?_ (args_list_setitem _ _ _)))
 show bj _ _ (Builtin.List.listSubscript? (.int k t) >>= _) _ _ s
 have Tq:k<2^63:=by exact aW [_] [_] [.t bJ aB,.L aB jg] (.t bJ D1) ui rfl hk hz
 refine ak (wpAny_listSubscript_int (fitsIndex_of h0 Tq) ?_)
 clear Tq
 refine al (cI h0) fun j sy=>?_
 subst sy
 have hj:j<items.size:=by exact aW [_,_,_] [] [.E aB aM,.t cg aM] (.T cg aB) qu rfl kT hk
 have Rc:items[j]?=some items[j]:=xr hj
 show bj _ _ ((seqItemAt p.1 j >>= fun r=>pure (r.map (j,·))) >>= _) _ _ s
 refine ak (ak (wpAny_seqItemAt ho rfl (aQ ?_)))
 rw[Rc]
 show bj _ _ (setSeqItemAt p.1 j v >>= _) _ _ s
 have hs:dz p.1 s.heap (s.heap.update p.1 (ez (·.setIfInBounds j v))):=j9 ..
 have hg:∃n',(s.heap.update p.1 (ez (·.setIfInBounds j v))).get? p.1=some ⟨.type "list",none,.seq (items.setIfInBounds j v) n',#[]⟩:=by
  exact⟨if (items.setIfInBounds j v).size==items.size then nn else nn+1,(dx _ ho rfl).trans rfl⟩
 refine al hg fun n' hg=>?_
 have m0:bO A iQ α s.heap α (s.heap.update p.1 (ez (·.setIfInBounds j v))):=kq (oL e3).1 hs ⟨_,hg⟩
 have cr:bl c (s.heap.update p.1 (ez (·.setIfInBounds j v))) α (vs.set j a) (items.setIfInBounds j v).toList:=by
  rw[Array.toList_setIfInBounds]
  exact bl.setAt (ri.mono m0 I.h (eM.no _)) (rv.mono m0 I.h (eM.no _))
 refine bG (I.upd (s':={ s with heap:=s.heap.update p.1 (ez (·.setIfInBounds j v)) }) (x:=.list (vs.set j a)) e3 (.inl rfl) hs ⟨_,hg⟩ ⟨_,_,hg,cr,e2⟩) fun m I'=>?_
 have fin:uC c d A env α s.heap QU () { s with heap:=s.heap.update p.1 (ez (·.setIfInBounds j v)) }:=⟨l,α,_,m,I',by simpa using q⟩
 refine ak (wpAny_setSeqItemAt ho rfl ?_)
 first
  |exact ak (aQ (aQ ⟨.none,rfl,aQ fin⟩))
  |exact aQ ⟨.none,rfl,aQ fin⟩
theorem WU.KS {n:Nat}{kvs:List (Int×AV)}{k:Int}{a:AV}(e:H[n]?=some (.dict kvs)) (hz:kvs.length≤1000000) (q:QU l (H.set n (.dict (ml k a kvs)))) :
  WU c d A env (fun xs=>setItem (xs[0]?.getD .none) (xs[1]?.getD .none) (xs[2]?.getD .none)) [.obj n,.int k,a] l H QU X:=fun α s xs I rs=>by
 refine cy rs.three fun x y v sG rx ry rv=>?_
 subst sG
 refine aL (I.h.look e rx) fun p e3 uy cr=>?_
 subst uy
 obtain⟨kv,hd,dr,e2,hm⟩:=cr
 refine al ry.int fun t IF=>?_
 subst IF
 refine wpAny_setItem_pairs (nO _ _ _ _) hd (fun h' qz hs=>?_) (by rw[dr.length,cx];exact ca hz rfl)
 have ha:∃o,h'.get? p.1=some o:=RI qz
 have m0:bO A iQ α s.heap α h':=kq (oL e3).1 hs ha
 obtain⟨m,I'⟩:=I.upd (s':={ s with heap:=h',toks:=s.toks+1 }) (x:=.dict (ml k a kvs)) e3 (.inl rfl) hs ha
  ⟨_,qz,(de.put (rv.mono m0 I.h (eM.no _)) (dr.mono m0 I.h (eM.no _))),e2,hm⟩
 exact⟨l,α,_,m,I',q⟩
theorem WV.append {n:Nat}{vs:List AV}{a:AV}(e:H[n]?=some (.list vs)) (hz:vs.length≤1000000) (q:Q .none (H.set n (.list (vs++[a])))) :
  WV c d A env (fun xs=>PySem.call (.builtin "list.append") xs) [.obj n,a] l H Q X:=fun α s xs I rs=>by
 refine aN rs.two fun x v xN rx rv=>?_
 subst xN
 refine aL (I.h.look e rx) fun p e3 Qu cr=>?_
 subst Qu
 obtain⟨items,nn,ho,ri,e2⟩:=cr
 have kT:items.size=vs.length:=by rw[←ri.length];simp
 refine wpAny_list_append_plain ⟨nn,ho⟩ (fun h' hl hs=>?_) (by rw[kT,cx];exact ca hz rfl)
 refine al hl fun n' hg=>?_
 clear hl
 have m0:bO A iQ α s.heap α h':=kq (oL e3).1 hs ⟨_,hg⟩
 obtain⟨m,I'⟩:=I.upd (s':={ s with heap:=h' }) (x:=.list (vs++[a])) e3 (.inl rfl) hs ⟨_,hg⟩
  ⟨_,n',hg,by rw[Array.toList_push];exact(ri.mono m0 I.h (eM.no _)).append (eD (rv.mono m0 I.h (eM.no _)) jD),e2⟩
 exact⟨.none,α,_,m,I',xh,q⟩
theorem WV.pop {n:Nat}{vs:List AV}{a:AV}(e:H[n]?=some (.list (vs++[a]))) (hz:vs.length≤1000000) (q:Q a (H.set n (.list vs))) :
  WV c d A env (fun xs=>PySem.call (.builtin "list.pop") xs) [.obj n] l H Q X:=fun α s xs I rs=>by
 refine aq rs.one fun x HY rx=>?_
 subst HY
 refine aL (I.h.look e rx) fun p e3 yh cr=>?_
 subst yh
 obtain⟨items,nn,ho,ri,e2⟩:=cr
 have kT:items.size=vs.length+1:=by
  have:=ri.length
  simp at this;exact this
 have MA:∃ws y,items.toList=ws++[y]∧bl c s.heap α vs ws∧bM c s.heap α a y:=by
  have:∀{vs:List AV}{zs:List ai},bl c s.heap α (vs++[a]) zs→∃ws y,zs=ws++[y]∧bl c s.heap α vs ws∧bM c s.heap α a y:=by
   intro vs
   induction vs with
   |nil=>intro zs r;refine aq (bl.one r) fun v Yt r1=>?_;subst Yt;exact⟨[],v,rfl,jD,r1⟩
   |cons b r ih=>
    intro zs rr
    refine aN (bl.cons rr) fun v r' W3 h1 h2=>?_
    subst W3
    refine aN (ih h2) fun ws y Qg h3 h4=>?_
    subst Qg
    exact⟨v::ws,y,rfl,eD h1 h3,h4⟩
  exact this ri
 refine aN MA fun ws y hw rws ry=>?_
 clear MA
 have Ff:items=(ws++[y]).toArray:=by rw[←hw]
 subst Ff
 have hy:(ws++[y]).toArray[(ws++[y]).toArray.size-1]?=some y:=by simp
 have Uz:ez (fun xs=>xs.eraseIdxIfInBounds ((ws++[y]).toArray.size-1)) ⟨.type "list",none,.seq (ws++[y]).toArray nn,#[]⟩=⟨.type "list",none,.seq ws.toArray (nn+1),#[]⟩:=by
  have h1:(ws++[y]).toArray.eraseIdxIfInBounds ((ws++[y]).toArray.size-1)=ws.toArray:=by
   simp only[Array.eraseIdxIfInBounds,nc,ah,cC,jl,pz,Nat.add_sub_cancel,Nat.lt_add_one,dite_true,List.eraseIdx_toArray]
   rw[List.eraseIdx_append_of_length_le (aA _)]
   simp
  simp only[ez,h1]
  simp
 refine QL PySem.F.slot_list_pop ⟨_,ho,rfl⟩ PySem.F.entry_list_pop (PySem.F.args_list_pop_1 _) (PySem.MeetsSeq.list_pop_last p.1 (ws++[y]).toArray nn y hy (by rw[kT,cx];exact dk (oX hz rfl))) ⟨ho,?_⟩
 have hs:dz p.1 s.heap (s.heap.update p.1 (ez fun xs=>xs.eraseIdxIfInBounds ((ws++[y]).toArray.size-1))):=j9 ..
 have hg:(s.heap.update p.1 (ez fun xs=>xs.eraseIdxIfInBounds ((ws++[y]).toArray.size-1))).get? p.1=some ⟨.type "list",none,.seq ws.toArray (nn+1),#[]⟩:=by
  rw[dx _ ho (by rw[Uz];rfl),Uz]
 have m0:bO A iQ α s.heap α (s.heap.update p.1 (ez fun xs=>xs.eraseIdxIfInBounds ((ws++[y]).toArray.size-1))):=kq (oL e3).1 hs ⟨_,hg⟩
 obtain⟨m,I'⟩:=I.upd (s':={ s with heap:=s.heap.update p.1 (ez fun xs=>xs.eraseIdxIfInBounds ((ws++[y]).toArray.size-1)) }) (x:=.list vs) e3 (.inl rfl) hs ⟨_,hg⟩
  ⟨_,_,hg,by simpa using rws.mono m0 I.h (eM.no _),e2⟩
 exact⟨a,α,_,m,I',ry.mono m0 I.h (eM.no _),q⟩
theorem Iv {n:Nat}{vs:List AV}{name:bu}{id:String}{pl:rU Bool}(slot:Slot "list" name id) (Xx:typeOf (.builtin id)=pure (.type "method_descriptor")) (e:H[n]?=some (.list vs)) :
  ∀α s x,Inv c d A env l α H s→bM c s.heap α (.obj n) x→∀P:ai×List ai→aH→Prop,∀E,P (.builtin id,[x]) s→bj c.M A (kj x name pl) P E s:=fun α s x I r P E q=>by
 refine aL (I.h.look e r) fun p e3 Hx cr=>?_
 subst Hx
 obtain⟨items,nn,ho,ri,e2⟩:=cr
 exact Rn ⟨_,ho,rfl⟩ PySem.F.plainAttrs_list slot Xx (fun a e=>by cases e;exact⟨_,ho,rfl⟩) q
structure xE (K:gg) (C:aD) (name:bu) (f:aD):Prop where
 get:L0 K C name=true
 cls:qP K (.ref C) name=some (some (.ref f))
 fn:isFn K (.ref f)=true
 keep:Qz K (.ref f)=true
theorem OA {n:Nat}{C f:aD}{fs:List (bu×AV)}{name:bu}{pl:rU Bool}(ok:xE c.K C name f) (e:H[n]?=some (.inst C fs)) (hn:fs.lookup name=none) :
  ∀α s x,Inv c d A env l α H s→bM c s.heap α (.obj n) x→∀P:ai×List ai→aH→Prop,∀E,P (.ref f,[x]) s→bj c.M A (kj x name pl) P E s:=fun α s x I r P E q=>by
 refine aL (I.h.look e r) fun p e3 NB cr=>?_
 subst NB
 refine eC cr.Bg fun es nn sl inst fr=>?_
 have fg:=eN.get (name:=name) fr
 rw[hn] at fg
 exact method_fn I.ql inst (L8 ok.get).1 (L8 ok.get).2 ok.cls (beq_iff_eq.mp ok.fn) (by show(lookIn name (dictOf es nn)).map _=_;rw[lookIn_dict,fg];rfl) q
theorem Gn {a:AV}{kvs:List (Int×AV)}{name:bu}{id:String}{pl:rU Bool}(slot:Slot "dict" name id) (Xx:typeOf (.builtin id)=pure (.type "method_descriptor")) (D:DictAt c H a kvs) :
  ∀α s x,Inv c d A env l α H s→bM c s.heap α a x→∀P:ai×List ai→aH→Prop,∀E,P (.builtin id,[x]) s→bj c.M A (kj x name pl) P E s:=fun α s x I r P E q=>by
 refine b9 (D.look I.h r) fun b kv Oo hm hd dr=>?_
 subst Oo
 exact Rn hd.mapOf.typeIs PySem.F.plainAttrs_dict slot Xx hd.mapOf.noDict q
theorem WV.SM {a:AV}{kvs:List (Int×AV)}{k:Int}(D:DictAt c H a kvs) (q:Q ((kvs.lookup k).getD .none) H):WV c d A env (fun xs=>PySem.call (.builtin "dict.get") xs) [a,.int k] l H Q X:=fun α s xs I rs=>by
 refine aN rs.two fun x y PA rx ry=>?_
 subst PA
 refine b9 (D.look I.h rx) fun b kv PR hm hd dr=>?_
 subst PR
 refine al ry.int fun t NY=>?_
 subst NY
 refine Jh Ro hd.mapOf.typeIs QM (F.args_dict_get_2 _ _) (meets_dict_get (ia c.prog c.w) b (nO _ _ _ _) hm) ⟨_,hd.mapOf,?_⟩
 have dv:=de.val (k:=k) dr
 cases e:kvs.lookup k with
 |none=>rw[e] at dv q;rw[dv];exact I.done xh q
 |some z=>rw[e] at dv q;refine aq dv fun y hy YT=>?_;clear dv;rw[hy];exact I.done YT q
theorem WV.R3 {a dv:AV}{kvs:List (Int×AV)}{k:Int}(D:DictAt c H a kvs) (q:Q ((kvs.lookup k).getD dv) H):WV c d A env (fun xs=>PySem.call (.builtin "dict.get") xs) [a,.int k,dv] l H Q X:=fun α s xs I rs=>by
 refine cy rs.three fun x y z NG rx ry rz=>?_
 subst NG
 refine b9 (D.look I.h rx) fun b kv Ql hm hd dr=>?_
 subst Ql
 refine al ry.int fun t P8=>?_
 subst P8
 refine Jh Ro hd.mapOf.typeIs QM (F.args_dict_get_3 _ _ _) (meets_dict_get_default (ia c.prog c.w) b (nO _ _ _ _) hm z) ⟨_,hd.mapOf,?_⟩
 have RZ:=de.val (k:=k) dr
 cases e:kvs.lookup k with
 |none=>rw[e] at RZ q;rw[RZ];exact I.done rz q
 |some z=>rw[e] at RZ q;refine aq RZ fun y hy YT=>?_;clear RZ;rw[hy];exact I.done YT q
theorem WV.YY {n:Nat}{vs:List AV}(e:H[n]?=some (.list vs)) (hz:vs.length≤1000000) (q:Q (.int vs.length) H):WV c d A env (fun xs=>PySem.call (.builtin "len") xs) [.obj n] l H Q X:=fun α s xs I rs=>by
 refine aq rs.one fun x Qo rx=>?_
 subst Qo
 refine aL (I.h.look e rx) fun p e3 Qr cr=>?_
 subst Qr
 refine aq cr.isList fun items hl ri=>?_
 have kT:items.size=vs.length:=by rw[←ri.length];simp
 exact call_len_list hl (by rw[kT];exact uO hz rfl) (I.done (by rw[kT];exact iq) q)
theorem WV.Yy {a:AV}{kvs:List (Int×AV)}(D:DictAt c H a kvs) (hz:kvs.length≤1000000) (q:Q (.int kvs.length) H):WV c d A env (fun xs=>PySem.call (.builtin "len") xs) [a] l H Q X:=fun α s xs I rs=>by
 refine aq rs.one fun x Zi rx=>?_
 subst Zi
 refine b9 (D.look I.h rx) fun b kv WN hm hd dr=>?_
 subst WN
 exact call_len_dict hm hd (by rw[dr.length];exact uO hz rfl) (I.done (by rw[dr.length];exact iq) q)
theorem WV.X5 {b:List UInt8}(hz:b.length≤1000000) (q:Q (.int b.length) H):WV c d A env (fun xs=>PySem.call (.builtin "len") xs) [.eg b] l H Q X:=fun α s xs I rs=>by
 refine aq rs.one fun x XZ rx=>?_
 subst XZ
 refine al rx.eg fun t ZP=>?_
 subst ZP
 exact len_bytes (by simp;exact ca hz rfl) (I.done (by simpa using iq) q)
theorem WV.Xk {vs:List AV}(hz:vs.length≤1000000) (q:Q (.int vs.length) H):WV c d A env (fun xs=>PySem.call (.builtin "len") xs) [.tup vs] l H Q X:=fun α s xs I rs=>by
 refine aq rs.one fun x ZW rx=>?_
 subst ZW
 refine aN rx.tup fun a items Yg ht ri=>?_
 subst Yg
 have kT:items.size=vs.length:=by rw[←ri.length];simp
 exact len_tuple ht (by rw[kT];exact uO hz rfl) (I.done (by rw[kT];exact iq) q)
theorem WX.Lk {o e:Expr}{name:bu}{p:ij}(w:WE c d A env e l H (fun a H1=>WE c d A env o l H1 (fun b H2=>WU c d A env (fun vs=>setAttr (vs[0]?.getD .none) name (vs[1]?.getD .none)) [b,a] l H2 (fun l' H'=>SQ .next l' H') X) X) X)
  (hs:lG e (some (.Attribute o name p)) pos.line env=pure false):WX c d A env (.Assign [.Attribute o name p] e pos) l H SQ X:=fun α s I=>by
 refine xt (au (w α s I) (fun v bf eS=>?_) fun _ _ e=>e) hs
 obtain⟨a,aP,H₁,b0,bp,fH,jc⟩:=eS
 refine au (jc aP bf bp) (fun oG cY eS=>?_) fun _ _ e=>e.weak b0
 obtain⟨b,bE,eY,cW,cB,jr,nC⟩:=eS
 have m:=b0.trans cW
 exact au (nC bE cY [oG,v] cB (eD jr (eD (fH.mono cW bp.h bp.solid) jD))) (by rintro u' hZ ⟨sH,fe,lh,gX,fP,q⟩;exact⟨.next,sH,fe,lh,m.trans gX,fP,rfl,q⟩) fun _ _ e=>e.weak m
theorem WX.NK {o i e:Expr}{p:ij}(w:WE c d A env e l H (fun a H1=>WE c d A env o l H1 (fun b H2=>WE c d A env i l H2 (fun k H3=>
   WU c d A env (fun xs=>setItem (xs[0]?.getD .none) (xs[1]?.getD .none) (xs[2]?.getD .none)) [b,k,a] l H3 (fun l' H'=>SQ .next l' H') X) X) X) X)
  (hs:lG e (some (.Subscript o i p)) pos.line env=pure false):WX c d A env (.Assign [.Subscript o i p] e pos) l H SQ X:=fun α s I=>by
 refine wpAny_Assign_Subscript (au (w α s I) (fun v bf eS=>?_) fun _ _ e=>e) hs
 obtain⟨a,aP,H₁,b0,bp,fH,jc⟩:=eS
 refine au (jc aP bf bp) (fun oG cY eS=>?_) fun _ _ e=>e.weak b0
 obtain⟨b,bE,eY,cW,cB,jr,nC⟩:=eS
 refine au (nC bE cY cB) (fun Wc hZ eS=>?_) fun _ _ e=>e.weak (b0.trans cW)
 obtain⟨k,fe,lh,gX,fP,IY,Pb⟩:=eS
 have m:=(b0.trans cW).trans gX
 exact au (Pb fe hZ [oG,Wc,v] fP (eD (jr.mono gX cB.h cB.solid) (eD IY (eD ((fH.mono cW bp.h bp.solid).mono gX cB.h cB.solid) jD))))
  (by rintro u' n7 ⟨N1,rJ,FJ,km,jT,q⟩;exact⟨.next,N1,rJ,FJ,m.trans km,jT,rfl,q⟩) fun _ _ e=>e.weak m
theorem WX.expr {e:Expr}(w:WE c d A env e l H (fun a H'=>a=.none∧SQ .next l H') X) (hi:Ma env=false) (hs:lG e none pos.line env=pure false):WX c d A env (.Expr e pos) l H SQ X:=fun α s I=>by
 refine wpAny_Expr (au (w α s I) (fun v bf p=>?_) fun _ _ e=>e) hi hs
 obtain⟨a,aP,H₁,b0,bp,fH,rfl,q⟩:=p
 cases fH.none
 exact⟨.next,l,aP,H₁,b0,bp,rfl,q⟩
end
end
section
open PySem PySem.W PySem.Calls PyProof.Rows
section
variable {c:Cx}{d:Nat}{A:aU}{env:dI}{l l':Loc}{α bD:Am}{h h':cf}{H H':List ag}{s s':aH}
variable {Q:AV→List ag→Prop}{QB:Bool→List ag→Prop}{X:List ag→Prop}{pos:ij}{own:aD→Prop}{QU:Loc→List ag→Prop}{SQ:AF→Loc→List ag→Prop}
theorem dQ.grow {g:Sd}(K:dQ c A g h α) (hk:∀b o,h.get? b=some o→h'.get? b=some o) (ha:∀b,iU bD b→iU α b∨h.get? b=Option.none):dQ c A g h' bD:=by
 refine aL K.fr fun l e F n=>?_
 refine⟨⟨l,e,F.of_keeps fun b o e _=>⟨o,hk _ _ e,rfl⟩,fun en he b hb q=>?_⟩,K.la⟩
 rcases ha b q with q | q
 ·exact n en he b hb q
 ·refine bG (FunFrames.none F en he b hb) fun _ gC=>?_
  refine aq gC fun o ho _=>?_
  rw[ho] at q;exact nS (fZ q)
structure A9 (K:gg) (C fI:aD):Prop where
 makes:makesIn K C=true
 init:qP K (.ref C) "__init__"=some (some (.ref fI))
 fn:typeIn K (.ref fI)=some (.type "function")
theorem WC.make {C fI:aD}{as:List AV}(ok:A9 c.K C fI)
  (w:WC c d (.ref fI) (.obj H.length::as) (H++[.inst C []]) (fun a H'=>a=.none∧Q (.obj H.length) H') X):WC c (d+1) (.ref C) as H Q X:=fun A α s vs I r=>by
 have ql:=I.ok.X.keeps I.h.base
 obtain⟨hh,g,dr,t,os⟩:=s
 refine make_core (makes_of ql ok.makes) (Ji ql ok.init) (fun self=>bind_fn ql self ok.fn) (.inl rfl) ?_
 have hk:∀b o,hh.get? b=some o→((hh.push nj).push (tA C hh.objs.size)).get? b=some o:=fun b o e=>aT _ (aT _ e)
 have n2:hh.get? hh.objs.size=none:=bR
 have n1:hh.get? (hh.objs.size+1)=none:=gk (bX _)
 have hx:((hh.push nj).push (tA C hh.objs.size)).get? (hh.objs.size+1)=some (tA C hh.objs.size):=by heap_get
 have hd:((hh.push nj).push (tA C hh.objs.size)).get? hh.objs.size=some nj:=by heap_get
 have O:=I.h
 refine bG (gu.alloc (A:=A) (p:=(hh.objs.size+1,hh.objs.size)) (x:=.inst C []) O hk n1 n2 ⟨[],0,_,hx,hd,rfl⟩) fun m O'=>?_
 have K':dQ c A (g,os) ((hh.push nj).push (tA C hh.objs.size)) (α++[(hh.objs.size+1,hh.objs.size)]):=I.k.grow hk fun b a=>m.fresh a
 have ro:bM c ((hh.push nj).push (tA C hh.objs.size)) (α++[(hh.objs.size+1,hh.objs.size)]) (.obj H.length) (.ref (hh.objs.size+1)):=by
  have:(α++[(hh.objs.size+1,hh.objs.size)])[H.length]?=some (hh.objs.size+1,hh.objs.size):=by rw[←O.len];simp
  exact yi this
 have R':vC d (A.under (.builtin "type.__call__" ⟨.ref C::vs,[]⟩)):=by
  refine⟨?_,?_,I.r.hd⟩
  ·have:=I.r.depth;show A.depth+1+4*d<kJ;exact aW [_,_] [] [.T (.a aB (.m 4 (.a aM bP))) (.l 1000)] (.T (.a (.a aB bP) (.m 4 aM)) (.l 1000)) cK rfl this
  ·have:=I.r.units;show A.units+1+40*d<L5;exact aW [_,_] [] [.T (.a aB (.m 40 (.a aM bP))) (.l 9900)] (.T (.a (.a aB bP) (.m 40 aM)) (.l 9900)) cK rfl this
 refine qT (w (A.under (.builtin "type.__call__" ⟨.ref C::vs,[]⟩)) _ _ _ ⟨I.ok,R',O',⟨K'.fr,K'.la⟩⟩ (eD ro (r.carry m.pre fun t=>m.tup O (eM.no _) t))) fun Jp bf p=>?_
 rcases Jp with x | (v | _ | _ | _)<;>first | exact p.elim | skip
 ·obtain⟨e,aP,H₁,rfl,z,b0,PN,Ib,q⟩:=p
  have Ae:bO A iQ (α++[(hh.objs.size+1,hh.objs.size)]) ((hh.push nj).push (tA C hh.objs.size)) aP bf.heap:=⟨b0.pre,b0.fresh,b0.alive,b0.keep,b0.slot⟩
  refine⟨e,aP,H₁,rfl,?_,m.trans Ae,PN,⟨Ib.fr,Ib.la⟩,q⟩
  exact iR.IV m z
 ·obtain⟨a,aP,H₁,b0,PN,Ib,rv,rfl,q⟩:=p
  have Ae:bO A iQ (α++[(hh.objs.size+1,hh.objs.size)]) ((hh.push nj).push (tA C hh.objs.size)) aP bf.heap:=⟨b0.pre,b0.fresh,b0.alive,b0.keep,b0.slot⟩
  exact⟨rv.none,⟨_,aP,H₁,m.trans Ae,PN,⟨Ib.fr,Ib.la⟩,ro.carry Ae.pre (fun t=>Ae.tup O' (eM.no _) t),q⟩⟩
where
 iR.IV {c:Cx}{A:aU}{own:aD→Prop}{α bD bE:Am}{h h' e8:cf}{e:aD}{fl:Option ai}(m:bO A own α h bD h') (z:iR c h' e8 bE e fl):iR c h e8 bE e fl:=by
  have gone:∀{b},h'.get? b=.none→h.get? b=.none:=fun{b} e=>by
   cases q:h.get? b with
   |none=>rfl
   |some o=>refine al (m.alive q) fun o' e'=>?_;rw[e] at e';exact nS e'
  obtain⟨z1,z2,z3,oe,vs,a0,z4,z5,z6,z7,z8⟩:=z
  refine⟨z1,z2,gone z3,oe,vs,a0,z4,z5,z6,z7,?_⟩
  cases fl with
  |none=>exact z8
  |some f=>
   obtain⟨T,oT,ts,y1,y2,y3,y4,y5,y6,y7,y8⟩:=z8
   exact⟨T,oT,ts,y1,y2,y3,y4,y5,y6,y7,gone y8⟩
end
end
section
open PySem PySem.W PySem.Calls PyProof.Rows
section
variable {M:Fp}{A:aU}{E:ai→aH→Prop}{h:cf}{g:Array p8}{d:Cf}{t:Nat}{os:m6}
variable {nm q:bu}{C N:aD}{bs bm:List ai}{hdct:Bool}{sn:List bu}{sub:List ai}{ab:Bool}{col:Option Bool}{dd:Option aD}{k0 k1 k2 k3 k5:Option ai}{newId:String}
theorem Hz {Bn newId YB:String}{YZ:List ai}(Fn:ExcBaseFacts Bn newId YB YZ) (RC:(ai.ref C::bm).contains (.type Bn)=true){rest:List ai}{Q:Unit→aH→Prop}(hC:h.get? C=some (sS nm q C N bs bm hdct sn sub ab col dd k0 k1 k2 k3 k5 newId))
  (hq:Q () ⟨h,g,d,t,os⟩):bj M A (checkBuiltinCall newId ⟨.ref C::rest,[]⟩) Q E ⟨h,g,d,t,os⟩:=by
 have Mt:=Fn.noStar
 simp only[checkBuiltinCall,Fn.newKind,Fn.newSplit,Fn.newRow]
 repeat (first | refine gz hC ?_ | (refine mF hC ?_;rw[RC]) | refine wpAny_staticBase_exc hC ?_ | refine wpAny_madeBy_exc hC ?_ | simp only[bne_self_eq_false,Fq,if_false] | wp_step)
 exact hq
theorem Pk {prog:mZ}{w:iN}{R:sP→aH→Prop}{Bn newId YB:String}{YZ:List ai}(Fn:ExcBaseFacts Bn newId YB YZ) (Kr:(ai.ref C::bm).contains (.type Bn)=true)
  (Q4:(ai.ref C::bm).contains (.type "AttributeError")=false) (QV:(ai.ref C::bm).contains (.type "NameError")=false){rest:List ai}
  (hC:h.get? C=some (sS nm q C N bs bm hdct sn sub ab col dd k0 k1 k2 k3 k5 newId))
  (hq:R (.ok (.ret (.ref (h.objs.size+1)))) ⟨(h.push { cls:=.type "tuple",data:=.seq rest.toArray }).push
   { cls:=.ref C,data:=.fields #[.ref h.objs.size,.none,.none,.none,.bool false,.none] },g,d,t,os⟩) (xd:rest.length≤nP) :
  ic (ki prog w) A (.builtin newId ⟨.ref C::rest,[]⟩) R ⟨h,g,d,t,os⟩:=by
 have CU:=Fn.ends
 refine codeAny_builtinAt Fn.entry ?_
 unfold Builtin.«BaseException.__new__»
 refine PySem.wpAt_bind ?_
 show PySem.wpAt _ _ _ (stack >>= _) _ _ _
 refine PySem.wpAt_bind (PySem.wpAt_stack fun p aaf=>PySem.wpAt_of_wpAny ?_)
 wp_walk
 refine PySem.wpAt_of_wpAny ?_
 rw[Fn.owner]
 repeat (first | with_reducible refine wpAny_madeHere_exc Fn.canon hC ?_ | with_reducible refine gz hC ?_ | (with_reducible refine mF hC ?_;first | rw[Kr] | rw[Q4] | rw[QV]) | wp_step)
 show R _ _
 rw[gK]
 exact hq
theorem F6 {env:dI}{s:aH}{x:rU ai}{Q:AA→aH→Prop}(Kr:(ai.ref C::bm).contains (.type "BaseException")=true) (hh:A.handled=none)
  (h:bj M A x (fun v bf=>∃e t0 d0,v=.ref e∧bf.heap.get? C=some (sS nm q C N bs bm hdct sn sub ab col dd k0 k1 k2 k3 k5 newId) ∧
   bf.heap.get? e=some { cls:=.ref C,dict:=d0,data:=.fields #[.ref t0,.none,.none,.none,.bool false,.none] }∧E (.ref e) bf) E s) :
  bj M A (raiseStmt env (some x) none) Q E s:=by
 unfold raiseStmt
 refine ak (au h (fun v bf gp=>?_) fun _ _ x=>x)
 refine cy gp fun e t0 d0 gC hC he hE=>?_
 clear gp
 subst gC
 obtain⟨hp,g,d,tk,os⟩:=bf
 repeat (first | with_reducible refine gz he ?_ | with_reducible refine gz hC ?_ | (with_reducible refine mF hC ?_;rw[Kr]) | wp_step)
 exact wpAny_raiseNew_none hh hE
end
end
section
open PySem PySem.W PySem.Calls PyProof.Rows
theorem F4 {v:ai}{a:aD}(h:refOf v=some a):v=.ref a:=by cases v<;>cases h;rfl
theorem nz.ind {P:List ai→Prop}(h1:∀c r,P r→P (.ref c::r)) (h2:P Hr):∀{l:List ai},nz l=true→P l:=fun{l}=>by
 induction l with
 |nil=>exact fun h=>nomatch h
 |cons v r ih=>
  intro h
  replace h:(bif (refOf v).isSome then nz r else v::r==Hr)=true:=h
  cases e:refOf v with
  |none=>rw[e] at h;exact eq_of_beq h▸h2
  |some c=>rw[e] at h;exact F4 e▸h1 c r (ih h)
theorem Er (self:ai){l:List ai}:nz l=true→refuseLoop self "__setattr__" l=pure ():=
 nz.ind (P:=fun l=>refuseLoop self "__setattr__" l=pure ()) (fun c r h=>by rw[refuseLoop_ref];exact h) (PySem.F.store_ValueError.passes self)
theorem OK {l:List ai}:nz l=true→l.contains (.type "object")=true:=
 nz.ind (P:=fun l=>l.contains (.type "object")=true) (fun c r h=>by rw[List.contains_cons,h,Bool.or_true]) (by decide +kernel)
open Builtin.ObjectAttr in
theorem DU {prog:mZ}{w:iN}{A:aU}{K:gg}{C x:aD}{s:aH}{R:sP→aH→Prop}{ox:ow}{od:Option ow}{name:bu}{tk:Tok}{v:ai}{r:Option ai}(X:K.In s.heap) (I:InstAt s.heap x ox C od) (hp:BG K C=true) (ht:Rd K C name=some r)
  (h:∀b,bj (ki prog w) A.in1 (match r with | some a=>setByDescriptor a (.ref x) v | none=>storeInOwnDict (.ref x) (.ref C) (.str name tk) name v b)
   (fun fin s'=>match fin with | .done f=>R (.ok f) s' | .again c'=>c'.quiet=true∧ic (ki prog w) A c' R s') (fun e s'=>R (.error e) s') s) :
  ic (ki prog w) A (.call (.builtin "object.__setattr__") ⟨[.ref x,.str name tk,v],[]⟩) R s:=by
 have SF:=PySem.F.store_object
 refine aq (any_some hp) fun cd hc ho=>?_
 have ne:cd.mro.isEmpty=false:=by cases q:cd.mro with | nil=>rw[q] at ho;cases ho | cons _ _=>rfl
 have sub:Looks (ki prog w) s.heap (isInstance (.ref x) (.type "object")) true:=I.type.andThen (looks_mroIn X (by unfold mroIn;rw[hc,Ft,if_neg (by rw[ne];decide),OK ho]))
 refine codeAny_call_builtin SF.slot.plain SF.entry (@check_slot (ki prog w) _ _ s "object.__setattr__" "object" "__setattr__" (.ref x) [.str name tk,v] [] _ SF.kind SF.split sub (SF.args (.ref x) (.str name tk) v) ?_)
 refine aq (Option.bind_eq_some_iff.mp ht) fun attr ha hr=>?_
 have hm:Looks (ki prog w) s.heap (mroOf (.ref C)) cd.mro:=(L9 X hc).andThen .now
 have L3:Looks (ki prog w) s.heap (storeTaker? attr) r:=by
  cases attr with
  |none=>replace hr:=ae hr;subst hr;exact .now
  |some a=>
   refine aq (bB.mp hr) fun b hb gC=>?_
   subst gC
   refine(looks_takesIn X hb).andThen ?_
   cases b<;>exact .now
 rw[osa_eq,refuse_eq]
 refine ak (ak (I.type.here (ak (hm.here ?_))))
 rw[Er _ ho]
 refine aQ (ak (I.type.here (ak ((Ji X ha).here (ak (L3.here ?_))))))
 exact h _
structure Qt (K:gg) (C:aD) (name:bu):Prop where
 set:qP K (.ref C) "__setattr__"=some (some (.builtin "object.__setattr__"))
 over:BG K C=true
 GB:Rd K C name=some none
 dict:(clsIn K C).any (·.hasDict)=true
structure ma (K:gg) (bd fI:aD) (fd:eJ):Prop where
 cls:∃nm q N bs bm hdct sn sub ab col dd k0 k1 k2 k3 k5,K.lookup bd=some (sS nm q bd N bs bm hdct sn sub ab col dd k0 k1 k2 k3 k5 "ValueError.__new__") ∧
  (ai.ref bd::bm).contains (.type "ValueError")=true∧(ai.ref bd::bm).contains (.type "AttributeError")=false∧(ai.ref bd::bm).contains (.type "NameError")=false ∧
  (ai.ref bd::bm).contains (.type "BaseException")=true∧bm.contains (.type "BaseException")=true
 init:qP K (.ref bd) "__init__"=some (some (.ref fI))
 fn:typeIn K (.ref fI)=some (.type "function")
 set:Qt K bd "reason"
 body:∃p1 p2 p3 p4,qk K fI fd [.Assign [.Attribute (.Name "self" p1) "reason" p2] (.Name "reason" p3) p4] ["self","reason"]
 loc:fd.scope.names=[(("self":bu),bc.local),(("reason":bu),bc.local)]
 bind:∀(x y:ai) (s:aH),K.In s.heap→wL s fd ⟨[x,y],[]⟩ [(("self":bu),x),(("reason":bu),y)]
section
variable {c:Cx}{d:Nat}{A:aU}{env:dI}{l l':Loc}{α bD:Am}{h h':cf}{H H':List ag}{s s':aH}
variable {Q:AV→List ag→Prop}{QB:Bool→List ag→Prop}{X:List ag→Prop}{pos:ij}{own:aD→Prop}{QU:Loc→List ag→Prop}{SQ:AF→Loc→List ag→Prop}
theorem I0 {fI:aD}{fd:eJ}(ok:ma c.K c.bd fI fd) (ql:c.K.In h) (Bo:h.NoLimit){e t0:aD}{m:bu}{tm:Tok}{R:sP→aH→Prop}{g:Array p8}{dr:Cf}{t:Nat}{os:m6}
  (he:h.get? e=some { cls:=.ref c.bd,data:=.fields #[.ref t0,.none,.none,.none,.bool false,.none] }) (hA:A.depth<kJ)
  (hq:∀h' t',(∀b o,b≠e→h.get? b=some o→h'.get? b=some o)→(∃d0,h'.get? e=some { cls:=.ref c.bd,dict:=some d0,data:=.fields #[.ref t0,.none,.none,.none,.bool false,.none] }) →
   R (.ok (.ret .none)) ⟨h',g,dr,t',os⟩) :
  ic c.M A (.call (.ref fI) ⟨[.ref e,.str m tm],[]⟩) R ⟨h,g,dr,t,os⟩:=by
 refine fW ok.body fun p1 p2 iu=>?_
 refine fW iu fun p3 p4 D=>?_
 refine fW D.at_ fun oc od jX=>?_
 refine al jX fun sl Nj=>?_
 have S:=ok.set
 refine JD hA (ql _ _ Nj) rfl D.co D.gen D.body (codeRec_of ql D.code) (ok.bind _ _ ⟨h,g,dr,t,os⟩ ql _ _ _ _ ?_)
 rw[D.clo]
 have Ui:∀x∈[(("self":bu),ai.ref e),("reason",.str m tm)],fd.scope.names.lookup x.1=some .local∨(fd.scope.names.lookup x.1=some .cell∧((qa (h.objs.size+1) fd.scope.names []).lookup x.1).isSome=true):=by
  rw[ok.loc]
  intro x hx
  simp only[br,bZ,or_false] at hx
  rcases hx with rfl | rfl
  ·exact .inl (by dsimp only;decide +kernel)
  ·exact .inl (by dsimp only;decide +kernel)
 refine Ci (s:=⟨h,g,dr,t,os⟩) D.kind Ui fun env he' bf x=>⟨Bo.keeps x.toInCall.keep,codeAny_func ?_⟩
 have keep:=x.toInCall.keep
 have w6:env.scope=fd.scope:=by rw[he'];rfl
 have VE:env.scope.kind=.function:=w6▸D.kind
 refine fW x.toInCall.same fun h1 cK E4=>?_
 have ns:=x.toInCall.ns
 subst E4
 dsimp only at keep ns ⊢
 have SN:=keep _ _ he
 have N2:=ql.keeps keep
 have nk:∀y,env.kindOf y=fd.scope.names.lookup y:=fun y=>by rw[he'];rfl
 have Of:env.scope.names.lookup ("self":bu)=some bc.local:=by rw[w6,ok.loc];decide +kernel
 have lk2:env.scope.names.lookup ("reason":bu)=some bc.local:=by rw[w6,ok.loc];decide +kernel
 have nd:([(("self":bu),ai.ref e),("reason",.str m tm)].map (·.1)).Nodup:=by simp only[bY,Rp];decide +kernel
 have v1:Rj env.kindOf [(("self":bu),ai.ref e),("reason",.str m tm)] (fun _=>none) "self"=some (.ref e):=sq (by rw[nk,←w6];exact Of) nd (by simp)
 have v2:Rj env.kindOf [(("self":bu),ai.ref e),("reason",.str m tm)] (fun _=>none) "reason"=some (.str m tm):=sq (by rw[nk,←w6];exact lk2) nd (by simp)
 have inst:InstAt h1 e { cls:=.ref c.bd,data:=.fields #[.ref t0,.none,.none,.none,.bool false,.none] } c.bd none:=⟨SN,rfl,rfl,trivial⟩
 refine qd (xt (Cg (sO VE lk2 ns v2 ?_) (by decide +kernel)) rfl)
 refine Cg (sO VE Of ns v1 ?_) (by decide +kernel)
 refine set_plain N2 inst S.set ?_
 refine DU N2 inst S.over S.GB fun b=>?_
 refine aq (any_some S.dict) fun cd hc qz=>?_
 refine ak (aQ (ak (ak (sR SN (ak (Looks.here (s:=⟨h1,g,dr,cK+1,os⟩) (L9 N2 hc) ?_))))))
 rw[qz]
 let d0:=h1.objs.size
 have v7:d0≠e:=fun q=>by
  have:=bU SN
  exact absurd this (by rw[←q];exact gq _)
 refine ak (wpAny_alloc (ak (wpAny_update (aT _ SN) (aQ ?_))))
 have eA:((h1.push { cls:=.type "dict",data:=.dict #[] }).update e fun o=>{ o with dict:=some d0 }).get? e=some { cls:=.ref c.bd,dict:=some d0,data:=.fields #[.ref t0,.none,.none,.none,.bool false,.none] }:=
  dx _ (aT _ SN) rfl
 have dA:((h1.push { cls:=.type "dict",data:=.dict #[] }).update e fun o=>{ o with dict:=some d0 }).get? d0=some (dictOf [] 0):=by
  rw[cP _ _ (gS v7)]
  exact aX _ rfl
 generalize hh2:(h1.push { cls:=.type "dict",data:=.dict #[] }).update e (fun o=>{ o with dict:=some d0 })=h2 at eA dA ⊢
 dsimp only
 unfold JE JF
 refine ak (aQ (ak ?_))
 unfold nsSet
 refine ak (ak (wpAny_askSetting (aQ (ak (wpAny_mkText (ak (sR dA ?_)))))))
 dsimp only
 rw[Je,if_neg (by simp)]
 have Sl:jK ("reason":bu) (cZ c.w.params "reason") (.str "reason" (cK+1)) (.str m tm) (dictOf [] 0)=dictOf (QG "reason" (cZ c.w.params "reason") (.str "reason" (cK+1)) (.str m tm) []) (putN "reason" [] 0):=putName_dict ..
 have dB:(h2.update d0 (jK ("reason":bu) (cZ c.w.params "reason") (.str "reason" (cK+1)) (.str m tm))).get? d0=some (dictOf (QG "reason" (cZ c.w.params "reason") (.str "reason" (cK+1)) (.str m tm) []) (putN "reason" [] 0)):=by
  rw[dx _ dA (by rw[Sl];rfl),Sl]
 have eB:(h2.update d0 (jK ("reason":bu) (cZ c.w.params "reason") (.str "reason" (cK+1)) (.str m tm))).get? e=some { cls:=.ref c.bd,dict:=some d0,data:=.fields #[.ref t0,.none,.none,.none,.bool false,.none] }:=by
  rw[cP _ _ v7];exact eA
 refine wpAny_updatePart dA ?_
 refine ak (wpAny_lookBehind dB (pastItsLine_dict (by rw[cx];unfold QG;simp)) ?_)
 refine aQ ?_
 dsimp only
 refine jS ?_
 refine hq _ _ (fun b o hb hbo=>?_) ⟨d0,eB⟩
 have hb1:=keep _ _ hbo
 have Jo:d0≠b:=fun q=>by
  have:=bU hb1
  exact absurd this (by rw[←q];exact gq _)
 rw[cP _ _ Jo,←hh2,cP _ _ (gS hb)]
 exact aT _ hb1
theorem Eh {fI:aD}{fd:eJ}(ok:ma c.K c.bd fI fd) (ql:c.K.In h){rest:List ai}{Q:Fin→aH→Prop}{E:ai→aH→Prop}{g:Array p8}{dr:Cf}{t:Nat}{os:m6}(xd:rest.length≤nP)
  (hq:∀h' e t0,(∀b o,h.get? b=some o→h'.get? b=some o)→h.get? e=none→h'.get? e=some { cls:=.ref c.bd,data:=.fields #[.ref t0,.none,.none,.none,.bool false,.none] } →
   bj c.M A (PySem.call (.ref fI) (.ref e::rest)) (fun r s'=>r=.none∧Q (.done (.ret (.ref e))) s') E ⟨h',g,dr,t,os⟩):bj c.M A (Builtin.«type.__call__» ⟨.ref c.bd::rest,[]⟩) Q E ⟨h,g,dr,t,os⟩:=by
 refine g5 ok.cls fun nm q N bs bm hdct sn sub ab col dd k0 k1 k2 j5=>?_
 obtain⟨k3,k5,xg,Kr,Q4,QV,Vy,VQ⟩:=j5
 have hC:=ql _ _ xg
 repeat (first | with_reducible refine gz hC ?_ | with_reducible refine wpAny_madeBy_exc hC ?_ | wp_step)
 have F:=PySem.F.excBase_ValueError
 refine codeAny_call_builtin_code (Fu _ F.quiet) (Hz F Kr hC ?_)
 refine Pk F Kr Q4 QV hC ?_ xd
 show bj _ _ _ _ _ _
 have hk:∀b o,h.get? b=some o→((h.push { cls:=.type "tuple",data:=.seq rest.toArray }).push { cls:=.ref c.bd,data:=.fields #[.ref h.objs.size,.none,.none,.none,.bool false,.none] }).get? b=some o:=
  fun b o e=>aT _ (aT _ e)
 have R8:=hk _ _ hC
 have GF:((h.push { cls:=.type "tuple",data:=.seq rest.toArray }).push
   { cls:=.ref c.bd,data:=.fields #[.ref h.objs.size,.none,.none,.none,.bool false,.none] }).get? (h.objs.size+1)=some
   { cls:=.ref c.bd,data:=.fields #[.ref h.objs.size,.none,.none,.none,.bool false,.none] }:=by heap_get
 have hcC:(ai.ref c.bd::bm).contains (.ref c.bd)=true:=by simp
 have Ik:=ql.keeps hk
 unfold isInstance
 repeat (first | with_reducible refine gz GF ?_ | (with_reducible refine mF R8 ?_;rw[hcC]) | wp_step)
 show bj _ _ (QJ (.ref c.bd) _) _ _ _
 refine(Ji Ik ok.init).here ?_
 refine cv (ak ?_)
 refine(bind_fn Ik (.ref (h.objs.size+1)) ok.fn).here ?_
 refine(ak (au (hq _ (h.objs.size+1) h.objs.size hk (gk (bX _)) GF) (fun r s' hr=>?_) fun _ _ x=>x))
 obtain⟨rfl,hQ⟩:=hr
 wp_walk
 exact hQ
theorem Go {fI:aD}{fd:eJ}(ok:ma c.K c.bd fI fd) (ql:c.K.In h){rest:List ai}{Q:ai→aH→Prop}{E:ai→aH→Prop}{g:Array p8}{dr:Cf}{t:Nat}{os:m6}(xd:rest.length≤nP)
  (hq:∀h' e t0,(∀b o,h.get? b=some o→h'.get? b=some o)→h.get? e=none→h'.get? e=some { cls:=.ref c.bd,data:=.fields #[.ref t0,.none,.none,.none,.bool false,.none] } →
   bj c.M (A.under (.builtin "type.__call__" ⟨.ref c.bd::rest,[]⟩)) (PySem.call (.ref fI) (.ref e::rest)) (fun r s'=>r=.none∧Q (.ref e) s') E ⟨h',g,dr,t,os⟩):bj c.M A (PySem.call (.ref c.bd) rest) Q E ⟨h,g,dr,t,os⟩:=by
 refine g5 ok.cls fun nm q N bs bm hdct sn sub ab col dd k0 k1 k2 nF=>?_
 obtain⟨k3,k5,xg,Kr,Q4,QV,Vy,VQ⟩:=nF
 have hC:=ql _ _ xg
 have f1:=tc_lookup
 have f2:=tc_bind (.ref c.bd)
 have hT:(⟨h,g,dr,t,os⟩:aH).TypeIs (.ref c.bd) "type":=⟨_,hC,rfl⟩
 refine QF (codeAny_of_tree ?_)
 show bj _ _ (callAny (.ref c.bd) _) _ _ _
 repeat (any_goals (first | assumption | with_reducible refine gz hC ?_ | wp_step))
 refine⟨rfl,?_⟩
 refine codeAny_call_builtin_at (Fu _ (by decide +kernel)) entry_typeCall (wpAny_check_type_call_sub hC ?_)
 exact Eh ok ql xd hq
theorem new_exc {fI:aD}{fd:eJ}(ok:ma c.K c.bd fI fd) (ql:c.K.In h) (Bo:h.NoLimit){m:bu}{tm:Tok}{Q:ai→aH→Prop}{E:ai→aH→Prop}{g:Array p8}{dr:Cf}{t:Nat}{os:m6}
  (hA:A.depth+1<kJ)
  (hq:∀h' t' e,(∀b o,h.get? b=some o→h'.get? b=some o)→h.get? e=none→(∃t0 d0,h'.get? e=some { cls:=.ref c.bd,dict:=d0,data:=.fields #[.ref t0,.none,.none,.none,.bool false,.none] }) →
   Q (.ref e) ⟨h',g,dr,t',os⟩):bj c.M A (PySem.call (.ref c.bd) [.str m tm]) Q E ⟨h,g,dr,t,os⟩:=by
 refine Go ok ql (by rw[cx];simp) fun h1 e t0 hk hn he=>?_
 refine QF (I0 ok (ql.keeps hk) (Bo.keeps hk) he (by show A.depth+1<_;exact hA) fun h2 t2 k2 eS=>?_)
 obtain⟨d0,e2⟩:=eS
 exact⟨rfl,hq _ _ _ (fun b o hb=>k2 b o (fun q=>by rw[q,hn] at hb;exact nS hb) (hk _ _ hb)) hn ⟨t0,_,e2⟩⟩
end
end
section
open PySem PySem.W PySem.Calls PyProof.Rows
section
variable {c:Cx}{d:Nat}{A:aU}{env:dI}{l l':Loc}{α bD:Am}{h h':cf}{H H':List ag}{s s':aH}
variable {Q:AV→List ag→Prop}{QB:Bool→List ag→Prop}{X:List ag→Prop}{pos:ij}{own:aD→Prop}{QU:Loc→List ag→Prop}{SQ:AF→Loc→List ag→Prop}
theorem WX.raise {fI:aD}{fd:eJ}{x m:bu}{np sb p:ij}{k:Nat}(ok:ma c.K c.bd fI fd) (hko:gV c (.ref c.bd)) (E7:1≤d) (i:Nat) (hn:env.scope.names[i]?=some (x,.globalImplicit))
  (hv:EV c.K et x=some (some (.ref c.bd))) (D3:(x==("__debug__":bu))=false) (q:X H) :
  WX c d A env (.Raise (some (.Call (.Name x np) [.Constant (.str m) k p] [] sb)) none pos) l H SQ X:=fun α s I=>by
 rw[arm_exec_Raise]
 refine g5 ok.cls fun nm q' N bs bm hdct sn sub ab col dd k0 k1 k2 gC=>?_
 obtain⟨k3,k5,xg,Kr,Q4,QV,Vy,VQ⟩:=gC
 have key:bj c.M A (gr (.Call (.Name x np) [.Constant (.str m) k p] [] sb) env) (fun v bf=>∃e t0 d0,v=.ref e∧bf.heap.get? c.bd=some (sS nm q' c.bd N bs bm hdct sn sub ab col dd k0 k1 k2 k3 k5 "ValueError.__new__") ∧
   bf.heap.get? e=some { cls:=.ref c.bd,dict:=d0,data:=.fields #[.ref t0,.none,.none,.none,.bool false,.none] }∧kG c A env α s.heap X (.ref e) bf) (kG c A env α s.heap X) s:=by
  refine wpAny_Call_ofName (lS I.e.kind (cX I.e.nodup hn) (wK I.g (mg_of I.ok.X I.ok.T.g hv) ?_) D3)
  rw[oH (pos:=sb) (es:=[.Constant (.str m) k p]) rfl]
  show bj c.M A (lU sb (.ref c.bd) [] _ []) _ _ _
  refine yR (P:=fun h=>c.K.In h) (by simp) (fun h X=>hko.CO h X) (kb ?_)
  refine spliced_cons (Constant_str (L7 ⟨I.ql,?_⟩))
  have Bo:s.heap.NoLimit:=I.ok.T.nolimit.keeps I.h.base
  have hA:A.depth+1<kJ:=by have:=I.r.depth;exact aW [_,_] [] [.L bP aB,.T (.a aM (.m 4 aB)) (.l 1000)] (.T (.a aM bP) (.l 1000)) (.k [1,1,4]) rfl E7 this
  refine new_exc ok I.ql Bo hA fun h' t' e hk he eS=>?_
  refine fW eS fun t0 d0 e1=>?_
  clear eS
  obtain⟨m1,I1⟩:=I.grow (s':=⟨h',s.gens,s.drawn,t',s.os⟩) hk
  have na:¬iU α e:=I.h.live he
  have hbn:c.hb.get? e=none:=by
   cases z:c.hb.get? e with
   |none=>rfl
   |some o=>rw[I.h.base _ _ z] at he;exact nS (fZ he)
  refine aq I1.f.ns fun mm hm _=>?_
  exact⟨e,t0,d0,rfl,I1.ql _ _ xg,e1,e,none,α,H,rfl,.inl rfl,⟨na,hbn,he,_,_,_,e1,rfl,rfl,rfl,rfl⟩,m1,I1.h,I1.k,q,mm,hm⟩
 refine ak (iB (F6 (C:=c.bd) (nm:=nm) (q:=q') (N:=N) (bs:=bs) (bm:=bm) (hdct:=hdct) (sn:=sn) (sub:=sub) (ab:=ab) (col:=col) (dd:=dd) (k0:=k0) (k1:=k1) (k2:=k2) (k3:=k3) (k5:=k5) (newId:="ValueError.__new__") Vy I.r.hd ?_))
 exact ak (au key (fun v bf z=>ak (iB (aQ z))) fun _ _ z=>z)
end
end
section
open PySem PySem.W PySem.Calls PyProof.Rows
section
variable {c:Cx}{d m k:Nat}{A:aU}{env:dI}{l l':Loc}{α bD jh ct:Am}{h h' pG h₀:cf}{H H':List ag}{s s':aH}{own own':aD→Prop}
inductive lN (c:Cx) (m:Nat) (A:aU) (env:dI) (α:Am) (h:cf) (X:List ag→Prop) (x:ai) (s':aH):Prop
 |mk (e:aD) (fl:Option ai) (bD:Am) (H':List ag) (q:x=.ref e) (f:wx env fl) (z:iR c h s'.heap bD e fl) (m:dD m A (cz env) α h bD s'.heap) (r1:gu c s'.heap bD H') (r2:dQ c A (gL s') s'.heap bD) (r3:X H') (mm:bu→Option ai) (r4:s'.heap.Ns env.locals mm)
inductive hM (c:Cx) (d m:Nat) (A:aU) (env:dI) (α:Am) (h:cf) (Q:AF→Loc→List ag→Prop) (f:AA) (s':aH):Prop
 |mk (af:AF) (l':Loc) (bD:Am) (H':List ag) (m:dD m A (cz env) α h bD s'.heap) (i:Inv c d A env l' bD H' s') (fr:M7 c s'.heap bD af f) (q:Q af l' H')
theorem iR.Ss {e8:cf}{bE:Am}{e:aD}{fl:Option ai}(x:dD m A own α h bD h') (z:iR c h' e8 bE e fl):iR c h e8 bE e fl:=by
 obtain⟨z1,z2,z3,oe,vs,a0,z4,z5,z6,z7,z8⟩:=z
 refine⟨z1,z2,x.gone z3,oe,vs,a0,z4,z5,z6,z7,?_⟩
 cases fl with
 |none=>exact z8
 |some f=>
  obtain⟨T,oT,ts,y1,y2,y3,y4,y5,y6,y7,y8⟩:=z8
  exact⟨T,oT,ts,y1,y2,y3,y4,y5,y6,y7,x.gone y8⟩
variable {X:List ag→Prop}{x:ai}{SQ SQ':AF→Loc→List ag→Prop}{f:AA}{pos:ij}
theorem kG.toM (e:kG c A env α h X x s'):lN c m A env α h X x s':=by
 obtain⟨e,fl,jh,H',q,f,z,m',r1,r2,r3,mm,r4⟩:=e
 exact⟨e,fl,jh,H',q,f,z,m'.toM,r1,r2,r3,mm,r4⟩
theorem lN.weak (y:dD m A (cz env) α h bD h') (e:lN c m A env bD h' X x s'):lN c m A env α h X x s':=by
 obtain⟨e,fl,jh,H',q,f,z,m',r1,r2,r3,mm,r4⟩:=e
 exact⟨e,fl,jh,H',q,f,z.Ss y,y.trans m',r1,r2,r3,mm,r4⟩
theorem lN.le (e:lN c k A env α h X x s') (hm:m≤k):lN c m A env α h X x s':=by
 obtain⟨e,fl,jh,H',q,f,z,m',r1,r2,r3,mm,r4⟩:=e
 exact⟨e,fl,jh,H',q,f,z,m'.le hm,r1,r2,r3,mm,r4⟩
theorem lN.full (e:lN c m A env α h X x s') (hm:α.length≤m):kG c A env α h X x s':=by
 obtain⟨e,fl,jh,H',q,f,z,m',r1,r2,r3,mm,r4⟩:=e
 exact⟨e,fl,jh,H',q,f,z,m'.full hm,r1,r2,r3,mm,r4⟩
theorem hM.full (e:hM c d m A env α h SQ f s') (hm:α.length≤m):te c d A env α h SQ f s':=by
 obtain⟨a,l,jh,H',m',i,r,q⟩:=e
 exact⟨a,l,jh,H',m'.full hm,i,r,q⟩
theorem te.toM (e:te c d A env α h SQ f s'):hM c d m A env α h SQ f s':=by
 obtain⟨a,l,jh,H',m',i,r,q⟩:=e
 exact⟨a,l,jh,H',m'.toM,i,r,q⟩
theorem hM.weak (y:dD m A (cz env) α h bD h') (e:hM c d m A env bD h' SQ f s'):hM c d m A env α h SQ f s':=by
 obtain⟨a,l,jh,H',m',i,r,q⟩:=e
 exact⟨a,l,jh,H',y.trans m',i,r,q⟩
theorem CA {t:rU AA}(y:dD m A (cz env) α h bD s.heap) (h1:bj c.M A t (hM c d m A env bD s.heap SQ) (lN c m A env bD s.heap X) s):bj c.M A t (hM c d m A env α h SQ) (lN c m A env α h X) s:=
 au h1 (fun _ _ p=>p.weak y) fun _ _ p=>p.weak y
noncomputable def VX (c:Cx) (d m:Nat) (A:aU) (env:dI) (st:eF) (l:Loc) (H:List ag) (Q:AF→Loc→List ag→Prop) (X:List ag→Prop):Prop:=
 ∀α s,Inv c d A env l α H s→bj c.M A (exec st env) (hM c d m A env α s.heap Q) (lN c m A env α s.heap X) s
noncomputable def VS (c:Cx) (d m:Nat) (A:aU) (env:dI) (ss:List eF) (l:Loc) (H:List ag) (Q:AF→Loc→List ag→Prop) (X:List ag→Prop):Prop:=
 ∀α s,Inv c d A env l α H s→bj c.M A (execs ss env) (hM c d m A env α s.heap Q) (lN c m A env α s.heap X) s
theorem VX.of {st:eF}(w:WX c d A env st l H SQ X):VX c d m A env st l H SQ X:=fun α s I=>au (w α s I) (fun _ _ p=>p.toM) fun _ _ e=>e.toM
noncomputable def XR (c:Cx) (d m:Nat) (A:aU) (env:dI) (ss:List eF) (SQ:AF→Loc→List ag→Prop) (X:List ag→Prop):AF→Loc→List ag→Prop
 |.next,l,H=>VS c d m A env ss l H SQ X
 |f,l,H=>SQ f l H
theorem VS.nil (q:SQ .next l H):VS c d m A env [] l H SQ X:=fun α s I=>jS ⟨.next,l,α,H,.refl,I,rfl,q⟩
theorem VS.cons {st:eF}{ss:List eF}(w:VX c d m A env st l H (XR c d m A env ss SQ X) X):VS c d m A env (st::ss) l H SQ X:=fun α s I=>by
 refine qd (au (w α s I) (fun f bf eS=>?_) fun _ _ e=>e)
 obtain⟨af,l₁,aP,H₁,m,bp,fr,q⟩:=eS
 cases af with
 |next=>cases fr;exact CA m (q aP bf bp)
 |brk=>cases fr;exact⟨.brk,l₁,aP,H₁,m,bp,rfl,q⟩
 |cont=>cases fr;exact⟨.cont,l₁,aP,H₁,m,bp,rfl,q⟩
 |ret a=>refine aq fr fun v jZ r=>?_;clear fr;subst jZ;exact⟨.ret a,l₁,aP,H₁,m,bp,⟨v,rfl,r⟩,q⟩
theorem VX.if_ {e:Expr}{b1 b2:List eF}(w:WB c d A env e l H (fun b H'=>match b with | true=>VS c d m A env b1 l H' SQ X | false=>VS c d m A env b2 l H' SQ X) X):VX c d m A env (.If e b1 b2 pos) l H SQ X:=fun α s I=>
 wpAny_If (au (w α s I) (by
  rintro b bf ⟨aP,H₁,m,bp,q⟩
  cases b with
  |true=>exact CA m.toM (q aP bf bp)
  |false=>exact CA m.toM (q aP bf bp)) fun _ _ e=>e.toM)
theorem VS.mono {ss:List eF}{X':List ag→Prop}(w:VS c d m A env ss l H SQ X) (hq:∀f l H,SQ f l H→SQ' f l H):VS c d m A env ss l H SQ' X:=fun α s I=>
 au (w α s I) (by rintro u' u' ⟨a,l',bD,H',m,i,r,q⟩;exact⟨a,l',bD,H',m,i,r,hq _ _ _ q⟩) fun _ _ e=>e
theorem lN.loop (he:GU env) (ht:∃en o,A.frames=some (en::o)∧en.frame=env.frame) (z:lN c m A env α h X x s'):tB c.M A env (nQ c.M A env (lN c m A env α h X)) x s':=by
 obtain⟨e,fl,bD,H',rfl,uj,z,y,O,K,hX,mm,ua⟩:=z
 refine cD ht fun en o mu tU=>?_
 clear ht
 refine al he.frame fun F hF=>?_
 unfold tB
 rw[jw tU]
 refine MJ mu (tU.trans hF) (by unfold wx at uj ⊢;rw[tU];exact uj) y O K z fun h1 z1 m1 O1 K1 u1=>?_
 unfold nQ
 have z1':=z1
 obtain⟨_,_,_,oe,vs,a0,z4,z5,z6,z7,T,oT,ts,y1,_⟩:=z1'
 refine ak (g9 (s:={ s' with heap:=h1 }) z4 z6 y1 ?_)
 rw[if_neg (by simp)]
 refine vL (s:={ s' with heap:=h1 }) mu m1 O1 K1 z1 fun h2 z2 m2 O2 K2 u2=>?_
 refine⟨e,_,bD,H',rfl,.inr (.inr ⟨F,hF,rfl⟩),?_,m2,O2,K2,hX,mm,Ns.upTo (Ns.upTo ua u1) u2⟩
 rw[hF] at z2
 exact z2
end
mutual
noncomputable def rM (k:Nat):AV→Bool
 |.obj n=>ik n k
 |.tup vs=>ku k vs
 |.iX kvs=>kW k kvs
 |_=>true
noncomputable def ku (k:Nat):List AV→Bool
 |[]=>true
 |x::xs=>rM k x&&ku k xs
noncomputable def kW (k:Nat):List (Int×AV)→Bool
 |[]=>true
 |(_,x)::xs=>rM k x&&kW k xs
end
section
variable {c:Cx}{k:Nat}{α bD:Am}{h h':cf}
theorem pb {xs:List AV}:ku k xs=true→∀x∈xs,rM k x=true:=by
 induction xs with
 |nil=>exact fun _ _ h=>nomatch h
 |cons x xs ih=>exact fun o=>gj.mpr ⟨(aS.mp o).1,ih (aS.mp o).2⟩
theorem rO {xs:List (Int×AV)}:kW k xs=true→∀x∈xs,rM k x.2=true:=by
 induction xs with
 |nil=>exact fun _ _ h=>nomatch h
 |cons x xs ih=>exact fun o=>gj.mpr ⟨(aS.mp o).1,ih (aS.mp o).2⟩
theorem Mv.ok {f g:Nat→Nat}(b:∀{n:Nat}{p:aD×aD},n<k→α[f n]?=some p→bD[g n]?=some p) (ht:∀{a:aD}{items:Array ai},dq h a items→dq h' a items):Mv c h h' α bD f g (rM k ·=true):=
 ⟨pb,rO,fun o=>b (aE o),ht⟩
section carry
variable (pre:∀{n:Nat}{p:aD×aD},n<k→α[n]?=some p→bD[n]?=some p) (ht:∀{a:aD}{items:Array ai},dq h a items→dq h' a items)
include pre ht
theorem bl.Pc {a:List AV}{v:List ai}(o:ku k a=true) (r:bl c h α a v):bl c h' bD a v:=by
 have:=bl.mo (vs:=v) fun x (hx:x∈a)=>(Mv.ok (c:=c) (f:=id) (g:=id) pre ht).V x (pb o x hx);rw[pK] at this;exact this r
end carry
end
end
section
open PySem PySem.W PySem.Calls PyProof.Rows
section
variable {c:Cx}{d:Nat}{A:aU}{env:dI}{l l':Loc}{α bD ct:Am}{h h' h₀:cf}{H H':List ag}{s s':aH}
variable {Q:AV→List ag→Prop}{QB:Bool→List ag→Prop}{X:List ag→Prop}{pos:ij}{own own':aD→Prop}{QU:Loc→List ag→Prop}{SQ:AF→Loc→List ag→Prop}
theorem bO.nT (m:bO A own α h bD h') (hw:∀b,own b→own' b):bO A own' α h bD h':=
 ⟨m.pre,m.fresh,m.alive,fun e n1 n2 n3=>m.keep e n1 (fun q=>n2 (hw _ q)) n3,fun e n1 n2=>m.slot e n1 fun q=>n2 (hw _ q)⟩
theorem bO.drop (m:bO A own' α h bD h') (hw:∀b o,own' b→¬own b→h.get? b=some o→False):bO A own α h bD h':=
 ⟨m.pre,m.fresh,m.alive,fun{b o} e n1 n2 n3=>m.keep e n1 (fun q=>hw _ _ q n2 e) n3,fun{b o} e n1 n2=>m.slot e n1 fun q=>hw _ _ q n2 e⟩
noncomputable def zu (J:Loc→List ag→Prop) (SQ:AF→Loc→List ag→Prop):AF→Loc→List ag→Prop
 |.next,l,H=>J l H
 |.cont,l,H=>J l H
 |.brk,l,H=>SQ .next l H
 |.ret a,l,H=>SQ (.ret a) l H
theorem pk.off {I₀:aD}(F:pk c env h α l) (hk:∀b o,b≠I₀→h.get? b=some o→h'.get? b=some o) (ha:∃o vs,h.get? I₀=some o∧o.data=.fields vs):pk c env h' α l:=by
 have tk:∀{a:aD}{items:Array ai},dq h a items→dq h' a items:=fun{a items} ⟨o,ho,hc,n,hd⟩=>by
  refine⟨o,hk a o (fun q=>?_) ho,hc,n,hd⟩
  refine cD ha fun o' vs jQ hs=>?_
  clear ha
  rw[q,jQ] at ho;replace ho:=ae ho;subst ho;rw[hs] at hd;cases hd
 refine⟨?_,fun{i x k} e xS=>?_,F.no,F.new⟩
 ·refine eT F.ns fun mm o es ep ho gC hr=>?_
  refine bG gC fun hd r=>?_
  refine⟨mm,⟨o,es,ep,hk _ _ (fun q=>?_) ho,hd,r⟩,fun{i x v} e1 e2=>by refine aq (hr e1 e2) fun val q1 q2=>?_;exact⟨val,q1,q2.carry id tk⟩⟩
  refine cD ha fun o' vs jQ hs=>?_
  clear ha
  rw[q,jQ] at ho;replace ho:=ae ho;subst ho;rw[hs] at hd;cases hd
 ·refine eH (F.cl e xS) fun b ov e1 o ho hd n1 n2 hr=>?_
  refine⟨b,ov,e1,⟨o,hk _ _ (fun q=>?_) ho,hd⟩,n1,n2,fun{v} q=>by refine aq (hr q) fun val q1 q2=>?_;exact⟨val,q1,q2.carry id tk⟩⟩
  refine cD ha fun o' vs jQ hs=>?_
  clear ha
  rw[q,jQ] at ho;replace ho:=ae ho;subst ho;rw[hs] at hd;cases hd
theorem Inv.u7 {I₀:aD}(I:Inv c d A env l α H s) (hk:∀b o,b≠I₀→s.heap.get? b=some o→s'.heap.get? b=some o) (ha:∃o vs,s.heap.get? I₀=some o∧o.data=.fields vs)
  (hb:c.hb.get? I₀=none) (na:¬iU α I₀) (no:¬cz env I₀) (zj:gL s'=gL s:=by rfl):Inv c d A env l α H s':=by
 have tk:∀{a:aD}{items:Array ai},dq s.heap a items→dq s'.heap a items:=fun{a items} ⟨o,ho,hc,n,hd⟩=>by
  refine⟨o,hk a o (fun q=>?_) ho,hc,n,hd⟩
  refine cD ha fun o' vs jQ hs=>?_
  clear ha
  rw[q,jQ] at ho;replace ho:=ae ho;subst ho;rw[hs] at hd;cases hd
 have nea:∀{b},iU α b→b≠I₀:=fun a q=>na (q▸a)
 refine⟨I.ok,I.e,I.r,I.top,⟨I.h.len,fun{n x p} e e'=>?_,I.h.apart,fun b o e=>hk b o (fun q=>by rw[q,hb] at e;exact nS e) (I.h.base b o e),I.h.new⟩,⟨?_,fun{i x k} e xS=>?_,I.f.no,I.f.new⟩,?_⟩
 ·exact(I.h.cell e e').qm id tk fun b o q=>hk b o (nea ⟨n,p,e',q⟩)
 ·refine eT I.f.ns fun mm o es ep ho r hr=>?_
  exact⟨mm,⟨o,es,ep,hk _ _ (fun q=>no (.inl q.symm)) ho,r⟩,fun{i x v} e1 e2=>by refine aq (hr e1 e2) fun val q1 q2=>?_;exact⟨val,q1,q2.carry id tk⟩⟩
 ·refine eH (I.f.cl e xS) fun b ov e1 o ho hd n1 n2 hr=>?_
  refine⟨b,ov,e1,⟨o,hk _ _ (fun q=>?_) ho,hd⟩,n1,n2,fun{v} q=>by refine aq (hr q) fun val q1 q2=>?_;exact⟨val,q1,q2.carry id tk⟩⟩
  refine cD ha fun o' vs jQ hs=>?_
  clear ha
  rw[q,jQ] at ho;replace ho:=ae ho;subst ho;rw[hs] at hd;cases hd
 ·refine aL I.k.fr fun lf e F n=>?_
  refine⟨⟨lf,e,F.of_keeps fun b o e hn=>⟨o,hk b o (fun q=>?_) e,rfl⟩,n⟩,zj.trans I.k.la⟩
  refine cD ha fun o' vs jQ hs=>?_
  clear ha
  rw[q,jQ] at e;replace e:=ae e;subst e;exact hn _ hs
theorem Inv.side {I₀:aD}(I:Inv c d A env l α H s) (hk:∀b o,b≠I₀→s.heap.get? b=some o→s'.heap.get? b=some o) (ha:∃o vs,s.heap.get? I₀=some o∧o.data=.fields vs) (ha':∃o,s'.heap.get? I₀=some o)
  (hb:c.hb.get? I₀=none) (na:¬iU α I₀) (no:¬cz env I₀) (zj:gL s'=gL s:=by rfl):bO A (fun b=>cz env b∨b=I₀) α s.heap α s'.heap∧Inv c d A env l α H s':=by
 have m:bO A (fun b=>cz env b∨b=I₀) α s.heap α s'.heap:=by
  refine⟨id,.inl,fun{b o} e=>?_,fun{b o} e _ n _=>hk b o (fun q=>n (.inr q)) e,fun{b o} e _ n=>⟨o.slots,hk b o (fun q=>n (.inr q)) e⟩⟩
  by_cases q:b=I₀
  ·exact q▸ha'
  ·exact⟨o,hk b o q e⟩
 exact⟨m,I.u7 hk ha hb na no zj⟩
theorem bO.s4 {I₀:aD}(m:bO A own ct h₀ α h) (e:h₀.get? I₀=none) (hk:∀b o,b≠I₀→h.get? b=some o→h'.get? b=some o):bO A own ct h₀ α h':=by
 have ne:∀{b o},h₀.get? b=some o→b≠I₀:=fun{b o} e1 q=>by rw[q,e] at e1;exact nS e1
 exact⟨m.pre,m.fresh,fun e1=>by refine al (m.alive e1) fun o' e2=>?_;exact⟨o',hk _ _ (ne e1) e2⟩,fun e1 n1 n2 n3=>hk _ _ (ne e1) (m.keep e1 n1 n2 n3),fun e1 n1 n2=>by refine al (m.slot e1 n1 n2) fun sl e2=>?_;exact⟨sl,hk _ _ (ne e1) e2⟩⟩
noncomputable def xQ (t:Expr):Prop:=(∃x p,t=.Name x p)∨∃es k p,t=.Tuple es k p
structure mz (c:Cx) (A:aU) (I₀:aD) (α:Am) (h:cf):Prop where
 base:c.hb.get? I₀=none
 na:¬iU α I₀
 ns:¬AI A I₀
 at_:∃o vs,h.get? I₀=some o∧o.data=.fields vs
theorem mz.mono {k:Nat}{I₀:aD}(b:mz c A I₀ α h) (m:dD k A own α h bD h') (no:¬own I₀):mz c A I₀ bD h':=by
 refine cD b.at_ fun o vs ho hd=>?_
 refine⟨b.base,fun a=>?_,b.ns,o,vs,m.keep ho b.na no b.ns,hd⟩
 rcases m.fresh a with q | q
 ·exact b.na q
 ·rw[ho] at q;exact nS (fZ q)
structure E5 (k:Nat) (c:Cx) (d:Nat) (A:aU) (T:Expr→Prop) (xs:List AV) (gE:List ag→Prop) (I₀:aD) (St:Nat→Am→cf→Prop):Prop where
 ok:∀{i α h},St i α h→mz c A I₀ α h
 mono:∀{i α h bD h' H own},St i α h→gu c h α H→eM h own→¬own I₀→dD k A own α h bD h'→St i bD h'
 item:∀{env i x l α H s t},T t→xs[i]?=some x→Inv c d A env l α H s→¬cz env I₀→gE H→St i α s.heap→∀(PP:Option ai→aH→Prop) (E:ai→aH→Prop),
  (∀v bf,(∀P:aH→Prop,(∀s',(∀b o,b≠I₀→s.heap.get? b=some o→s'.heap.get? b=some o)→bO A (fun b=>cz env b∨b=I₀) α s.heap α s'.heap→Inv c d A env l α H s'→bM c s'.heap α x v→St (i+1) α s'.heap→P s')→∀E',bj c.M A (mC t (.ref I₀) v) (fun _=>P) E' bf)→PP (some v) bf) →
  bj c.M A (pyNext (.ref I₀)) PP E s
 done:∀{env l α H s},Inv c d A env l α H s→¬cz env I₀→gE H→St xs.length α s.heap→∀(PP:Option ai→aH→Prop) (E:ai→aH→Prop),
  (∀s',(∀b o,b≠I₀→s.heap.get? b=some o→s'.heap.get? b=some o)→Inv c d A env l α H s'→PP none s')→bj c.M A (pyNext (.ref I₀)) PP E s
 self:∀{i α s},(∃x p,T (.Name x p))→∀(P:ai→aH→Prop) (E:ai→aH→Prop),St i α s.heap→P (.ref I₀) s→bj c.M A (Jj (.ref I₀)) P E s
noncomputable def eW (k:Nat) (c:Cx) (d:Nat) (A:aU) (T:Expr→Prop) (a:AV) (xs:List AV) (gE:List ag→Prop):Prop:=
 ∀env l α H s v,Inv c d A env l α H s→bM c s.heap α a v→gE H→∀(P:ai→aH→Prop) (E:ai→aH→Prop),
  (∀I₀ St s',E5 k c d A T xs gE I₀ St→bO A (cz env) α s.heap α s'.heap→Inv c d A env l α H s'→St 0 α s'.heap→s.heap.get? I₀=none→P (.ref I₀) s')→bj c.M A (Jj v) P E s
theorem Inv.yu {I₀:aD}(I:Inv c d A env l α H s) (e:s.heap.get? I₀=none):¬cz env I₀:=fun q=>by
 refine aq (I.solid _ q) fun o ho _=>?_
 rw[e] at ho;exact nS ho
inductive Gg (k:Nat) (c:Cx) (d:Nat) (A:aU) (env:dI) (T:Expr→Prop) (l:Loc) (α:Am) (h:cf) (QI:List AV→(List ag→Prop)→List ag→Prop) (it:ai) (cY:aH):Prop
 |mk (I₀:aD) (St:Nat→Am→cf→Prop) (xs:List AV) (gE:List ag→Prop) (eY:List ag) (bE:Am) (e:it=.ref I₀) (i:E5 k c d A T xs gE I₀ St) (m:bO A (cz env) α h bE cY.heap) (I:Inv c d A env l bE eY cY)
  (st:St 0 bE cY.heap) (new:h.get? I₀=none) (no:¬cz env I₀) (q:QI xs gE eY)
noncomputable def WI (k:Nat) (c:Cx) (d:Nat) (A:aU) (env:dI) (T:Expr→Prop) (e:Expr) (l:Loc) (H:List ag) (QI:List AV→(List ag→Prop)→List ag→Prop) (X:List ag→Prop):Prop:=
 ∀α s,Inv c d A env l α H s→bj c.M A (gr e env) (fun v bf=>bj c.M A (Jj v) (Gg k c d A env T l α s.heap QI) (kG c A env α s.heap X) bf) (kG c A env α s.heap X) s
theorem WI.mono {k:Nat}{T:Expr→Prop}{e:Expr}{QI QI':List AV→(List ag→Prop)→List ag→Prop}(w:WI k c d A env T e l H QI X) (h:∀xs gE H,QI xs gE H→QI' xs gE H):WI k c d A env T e l H QI' X:=fun α s I=>
 au (w α s I) (fun _ _ p=>au p (fun _ _ p=>by
  obtain⟨I₀,St,xs,gE,eY,bE,e,i,m,I,st,new,no,q⟩:=p
  exact⟨I₀,St,xs,gE,eY,bE,e,i,m,I,st,new,no,h _ _ _ q⟩) fun _ _ e=>e) fun _ _ e=>e
theorem WI.of {k:Nat}{T:Expr→Prop}{e:Expr}{QI:List AV→(List ag→Prop)→List ag→Prop}(w:WE c d A env e l H (fun a H1=>∃xs gE,eW k c d A T a xs gE∧gE H1∧QI xs gE H1) X)  :WI k c d A env T e l H QI X:=fun α s I=>by
 refine au (w α s I) (fun v bf eS=>?_) fun _ _ e=>e
 obtain⟨a,aP,H₁,b0,bp,fH,xs,gE,Ff,nI,q⟩:=eS
 refine Ff env l aP H₁ bf v bp fH nI _ _ fun I₀ St cY it cW cB jy new=>?_
 exact⟨I₀,St,xs,gE,H₁,aP,rfl,it,b0.trans cW,cB,jy,b0.gone new,bp.yu new,q⟩
variable {k m:Nat}
inductive LU (m:Nat) (c:Cx) (d:Nat) (A:aU) (env:dI) (α:Am) (h:cf) (J:Nat→Loc→List ag→Prop) (n:Nat) (s':aH):Prop
 |mk (l':Loc) (bD:Am) (H':List ag) (mm:dD m A (cz env) α h bD s'.heap) (I:Inv c d A env l' bD H' s') (j:J n l' H')
theorem VX.O9 {KO:Expr}{body:List eF}(J:Nat→Loc→List ag→Prop) (n:Nat) (init:J n l H)
  (YK:∀n l H,J n l H→WB c d A env KO l H (fun b H'=>match b with | true=>VS c d m A env body l H' (zu (fun l2 H2=>∃m,m<n∧J m l2 H2) SQ) X | false=>SQ .next l H') X) :
  VX c d m A env (.While KO body [] pos) l H SQ X:=fun α s I=>by
 refine wpAny_While (codeAny_whileLoop (R:=fun r s'=>match r with | .ok f=>hM c d m A env α s.heap SQ f s' | .error e=>nQ c.M A env (lN c m A env α s.heap X) e s')
  (LU m c d A env α s.heap J) (fun n bf p=>?_) n ⟨l,α,H,.refl,I,init⟩)
 obtain⟨l₁,aP,H₁,b0,bp,xT⟩:=p
 have fin:∀{bE:Am}{cY:aH}{x:ai}{hZ:aH},dD m A (cz env) α s.heap bE cY.heap→lN c m A env bE cY.heap X x hZ→tB c.M A env (nQ c.M A env (lN c m A env α s.heap X)) x hZ:=fun m z=>(z.weak m).loop I.e I.top
 refine au (YK n l₁ H₁ xT aP bf bp) (fun b cY eS=>?_) fun _ _ z=>fin b0 z.toM
 obtain⟨bE,eY,cW,cB,pV⟩:=eS
 have mm:=b0.trans cW.toM
 cases b with
 |false=>exact jS ⟨.next,l₁,bE,eY,mm,cB,rfl,pV⟩
 |true=>
  refine au (pV bE cY cB) (fun f hZ eS=>?_) fun _ _ z=>fin mm z
  obtain⟨af,sH,fe,lh,gX,fP,fr,Ep⟩:=eS
  have mm:=mm.trans gX
  cases af with
  |next=>cases fr;refine aq Ep fun k hk j=>?_;clear Ep;exact⟨k,hk,sH,fe,lh,mm,fP,j⟩
  |cont=>cases fr;refine aq Ep fun k hk j=>?_;clear Ep;exact⟨k,hk,sH,fe,lh,mm,fP,j⟩
  |brk=>cases fr;exact⟨.next,sH,fe,lh,mm,fP,rfl,Ep⟩
  |ret a=>refine aq fr fun v mI rv=>?_;clear fr;subst mI;exact⟨.ret a,sH,fe,lh,mm,fP,⟨v,rfl,rv⟩,Ep⟩
inductive Yc (k:Nat) (c:Cx) (d:Nat) (A:aU) (env:dI) (t:Expr) (body:List eF) (X:List ag→Prop) (l:Loc) (SQ:AF→Loc→List ag→Prop) (xs:List AV) (gE:List ag→Prop) (H1:List ag):Prop
 |mk (J:Nat→Loc→List ag→Prop) (j0:J 0 l H1) (Vo:∀i l' H',i≤xs.length→J i l' H'→gE H')
  (step:∀i x l' H',xs[i]?=some x→J i l' H'→WU c d A env (fun vs=>iL t env (vs[0]?.getD .none)) [x] l' H' (fun l2 H2=>VS c d k A env body l2 H2 (zu (J (i+1)) SQ) X) X)
  (fin:∀l' H',J xs.length l' H'→SQ .next l' H')
inductive Vj (k:Nat) (c:Cx) (d:Nat) (A:aU) (env:dI) (I₀:aD) (α:Am) (h:cf) (N:Nat) (St:Nat→Am→cf→Prop) (J:Nat→Loc→List ag→Prop) (n:Nat) (s':aH):Prop
 |mk (i:Nat) (l':Loc) (bD:Am) (H':List ag) (hn:n=N-i) (hi:i≤N) (mm:dD k A (fun b=>cz env b∨b=I₀) α h bD s'.heap) (I:Inv c d A env l' bD H' s') (st:St i bD s'.heap) (j:J i l' H')
theorem VX.R7 {T:Expr→Prop}{t iter:Expr}{body:List eF}(k:Nat) (hk:m≤k) (ht:T t) (hs:∀x,gA iter env x=pure x)
  (w:WI k c d A env T iter l H (Yc k c d A env t body X l SQ) X):VX c d m A env (.For t iter body [] pos) l H SQ X:=fun α s I=>by
 refine wpAny_For (au (w α s I) (fun v bf p=>au p (fun XE cY p=>?_) fun _ _ e=>e.toM) fun _ _ e=>e.toM) hs
 obtain⟨I₀,St,xs,gE,H₁,aP,rfl,it,hm,cB,jy,th,no,q⟩:=p
 obtain⟨J,Oi,Se,step,fin⟩:=q
 have back:∀{fe:Am}{r6:cf},dD k A (fun b=>cz env b∨b=I₀) α s.heap fe r6→dD k A (cz env) α s.heap fe r6:=fun m=>m.drop fun b o q n e=>by
  rcases q with q | q
  ·exact n q
  ·rw[q,th] at e;exact nS e
 have S7:∀{bE:Am}{cY:aH}{x:ai}{hZ:aH},dD k A (cz env) α s.heap bE cY.heap→lN c k A env bE cY.heap X x hZ→tB c.M A env (nQ c.M A env (lN c m A env α s.heap X)) x hZ:=fun m z=>((z.weak m).le hk).loop I.e I.top
 refine Nw (R:=fun r s'=>match r with | .ok f=>hM c d m A env α s.heap SQ f s' | .error e=>nQ c.M A env (lN c m A env α s.heap X) e s')
  (Vj k c d A env I₀ α s.heap xs.length St J) (fun n hZ p=>?_) xs.length
  ⟨0,l,aP,H₁,rfl,cR _,(hm.nT fun b q=>.inl q).toM,cB,jy,Oi⟩
 obtain⟨i,sH,fe,lh,rfl,hi,gX,fP,w5,LF⟩:=p
 by_cases iS:i<xs.length
 ·have hx:xs[i]?=some xs[i]:=aw iS
  refine it.item ht hx fP no (Se i sH lh hi LF) w5 _ _ fun v aae go=>?_
  refine go _ (fun n7 _ km jT Gv zz=>?_) _
  have m34:=gX.trans km.toM
  refine au (step i _ sH lh hx LF fe n7 [v] jT (eD Gv jD)) (fun _ A1 eS=>?_) fun _ _ z=>S7 (back m34) z.toM
  obtain⟨aan,mX,zr,pW,lp,Xi⟩:=eS
  have m35:=m34.trans (pW.nT fun b q=>.inl q).toM
  refine au (Xi mX A1 lp) (fun f Lh eS=>?_) fun _ _ z=>S7 (back m35) z
  obtain⟨af,KD,ta,Bq,tK,nX,fr,ES⟩:=eS
  have VO:=m35.trans (tK.nT fun b q=>.inl q)
  have uD:=it.mono zz jT.h jT.solid no pW.toM
  have wN:=it.mono uD lp.h lp.solid no tK
  cases af with
  |next=>cases fr;exact⟨xs.length-(i+1),by exact wm iS,i+1,KD,ta,Bq,rfl,iS,VO,nX,wN,ES⟩
  |cont=>cases fr;exact⟨xs.length-(i+1),by exact wm iS,i+1,KD,ta,Bq,rfl,iS,VO,nX,wN,ES⟩
  |brk=>cases fr;exact⟨.next,KD,ta,Bq,(back VO).le hk,nX,rfl,ES⟩
  |ret a=>refine aq fr fun v sy rv=>?_;clear fr;subst sy;exact⟨.ret a,KD,ta,Bq,(back VO).le hk,nX,⟨v,rfl,rv⟩,ES⟩
 ·obtain rfl:i=xs.length:=by exact aW [_,_] [] [.L aB aM,.N (.T aB aM)] (.E aB aM) (.o cK cN) rfl hi iS
  refine it.done fP no (Se _ sH lh hi LF) w5 _ _ fun n7 km jT=>?_
  refine jS ⟨.next,sH,fe,lh,?_,jT,rfl,fin _ _ LF⟩
  exact(back ⟨gX.pre,gX.fresh,fun{b o} e=>by
    refine al (gX.alive e) fun o' e'=>?_
    exact⟨o',km b o' (fun q=>by rw[q,th] at e;exact nS e) e'⟩,fun{b o} e n1 n2 n3=>km b o (fun q=>n2 (.inr q)) (gX.keep e n1 n2 n3),
   fun{b o} e n1 n2=>by
    refine al (gX.slot e n1 n2) fun sl e'=>?_
    exact⟨sl,km b _ (fun q=>n2 (.inr q)) e'⟩⟩).le hk
end
end
section
open PySem PySem.W PySem.Calls PyProof.Rows
noncomputable def yw (n:String):Bool:=!["enumerate","zip","dict_itemiterator","dict_reverseitemiterator","odict_iterator","itertools.zip_longest","itertools.pairwise"].contains n
section
variable {c:Cx}{d:Nat}{A:aU}{env:dI}{l l':Loc}{α bD ct:Am}{h h' h₀:cf}{H H':List ag}{s s':aH}
variable {Q:AV→List ag→Prop}{QB:Bool→List ag→Prop}{X:List ag→Prop}{pos:ij}{own own':aD→Prop}{QU:Loc→List ag→Prop}{kp:Nat}{SQ:AF→Loc→List ag→Prop}
theorem letGo {M:Fp}{I₀:aD}{o:ow}{vs:Array ai}{n:String}{t:Expr}{v:ai}{P:Unit→aH→Prop}{E:ai→aH→Prop}(ht:xQ t) (ho:s.heap.get? I₀=some o) (hc:o.cls=.type n) (hn:yw n=true) (hd:o.data=.fields vs)
  (q:P () s):bj M A (mC t (.ref I₀) v) P E s:=by
 rcases ht with⟨x,p,rfl⟩ | ⟨es,k,p,rfl⟩
 ·exact aQ q
 ·cases v with
  |ref a=>
   unfold mC
   refine ak (wpAny_load ho ?_)
   rw[hc,hd]
   dsimp only
   rw[if_neg (by
    intro h
    unfold yw at hn
    rw[m9] at hn
    rw[hn,xp] at h
    exact fT h)]
   exact aQ q
  |_=>exact aQ q
inductive PlainAt (h:cf) (I₀:aD):Prop
 |mk (o:ow) (vs:Array ai) (n:String) (e1:h.get? I₀=some o) (e2:o.cls=.type n) (e3:yw n=true) (e4:o.data=.fields vs)
theorem E5.tV {I₀:aD}{xs:List AV}{P:Nat→ai→Prop}{S0:Nat→cf→Prop}(W:Walks c.prog c.w A I₀ [I₀] [I₀] xs.length P S0) (hP:∀i v,P i v→∃x,xs[i]?=some x∧∀h α,bM c h α x v)
  (ho:∀i h,S0 i h→PlainAt h I₀):E5 kp c d A xQ xs (fun _=>True) I₀ (fun i α h=>S0 i h∧mz c A I₀ α h) where
 ok:=fun st=>st.2
 mono:=fun{i α h bD h' H own} st O S no m=>by
  refine bG st fun st b=>?_
  refine⟨W.frame _ _ _ st fun b' nZ o e=>?_,b.mono m no⟩
  rw[cU.mp nZ] at e ⊢
  exact m.keep e b.na no b.ns
 item:=fun{env i x l α H s t} ht hx I no nI st PP E k=>by
  refine bG st fun st b=>?_
  have iS:i<xs.length:=(ao.mp hx).1
  refine W.item i s _ _ iS st fun v h' tk pv Bu hk=>k v _ fun P hP' E'=>?_
  obtain⟨o',y0,n',jQ,Jz,Q9,qz⟩:=ho _ _ Bu
  refine aq (hP i v pv) fun x' Rc rx=>?_
  rw[hx] at Rc;replace Rc:=ae Rc;subst Rc
  refine letGo (s:={ s with heap:=h',toks:=tk }) ht jQ Jz Q9 qz ?_
  obtain⟨o,vs,n,ho,hc,hn,hd⟩:=ho _ _ st
  refine bG (I.side (s':={ s with heap:=h',toks:=tk }) (I₀:=I₀) (fun b' o e1 e2=>hk b' o (by simpa using e1) e2) ⟨o,vs,ho,hd⟩ ⟨o',jQ⟩ b.base b.na no) fun m I'=>?_
  exact hP' _ (fun b' o e1 e2=>hk b' o (by simpa using e1) e2) m I' (rx _ _) ⟨Bu,b.base,b.na,b.ns,o',y0,jQ,qz⟩
 done:=fun{env l α H s} I no nI st PP E k=>by
  refine bG st fun st b=>?_
  obtain⟨o,vs,n,ho,hc,hn,hd⟩:=ho _ _ st
  refine W.done s _ _ st fun h' tk hk=>?_
  have yL:∀b o,b≠I₀→s.heap.get? b=some o→h'.get? b=some o:=fun b' o e1 e2=>hk b' o (by simpa using e1) e2
  exact k _ yL (I.u7 (s':={ s with heap:=h',toks:=tk }) yL ⟨o,vs,ho,hd⟩ b.base b.na no)
 self:=fun{i α s} _ P E st q=>W.self i s P E st.1 q
theorem Inv.push {o:ow}{vs:Array ai}(I:Inv c d A env l α H s) (hd:o.data=.fields vs) (hf:o.isFreed=false:=by rfl):bO A (cz env) α s.heap α (s.heap.push o)∧Inv c d A env l α H { s with heap:=s.heap.push o }∧mz c A s.heap.objs.size α (s.heap.push o):=by
 refine bG (I.grow (s':={ s with heap:=s.heap.push o }) gf) fun m I'=>?_
 have e:s.heap.get? s.heap.objs.size=none:=bR
 refine⟨m,I',?_,I.h.live e,fun q=>?_,o,vs,aX _ hf,hd⟩
 ·cases q:c.hb.get? s.heap.objs.size with
  |none=>rfl
  |some o=>rw[I.h.base _ _ q] at e;exact nS (fZ e)
 ·refine i9 (I.k.none q) fun _ _ o ho _=>?_
  rw[e] at ho;exact nS ho
theorem eW.eg (b:List UInt8):eW kp c d A xQ (.eg b) (b.map fun x=>.int x.toNat) (fun _=>True):=fun env l α H s v I r _ P E k=>by
 refine al r.eg fun t j5=>?_
 subst j5
 refine vV ?_
 refine bQ (I.push (o:={ cls:=.type "bytes_iterator",data:=.fields #[.bytes b.toArray t,.int 0 0] }) rfl) fun m I' B=>?_
 have W:=Mb (prog:=c.prog) (w:=c.w) (A:=A) I.r.hd s.heap.objs.size b.toArray t
 have hl:b.toArray.size=(b.map fun x=>AV.int x.toNat).length:=by simp
 rw[hl] at W
 refine k s.heap.objs.size _ _ (E5.tV W (fun i v ⟨x,u,hx,hv⟩=>⟨.int x.toNat,?_,fun h α=>hv▸iq⟩) (by intro i h lH;refine aL lH fun o ho hc hd=>?_;clear lH;exact⟨o,_,_,ho,hc,by decide +kernel,hd⟩)) m I' ⟨⟨_,aX _ rfl,rfl,rfl⟩,B⟩ bR
 rw[aK]
 rw[Ck] at hx
 rw[hx];rfl
theorem eW.str (x:bu):eW kp c d A xQ (.str x) (x.cps.toList.map fun u=>.str ⟨#[u]⟩) (fun _=>True):=fun env l α H s v I r _ P E k=>by
 refine al r.str fun t j4=>?_
 subst j4
 refine wpAny_pyIter_strU ?_
 refine bQ (I.push (o:={ cls:=.type (sU x),data:=.fields #[.str x t,.int 0 0] }) rfl) fun m I' B=>?_
 have hl:x.cps.size=(x.cps.toList.map fun u=>AV.str ⟨#[u]⟩).length:=by simp
 have val:∀i v,SignAt x i v→∃y,(x.cps.toList.map fun u=>AV.str ⟨#[u]⟩)[i]?=some y∧∀h α,bM c h α y v:=by
  intro i v mr
  refine cD mr fun u tk hx hv=>?_
  clear mr
  refine⟨.str ⟨#[u]⟩,?_,fun h α=>hv▸LA⟩
  rw[aK,eK,hx];rfl
 cases ha:x.cps.all (·<128) with
 |true=>
  have e:sU x="str_ascii_iterator":=by simp[sU,ha]
  rw[e] at m I' B ⊢
  have W:=Walks.strAscii (prog:=c.prog) (w:=c.w) (A:=A) I.r.hd s.heap.objs.size x t
  rw[hl] at W
  exact k s.heap.objs.size _ _ (E5.tV W val (by intro i h nU;refine aL nU fun o ho hc hd=>?_;clear nU;exact⟨o,_,_,ho,hc,by decide +kernel,hd⟩)) m I' ⟨⟨_,aX _ rfl,rfl,rfl⟩,B⟩ bR
 |false=>
  have e:sU x="str_iterator":=by simp[sU,ha]
  rw[e] at m I' B ⊢
  have W:=Walks.strWide (prog:=c.prog) (w:=c.w) (A:=A) I.r.hd s.heap.objs.size x t
  rw[hl] at W
  exact k s.heap.objs.size _ _ (E5.tV W val (by intro i h pY;refine aL pY fun o ho hc hd=>?_;clear pY;exact⟨o,_,_,ho,hc,by decide +kernel,hd⟩)) m I' ⟨⟨_,aX _ rfl,rfl,rfl⟩,B⟩ bR
theorem eW.tup (vs:List AV) (nI:ku kp vs=true):eW kp c d A xQ (.tup vs) vs (fun _=>True):=fun env l α H s v I r _ P E k=>by
 refine aN r.tup fun a items nF ht rs=>?_
 subst nF
 refine vW ht ?_
 refine bQ (I.push (o:={ cls:=.type "tuple_iterator",data:=.fields #[.ref a,.int 0 0] }) rfl) fun m I' B=>?_
 refine k s.heap.objs.size (fun i α h=>h.IsTupleIter s.heap.objs.size a i∧(∃items,dq h a items∧bl c h α vs items.toList)∧mz c A s.heap.objs.size α h) _
  ⟨fun st=>st.2.2,?mono,?item,?done,fun _ P E st q=>wpAny_pyIter_tupleiter st.1 q⟩ m I' ⟨⟨_,aX _ rfl,rfl,rfl⟩,⟨items,ht.push _,rs.carry id fun t=>t.push _⟩,B⟩ bR
 case mono=>
  intro i aP gp bE e8 H₁ own v8 O S no m
  refine bQ v8 fun j5 j4 b=>?_
  clear v8
  refine aq j5 fun o ho st=>?_
  refine aq j4 fun items t rr=>?_
  exact⟨⟨o,m.keep ho b.na no b.ns,st⟩,⟨items,m.tup O S t,rr.Pc m.pre (m.tup O S) nI⟩,b.mono m no⟩
 case item=>
  intro nK i x l₁ aP H₁ bf t Nh hx bp no _ Fb PP E' k'
  refine bQ Fb fun st nF b=>?_
  clear Fb
  refine aq nF fun items tt rr=>?_
  refine aq (rr.get hx) fun y hy ry=>?_
  refine wpAny_pyNext_tuple_item st tt (x:=y) (by simpa using hy) fun h' Bu hs=>k' y _ fun P' hP XW=>?_
  have Ax:=Bu
  refine aL Ax fun o' jQ Jz qz=>?_
  clear Ax
  refine letGo (s:={ bf with heap:=h' }) Nh jQ Jz (by decide +kernel) qz ?_
  refine aL st fun o ho hc hd=>?_
  clear st
  have v7:a≠s.heap.objs.size:=fun q=>by
   refine fU tt fun o2 CK YA n2 Sa=>?_
   clear tt
   rw[q,ho] at CK;replace CK:=ae CK;subst CK;rw[hd] at Sa;cases Sa
  refine bG (bp.side (s':={ bf with heap:=h' }) (I₀:=s.heap.objs.size) (fun b' o e1 e2=>(hs.2 _ e1).trans e2) ⟨o,_,ho,hd⟩ ⟨o',jQ⟩ b.base b.na no) fun b0 uF=>?_
  have tk:∀{a:aD}{items:Array ai},dq bf.heap a items→dq h' a items:=fun{TU R4} ⟨o3,wD,Tf,n3,Jt⟩=>⟨o3,(hs.2 _ (fun q=>by rw[q,ho] at wD;replace wD:=ae wD;subst wD;rw[hd] at Jt;cases Jt)).trans wD,Tf,n3,Jt⟩
  exact hP _ (fun b' o e1 e2=>(hs.2 _ e1).trans e2) b0 uF (ry.carry id tk) ⟨Bu,⟨items,tk tt,rr.carry id tk⟩,b.base,b.na,b.ns,o',_,jQ,qz⟩
 case done=>
  intro nK l₁ aP H₁ bf bp no _ E6 PP E' k'
  refine bQ E6 fun st mI b=>?_
  clear E6
  refine aq mI fun items tt rr=>?_
  refine wpAny_pyNext_tuple_end bp.r.hd st tt (by rw[←eK];exact cH (by rw[rr.length];exact aA _)) fun h' hs=>?_
  refine aL st fun o ho hc hd=>?_
  clear st
  have yL:∀b o,b≠s.heap.objs.size→bf.heap.get? b=some o→h'.get? b=some o:=fun b' o e1 e2=>hs b' o e1 e2
  exact k' _ yL (bp.u7 (s':={ bf with heap:=h' }) yL ⟨o,_,ho,hd⟩ b.base b.na no)
theorem eW.list (n:Nat) (vs:List AV) (hn:n<kp):eW kp c d A xQ (.obj n) vs (fun H=>H[n]?=some (.list vs)):=fun env l α H s v I r nI P E k=>by
 refine aL (I.h.look nI r) fun p e3 mI cr=>?_
 subst mI
 refine aq cr.isList fun items hl rs=>?_
 refine Rq hl ?_
 refine bQ (I.push (o:={ cls:=.type "list_iterator",data:=.fields #[.ref p.1,.int 0 0] }) rfl) fun m I' B=>?_
 refine k s.heap.objs.size (fun i α h=>h.IsListIter s.heap.objs.size p.1 i∧α[n]?=some p∧mz c A s.heap.objs.size α h) _
  ⟨fun st=>st.2.2,?mono,?item,?done,fun _ P E st q=>wpAny_pyIter_listiter st.1 q⟩ m I' ⟨⟨_,aX _ rfl,rfl,rfl⟩,e3,B⟩ bR
 case mono=>
  intro i aP gp bE e8 H₁ own GS O S no m
  refine bQ GS fun nv ea b=>?_
  clear GS
  refine aq nv fun o ho st=>?_
  exact⟨⟨o,m.keep ho b.na no b.ns,st⟩,m.pre hn ea,b.mono m no⟩
 case item=>
  intro nK i x l₁ aP H₁ bf t Nh hx bp no lD Mp PP E' k'
  refine bQ Mp fun st ea b=>?_
  clear Mp
  refine aq ((bp.h.cell lD ea).isList) fun items hl rr=>?_
  refine aq (rr.get hx) fun y hy ry=>?_
  refine wpAny_pyNext_list_item st hl (x:=y) (by simpa using hy) fun h' Bu hs=>k' y _ fun P' hP XW=>?_
  have Ax:=Bu
  refine aL Ax fun o' jQ Jz qz=>?_
  clear Ax
  refine letGo (s:={ bf with heap:=h' }) Nh jQ Jz (by decide +kernel) qz ?_
  refine aL st fun o ho hc hd=>?_
  clear st
  refine bG (bp.side (s':={ bf with heap:=h' }) (I₀:=s.heap.objs.size) (fun b' o e1 e2=>(hs.2 _ e1).trans e2) ⟨o,_,ho,hd⟩ ⟨o',jQ⟩ b.base b.na no) fun b0 uF=>?_
  have tk:∀{a:aD}{items:Array ai},dq bf.heap a items→dq h' a items:=fun{TU R4} ⟨o3,wD,Tf,n3,Jt⟩=>⟨o3,(hs.2 _ (fun q=>by rw[q,ho] at wD;replace wD:=ae wD;subst wD;rw[hd] at Jt;cases Jt)).trans wD,Tf,n3,Jt⟩
  exact hP _ (fun b' o e1 e2=>(hs.2 _ e1).trans e2) b0 uF (ry.carry id tk) ⟨Bu,ea,b.base,b.na,b.ns,o',_,jQ,qz⟩
 case done=>
  intro nK l₁ aP H₁ bf bp no lD HI PP E' k'
  refine bQ HI fun st ea b=>?_
  clear HI
  refine aq ((bp.h.cell lD ea).isList) fun items hl rr=>?_
  refine wpAny_pyNext_list_end bp.r.hd st hl (by rw[←eK];exact cH (by rw[rr.length];exact aA _)) fun h' hs=>?_
  refine aL st fun o ho hc hd=>?_
  clear st
  have yL:∀b o,b≠s.heap.objs.size→bf.heap.get? b=some o→h'.get? b=some o:=fun b' o e1 e2=>hs b' o e1 e2
  exact k' _ yL (bp.u7 (s':={ bf with heap:=h' }) yL ⟨o,_,ho,hd⟩ b.base b.na no)
end
end
section
open PySem PySem.W PySem.Calls PyProof.Rows
noncomputable def fG (a b st:Int):List AV:=(bh (cT a b st).toNat).map fun(i:Nat)=>.int (a+(i:Int)*st)
section
variable {c:Cx}{d:Nat}{A:aU}{env:dI}{l l':Loc}{α bD ct:Am}{h h' h₀:cf}{H H':List ag}{s s':aH}
variable {Q:AV→List ag→Prop}{QB:Bool→List ag→Prop}{X:List ag→Prop}{pos:ij}{own own':aD→Prop}{QU:Loc→List ag→Prop}{kp:Nat}{SQ:AF→Loc→List ag→Prop}
theorem y9 {f:Expr}{es:List Expr}{v:ai}{P:ai→aH→Prop}{QA:List AV→List ag→Prop}(k:gV c v)
  (Iu:gr (.Call f es [] pos) env=(do lU pos (←gr f env) [] (mB pos (dS es env)) [])) (i4:dS es env=es.map fun e=>(false,gr e env))
  (wf:WE c d A env f l H (fun a H1=>a=.fix v∧WA c d A env es l H1 QA X) X) (I:Inv c d A env l α H s)
  (hp:∀bE cY vs as eY,bO A (cz env) α s.heap bE cY.heap→Inv c d A env l bE eY cY→bl c cY.heap bE as vs→QA as eY→bj c.M A (PySem.call v vs) P (kG c A env α s.heap X) cY) :
  bj c.M A (gr (.Call f es [] pos) env) P (kG c A env α s.heap X) s:=by
 rw[Iu]
 refine ak (au (wf α s I) (fun v' bf p=>?_) fun _ _ e=>e)
 obtain⟨a,aP,H₁,b0,bp,fH,rfl,xD⟩:=p
 cases fH.fix
 rw[oH i4]
 refine yR (P:=fun h=>c.K.In h) (by simp) (fun h X=>k.CO h X) (kb ?_)
 exact au (xD aP bf bp) (by intro vs cY lH;obtain⟨as,bE,eY,cW,cB,jr,pV⟩:=lH;exact⟨cB.ql,hp bE cY vs as eY (b0.trans cW) cB jr pV⟩) fun _ _ e=>e.weak b0
theorem uu {a b st:Int}{r:aD}{t u v:Tok}{QI:List AV→(List ag→Prop)→List ag→Prop}{E:ai→aH→Prop}(hr:IsRange s.heap r a b st t u v) (hs:we a b st=true) (hn:0≤cT a b st)
  (I:Inv c d A env l α H s) (m:bO A (cz env) ct h₀ α s.heap) (q:QI (fG a b st) (fun _=>True) H) :
  bj c.M A (Jj (.ref r)) (Gg kp c d A env xQ l ct h₀ QI) E s:=by
 refine wpAny_pyIter_range hr hs ?_
 refine bQ (I.push (o:={ cls:=.type "range_iterator",data:=.fields #[ib a,ib (cT a b st),ib st] }) rfl) fun m' I' B=>?_
 have W:=(Walks.range (prog:=c.prog) (w:=c.w) (A:=A) I.r.hd s.heap.objs.size a st (cT a b st).toNat).bound
 have hl:(cT a b st).toNat=(fG a b st).length:=by unfold fG;simp
 rw[hl] at W
 refine⟨s.heap.objs.size,_,fG a b st,fun _=>True,H,α,rfl,E5.tV W (fun i v ⟨hi,t,hv⟩=>⟨.int (a+i*st),?_,fun h α=>hv▸iq⟩) fun i h e=>⟨_,_,_,e,rfl,by decide +kernel,rfl⟩,m.trans m',I',⟨?_,B⟩,m.gone bR,I.yu bR,q⟩
 ·rw[←hl] at hi
  unfold fG
  rw[aK,cJ hi];rfl
 ·show IsRangeIter _ _ _ _ _
  rw[←hl,rP hn]
  simpa using aX s.heap (o:={ cls:=.type "range_iterator",data:=.fields #[ib a,ib (cT a b st),ib st] }) rfl
noncomputable def Nb (as:List AV) (a b st:Int):Prop:=(as=[.int b]∧a=0∧st=1)∨(as=[.int a,.int b]∧st=1)∨as=[.int a,.int b,.int st]
theorem WI.range {f:Expr}{es:List Expr}{QI:List AV→(List ag→Prop)→List ag→Prop}
  (Iu:gr (.Call f es [] pos) env=(do lU pos (←gr f env) [] (mB pos (dS es env)) [])) (i4:dS es env=es.map fun e=>(false,gr e env))
  (wf:WE c d A env f l H (fun a H1=>a=.fix (.type "range")∧WA c d A env es l H1 (fun as H2=>∃a b st,Nb as a b st∧(st=1∨st = -1)∧(-(2^62)≤a∧a<2^62∧-(2^62)≤b∧b<2^62)∧QI (fG a b st) (fun _=>True) H2) X) X) :
  WI kp c d A env xQ (.Call f es [] pos) l H QI X:=fun α s I=>by
 refine y9 (.inr (.inr ⟨_,rfl⟩)) Iu i4 wf I fun bE cY vs as eY cW cB jr p=>?_
 refine cy p fun a b st ra i4 iu q=>?_
 clear p
 refine dn iu fun b1 b2 b3 b4=>?_
 have v9:we a b st=true:=by
  rcases i4 with rfl | rfl
  ·exact small_one b1 b2 b3 b4
  ·exact small_down b1 b2 b3 b4
 have hn:0≤cT a b st:=by
  rcases i4 with rfl | rfl
  ·rw[rangeSize_one];split
   ·exact EX (iZ ‹_›)
   ·exact dR 0
  ·rw[rangeSize_down];split
   ·exact EX (iZ ‹_›)
   ·exact dR 0
 rcases ra with⟨rfl,rfl,rfl⟩ | ⟨rfl,rfl⟩ | rfl
 ·refine aq jr.one fun v jX rv=>?_
  subst jX
  obtain⟨t,rfl⟩:=rv.int
  refine call_range_1 ?_
  refine bQ (cB.push (o:={ cls:=.type "range",data:=.fields #[.int 0 cY.toks,.int b t,.int 1 (cY.toks+1)] }) rfl) fun m' I' B=>?_
  exact uu (AB ..) v9 hn I'.toks (cW.trans m') q
 ·refine aN jr.two fun v w j4 rv Js=>?_
  subst j4
  obtain⟨t,rfl⟩:=rv.int
  obtain⟨u,rfl⟩:=Js.int
  refine call_range_2 ?_
  refine bQ (cB.push (o:={ cls:=.type "range",data:=.fields #[.int a t,.int b u,.int 1 cY.toks] }) rfl) fun m' I' B=>?_
  exact uu (AB ..) v9 hn I'.toks (cW.trans m') q
 ·refine cy jr.three fun v w x nv rv Js rx=>?_
  subst nv
  obtain⟨t,rfl⟩:=rv.int
  obtain⟨u,rfl⟩:=Js.int
  obtain⟨y,rfl⟩:=rx.int
  refine call_range_3 (by exact aW [] [_] [.O (.e bJ bP) (.e bJ (.n bP))] (.N (.e bJ dF)) (.o jf xj) rfl i4) ?_ (.inl (yG (N6 i4)))
  refine bQ (cB.push (o:={ cls:=.type "range",data:=.fields #[.int a t,.int b u,.int st y] }) rfl) fun m' I' B=>?_
  exact uu (AB ..) v9 hn I'.toks (cW.trans m') q
theorem de.key {kvs:List (Int×AV)}:∀{kv:List (Int×ai)}{i:Nat}{x:Int×AV},de c h α kvs kv→kvs[i]?=some x→∃w,kv[i]?=some (x.1,w)∧bM c h α x.2 w:=by
 induction kvs with
 |nil=>exact fun _ e=>nS e
 |cons p r ih=>
  intro kv i x dr e
  refine aN dr fun v r' gC rv rr=>?_
  subst gC
  cases i with
  |zero=>
   replace e:=ae e
   subst e
   exact⟨v,rfl,rv⟩
  |succ i=>exact ih (i:=i) rr e
theorem eW.keys (n:Nat) (kvs:List (Int×AV)) (ep:Nat) (U3:n<kp):eW kp c d A xQ (.obj n) (kvs.map fun kv=>.int kv.1) (fun H=>H[n]?=some (.eU kvs ep)):=fun env l α H s v I r nI P E k=>by
 refine aL (I.h.look nI r) fun p e3 mx cr=>?_
 subst mx
 obtain⟨kv,hd,dr,e2,hm⟩:=cr
 refine wpAny_pyIter_dict hm hd ?_
 refine bQ (I.push (o:={ cls:=.type "dict_keyiterator",data:=.fields #[.ref p.1,.int 0 0,.int kv.length 0,.int ep 0] }) rfl) fun m I' B=>?_
 have qw:kv.length=kvs.length:=dr.length
 refine k s.heap.objs.size (fun i α h=>h.IsKeyIter s.heap.objs.size p.1 i kvs.length ep∧α[n]?=some p∧mz c A s.heap.objs.size α h) _
  ⟨fun st=>st.2.2,?mono,?item,?done,fun _ P E st q=>wpAny_pyIter_keyiter st.1 q⟩ m I' ⟨⟨_,aX _ rfl,rfl,by rw[qw];rfl⟩,e3,B⟩ bR
 case mono=>
  intro i aP gp bE e8 H₁ own mr O S no m
  refine bQ mr fun lC ea b=>?_
  clear mr
  refine aq lC fun o ho st=>?_
  exact⟨⟨o,m.keep ho b.na no b.ns,st⟩,m.pre U3 ea,b.mono m no⟩
 case item=>
  intro nK i x l₁ aP H₁ bf t Nh hx bp no lD nU PP E' k'
  refine bQ nU fun st ea b=>?_
  clear nU
  obtain⟨Ia,uV,mY,_,_⟩:=bp.h.cell lD ea
  have hi:i<kvs.length:=by have:=(ao.mp hx).1;simpa using this
  have Un:kvs[i]?=some kvs[i]:=aw hi
  refine aq (mY.key Un) fun w hw Js=>?_
  rw[←mY.length] at st
  refine wpAny_pyNext_dict_item st uV hw fun key h' OD Bu hs=>k' key _ fun P' hP XW=>?_
  rw[mY.length] at Bu
  have Ax:=Bu
  refine aL Ax fun o' jQ Jz qz=>?_
  clear Ax
  refine letGo (s:={ bf with heap:=h' }) Nh jQ Jz (by decide +kernel) qz ?_
  refine aL st fun o ho hc hd=>?_
  clear st
  obtain⟨b0,uF⟩:=bp.side (s':={ bf with heap:=h' }) (I₀:=s.heap.objs.size) (fun b' o e1 e2=>(hs.2 _ e1).trans e2) ⟨o,_,ho,hd⟩ ⟨o',jQ⟩ b.base b.na no
  refine hP _ (fun b' o e1 e2=>(hs.2 _ e1).trans e2) b0 uF ?_ ⟨Bu,ea,b.base,b.na,b.ns,o',_,jQ,qz⟩
  rw[aK,Un] at hx
  replace hx:=ae hx
  subst hx
  obtain⟨t,rfl⟩:=sV OD
  exact iq
 case done=>
  intro nK l₁ aP H₁ bf bp no lD pY PP E' k'
  refine bQ pY fun st ea b=>?_
  clear pY
  obtain⟨Ia,uV,mY,_,_⟩:=bp.h.cell lD ea
  rw[←mY.length] at st
  refine wpAny_pyNext_dict_end bp.r.hd st uV (cH (by rw[mY.length];simp)) fun h' hs=>?_
  refine aL st fun o ho hc hd=>?_
  clear st
  have yL:∀b o,b≠s.heap.objs.size→bf.heap.get? b=some o→h'.get? b=some o:=fun b' o e1 e2=>hs b' o e1 e2
  exact k' _ yL (bp.u7 (s':={ bf with heap:=h' }) yL ⟨o,_,ho,hd⟩ b.base b.na no)
theorem gu.toX {n:Nat}{kvs:List (Int×AV)}(O:gu c h α H) (e:H[n]?=some (.dict kvs)):∃ep,gu c h α (H.set n (.eU kvs ep)):=by
 have hn:n<H.length:=(ao.mp e).1
 have hp:α[n]?=some (α[n]'(by rw[O.len];exact hn)):=aw _
 obtain⟨kv,hd,dr,e2,hm⟩:=O.cell e hp
 obtain⟨ep,hd⟩:=hd.dictAt
 refine⟨ep,by rw[dH];exact O.len,fun{k x q} e1 e3=>?_,O.apart,O.base,O.new⟩
 by_cases hk:n=k
 ·subst hk
  rw[hp] at e3;replace e3:=ae e3;subst e3
  rw[ew hn] at e1;replace e1:=ae e1;subst e1
  exact⟨kv,hd,dr,e2,hm⟩
 ·rw[cO hk] at e1
  exact O.cell e1 e3
theorem gu.ofX {n:Nat}{kvs:List (Int×AV)}{ep:Nat}(O:gu c h α H) (e:H[n]?=some (.eU kvs ep)):gu c h α (H.set n (.dict kvs)):=by
 have hn:n<H.length:=(ao.mp e).1
 have hp:α[n]?=some (α[n]'(by rw[O.len];exact hn)):=aw _
 obtain⟨kv,hd,dr,e2,hm⟩:=O.cell e hp
 refine⟨by rw[dH];exact O.len,fun{k x q} e1 e3=>?_,O.apart,O.base,O.new⟩
 by_cases hk:n=k
 ·subst hk
  rw[hp] at e3;replace e3:=ae e3;subst e3
  rw[ew hn] at e1;replace e1:=ae e1;subst e1
  exact⟨kv,hd.dictOf,dr,e2,hm⟩
 ·rw[cO hk] at e1
  exact O.cell e1 e3
theorem VS.toX {m:Nat}{ss:List eF}{n:Nat}{kvs:List (Int×AV)}(e:H[n]?=some (.dict kvs)) (w:∀ep,VS c d m A env ss l (H.set n (.eU kvs ep)) SQ X):VS c d m A env ss l H SQ X:=fun α s I=>by
 obtain⟨ep,O⟩:=I.h.toX e
 exact w ep α s ⟨I.ok,I.e,I.r,I.top,O,I.f,I.k⟩
noncomputable def Pr (t:Expr):Prop:=∃es k p,t=.Tuple es k p
theorem Gx {n:Nat}(U3:n<kp){kvs:List (Int×AV)}{ep:Nat}{v:aD}{p:aD×aD}{QI:List AV→(List ag→Prop)→List ag→Prop}{E:ai→aH→Prop}(nI:H[n]?=some (.eU kvs ep)) (e3:α[n]?=some p) (hv:s.heap.IsItemsView v p.1)
  (I:Inv c d A env l α H s) (m:bO A (cz env) ct h₀ α s.heap) (q:QI (kvs.map fun kv=>.tup [.int kv.1,kv.2]) (fun H=>H[n]?=some (.eU kvs ep)) H) :
  bj c.M A (Jj (.ref v)) (Gg kp c d A env Pr l ct h₀ QI) E s:=by
 obtain⟨kv,hd,dr,e2,hm⟩:=I.h.cell nI e3
 refine wpAny_pyIter_items hv hd ?_
 refine bQ (I.push (o:={ cls:=.type "dict_itemiterator",data:=.fields #[.none,.bool false,.ref p.1,.int 0 0,.int kv.length 0,.int ep 0,.none,.none] }) rfl) fun m' I' B=>?_
 refine⟨s.heap.objs.size,fun i α h=>(∃ok ov,IsItemIter h s.heap.objs.size p.1 i kvs.length ep ok ov)∧α[n]?=some p∧mz c A s.heap.objs.size α h,_,_,H,α,rfl,
  ⟨fun st=>st.2.2,?mono,?item,?done,?self⟩,m.trans m',I',⟨⟨_,_,by rw[←dr.length];exact aX _ rfl⟩,e3,B⟩,m.gone bR,I.yu bR,q⟩
 case self=>
  intro i aP bf v8
  refine fW v8 fun x p uy=>?_
  clear v8
  refine fW uy fun es kk vq=>?_
  refine al vq fun px e=>?_
  cases e
 case mono=>
  intro i aP gp bE e8 H₁ own Fb O S no m
  refine bQ Fb fun IF ea b=>?_
  clear Fb
  refine fW IF fun ok ov st=>?_
  exact⟨⟨ok,ov,m.keep st b.na no b.ns⟩,m.pre U3 ea,b.mono m no⟩
 case item=>
  intro nK i x l₁ aP H₁ bf t Nh hx bp no lD E6 PP E' k'
  refine bQ E6 fun xN ea b=>?_
  clear E6
  refine fW xN fun ok ov st=>?_
  obtain⟨Ia,uV,mY,_,_⟩:=bp.h.cell lD ea
  have hi:i<kvs.length:=by have:=(ao.mp hx).1;simpa using this
  have Un:kvs[i]?=some kvs[i]:=aw hi
  refine aq (mY.key Un) fun w hw Js=>?_
  have AK:=st
  rw[←mY.length] at st
  refine wpAny_pyNext_items_item st uV hw fun key h' OD Bu ht' kT hs=>k' _ _ fun P' hP XW=>?_
  rw[mY.length] at Bu
  rw[aK,Un] at hx
  replace hx:=ae hx
  subst hx
  obtain⟨t,rfl⟩:=sV OD
  have v7:s.heap.objs.size≠bf.heap.objs.size:=bV (bU AK)
  have fin:∀(e8:cf) IL VI f0,e8.get? s.heap.objs.size=some { cls:=.type "dict_itemiterator",dict:=none,data:=.fields #[f0,.bool false,.ref p.1,.int ((i+1:Nat):Int) 0,.int kvs.length 0,.int ep 0,IL,VI],slots:=#[] }→(∀b o,b≠s.heap.objs.size→h'.get? b=some o→e8.get? b=some o) →
    bO A (fun b=>cz nK b∨b=s.heap.objs.size) aP bf.heap aP e8∧Inv c d A nK l₁ aP H₁ { bf with heap:=e8 }∧bM c e8 aP (.tup [.int kvs[i].1,kvs[i].2]) (.ref bf.heap.objs.size):=by
   intro e8 IL VI f0 eI xS
   have hk:∀b o,b≠s.heap.objs.size→bf.heap.get? b=some o→e8.get? b=some o:=fun b o e1 e2=>xS b o e1 (hs b o e1 e2)
   obtain⟨b0,uF⟩:=bp.side (s':={ bf with heap:=e8 }) (I₀:=s.heap.objs.size) hk ⟨_,_,AK,rfl⟩ ⟨_,eI⟩ b.base b.na no
   have tk:∀{a:aD}{items:Array ai},dq bf.heap a items→dq e8 a items:=fun{TU R4} ⟨o3,wD,Tf,n3,Jt⟩=>⟨o3,hk _ _ (fun q=>by rw[q,AK] at wD;replace wD:=ae wD;subst wD;cases Jt) wD,Tf,n3,Jt⟩
   exact⟨b0,uF,Sv ⟨_,xS _ _ (gS v7) ht',rfl,_,rfl⟩ (eD iq (eD (Js.carry id tk) jD))⟩
  refine fW Nh fun es kk ZK=>?_
  clear Nh
  refine al ZK fun px yh=>?_
  subst yh
  refine wpAny_letOwnedTupleGo_items (s:={ bf with heap:=h' }) Bu fun e8 jy CB=>?_
  refine bQ (fin e8 _ _ _ jy fun b o e1 e2=>(CB.2 b e1).trans e2) fun f1 f2 f3=>?_
  exact hP _ (fun b o e1 e2=>(CB.2 b e1).trans (hs b o e1 e2)) f1 f2 f3 ⟨⟨_,_,jy⟩,ea,b.base,b.na,b.ns,_,_,jy,rfl⟩
 case done=>
  intro nK l₁ aP H₁ bf bp no lD GS PP E' k'
  refine bQ GS fun HY ea b=>?_
  clear GS
  refine fW HY fun ok ov st=>?_
  obtain⟨Ia,uV,mY,_,_⟩:=bp.h.cell lD ea
  have AK:=st
  rw[←mY.length] at st
  refine wpAny_pyNext_items_end bp.r.hd st uV (cH (by rw[mY.length];simp)) fun h' hs=>?_
  have yL:∀b o,b≠s.heap.objs.size→bf.heap.get? b=some o→h'.get? b=some o:=fun b' o e1 e2=>hs b' o e1 e2
  exact k' _ yL (bp.u7 (s':={ bf with heap:=h' }) yL ⟨_,_,AK,rfl⟩ b.base b.na no)
end
end
section
open PySem PySem.W PySem.Calls PyProof.Rows
section
variable {c:Cx}{d:Nat}{A:aU}{env:dI}{l l':Loc}{α bD ct:Am}{h h' h₀:cf}{H H':List ag}{s s':aH}
variable {Q:AV→List ag→Prop}{QB:Bool→List ag→Prop}{X:List ag→Prop}{pos:ij}{own own':aD→Prop}{QU:Loc→List ag→Prop}{kp:Nat}{SQ:AF→Loc→List ag→Prop}
theorem WU.aName {x:bu}{p:ij}{a:AV}(w:WU c d A env (fun vs=>p9 env x (vs[0]?.getD .none)) [a] l H QU X):WU c d A env (fun vs=>iL (.Name x p) env (vs[0]?.getD .none)) [a] l H QU X:=
 fun α s vs I r=>Rr (w α s vs I r)
theorem WU.UE {x:bu}{a:AV}(w:WU c d A env (fun vs=>p9 env x (vs[0]?.getD .none)) [a] l H QU X):WU c d A env (fun vs=>bindName env x (vs[0]?.getD .none)) [a] l H QU X:=
 fun α s vs I r=>wpAny_bindName (w α s vs I r)
theorem WU.TN {o:Expr}{name:bu}{p:ij}{a:AV}(w:WE c d A env o l H (fun b H2=>WU c d A env (fun vs=>PySem.setAttr (vs[0]?.getD .none) name (vs[1]?.getD .none)) [b,a] l H2 QU X) X) :
  WU c d A env (fun vs=>iL (.Attribute o name p) env (vs[0]?.getD .none)) [a] l H QU X:=fun α s vs I r=>by
 refine aq r.one fun v gC rv=>?_
 subst gC
 show bj c.M A (do let ov ←lJ [v] (gr o env);qU p.atName;lJ [v,ov] (PySem.setAttr ov name v);release [v,ov] []) _ _ s
 refine ak (cv (au (w α s I) (fun ov bf eS=>?_) fun _ _ e=>e))
 obtain⟨b,aP,H₁,b0,bp,fH,jc⟩:=eS
 refine ak (iB (ak (cv (au (jc aP bf [ov,v] bp (eD fH (eD (rv.mono b0 I.h I.solid) jD))) (fun _ cY eS=>?_) fun _ _ e=>e.weak b0))))
 obtain⟨l₂,bE,eY,cW,cB,q⟩:=eS
 exact wpAny_release ⟨l₂,bE,eY,b0.trans cW,cB,q⟩
noncomputable def Tv (i:Expr) (v ov iv:ai):List ai:=match i with | .Slice _ _ none _=>[iv,v,ov] | _=>[v,ov,iv]
theorem LL (o i:Expr) (p:ij) (v:ai):iL (.Subscript o i p) env v=(do let ov ←lJ [v] (gr o env);let iv ←lJ [v,ov] (gr i env);qU p;lJ [v,ov,iv] (PySem.setItem ov iv v);release (Tv i v ov iv) []):=rfl
theorem WU.aSub {o i:Expr}{p:ij}{a:AV}(w:WE c d A env o l H (fun b H2=>WE c d A env i l H2 (fun k H3=>WU c d A env (fun vs=>setItem (vs[0]?.getD .none) (vs[1]?.getD .none) (vs[2]?.getD .none)) [b,k,a] l H3 QU X) X) X) :
  WU c d A env (fun vs=>iL (.Subscript o i p) env (vs[0]?.getD .none)) [a] l H QU X:=fun α s vs I r=>by
 refine aq r.one fun v j5 rv=>?_
 subst j5
 show bj c.M A (iL (.Subscript o i p) env v) _ _ s
 rw[LL]
 refine ak (cv (au (w α s I) (fun ov bf eS=>?_) fun _ _ e=>e))
 obtain⟨b,aP,H₁,b0,bp,fH,jc⟩:=eS
 refine ak (cv (au (jc aP bf bp) (fun iv cY eS=>?_) fun _ _ e=>e.weak b0))
 obtain⟨k,bE,eY,cW,cB,jr,nC⟩:=eS
 have m:=b0.trans cW
 refine ak (iB (ak (cv (au (nC bE cY [ov,iv,v] cB (eD (fH.mono cW bp.h bp.solid) (eD jr (eD ((rv.mono b0 I.h I.solid).mono cW bp.h bp.solid) jD)))) (fun _ hZ eS=>?_) fun _ _ e=>e.weak m))))
 obtain⟨sH,fe,lh,gX,fP,q⟩:=eS
 exact wpAny_release ⟨sH,fe,lh,m.trans gX,fP,q⟩
theorem WU.nil {fs:List (ai→rU Unit)}(hf:fs=[]∨True) (q:QU l H):WU c d A env (fun vs=>iC [] vs) [] l H QU X:=fun α s vs I r=>by
 cases r.nil
 exact aQ ⟨l,α,H,.refl ..,I,q⟩
theorem WU.cons {f:ai→rU Unit}{fs:List (ai→rU Unit)}{a:AV}{as:List AV}(w:WU c d A env (fun vs=>f (vs[0]?.getD .none)) [a] l H (fun l1 H1=>WU c d A env (fun vs=>iC fs vs) as l1 H1 QU X) X) :
  WU c d A env (fun vs=>iC (f::fs) vs) (a::as) l H QU X:=fun α s vs I r=>by
 refine aN r.cons fun v y0 nv rv rs=>?_
 subst nv
 show bj c.M A (do lJ y0 (f v);iC fs y0) _ _ s
 refine ak (cv (au (w α s [v] I (eD rv jD)) (fun _ bf eS=>?_) fun _ _ e=>e))
 obtain⟨l₁,aP,H₁,b0,bp,jc⟩:=eS
 exact Nf b0 (jc aP bf y0 bp (rs.mono b0 I.h I.solid))
theorem WU.Wi {es:List Expr}{k:Nat}{p:ij}{vs:List AV}(hn:es.length=vs.length) (hl:(qV es env).length=es.length) (Mt:(qV es env).findIdx? (·.1)=none)
  (w:WU c d A env (fun xs=>iC ((qV es env).map (·.2)) xs) vs l H QU X):WU c d A env (fun xs=>iL (.Tuple es k p) env (xs[0]?.getD .none)) [.tup vs] l H QU X:=fun α s xs I r=>by
 refine aq r.one fun x lC rx=>?_
 subst lC
 refine aN rx.tup fun a items jZ ht rs=>?_
 subst jZ
 have kT:items.size=vs.length:=by rw[←rs.length];simp
 refine assign_Tuple_tuple I.r.hd ht (by rw[hl,hn,kT]) Mt fun h' he=>?_
 refine bG (I.grow (s':={ s with heap:=h' }) fun b o e=>he b o (bV (bU e)) e) fun m I'=>?_
 exact Nf m (w α _ items.toList I' (rs.mono m I.h I.solid))
theorem WX.Pw {es:List Expr}{k:Nat}{tp:ij}{lW:Expr}(hs:swapsWithSole [.Tuple es k tp] lW pos.line env=pure false) (hw:jO [.Tuple es k tp] lW env=pure none)
  (w:WE c d A env lW l H (fun a H1=>WU c d A env (fun xs=>iL (.Tuple es k tp) env (xs[0]?.getD .none)) [a] l H1 (fun l' H'=>SQ .next l' H') X) X):WX c d A env (.Assign [.Tuple es k tp] lW pos) l H SQ X:=fun α s I=>by
 refine Assign_Tuple (au (w α s I) (fun v bf eS=>?_) fun _ _ e=>e) hs hw
 obtain⟨a,aP,H₁,b0,bp,fH,jc⟩:=eS
 exact au (jc aP bf [v] bp (eD fH jD)) (by rintro u' cY ⟨l₂,bE,eY,cW,cB,q⟩;exact⟨.next,l₂,bE,eY,b0.trans cW,cB,rfl,q⟩) fun _ _ e=>e.weak b0
theorem WX.Ts {es:List Expr}{k:Nat}{tp:ij}{lW:Expr}{names:List bu}(hs:swapsWithSole [.Tuple es k tp] lW pos.line env=pure false) (hw:jO [.Tuple es k tp] lW env=pure (some names))
  (w:WE c d A env lW l H (fun a H1=>∃vs,a=.tup vs∧names.length=vs.length∧WU c d A env (fun xs=>iC (names.reverse.map fun n=>bindName env n) xs) vs.reverse l H1 (fun l' H'=>SQ .next l' H') X) X) :
  WX c d A env (.Assign [.Tuple es k tp] lW pos) l H SQ X:=fun α s I=>by
 refine Assign_Tuple_swapped (names:=names) (au (w α s I) (fun v bf p=>?_) fun _ _ e=>e) hs hw
 obtain⟨a,aP,H₁,b0,bp,fH,vs,rfl,hn,jc⟩:=p
 refine aN fH.tup fun b items mx ht rs=>?_
 subst mx
 have kT:items.size=vs.length:=by rw[←rs.length];simp
 rw[hn,←kT]
 refine unpackItems_tuple bp.r.hd ht fun h' he=>?_
 refine bG (bp.grow (s':={ bf with heap:=h' }) fun b o e=>he b o (bV (bU e)) e) fun m I'=>?_
 have m1:=b0.trans m
 exact au (jc aP _ items.toList.reverse I' (rs.mono m bp.h bp.solid).rev) (by rintro u' cY ⟨l₂,bE,eY,cW,cB,q⟩;exact⟨.next,l₂,bE,eY,m1.trans cW,cB,rfl,q⟩) fun _ _ e=>e.weak m1
theorem WI.items {o:Expr}{oR:ij}{pl:rU Bool}{QI:List AV→(List ag→Prop)→List ag→Prop}
  (Iu:gr (.Call (.Attribute o "items" oR) [] [] pos) env=(do
   let ov ←gr o env
   qU oR.atName
   let(f,first) ←lJ [ov] (kj ov "items" pl)
   lU pos f first (mB pos (dS [] env)) (Cj pos (sQ [] env))))
  (w:WE c d A env o l H (fun a H1=>∃n kvs ep,a=.obj n∧n<kp∧H1[n]?=some (.eU kvs ep)∧QI (kvs.map fun kv=>.tup [.int kv.1,kv.2]) (fun H=>H[n]?=some (.eU kvs ep)) H1) X) :
  WI kp c d A env Pr (.Call (.Attribute o "items" oR) [] [] pos) l H QI X:=fun α s I=>by
 rw[Iu]
 refine ak (au (w α s I) (fun x bf p=>ak (iB (ak (cv ?_)))) fun _ _ e=>e)
 obtain⟨a,aP,H₁,b0,bp,fH,n,kvs,ep,rfl,U3,nI,q⟩:=p
 refine Gn PySem.F.slot_dict_items PySem.F.type_dict_items (.inr ⟨n,rfl,.inr ⟨ep,nI⟩⟩) aP bf x bp fH _ _ ?_
 refine aL (bp.h.look nI fH) fun p e3 sG cr=>?_
 subst sG
 obtain⟨kv,hd,dr,e2,hm⟩:=cr
 show bj c.M A (lU pos (.builtin "dict.items") [.ref p.1] (mB pos (dS [] env)) []) _ _ bf
 rw[oH (pos:=pos) (es:=[]) rfl]
 refine yR (P:=fun h=>c.K.In h) (by simp) (fun h X=>(gV.CO (c:=c) (v:=.builtin "dict.items") (.inr (.inl ⟨_,rfl⟩)) h X)) (kb ?_)
 refine L7 ⟨bp.ql,?_⟩
 refine Jh PySem.F.slot_dict_items hd.dictOf.typeIs PySem.F.entry_dict_items (PySem.F.args_dict_items_1 _) (meets_dict_items (ia c.prog c.w) p.1 hm) ⟨⟨kv,hd.dictOf⟩,?_⟩
 refine bQ (bp.push (o:={ cls:=.type "dict_items",data:=.fields #[.ref p.1] }) rfl) fun m' I' B=>?_
 exact Gx U3 nI e3 ⟨_,aX _ rfl,rfl,rfl⟩ I' (b0.trans m') q
end
end
section
open PySem PySem.W PySem.Calls PyProof.Rows
noncomputable def g6 (env:dI):List (bu×bc)→List (bu×aD)→List (bu×aD)
 |[],cs=>cs
 |(n,k)::r,cs=>g6 env r (if k==.free then (n,(env.cells.lookup n).getD 0)::cs else cs)
theorem BO {env:dI}:∀{names:List (bu×bc)}{cs:List (bu×aD)},(∀y,(y,bc.free)∈names→∃b,env.cells.lookup y=some b) →
  (forIn names cs fun(x:bu×bc) (r:List (bu×aD))=>if (x.2==bc.free)=true then (do let a ←cellOf env x.1;pure (iP ((x.1,a)::r)):rU (ForInStep (List (bu×aD)))) else pure (iP r))=(pure (g6 env names cs):rU (List (bu×aD))):=by
 intro us
 induction us with
 |nil=>
  intro cs _
  exact rfl
 |cons hd r ih=>
  obtain⟨n,k⟩:=hd
  intro cs h
  rw[wg]
  unfold g6
  by_cases hk:(k==bc.free)=true
  ·refine al (h n (by rw[beq_iff_eq.mp hk];exact aI)) fun b hb=>?_
   dsimp only
   rw[if_pos hk,if_pos hk,hb]
   unfold cellOf
   rw[hb]
   simp only[pure_bind,Fv]
   exact ih fun y hy=>h y (aG _ hy)
  ·dsimp only
   rw[if_neg hk,if_neg hk]
   simp only[pure_bind]
   exact ih fun y hy=>h y (aG _ hy)
theorem wj {env:dI}{scope:nR}(h:∀y,(y,bc.free)∈scope.names→∃b,env.cells.lookup y=some b):Cm scope env=pure (g6 env scope.names []):=by
 have e:=BO (env:=env) (cs:=[]) h
 have e2:Cm scope env=(forIn scope.names [] fun(x:bu×bc) (r:List (bu×aD))=>if (x.2==bc.free)=true then (do let a ←cellOf env x.1;pure (iP ((x.1,a)::r)):rU (ForInStep (List (bu×aD)))) else pure (iP r)) >>= fun cs=>pure cs:=rfl
 rw[e2,e,pure_bind]
theorem xe {env:dI}{y:bu}:∀{names:List (bu×bc)}{cs:List (bu×aD)},(y,bc.free)∉names→(g6 env names cs).lookup y=cs.lookup y:=by
 intro us
 induction us with
 |nil=>
  intro _ _
  exact rfl
 |cons hd r ih=>
  obtain⟨n,k⟩:=hd
  intro cs h
  unfold g6
  rw[ih fun q=>h (aG _ q)]
  by_cases hk:(k==bc.free)=true
  ·rw[if_pos hk]
   have v7:y≠n:=fun q=>h (by rw[q,←beq_iff_eq.mp hk];exact aI)
   rw[dK,beq_eq_false_iff_ne.mpr v7]
  ·rw[if_neg hk]
theorem w9 {env:dI}{y:bu}{b:aD}(hb:env.cells.lookup y=some b):∀{names:List (bu×bc)}{cs:List (bu×aD)},(y,bc.free)∈names→(g6 env names cs).lookup y=some b:=by
 intro us
 induction us with
 |nil=>
  intros;first | contradiction | simp at *
 |cons hd r ih=>
  obtain⟨n,k⟩:=hd
  intro cs h
  unfold g6
  by_cases hr:(y,bc.free)∈r
  ·exact ih hr
  ·rw[xe hr]
   rcases br.mp h with q | q
   ·cases q
    rw[if_pos (by decide),dK,beq_self_eq_true,hb];rfl
   ·exact absurd q hr
theorem qO {env:dI}{y:bu}{b:aD}{names:List (bu×bc)}(h:∀y,(y,bc.free)∈names→∃b,env.cells.lookup y=some b) (e:(g6 env names []).lookup y=some b):(y,bc.free)∈names∧env.cells.lookup y=some b:=by
 by_cases hy:(y,bc.free)∈names
 ·refine al (h y hy) fun b' hb=>?_
  rw[w9 hb hy] at e
  replace e:=ae e;subst e;exact⟨hy,hb⟩
 ·rw[xe hy] at e;exact nS e
section
variable {M:Fp}{A:aU}{E:ai→aH→Prop}{s:aH}{env:dI}
noncomputable def uv (M:Fp) (A:aU) (E:ai→aH→Prop) (use:Option (ai→rU Unit)) (Q:ai→aH→Prop) (acc:ai) (cenv:dI) (r:sP) (s':aH):Prop:=
 match r,use with
 |.ok _,none=>∃m,s'.heap.Ns cenv.locals m∧∀h',dz cenv.locals s'.heap h'→Q acc { s' with heap:=h' }
 |.ok _,some u=>bj M A (u acc) (fun _ R9=>∃m,R9.heap.Ns cenv.locals m∧∀h',dz cenv.locals R9.heap h'→Q .none { R9 with heap:=h' }) E s'
 |.error x,_=>∃m,s'.heap.Ns cenv.locals m∧∀h',dz cenv.locals s'.heap h'→bj M A (passOn "comprehension.variables-let-go" x cenv:rU ai) (fun _ _=>False) E { s' with heap:=h' }
theorem sA {e:Expr}{scope:nR}{pos:ij}{GD first:rU ai}{g:Comprehension}{gs:List Comprehension}{cl:List (bu×aD)}{use:Option (ai→rU Unit)}
  {Q:ai→aH→Prop}
  (r5:clausesOf e=g::gs) (hs:∀x,gA g.iter env x=pure x) (TV:Cm scope env=pure cl)
  (Hj:scope.kind=.function) (O7:∀x∈scope.names,x.2=.local→scope.names.lookup x.1=some .local)
  (h:bj M A first (fun x bf=>bj M A (Jj x) (fun it cY=>bj M A GD (fun acc hZ=>
   bj M A (Cn scope env.globals cl [] env.qual none .none (some env)) (fun cenv n7=>
    ic M A (.compStart e 0 it acc { cenv with scope:=gB scope env }) (uv M A E use Q acc { cenv with scope:=gB scope env }) n7) E hZ) E cY) E bf) E s) :
  bj M A (EY e scope env pos GD false first use) Q E s:=by
 unfold EY
 rw[TV,r5]
 refine ak (au h (fun x bf gp=>ak (iB (ak (wpAny_of_eq (hs x) (ak (cv (au gp (fun it cY e8=>
  wpAny_standIf (ak (au e8 (fun acc hZ r6=>ak (aQ (ak (au r6 (fun cenv n7 XD=>?_) fun _ _ h'=>h')))) fun _ _ h'=>h')))
   fun _ _ h'=>h'))))))) fun _ _ h'=>h')
 dsimp only
 have hv:∀x∈(scope.names.filter fun x=>(x.2==.local||x.2==.cell)&&x.1 != (".0":bu)).reverse,x.2=.local →
   yH { cenv with scope:=gB scope env } x.1=some .local:=fun x hx hl=>lookup_relabel_local (O7 x (List.mem_filter.mp (List.mem_reverse.mp hx)).1 hl)
 have hv':∀x∈(scope.names.filter fun x=>(x.2==.local||x.2==.cell)&&x.1 != (".0":bu)).reverse.drop 1++(scope.names.filter fun x=>(x.2==.local||x.2==.cell)&&x.1 != (".0":bu)).reverse.take 1,
   x.2=.local→yH { cenv with scope:=gB scope env } x.1=some .local:=fun x hx hl=>by
  rcases eG.mp hx with h1 | h1
  ·exact hv x (kR h1) hl
  ·exact hv x (qt h1) hl
 refine cv (ak (wpAny_attempt (cv (wpAny_run (qT XD fun r s' hr=>?_)))))
 cases r with
 |ok f=>
  cases use with
  |none=>
   refine aq hr fun m hn hr=>?_
   exact ak (cv (yI (cenv:={ cenv with scope:=gB scope env }) Hj _ s' m hv hn fun h' m' _ UR=>aQ (hr h' UR)))
  |some u=>
   refine ak (Co (ak (cv (au hr (fun _ R9 M8=>?_) fun _ _ h'=>h'))))
   refine aq M8 fun m hn M8=>?_
   exact ak (yI (cenv:={ cenv with scope:=gB scope env }) Hj _ R9 m hv' hn fun h' m' _ UR=>aQ (M8 h' UR))
 |error x=>
  have M8:∃m,s'.heap.Ns cenv.locals m∧∀h',dz cenv.locals s'.heap h'→bj M A (passOn "comprehension.variables-let-go" x { cenv with scope:=gB scope env }:rU ai) (fun _ _=>False) E { s' with heap:=h' }:=by cases use<;>exact hr
  refine aq M8 fun m hn hr=>?_
  clear M8
  exact ak (cv (yI (cenv:={ cenv with scope:=gB scope env }) Hj _ s' m hv hn fun h' m' _ UR=>au (hr h' UR) (fun _ _ f=>f.elim) fun _ _ y=>y))
end
end
section
open PySem PySem.W PySem.Calls PyProof.Rows
structure nE (env:dI) (l:Loc) (scope:nR) (x:bu) (lc:Loc) (dP:List (bu×bc)):Prop where
 kind:scope.kind=.function
 BZ:∀y∈scope.names,y.2≠.cell
 loc:∀y∈scope.names,y.2=.local→scope.names.lookup y.1=some .local
 nodup:(scope.names.map (·.1)).Nodup
 names:(gB scope env).names=dP
 tgt:dP[1]?=some (x,.local)
 lcl:1<lc.length
 free:∀(i:Nat) (y:bu),scope.names[i]?=some (y,.free)→∃j:Nat,env.scope.names[j]?=some (y,.cell)∧(∀v:AV,lc[i]?=some (some v)→l[j]?=some (some v))
 only:∀(i:Nat) (v:AV),lc[i]?=some (some v)→∃y,scope.names[i]?=some (y,.free)
section
variable {c:Cx}{d:Nat}{A:aU}{env:dI}{l l':Loc}{α bD ct:Am}{h h' h₀:cf}{H H':List ag}{s s':aH}
variable {Q:AV→List ag→Prop}{QB:Bool→List ag→Prop}{X:List ag→Prop}{pos:ij}{own own':aD→Prop}{QU:Loc→List ag→Prop}{kp:Nat}{SQ:AF→Loc→List ag→Prop}
noncomputable def BY (c:Cx) (d:Nat) (A:aU) (env:dI) (qX:List Expr) (l:Loc) (H:List ag) (QB:Bool→List ag→Prop) (X:List ag→Prop):Prop:=
 ∀α s,Inv c d A env l α H s→bj c.M A (forIn qX true fun c r=>if r=true then do let ok ←isTrue c env (gr c env);pure (iP ok) else pure (iP r)) (ru c d A env l α s.heap QB) (kG c A env α s.heap X) s
theorem BY.nil (q:QB true H):BY c d A env [] l H QB X:=fun α s I=>aQ ⟨α,H,.refl ..,I,q⟩
theorem BY.one {t:Expr}(w:WB c d A env t l H QB X):BY c d A env [t] l H QB X:=fun α s I=>by
 rw[wg]
 refine ak ?_
 rw[if_pos rfl]
 refine ak (au (w α s I) (fun b bf p=>aQ ?_) fun _ _ e=>e)
 exact aQ p
theorem FunFrames.at' {hb h:cf}{l:List dI}(F:h.FunFrames hb l):∀env∈l,∃L o,env.frame=some L∧h.get? L=some o:=by
 induction l with
 |nil=>intro e he;cases he
 |cons env r ih=>
  refine bQ F fun _ hx hr=>?_
  clear F
  refine b9 hx fun L o hf hn ho hd=>?_
  clear hx
  intro e he
  rcases br.mp he with rfl | he
  ·exact⟨L,o,hf,ho⟩
  ·exact ih hr e he
theorem Inv.LJ (I:Inv c d A env l α H s):∃F o,env.frame=some F∧s.heap.get? F=some o:=by
 refine cD I.top fun en o ht tU=>?_
 refine aL I.k.fr fun lf e F n=>?_
 rw[ht] at e;replace e:=ae e;subst e
 refine cD (FunFrames.at' F en aI) fun L ob h1 h2=>?_
 exact⟨L,ob,tU▸h1,h2⟩
theorem za {scope:nR}:(gB scope env).names.map (·.1)=scope.names.map (·.1):=by
 unfold gB
 dsimp only
 rw[dy]
 apply i7
 intro lH _
 obtain⟨n,k⟩:=lH
 dsimp only[Function.comp]
 split<;>rfl
set_option tactic.hygienic true in
theorem s9 {scope:nR}{i:Nat}{y:bu}{k:bc}(e:(gB scope env).names[i]?=some (y,k)):∃k0,scope.names[i]?=some (y,k0)∧(k=k0∨(k0=.free∧k=.cell)):=by
 unfold gB at e
 dsimp only at e
 rw[aK] at e
 cases q:scope.names[i]? with
 |none=>rw[q] at e;exact nS e
 |some p=>
  obtain⟨n,k0⟩:=p
  rw[q] at e
  dsimp only[oo] at e
  split at e
  ·rename_i hc
   cases e
   refine⟨k0,rfl,.inr ⟨?_,rfl⟩⟩
   simp only[gJ,beq_iff_eq] at hc
   exact hc.1.1
  ·cases e;exact⟨_,rfl,.inl rfl⟩
theorem yZ {scope:nR}{x:bu}{lc:Loc}{dP:List (bu×bc)}(K:nE env l scope x lc dP) (I:Inv c d A env l α H s){C:aD}(v5:s.heap.get? C=none)
  (hk:∀b o,s.heap.get? b=some o→h'.get? b=some o) (ua:h'.Ns C fun y=>([]:List (bu×ai)).reverse.lookup y) :
  Inv c d A (jP scope (g6 env scope.names []) C env) lc α H { s with heap:=h' }∧(∀b,cz (jP scope (g6 env scope.names []) C env) b↔b=C):=by
 refine bG (I.grow (s':={ s with heap:=h' }) hk) fun m I'=>?_
 have hbN:∀{b},s.heap.get? b=none→c.hb.get? b=none:=fun{b} e=>by
  cases q:c.hb.get? b with
  |none=>rfl
  |some o=>rw[I.h.base _ _ q] at e;exact nS (fZ e)
 have Oq:∀{y b},(y,bc.free)∈scope.names→env.cells.lookup y=some b→∃o,s.heap.get? b=some o:=fun{y b} hy e=>by
  refine al (eO.mp hy) fun i hi=>?_
  refine aq (K.free i y hi) fun j hj _=>?_
  refine gN (I.f.cl hj (.inl rfl)) fun b' ov e1 o ho _ _=>?_
  rw[e] at e1;replace e1:=ae e1;subst e1;exact⟨o,ho⟩
 have hf:∀y,(y,bc.free)∈scope.names→∃b,env.cells.lookup y=some b:=fun y hy=>by
  refine al (eO.mp hy) fun i hi=>?_
  refine aq (K.free i y hi) fun j hj _=>?_
  refine cD (I.f.cl hj (.inl rfl)) fun b' ov e1 _=>?_
  exact⟨b',e1⟩
 refine cD I.LJ fun F oF hF hFo=>?_
 have hFC:env.frame≠some C:=fun q=>by rw[hF] at q;replace q:=ae q;subst q;rw[v5] at hFo;exact nS hFo
 refine⟨⟨I.ok,⟨K.kind,I.e.glob,I.e.bi,?_,fun{y z b} e1 e2=>?_,fun{y b} e=>?_,I.e.frame⟩,I.r,I.top,I'.h,⟨⟨_,ua,fun{i y v} e1 e2=>?_⟩,fun{i y k} e yL=>?_,I.h.live v5,hbN v5⟩,I'.k⟩,fun b=>⟨fun q=>?_,fun q=>.inl q⟩⟩
 ·show((gB scope env).names.map (·.1)).Nodup
  rw[za];exact K.nodup
 ·have a:=qO hf e1
  have b:=qO hf e2
  exact I.e.apart a.2 b.2
 ·have a:=qO hf e
  refine al (Oq a.1 a.2) fun o ho=>?_
  intro q
  have q':b=C:=q
  rw[q',v5] at ho;exact nS ho
 ·refine aq (s9 e1) fun k0 h0 Ui=>?_
  refine al (K.only i v e2) fun y' hy'=>?_
  rw[h0] at hy'
  cases hy'
  rcases Ui with q | ⟨_,q⟩<;>cases q
 ·refine aq (s9 e) fun k0 h0 Ui=>?_
  have U7:k0=.free:=by
   rcases Ui with rfl | ⟨rfl,_⟩
   ·rcases yL with rfl | rfl
    ·exact absurd rfl (K.BZ _ (a9 h0))
    ·rfl
   ·rfl
  subst U7
  refine aq (K.free i y h0) fun j hj hv=>?_
  refine gc (I'.f.cl hj (.inl rfl)) fun b ov e1 e2 e3 e4 e5=>?_
  exact⟨b,ov,w9 e1 (a9 h0),e2,e3,e4,fun{v} q=>e5 (hv v q)⟩
 ·rcases q with q | ⟨q,_⟩
  ·exact q
  ·exact absurd q hFC
theorem gu.off {C:aD}(O:gu c h α H) (hk:∀b o,b≠C→h.get? b=some o→h'.get? b=some o) (na:¬iU α C) (hb:c.hb.get? C=none) (tk:∀{a:aD}{items:Array ai},dq h a items→dq h' a items):gu c h' α H:=
 O.qm tk (fun b o a=>hk b o fun q=>na (q▸a)) fun b o e=>hk b o (fun q=>by rw[q,hb] at e;exact nS e) (O.base b o e)
theorem FunFrames.off {hb:cf}{C:aD}(hk:∀b o,b≠C→h.get? b=some o→h'.get? b=some o):∀{l:List dI},h.FunFrames hb l→(∀env∈l,env.frame≠some C)→h'.FunFrames hb l:=by
 intro us
 induction us with
 |nil=>
  intro _ _
  exact trivial
 |cons env r ih=>
  intro mr n
  refine bQ mr fun VE jX hr=>?_
  clear mr
  refine b9 jX fun L o hf hn ho hd=>?_
  exact⟨VE,⟨L,o,hf,hn,hk _ _ (fun q=>n env aI (q▸hf)) ho,hd⟩,ih hr fun e he=>n e (aG _ he)⟩
theorem dQ.off {g:Sd}{C:aD}(K:dQ c A g h α) (hk:∀b o,b≠C→h.get? b=some o→h'.get? b=some o) (ns:¬AI A C):dQ c A g h' α:=by
 refine aL K.fr fun lf e F n=>?_
 exact⟨⟨lf,e,FunFrames.off hk F fun en he q=>ns ⟨lf,en,e,he,q⟩,n⟩,K.la⟩
theorem pk.N0 {C:aD}(F:pk c env h α l) (hk:∀b o,b≠C→h.get? b=some o→h'.get? b=some o) (tk:∀{a:aD}{items:Array ai},dq h a items→dq h' a items) (hl:env.locals≠C)
  (hc:∀(i:Nat) x k b,env.scope.names[i]?=some (x,k)→xR k→env.cells.lookup x=some b→b≠C):pk c env h' α l:=by
 refine⟨?_,fun{i x k} e xS=>?_,F.no,F.new⟩
 ·refine eT F.ns fun mm o es ep ho r hr=>?_
  exact⟨mm,⟨o,es,ep,hk _ _ hl ho,r⟩,fun{i x v} e1 e2=>by refine aq (hr e1 e2) fun val q1 q2=>?_;exact⟨val,q1,q2.carry id tk⟩⟩
 ·refine eH (F.cl e xS) fun b ov e1 o ho hd n1 n2 hr=>?_
  exact⟨b,ov,e1,⟨o,hk _ _ (hc i x k b e xS e1) ho,hd⟩,n1,n2,fun{v} q=>by refine aq (hr q) fun val q1 q2=>?_;exact⟨val,q1,q2.carry id tk⟩⟩
theorem pk.tn (F:pk c env h α l):¬iU α env.locals∧∃o,h.get? env.locals=some o:=⟨F.no,F.ns.elim fun _ h=>RI h.1⟩
theorem vH {C a:aD}{m:bu→Option ai}{items:Array ai}(n:h.Ns C m) (t:dq h a items):a≠C:=fun q=>by
 refine eC n fun o es ep ho iu=>?_
 clear n
 refine bG iu fun hd _=>?_
 refine fU t fun o' jQ hc n' qz=>?_
 clear t
 rw[q,ho] at jQ;replace jQ:=ae jQ;subst jQ;rw[hd] at qz;cases qz
inductive FA {β:Type}(c:Cx) (d:Nat) (A:aU) (env:dI) (lc:Loc) (own₀:aD→Prop) (ct:Am) (h₀:cf) (N:Nat) (St:Nat→Am→cf→Prop) (J:Nat→β→List ag→Prop) (nD:Nat) (D:aD) (envO:dI) (lO:Loc) (n:Nat) (s':aH):Prop
 |mk (i:Nat) (MW:Loc) (bD:Am) (H':List ag) (acc:β) (hn:n=N-i) (hi:i≤N) (m:bO A own₀ ct h₀ bD s'.heap) (I:Inv c d A env MW bD H' s') (hl:MW.set 1 none=lc.set 1 none) (st:St i bD s'.heap) (j:J i acc H') (hD:bD[nD]?=some (D,D)) (f:pk c envO s'.heap bD lO)
theorem Ef {oK iter:Expr}{qX:List Expr}{scope:nR}{x:bu}{px:ij}{xs:List AV}{gE:List ag→Prop}{I₀ D:aD}{St:Nat→Am→cf→Prop}{lc:Loc}{nD:Nat}{R:sP→aH→Prop}{envO:dI}{lO:Loc}
  (it:E5 kp c d A xQ xs gE I₀ St) (J:Nat→List AV→List ag→Prop) (hJ:∀i acc H',J i acc H'→gE H'∧H'[nD]?=some (.list acc)∧acc.length≤1000000)
  (step:∀i v acc H',xs[i]?=some v→J i acc H'→BY c d A env qX (lc.set 1 (some v)) H' (fun ok yq=>if ok then
   WE c d A env oK (lc.set 1 (some v)) yq (fun a H3=>H3[nD]?=some (.list acc)∧acc.length≤1000000∧J (i+1) (acc++[a]) (H3.set nD (.list (acc++[a])))) X else J (i+1) acc yq) X)
  (hx:env.scope.names[1]?=some (x,.local)) (hl:1<lc.length){own₀:aD→Prop}(Pu:own₀ env.locals∧own₀ I₀) (jM:∀b,cz env b↔b=env.locals) (rE:h₀.get? I₀=none) (no:¬cz env I₀)
  (I:Inv c d A env lc α H s) (m:bO A own₀ ct h₀ α s.heap) (st:St 0 α s.heap) (j0:J 0 [] H) (Y3:envO.locals≠env.locals) (ZV:∀(i:Nat) x k b,envO.scope.names[i]?=some (x,k)→xR k→envO.cells.lookup x=some b→b≠env.locals) (fO:pk c envO s.heap α lO) (hD:α[nD]?=some (D,D))
  (hR:∀bD H' s' MW acc,bO A own₀ ct h₀ bD s'.heap→Inv c d A env MW bD H' s'→pk c envO s'.heap bD lO→J xs.length acc H'→bD[nD]?=some (D,D)→R (.ok .next) s')
  (hE:∀aP (gp:cf) y s',bO A own₀ ct h₀ aP gp→pk c envO gp aP lO→(¬iU aP env.locals∧∃o,gp.get? env.locals=some o)→kG c A env aP gp X y s'→tB c.M A env (fun e s'=>R (.error e) s') y s') :
  ic c.M A (.compLoop (.ListComp oK [⟨.Name x px,iter,qX,0⟩] scope pos) 0 (.ref I₀) (.ref D) env) R s:=by
 have Jy:∀{aP bE:Am}{gp e8:cf},bO A (cz env) aP gp bE e8→bO A own₀ aP gp bE e8:=fun m=>m.nT fun b q=>(jM b).mp q▸Pu.1
 have kO:∀{aP bE:Am}{gp e8:cf}{H₁:List ag},pk c envO gp aP lO→gu c gp aP H₁→eM gp (cz env)→bO A (cz env) aP gp bE e8→pk c envO e8 bE lO:=fun f O S m=>f.keep m O S (fun q=>Y3 ((jM _).mp q)) fun i x k b e1 e2 e3 q=>ZV i x k b e1 e2 e3 ((jM _).mp q)
 refine codeAny_compLoop_tests (FA c d A env lc own₀ ct h₀ xs.length St J nD D envO lO)
  (fun n bf p=>?_) xs.length ⟨0,lc,α,H,[],rfl,cR _,m,I,rfl,st,j0,hD,fO⟩
 obtain⟨i,rd,aP,H₁,acc,rfl,hi,b0,bp,Tu,mK,xT,zH,vg⟩:=p
 refine bQ (hJ _ _ _ xT) fun nI se hz=>?_
 have Qe:1<rd.length:=by
  have:=congrArg m8 Tu
  rw[dH,dH] at this
  exact EK this (i0 hl)
 by_cases iS:i<xs.length
 ·have Ow:xs[i]?=some xs[i]:=aw iS
  refine it.item (.inl ⟨x,px,rfl⟩) Ow bp no nI mK _ _ fun v cY go=>?_
  dsimp only
  rw[←pure_bind () (fun _:Unit=>iL (.Name x px) env v)]
  refine(show bj c.M A (mC (.Name x px) (.ref I₀) v >>= fun _=>iL (.Name x px) env v) _ _ cY from ak (go _ (fun hZ NM gX fP IY w5=>?_) _))
  have Hc:pk c envO hZ.heap aP lO:=vg.off NM (it.ok mK).at_
  have T6:=b0.trans (gX.nT (own':=own₀) fun b q=>q.elim (fun q=>(jM b).mp q▸Pu.1) fun q=>q▸Pu.2)
  refine au (WU.aName (x:=x) (p:=px) (a:=xs[i]) (QU:=fun l' H'=>l'=lc.set 1 (some xs[i])∧H'=H₁) (X:=X) (l:=rd) (H:=H₁) (d:=d) (WU.stLoc 1 hx Qe ⟨?_,rfl⟩) aP hZ [v] fP (eD IY jD)) (fun _ n7 ⟨N1,rJ,FJ,km,jT,e1,e2⟩=>?_) fun y s' z=>hE _ _ y s' T6 Hc fP.f.tn z
  ·have:(rd.set 1 none).set 1 (some xs[i])=(lc.set 1 none).set 1 (some xs[i]):=by rw[Tu]
   rwa [lL,lL] at this
  subst e1 e2
  have SU:=T6.trans (Jy km)
  have zz:=it.mono w5 fP.h fP.solid no km.toM
  have He:=kO Hc fP.h fP.solid km
  refine au (step i _ acc _ Ow xT rJ n7 jT) (fun ok A1 eS=>?_) fun y s' z=>hE _ _ y s' SU He jT.f.tn z
  obtain⟨mX,zr,pW,lp,HO⟩:=eS
  have Qf:=SU.trans (Jy pW)
  have uD:=it.mono zz jT.h jT.solid no pW.toM
  have BE:=kO He jT.h jT.solid pW
  have zg:mX[nD]?=some (D,D):=pW.pre (km.pre zH)
  have Hp:(lc.set 1 (some xs[i])).set 1 none=lc.set 1 none:=by rw[lL]
  cases ok with
  |false=>
   exact⟨xs.length-(i+1),by exact wm iS,i+1,_,mX,zr,acc,rfl,iS,Qf,lp,Hp,uD,HO,zg,BE⟩
  |true=>
   refine au (HO mX A1 lp) (fun y Lh eS=>?_) fun y s' z=>hE _ _ y s' Qf BE lp.f.tn z
   obtain⟨a,ta,Bq,tK,nX,OJ,q1,q2,q3⟩:=eS
   have UK:=Qf.trans (Jy tK)
   have wN:=it.mono uD lp.h lp.solid no tK.toM
   have Hn:=kO BE lp.h lp.solid tK
   have C2:=tK.pre zg
   refine au (WV.append (c:=c) (d:=d) (X:=X) (Q:=fun _ H'=>H'=Bq.set nD (.list (acc++[a]))) q1 q2 rfl ta Lh [.ref D,y] nX (eD (yi C2) (eD OJ jD))) (fun _ Wb eS=>?_) fun y s' z=>hE _ _ y s' UK Hn nX.f.tn z
   obtain⟨a7,Gs,Zg,xY,Bm,TC,XU⟩:=eS
   subst XU
   have Yp:=UK.trans (Jy xY)
   have Gq:=it.mono wN nX.h nX.solid no xY.toM
   have PH:=kO Hn nX.h nX.solid xY
   exact⟨xs.length-(i+1),by exact wm iS,i+1,_,Gs,_,acc++[a],rfl,iS,Yp,Bm,Hp,Gq,q3,xY.pre C2,PH⟩
 ·obtain rfl:i=xs.length:=by exact aW [_,_] [] [.L aB aM,.N (.T aB aM)] (.E aB aM) (.o cK cN) rfl hi iS
  refine it.done bp no nI mK _ _ fun cY Ab cB=>?_
  exact hR aP H₁ cY rd acc (b0.s4 rE Ab) cB (vg.off Ab (it.ok mK).at_) xT zH
theorem uY {oK iter:Expr}{qX:List Expr}{scope:nR}{uR:ij}{x:bu}{px:ij}{lc:Loc}{dP:List (bu×bc)}{xs:List AV}{gE:List ag→Prop}{I₀:aD}{St:Nat→Am→cf→Prop}{P:ai→aH→Prop}{use:Option (ai→rU Unit)}
  (K:nE env l scope x lc dP) (J:Nat→List AV→List ag→Prop) (hJ:∀i acc H',J i acc H'→gE H'∧H'[H.length]?=some (.list acc)∧acc.length≤1000000)
  (step:∀cenv i v acc H',cenv.scope.names=dP→xs[i]?=some v→J i acc H'→BY c d A cenv qX (lc.set 1 (some v)) H' (fun ok yq=>if ok then
   WE c d A cenv oK (lc.set 1 (some v)) yq (fun a H3=>H3[H.length]?=some (.list acc)∧acc.length≤1000000∧J (i+1) (acc++[a]) (H3.set H.length (.list (acc++[a])))) X else J (i+1) acc yq) X)
  (it:E5 kp c d A xQ xs gE I₀ St) (m:bO A (cz env) ct h₀ α s.heap) (I:Inv c d A env l α H s) (st:St 0 α s.heap) (rE:h₀.get? I₀=none) (no:¬cz env I₀) (j0:J 0 [] (H++[.list []]))
  (hR:∀bD H' s' acc C D,(∀pG,dz C s'.heap pG→bO A (cz env) ct h₀ bD pG∧Inv c d A env l bD H' { s' with heap:=pG })→bO A (cz env) ct h₀ bD s'.heap→Inv c d A env l bD H' s'→J xs.length acc H'→bD[H.length]?=some (D,D)→(∃m,s'.heap.Ns C m)→s.heap.get? C=none→¬iU bD C →
   ∀cenv:dI,cenv.locals=C→uv c.M A (kG c A env ct h₀ X) use P (.ref D) cenv (.ok .next) s') :
  bj c.M A (newList []) (fun acc hZ=>bj c.M A (Cn scope env.globals (g6 env scope.names []) [] env.qual none .none (some env)) (fun cenv n7=>
   ic c.M A (.compStart (.ListComp oK [⟨.Name x px,iter,qX,0⟩] scope uR) 0 (.ref I₀) acc { cenv with scope:=gB scope env }) (uv c.M A (kG c A env ct h₀ X) use P acc { cenv with scope:=gB scope env }) n7) (kG c A env ct h₀ X) hZ) (kG c A env ct h₀ X) s:=by
 have Bi:=it.ok st
 refine eL ?_
 obtain⟨b0,bp⟩:=I.alloc (s':={ s with heap:=s.heap.push { cls:=.type "list",data:=.seq ([]:List ai).toArray } }) (p:=(s.heap.objs.size,s.heap.objs.size)) (x:=.list []) gf bR bR
  ⟨#[],0,aX _ rfl,by exact jD,rfl⟩
 have hD:(α++[(s.heap.objs.size,s.heap.objs.size)])[H.length]?=some (s.heap.objs.size,s.heap.objs.size):=by rw[←I.h.len];simp
 have mK:=it.mono st I.h I.solid no b0.toM
 refine Mc K.BZ (by intro y hy;simp at hy) (fun e8 ua U4=>?_) K.kind
 dsimp only at ua U4 ⊢
 generalize Zf:s.heap.push { cls:=.type "list",data:=.seq ([]:List ai).toArray }=ja at *
 have Yj:s.heap.objs.size≤ja.objs.size:=by rw[←Zf,gK];exact bX _
 have Zt:ja.get? ja.objs.size=none:=bR
 have v5:s.heap.get? ja.objs.size=none:=gk Yj
 have hk:∀b o,ja.get? b=some o→e8.get? b=some o:=fun b o e=>(U4.2 b (bV (bU e))).trans (aT _ e)
 refine bG (yZ (s:={ s with heap:=ja }) K bp Zt hk ua) fun cB jM=>?_
 refine bG (bp.grow (s':={ s with heap:=e8 }) hk) fun cW vf=>?_
 have jy:=it.mono mK bp.h bp.solid no cW.toM
 have Wo:I₀≠ja.objs.size:=fun q=>by
  refine cD Bi.at_ fun o vs ho _=>?_
  rw[q,v5] at ho;exact nS ho
 have XQ:¬cz (jP scope (g6 env scope.names []) ja.objs.size env) I₀:=fun q=>Wo ((jM _).mp q)
 have Fc:env.locals≠ja.objs.size:=fun q=>by
  refine eT I.f.ns fun mm o _ _ ho _ _=>?_
  rw[q,v5] at ho;exact nS ho
 have X6:bO A (cz env) ct h₀ (α++[(s.heap.objs.size,s.heap.objs.size)]) e8:=(m.trans b0).trans cW
 have qF:∀(i:Nat) y k b,env.scope.names[i]?=some (y,k)→xR k→env.cells.lookup y=some b→b≠ja.objs.size:=fun i y k b e1 e2 e3 q=>by
  refine gN (I.f.cl e1 e2) fun b' ov e4 o ho _ _=>?_
  rw[e3] at e4;replace e4:=ae e4;subst e4
  rw[q,v5] at ho;exact nS ho
 have NS:h₀.get? ja.objs.size=none:=m.gone v5
 have PM:¬AI A ja.objs.size:=fun q=>by
  refine i9 (I.k.none q) fun _ _ o ho _=>?_
  rw[v5] at ho;exact nS ho
 have drop:∀{fe:Am}{r6:cf},bO A (fun b=>cz env b∨b=ja.objs.size∨b=I₀) ct h₀ fe r6→bO A (cz env) ct h₀ fe r6:=fun m=>m.drop fun b o q n e=>by
  rcases q with q | q | q
  ·exact n q
  ·rw[q,NS] at e;exact nS e
  ·rw[q,rE] at e;exact nS e
 have loop:ic c.M A (.compLoop (.ListComp oK [⟨.Name x px,iter,qX,0⟩] scope uR) 0 (.ref I₀) (.ref s.heap.objs.size) (jP scope (g6 env scope.names []) ja.objs.size env)) (uv c.M A (kG c A env ct h₀ X) use P (.ref s.heap.objs.size) (jP scope (g6 env scope.names []) ja.objs.size env)) { s with heap:=e8 }:=by
  refine Ef (envO:=env) (lO:=l) (own₀:=fun b=>cz env b∨b=ja.objs.size∨b=I₀) it J hJ (fun i v acc H' hx hj=>step _ i v acc H' K.names hx hj) (K.names▸K.tgt) K.lcl ⟨.inr (.inl rfl),.inr (.inr rfl)⟩ jM rE XQ cB (X6.nT fun b q=>.inl q) jy j0 Fc qF vf.f hD (fun bD H' s' MW acc m' I' f' j' Xz=>?_) fun aP gp y s' m' vg lv z=>?_
  ·have fk:∀{pG},dz ja.objs.size s'.heap pG→∀b o,b≠ja.objs.size→s'.heap.get? b=some o→pG.get? b=some o:=fun hs b o e1 e2=>(hs.2 b e1).trans e2
   obtain⟨mm,N5⟩:∃m,s'.heap.Ns ja.objs.size m:=I'.f.ns.imp fun _ z=>z.1
   have Ie:Inv c d A env l bD H' s':=⟨I.ok,I.e,I.r,I.top,I'.h,f',I'.k⟩
   refine hR bD H' s' acc ja.objs.size s.heap.objs.size (fun pG hs=>?_) (drop m') Ie j' Xz ⟨mm,N5⟩ v5 I'.f.no _ rfl
   have tk:∀{a:aD}{items:Array ai},dq s'.heap a items→dq pG a items:=fun{a items} t=>by
    have:=vH N5 t
    refine aq t fun o ho r=>?_
    clear t
    exact⟨o,fk hs _ _ this ho,r⟩
   exact⟨drop (m'.s4 NS (fk hs)),I.ok,I.e,I.r,I.top,I'.h.off (fk hs) I'.f.no I'.f.new tk,f'.N0 (fk hs) tk Fc qF,I'.k.off (fk hs) PM⟩
  ·obtain⟨e,fl,bD,H',rfl,uj,z,m2,O,K2,hX,mm,ua⟩:=z
   refine cD I.top fun en o mu tU=>?_
   refine al I.e.frame fun F hF=>?_
   have mt:=m'.trans (m2.nT (own':=fun b=>cz env b∨b=ja.objs.size∨b=I₀) fun b q=>.inr (.inl ((jM b).mp q)))
   obtain⟨m1,WJ⟩:∃m,s'.heap.Ns env.locals m:=by
    refine eT vg.ns fun m1 ob es ep ho nv _=>?_
    refine bG nv fun hd r=>?_
    refine al (m2.slot ho vg.no fun q=>Fc ((jM _).mp q)) fun sl e2=>?_
    exact⟨m1,_,es,ep,e2,hd,r⟩
   have OG:s'.heap.Ns ja.objs.size mm:=ua
   unfold tB
   rw[jw (env:=jP scope (g6 env scope.names []) ja.objs.size env) tU]
   refine OQ mu (tU.trans hF) (by unfold wx at uj ⊢;rw[tU];exact uj) mt O K2 (WC.make.iR.IV m' z) fun h3 z3 m3 O3 K3 u3=>?_
   show ∃m,cf.Ns h3 ja.objs.size m∧_
   have xO:=Ns.upTo OG u3
   refine⟨mm,xO,fun h4 hs=>?_⟩
   have fk:∀b o,b≠ja.objs.size→h3.get? b=some o→h4.get? b=some o:=fun b o e1 e2=>(hs.2 b e1).trans e2
   have tk:∀{a:aD}{items:Array ai},dq h3 a items→dq h4 a items:=fun{a items} t=>by
    have:=vH xO t
    refine aq t fun o ho r=>?_
    clear t
    exact⟨o,fk _ _ this ho,r⟩
   have Yv:¬iU bD ja.objs.size:=fun q=>by
    refine bG lv fun l1 tO=>?_
    clear lv
    refine al tO fun ob l2=>?_
    rcases m2.fresh q with q | q
    ·exact l1 q
    ·rw[show gp.get? ja.objs.size=some ob from l2] at q;exact nS (fZ q)
   have RL:c.hb.get? ja.objs.size=none:=by
    cases q:c.hb.get? ja.objs.size with
    |none=>rfl
    |some o=>rw[I.h.base _ _ q] at v5;exact nS (fZ v5)
   have m4:=m3.s4 NS fk
   have O4:=O3.off fk Yv RL tk
   have K4:=K3.off fk PM
   have z4:iR c h₀ h4 bD e (some (ib F)):=by
    obtain⟨a1,a2,a3,oe,vs,a0,a4,a5,a6,a7,T,oT,ts,b1,b2,b3,b4,b5,b6,b7,b8⟩:=z3
    have ne:∀{x:aD}{ox:ow}{ws:Array ai},h3.get? x=some ox→ox.data=.fields ws→x≠ja.objs.size:=fun{x ox ws} e1 e2 q=>by
     refine eC xO fun o4 es ep XC jZ=>?_
     clear xO
     refine bG jZ fun ZD _=>?_
     rw[q,XC] at e1;replace e1:=ae e1;subst e1;rw[ZD] at e2;cases e2
    exact⟨a1,a2,a3,oe,vs,a0,fk _ _ (ne a4 a6) a4,a5,a6,a7,T,oT,ts,b1,b2,fk _ _ (ne b3 b4) b3,b4,b5,b6,b7,b8⟩
   have WT:=z4
   obtain⟨_,_,_,oe,vs,a0,c4,c5,c6,c7,T,oT,ts,d1,_⟩:=WT
   show bj c.M A (PySem.passOn "comprehension.variables-let-go" (.ref e) (jP scope (g6 env scope.names []) ja.objs.size env)) _ _ _
   unfold PySem.passOn
   refine ak (g9 (s:={ s' with heap:=h4 }) c4 c6 d1 ?_)
   rw[if_neg (by simp)]
   refine ak (pR (s:={ s' with heap:=h4 }) (fr:=env.frame) mu m4 O4 K4 z4 fun h5 z5 m5 O5 K5 u5=>?_)
   refine Md ?_
   rw[hF] at z5
   refine⟨e,_,bD,H',rfl,.inr (.inr ⟨F,hF,rfl⟩),z5,drop m5,O5,K5,hX,m1,Ns.upTo ?_ u5⟩
   refine eC (Ns.upTo WJ u3) fun o3 es ep wD r=>?_
   exact⟨o3,es,ep,fk _ _ Fc wD,r⟩
 exact codeAny_compStart_list loop (it.self ⟨x,px,.inl ⟨x,px,rfl⟩⟩ _ _ jy loop)
end
end
section
open PySem PySem.W PySem.Calls PyProof.Rows
section
variable {c:Cx}{d:Nat}{A:aU}{env:dI}{l l':Loc}{α bD ct:Am}{h h' h₀:cf}{H H':List ag}{s s':aH}
variable {Q:AV→List ag→Prop}{QB:Bool→List ag→Prop}{X:List ag→Prop}{pos:ij}{own own':aD→Prop}{QU:Loc→List ag→Prop}{kp:Nat}{SQ:AF→Loc→List ag→Prop}
inductive tu (c:Cx) (d:Nat) (A:aU) (oK:Expr) (qX:List Expr) (lc:Loc) (dP:List (bu×bc)) (X:List ag→Prop) (fin:List AV→List ag→Prop) (xs:List AV) (gE:List ag→Prop) (H:List ag):Prop
 |mk (J:Nat→List AV→List ag→Prop) (j0:J 0 [] (H++[.list []])) (hJ:∀i acc H',J i acc H'→gE H'∧H'[H.length]?=some (.list acc)∧acc.length≤1000000)
  (step:∀cenv i v acc H',cenv.scope.names=dP→xs[i]?=some v→J i acc H'→BY c d A cenv qX (lc.set 1 (some v)) H' (fun ok yq=>if ok then
   WE c d A cenv oK (lc.set 1 (some v)) yq (fun a H3=>H3[H.length]?=some (.list acc)∧acc.length≤1000000∧J (i+1) (acc++[a]) (H3.set H.length (.list (acc++[a])))) X else J (i+1) acc yq) X)
  (fin:∀acc H',J xs.length acc H'→fin acc H')
theorem nE.Qx {scope:nR}{x:bu}{lc:Loc}{dP:List (bu×bc)}(K:nE env l scope x lc dP) (I:Inv c d A env l α H s):Cm scope env=pure (g6 env scope.names []):=by
 refine wj fun y hy=>?_
 obtain⟨i,hi⟩:=eO.mp hy
 refine aq (K.free i y hi) fun j hj _=>?_
 refine cD (I.f.cl hj (.inl rfl)) fun b' ov e1 _=>?_
 exact⟨b',e1⟩
theorem WE.Gm {oK iter:Expr}{qX:List Expr}{scope:nR}{x:bu}{px:ij}{lc:Loc}{dP:List (bu×bc)}(K:nE env l scope x lc dP) (hs:∀x,gA iter env x=pure x)
  (w:WI kp c d A env xQ iter l H (fun xs gE H1=>tu c d A oK qX lc dP X (fun _ H'=>Q (.obj H1.length) H') xs gE H1) X):WE c d A env (.ListComp oK [⟨.Name x px,iter,qX,0⟩] scope pos) l H Q X:=fun α s I=>by
 rw[eval_ListComp]
 refine sA (use:=none) rfl hs (K.Qx I) K.kind K.loc (au (w α s I) (fun v bf p=>au p (fun XE cY p=>?_) fun _ _ e=>e) fun _ _ e=>e)
 obtain⟨I₀,St,xs,gE,H₁,aP,rfl,it,hm,cB,jy,th,no,q⟩:=p
 obtain⟨J,Oi,hJ,step,fin⟩:=q
 refine uY K J hJ step it hm cB jy th no Oi fun bD H' s' acc C D h1 h2 h3 h4 h5 h6 h7 h8 cenv hC=>?_
 subst hC
 obtain⟨mm,hn⟩:=h6
 refine⟨mm,hn,fun pG hs=>?_⟩
 obtain⟨m',I'⟩:=h1 pG hs
 exact⟨.obj H₁.length,bD,H',m',I',yi h5,fin _ _ h4⟩
theorem ER {x:bu}{a:AV}{v:ai}{P:Unit→aH→Prop}{E:ai→aH→Prop}(i:Nat) (hn:env.scope.names[i]?=some (x,.local)) (hi:i<l.length) (I:Inv c d A env l α H s) (r:bM c s.heap α a v)
  (k:∀h',dz env.locals s.heap h'→bO A (cz env) α s.heap α h'→Inv c d A env (l.set i (some a)) α H { s with heap:=h',toks:=s.toks+1 }→P () { s with heap:=h',toks:=s.toks+1 }):bj c.M A (p9 env x v) P E s:=by
 refine aq I.f.ns fun m hm hr=>?_
 refine JC (cX I.e.nodup hn) hm (fun h' ua hs=>?_) (by rw[I.e.kind];rfl)
 have w0:bO A (cz env) α s.heap α h':=nG hs (.inl rfl) (RI ua)
 have O:gu c h' α H:=I.h.same w0 I.solid I.k I.hw fun b o ad e=>(hs.2 b fun q=>I.f.no (q▸ad)).trans e
 refine k h' hs w0 (I.next (s':={ s with heap:=h',toks:=s.toks+1 }) w0 O ⟨⟨_,ua,fun{j y w} e1 e2=>?_⟩,fun{j y k} e1 hk=>?_,I.f.no,I.f.new⟩)
 ·by_cases hj:j=i
  ·subst hj
   rw[hn] at e1;cases e1
   rw[ew hi] at e2
   cases e2
   exact⟨v,by simp,r.mono w0 I.h I.solid⟩
  ·rw[cO (fun q=>hj q.symm)] at e2
   refine aq (hr e1 e2) fun val q1 q2=>?_
   have X7:y≠x:=fun q=>hj (sj I.e.nodup (q▸e1) hn)
   exact⟨val,by simp[X7,q1],q2.mono w0 I.h I.solid⟩
 ·refine eH (I.f.cl e1 hk) fun b ov e2 o ho hd n1 n2 QW=>?_
  refine⟨b,ov,e2,⟨o,(hs.2 b (I.e.B4 e2)).trans ho,hd⟩,n1,n2,fun{w} e3=>?_⟩
  have hj:i≠j:=fun q=>by
   subst q;rw[hn] at e1;cases e1
   rcases hk with hk | hk<;>cases hk
  rw[cO hj] at e3
  refine aq (QW e3) fun val q1 q2=>?_
  exact⟨val,q1,q2.mono w0 I.h I.solid⟩
theorem WX.K7 {y:bu}{py uR:ij}{oK iter:Expr}{qX:List Expr}{scope:nR}{x:bu}{px:ij}{lc:Loc}{dP:List (bu×bc)}(K:nE env l scope x lc dP) (hs:∀x,gA iter env x=pure x)
  (YO:lG (.ListComp oK [⟨.Name x px,iter,qX,0⟩] scope pos) (some (.Name y py)) uR.line env=pure true) (i:Nat) (hn:env.scope.names[i]?=some (y,.local)) (hi:i<l.length)
  (w:WI kp c d A env xQ iter l H (fun xs gE H1=>tu c d A oK qX lc dP X (fun _ H'=>SQ .next (l.set i (some (.obj H1.length))) H') xs gE H1) X):WX c d A env (.Assign [.Name y py] (.ListComp oK [⟨.Name x px,iter,qX,0⟩] scope pos) uR) l H SQ X:=fun α s I=>by
 rw[exec_Assign_Name_used _ _ _ _ YO]
 refine ak (iB (ak ?_))
 show bj _ A (do let _ ←EY (.ListComp oK [⟨.Name x px,iter,qX,0⟩] scope pos) scope env _ (newList []) false (gr iter env) (some (iL (.Name y py) env))) _ _ s
 refine ak (au (sA (use:=some (iL (.Name y py) env)) (Q:=fun _ s'=>te c d A env α s.heap SQ .next s') rfl hs (K.Qx I) K.kind K.loc (au (w α s I) (fun v bf p=>au p (fun XE cY p=>?_) fun _ _ e=>e) fun _ _ e=>e)) (fun _ s' hq=>aQ (aQ hq)) fun _ _ e=>e)
 obtain⟨I₀,St,xs,gE,H₁,aP,rfl,it,hm,cB,jy,th,no,q⟩:=p
 obtain⟨J,Oi,hJ,step,fin⟩:=q
 refine uY K J hJ step it hm cB jy th no Oi fun bD H' s' acc C D h1 h2 h3 h4 h5 h6 h7 h8 cenv hC=>?_
 subst hC
 obtain⟨mm,N5⟩:=h6
 have Fc:env.locals≠cenv.locals:=fun q=>by
  refine eT cB.f.ns fun _ o _ _ ho _ _=>?_
  rw[q,h7] at ho;exact nS ho
 have qF:∀(i:Nat) y k b,env.scope.names[i]?=some (y,k)→xR k→env.cells.lookup y=some b→b≠cenv.locals:=fun i y k b e1 e2 e3 q=>by
  refine gN (cB.f.cl e1 e2) fun b' ov e4 o ho _ _=>?_
  rw[e3] at e4;replace e4:=ae e4;subst e4
  rw[q,h7] at ho;exact nS ho
 have PM:¬AI A cenv.locals:=fun q=>by
  refine i9 (cB.k.none q) fun _ _ o ho _=>?_
  rw[h7] at ho;exact nS ho
 have RL:c.hb.get? cenv.locals=none:=by
  cases q:c.hb.get? cenv.locals with
  |none=>rfl
  |some o=>rw[cB.h.base _ _ q] at h7;exact nS (fZ h7)
 have h0C:s.heap.get? cenv.locals=none:=hm.gone h7
 show bj c.M A (iL (.Name y py) env (.ref D)) _ _ _
 refine Rr (ER (a:=.obj H₁.length) i hn hi h3 (yi h5) fun e8 CB cW vf=>?_)
 have S1:e8.Ns cenv.locals mm:=N5.sameBut CB (gS Fc)
 refine⟨mm,S1,fun r6 U1=>?_⟩
 have fk:∀b o,b≠cenv.locals→e8.get? b=some o→r6.get? b=some o:=fun b o e1 e2=>(U1.2 b e1).trans e2
 have tk:∀{a:aD}{items:Array ai},dq e8 a items→dq r6 a items:=fun{a items} t=>by
  have:=vH S1 t
  refine aq t fun o ho r=>?_
  clear t
  exact⟨o,fk _ _ this ho,r⟩
 exact⟨.next,_,bD,H',(h2.trans cW).s4 h0C fk,⟨I.ok,I.e,I.r,I.top,vf.h.off fk h8 RL tk,vf.f.N0 fk tk Fc qF,vf.k.off fk PM⟩,rfl,fin _ _ h4⟩
end
end
section
open PySem PySem.W PySem.Calls PyProof.Rows
section
variable {c:Cx}{d:Nat}{A:aU}{env:dI}{l l':Loc}{α bD ct:Am}{h h' h₀:cf}{H H':List ag}{s s':aH}
variable {Q:AV→List ag→Prop}{QB:Bool→List ag→Prop}{X:List ag→Prop}{pos:ij}{own own':aD→Prop}{QU:Loc→List ag→Prop}{kp:Nat}{SQ:AF→Loc→List ag→Prop}
theorem zM {n:Nat}{kvs:List (Int×AV)}{k:Int}{a:AV}{p:aD×aD}{t:Tok}{v:ai}{P:Unit→aH→Prop}{E:ai→aH→Prop}(e:H[n]?=some (.dict kvs)) (hz:kvs.length≤1000000) (e3:α[n]?=some p) (I:Inv c d A env l α H s) (rv:bM c s.heap α a v)
  (q:∀s',bO A (cz env) α s.heap α s'.heap→Inv c d A env l α (H.set n (.dict (ml k a kvs))) s'→P () s'):bj c.M A (dictSet p.1 (.int k t) v) P E s:=by
 obtain⟨kv,hd,dr,e2,hm⟩:=I.h.cell e e3
 refine wpAny_dictSet_pairs (nO _ _ _ _) hd (fun h' qz hs=>?_) (by rw[dr.length,cx];exact ca hz rfl)
 have ha:∃o,h'.get? p.1=some o:=RI qz
 have m0:bO A iQ α s.heap α h':=kq (oL e3).1 hs ha
 obtain⟨m,I'⟩:=I.upd (s':={ s with heap:=h',toks:=s.toks+1 }) (x:=.dict (ml k a kvs)) e3 (.inl rfl) hs ha
  ⟨_,qz,(de.put (rv.mono m0 I.h (eM.no _)) (dr.mono m0 I.h (eM.no _))),e2,hm⟩
 exact q _ m I'
theorem BS {kx vx iter:Expr}{qX:List Expr}{scope:nR}{x:bu}{px:ij}{xs:List AV}{gE:List ag→Prop}{I₀ D:aD}{St:Nat→Am→cf→Prop}{lc:Loc}{nD:Nat}{R:sP→aH→Prop}{envO:dI}{lO:Loc}
  (it:E5 kp c d A xQ xs gE I₀ St) (J:Nat→List (Int×AV)→List ag→Prop) (hJ:∀i acc H',J i acc H'→gE H'∧H'[nD]?=some (.dict acc)∧acc.length≤1000000)
  (step:∀i v acc H',xs[i]?=some v→J i acc H'→BY c d A env qX (lc.set 1 (some v)) H' (fun ok yq=>if ok then
   WE c d A env kx (lc.set 1 (some v)) yq (fun a H3=>∃k,a=.int k∧WE c d A env vx (lc.set 1 (some v)) H3 (fun b H4=>H4[nD]?=some (.dict acc)∧acc.length≤1000000∧J (i+1) (ml k b acc) (H4.set nD (.dict (ml k b acc)))) X) X else J (i+1) acc yq) X)
  (hx:env.scope.names[1]?=some (x,.local)) (hl:1<lc.length){own₀:aD→Prop}(Pu:own₀ env.locals∧own₀ I₀) (jM:∀b,cz env b↔b=env.locals) (rE:h₀.get? I₀=none) (no:¬cz env I₀)
  (I:Inv c d A env lc α H s) (m:bO A own₀ ct h₀ α s.heap) (st:St 0 α s.heap) (j0:J 0 [] H) (Y3:envO.locals≠env.locals) (ZV:∀(i:Nat) x k b,envO.scope.names[i]?=some (x,k)→xR k→envO.cells.lookup x=some b→b≠env.locals) (fO:pk c envO s.heap α lO) (hD:α[nD]?=some (D,D))
  (hR:∀bD H' s' MW acc,bO A own₀ ct h₀ bD s'.heap→Inv c d A env MW bD H' s'→pk c envO s'.heap bD lO→J xs.length acc H'→bD[nD]?=some (D,D)→R (.ok .next) s')
  (hE:∀aP (gp:cf) y s',bO A own₀ ct h₀ aP gp→pk c envO gp aP lO→(¬iU aP env.locals∧∃o,gp.get? env.locals=some o)→kG c A env aP gp X y s'→tB c.M A env (fun e s'=>R (.error e) s') y s') :
  ic c.M A (.compLoop (.DictComp kx vx [⟨.Name x px,iter,qX,0⟩] scope pos) 0 (.ref I₀) (.ref D) env) R s:=by
 have Jy:∀{aP bE:Am}{gp e8:cf},bO A (cz env) aP gp bE e8→bO A own₀ aP gp bE e8:=fun m=>m.nT fun b q=>(jM b).mp q▸Pu.1
 have kO:∀{aP bE:Am}{gp e8:cf}{H₁:List ag},pk c envO gp aP lO→gu c gp aP H₁→eM gp (cz env)→bO A (cz env) aP gp bE e8→pk c envO e8 bE lO:=fun f O S m=>f.keep m O S (fun q=>Y3 ((jM _).mp q)) fun i x k b e1 e2 e3 q=>ZV i x k b e1 e2 e3 ((jM _).mp q)
 refine codeAny_compLoop_testsD (FA c d A env lc own₀ ct h₀ xs.length St J nD D envO lO)
  (fun n bf p=>?_) xs.length ⟨0,lc,α,H,[],rfl,cR _,m,I,rfl,st,j0,hD,fO⟩
 obtain⟨i,rd,aP,H₁,acc,rfl,hi,b0,bp,Tu,mK,xT,zH,vg⟩:=p
 refine bQ (hJ _ _ _ xT) fun nI se hz=>?_
 have Qe:1<rd.length:=by
  have:=congrArg m8 Tu
  rw[dH,dH] at this
  exact EK this (i0 hl)
 by_cases iS:i<xs.length
 ·have Ow:xs[i]?=some xs[i]:=aw iS
  refine it.item (.inl ⟨x,px,rfl⟩) Ow bp no nI mK _ _ fun v cY go=>?_
  dsimp only
  rw[←pure_bind () (fun _:Unit=>iL (.Name x px) env v)]
  refine(show bj c.M A (mC (.Name x px) (.ref I₀) v >>= fun _=>iL (.Name x px) env v) _ _ cY from ak (go _ (fun hZ NM gX fP IY w5=>?_) _))
  have Hc:pk c envO hZ.heap aP lO:=vg.off NM (it.ok mK).at_
  have T6:=b0.trans (gX.nT (own':=own₀) fun b q=>q.elim (fun q=>(jM b).mp q▸Pu.1) fun q=>q▸Pu.2)
  refine au (WU.aName (x:=x) (p:=px) (a:=xs[i]) (QU:=fun l' H'=>l'=lc.set 1 (some xs[i])∧H'=H₁) (X:=X) (l:=rd) (H:=H₁) (d:=d) (WU.stLoc 1 hx Qe ⟨?_,rfl⟩) aP hZ [v] fP (eD IY jD)) (fun _ n7 ⟨N1,rJ,FJ,km,jT,e1,e2⟩=>?_) fun y s' z=>hE _ _ y s' T6 Hc fP.f.tn z
  ·have:(rd.set 1 none).set 1 (some xs[i])=(lc.set 1 none).set 1 (some xs[i]):=by rw[Tu]
   rwa [lL,lL] at this
  subst e1 e2
  have SU:=T6.trans (Jy km)
  have zz:=it.mono w5 fP.h fP.solid no km.toM
  have He:=kO Hc fP.h fP.solid km
  refine au (step i _ acc _ Ow xT rJ n7 jT) (fun ok A1 eS=>?_) fun y s' z=>hE _ _ y s' SU He jT.f.tn z
  obtain⟨mX,zr,pW,lp,HO⟩:=eS
  have Qf:=SU.trans (Jy pW)
  have uD:=it.mono zz jT.h jT.solid no pW.toM
  have BE:=kO He jT.h jT.solid pW
  have zg:mX[nD]?=some (D,D):=pW.pre (km.pre zH)
  have Hp:(lc.set 1 (some xs[i])).set 1 none=lc.set 1 none:=by rw[lL]
  cases ok with
  |false=>
   exact⟨xs.length-(i+1),by exact wm iS,i+1,_,mX,zr,acc,rfl,iS,Qf,lp,Hp,uD,HO,zg,BE⟩
  |true=>
   refine au (HO mX A1 lp) (fun y Lh p=>?_) fun y s' z=>hE _ _ y s' Qf BE lp.f.tn z
   obtain⟨a,ta,Bq,tK,nX,OJ,k,rfl,ES⟩:=p
   obtain⟨t,rfl⟩:=OJ.int
   have UK:=Qf.trans (Jy tK)
   have wN:=it.mono uD lp.h lp.solid no tK.toM
   have Hn:=kO BE lp.h lp.solid tK
   have C2:=tK.pre zg
   refine au (ES ta Lh nX) (fun y Wb p=>?_) fun y s' z=>hE _ _ y s' UK Hn nX.f.tn z
   obtain⟨b,Gs,Zg,xY,Bm,TC,q1,q2,q3⟩:=p
   have Yp:=UK.trans (Jy xY)
   have Gq:=it.mono wN nX.h nX.solid no xY.toM
   have PH:=kO Hn nX.h nX.solid xY
   have M5:=xY.pre C2
   refine zM (p:=(D,D)) q1 q2 M5 Bm TC fun aal Oh Zp=>?_
   have m18:=Yp.trans (Jy Oh)
   have U0:=it.mono Gq Bm.h Bm.solid no Oh.toM
   have Y8:=kO PH Bm.h Bm.solid Oh
   exact⟨xs.length-(i+1),by exact wm iS,i+1,_,Gs,_,ml k b acc,rfl,iS,m18,Zp,Hp,U0,q3,M5,Y8⟩
 ·obtain rfl:i=xs.length:=by exact aW [_,_] [] [.L aB aM,.N (.T aB aM)] (.E aB aM) (.o cK cN) rfl hi iS
  refine it.done bp no nI mK _ _ fun cY Ab cB=>?_
  exact hR aP H₁ cY rd acc (b0.s4 rE Ab) cB (vg.off Ab (it.ok mK).at_) xT zH
theorem zQ {kx vx iter:Expr}{qX:List Expr}{scope:nR}{uR:ij}{x:bu}{px:ij}{lc:Loc}{dP:List (bu×bc)}{xs:List AV}{gE:List ag→Prop}{I₀:aD}{St:Nat→Am→cf→Prop}{P:ai→aH→Prop}{use:Option (ai→rU Unit)}
  (K:nE env l scope x lc dP) (J:Nat→List (Int×AV)→List ag→Prop) (hJ:∀i acc H',J i acc H'→gE H'∧H'[H.length]?=some (.dict acc)∧acc.length≤1000000)
  (step:∀cenv i v acc H',cenv.scope.names=dP→xs[i]?=some v→J i acc H'→BY c d A cenv qX (lc.set 1 (some v)) H' (fun ok yq=>if ok then
   WE c d A cenv kx (lc.set 1 (some v)) yq (fun a H3=>∃k,a=.int k∧WE c d A cenv vx (lc.set 1 (some v)) H3 (fun b H4=>H4[H.length]?=some (.dict acc)∧acc.length≤1000000∧J (i+1) (ml k b acc) (H4.set H.length (.dict (ml k b acc)))) X) X else J (i+1) acc yq) X)
  (it:E5 kp c d A xQ xs gE I₀ St) (m:bO A (cz env) ct h₀ α s.heap) (I:Inv c d A env l α H s) (st:St 0 α s.heap) (rE:h₀.get? I₀=none) (no:¬cz env I₀) (j0:J 0 [] (H++[.dict []]))
  (hR:∀bD H' s' acc C D,(∀pG,dz C s'.heap pG→bO A (cz env) ct h₀ bD pG∧Inv c d A env l bD H' { s' with heap:=pG })→bO A (cz env) ct h₀ bD s'.heap→Inv c d A env l bD H' s'→J xs.length acc H'→bD[H.length]?=some (D,D)→(∃m,s'.heap.Ns C m)→s.heap.get? C=none→¬iU bD C →
   ∀cenv:dI,cenv.locals=C→uv c.M A (kG c A env ct h₀ X) use P (.ref D) cenv (.ok .next) s') :
  bj c.M A newDict (fun acc hZ=>bj c.M A (Cn scope env.globals (g6 env scope.names []) [] env.qual none .none (some env)) (fun cenv n7=>
   ic c.M A (.compStart (.DictComp kx vx [⟨.Name x px,iter,qX,0⟩] scope uR) 0 (.ref I₀) acc { cenv with scope:=gB scope env }) (uv c.M A (kG c A env ct h₀ X) use P acc { cenv with scope:=gB scope env }) n7) (kG c A env ct h₀ X) hZ) (kG c A env ct h₀ X) s:=by
 have Bi:=it.ok st
 refine eL ?_
 have kT:s.heap.objs.size≠gh:=fun q=>by
  have h1:s.heap.Ns cStatics _:=(I.ok.T.nolimit.keeps I.h.base).choose_spec.1
  have:=h1.lt
  rw[q] at this
  exact absurd this (by decide)
 obtain⟨b0,bp⟩:=I.alloc (s':={ s with heap:=s.heap.push { cls:=.type "dict",data:=.dict #[] } }) (p:=(s.heap.objs.size,s.heap.objs.size)) (x:=.dict []) gf bR bR
  ⟨[],⟨_,#[],0,aX _ rfl,⟨rfl,rfl,rfl⟩,rfl,fun e he=>by simp at he,.nil,gF⟩,rfl,rfl,by simpa using kT⟩
 have hD:(α++[(s.heap.objs.size,s.heap.objs.size)])[H.length]?=some (s.heap.objs.size,s.heap.objs.size):=by rw[←I.h.len];simp
 have mK:=it.mono st I.h I.solid no b0.toM
 refine Mc K.BZ (by intro y hy;simp at hy) (fun e8 ua U4=>?_) K.kind
 dsimp only at ua U4 ⊢
 generalize Zf:s.heap.push { cls:=.type "dict",data:=.dict #[] }=ja at *
 have Yj:s.heap.objs.size≤ja.objs.size:=by rw[←Zf,gK];exact bX _
 have Zt:ja.get? ja.objs.size=none:=bR
 have v5:s.heap.get? ja.objs.size=none:=gk Yj
 have hk:∀b o,ja.get? b=some o→e8.get? b=some o:=fun b o e=>(U4.2 b (bV (bU e))).trans (aT _ e)
 obtain⟨cB,jM⟩:=yZ (s:={ s with heap:=ja }) K bp Zt hk ua
 obtain⟨cW,vf⟩:=bp.grow (s':={ s with heap:=e8 }) hk
 have jy:=it.mono mK bp.h bp.solid no cW.toM
 have Wo:I₀≠ja.objs.size:=fun q=>by
  refine cD Bi.at_ fun o vs ho _=>?_
  rw[q,v5] at ho;exact nS ho
 have XQ:¬cz (jP scope (g6 env scope.names []) ja.objs.size env) I₀:=fun q=>Wo ((jM _).mp q)
 have Fc:env.locals≠ja.objs.size:=fun q=>by
  refine eT I.f.ns fun mm o _ _ ho _ _=>?_
  rw[q,v5] at ho;exact nS ho
 have X6:bO A (cz env) ct h₀ (α++[(s.heap.objs.size,s.heap.objs.size)]) e8:=(m.trans b0).trans cW
 have qF:∀(i:Nat) y k b,env.scope.names[i]?=some (y,k)→xR k→env.cells.lookup y=some b→b≠ja.objs.size:=fun i y k b e1 e2 e3 q=>by
  refine gN (I.f.cl e1 e2) fun b' ov e4 o ho _ _=>?_
  rw[e3] at e4;replace e4:=ae e4;subst e4
  rw[q,v5] at ho;exact nS ho
 have NS:h₀.get? ja.objs.size=none:=m.gone v5
 have PM:¬AI A ja.objs.size:=fun q=>by
  refine i9 (I.k.none q) fun _ _ o ho _=>?_
  rw[v5] at ho;exact nS ho
 have drop:∀{fe:Am}{r6:cf},bO A (fun b=>cz env b∨b=ja.objs.size∨b=I₀) ct h₀ fe r6→bO A (cz env) ct h₀ fe r6:=fun m=>m.drop fun b o q n e=>by
  rcases q with q | q | q
  ·exact n q
  ·rw[q,NS] at e;exact nS e
  ·rw[q,rE] at e;exact nS e
 have loop:ic c.M A (.compLoop (.DictComp kx vx [⟨.Name x px,iter,qX,0⟩] scope uR) 0 (.ref I₀) (.ref s.heap.objs.size) (jP scope (g6 env scope.names []) ja.objs.size env)) (uv c.M A (kG c A env ct h₀ X) use P (.ref s.heap.objs.size) (jP scope (g6 env scope.names []) ja.objs.size env)) { s with heap:=e8 }:=by
  refine BS (envO:=env) (lO:=l) (own₀:=fun b=>cz env b∨b=ja.objs.size∨b=I₀) it J hJ (fun i v acc H' hx hj=>step _ i v acc H' K.names hx hj) (K.names▸K.tgt) K.lcl ⟨.inr (.inl rfl),.inr (.inr rfl)⟩ jM rE XQ cB (X6.nT fun b q=>.inl q) jy j0 Fc qF vf.f hD (fun bD H' s' MW acc m' I' f' j' Xz=>?_) fun aP gp y s' m' vg lv z=>?_
  ·have fk:∀{pG},dz ja.objs.size s'.heap pG→∀b o,b≠ja.objs.size→s'.heap.get? b=some o→pG.get? b=some o:=fun hs b o e1 e2=>(hs.2 b e1).trans e2
   obtain⟨mm,N5⟩:∃m,s'.heap.Ns ja.objs.size m:=I'.f.ns.imp fun _ z=>z.1
   have Ie:Inv c d A env l bD H' s':=⟨I.ok,I.e,I.r,I.top,I'.h,f',I'.k⟩
   refine hR bD H' s' acc ja.objs.size s.heap.objs.size (fun pG hs=>?_) (drop m') Ie j' Xz ⟨mm,N5⟩ v5 I'.f.no _ rfl
   have tk:∀{a:aD}{items:Array ai},dq s'.heap a items→dq pG a items:=fun{a items} t=>by
    have:=vH N5 t
    refine aq t fun o ho r=>?_
    clear t
    exact⟨o,fk hs _ _ this ho,r⟩
   exact⟨drop (m'.s4 NS (fk hs)),I.ok,I.e,I.r,I.top,I'.h.off (fk hs) I'.f.no I'.f.new tk,f'.N0 (fk hs) tk Fc qF,I'.k.off (fk hs) PM⟩
  ·obtain⟨e,fl,bD,H',rfl,uj,z,m2,O,K2,hX,mm,ua⟩:=z
   refine cD I.top fun en o mu tU=>?_
   obtain⟨F,hF⟩:=I.e.frame
   have mt:=m'.trans (m2.nT (own':=fun b=>cz env b∨b=ja.objs.size∨b=I₀) fun b q=>.inr (.inl ((jM b).mp q)))
   obtain⟨m1,WJ⟩:∃m,s'.heap.Ns env.locals m:=by
    refine eT vg.ns fun m1 ob es ep ho nv _=>?_
    refine bG nv fun hd r=>?_
    obtain⟨sl,e2⟩:=m2.slot ho vg.no fun q=>Fc ((jM _).mp q)
    exact⟨m1,_,es,ep,e2,hd,r⟩
   have OG:s'.heap.Ns ja.objs.size mm:=ua
   unfold tB
   rw[jw (env:=jP scope (g6 env scope.names []) ja.objs.size env) tU]
   refine OQ mu (tU.trans hF) (by unfold wx at uj ⊢;rw[tU];exact uj) mt O K2 (WC.make.iR.IV m' z) fun h3 z3 m3 O3 K3 u3=>?_
   show ∃m,cf.Ns h3 ja.objs.size m∧_
   have xO:=Ns.upTo OG u3
   refine⟨mm,xO,fun h4 hs=>?_⟩
   have fk:∀b o,b≠ja.objs.size→h3.get? b=some o→h4.get? b=some o:=fun b o e1 e2=>(hs.2 b e1).trans e2
   have tk:∀{a:aD}{items:Array ai},dq h3 a items→dq h4 a items:=fun{a items} t=>by
    have:=vH xO t
    refine aq t fun o ho r=>?_
    clear t
    exact⟨o,fk _ _ this ho,r⟩
   have Yv:¬iU bD ja.objs.size:=fun q=>by
    refine bG lv fun l1 tO=>?_
    clear lv
    refine al tO fun ob l2=>?_
    rcases m2.fresh q with q | q
    ·exact l1 q
    ·rw[show gp.get? ja.objs.size=some ob from l2] at q;exact nS (fZ q)
   have RL:c.hb.get? ja.objs.size=none:=by
    cases q:c.hb.get? ja.objs.size with
    |none=>rfl
    |some o=>rw[I.h.base _ _ q] at v5;exact nS (fZ v5)
   have m4:=m3.s4 NS fk
   have O4:=O3.off fk Yv RL tk
   have K4:=K3.off fk PM
   have z4:iR c h₀ h4 bD e (some (ib F)):=by
    obtain⟨a1,a2,a3,oe,vs,a0,a4,a5,a6,a7,T,oT,ts,b1,b2,b3,b4,b5,b6,b7,b8⟩:=z3
    have ne:∀{x:aD}{ox:ow}{ws:Array ai},h3.get? x=some ox→ox.data=.fields ws→x≠ja.objs.size:=fun{x ox ws} e1 e2 q=>by
     refine eC xO fun o4 es ep XC jZ=>?_
     clear xO
     refine bG jZ fun ZD _=>?_
     rw[q,XC] at e1;replace e1:=ae e1;subst e1;rw[ZD] at e2;cases e2
    exact⟨a1,a2,a3,oe,vs,a0,fk _ _ (ne a4 a6) a4,a5,a6,a7,T,oT,ts,b1,b2,fk _ _ (ne b3 b4) b3,b4,b5,b6,b7,b8⟩
   have WT:=z4
   obtain⟨_,_,_,oe,vs,a0,c4,c5,c6,c7,T,oT,ts,d1,_⟩:=WT
   show bj c.M A (PySem.passOn "comprehension.variables-let-go" (.ref e) (jP scope (g6 env scope.names []) ja.objs.size env)) _ _ _
   unfold PySem.passOn
   refine ak (g9 (s:={ s' with heap:=h4 }) c4 c6 d1 ?_)
   rw[if_neg (by simp)]
   refine ak (pR (s:={ s' with heap:=h4 }) (fr:=env.frame) mu m4 O4 K4 z4 fun h5 z5 m5 O5 K5 u5=>?_)
   refine Md ?_
   rw[hF] at z5
   refine⟨e,_,bD,H',rfl,.inr (.inr ⟨F,hF,rfl⟩),z5,drop m5,O5,K5,hX,m1,Ns.upTo ?_ u5⟩
   refine eC (Ns.upTo WJ u3) fun o3 es ep wD r=>?_
   exact⟨o3,es,ep,fk _ _ Fc wD,r⟩
 exact codeAny_compStart_dict loop (it.self ⟨x,px,.inl ⟨x,px,rfl⟩⟩ _ _ jy loop)
inductive NH (c:Cx) (d:Nat) (A:aU) (kx vx:Expr) (qX:List Expr) (lc:Loc) (dP:List (bu×bc)) (X:List ag→Prop) (fin:List (Int×AV)→List ag→Prop) (xs:List AV) (gE:List ag→Prop) (H:List ag):Prop
 |mk (J:Nat→List (Int×AV)→List ag→Prop) (j0:J 0 [] (H++[.dict []])) (hJ:∀i acc H',J i acc H'→gE H'∧H'[H.length]?=some (.dict acc)∧acc.length≤1000000)
  (step:∀cenv i v acc H',cenv.scope.names=dP→xs[i]?=some v→J i acc H'→BY c d A cenv qX (lc.set 1 (some v)) H' (fun ok yq=>if ok then
   WE c d A cenv kx (lc.set 1 (some v)) yq (fun a H3=>∃k,a=.int k∧WE c d A cenv vx (lc.set 1 (some v)) H3 (fun b H4=>H4[H.length]?=some (.dict acc)∧acc.length≤1000000∧J (i+1) (ml k b acc) (H4.set H.length (.dict (ml k b acc)))) X) X else J (i+1) acc yq) X)
  (fin:∀acc H',J xs.length acc H'→fin acc H')
theorem WE.Uh {kx vx iter:Expr}{qX:List Expr}{scope:nR}{x:bu}{px:ij}{lc:Loc}{dP:List (bu×bc)}(K:nE env l scope x lc dP) (hs:∀x,gA iter env x=pure x)
  (w:WI kp c d A env xQ iter l H (fun xs gE H1=>NH c d A kx vx qX lc dP X (fun _ H'=>Q (.obj H1.length) H') xs gE H1) X):WE c d A env (.DictComp kx vx [⟨.Name x px,iter,qX,0⟩] scope pos) l H Q X:=fun α s I=>by
 rw[arm_eval_DictComp]
 refine sA (use:=none) rfl hs (K.Qx I) K.kind K.loc (au (w α s I) (fun v bf p=>au p (fun XE cY p=>?_) fun _ _ e=>e) fun _ _ e=>e)
 obtain⟨I₀,St,xs,gE,H₁,aP,rfl,it,hm,cB,jy,th,no,q⟩:=p
 obtain⟨J,Oi,hJ,step,fin⟩:=q
 refine zQ K J hJ step it hm cB jy th no Oi fun bD H' s' acc C D h1 h2 h3 h4 h5 h6 h7 h8 cenv hC=>?_
 subst hC
 obtain⟨mm,hn⟩:=h6
 refine⟨mm,hn,fun pG hs=>?_⟩
 obtain⟨m',I'⟩:=h1 pG hs
 exact⟨.obj H₁.length,bD,H',m',I',yi h5,fin _ _ h4⟩
end
end
section
open PySem PySem.W PySem.Calls PyProof.Rows
open SeqAt (EqAt RcAt RcNeAt)
inductive gv (H:List ag):Nat→AV→AV→Bool→Prop
 |int (i j:Int):gv H 0 (.int i) (.int j) (i==j)
 |eg (x y:List UInt8):gv H 0 (.eg x) (.eg y) (x==y)
 |YG:gv H 0 .none .none true
 |up {k:Nat}{a b:AV}{r:Bool}(q:gv H k a b r):gv H (k+1) a b r
 |tup {k:Nat}{xs ys:List AV}{e:Nat→Bool}(he:∀(j:Nat) x y,xs[j]?=some x→ys[j]?=some y→gv H k x y (e j)):gv H (k+1) (.tup xs) (.tup ys) ((bh (min xs.length ys.length)).all e&&xs.length==ys.length)
 |lst {k n m:Nat}{xs ys:List AV}{e:Nat→Bool}(h1:H[n]?=some (.list xs)) (h2:H[m]?=some (.list ys)) (hl:xs.length=ys.length) (he:∀(j:Nat) x y,xs[j]?=some x→ys[j]?=some y→gv H k x y (e j)):gv H (k+1) (.obj n) (.obj m) ((bh xs.length).all e)
 |len {k n m:Nat}{xs ys:List AV}(h1:H[n]?=some (.list xs)) (h2:H[m]?=some (.list ys)) (hl:xs.length≠ys.length):gv H (k+1) (.obj n) (.obj m) false
theorem A7 {n:Nat}{e:Nat→Bool}(h:∀j,j<n→e j=true):(bh n).all e=true:=ba.mpr fun j hj=>h j (dg.mp hj)
inductive IM (H:List ag) (k:Nat):List AV→List AV→List Bool→Prop
 |nil:IM H k [] [] []
 |cons {x y:AV}{r:Bool}{xs ys:List AV}{rs:List Bool}(q:gv H k x y r) (qs:IM H k xs ys rs):IM H k (x::xs) (y::ys) (r::rs)
theorem IM.at {H:List ag}{k:Nat}{xs ys:List AV}{rs:List Bool}(q:IM H k xs ys rs):∀(j:Nat) x y,xs[j]?=some x→ys[j]?=some y→gv H k x y (rs[j]?.getD true):=by
 induction q with
 |nil=>exact fun _ _ _ h=>nS h
 |cons q _ ih=>
  intro j x y hx hy
  cases j with
  |zero=>replace hx:=ae hx;subst hx;replace hy:=ae hy;subst hy;exact q
  |succ j=>exact ih j x y hx hy
theorem IM.all {H:List ag}{k:Nat}{xs ys:List AV}{rs:List Bool}(q:IM H k xs ys rs):((bh (min xs.length ys.length)).all (fun j=>rs[j]?.getD true)&&xs.length==ys.length)=rs.all id:=by
 have l1:min xs.length ys.length=rs.length∧xs.length=ys.length:=by
  induction q with
  |nil=>exact⟨rfl,rfl⟩
  |cons _ _ ih=>exact⟨(Nat.succ_min_succ ..).trans (congrArg _ ih.1),congrArg (·+1) ih.2⟩
 rw[l1.1,l1.2,beq_self_eq_true,yS]
 clear q l1
 induction rs with
 |nil=>rfl
 |cons r rs ih=>
  rw[cC,AN,QN,AQ,QN]
  exact congrArg (r&&·) ih
theorem gv.tupS {H:List ag}{k:Nat}{xs ys:List AV}{rs:List Bool}{r:Bool}(q:IM H k xs ys rs) (e:rs.all id=r):gv H (k+1) (.tup xs) (.tup ys) r:=e▸q.all▸.tup q.at
section
variable {c:Cx}{d:Nat}{A:aU}{env:dI}{l l':Loc}{α bD ct:Am}{h h' h₀:cf}{H H':List ag}{s s':aH}
variable {Q:AV→List ag→Prop}{QB:Bool→List ag→Prop}{X:List ag→Prop}{pos:ij}{own own':aD→Prop}{QU:Loc→List ag→Prop}{kp:Nat}{SQ:AF→Loc→List ag→Prop}
theorem Eo {a:aD}{xs ys:Array ai}(t:dq h a xs) (u:dq h a ys):xs=ys:=by
 refine fU t fun o ho _ n hd=>?_
 clear t
 refine fU u fun o' jQ _ n' qz=>?_
 clear u
 rw[ho] at jQ;replace jQ:=ae jQ;subst jQ;rw[hd] at qz;cases qz;rfl
theorem bl.same {xs ys:List AV}{l:List ai}{j:Nat}{x y:AV}(r1:bl c h α xs l) (r2:bl c h α ys l) (hx:xs[j]?=some x) (hy:ys[j]?=some y):∃v,bM c h α x v∧bM c h α y v:=by
 refine aq (r1.get hx) fun v e w=>?_
 refine aq (r2.get hy) fun v' e' w'=>?_
 cases e.symm.trans e'
 exact⟨v,w,w'⟩
theorem bl.iM {xs:List AV}{i1:Array ai}(r1:bl c h α xs i1.toList){j:Nat}(j1:j<i1.size):∃x,xs[j]?=some x∧bM c h α x i1[j]:=by
 have hx:=aw (l:=xs) (i:=j) (r1.length▸j1)
 refine aq (r1.get hx) fun v1 e1 w1=>?_
 cases ((xr j1).symm.trans eK.symm).trans e1
 exact⟨_,hx,w1⟩
theorem gu.FE (O:gu c h α H){n m:Nat}{v:ai}(ra:bM c h α (.obj n) v) (rb:bM c h α (.obj m) v):n=m:=Decidable.byContradiction fun q=>by
 refine aq ra.obj fun p e e1=>?_
 refine aq rb.obj fun p' e' e2=>?_
 exact(O.apart e e' q).1 (ai.ref.inj (e1.symm.trans e2))
theorem gv.uniq (O:gu c h α H){k:Nat}{a b:AV}{r:Bool}(q:gv H k a b r):∀{v:ai},bM c h α a v→bM c h α b v→r=true:=by
 induction q with
 |int i j=>
  intro v ra rb
  obtain⟨t,e⟩:=ra.int
  obtain⟨t',e'⟩:=rb.int
  exact beq_iff_eq.mpr (ai.int.inj (e.symm.trans e')).1
 |eg x y=>
  intro v ra rb
  obtain⟨t,e⟩:=ra.eg
  obtain⟨t',e'⟩:=rb.eg
  exact beq_iff_eq.mpr (congrArg Array.toList (AR (e.symm.trans e')).1)
 |YG=>exact fun _ _=>rfl
 |up _ ih=>exact ih
 |tup he ih=>
  intro v ra rb
  refine aN ra.tup fun a i1 e1 t1 r1=>?_
  refine aN rb.tup fun b i2 e2 t2 r2=>?_
  cases e1.symm.trans e2
  cases Eo t1 t2
  have hl:=r1.length.symm.trans r2.length
  rw[hl,Nat.min_self,beq_self_eq_true,yS]
  exact A7 fun j hj=>(bl.same r1 r2 (aw (hl▸hj)) (aw hj)).elim fun v w=>ih j _ _ (aw _) (aw _) w.1 w.2
 |lst h1 h2 hl he ih=>
  intro v ra rb
  cases O.FE ra rb
  cases h1.symm.trans h2
  refine aL (O.look h1 ra) fun p e1 _ c1=>?_
  refine aq c1.isList fun items hL rs=>?_
  exact A7 fun j hj=>(bl.same rs rs (aw hj) (aw hj)).elim fun v w=>ih j _ _ (aw _) (aw _) w.1 w.2
 |len h1 h2 hl=>
  intro v ra rb
  cases O.FE ra rb
  cases h1.symm.trans h2
  exact absurd rfl hl
theorem EqAt.eg (b c':Array UInt8) (t u:Tok):EqAt A s (.bytes b t) (.bytes c' u) (b.toList==c'.toList):=fun prog w E Q h=>by
 unfold eqBool
 refine cv ?_
 refine qY (fun AJ=>?_) (fun _=>?_)
 ·cases (AR (eq_of_beq AJ)).1
  rw[beq_self_eq_true] at h
  exact ak (Co (aQ h))
 ·exact ak (eq_bytes (iO h))
theorem gv.Xd {a b:aD}{r:Bool}(h:RcAt A s (.ref a) (.ref b) r) (u:a=b→r=true):EqAt A s (.ref a) (.ref b) r:=by
 by_cases AJ:a=b
 ·rw[u AJ,AJ];exact EqAt.same _
 ·exact EqAt.of_refs AJ h
structure Zc (A:aU) (s:aH) (v w:ai) (r:Bool):Prop where
 e:RcAt A s v w r
 n:RcNeAt A s v w (!r)
 q:EqAt A s v w r
theorem gv.done (O:gu c s.heap α H){k:Nat}{a b:AV}{r:Bool}(q:gv H k a b r){v w:ai}{x y:aD}(e1:v=.ref x) (e2:w=.ref y) (ra:bM c s.heap α a v) (rb:bM c s.heap α b w) (rc:RcAt A s (.ref x) (.ref y) r) (rn:RcNeAt A s (.ref x) (.ref y) (!r)):Zc A s v w r:=by
 subst e1
 subst e2
 exact⟨rc,rn,gv.Xd rc fun z=>q.uniq O ra (z▸rb)⟩
theorem gv.els {xs ys:List AV}{i1 i2:Array ai}{e:Nat→Bool}{k:Nat}(hu:A.units+(k+1)<L5) (r1:bl c s.heap α xs i1.toList) (r2:bl c s.heap α ys i2.toList)
  (ih:∀(j:Nat) x y,xs[j]?=some x→ys[j]?=some y→∀{A:aU}{v w:ai},A.units+k<L5→bM c s.heap α x v→bM c s.heap α y w→Zc A s v w (e j)) (j:Nat) (j1:j<i1.size) (j2:j<i2.size):EqAt A.in1 s i1[j] i2[j] (e j):=by
 refine aq (r1.iM j1) fun x hx w1=>?_
 refine aq (r2.iM j2) fun y hy w2=>?_
 exact(ih j x y hx hy (A:=A.in1) (cq (bF (sN _ _ _)) hu) w1 w2).q
theorem gv.run (O:gu c s.heap α H){k:Nat}{a b:AV}{r:Bool}(q:gv H k a b r):∀{A:aU}{v w:ai},A.units+k<L5→bM c s.heap α a v→bM c s.heap α b w→Zc A s v w r:=by
 induction q with
 |int i j=>
  intro A v w hu ra rb
  obtain⟨t,rfl⟩:=ra.int
  obtain⟨t',rfl⟩:=rb.int
  exact⟨RcAt.int_int i t j t',RcNeAt.int_int i t j t',EqAt.int_int i t j t'⟩
 |eg x y=>
  intro A v w hu ra rb
  obtain⟨t,rfl⟩:=ra.eg
  obtain⟨t',rfl⟩:=rb.eg
  exact⟨fun prog w E Q h=>eq_bytes h,fun prog w E Q h=>ne_bytes h,EqAt.eg x.toArray y.toArray t t'⟩
 |YG=>
  intro A v w hu ra rb
  cases ra.none
  cases rb.none
  exact⟨RcAt.none_none,RcNeAt.none_none,EqAt.same _⟩
 |up _ ih=>exact fun hu=>ih (tQ hu)
 |tup he ih=>
  intro A v w hu ra rb
  refine aN ra.tup fun a i1 e1 t1 r1=>?_
  refine aN rb.tup fun b i2 e2 t2 r2=>?_
  have hA:=cq (bC _ _) hu
  have el:=gv.els hu r1 r2 ih
  have rc:=RcAt.tuples t1 t2 hA el
  have rn:=RcNeAt.tuples t1 t2 hA el
  rw[show i1.size=_ from r1.length,show i2.size=_ from r2.length] at rc rn
  exact gv.done O (.tup he) e1 e2 ra rb rc rn
 |lst h1 h2 hl he ih=>
  intro A v w hu ra rb
  refine aL (O.look h1 ra) fun p g1 e1 c1=>?_
  refine aL (O.look h2 rb) fun p' g2 e2 c2=>?_
  refine aq c1.isList fun i1 t1 r1=>?_
  refine aq c2.isList fun i2 t2 r2=>?_
  have hA:=cq (bC _ _) hu
  have el:=gv.els hu r1 r2 ih
  have hz:=r1.length.trans (hl.trans r2.length.symm)
  have rc:=RcAt.lists t1 t2 hz hA el
  have rn:=RcNeAt.lists t1 t2 hz hA el
  rw[show i1.size=_ from r1.length] at rc rn
  exact gv.done O (.lst h1 h2 hl he) e1 e2 ra rb rc rn
 |len h1 h2 hl=>
  intro A v w hu ra rb
  refine aL (O.look h1 ra) fun p g1 e1 c1=>?_
  refine aL (O.look h2 rb) fun p' g2 e2 c2=>?_
  refine aq c1.isList fun i1 t1 r1=>?_
  refine aq c2.isList fun i2 t2 r2=>?_
  have hA:=cq (bC _ _) hu
  have hz:(i1.size != i2.size)=true:=bne_iff_ne.mpr fun z=>hl (r1.length.symm.trans (oA z r2.length))
  exact gv.done O (.len (k:=0) h1 h2 hl) e1 e2 ra rb (RcAt.lists_lengths t1 t2 hz hA) (RcNeAt.lists_lengths t1 t2 hz hA)
theorem vC.Bl (r:vC d A) (hd:1≤d){k:Nat}(hk:k≤8):A.units+k<L5:=by have:=r.units;exact aW [_,_,_] [] [.L bP aB,.L aM (.l 8),.T (.a cg (.m 40 aB)) (.l 9900)] (.T (.a cg aM) (.l 9900)) (.k [1,1,1,40]) rfl hd hk this
theorem WO.Qv {a b:AV}{r:Bool}(k:Nat) (hk:k≤8) (hd:1≤d) (e:gv H k a b r) (q:QB r H):WO c d A env .Eq a b l H QB X:=fun α s v w I ra rb=>
 (gv.run I.h e (I.r.Bl hd hk) ra rb).e c.prog c.w _ _ (I.iV q)
theorem WO.LO {a b:AV}{r:Bool}(k:Nat) (hk:k≤8) (hd:1≤d) (e:gv H k a b r) (q:QB (!r) H):WO c d A env .NotEq a b l H QB X:=fun α s v w I ra rb=>
 (gv.run I.h e (I.r.Bl hd hk) ra rb).n c.prog c.w _ _ (I.iV q)
theorem WO.YN {ys:List AV}(hd:1≤d) (q:QB true H):WO c d A env .NotEq .none (.tup ys) l H QB X:=fun α s v w I ra rb=>by
 cases ra.none
 refine aN rb.tup fun b i2 j4 t2 r2=>?_
 subst j4
 exact RcNeAt.none_tuple t2 (by have:=I.r.Bl hd (k:=1) (by exact(by decide));exact f9 1 this rfl) c.prog c.w _ _ (I.iV q)
theorem WO.eqS {x y:bu}(q:QB (x==y) H):WO c d A env .Eq (.str x) (.str y) l H QB X:=fun α s v w I ra rb=>by
 obtain⟨t,rfl⟩:=ra.str
 obtain⟨u,rfl⟩:=rb.str
 exact RcAt.str_str x t y u c.prog c.w _ _ (I.iV q)
end
end
section
open PySem PySem.W PySem.Calls PyProof.Rows
section
variable {c:Cx}{d:Nat}{A:aU}{env:dI}{l l':Loc}{α bD ct:Am}{h h' h₀:cf}{H H':List ag}{s s':aH}
variable {Q:AV→List ag→Prop}{QB:Bool→List ag→Prop}{X:List ag→Prop}{pos:ij}{own own':aD→Prop}{QU:Loc→List ag→Prop}{kp:Nat}{SQ:AF→Loc→List ag→Prop}
theorem Inv.kX {D:aD}{ws:Array ai}{e:Nat}{as:List AV}(I:Inv c d A env l α H s) (hk:∀b o,s.heap.get? b=some o→s'.heap.get? b=some o) (hn:s.heap.get? D=none)
  (hD:s'.heap.get? D=some ⟨.type "list",none,.seq ws e,#[]⟩) (r:bl c s.heap α as ws.toList) (q:Q (.obj H.length) (H++[.list as])) (zj:gL s'=gL s:=by rfl):pU c d A env l α s.heap Q (.ref D) s':=by
 obtain⟨m,I'⟩:=I.alloc (s':=s') (p:=(D,D)) (x:=.list as) hk hn hn ⟨ws,e,hD,r.carry iY fun t=>t.keeps hk,rfl⟩ zj
 have:(α++[(D,D)])[H.length]?=some (D,D):=by rw[←I.h.len];simp
 exact⟨.obj H.length,_,_,m,I',yi this,q⟩
theorem WV.X9 {n m:Nat}{vs ws:List AV}(e:H[n]?=some (.list vs)) (e':H[m]?=some (.list ws)) (hz:vs.length+ws.length≤1000000) (q:Q (.obj H.length) (H++[.list (vs++ws)])) :
  WV c d A env (fun xs=>fb .Add (xs[0]?.getD .none) (xs[1]?.getD .none)) [.obj n,.obj m] l H Q X:=fun α s xs I rs=>by
 refine aN rs.two fun x y gC rx ry=>?_
 subst gC
 refine aL (I.h.look e rx) fun p e3 iu jX=>?_
 subst iu
 obtain⟨i1,n1,Mn,r1,_⟩:=jX
 refine aL (I.h.look e' ry) fun p' e4 j5 j4=>?_
 subst j5
 obtain⟨i2,n2,CK,r2,_⟩:=j4
 have l1:=r1.length
 have l2:=r2.length
 rw[dw] at l1 l2
 refine wM ⟨_,Mn,rfl⟩ ⟨_,CK,rfl⟩ noFill_list_add seq_list_add PySem.F.slot_list_add PySem.F.entry_list_add (PySem.F.args_list_add_2 _ _) (list_addW p.1 p'.1 i1 i2 n1 n2 _ _ _ _ (by rw[l1,l2,cx];exact ca hz rfl)) ⟨Mn,CK,?_⟩
 have this:bl c s.heap α (vs++ws) (i1++i2).toList:=by rw[Dx];exact r1.append r2
 exact I.kX (s':={ s with heap:=s.heap.push { cls:=.type "list",data:=.seq (i1++i2) } }) (D:=s.heap.objs.size) gf bR (aX _ rfl) this q
theorem WV.ZU {vs ws:List AV}(hz:vs.length+ws.length≤1000000) (q:Q (.tup (vs++ws)) H) :
  WV c d A env (fun xs=>fb .Add (xs[0]?.getD .none) (xs[1]?.getD .none)) [.tup vs,.tup ws] l H Q X:=fun α s xs I rs=>by
 refine aN rs.two fun x y nF rx ry=>?_
 subst nF
 have W4:=rx
 have ry':=ry
 refine aN rx.tup fun a i1 mI t1 r1=>?_
 subst mI
 refine aN ry.tup fun b i2 nv t2 r2=>?_
 subst nv
 have l1:=r1.length
 have l2:=r2.length
 rw[dw] at l1 l2
 refine fU (id t1) fun tO ho hc n hd=>?_
 obtain⟨cls,dd,data,sl⟩:=tO
 refine fU (id t2) fun lC CK YA n2 Sa=>?_
 obtain⟨aak,Yz,data2,Zj⟩:=lC
 simp only at hc hd YA Sa
 subst hc hd YA Sa
 by_cases hv:i1.isEmpty=true
 ·have h0:vs=[]:=by have:i1.size=0:=by simpa using hv
                    exact dE.mp (by exact aW [_,_] [] [.E aB aM,.E aB dF] (.E aM dF) (.o nt rt) rfl l1 this)
  subst h0
  exact wM ⟨_,ho,rfl⟩ ⟨_,CK,rfl⟩ yJ EZ PySem.F.slot_tuple_add PySem.F.entry_tuple_add (PySem.F.args_tuple_add_2 _ _) (tuple_addW0 a b i1 i2 n n2 dd Yz sl Zj hv) ⟨ho,CK,I.done ry' q⟩
 ·by_cases hw:i2.isEmpty=true
  ·have h0:ws=[]:=by have:i2.size=0:=by simpa using hw
                     exact dE.mp (by exact aW [_,_] [] [.E aB aM,.E aB dF] (.E aM dF) (.o nt rt) rfl l2 this)
   subst h0
   rw[cM] at q
   exact wM ⟨_,ho,rfl⟩ ⟨_,CK,rfl⟩ yJ EZ PySem.F.slot_tuple_add PySem.F.entry_tuple_add (PySem.F.args_tuple_add_2 _ _) (tuple_addW1 a b i1 i2 n n2 dd Yz sl Zj hv hw) ⟨ho,CK,I.done W4 q⟩
  ·refine wM ⟨_,ho,rfl⟩ ⟨_,CK,rfl⟩ yJ EZ PySem.F.slot_tuple_add PySem.F.entry_tuple_add (PySem.F.args_tuple_add_2 _ _) (tuple_addW2 a b i1 i2 n n2 dd Yz sl Zj hv hw (by rw[l1,l2,cx];exact ca hz rfl)) ⟨ho,CK,?_⟩
   have this:bl c s.heap α (vs++ws) (i1++i2).toList:=by rw[Dx];exact r1.append r2
   have z:=I.xw (Q:=Q) this q
   rw[kL] at z
   exact z
theorem WV.Xv {x y:bu}(hz:x.length+y.length≤1000000) (q:Q (.str (x++y)) H):WV c d A env (fun xs=>fb .Add (xs[0]?.getD .none) (xs[1]?.getD .none)) [.str x,.str y] l H Q X:=fun α s xs I rs=>by
 refine aN rs.two fun _ _ jZ rx ry=>?_
 subst jZ
 obtain⟨t,rfl⟩:=rx.str
 obtain⟨u,rfl⟩:=ry.str
 exact PyProof.Rows.add_str (fun t' tk=>I.done LA q) (by rw[cx];exact ca hz rfl)
theorem bl.rep {vs:List AV}{ws:List ai}(r:bl c h α vs ws) (k:Nat):bl c h α (bH k vs).flatten (bH k ws).flatten:=by
 induction k with
 |zero=>exact jD
 |succ k ih=>exact r.append ih
theorem WV.mulL {n:Nat}{vs:List AV}{k:Int}(e:H[n]?=some (.list vs)) (hk:k<2^62) (yL : -(2^62)<k) (hz:vs.length*k.toNat≤1000000) (q:Q (.obj H.length) (H++[.list (bH k.toNat vs).flatten])) :
  WV c d A env (fun xs=>fb .Mult (xs[0]?.getD .none) (xs[1]?.getD .none)) [.obj n,.int k] l H Q X:=fun α s xs I rs=>by
 refine aN rs.two fun x y mx rx ry=>?_
 subst mx
 refine aL (I.h.look e rx) fun p e3 qH sG=>?_
 subst qH
 obtain⟨i1,n1,Mn,r1,_⟩:=sG
 obtain⟨u,rfl⟩:=ry.int
 have l1:=r1.length
 rw[dw] at l1
 have kT:i1.size*k.toNat≤2^24:=by rw[l1];exact ca hz rfl
 refine wpAny_binaryOp_repeat_ref (T:="list") (U:="int") (by decide) ⟨_,Mn,rfl⟩ (fun s'=>typeIs_int s' k u) noFill_list_mul F.fills_int_mul Rt repeat_list F.slot_int_index.lookup
  (QL Rt (typeIs_int s k u) F.entry_int_rmul (F.args_int_rmul_2 _ _) (int___rmul___int_list k u p.1 i1 n1)
   ⟨Mn,rfl,⟨_,Mn,rfl⟩,QL F.slot_list_mul ⟨_,Mn,rfl⟩ F.entry_list_mul (F.args_list_mul_2 _ _)
    (AutoListH.list___mul___list_int_3 p.1 i1 n1 k u (by simp[Builtin.List.listFitsIndex];exact aW [] [_] [.t bJ tG,.t (.n tG) bJ] (.A (.l (.n D1) bJ) (.t bJ D1)) (.o cK cN) rfl hk yL) (by exact bL (ca kT rfl)) (by simp[Builtin.List.listTooLong,nP];exact kT))
    ⟨Mn,?_⟩⟩)
 have r2:=r1.rep k.toNat
 refine I.kX (s':={ s with heap:=s.heap.push { cls:=.type "list",data:=.seq (List.foldl (fun x1 x2=>x1++x2) #[] (bH (if i1.isEmpty=true then 0 else k.toNat) i1)) } }) (D:=s.heap.objs.size) gf bR (aX _ rfl) ?_ q
 rw[listMul_foldl]
 by_cases hv:i1.isEmpty=true
 ·rw[if_pos hv]
  have h0:i1.toList=[]:=by
   have:i1.size=0:=by simpa using hv
   exact dE.mp (by simpa using this)
  rw[h0] at r2
  have:(bH k.toNat ([]:List ai)).flatten=[]:=by simp
  rw[this] at r2
  simpa using r2
 ·rw[if_neg hv]
  simpa using r2
theorem WV.Ur {i j:Int}(hj:0<j) (q:Q (.int (i / j)) H) (hb:j<1073741824):WV c d A env (fun vs=>fb .FloorDiv (vs[0]?.getD .none) (vs[1]?.getD .none)) [.int i,.int j] l H Q X:=fun α s vs I rs=>by
 refine aN rs.two fun _ _ vq ra rb=>?_;subst vq;obtain⟨_,rfl⟩:=ra.int;obtain⟨_,rfl⟩:=rb.int
 exact floordiv_int (by exact aW [] [_] [.t dF bJ] (.N (.e bJ dF)) cN rfl hj) (I.done (by rw[yF _ (by exact aW [] [_] [.t dF bJ] (.l dF bJ) cK rfl hj)];exact iq) q) (.inl (yG (B3 (iZ hj) hb)))
theorem WG.str {x:bu}{k:Int}{u:Nat}(h0:0≤k) (hk:k<2^62) (hx:x.cps.toList[k.toNat]?=some u) (q:Q (.str ⟨#[u]⟩) H):WG c d A env (.str x) (.int k) l H Q X:=fun α s v w I ra rb=>by
 obtain⟨_,rfl⟩:=ra.str
 obtain⟨_,rfl⟩:=rb.int
 have iS:k.toNat<x.length:=by
  have:=(ao.mp hx).1
  simpa [bu.length] using this
 refine⟨_,_,typeIs_str _ _ _,F.slot_str_getitem.lookup,P.getItem_str (c:=u) (by simp;exact aW [] [_] [.l dF bJ,.t bJ tG] (.A (.l (.n D1) bJ) (.t bJ D1)) (.o cN cK) rfl h0 hk) ?_ (I.done LA q)⟩
 have h1:¬k<0:=by exact aW [] [_] [.l dF bJ] (.N (.t bJ dF)) cK rfl h0
 have h2:k<(x.length:Int):=by exact aW [_,_] [_] [.T aB aM,.ft aB bJ] (.t bJ aM) (.o n8 rt) rfl iS (kQ _)
 simp only[seqIndex?,h1,if_false,h0,h2,decide_true,Bool.and_self,if_true,Ft]
 rw[←eK];exact hx
theorem WE.W5 {e:Expr}{p p2 p3 p4:ij}{k:Nat}(w:WE c d A env e l H (fun a H1=>∃n vs,a=.obj n∧H1[n]?=some (.list vs)∧vs.length≤1000000∧Q (.obj H1.length) (H1++[.list vs.reverse])) X) :
  WE c d A env (.Subscript e (.Slice none none (some (.UnaryOp .USub (.Constant (.int 1) k p3) p4)) p) pos) l H Q X:=fun α s I=>by
 refine QK (au (w α s I) (fun v bf z=>?_) fun _ _ e=>e)
 obtain⟨a,aP,H₁,b0,bp,fH,n,vs,rfl,e1,hz,q⟩:=z
 refine wpAny_Slice (aQ (aQ ?_))
 show bj c.M A (gr (.UnaryOp .USub (.Constant (.int 1) k p3) p4) env) _ _ bf
 refine UnaryOp_ (QE (P.neg_int ?_))
 refine aL (bp.h.look e1 fH) fun p e3 yh cr=>?_
 subst yh
 obtain⟨cW,cB⟩:=bp.grow (s':={ bf with heap:=bf.heap.push { cls:=.type "slice",data:=.fields #[.none,.none,.int (-1) (bf.toks+1)] } }) gf
 refine aq ((cB.h.cell e1 e3).isList) fun items hl rs=>?_
 have kT:items.size=vs.length:=by rw[←rs.length];simp
 refine tail_any hl.typeIs oC.lookup (oV (b0.trans cW) ?_) rfl
 refine pD hl (wd ..) .none .none (.int _ _) (by simp) ?_ (by rw[kT,cx];exact ca hz rfl)
 rw[krv_pick]
 exact cB.toks.newList rs.rev q
end
end
section
open PySem PySem.W PySem.Calls PyProof.Rows
noncomputable def jx (ks ns:List Int):Prop:=ns.Perm ks∧ns.Pairwise (·≤·)
section
variable {c:Cx}{d:Nat}{A:aU}{env:dI}{l l':Loc}{α bD ct:Am}{h h' h₀:cf}{H H':List ag}{s s':aH}
variable {Q:AV→List ag→Prop}{QB:Bool→List ag→Prop}{X:List ag→Prop}{pos:ij}{own own':aD→Prop}{QU:Loc→List ag→Prop}{kp:Nat}{SQ:AF→Loc→List ag→Prop}
theorem Inv.wY {a:AV}{v:ai}(I:Inv c d A env l α H s) (hk:∀b o,s.heap.get? b=some o→s'.heap.get? b=some o) (r:bM c s.heap α a v) (q:Q a H) (zj:gL s'=gL s:=by rfl):pU c d A env l α s.heap Q v s':=by
 obtain⟨m,I'⟩:=I.grow hk zj
 exact⟨a,α,H,m,I',r.carry id fun t=>t.keeps hk,q⟩
theorem WV.YC {i:Int}(q:Q (.int (if i<0 then -i else i)) H):WV c d A env (fun xs=>PySem.call (.builtin "abs") xs) [.int i] l H Q X:=fun α s xs I rs=>by
 refine aq rs.one fun x gC rx=>?_;subst gC;obtain⟨t,rfl⟩:=rx.int
 exact call_abs_int fun u tk=>I.done iq q
theorem WV.ZC {i:Int}(q:Q (.int i) H):WV c d A env (fun xs=>PySem.call (.type "int") xs) [.int i] l H Q X:=fun α s xs I rs=>by
 refine aq rs.one fun x jX rx=>?_;subst jX;obtain⟨t,rfl⟩:=rx.int
 exact call_int_int (I.done iq q)
theorem WV.Ym {u:Nat}(q:Q (.int u) H):WV c d A env (fun xs=>PySem.call (.builtin "ord") xs) [.str ⟨#[u]⟩] l H Q X:=fun α s xs I rs=>by
 refine aq rs.one fun x j4 rx=>?_;subst j4;obtain⟨t,rfl⟩:=rx.str
 exact P.ord_of_char (I.done iq q)
theorem WV.YX {x:bu}(hz:x.length≤1000000) (q:Q (.int x.length) H):WV c d A env (fun xs=>PySem.call (.builtin "len") xs) [.str x] l H Q X:=fun α s xs I rs=>by
 refine aq rs.one fun _ mI rx=>?_;subst mI;obtain⟨t,rfl⟩:=rx.str
 exact P.len_str (by exact aW [_] [] [.L aB jg] (.N (.l D1 aB)) cK rfl hz) (I.done iq q)
theorem WV.Wu {i j:Int}(q:Q (.int (max i j)) H):WV c d A env (fun xs=>PySem.call (.builtin "max") xs) [.int i,.int j] l H Q X:=fun α s xs I rs=>by
 refine aN rs.two fun _ _ tO rx ry=>?_;subst tO;obtain⟨t,rfl⟩:=rx.int;obtain⟨u,rfl⟩:=ry.int
 refine max_two_ints I.r.hd fun h' tk hk=>?_
 refine I.wY (s':={ s with heap:=h',toks:=tk }) hk (a:=.int (max i j)) ?_ q
 split
 ·rw[oj (iZ ‹_›)];exact iq
 ·rw[Nq (jE.mp ‹_›)];exact iq
theorem WV.W2 {i j:Int}(q:Q (.int (min i j)) H):WV c d A env (fun xs=>PySem.call (.builtin "min") xs) [.int i,.int j] l H Q X:=fun α s xs I rs=>by
 refine aN rs.two fun _ _ u0 rx ry=>?_;subst u0;obtain⟨t,rfl⟩:=rx.int;obtain⟨u,rfl⟩:=ry.int
 refine min_two_ints I.r.hd fun h' tk hk=>?_
 refine I.wY (s':={ s with heap:=h',toks:=tk }) hk (a:=.int (min i j)) ?_ q
 split
 ·rw[vQ (iZ ‹_›)];exact iq
 ·rw[wJ (jE.mp ‹_›)];exact iq
theorem sX {xs:List Int}{val:Nat→Int}(hv:∀(i:Nat) x,xs[i]?=some x→val i=x) (n:Nat) (h:n≤xs.length):preSum val n=(xs.take n).sum:=by
 induction n with
 |zero=>rfl
 |succ n ih=>
  have e:=aw (show n<xs.length by exact f9 0 h rfl)
  rw[preSum,ih (by exact f9 1 h rfl),hv n _ e,gi,e,List.sum_append]
  simp
theorem bl.ints:∀{xs:List Int}{vs:List ai},bl c h α (xs.map .int) vs→oD vs xs:=by
 intro us
 induction us with
 |nil=>
  intro _ r
  cases r.nil;exact .nil
 |cons x xs ih=>
  intro _ r
  refine aN (bl.cons r) fun v r' qH h1 h2=>?_
  subst qH
  obtain⟨t,rfl⟩:=h1.int
  exact .cons _ _ (ih h2)
theorem ML {xs:List Int}{vs:List ai}(r:oD vs xs):bl c h α (xs.map .int) vs:=by
 induction r with
 |nil=>exact jD
 |cons _ _ _ ih=>exact eD iq ih
theorem WV.WK {n:Nat}{xs:List Int}(e:H[n]?=some (.list (xs.map .int))) (q:Q (.int xs.sum) H):WV c d A env (fun xs=>PySem.call (.builtin "sum") xs) [.obj n] l H Q X:=fun α s ys I rs=>by
 refine aq rs.one fun x uy rx=>?_
 subst uy
 refine aL (I.h.look e rx) fun p e3 vq cr=>?_
 subst vq
 refine aq cr.isList fun items hl ri=>?_
 have kT:items.size=xs.length:=by have:=ri.length;simpa using this
 have v7:p.1≠s.heap.objs.size:=by refine aq hl fun o ho _=>?_;clear hl;exact bV (bU ho)
 refine call_sum_walkG (Rq hl ⟨s.heap.objs.size,_,_,items.size,_,_,fun i=>(xs[i]?).getD 0,rfl,Walks.list (A:=A.in1) I.r.hd s.heap.objs.size p.1 v7 items,⟨⟨_,aX _ rfl,rfl,rfl⟩,hl.push _⟩,fun b hb=>?_,fun i v hv=>?_,fun h' tk t' hk=>?_⟩)
 ·rw[gK]
  simp only[br,bZ,or_false] at hb
  rcases hb with rfl | rfl
  ·exact d7 _
  ·refine aq hl fun o ho _=>?_;clear hl;exact j8 (bU ho)
 ·have hi:i<xs.length:=by rw[←kT];exact(lT.mp hv).1
  have hx:(xs.map AV.int)[i]?=some (.int xs[i]):=by simp[hi]
  refine aq (ri.get hx) fun v' e1 r1=>?_
  obtain⟨t,rfl⟩:=r1.int
  have:items[i]?=some (.int xs[i] t):=by simpa using e1
  rw[hv] at this;replace this:=ae this;subst this
  exact⟨t,by simp[hi]⟩
 ·rw[kT,sX (xs:=xs) (fun i x e=>by simp[e]) _ (aA _),kE]
  exact I.wY (s':={ s with heap:=h',toks:=tk }) (fun b o e=>hk b o (by simp only[br,bZ,or_false];exact bV (bU e)) (aT _ e)) iq q
theorem WV.XV {b:List UInt8}(q:Q (.int ((b.map fun x=>(x.toNat:Int)).sum)) H):WV c d A env (fun xs=>PySem.call (.builtin "sum") xs) [.eg b] l H Q X:=fun α s ys I rs=>by
 refine aq rs.one fun x xN rx=>?_
 subst xN
 obtain⟨t,rfl⟩:=rx.eg
 refine call_sum_walkG (vV ⟨s.heap.objs.size,_,_,b.toArray.size,_,_,fun i=>((b.map fun x=>(x.toNat:Int))[i]?).getD 0,rfl,Mb (A:=A.in1) I.r.hd s.heap.objs.size b.toArray t,⟨_,aX _ rfl,rfl,rfl⟩,fun b hb=>?_,fun i v hv=>?_,fun h' tk t' hk=>?_⟩)
 ·rw[gK,cU.mp hb];exact d7 _
 ·refine cD hv fun y u e1 GQ=>?_
  clear hv
  subst GQ
  refine⟨u,?_⟩
  rw[Ck] at e1
  dsimp only
  rw[aK,e1];rfl
 ·rw[nc,sX (xs:=b.map fun x=>(x.toNat:Int)) (fun i x e=>by rw[e];rfl) _ (by simp),dM (by simp)]
  exact I.wY (s':={ s with heap:=h',toks:=tk }) (fun b o e=>hk b o (by simp only[br,bZ,or_false];exact bV (bU e)) (aT _ e)) iq q
theorem WV.Za {i j k:Int}(q:Q (.int (min (min i j) k)) H):WV c d A env (fun xs=>PySem.call (.builtin "min") xs) [.tup [.int i,.int j,.int k]] l H Q X:=fun α s ys I rs=>by
 refine aq rs.one fun x HY rx=>?_
 subst HY
 refine aN rx.tup fun a items yh ht ri=>?_
 subst yh
 refine cy ri.three fun x1 x2 x3 Ow r1 r2 r3=>?_
 obtain⟨t1,rfl⟩:=r1.int;obtain⟨t2,rfl⟩:=r2.int;obtain⟨t3,rfl⟩:=r3.int
 have Ff:items=#[.int i t1,.int j t2,.int k t3]:=by rw[←kL (xs:=items),Ow]
 subst Ff
 have v7:a≠s.heap.objs.size:=by refine aq ht fun o ho _=>?_;clear ht;exact bV (bU ho)
 refine call_min_walk (vW ht ⟨s.heap.objs.size,_,_,3,_,_,_,rfl,Walks.tuple (A:=A.in1) I.r.hd s.heap.objs.size a v7 #[.int i t1,.int j t2,.int k t3],⟨⟨_,aX _ rfl,rfl,rfl⟩,ht.push _⟩,fun b hb=>?_,by decide,
  CmpOf.ints_lt (fun n=>([i,j,k][n]?).getD 0) (fun n v hv=>?_),fun v h' tk hP hk=>?_⟩)
 ·rw[gK]
  simp only[br,bZ,or_false] at hb
  rcases hb with rfl | rfl
  ·exact d7 _
  ·refine aq ht fun o ho _=>?_;clear ht;exact j8 (bU ho)
 ·match n,hv with
  |0,hv=>replace hv:=ae hv;subst hv;exact⟨_,rfl⟩
  |1,hv=>replace hv:=ae hv;subst hv;exact⟨_,rfl⟩
  |2,hv=>replace hv:=ae hv;subst hv;exact⟨_,rfl⟩
  |n+3,hv=>simp at hv
 ·refine I.wY (s':={ s with heap:=h',toks:=tk }) (a:=.int (min (min i j) k)) (fun b o e=>hk b o (by simp only[br,bZ,or_false];exact bV (bU e)) (aT _ e)) ?_ q
  simp only[argBest,Nat.reduceSub,Nat.reduceAdd] at hP
  by_cases h1:j<i
  ·by_cases h2:k<j
   ·have e:min (min i j) k=k:=by exact aW [] [_,_,_,_,_] [.t bJ dO,.t hO bJ,.fi xB dO bJ,.fi (.w 4) xB hO] (.e (.w 4) hO) (.o (.o (.o (.k [1,0,0,1,0,0,1,1,1]) (.k [0,0,0,0,1,0,0,0,1])) (.o jf cN)) (.o (.o (.k [1,0,0,1,0,0,1,1]) ui) (.o jf cN))) rfl h1 h2 (Mf _ _) (Mf _ _)
    have:v=.int k t3:=by simpa [h1,h2] using hP.symm
    rw[this,e];exact iq
   ·have e:min (min i j) k=j:=by exact aW [] [_,_,_,_,_] [.t bJ dO,.N (.t hO bJ),.fi xB dO bJ,.fi (.w 4) xB hO] (.e (.w 4) bJ) (.o (.o (.o (.k [1,0,0,1,0,0,1,0,1]) (.k [0,0,0,0,1,0,0,0,1])) (.o (.k [0,0,0,0,1,0,0,0,1]) (.k [0,0,0,0,1,0,0,0,1]))) (.o (.o (.k [1,0,0,1,0,0,1]) ub) (.o (.k [1,0,0,1,0,0,0,1]) (.k [1,1,1,0,0,1])))) rfl h1 h2 (Mf _ _) (Mf _ _)
    have:v=.int j t2:=by simpa [h1,h2] using hP.symm
    rw[this,e];exact iq
  ·by_cases h2:k<i
   ·have e:min (min i j) k=k:=by exact aW [] [_,_,_,_,_] [.N (.t bJ dO),.t hO dO,.fi xB dO bJ,.fi (.w 4) xB hO] (.e (.w 4) hO) (.o (.o (.o (.k [1,0,0,1,0,0,1,1]) ui) (.o jf cN)) (.o (.o (.k [1,0,0,1,0,0,1,1,1]) ui) (.o jf cN))) rfl h1 h2 (Mf _ _) (Mf _ _)
    have:v=.int k t3:=by simpa [h1,h2] using hP.symm
    rw[this,e];exact iq
   ·have e:min (min i j) k=i:=by exact aW [] [_,_,_,_,_] [.N (.t bJ dO),.N (.t hO dO),.fi xB dO bJ,.fi (.w 4) xB hO] (.e (.w 4) dO) (.o (.o (.o (.k [1,0,0,1,0,0,1]) ub) (.o (.k [1,0,0,1,0,0,0,1]) (.k [1,1,1,0,0,1]))) (.o (.o (.k [1,0,0,1,0,0,1,0,1]) rk) (.o (.k [1,0,0,1,0,0,0,1]) (.k [1,1,1,0,1,1])))) rfl h1 h2 (Mf _ _) (Mf _ _)
    have:v=.int i t1:=by simpa [h1,h2] using hP.symm
    rw[this,e];exact iq
theorem WV.Yo {n:Nat}{vs:List AV}(e:H[n]?=some (.list vs)) (hz:vs.length≤1000000) (q:Q (.tup vs) H):WV c d A env (fun xs=>PySem.call (.type "tuple") xs) [.obj n] l H Q X:=fun α s ys I rs=>by
 refine aq rs.one fun x Qg rx=>?_
 subst Qg
 refine aL (I.h.look e rx) fun p e3 Hx cr=>?_
 subst Hx
 refine aq cr.isList fun items hl ri=>?_
 have kT:items.size=vs.length:=by have:=ri.length;simpa using this
 refine call_tuple_list hl (fun h' hk=>?_) (by rw[kT,cx];exact ca hz rfl)
 obtain⟨m,I'⟩:=I.grow (s':={ s with heap:=h' }) hk
 have z:=I'.xw (Q:=Q) (ri.carry id fun t=>t.keeps hk) q
 rw[kL] at z
 exact z.weak m
theorem WV.WY {vs:List AV}(q:Q (.tup vs) H):WV c d A env (fun xs=>PySem.call (.type "tuple") xs) [.tup vs] l H Q X:=fun α s ys I rs=>by
 refine aq rs.one fun x Z5 rx=>?_
 subst Z5
 have W4:=rx
 refine aN rx.tup fun a items NB ht ri=>?_
 subst NB
 exact call_tuple_same ht (I.done W4 q)
theorem WV.Tt {n:Nat}{vs:List AV}(e:H[n]?=some (.list vs)) (hz:vs.length≤1000000) (q:Q (.obj H.length) (H++[.list vs])):WV c d A env (fun xs=>PySem.call (.type "list") xs) [.obj n] l H Q X:=fun α s ys I rs=>by
 refine aq rs.one fun x Oo rx=>?_
 subst Oo
 refine aL (I.h.look e rx) fun p e3 PA cr=>?_
 subst PA
 refine aq cr.isList fun items PR ri=>?_
 refine fU PR fun o ho hc k hd=>?_
 have kT:items.size=vs.length:=by have:=ri.length;simpa using this
 exact call_list_seq p.1 (.inl rfl) ho hc hd (fun h' c' hk hD=>I.kX (s':={ s with heap:=h' }) hk bR hD ri q) (by rw[kT,cx];exact ca hz rfl)
theorem WV.T8 {vs:List AV}(hz:vs.length≤1000000) (q:Q (.obj H.length) (H++[.list vs])):WV c d A env (fun xs=>PySem.call (.type "list") xs) [.tup vs] l H Q X:=fun α s ys I rs=>by
 refine aq rs.one fun x NY rx=>?_
 subst NY
 refine gN rx.tup fun a items NG o ho Ql ri=>?_
 refine bG Ql fun hc P8=>?_
 refine al P8 fun k hd=>?_
 subst NG
 have kT:items.size=vs.length:=by have:=ri.length;simpa using this
 exact call_list_seq a (.inr rfl) ho hc hd (fun h' c' hk hD=>I.kX (s':={ s with heap:=h' }) hk bR hD ri q) (by rw[kT,cx];exact ca hz rfl)
theorem WV.RY {n:Nat}{xs:List Int}(e:H[n]?=some (.list (xs.map .int))) (hr:∀x∈xs,0≤x∧x<256) (hz:xs.length≤1000000) (q:Q (.eg (xs.map fun x=>x.toNat.toUInt8)) H):WV c d A env (fun xs=>PySem.call (.type "bytes") xs) [.obj n] l H Q X:=fun α s ys I rs=>by
 refine aq rs.one fun x Qo rx=>?_
 subst Qo
 refine aL (I.h.look e rx) fun p e3 Qr cr=>?_
 subst Qr
 refine aq cr.isList fun items hl ri=>?_
 have kT:items.size=xs.length:=by have:=ri.length;simpa using this
 refine call_bytes_ints (vs:=items.toList) (by simpa using hl) ri.ints hr (by rw[dw,kT,cx];exact ca hz rfl) I.r.hd fun h' t k hk=>?_
 refine I.wY (s':={ s with heap:=h',toks:=k }) hk (a:=.eg (xs.map fun x=>x.toNat.toUInt8)) Tp q
end
end
section
open PySem PySem.W PySem.Calls PyProof.Rows
section
variable {c:Cx}{d:Nat}{A:aU}{env:dI}{l l':Loc}{α bD ct:Am}{h h' h₀:cf}{H H':List ag}{s s':aH}
variable {Q:AV→List ag→Prop}{QB:Bool→List ag→Prop}{X:List ag→Prop}{pos:ij}{own own':aD→Prop}{QU:Loc→List ag→Prop}{kp:Nat}{SQ:AF→Loc→List ag→Prop}
theorem zd {prog:mZ}{w:iN}{E:ai→aH→Prop}{v:ai}{o:Option Int}(p:Jg v o){P:Option Int→aH→Prop}(h:P o s):bj (ki prog w) A (Builtin.Slice.slicePartIndex v) P E s:=by
 cases p with
 |none=>exact slicePart_none h
 |int i t=>exact slicePart_int h
theorem LQ {prog:mZ}{w:iN}{E:ai→aH→Prop}{sl:aD}{x y:ai}{lo hi:Option Int}{n:Int}{P:Int×Int×Nat→aH→Prop}(hs:s.heap.IsSliceOf sl x y .none) (p1:Jg x lo) (p2:Jg y hi)
  (h:P ((d8 lo hi 1 n).1,1,rV (d8 lo hi 1 n).1 (d8 lo hi 1 n).2 1) s) :
  bj (ki prog w) A (rR (.ref sl) (pure n)) P E s:=by
 refine aL (id hs) fun os TI V8 pI=>?_
 unfold rR Builtin.Slice.sliceFields
 refine ak (ak (g9 TI pI (x:=x) rfl (ak (g9 TI pI (x:=y) rfl (ak (g9 TI pI (x:=.none) rfl (aQ ?_)))))))
 refine ak (slicePart_none ?_)
 show bj _ _ (if ((1:Int)==0)=true then _ else _) _ _ s
 rw[if_neg (by decide)]
 exact ak (zd p1 (ak (zd p2 (ak (aQ (aQ h))))))
theorem AL.tup {vs:List AV}{lo hi:Option Int}(a b:Nat) (ha:d8 lo hi 1 (vs.length:Int)=((a:Int),(b:Int))) (hw:¬(a=0∧b=vs.length)) (AJ:a≤b) (hb:b≤vs.length) (hz:vs.length≤1000000)
  (q:Q (.tup ((vs.drop a).take (b-a))) H):AL c d A env (.tup vs) lo hi l H Q X:=fun α s v sl x y I ra hs p1 p2=>by
 refine aN ra.tup fun t items gC ht rs=>?_
 subst gC
 have kT:items.size=vs.length:=by rw[←rs.length];simp
 refine aL (id hs) fun os TI V8 pI=>?_
 have hTs:s.TypeIs (.ref sl) "slice":=⟨os,TI,V8⟩
 refine⟨_,_,ht.typeIs,nN.lookup,?_⟩
 have Ye:rV (a:Int) (b:Int) 1=b-a:=places_from a b AJ
 unfold Rk
 try with_reducible refine cv ?_
 first | refine ak (aQ ?_) | skip
 refine ak (Rl ht.typeIs (by decide) ?_)
 refine ak (qb (name:=fa "__getitem__") ht.typeIs nN
  (qc nN ht.typeIs entry_tuple_getitem ?_ (args_tuple_getitem _ _)))
 show bj _ _ (Builtin.Tuple.tupleItemsOf (.ref t) >>= _) _ _ s
 refine ak (tupleItemsOf_ ht ?_)
 refine ak (Jk hTs ?_)
 rw[if_pos (by decide)]
 refine ak (LQ hs p1 p2 ?_)
 rw[kT,ha]
 dsimp only
 rw[Ye]
 have Q6:¬(((a:Int)==0&&(1:Int)==1&&(b-a)==vs.length)=true):=by
  intro z
  simp only[gJ,beq_iff_eq] at z
  exact hw ⟨by exact mO z.1.1,by exact aW [_,_,_,_] [] [.L aB aM,.E cg aM,.fs cg aB fz] (.E aB aM) (.o (.o ub (.k [1,0,0,0,0,0,1])) (.o ub (.k [1,0,0,0,0,0,1]))) rfl hb z.2 (eV _ _)⟩
 rw[if_neg Q6]
 have SP:((bh (b-a)).filterMap fun(k:Nat)=>items[((a:Int)+(k:Int)*1).toNat]?).toArray=((items.toList.drop a).take (b-a)).toArray:=by
  have e:(fun(k:Nat)=>items[((a:Int)+(k:Int)*1).toNat]?)=fun k=>items[a+k]?:=by
   funext k
   have:((a:Int)+(k:Int)*1).toNat=a+k:=by rw[wa];rfl
   rw[this]
  rw[e]
  have:=pick_run items a (b-a)
  rw[List.filterMap_map] at this
  have e2:((fun x=>items[x]?) ∘ fun x=>a+x)=fun k=>items[a+k]?:=rfl
  rw[e2] at this
  rw[this]
 rw[SP]
 have nI:sizeOk (.seq ((items.toList.drop a).take (b-a)).toArray):=by
  show((items.toList.drop a).take (b-a)).toArray.size≤nP
  rw[nc,cj,aJ,dw,kT,cx]
  exact aW [_,_,_,_,_,_] [] [.L aB aM,.L aM jg,.fs cg aB fz,.fm ji cg qD] (.L ji (.l 16777216)) (.o (.o (.k [1,0,1,0,0,1,0,1,1]) (.k [1,1,1,0,0,1,0,1,1])) (.o ub (.k [1,1,1,0,0,1]))) rfl hb hz (eV _ _) (AH _ _)
 have z:=I.xw (Q:=Q) ((rs.drop a).take (b-a)) q
 first
  |exact ak (m:=ie _) (eL (aQ ⟨_,rfl,aQ z⟩) nI)
  |exact ak (m:=ie _) (eL (ak (aQ (aQ ⟨_,rfl,aQ z⟩))) nI)
  |exact ak (ak (m:=ie _) (eL (aQ (aQ ⟨_,rfl,aQ z⟩)) nI))
  |exact ak (ak (m:=ie _) (eL (aQ ⟨_,rfl,aQ z⟩) nI))
theorem AL.Y0 {a:aD}{ns:List Int}{vs:Array ai}{lo hi:Option Int}(hl:c.hb.IsList a vs) (Jr:oD vs.toList ns) (hz:ns.length≤1000000) (q:Q (.obj H.length) (H++[.list ((lM lo hi ns).map .int)])):AL c d A env (.fix (.ref a)) lo hi l H Q X:=fun α s v sl x y I ra hs p1 p2=>by
 cases ra.fix
 have hl':s.heap.IsList a vs:=by refine aq hl fun o ho r=>?_;clear hl;exact⟨o,I.h.base _ _ ho,r⟩
 have kT:vs.size=ns.length:=by have:=Jr.length;simpa using this
 refine⟨_,_,hl'.typeIs,oC.lookup,pD hl' hs p1 p2 .none (by simp) ?_ (by rw[kT,cx];exact ca hz rfl)⟩
 rw[qo]
 have r:bl c s.heap α (ns.map .int) vs.toList:=ML Jr
 have:=r.lM lo hi
 have e:lM lo hi (ns.map AV.int)=(lM lo hi ns).map .int:=by unfold lM;simp[QO,yT]
 rw[e] at this
 exact I.newList this q
theorem WV.Po {i:Int}(q:Q (.bool false) H):WV c d A env (fun xs=>PySem.call (.builtin "isinstance") xs) [.int i,.fix (.type "bool")] l H Q X:=fun α s xs I rs=>by
 refine aN rs.two fun _ _ iu rx ry=>?_;subst iu;refine al rx.int fun t jX=>?_;subst jX;cases ry.fix
 exact IsiPair.int_bool (I.done qp q)
theorem WV.Qw {i:Int}(q:Q (.bool true) H):WV c d A env (fun xs=>PySem.call (.builtin "isinstance") xs) [.int i,.fix (.type "int")] l H Q X:=fun α s xs I rs=>by
 refine aN rs.two fun _ _ j5 rx ry=>?_;subst j5;refine al rx.int fun t j4=>?_;subst j4;cases ry.fix
 exact IsiPair.int_int (I.done qp q)
theorem WV.NX {x:bu}(q:Q (.bool true) H):WV c d A env (fun xs=>PySem.call (.builtin "isinstance") xs) [.str x,.fix (.type "str")] l H Q X:=fun α s xs I rs=>by
 refine aN rs.two fun _ _ nF rx ry=>?_;subst nF;refine al rx.str fun t mI=>?_;subst mI;cases ry.fix
 exact IsiPair.str_str (I.done qp q)
theorem WV.PX {vs:List AV}(q:Q (.bool true) H):WV c d A env (fun xs=>PySem.call (.builtin "isinstance") xs) [.tup vs,.fix (.type "tuple")] l H Q X:=fun α s xs I rs=>by
 refine aN rs.two fun _ _ nv rx ry=>?_;subst nv;cases ry.fix
 refine gN rx.tup fun a items tO o ho lC _=>?_
 refine bG lC fun hc _=>?_
 subst tO
 exact IsiPair.tuple_tuple ho hc (I.done qp q)
theorem WV.OS {b:List UInt8}(q:Q (.bool true) H):WV c d A env (fun xs=>PySem.call (.builtin "isinstance") xs) [.eg b,.fix (.type "bytes")] l H Q X:=fun α s xs I rs=>by
 refine aN rs.two fun _ _ jZ rx ry=>?_;subst jZ;cases ry.fix
 refine al rx.eg fun t u0=>?_
 subst u0
 exact call_isinstance (isinstance_true (Tx:="bytes") F.isi_meta_bytes (by rw[isSubtype_type];kernel_rfl)) ⟨rfl,I.done qp q⟩
theorem WO.inT {i:Int}{ns:List Int}(q:QB (ns.any fun n=>n==i) H):WO c d A env .In (.int i) (.tup (ns.map .int)) l H QB X:=fun α s v w I ra rb=>by
 refine al ra.int fun t sy=>?_
 subst sy
 refine aN rb.tup fun a items mx ht rs=>?_
 subst mx
 have hI:=rs.ints
 let e:ai→Bool:=fun y=>match y with | .int n _=>n==i | _=>false
 refine SeqAt.in_tupleAt e ht (fun y hy=>?_) ?_
 ·have:∀{xs:List ai}{ms:List Int},oD xs ms→y∈xs→∃n u,y=.int n u:=by
   intro xs ms hh
   induction hh with
   |nil=>intro h;cases h
   |cons n u r ih=>
    intro h
    rcases br.mp h with rfl | h
    ·exact⟨_,_,rfl⟩
    ·exact ih h
  refine fW (this hI (by simpa using hy)) fun n u qH=>?_
  subst qH
  exact SeqAt.EqAt.int_int n u i t
 ·have:∀{xs:List ai}{ms:List Int},oD xs ms→xs.any e=ms.any fun n=>n==i:=by
   intro xs ms hh
   induction hh with
   |nil=>rfl
   |cons n u r ih=>simp only[rQ,ih];rfl
  rw[←tR,this hI]
  exact I.iV q
theorem WV.T9 {a:AV}{kvs:List (Int×AV)}(D:DictAt c H a kvs) (hz:kvs.length≤1000000) (q:Q (.obj H.length) (H++[.dict kvs])):WV c d A env (fun xs=>PySem.call (.type "dict") xs) [a] l H Q X:=fun α s xs I rs=>by
 refine aq rs.one fun x sG rx=>?_
 subst sG
 refine b9 (D.look I.h rx) fun b kv uy hm hd dr=>?_
 subst uy
 refine kt_call_dict hm hd (by rw[dr.length,cx];exact ca hz rfl) fun h' qz hs=>?_
 have hk:∀b o,s.heap.get? b=some o→h'.get? b=some o:=fun b o e=>(hs.2 b (bV (bU e))).trans (aT _ e)
 have kT:s.heap.objs.size≠gh:=fun q=>by
  have h1:s.heap.Ns cStatics _:=(I.ok.T.nolimit.keeps I.h.base).choose_spec.1
  have:=h1.lt
  rw[q] at this
  exact absurd this (by decide)
 refine bG (I.alloc (s':={ s with heap:=h' }) (p:=(s.heap.objs.size,s.heap.objs.size)) (x:=.dict kvs) hk bR bR ⟨kv,qz,dr.carry iY fun t=>t.keeps hk,rfl,by simpa using kT⟩) fun m I'=>?_
 have:(α++[(s.heap.objs.size,s.heap.objs.size)])[H.length]?=some (s.heap.objs.size,s.heap.objs.size):=by rw[←I.h.len];simp
 exact⟨.obj H.length,_,_,m,I',yi this,q⟩
end
end
section
open PySem PySem.W PySem.Calls PyProof.Rows
section
variable {prog:mZ}{w:iN}{A:aU}{E:ai→aH→Prop}{s:aH}
theorem BM {b:Array UInt8}{t:Tok}{Q:Bool→aH→Prop}(h:Q false s):bj (ki prog w) A (rS (.bytes b t)) Q E s:=by
 unfold rS
 refine ak (wpAny_specialOf (kK s b t) FB.slot_bytes_len.lookup ?_)
 generalize hid:("bytes.__len__":String)=id0
 wp_delta
 rw[show splitId id0=some ("bytes","__len__") from by subst hid;decide +kernel]
 subst hid
 refine ak (wpAny_isInstance (T:="bytes") (b:=true) (kK s b t) (by rw[isSubtype_type];kernel_rfl) ?_)
 refine qY (fun AJ=>absurd AJ (by decide)) (fun _=>?_)
 refine qY (fun _=>?_) (fun AJ=>absurd (by decide +kernel) AJ)
 refine ak (Jk (kK s b t) ?_)
 exact aQ h
theorem yz {b:Array UInt8}{t:Tok}{R:sP→aH→Prop}(hh:A.handled=none) (S:aD) (Jp:ai) (Tc:Nat) (hS:s.heap.get? S=some { cls:=.type "list",data:=.seq #[] Tc })
  (hR:∀h' tk oS c',(∀b o,b≠S→s.heap.get? b=some o→h'.get? b=some o)→h'.get? S=some { cls:=.type "list",dict:=none,data:=.seq oS c',slots:=#[] } →
   ItemsOf (fun i v=>∃c u,b[i]?=some c∧v=.int (c.toNat:Int) u) oS b.size→R (.ok (.ret Jp)) { s with heap:=h',toks:=tk }) (hn:b.size≤nP) :
  bj (ki prog w) A.in1 (fj (.ref S) (.bytes b t) Jp)
   (fun fin s'=>match fin with | .done f=>R (.ok f) s' | .again c'=>c'.quiet=true∧ic (ki prog w) A c' R s') (fun e s'=>R (.error e) s') s:=by
 have hSI:S≠s.heap.objs.size:=bV (bU hS)
 have hSf:S∉[s.heap.objs.size]:=by simpa using hSI
 have W:=Mb (prog:=prog) (w:=w) (A:=A.in1) hh s.heap.objs.size b t
 have key:∀(h:cf) (Px tk:Nat),Nx h s.heap.objs.size b t 0→(∀b o,b≠S→s.heap.get? b=some o→h.get? b=some o) →
   h.get? S=some { cls:=.type "list",data:=.seq #[] Px }→ic (ki prog w) A (.builtin "list.extend.loop" ⟨[.ref S,.ref s.heap.objs.size,Jp],[]⟩) R { s with heap:=h,toks:=tk }:=by
  intro h Px tk i4 hk vc
  refine codeAny_extend_loopS W.toS hn S hSf Jp b.size 0 _ #[] Px rfl (cR _) i4 vc (ItemsOf.nil _) fun s' oS c' hm NR se=>?_
  rw[Moved.eq_with hm]
  refine hR s'.heap s'.toks oS c' (fun b o hb e=>hm.heap b o (fun Oa=>?_) (hk b o hb e)) NR se
  rcases br.mp Oa with e' | Oa
  ·exact hb e'
  ·exact absurd (bU e) (by rw[cU.mp Oa];exact gq _)
 unfold fj
 refine ak (Jk (T:="bytes") (kK s b t) ?_)
 have h1:tC (.ref S) (.bytes b t)=false:=by simp[tC]
 have h2:(ai.type "bytes"==ai.type "list")=false:=by decide
 have h3:(ai.type "bytes"==ai.type "tuple")=false:=by decide
 simp only[h1,h2,h3,QP,Fq,if_false]
 refine ak (vV ?_)
 have vc:=aT { cls:=.type "bytes_iterator",data:=.fields #[.bytes b t,.int 0 0] } hS
 have st:Nx (s.heap.push { cls:=.type "bytes_iterator",data:=.fields #[.bytes b t,.int 0 0] }) s.heap.objs.size b t 0:=⟨_,aX _ rfl,rfl,rfl⟩
 refine ak (cv (BM ?_))
 refine qY (fun _=>?_) (fun _=>aQ ⟨E0 PySem.F.plain_extend_loop _,key _ Tc _ st (fun b o _ e=>aT _ e) vc⟩)
 refine ak (Co ?_)
 refine ak ?_
 show bj _ _ (updateSeq S (·.push .none) >>= fun _=>updateSeq S (·.pop)) _ _ _
 refine ak (AD vc rfl ?_)
 have Dc:=dx (ez (·.push ai.none)) vc rfl
 refine AD (hz:=by seq_fits) Dc rfl ?_
 have Te:=dx (ez (·.pop)) Dc rfl
 refine aQ ⟨E0 PySem.F.plain_extend_loop _,key _ _ _ ?_ (fun b o hb e=>?_) Te⟩
 ·refine W.frame 0 _ _ st fun b hb o e=>?_
  have hbS:b≠S:=fun h=>hSf (h▸hb)
  exact(cP _ _ (gS hbS)).trans ((cP _ _ (gS hbS)).trans e)
 ·exact(cP _ _ (gS hb)).trans ((cP _ _ (gS hb)).trans (aT _ e))
theorem BD {b:Array UInt8}{t:Tok}{Q:ai→aH→Prop}(hh:A.handled=none) (hn:b.size≤nP)
  (hQ:∀h' tk oS c',(∀b o,s.heap.get? b=some o→h'.get? b=some o)→h'.get? s.heap.objs.size=some { cls:=.type "list",dict:=none,data:=.seq oS c',slots:=#[] } →
   ItemsOf (fun i v=>∃c u,b[i]?=some c∧v=.int (c.toNat:Int) u) oS b.size→Q (.ref s.heap.objs.size) { s with heap:=h',toks:=tk }) :
  bj (ki prog w) A (PySem.call (.type "list") [.bytes b t]) Q E s:=by
 refine callType_codes (Q₁:=fun obj bf=>obj=.ref s.heap.objs.size∧bf={ s with heap:=s.heap.push { cls:=.type "list",data:=.seq #[] } }) PySem.F.called_list (PySem.F.typeCall_list_1 _) PySem.F.entry_list_init
  (code_list_new _ ⟨rfl,rfl⟩) fun obj bf gp=>?_
 refine bG gp fun gC iu=>?_
 clear gp
 subst gC
 subst iu
 have hS:(s.heap.push { cls:=.type "list",data:=.seq #[] }).get? s.heap.objs.size=some { cls:=.type "list",data:=.seq #[] }:=aX _ rfl
 refine⟨⟨_,hS,rfl⟩,PySem.F.args_list_init_2 _ _,?_⟩
 show bj _ _ (do let old ←uo (.ref s.heap.objs.size);Builtin.List.listUpdate (.ref s.heap.objs.size) (fun _=>#[]);PySem.letGo old.toList.reverse;fj (.ref s.heap.objs.size) (.bytes b t) .none) _ _ _
 refine ak ?_
 unfold uo
 refine ak (wpAny_seqItems hS rfl (aQ ?_))
 show bj _ _ (updateSeq s.heap.objs.size (fun _=>#[]) >>= fun _=>PySem.letGo (#[]:Array ai).toList.reverse >>= fun _=>fj (.ref s.heap.objs.size) (.bytes b t) .none) _ _ _
 refine ak (AD hS rfl ?_)
 have Dc:=dx (ez (fun _=>(#[]:Array ai))) hS rfl
 have oth:∀b o,b≠s.heap.objs.size→(s.heap.push { cls:=.type "list",data:=.seq #[] }).get? b=some o→((s.heap.push { cls:=.type "list",data:=.seq #[] }).update s.heap.objs.size (ez (fun _=>(#[]:Array ai)))).get? b=some o:=
  fun b o hb e=>(cP _ _ (gS hb)).trans e
 refine ak (wpAny_letGo ?_)
 refine yz (A:=A.in1) hh s.heap.objs.size .none _ Dc (fun h' tk oS c' hk NR se=>?_) hn
 exact⟨rfl,hQ h' tk oS c' (fun b o e=>hk b o (bV (bU e)) (oth b o (bV (bU e)) (aT _ e))) NR se⟩
end
end
section
open PySem PySem.W PySem.Calls PyProof.Rows
section
variable {prog:mZ}{w:iN}{A:aU}{E:ai→aH→Prop}{s:aH}
theorem xM {d:aD}{kv:List (Int×ai)}{ep:Nat}{R:sP→aH→Prop}(hh:A.handled=none) (lo:(d==gh)=false) (hd:s.heap.DictAt (ia prog w) d kv ep) (hn:kv.length≤nP)
  (hR:∀h' tk oS c',(∀b o,s.heap.get? b=some o→h'.get? b=some o)→h'.get? s.heap.objs.size=some { cls:=.type "list",dict:=none,data:=.seq oS c',slots:=#[] } →
   ItemsOf (fun i v=>∃k x,kv[i]?=some (k,x)∧(ia prog w).is k v=true) oS kv.length→R (.ok (.ret (.ref s.heap.objs.size))) { s with heap:=h',toks:=tk }) :
  ic (ki prog w) A (.builtin "proto.collect" ⟨[.ref d],[]⟩) R s:=by
 have K:=kdl_dict (prog:=prog) (w:=w) (knd:=ia prog w) (kvs:=kv) (ep:=ep) lo
 have iS:=K.there _ hd
 refine codeAny_builtin F.entry_proto_collect ?_
 rw[AS F.plain_proto_collect _]
 show bj _ A.in1 (newList [] >>= fun l=>again (.builtin "list.__iadd__" ⟨[l,.ref d],[]⟩)) _ _ s
 refine ak (eL ?_)
 refine aQ ⟨E0 Ny _,codeAny_builtin F.entry_list_iadd ?_⟩
 rw[AS Ny _]
 have vc:(s.heap.push { cls:=.type "list",data:=.seq ([]:List ai).toArray }).get? s.heap.objs.size=some { cls:=.type "list",data:=.seq ([]:List ai).toArray }:=aX _ rfl
 show bj _ A.in1 (fj (.ref s.heap.objs.size) (.ref d) (.ref s.heap.objs.size)) _ _ _
 refine kdl_extend (s:={ s with heap:=s.heap.push { cls:=.type "list",data:=.seq ([]:List ai).toArray } }) K hh (K.keep _ _ hd fun b _ o e=>aT _ e) s.heap.objs.size (gY iS.1) (gY iS.2) (.ref s.heap.objs.size) 0 vc (fun h' tk oS c' hk NR se=>?_) hn
 exact hR h' tk oS c' (fun b o e=>hk b o (bV (bU e)) (aT _ e)) NR se
theorem xX {d:aD}{kv:List (Int×ai)}{ep:Nat}{Q:List ai→aH→Prop}(hh:A.handled=none) (lo:(d==gh)=false) (hd:s.heap.DictAt (ia prog w) d kv ep) (hn:kv.length≤nP)
  (hQ:∀h' tk (vs:List ai),(∀b o,s.heap.get? b=some o→h'.get? b=some o)→oD vs (kv.map (·.1))→Q vs { s with heap:=h',toks:=tk }) :
  bj (ki prog w) A (collect (.ref d)) Q E s:=by
 unfold collect
 refine ak (wpAny_runValue (xM hh lo hd hn fun h' tk oS c' hk NR se=>?_))
 show bj _ A (load s.heap.objs.size >>= _) _ _ _
 refine ak (wpAny_load NR ?_)
 refine aQ (hQ h' tk oS.toList hk ?_)
 have key:∀(vs:List ai) (ks:List (Int×ai)),vs.length=ks.length→(∀(j:Nat) v,vs[j]?=some v→∃k x,ks[j]?=some (k,x)∧(ia prog w).is k v=true)→oD vs (ks.map (·.1)):=by
  intro vs
  induction vs with
  |nil=>intro ks hl _;cases ks with | nil=>exact .nil | cons _ _=>cases hl
  |cons v r ih=>
   intro ks hl h
   cases ks with
   |nil=>cases hl
   |cons p ks=>
    refine cD (h 0 v rfl) fun k x e hkv=>?_
    replace e:=ae e
    subst e
    obtain⟨t,rfl⟩:=sV hkv
    exact .cons _ _ (ih ks (by simpa using hl) fun j v e=>h (j+1) v (by simpa using e))
 exact key _ _ (by rw[dw];exact se.1) fun j v e=>se.2 j v (by rw[←eK];exact e)
theorem Al {d:aD}{kv:List (Int×ai)}{Q:ai→aH→Prop}(hh:A.handled=none) (lo:(d==gh)=false) (hd:s.heap.DictOf (ia prog w) d kv) (h64:kv.length<64)
  (h:∀h' tk D (out:Array ai) (Od:List Int) e,(∀b o,s.heap.get? b=some o→h'.get? b=some o)→s.heap.get? D=none→h'.get? D=some ⟨.type "list",none,.seq out e,#[]⟩ →
   oD out.toList Od→Od.Perm (kv.map (·.1))→Od.Pairwise (·≤·)→Q (.ref D) { s with heap:=h',toks:=tk }) :
  bj (ki prog w) A (PySem.call (.builtin "sorted") [.ref d]) Q E s:=by
 obtain⟨ep,hd⟩:=hd.dictAt
 refine Calls.call_function_entry kind_sorted plain_sorted entry_sorted (args_sorted1 _) ?_
 unfold Builtin.«sorted»
 refine ak (m:=checkCount "sorted" 1 1 _) (aQ ?_)
 refine ak (xX (by exact hh) lo hd (by rw[cx];exact rC h64 rfl) fun h1 cK vs hk hI=>?_)
 have hl:vs.length<64:=by rw[hI.length];simpa using h64
 refine ak (wpAny_newList ?_ (by rw[cx];exact rC hl rfl))
 have Yx:(h1.push (seqObj "list" vs.toArray 0)).get? h1.objs.size=some (seqObj "list" vs.toArray 0):=aX _ rfl
 show bj _ _ _ _ _ { s with heap:=h1.push (seqObj "list" vs.toArray 0),toks:=cK }
 refine ak (cv (qc slot_list_sort ⟨_,Yx,rfl⟩ entry_list_sort (list_sort_tree (s:={ s with heap:=h1.push (seqObj "list" vs.toArray 0),toks:=cK }) Yx hI hl fun out Od a1 a2 a3=>⟨_,rfl,?_⟩) (args_list_sort _)))
 obtain⟨e,he⟩:=sortedHeap_at (out:=out) Yx
 refine aQ ⟨_,rfl,h _ _ h1.objs.size out Od e (fun b o eb=>?_) ?_ he a1 a2 a3⟩
 ·have eb1:=hk _ _ eb
  have iS:=bU eb1
  rw[sortedHeap_old (bV iS) (by rw[gK];exact j8 iS)]
  exact aT _ eb1
 ·cases q:s.heap.get? h1.objs.size with
  |none=>rfl
  |some o=>exact absurd (bU (hk _ _ q)) (gq _)
end
section
variable {c:Cx}{d:Nat}{A:aU}{env:dI}{l l':Loc}{α bD ct:Am}{h h' h₀:cf}{H H':List ag}{s s':aH}
variable {Q:AV→List ag→Prop}{QB:Bool→List ag→Prop}{X:List ag→Prop}{pos:ij}{own own':aD→Prop}{QU:Loc→List ag→Prop}{kp:Nat}{SQ:AF→Loc→List ag→Prop}
theorem de.keys:∀{kvs:List (Int×AV)}{kv:List (Int×ai)},de c h α kvs kv→kv.map (·.1)=kvs.map (·.1):=by
 intro us
 induction us with
 |nil=>
  intro _ r
  subst r;rfl
 |cons hd _ ih=>
  obtain⟨_,_⟩:=hd
  intro _ r
  refine aN r fun v r' jX _ rr=>?_;clear r;subst jX;simp[ih rr]
theorem WV.tq {a:AV}{kvs:List (Int×AV)}(D:DictAt c H a kvs) (hz:kvs.length<64) (q:∀ns,jx (kvs.map (·.1)) ns→Q (.obj H.length) (H++[.list (ns.map .int)])):WV c d A env (fun xs=>PySem.call (.builtin "sorted") xs) [a] l H Q X:=fun α s xs I rs=>by
 refine aq rs.one fun x j5 rx=>?_
 subst j5
 refine b9 (D.look I.h rx) fun b kv j4 hm hd dr=>?_
 subst j4
 refine Al I.r.hd hm hd (by rw[dr.length];exact hz) fun h' tk D out Od e hk hn hD hI hp hs=>?_
 rw[dr.keys] at hp
 exact I.kX (s':={ s with heap:=h',toks:=tk }) hk hn hD (ML hI) (q Od ⟨hp,hs⟩)
theorem Pz {acc:List ai}{b:List UInt8}(hl:acc.length=b.length) (h:∀(j:Nat) v,acc[j]?=some v→∃x u,b[j]?=some x∧v=.int ((x:UInt8).toNat:Int) u):bl c h' α (b.map fun x=>.int x.toNat) acc:=by
 induction acc generalizing b with
 |nil=>cases b with | nil=>exact jD | cons _ _=>cases hl
 |cons v r ih=>
  cases b with
  |nil=>cases hl
  |cons x b=>
   refine cD (h 0 v rfl) fun y u e nF=>?_
   subst nF
   replace e:=ae e
   subst e
   exact eD iq (ih (by simpa using hl) fun j v e=>h (j+1) v (by simpa using e))
theorem WV.Uq {b:List UInt8}(hz:b.length≤1000000) (q:Q (.obj H.length) (H++[.list (b.map fun x=>.int x.toNat)])):WV c d A env (fun xs=>PySem.call (.type "list") xs) [.eg b] l H Q X:=fun α s xs I rs=>by
 refine aq rs.one fun x mI rx=>?_
 subst mI
 obtain⟨t,rfl⟩:=rx.eg
 refine BD I.r.hd (by rw[cx];simp;exact ca hz rfl) fun h' tk oS c' hk hD se=>?_
 refine I.kX (s':={ s with heap:=h',toks:=tk }) hk bR hD (Pz (by rw[dw,se.1];simp) fun j v e=>?_) q
 refine cD (se.2 j v (by rw[←eK];exact e)) fun x u e1 e2=>?_
 exact⟨x,u,by simpa using e1,e2⟩
end
end
section
open PySem
open AutoSeq1 (wpAny_loadPart')
theorem T3 {M:Fp}{A:aU}{Q:Bool→aH→Prop}{E:ai→aH→Prop}{s:aH}{x:Bool}(h:∀b,Q b s):bj M A (pure x) Q E s:=aQ (h x)
theorem vy (l:aD) (items:Array ai) (n:Nat) (YQ:Option aD) (sl:Array (Option ai)) :
  Meets (Builtin.«enumerate.__new__» ⟨[.type "enumerate",.ref l],[]⟩) (fun _ R s=>s.heap.get? l=some { cls:=.type "tuple",dict:=YQ,data:=.seq items n,slots:=sl } ∧
   R (.ok (.ret (.ref (s.heap.push { cls:=.type "tuple_iterator",data:=.fields #[.ref l,.int 0 0] }).objs.size)))
    { s with heap:=(s.heap.push { cls:=.type "tuple_iterator",data:=.fields #[.ref l,.int 0 0] }).push { cls:=.type "enumerate",data:=.fields #[.none,.bool false,.ref s.heap.objs.size,ib 0,.none,.none] } }):=
 .of_wp fun prog w A R s h=>by
  obtain⟨hp,g,d,tk,os⟩:=s;refine bG h fun hl h=>?_
  have TJ:=sub_enumerate
  have hL:cf.IsTuple (aH.heap ⟨hp,g,d,tk,os⟩) l items:=⟨_,hl,rfl,n,rfl⟩
  wp_walk using AE hl
  refine wpAny_stack_any fun st=>T3 fun b=>?_
  cases b<;>(wp_walk using AE hl,vW hL;exact⟨_,rfl,h⟩)
section
variable {prog:mZ}{w:iN}{A:aU}{E:ai→aH→Prop}{s:aH}
theorem uI {it l:aD}{i:Nat}{items}{Q:ai→aH→Prop}(hh:A.handled=none)
  (Ff:s.heap.IsTupleIter it l i) (hl:s.heap.IsTuple l items) (hx:items[i]?=none)
  (hE:∀h' e,cf.ExtBut it s.heap h'→(∃o,h'.get? e=some o∧o.cls=.type "StopIteration")→E (.ref e) { s with heap:=h' }) :
  bj (ki prog w) A (qe (.ref it)) Q E s:=by
 refine aL (id Ff) fun o ho hc hd=>?_
 refine fU hl fun ol hol _ nl RV=>?_
 clear hl
 unfold qe
 refine ak (qb (name:=fa "__next__") Ff.typeIs AG
  (qc AG Ff.typeIs F.entry_tuple_iterator_next ?_ (F.args_tuple_iterator_next_1 _)))
 show bj _ _ (field (.ref it) 0 >>= _) _ _ s
 refine ak (g9 ho hd (x:=.ref l) rfl ?_)
 show bj _ _ (if (ai.ref l==ai.none)=true then _ else _) _ _ s
 rw[if_neg (show ¬((ai.ref l==ai.none)=true) from fN)]
 show bj _ _ (field (.ref it) 1 >>= _) _ _ s
 refine ak (g9 ho hd (x:=.int i 0) rfl ?_)
 show bj _ _ (seqItems? (.ref l) >>= _) _ _ s
 refine ak (wpAny_seqItems hol RV ?_)
 simp only[gm,hx]
 refine ak (Co (ak (wpAny_setField ho hd (by simp) ?_)))
 show bj _ _ (newExc (.type "StopIteration") [] >>= _) _ _ _
 refine ak ?_
 simp only[newExc,newTuple]
 refine ak (eL ?_ (by size_fits))
 refine ak (m:=firstArgMember _ _) (wpAny_of_eq (a:=ai.none) (by first | rfl | (simp only[firstArgMember];rfl)) ?_)
 refine eL ?_ (by size_fits)
 delta raiseNew
 refine ak (wpAny_handled ?_)
 first | rw[show A.in1.handled=none from hh] | rw[hh]
 refine ak (aQ (Md ?_))
 exact hE _ _ (((j9 ..).extBut.push _).push _) ⟨_,aX _ rfl,rfl⟩
theorem wC {l:aD}{items:Array ai}{Q:ai→aH→Prop}(hL:s.heap.IsTuple l items)
  (h:∀h',IsEnum h' (s.heap.objs.size+1) s.heap.objs.size 0 .none→h'.IsTupleIter s.heap.objs.size l 0 →
   (∀b o,s.heap.get? b=some o→h'.get? b=some o)→Q (.ref (s.heap.objs.size+1)) { s with heap:=h' }) :
  bj (ki prog w) A (call (.type "enumerate") [.ref l]) Q E s:=by
 refine fU hL fun iu hl hc n hd=>?_
 clear hL
 obtain⟨c,YQ,dt,sl⟩:=iu
 replace hc:c=.type "tuple":=hc
 replace hd:dt=.seq items n:=hd
 subst hc hd
 refine callType_new F.called_enumerate (by decide) (F.typeCall_enumerate_1 _) (F.newCall_enumerate_1 _) (fun obj=>F.args_object_init_2 obj _) F.entry_enumerate_new
  (vy l items n YQ sl) ⟨hl,?_⟩
 have hz:(s.heap.push { cls:=.type "tuple_iterator",data:=.fields #[.ref l,.int 0 0] }).objs.size=s.heap.objs.size+1:=gK ..
 show _∧_
 rw[hz]
 have he:IsEnum ((s.heap.push { cls:=.type "tuple_iterator",data:=.fields #[.ref l,.int 0 0] }).push
   { cls:=.type "enumerate",data:=.fields #[.none,.bool false,.ref s.heap.objs.size,ib 0,.none,.none] }) (s.heap.objs.size+1) s.heap.objs.size 0 .none:=by
  have:=aX (s.heap.push { cls:=.type "tuple_iterator",data:=.fields #[.ref l,.int 0 0] })
   (o:={ cls:=.type "enumerate",data:=.fields #[.none,.bool false,.ref s.heap.objs.size,ib 0,.none,.none] }) rfl
  rw[hz] at this;exact this
 exact⟨⟨_,he,rfl⟩,h _ he ⟨_,aT _ (aX _ rfl),rfl,rfl⟩ fun b o x=>aT _ (aT _ x)⟩
end
end
section
open PySem PySem.W PySem.Calls PyProof.Rows
section
variable {c:Cx}{d:Nat}{A:aU}{env:dI}{l l':Loc}{α bD ct:Am}{h h' h₀:cf}{H H':List ag}{s s':aH}
variable {Q:AV→List ag→Prop}{QB:Bool→List ag→Prop}{X:List ag→Prop}{pos:ij}{own own':aD→Prop}{QU:Loc→List ag→Prop}{kp:Nat}{SQ:AF→Loc→List ag→Prop}
theorem WX.Ge {t f:Expr}{es:List Expr}{body:List eF}{sb:ij}(hs:∀x,gA (.Call f es [] sb) env x=pure x)
  (Iu:gr (.Call f es [] sb) env=(do lU sb (←gr f env) [] (mB sb (dS es env)) [])) (i4:dS es env=es.map fun e=>(false,gr e env))
  (wf:WE c d A env f l H (fun a H1=>a=.fix (.type "enumerate")∧WA c d A env es l H1 (fun as H2=>as=[.tup []]∧SQ .next l H2) X) X):WX c d A env (.For t (.Call f es [] sb) body [] pos) l H SQ X:=fun α s I=>by
 refine wpAny_For (y9 (.inr (.inr ⟨_,rfl⟩)) Iu i4 wf I fun bE cY vs as eY cW cB jr p=>?_) hs
 refine bG p fun gC q=>?_
 clear p
 subst gC
 refine aq jr.one fun v iu rv=>?_
 subst iu
 refine aN rv.tup fun a items jX ht rs=>?_
 subst jX
 have h0:items=#[]:=by have:=rs.nil;rw[←kL (xs:=items),this]
 subst h0
 refine wC ht fun h1 he Ff hk=>wpAny_pyIter_enum he ?_
 refine bG (cB.grow (s':={ cY with heap:=h1 }) hk) fun m3 I3=>?_
 have GN:cY.heap.get? cY.heap.objs.size=none:=bR
 have UO:=Ff
 refine aL UO fun oi hoi hci hdi=>?_
 clear UO
 have Up:c.hb.get? cY.heap.objs.size=none:=by
  cases q:c.hb.get? cY.heap.objs.size with
  |none=>rfl
  |some o=>rw[cB.h.base _ _ q] at GN;exact nS (fZ GN)
 refine Nw (R:=fun r s'=>match r with | .ok f=>te c d A env α s.heap SQ f s' | .error e=>nQ c.M A env (kG c A env α s.heap X) e s')
  (fun n s'=>s'={ cY with heap:=h1 }) (fun n hZ e=>?_) 0 rfl
 subst e
 have D:Draws c.prog c.w A.in1 cY.heap.objs.size [cY.heap.objs.size,a] 0 (fun _ _=>True) (fun i h=>h.IsTupleIter cY.heap.objs.size a i∧dq h a #[]):=
  { live:=fun i h st=>let⟨o,ho,_⟩:=st.1;⟨o,ho⟩
    frame:=fun i h h' st hk=>⟨let⟨o,ho,r⟩:=st.1;⟨o,hk _ (by simp) o ho,r⟩,let⟨o,ho,r⟩:=st.2;⟨o,hk _ (by simp) o ho,r⟩⟩
    item:=fun i s Q E hi=>absurd hi (Nat.not_lt_zero _)
    done:=fun s Q E st hE=>uI I.r.hd st.1 st.2 (by simp) hE }
 refine wpAny_pyNext_enum_endD (s:={ cY with heap:=h1 }) D he ⟨Ff,ht.keeps hk⟩ fun h2 hx=>?_
 have xS:∀b o,b≠cY.heap.objs.size→h1.get? b=some o→h2.get? b=some o:=fun b o e1 e2=>hx b o e1 e2
 have I4:=I3.u7 (s':={ cY with heap:=h2 }) xS ⟨oi,_,hoi,hdi⟩ Up (cB.h.live GN) (cB.yu GN)
 exact jS ⟨.next,l,bE,eY,(cW.trans m3).s4 (cW.gone GN) xS,I4,rfl,q⟩
end
end
section
open PySem PySem.W PySem.Calls PyProof.Rows
noncomputable def UZ (k:Nat):List (bu×AV)→Bool
 |[]=>true
 |(_,x)::xs=>rM k x&&UZ k xs
noncomputable def ip (f:Nat→Nat):ag→ag
 |.list vs=>.list (j6 f vs)
 |.dict kvs=>.dict (nW f kvs)
 |.eU kvs ep=>.eU (nW f kvs) ep
 |.inst C fs=>.inst C (wz f fs)
noncomputable def yM (k:Nat):ag→Bool
 |.list vs=>ku k vs
 |.dict kvs=>kW k kvs
 |.eU kvs _=>kW k kvs
 |.inst _ fs=>UZ k fs
section
variable {c:Cx}{k:Nat}{α bD:Am}{h:cf}{f:Nat→Nat}
theorem Dm {xs:List (bu×AV)}:UZ k xs=true→∀x∈xs,rM k x.2=true:=by
 induction xs with
 |nil=>exact fun _ _ h=>nomatch h
 |cons x xs ih=>exact fun o=>gj.mpr ⟨(aS.mp o).1,ih (aS.mp o).2⟩
section back
variable (bk:∀{n:Nat}{p:aD×aD},n<k→α[f n]?=some p→bD[n]?=some p)
include bk
theorem bM.back {a:AV}{v:ai}(o:rM k a=true) (r:bM c h α (mD f a) v):bM c h bD a v:=by
 have:=(Mv.ok (c:=c) (g:=id) bk fun t=>t).V a o r;rw[mU] at this;exact this
theorem bl.back {a:List AV}{v:List ai}(o:ku k a=true) (r:bl c h α (j6 f a) v):bl c h bD a v:=by
 have:=bl.mo (fun x (hx:x∈a)=>(Mv.ok (c:=c) (g:=id) bk fun t=>t).V x (pb o x hx)) r;rw[pK] at this;exact this
theorem de.back {a:List (Int×AV)}{v:List (Int×ai)}(o:kW k a=true) (r:de c h α (nW f a) v):de c h bD a v:=by
 have:=de.mo (fun x (hx:x∈a)=>(Mv.ok (c:=c) (g:=id) bk fun t=>t).V x.2 (rO o x hx)) r;rw[sk] at this;exact this
theorem eN.back {a:List (bu×AV)}{v:List eo}(o:UZ k a=true) (r:eN c h α (wz f a) v):eN c h bD a v:=by
 have:=eN.mo (fun x (hx:x∈a)=>(Mv.ok (c:=c) (g:=id) bk fun t=>t).V x.2 (Dm o x hx)) r;rw[sf] at this;exact this
theorem lA.back {p:aD×aD}{x:ag}(o:yM k x=true) (r:lA c h α p (ip f x)):lA c h bD p x:=by
 cases x with
 |list vs=>obtain⟨items,n,h1,rs,q⟩:=r;exact⟨items,n,h1,rs.back bk o,q⟩
 |dict kvs=>obtain⟨kv,h1,rs,q⟩:=r;exact⟨kv,h1,rs.back bk o,q⟩
 |eU kvs ep=>obtain⟨kv,h1,rs,q⟩:=r;exact⟨kv,h1,rs.back bk o,q⟩
 |inst C fs=>obtain⟨es,n,sl,h1,h2,rs⟩:=r;exact⟨es,n,sl,h1,h2,rs.back bk o⟩
end back
end
structure tE (τ:List Nat) (H₁ H:List ag):Prop where
 len:τ.length=H₁.length
 nd:τ.Nodup
 at_:∀{i n:Nat}{x:ag},τ[i]?=some n→H₁[i]?=some x→yM τ.length x=true∧H[n]?=some (ip (τ.getD · 0) x)
noncomputable def wu (τ:List Nat) (l₁ l:Loc):Prop:=∀{i:Nat}{v:AV},l₁[i]?=some (some v)→rM τ.length v=true∧l[i]?=some (some (mD (τ.getD · 0) v))
noncomputable def zk (k:Nat) (f:Nat→Nat) (H:List ag):List Nat→List ag→Prop
 |n::τ,x::H₁=>(yM k x=true∧H[n]?=some (ip f x))∧zk k f H τ H₁
 |_,_=>True
theorem zk.at_ {k:Nat}{f:Nat→Nat}{H:List ag}{τ:List Nat}:∀{H₁:List ag}{i n:Nat}{x:ag},zk k f H τ H₁→τ[i]?=some n→H₁[i]?=some x→yM k x=true∧H[n]?=some (ip f x):=by
 induction τ with
 |nil=>exact fun _ e=>nS e
 |cons m τ ih=>
  intro H₁ i n x g e1 e2
  cases H₁ with
  |nil=>exact nS e2
  |cons y H₁=>cases i with
   |zero=>exact ae e1▸ae e2▸g.1
   |succ i=>exact ih (i:=i) g.2 e1 e2
theorem tE.of {τ:List Nat}{H₁ H:List ag}(len:τ.length=H₁.length) (nd:τ.Nodup) (g:zk τ.length (τ.getD · 0) H τ H₁):tE τ H₁ H:=⟨len,nd,g.at_⟩
theorem Bt {m:Nat}{τ:List Nat}(h:((bh m).all fun n=>τ[n]?==some n)=true):∀n,n<m→τ[n]?=some n:=fun n hn=>eq_of_beq (ba.mp h n (dg.mpr hn))
theorem EN {k:Nat}{l:List Nat}:∀{i:Nat},l.Nodup→(∀x∈l,x<k)→(l.set i k).Nodup:=by
 induction l with
 |nil=>exact fun h _=>h
 |cons x r ih=>
  intro i h hk
  have h:=du.mp h
  cases i with
  |zero=>exact du.mpr ⟨fun q=>gq k (hk k (aG _ q)),h.2⟩
  |succ i=>exact du.mpr ⟨fun q=>(List.mem_or_eq_of_mem_set q).elim h.1 fun q=>gq x (q▸hk x aI),ih h.2 fun y hy=>hk y (aG _ hy)⟩
noncomputable def uJ (k:Nat) (f:Nat→Nat):Loc→Loc→Prop
 |[],_=>True
 |none::r,l=>uJ k f r l.tail
 |some v::r,l=>(rM k v=true∧l[0]?=some (some (mD f v)))∧uJ k f r l.tail
theorem uJ.at_ {k:Nat}{f:Nat→Nat}{l₁:Loc}:∀{l:Loc}{i:Nat}{v:AV},uJ k f l₁ l→l₁[i]?=some (some v)→rM k v=true∧l[i]?=some (some (mD f v)):=by
 induction l₁ with
 |nil=>exact fun _ e=>nS e
 |cons o r ih=>
  intro l i v g e
  cases i with
  |zero=>
   replace e:=ae e
   subst e
   exact g.1
  |succ i=>
   rw[←List.getElem?_tail]
   cases o with
   |none=>exact ih (i:=i) g e
   |some u=>exact ih (i:=i) g.2 e
theorem wu.of {τ:List Nat}{l₁ l:Loc}(g:uJ τ.length (τ.getD · 0) l₁ l):wu τ l₁ l:=g.at_
noncomputable def o8 (τ:List Nat) (α:Am):Am:=τ.map fun i=>(α[i]?).getD (0,0)
section
variable {c:Cx}{d m:Nat}{A:aU}{env:dI}{l l₁:Loc}{α:Am}{h:cf}{H H₁:List ag}{s:aH}{τ:List Nat}{SQ:AF→Loc→List ag→Prop}{X:List ag→Prop}
theorem oM {n:Nat}{p:aD×aD}(iS:∀i∈τ,i<α.length) (e:(o8 τ α)[n]?=some p):∃j,τ[n]?=some j∧α[j]?=some p:=by
 unfold o8 at e
 rw[aK] at e
 cases hj:τ[n]? with
 |none=>rw[hj] at e;exact nS e
 |some j=>
  rw[hj] at e
  have hl:=iS j (a9 hj)
  rw[oo,aw hl] at e
  simp at e
  exact⟨j,rfl,by rw[aw hl,e]⟩
theorem nH {n:Nat}{p:aD×aD}(hn:n<τ.length) (e:α[τ.getD n 0]?=some p):(o8 τ α)[n]?=some p:=by
 unfold o8
 rw[aK,aw hn]
 rw[bt,aw hn] at e
 simp only[Fv] at e
 simp[e]
theorem kt {b:aD}(iS:∀i∈τ,i<α.length) (a:iU (o8 τ α) b):iU α b:=by
 obtain⟨n,p,e,q⟩:=a
 refine aq (oM iS e) fun j _ e2=>?_
 exact⟨j,p,e2,q⟩
theorem tE.lt (S:tE τ H₁ H):∀i∈τ,i<H.length:=fun i hi=>by
 refine al (eO.mp hi) fun n e=>?_
 have hn:=(ao.mp e).1
 have h2:=aw (S.len▸hn)
 exact(ao.mp (S.at_ e h2).2).1
theorem gu.sel (O:gu c h α H) (S:tE τ H₁ H):gu c h (o8 τ α) H₁:=by
 have iS:∀i∈τ,i<α.length:=fun i hi=>O.len▸S.lt i hi
 refine⟨by unfold o8;rw[aa,S.len],fun{n x p} e e'=>?_,fun{i j p q} e e' v7=>?_,O.base,fun b a=>O.new b (kt iS a)⟩
 ·refine aq (oM iS e') fun j h1 h2=>?_
  refine bG (S.at_ h1 e) fun o e3=>?_
  exact lA.back (k:=τ.length) (fun hn e=>nH hn e) o (O.cell e3 h2)
 ·refine aq (oM iS e) fun i' h1 h2=>?_
  refine aq (oM iS e') fun j' h3 h4=>?_
  refine O.apart h2 h4 fun q=>v7 ?_
  subst q
  exact(I9 (ao.mp h1).1 S.nd).mp (h1.trans h3.symm)
theorem pk.sel (F:pk c env h α l) (iS:∀i∈τ,i<α.length) (L:wu τ l₁ l):pk c env h (o8 τ α) l₁:=by
 refine aq F.ns fun m hm hr=>?_
 refine⟨⟨m,hm,fun{i x v} e1 e2=>?_⟩,fun{i x k} e1 hk=>?_,fun a=>F.no (kt iS a),F.new⟩
 ·refine bG (L e2) fun o e3=>?_
  refine aq (hr e1 e3) fun val q r=>?_
  exact⟨val,q,bM.back (k:=τ.length) (fun hn e=>nH hn e) o r⟩
 ·refine gc (F.cl e1 hk) fun b ov q1 q2 q3 q4 q5=>?_
  refine⟨b,ov,q1,q2,fun a=>q3 (kt iS a),q4,fun{v} e2=>?_⟩
  refine bG (L e2) fun o e3=>?_
  refine aq (q5 e3) fun val q r=>?_
  exact⟨val,q,bM.back (k:=τ.length) (fun hn e=>nH hn e) o r⟩
theorem dQ.sel {g:Sd}(K:dQ c A g h α) (iS:∀i∈τ,i<α.length):dQ c A g h (o8 τ α):=by
 refine aL K.fr fun lf q1 q2 q3=>?_
 exact⟨⟨lf,q1,q2,fun en he b hb a=>q3 en he b hb (kt iS a)⟩,K.la⟩
theorem Inv.sel (I:Inv c d A env l α H s) (S:tE τ H₁ H) (L:wu τ l₁ l):Inv c d A env l₁ (o8 τ α) H₁ s:=by
 have iS:∀i∈τ,i<α.length:=fun i hi=>I.h.len▸S.lt i hi
 exact⟨I.ok,I.e,I.r,I.top,I.h.sel S,I.f.sel iS L,I.k.sel iS⟩
inductive TX (m:Nat) (SQ:AF→Loc→List ag→Prop) (a:AV) (H:List ag):Prop
 |mk (τ:List Nat) (Ig:AV) (H₁:List ag) (hm:∀n,n<m→τ[n]?=some n) (S:tE τ H₁ H) (o:rM τ.length Ig=true) (e:a=mD (τ.getD · 0) Ig) (q:SQ (.ret Ig) [] H₁)
inductive Sp (m:Nat) (SQ:AF→Loc→List ag→Prop) (f:AF) (l:Loc) (H:List ag):Prop
 |mk (τ:List Nat) (l₁:Loc) (H₁:List ag) (hm:∀n,n<m→τ[n]?=some n) (S:tE τ H₁ H) (L:wu τ l₁ l) (q:SQ f l₁ H₁)
noncomputable def Ua (m:Nat) (SQ:AF→Loc→List ag→Prop):AF→Loc→List ag→Prop:=fun f l H=>
 match f with
 |.ret a=>TX m SQ a H
 |f=>Sp m SQ f l H
theorem hM.sel {env:dI}{f:AA}{s':aH}(p:hM c d m A env α h (Ua m SQ) f s'):hM c d m A env α h SQ f s':=by
 obtain⟨af,l',bD,H',y,I',fr,q⟩:=p
 have key:∀{τ:List Nat}{H₁:List ag},(∀n,n<m→τ[n]?=some n)→tE τ H₁ H'→(∀i∈τ,i<bD.length)∧dD m A (cz env) α h (o8 τ bD) s'.heap:=fun{τ H₁} hm S=>by
  have iS:∀i∈τ,i<bD.length:=fun i hi=>I'.h.len▸S.lt i hi
  refine⟨iS,fun{n p} hn e=>?_,fun{b} a=>y.fresh (kt iS a),y.alive,y.keep,y.slot⟩
  refine nH (ao.mp (hm n hn)).1 ?_
  rw[bt,hm n hn];exact y.pre hn e
 have fin:∀{τ:List Nat}{l₁:Loc}{H₁:List ag}(g:AF),af=g→(∀v,g≠.ret v)→(∀n,n<m→τ[n]?=some n)→tE τ H₁ H'→wu τ l₁ l'→SQ g l₁ H₁→hM c d m A env α h SQ f s':=fun{τ l₁ H₁} g hg hr hm S L q=>by
  refine bG (key hm S) fun iS y'=>?_
  refine⟨g,l₁,_,H₁,y',I'.sel S L,?_,q⟩
  subst hg
  cases af<;>first | exact fr | exact absurd rfl (hr _)
 cases af with
 |next=>obtain⟨τ,l₁,H₁,hm,S,L,q⟩:=q;exact fin .next rfl (fun _ e=>by cases e) hm S L q
 |brk=>obtain⟨τ,l₁,H₁,hm,S,L,q⟩:=q;exact fin .brk rfl (fun _ e=>by cases e) hm S L q
 |cont=>obtain⟨τ,l₁,H₁,hm,S,L,q⟩:=q;exact fin .cont rfl (fun _ e=>by cases e) hm S L q
 |ret a=>
  obtain⟨τ,Ig,H₁,hm,S,o,rfl,q⟩:=q
  refine bG (key hm S) fun iS y'=>?_
  refine aq fr fun v jZ r=>?_
  clear fr
  subst jZ
  refine⟨.ret Ig,[],_,H₁,y',I'.sel S (l₁:=[]) (fun{i v} e=>by simp at e),⟨v,rfl,bM.back (k:=τ.length) (fun hn e=>nH hn e) o r⟩,q⟩
noncomputable def dT (m:Nat) (Q:AF→Loc→List ag→Prop):AF→Loc→List ag→Prop:=fun f l H=>Q f l H∨Ua m Q f l H
theorem VS.H6 {env:dI}{ss:List eF}(w:VS c d m A env ss l H (dT m SQ) X):VS c d m A env ss l H SQ X:=fun α s I=>
 au (w α s I) (by rintro f s' ⟨af,l',bD,H',y,I',fr,q⟩;exact q.elim (fun q=>⟨af,l',bD,H',y,I',fr,q⟩) fun q=>hM.sel ⟨af,l',bD,H',y,I',fr,q⟩) fun _ _ e=>e
end
end
section
open PySem PySem.W PySem.Calls PyProof.Rows
section
variable {c:Cx}{α bD:Am}{h:cf}{f:Nat→Nat}
section fwd
variable (fw:∀{n:Nat}{p:aD×aD},α[n]?=some p→bD[f n]?=some p)
include fw
theorem V6:Mv c h h α bD id f fun _=>True:=⟨fun _ _ _=>trivial,fun _ _ _=>trivial,fun _=>fw,fun t=>t⟩
theorem bM.fwd {a:AV}{v:ai}(r:bM c h α a v):bM c h bD (mD f a) v:=(V6 fw).V a trivial (by rw[mU];exact r)
theorem bl.fwd {a:List AV}{v:List ai}(r:bl c h α a v):bl c h bD (j6 f a) v:=bl.mo (fun x _=>(V6 fw).V x trivial) (by rw[pK];exact r)
theorem de.fwd {a:List (Int×AV)}{v:List (Int×ai)}(r:de c h α a v):de c h bD (nW f a) v:=de.mo (fun x _=>(V6 fw).V x.2 trivial) (by rw[sk];exact r)
theorem eN.fwd {a:List (bu×AV)}{v:List eo}(r:eN c h α a v):eN c h bD (wz f a) v:=eN.mo (fun x _=>(V6 fw).V x.2 trivial) (by rw[sf];exact r)
theorem lA.fwd {p:aD×aD}{x:ag}(r:lA c h α p x):lA c h bD p (ip f x):=by
 cases x with
 |list vs=>obtain⟨items,n,h1,rs,q⟩:=r;exact⟨items,n,h1,rs.fwd fw,q⟩
 |dict kvs=>obtain⟨kv,h1,rs,q⟩:=r;exact⟨kv,h1,rs.fwd fw,q⟩
 |eU kvs ep=>obtain⟨kv,h1,rs,q⟩:=r;exact⟨kv,h1,rs.fwd fw,q⟩
 |inst C fs=>obtain⟨es,n,sl,h1,h2,rs⟩:=r;exact⟨es,n,sl,h1,h2,rs.fwd fw⟩
end fwd
end
noncomputable def fr (σ:List Nat) (N n:Nat):Nat:=match σ[n]? with
 |some i=>i
 |none=>N+(n-σ.length)
noncomputable def putAt (f:Nat→Nat):List Nat→List ag→List ag→List ag
 |n::ns,H,x::xs=>putAt f ns (H.set n (ip f x)) xs
 |_,H,_=>H
noncomputable def put (σ:List Nat) (H H₀:List ag):List ag:=putAt (fr σ H.length) σ H H₀++(H₀.drop σ.length).map (ip (fr σ H.length))
theorem je (f:Nat→Nat) (σ:List Nat):∀(H H₀:List ag),(putAt f σ H H₀).length=H.length:=by
 induction σ with
 |nil=>exact fun _ _=>rfl
 |cons n ns ih=>
  intro H H₀
  cases H₀ with
  |nil=>rfl
  |cons x xs=>exact(ih _ xs).trans (dH ..)
theorem u4 (f:Nat→Nat){n:Nat}{σ:List Nat}:∀{H H₀:List ag},n∉σ→(putAt f σ H H₀)[n]?=H[n]?:=by
 induction σ with
 |nil=>exact fun _=>rfl
 |cons m ms ih=>
  intro H H₀ h
  cases H₀ with
  |nil=>rfl
  |cons x xs=>exact(ih fun y=>h (aG _ y)).trans (cO fun e=>h (br.mpr (.inl e.symm)))
theorem Ah (f:Nat→Nat){n:Nat}{x:ag}{σ:List Nat}:∀{i:Nat}{H H₀:List ag},σ.Nodup→σ[i]?=some n→H₀[i]?=some x→n<H.length→(putAt f σ H H₀)[n]?=some (ip f x):=by
 induction σ with
 |nil=>exact fun _ h=>nS h
 |cons m ms ih=>
  intro i H H₀ nd h1 h2 h3
  cases H₀ with
  |nil=>exact nS h2
  |cons y ys=>
   have nd:=du.mp nd
   cases i with
   |zero=>
    replace h1:=ae h1
    replace h2:=ae h2
    subst h1 h2
    exact(u4 f nd.1).trans (ew h3)
   |succ i=>exact ih (i:=i) nd.2 h1 h2 (Nat.lt_of_lt_of_eq h3 (dH ..).symm)
section
variable {c:Cx}{d:Nat}{A:aU}{α:Am}{h h':cf}{H H₀ qn:List ag}{s s':aH}{σ:List Nat}
theorem Ak:(o8 σ α).length=σ.length:=by unfold o8;rw[aa]
theorem uW (O:gu c h α H) (S:tE σ H₀ H) (Lb:∀b,AI A b→¬iU α b){iH:Am}(m:bO A iQ (o8 σ α) h iH h') (O':gu c h' iH qn) :
  bO A iQ α h (α++iH.drop σ.length) h'∧gu c h' (α++iH.drop σ.length) (put σ H qn)∧∀{n:Nat}{p:aD×aD},iH[n]?=some p→(α++iH.drop σ.length)[fr σ H.length n]?=some p:=by
 have iS:∀i∈σ,i<α.length:=fun i hi=>O.len▸S.lt i hi
 have yO:σ.length≤iH.length:=by
  cases hz:σ.length with
  |zero=>exact cR _
  |succ k=>
   have hk:k<(o8 σ α).length:=by rw[Ak];exact aW [_,_] [] [.E aB (.a aM bP)] (.T aM aB) cN rfl hz
   have:=(ao.mp (m.pre (aw hk))).1
   exact f9 0 this rfl
 have hHl:qn.length=iH.length:=O'.len.symm
 have old:∀{i n:Nat},σ[i]?=some n→∀{p:aD×aD},α[n]?=some p→iH[i]?=some p:=fun{i n} e {p} e2=>by
  refine m.pre (nH (ao.mp e).1 ?_)
  rw[bt,e];exact e2
 have fw:∀{n:Nat}{p:aD×aD},iH[n]?=some p→(α++iH.drop σ.length)[fr σ H.length n]?=some p:=fun{n p} e=>by
  unfold fr
  cases hs:σ[n]? with
  |some i=>
   have hi:=iS i (a9 hs)
   dsimp only
   rw[aC hi]
   have:=old hs (aw hi)
   rw[e] at this
   rw[aw hi,this]
  |none=>
   have hn:σ.length≤n:=by simpa using hs
   dsimp only
   rw[aY (by rw[O.len];exact bC _ _),cG,O.len]
   rw[show σ.length+(H.length+(n-σ.length)-H.length)=n by exact aW [_,_,_,_,_] [] [.L aB aM,.fs cg aM aB,.fs fz (.a ji cg) ji] (.E (.a aB fz) aM) (.o (.o (.o (.k [1,0,0,1,0,0,1]) ub) (.o (.k [1,1,0,0,0,0,1]) (.k [1,0,1,0,0,0,0,1]))) (.o (.o (.k [1,0,0,0,1]) (.k [1,0,1,0,0,1,0,1])) (.o (.k [1,0,0,0,1]) (.k [1,0,1,0,0,0,0,1])))) rfl hn (eV _ _) (eV _ _)];exact e
 have mm:bO A iQ α h (α++iH.drop σ.length) h':=by
  refine⟨fun{n p} e=>by rw[aC (ao.mp e).1];exact e,fun{b} a=>?_,m.alive,fun e n1 n2 n3=>m.keep e (fun a=>n1 (kt iS a)) n2 n3,fun e n1 n2=>m.slot e (fun a=>n1 (kt iS a)) n2⟩
  obtain⟨n,p,e,q⟩:=a
  by_cases hn:n<α.length
  ·rw[aC hn] at e;exact .inl ⟨n,p,e,q⟩
  ·rw[aY (by exact aR hn),cG] at e
   rcases m.fresh ⟨_,p,e,q⟩ with a | a
   ·exact .inl (kt iS a)
   ·exact .inr a
 refine⟨mm,?_,fw⟩
 have tk:∀{a:aD}{items:Array ai},dq h a items→dq h' a items:=fun t=>mm.tup O (eM.no h) t
 -- where a new one YH
 have MZ:∀{n:Nat}{p:aD×aD},σ.length≤n→iH[n]?=some p→h.get? p.1=none∧h.get? p.2=none:=fun{n p} hn e=>by
  have one:∀b,b=p.1∨b=p.2→h.get? b=none:=fun b hb=>by
   rcases m.fresh ⟨n,p,e,hb⟩ with⟨i,q,e2,hq⟩ | a
   ·exfalso
    have hi:=(ao.mp e2).1
    rw[Ak] at hi
    have:=O'.apart (m.pre e2) e (by exact bV (aV hi hn))
    rcases hb with rfl | rfl<;>rcases hq with hq | hq
    ·exact this.1 hq.symm
    ·exact this.2.2.1 hq.symm
    ·exact this.2.1 hq.symm
    ·exact this.2.2.2 hq.symm
   ·exact a
  exact⟨one _ (.inl rfl),one _ (.inr rfl)⟩
 have live:∀{n:Nat}{p:aD×aD},α[n]?=some p→h.get? p.1≠none∧h.get? p.2≠none:=fun{n p} e=>by
  constructor
  ·refine aq (O.at ⟨n,p,e,.inl rfl⟩) fun o ho _=>?_;rw[ho];exact fun q=>by exact nS (fZ q)
  ·refine aq (O.at ⟨n,p,e,.inr rfl⟩) fun o ho _=>?_;rw[ho];exact fun q=>by exact nS (fZ q)
 refine⟨?_,fun{n x p} e e'=>?_,fun{i j p q} e e' v7=>?_,fun b o e=>?_,fun b a=>?_⟩
 ·unfold put
  rw[ah,ah,je,aa,aJ,aJ,O.len,hHl]
 ·unfold put at e
  by_cases hn:n<H.length
  ·rw[aC (by rw[je];exact hn)] at e
   rw[aC (by rw[O.len];exact hn)] at e'
   by_cases hs:n∈σ
   ·refine al (eO.mp hs) fun i hi=>?_
    have hil:=(ao.mp hi).1
    have hx:=aw (show i<qn.length by exact aW [_,_,_,_] [] [.L aB aM,.E cg aM,.T fz aB] (.T fz cg) (.k [1,1,0,1,1]) rfl yO hHl hil)
    rw[Ah _ S.nd hi hx hn] at e
    replace e:=ae e
    subst e
    exact lA.fwd fw (O'.cell hx (old hi e'))
   ·rw[u4 _ hs] at e
    refine lA.qm (fun e=>mm.pre e) tk (fun b o hb e2=>?_) (O.cell e e')
    refine m.keep e2 (fun a=>?_) id fun q=>Lb b q ⟨n,p,e',hb⟩
    obtain⟨i,q,e3,hq⟩:=a
    refine aq (oM iS e3) fun j h1 h2=>?_
    have hjn:j≠n:=fun q=>hs (q▸a9 h1)
    have:=O.apart h2 e' hjn
    rcases hb with rfl | rfl<;>rcases hq with hq | hq
    ·exact this.1 hq.symm
    ·exact this.2.2.1 hq.symm
    ·exact this.2.1 hq.symm
    ·exact this.2.2.2 hq.symm
  ·rw[aY (by rw[je];exact aR hn),je,aK,cG] at e
   rw[aY (by rw[O.len];exact aR hn),cG,O.len] at e'
   refine aq (bB.mp e) fun y hy mI=>?_
   subst mI
   exact lA.fwd fw (O'.cell hy e')
 ·by_cases hi:i<α.length<;>by_cases hj:j<α.length
  ·rw[aC hi] at e
   rw[aC hj] at e'
   exact O.apart e e' v7
  ·rw[aC hi] at e
   rw[aY (by exact aR hj),cG] at e'
   have h1:=MZ (by exact bC _ _) e'
   have h2:=live e
   exact⟨fun q=>h2.1 (q▸h1.1),fun q=>h2.1 (q▸h1.2),fun q=>h2.2 (q▸h1.1),fun q=>h2.2 (q▸h1.2)⟩
  ·rw[aY (by exact aR hi),cG] at e
   rw[aC hj] at e'
   have h1:=MZ (by exact bC _ _) e
   have h2:=live e'
   exact⟨fun q=>h2.1 (q▸h1.1),fun q=>h2.2 (q▸h1.1),fun q=>h2.1 (q▸h1.2),fun q=>h2.2 (q▸h1.2)⟩
  ·rw[aY (by lia),cG] at e e'
   exact O'.apart e e' (by exact aW [_,_,_,_,_,_] [] [.N (.E aB aM),.N (.T aB cg),.N (.T aM cg),.fs fz aB cg,.fs ji aM cg] (.N (.E (.a qD fz) (.a qD ji))) (.o (.o (.o (.k [0,1,0,0,1,0,1,0,0,0,1]) (.k [0,0,1,0,0,0,0,0,0,1,1])) (.o (.k [0,1,0,0,1,0,1,0,0,1,1]) (.k [0,0,1,0,0,0,0,0,0,1,1]))) (.o (.o (.k [1,0,0,1,0,0,0,1,0,0,1]) (.k [1,0,0,1,0,0,0,1,1,0,1])) (.o (.k [0,0,0,0,0,1,0,0,1,0,1]) (.k [0,0,0,0,0,1,0,0,1,0,1])))) rfl v7 hi hj (eV _ _) (eV _ _))
 ·exact O'.base b o e
 ·obtain⟨n,p,e,q⟩:=a
  by_cases hn:n<α.length
  ·rw[aC hn] at e;exact O.new b ⟨n,p,e,q⟩
  ·rw[aY (by exact aR hn),cG] at e;exact O'.new b ⟨_,p,e,q⟩
theorem dQ.both {g g':Sd}{iH:Am}(K:dQ c A g h α) (K':dQ c A g' h' iH):dQ c A g' h' (α++iH.drop σ.length):=by
 refine aL K.fr fun lf q1 q2 q3=>?_
 refine aL K'.fr fun lf' r1 r2 r3=>?_
 rw[q1] at r1;replace r1:=ae r1;subst r1
 refine⟨⟨lf,q1,r2,fun en he b hb a=>?_⟩,K'.la⟩
 obtain⟨n,p,e,q⟩:=a
 by_cases hn:n<α.length
 ·rw[aC hn] at e;exact q3 en he b hb ⟨n,p,e,q⟩
 ·rw[aY (by exact aR hn),cG] at e;exact r3 en he b hb ⟨_,p,e,q⟩
theorem WC.frame {f:ai}{as as₀:List AV}{Q Q₀:AV→List ag→Prop}{X X₀:List ag→Prop}(σ:List Nat) (S:tE σ H₀ H) (has:as=j6 (σ.getD · 0) as₀) (ho:ku σ.length as₀=true) (w:WC c d f as₀ H₀ Q₀ X₀)
  (hQ:∀v qn,Q₀ v qn→Q (mD (fr σ H.length) v) (put σ H qn)) (hX:∀qn,X₀ qn→X (put σ H qn)):WC c d f as H Q X:=fun A α s vs I r=>by
 subst has
 have iS:∀i∈σ,i<α.length:=fun i hi=>I.h.len▸S.lt i hi
 have Lb:∀b,AI A b→¬iU α b:=by
  rintro b ⟨lf,en,e1,e2,e3⟩
  refine aL I.k.fr fun lf' q1 _ q3=>?_
  rw[e1] at q1;replace q1:=ae q1;subst q1
  exact q3 en e2 b e3
 have I₀:FO c d A (o8 σ α) H₀ s:=⟨I.ok,I.r,I.h.sel S,I.k.sel iS⟩
 have aac:bl c s.heap (o8 σ α) as₀ vs:=r.back (fun hn e=>nH hn e) ho
 have key:=w A _ s vs I₀ aac
 refine qT key fun Jp s' p=>?_
 cases Jp with
 |ok fl=>
  cases fl with
  |ret v=>
   obtain⟨a,bD,H',m,O',K',rv,q⟩:=p
   refine bQ (uW I.h S Lb m O') fun mm OO fw=>?_
   exact⟨_,_,_,mm,OO,I.k.both K',rv.fwd fw,hQ _ _ q⟩
  |_=>exact p
 |error e=>
  obtain⟨e',bD,H',rfl,z,m,O',K',q⟩:=p
  refine bQ (uW I.h S Lb m O') fun mm OO fw=>?_
  refine⟨e',_,_,rfl,?_,mm,OO,I.k.both K',hX _ q⟩
  have off:∀{b:aD},s.heap.get? b=none→¬iU bD b→¬iU (α++bD.drop σ.length) b:=fun{b} e1 n1 a=>by
   obtain⟨n,p,e,q⟩:=a
   by_cases hn:n<α.length
   ·rw[aC hn] at e;exact I.h.live e1 ⟨n,p,e,q⟩
   ·rw[aY (by exact aR hn),cG] at e;exact n1 ⟨_,p,e,q⟩
  obtain⟨z1,z2,z3,oe,ws,a0,z4,z5,z6,z7,T,oT,ts,y1,y2,y3,y4,y5,y6,y7,y8⟩:=z
  exact⟨off z3 z1,z2,z3,oe,ws,a0,z4,z5,z6,z7,T,oT,ts,y1,y2,y3,y4,y5,off y8 y6,y7,y8⟩
end
end
section
open PySem PySem.W PySem.Calls PyProof.Rows
set_option backward.match.sparseCases false
structure Sx where
 names:List (bu×bc)
 gt:List (bu×AV)
 ft:List (aD×List bu)
 mt:List (aD×List (bu×aD))
structure VZ where
 c:Cx
 d:Nat
 A:aU
 env:dI
 X:List ag→Prop
noncomputable def oZ:List (bu×bc)→bu→Nat→Option (Nat×bc)
 |[],_,_=>none
 |(y,k)::r,x,i=>bif y==x then some (i,k) else oZ r x (i+1)
noncomputable def jR {β:Type}:List (bu×β)→bu→Option β
 |[],_=>none
 |(y,k)::r,x=>bif y==x then some k else jR r x
noncomputable def kM {β:Type}:List (aD×β)→aD→Option β
 |[],_=>none
 |(y,k)::r,x=>bif tP y x then some k else kM r x
noncomputable def Gk:List bu→bu→Bool
 |[],_=>false
 |y::r,x=>bif y==x then true else Gk r x
noncomputable def Lw (ft:List (aD×List bu)) (C:aD) (x:bu):Bool:=match kM ft C with
 |some l=>Gk l x
 |none=>false
noncomputable def Kd (mt:List (aD×List (bu×aD))) (C:aD) (x:bu):Option aD:=match kM mt C with
 |some l=>jR l x
 |none=>none
noncomputable def sJ:Expr→Bool
 |.Starred _ _=>true
 |_=>false
noncomputable def noStar:List Expr→Bool
 |[]=>true
 |e::r=>bif sJ e then false else noStar r
noncomputable def yk:Expr→Option (Option Expr×Option Expr×Option Expr)
 |.Slice e1 e2 st _=>some (e1,e2,st)
 |_=>none
noncomputable def sD:Expr→Bool
 |.Name ..=>true
 |.Attribute ..=>true
 |.Subscript ..=>true
 |_=>false
section
variable (z:VZ) (l:Loc) (H:List ag)
noncomputable def C8:ag→Option (List AV)
 |.list vs=>some vs
 |_=>none
noncomputable def HM:ag→Option (List (Int×AV))
 |.dict kvs=>some kvs
 |.eU kvs _=>some kvs
 |_=>none
noncomputable def gb {α:Type}(o:Option α) (d:Prop) (P:α→Prop):Prop:=match o with
 |none=>d
 |some x=>P x
noncomputable def listAt (H:List ag) (n:Nat):Option (List AV):=jq H[n]? C8
noncomputable def il (H:List ag):AV→Option (List (Int×AV))
 |.iX kvs=>some kvs
 |.obj n=>jq H[n]? HM
 |_=>none
noncomputable def J0:AV→Bool
 |.none=>true
 |_=>false
noncomputable def two (p:Prop) (H:List ag) (K:Bool→List ag→Prop):Prop:=(p→K true H)∧(¬p→K false H)
noncomputable def uN (a:AV) (rL:Prop) (P:Int→Prop):Prop:=match a with
 |.int i=>P i
 |_=>rL
noncomputable def tH (a b:AV) (rL:Prop) (P:Int→Int→Prop):Prop:=uN a rL fun i=>uN b rL (P i)
noncomputable def vEq (a b:AV) (K:Bool→List ag→Prop) (rL:Prop):Prop:=match a with
 |.int i=>match b with
  |.int j=>two (i=j) H K
  |_=>rL
 |.str x=>match b with
  |.str y=>K (x==y) H
  |_=>rL
 |_=>rL
noncomputable def SG (a b:AV) (rL:Prop) (P:Bool→Prop):Prop:=match a with
 |.int k=>gb (il H b) rL fun kvs=>P (kvs.lookup k).isSome
 |_=>rL
noncomputable def vIs (a b:AV) (rL:Prop) (K:Bool→List ag→Prop):Prop:=match b with
 |.none=>bif vi a then K (J0 a) H else False
 |_=>rL
noncomputable def DJ (op:mE) (a b:AV) (K:Bool→List ag→Prop):Prop:=match op with
 |.Lt=>tH a b (WO z.c z.d z.A z.env .Lt a b l H K z.X) fun i j=>two (i<j) H K
 |.LtE=>tH a b (WO z.c z.d z.A z.env .LtE a b l H K z.X) fun i j=>two (i≤j) H K
 |.Gt=>tH a b (WO z.c z.d z.A z.env .Gt a b l H K z.X) fun i j=>two (i>j) H K
 |.GtE=>tH a b (WO z.c z.d z.A z.env .GtE a b l H K z.X) fun i j=>two (i≥j) H K
 |.NotEq=>tH a b (WO z.c z.d z.A z.env .NotEq a b l H K z.X) fun i j=>two (i≠j) H K
 |.Eq=>vEq H a b K (WO z.c z.d z.A z.env .Eq a b l H K z.X)
 |.In=>SG H a b (WO z.c z.d z.A z.env .In a b l H K z.X) fun t=>K t H
 |.NotIn=>SG H a b (WO z.c z.d z.A z.env .NotIn a b l H K z.X) fun t=>K (!t) H
 |.Is=>vIs H a b (WO z.c z.d z.A z.env .Is a b l H K z.X) K
 |.IsNot=>WO z.c z.d z.A z.env .IsNot a b l H K z.X
noncomputable def UX (a b:AV) (K:AV→List ag→Prop):Prop:=match a with
 |.int i=>match b with
  |.int j=>K (.int (i+j)) H
  |_=>False
 |.obj n=>match b with
  |.obj m=>gb (listAt H n) False fun vs=>gb (listAt H m) False fun ws=>vs.length+ws.length≤1000000∧K (.obj H.length) (H++[.list (vs++ws)])
  |_=>False
 |.tup vs=>match b with
  |.tup ws=>vs.length+ws.length≤1000000∧K (.tup (vs++ws)) H
  |_=>False
 |.str x=>match b with
  |.str y=>x.length+y.length≤1000000∧K (.str (x++y)) H
  |_=>False
 |_=>False
noncomputable def Vh (a b:AV) (K:AV→List ag→Prop):Prop:=match a with
 |.int i=>match b with
  |.int j=>IntMulOk i j∧K (.int (i*j)) H
  |_=>False
 |.obj n=>match b with
  |.int k=>gb (listAt H n) False fun vs=>((k<2^62∧-(2^62)<k)∧vs.length*k.toNat≤1000000)∧K (.obj H.length) (H++[.list (bH k.toNat vs).flatten])
  |_=>False
 |_=>False
noncomputable def TK (op:Ch) (a b:AV) (K:AV→List ag→Prop):Prop:=match op with
 |.Add=>UX H a b K
 |.Sub=>tH a b False fun i j=>K (.int (i-j)) H
 |.Mult=>Vh H a b K
 |.Mod=>tH a b False fun i j=>0<j∧K (.int (i%j)) H
 |.FloorDiv=>tH a b False fun i j=>(0<j∧j<1073741824)∧K (.int (i / j)) H
 |.RShift=>tH a b False fun i j=>0≤j∧K (.int (i / (2^j.toNat))) H
 |op=>WV z.c z.d z.A z.env (fun vs=>fb op (vs[0]?.getD .none) (vs[1]?.getD .none)) [a,b] l H K z.X
noncomputable def V0 (a:AV) (K:Bool→List ag→Prop):Prop:=match a with
 |.bool b=>K b H
 |.none=>K false H
 |.int i=>two (i≠0) H K
 |a=>yP z.c z.d z.A z.env a l H K z.X
noncomputable def Mx (a:AV) (K:AV→List ag→Prop):Prop:=match a with
 |.obj n=>gb (listAt H n) False fun vs=>vs.length≤1000000∧K (.int vs.length) H
 |_=>False
noncomputable def Rw (a:AV) (K:AV→List ag→Prop):Prop:=match a with
 |.eg b=>b.length≤1000000∧K (.int b.length) H
 |.tup vs=>vs.length≤1000000∧K (.int vs.length) H
 |.str x=>x.length≤1000000∧K (.int x.length) H
 |a=>gb (il H a) (Mx H a K) fun kvs=>kvs.length≤1000000∧K (.int kvs.length) H
noncomputable def ZE (a:AV) (K:AV→List ag→Prop):Prop:=∃i j k,a=.tup [.int i,.int j,.int k]∧K (.int (min (min i j) k)) H
noncomputable def W0 (a:AV) (K:AV→List ag→Prop):Prop:=∃u,a=.str ⟨⟨[u]⟩⟩∧K (.int u) H
noncomputable def UG (a:AV) (T:String) (K:AV→List ag→Prop):Prop:=match a with
 |.eg b=>bif T=="bytes" then K (.bool true) H else False
 |.int i=>bif T=="int" then K (.bool true) H else bif T=="bool" then K (.bool false) H else False
 |.str x=>bif T=="str" then K (.bool true) H else False
 |.tup vs=>bif T=="tuple" then K (.bool true) H else False
 |_=>False
noncomputable def Sg (a:AV) (K:AV→List ag→Prop):Prop:=match a with
 |.tup vs=>K (.tup vs) H
 |.obj n=>gb (listAt H n) False fun vs=>vs.length≤1000000∧K (.tup vs) H
 |_=>False
noncomputable def My (a:AV) (K:AV→List ag→Prop):Prop:=match a with
 |.tup vs=>vs.length≤1000000∧K (.obj H.length) (H++[.list vs])
 |.eg b=>b.length≤1000000∧K (.obj H.length) (H++[.list (b.map fun x=>.int x.toNat)])
 |.obj n=>gb (listAt H n) False fun vs=>vs.length≤1000000∧K (.obj H.length) (H++[.list vs])
 |_=>False
noncomputable def SK (a:AV) (K:AV→List ag→Prop):Prop:=gb (il H a) False fun kvs=>kvs.length≤1000000∧K (.obj H.length) (H++[.dict kvs])
noncomputable def Cv (a b:AV) (K:AV→List ag→Prop):Prop:=match a with
 |.obj n=>gb (listAt H n) False fun vs=>vs.length≤1000000∧K .none (H.set n (.list (vs++[b])))
 |_=>False
noncomputable def SS (a b dv:AV) (K:AV→List ag→Prop):Prop:=uN b False fun k=>gb (il H a) False fun kvs=>K ((kvs.lookup k).getD dv) H
noncomputable def vB1 (f:String) (a:AV) (K:AV→List ag→Prop) (rL:Prop):Prop:=
 bif f=="len" then Rw H a K else bif f=="abs" then (uN a False fun i=>K (.int (if i<0 then -i else i)) H) else bif f=="min" then ZE H a K else bif f=="ord" then W0 H a K else
 bif f=="sum" then (match a with | .eg b=>K (.int ((b.map fun x=>(x.toNat:Int)).sum)) H | _=>rL) else rL
noncomputable def vB2 (f:String) (a b:AV) (K:AV→List ag→Prop) (rL:Prop):Prop:=
 bif f=="list.append" then Cv H a b K else bif f=="max" then tH a b False (fun i j=>K (.int (max i j)) H) else bif f=="min" then tH a b False (fun i j=>K (.int (min i j)) H) else
 bif f=="isinstance" then (match b with | .fix (.type T)=>UG H a T K | _=>False) else bif f=="dict.get" then SS H a b .none K else rL
noncomputable def vT1 (T:String) (a:AV) (K:AV→List ag→Prop) (rL:Prop):Prop:=
 bif T=="int" then (uN a False fun i=>K (.int i) H) else bif T=="tuple" then Sg H a K else bif T=="list" then My H a K else bif T=="dict" then SK H a K else rL
noncomputable def HZ (v:ai) (as:List AV) (K:AV→List ag→Prop):Prop:=match v with
 |.ref f=>WC z.c z.d (.ref f) as H K z.X
 |.builtin f=>match as with
  |[a]=>vB1 H f a K (WV z.c z.d z.A z.env (fun xs=>PySem.call (.builtin f) xs) as l H K z.X)
  |[a,b]=>vB2 H f a b K (WV z.c z.d z.A z.env (fun xs=>PySem.call (.builtin f) xs) as l H K z.X)
  |[a,b,dv]=>bif f=="dict.get" then SS H a b dv K else WV z.c z.d z.A z.env (fun xs=>PySem.call (.builtin f) xs) as l H K z.X
  |as=>WV z.c z.d z.A z.env (fun xs=>PySem.call (.builtin f) xs) as l H K z.X
 |.type T=>match as with
  |[a]=>vT1 H T a K (WV z.c z.d z.A z.env (fun xs=>PySem.call (.type T) xs) as l H K z.X)
  |as=>WV z.c z.d z.A z.env (fun xs=>PySem.call (.type T) xs) as l H K z.X
 |v=>False
noncomputable def B1 (a:AV) (k:Int) (K:AV→List ag→Prop):Prop:=match a with
 |.obj n=>gb (listAt H n) False fun vs=>(0≤k∧k<2^63)∧∃x,vs[k.toNat]?=some x∧K x H
 |_=>False
noncomputable def GH (a b:AV) (K:AV→List ag→Prop):Prop:=match b with
 |.int k=>match a with
  |.tup vs=>match k with
   |.ofNat k=>gb vs[k]? False fun x=>bif ik k 1000000 then K x H else False
   |_=>WG z.c z.d z.A z.env a b l H K z.X
  |.eg b=>((0≤k∧k<b.length)∧b.length≤1099511627776)∧K (.int (b.getD k.toNat 0).toNat) H
  |.str x=>WG z.c z.d z.A z.env (.str x) b l H K z.X
  |a=>gb (il H a) (B1 H a k K) fun kvs=>∃x,kvs.lookup k=some x∧K x H
 |b=>WG z.c z.d z.A z.env a b l H K z.X
noncomputable def vSl (a:AV) (lo hi:Option Int) (K:AV→List ag→Prop):Prop:=match a with
 |.eg b=>b.length≤1000000∧K (.eg (lM lo hi b)) H
 |.obj n=>gb (listAt H n) False fun vs=>vs.length≤1000000∧K (.obj H.length) (H++[.list (lM lo hi vs)])
 |a=>AL z.c z.d z.A z.env a lo hi l H K z.X
noncomputable def HJ (x:ag) (P:aD→List (bu×AV)→Prop):Prop:=match x with
 |.inst C fs=>P C fs
 |_=>False
noncomputable def Og (g:Sx) (x:ag) (m:bu) (K:ai→Prop):Prop:=match x with
 |.inst C fs=>gb (Kd g.mt C m) False fun f=>gb (jR fs m) (K (.ref f)) fun _=>False
 |.list _=>bif m=="append" then K (.builtin "list.append") else bif m=="pop" then K (.builtin "list.pop") else False
 |.dict _=>bif m=="get" then K (.builtin "dict.get") else False
 |.eU _ _=>bif m=="get" then K (.builtin "dict.get") else False
noncomputable def Ml (g:Sx) (a:AV) (m:bu) (K:ai→Prop):Prop:=match a with
 |.obj n=>gb H[n]? False fun x=>Og g x m K
 |.iX _=>bif m=="get" then K (.builtin "dict.get") else False
 |_=>False
end
theorem fM {b:Bool}{P:Prop}(h:bif b then P else False):b=true∧P:=by cases b with | true=>exact⟨rfl,h⟩ | false=>exact h.elim
theorem Hv {b:Bool}{P:Prop}(h:bif b then False else P):b=false∧P:=by cases b with | true=>exact h.elim | false=>exact⟨rfl,h⟩
noncomputable abbrev ET:=Expr→Loc→List ag→(AV→List ag→Prop)→Prop
noncomputable abbrev AT:=List Expr→Loc→List ag→(List AV→List ag→Prop)→Prop
noncomputable abbrev PT:=Option Expr→Loc→List ag→(Option Int→List ag→Prop)→Prop
noncomputable abbrev ME:=Expr→Loc→List ag→(Bool→List ag→Prop)→Prop
section
variable (z:VZ) (g:Sx) (E:ET) (A:AT) (P:PT) (B:ME) (l:Loc) (K:AV→List ag→Prop) (KB:Bool→List ag→Prop)
noncomputable def Tn (op:Ch) (x y:AV) (H:List ag):Prop:=TK z l H op x y K
noncomputable def Sj (op:Ch) (b:Expr) (x:AV) (H:List ag):Prop:=E b l H (Tn z l K op x)
noncomputable def Z7 (a:AV) (H:List ag):Prop:=V0 z l H a KB
noncomputable def ZJ (t:Bool) (H:List ag):Prop:=K (.bool (!t)) H
noncomputable def SI (t:Bool) (H:List ag):Prop:=KB (!t) H
noncomputable def ZL (t:Bool) (H:List ag):Prop:=K (.bool t) H
noncomputable def Wt (as:List AV) (H:List ag):Prop:=bif cw as.length 1000 then K (.tup as) H else False
noncomputable def YR (as:List AV) (H:List ag):Prop:=bif cw as.length 1000 then K (.obj H.length) (H++[.list as]) else False
noncomputable def TA (KA:List AV→List ag→Prop) (a:AV) (as:List AV) (H:List ag):Prop:=KA (a::as) H
noncomputable def YM (es:List Expr) (KA:List AV→List ag→Prop) (a:AV) (H:List ag):Prop:=A es l H (TA KA a)
noncomputable def YV (KP:Option Int→List ag→Prop) (a:AV) (H:List ag):Prop:=match a with
 |.int i=>KP (some i) H
 |_=>False
noncomputable def Sb (v:ai) (as:List AV) (H:List ag):Prop:=HZ z l H v as K
noncomputable def Ol (v:ai) (a:AV) (as:List AV) (H:List ag):Prop:=HZ z l H v (a::as) K
noncomputable def Uu (m:bu) (es:List Expr) (a:AV) (H:List ag):Prop:=Ml H g a m fun v=>A es l H (Ol z l K v a)
noncomputable def MH (op:mE) (x y:AV) (H:List ag):Prop:=DJ z l H op x y KB
noncomputable def UQ (op:mE) (b:Expr) (x:AV) (H:List ag):Prop:=E b l H (MH z l KB op x)
noncomputable def Xn (op:mE) (b:Expr) (y:AV) (t:Bool) (H:List ag):Prop:=match t with
 |true=>E b l H (MH z l KB op y)
 |false=>KB false H
noncomputable def UW (op tv:mE) (b':Expr) (x y:AV) (H:List ag):Prop:=DJ z l H op x y (Xn z E l KB tv b' y)
noncomputable def RP (op tv:mE) (b b':Expr) (x:AV) (H:List ag):Prop:=E b l H (UW z E l KB op tv b' x)
noncomputable def kIf (a b:Expr) (t:Bool) (H:List ag):Prop:=match t with
 |true=>E a l H K
 |false=>E b l H K
noncomputable def Qj (a b:AV) (H:List ag):Prop:=GH z l H a b K
noncomputable def NV (i:Expr) (a:AV) (H:List ag):Prop:=E i l H (Qj z l K a)
noncomputable def Wm (a:AV) (lo hi:Option Int) (H:List ag):Prop:=vSl z l H a lo hi K
noncomputable def Yd (hi:Option Expr) (a:AV) (lo:Option Int) (H:List ag):Prop:=P hi l H (Wm z l K a lo)
noncomputable def XF (lo hi:Option Expr) (a:AV) (H:List ag):Prop:=P lo l H (Yd z P l K hi a)
end
section
variable (z:VZ) (g:Sx) (E:ET) (A:AT) (P:PT) (B:ME) (l:Loc) (H:List ag) (K:AV→List ag→Prop) (KB:Bool→List ag→Prop)
noncomputable def N3 (i:Nat) (P:AV→Prop):Prop:=gb l[i]? False fun o=>gb o False P
noncomputable def M4 (x:bu):Prop:=gb (oZ g.names x 0) False fun p=>match p.2 with
 |.local=>N3 l p.1 fun v=>K v H
 |.cell=>N3 l p.1 fun v=>K v H
 |.globalImplicit=>gb (jR g.gt x) False fun a=>K a H
 |_=>False
noncomputable def H7 (c:Ru):Prop:=match c with
 |.int i=>K (.int i) H
 |.str s=>K (.str s) H
 |.none=>K .none H
 |.bool b=>K (.bool b) H
 |_=>False
noncomputable def MV (ks:List (Option Expr)) (vs:List Expr):Prop:=match ks with
 |[]=>match vs with
  |[]=>K (.obj H.length) (H++[.dict []])
  |_=>False
 |_=>False
noncomputable def W7 (a:AV):Prop:=uN a False fun i=>K (.int (-i)) H
noncomputable def sUn (op:UnaryOp) (e:Expr):Prop:=match op with
 |.USub=>E e l H fun x H1=>W7 H1 K x
 |.Not=>E e l H (Z7 z l (ZJ K))
 |_=>False
noncomputable def Mk (op:BoolOp) (es:List Expr) (p:ij):Prop:=match es with
 |[]=>False
 |e::es=>match es with
  |[]=>E e l H K
  |e2::es=>match op with
   |.And=>E e l H fun x H1=>V0 z l H1 x fun t H2=>match t with
    |true=>E (.BoolOp .And (e2::es) p) l H2 K
    |false=>K x H2
   |.Or=>E e l H fun x H1=>V0 z l H1 x fun t H2=>match t with
    |true=>K x H2
    |false=>E (.BoolOp .Or (e2::es) p) l H2 K
noncomputable def Ue (x:bu) (a:AV):Prop:=match a with
 |.obj i=>gb H[i]? False fun y=>HJ y fun C fs=>gb (jR fs x) False fun v=>bif Lw g.ft C x&&vi v then K v H else False
 |_=>False
noncomputable def OF (e i:Expr) (p:ij):Prop:=gb (yk i) (E e l H (NV z E l K i)) fun s=>match s.2.2 with
 |none=>E e l H (XF z P l K s.1 s.2.1)
 |some _=>WE z.c z.d z.A z.env (.Subscript e i p) l H K z.X
noncomputable def Z2 (a:AV) (R:ai→Prop):Prop:=match a with
 |.fix v=>R v
 |_=>False
noncomputable def Xo (f:bu) (R:ai→Prop):Prop:=gb (oZ g.names f 0) False fun p=>match p.2 with
 |.globalImplicit=>gb (jR g.gt f) False fun a=>Z2 a R
 |_=>False
noncomputable def MO (f:Expr) (es:List Expr) (ks:List AU) (p:ij):Prop:=match ks with
 |[]=>match f with
  |.Attribute o m ap=>bif (sD o&&noStar es)&&(ik es.length 30&&ap.endLine==p.line) then E o l H (Uu z g A l K m es) else False
  |.Name f p=>bif noStar es then (Xo g f fun v=>A es l H (Sb z l K v)) else False
  |_=>False
 |_=>False
noncomputable def HF (a:Expr) (qW:List mE) (bs:List Expr):Prop:=match qW with
 |[]=>False
 |op::qW=>match bs with
  |[]=>False
  |b::bs=>match qW with
   |[]=>match bs with
    |[]=>bif lK op b then False else E a l H (UQ z E l KB op b)
    |_=>False
   |tv::qW=>match qW with
    |[]=>match bs with
     |[b']=>bif lK tv b' then False else E a l H (RP z E l KB op tv b b')
     |_=>False
    |_=>False
noncomputable def tUn (op:UnaryOp) (e:Expr):Prop:=match op with
 |.Not=>B e l H (SI KB)
 |_=>False
noncomputable def M0 (op:BoolOp) (es:List Expr) (p:ij):Prop:=match op with
 |.And=>match es with
  |[]=>KB true H
  |e::es=>B e l H fun t H1=>match t with
   |true=>B (.BoolOp .And es p) l H1 KB
   |false=>KB false H1
 |.Or=>match es with
  |[]=>KB false H
  |e::es=>B e l H fun t H1=>match t with
   |true=>KB true H1
   |false=>B (.BoolOp .Or es p) l H1 KB
end
mutual
noncomputable def vE (z:VZ) (g:Sx):Nat→ET
 |0,e,l,H,K=>WE z.c z.d z.A z.env e l H K z.X
 |n+1,e,l,H,K=>match e with
  |.Name x _=>M4 g l H K x
  |.Constant c _ _=>H7 H K c
  |.Tuple es _ _=>bif noStar es then vA z g n es l H (Wt K) else False
  |.List es _=>bif noStar es then vA z g n es l H (YR K) else False
  |.Dict ks vs _=>MV H K ks vs
  |.BinOp a op b _=>vE z g n a l H (Sj z (vE z g n) l K op b)
  |.UnaryOp op e _=>sUn z (vE z g n) l H K op e
  |.BoolOp op es p=>Mk z (vE z g n) l H K op es p
  |.IfExp t a b _=>vB z g n t l H (kIf (vE z g n) l K a b)
  |.Compare a qW bs _=>HF z (vE z g n) l H (ZL K) a qW bs
  |.Attribute e x _=>bif sD e then (vE z g n e l H fun a H1=>Ue g H1 K x a) else False
  |.Subscript e i p=>OF z (vE z g n) (vP z g n) l H K e i p
  |.Call f es ks p=>MO z g (vE z g n) (vA z g n) l H K f es ks p
  |e=>WE z.c z.d z.A z.env e l H K z.X
noncomputable def vA (z:VZ) (g:Sx):Nat→AT
 |0,es,l,H,K=>False
 |n+1,es,l,H,K=>match es with
  |[]=>K [] H
  |e::es=>vE z g n e l H (YM (vA z g n) l es K)
noncomputable def vP (z:VZ) (g:Sx):Nat→PT
 |0,e,l,H,K=>False
 |n+1,e,l,H,K=>match e with
  |none=>K none H
  |some e=>vE z g n e l H (YV K)
noncomputable def vB (z:VZ) (g:Sx):Nat→ME
 |0,e,l,H,K=>WB z.c z.d z.A z.env e l H K z.X
 |n+1,e,l,H,K=>match e with
  |.Compare a qW bs _=>HF z (vE z g n) l H K a qW bs
  |.UnaryOp op e _=>tUn (vB z g n) l H K op e
  |.BoolOp op es p=>M0 (vB z g n) l H K op es p
  |.Name x p=>vE z g n (.Name x p) l H (Z7 z l K)
  |.Call f es ks p=>vE z g n (.Call f es ks p) l H (Z7 z l K)
  |e=>WB z.c z.d z.A z.env e l H K z.X
end
end
section
open PySem PySem.W PySem.Calls PyProof.Rows
structure NmEnv (env:dI) (names:List (bu×bc)):Prop where
 nm:env.scope.names=names
 FX:∀p∈names,(p.1==("__debug__":bu))=false
structure iA (env:dI) (names:List (bu×bc)):Prop extends NmEnv env names where
 kind:env.scope.kind=.function
 fr:env.frame=some env.locals
noncomputable def ZR (c:Cx) (x:bu) (a:AV):Prop:=∃v,EV c.K et x=some (some v)∧∀h α,(∀b o,c.hb.get? b=some o→h.get? b=some o)→bM c h α a v
noncomputable def XA (c:Cx) (x:bu) (v:ai):Prop:=EV c.K et x=some none∧I7 x=some v∧x≠"__name__"
structure VOk (z:VZ) (g:Sx):Prop where
 F:NmEnv z.env g.names
 gt:∀{x:bu}{a:AV},jR g.gt x=some a→ZR z.c x a∨∃v,a=.fix v∧XA z.c x v
 kp:∀{x:bu}{v:ai},jR g.gt x=some (.fix v)→gV z.c v
 ft:∀{C:aD}{x:bu},Lw g.ft C x=true→yr z.c.K C x∧CM z.c.K C x
 mt:∀{C:aD}{x:bu}{f:aD},Kd g.mt C x=some f→xE z.c.K C x f
 rs:(∃fI fd,ma z.c.K z.c.bd fI fd)∧gV z.c (.ref z.c.bd)∧EV z.c.K et "BadDevice"=some (some (.ref z.c.bd))
structure n9 (z:VZ) (g:Sx):Prop extends VOk z g where
 Fe:iA z.env g.names
theorem Ed {x:bu}{l:List (bu×bc)}:∀{j i:Nat}{k:bc},oZ l x j=some (i,k)→∃n,i=j+n∧l[n]?=some (x,k):=by
 induction l with
 |nil=>exact nS
 |cons p r ih=>
  intro j i k h
  replace h:(bif p.1==x then some (j,p.2) else oZ r x (j+1))=some (i,k):=h
  cases e:p.1==x with
  |true=>
   rw[e] at h
   cases h
   exact⟨0,rfl,congrArg some (gH (eq_of_beq e) rfl)⟩
  |false=>
   rw[e] at h
   exact(ih h).elim fun n q=>⟨n+1,q.1.trans (Nat.succ_add ..),q.2⟩
theorem oO {x:bu}{l:List (bu×bc)}{i:Nat}{k:bc}(h:oZ l x 0=some (i,k)):l[i]?=some (x,k):=(Ed h).elim fun n q=>(congrArg (l[·]?) (q.1.trans (pz n))).trans q.2
theorem rB {β:Type}{x:bu}{l:List (bu×β)}:jR l x=l.lookup x:=by
 induction l with
 |nil=>rfl
 |cons p r ih=>
  show(bif p.1==x then some p.2 else jR r x)=_
  rw[dK,ih,BEq.comm]
  cases x==p.1<;>rfl
theorem lV {e:Expr}{r:List Expr}(h:noStar (e::r)=true):sJ e=false∧noStar r=true:=by
 replace h:(bif sJ e then false else noStar r)=true:=h
 cases q:sJ e with
 |true=>rw[q] at h;exact fT h
 |false=>rw[q] at h;exact⟨rfl,h⟩
theorem wB {env:dI}{r:List Expr}{e:Expr}(h:sJ e=false):dS (e::r) env=(false,gr e env)::dS r env:=by
 cases e with
 |Starred=>exact fT h.symm
 |_=>rfl
theorem jV {env:dI}{es:List Expr}:noStar es=true→dS es env=es.map fun e=>(false,gr e env):=by
 induction es with
 |nil=>exact fun _=>rfl
 |cons e r ih=>exact fun h=>(wB (lV h).1).trans (congrArg _ (ih (lV h).2))
section
variable {z:VZ}{g:Sx}{l:Loc}{H:List ag}{K:AV→List ag→Prop}{KB:Bool→List ag→Prop}
theorem two.dec {p:Prop} [Decidable p] (h:two p H KB):KB (decide p) H:=by
 by_cases q:p
 ·rw[decide_eq_true q];exact h.1 q
 ·rw[decide_eq_false q];exact h.2 q
theorem dU {α β:Type}{o:Option α}{f:α→Option β}{y:β}(h:jq o f=some y):∃x,o=some x∧f x=some y:=by
 cases o with
 |none=>exact nS h
 |some x=>exact⟨x,rfl,h⟩
theorem zI {x:ag}{vs:List AV}(h:C8 x=some vs):x=.list vs:=by
 cases x with
 |list=>replace h:=ae h;subst h;rfl
 |_=>exact nS h
theorem IC {x:ag}{kvs:List (Int×AV)}(h:HM x=some kvs):x=.dict kvs∨∃ep,x=.eU kvs ep:=by
 cases x with
 |dict=>replace h:=ae h;subst h;exact .inl rfl
 |eU=>replace h:=ae h;subst h;exact .inr ⟨_,rfl⟩
 |_=>exact nS h
theorem jb {a:AV}{kvs:List (Int×AV)}(h:il H a=some kvs):DictAt z.c H a kvs:=by
 cases a with
 |iX=>replace h:=ae h;subst h;exact .inl rfl
 |obj n=>
  refine aq (dU h) fun x e q=>?_
  exact .inr ⟨n,rfl,(IC q).imp (fun q=>e.trans (congrArg some q)) (by intro lH;obtain⟨ep,q⟩:=lH;exact⟨ep,e.trans (congrArg some q)⟩)⟩
 |_=>exact nS h
theorem gU {n:Nat}{vs:List AV}(h:listAt H n=some vs):H[n]?=some (.list vs):=by
 refine aq (dU h) fun x e q=>?_
 exact zI q▸e
theorem zC {α:Type}{o:Option α}{d:Prop}{P:α→Prop}{W:Prop}(h:gb o d P) (k:∀x,o=some x→P x→W) (k0:d→W):W:=by
 cases o with
 |none=>exact k0 h
 |some x=>exact k x rfl h
theorem hY {α:Type}{o:Option α}{d:Prop}{P:α→Prop}{x:α}(e:o=some x) (h:P x):gb o d P:=by rw[e];exact h
theorem optN {α:Type}{o:Option α}{d:Prop}{P:α→Prop}(e:o=none) (h:d):gb o d P:=by rw[e];exact h
theorem k7 {n:Nat}{vs:List AV}(h:H[n]?=some (.list vs)):listAt H n=some vs:=congrArg (jq · C8) h
theorem xf {n:Nat}{vs:List AV}(h:listAt H n=some vs):il H (.obj n)=none:=by
 refine aq (dU h) fun x e q=>?_
 cases zI q
 exact congrArg (jq · HM) e
theorem cQ {G:List ag}{vs:List AV}{n:Nat}(h:listAt H n=some vs):listAt (H++G) n=some vs:=by
 have e:=gU h
 exact k7 ((aC (ao.mp e).1).trans e)
theorem Gf {n:Nat}{k:Int}{vs:List AV}{x:AV}(e:listAt H n=some vs) (h:0≤k∧k<2^63) (hx:vs[k.toNat]?=some x) (q:K x H):gb (il H (.obj n)) (B1 H (.obj n) k K) fun kvs=>∃x,kvs.lookup k=some x∧K x H:=
 optN (xf e) (hY e ⟨h,x,hx,q⟩)
theorem dW {α:Type}{o:Option α}{P:α→Prop}{W:Prop}(h:gb o False P) (k:∀x,o=some x→P x→W):W:=zC h k eu
theorem pq {a:AV}{P:Int→Prop}{rL W:Prop}(h:uN a rL P) (h1:∀i,a=.int i→P i→W) (h2:rL→W):W:=by
 cases a with
 |int i=>exact h1 i rfl h
 |_=>exact h2 h
theorem jz {a b:AV}{rL W:Prop}{P:Int→Int→Prop}(h:tH a b rL P) (h1:∀i j,a=.int i→b=.int j→P i j→W) (h2:rL→W):W:=pq h (fun i e h=>pq h (fun j e' h=>h1 i j e e' h) h2) h2
theorem FK {a b:AV}{rL W:Prop}{P:Bool→Prop}(h:SG H a b rL P) (h1:∀k kvs,a=.int k→il H b=some kvs→P (kvs.lookup k).isSome→W) (h2:rL→W):W:=by
 cases a with
 |int k=>
  exact zC (o:=il H b) h (fun kvs e h=>h1 _ _ rfl e h) h2
 |_=>exact h2 h
theorem NF {a b:AV}(h:vEq H a b KB (WO z.c z.d z.A z.env .Eq a b l H KB z.X)):WO z.c z.d z.A z.env .Eq a b l H KB z.X:=by
 cases a with
 |int i=>cases b with
  |int j=>exact WO.eqI (two.dec h)
  |_=>exact h
 |str x=>cases b with
  |str y=>exact WO.eqS h
  |_=>exact h
 |_=>exact h
theorem P9 {a b:AV}(h:vIs H a b (WO z.c z.d z.A z.env .Is a b l H KB z.X) KB):WO z.c z.d z.A z.env .Is a b l H KB z.X:=by
 cases b with
 |none=>
  refine bG (fM h) fun h1 h2=>?_
  refine WO.isNone h1 ?_
  cases a<;>exact h2
 |_=>exact h
theorem pP {op:mE}{a b:AV}(h:DJ z l H op a b KB):WO z.c z.d z.A z.env op a b l H KB z.X:=by
 cases op with
 |Lt=>exact jz h (fun i j e1 e2 h=>by subst e1 e2;exact WO.ltI h.dec) id
 |LtE=>exact jz h (fun i j e1 e2 h=>by subst e1 e2;exact WO.leI h.dec) id
 |Gt=>exact jz h (fun i j e1 e2 h=>by subst e1 e2;exact WO.gtI h.dec) id
 |GtE=>exact jz h (fun i j e1 e2 h=>by subst e1 e2;exact WO.geI h.dec) id
 |NotEq=>exact jz h (fun i j e1 e2 h=>by subst e1 e2;exact WO.neI h.dec) id
 |Eq=>exact NF h
 |In=>exact FK (show SG H a b (WO z.c z.d z.A z.env .In a b l H KB z.X) (fun t=>KB t H) from h) (fun k kvs e1 e2 q=>by subst e1;exact WO.inD (jb e2) q) id
 |NotIn=>exact FK (show SG H a b (WO z.c z.d z.A z.env .NotIn a b l H KB z.X) (fun t=>KB (!t) H) from h) (fun k kvs e1 e2 q=>by subst e1;exact WO.X2 (jb e2) q) id
 |Is=>exact P9 h
 |IsNot=>exact h
theorem LN {a b:AV}(h:UX H a b K):WV z.c z.d z.A z.env (fun vs=>fb .Add (vs[0]?.getD .none) (vs[1]?.getD .none)) [a,b] l H K z.X:=by
 cases a with
 |int i=>cases b with
  |int j=>exact WV.ZT h
  |_=>exact h.elim
 |obj n=>cases b with
  |obj m=>
   exact dW (o:=listAt H n) h fun vs e1 h=>dW (o:=listAt H m) h fun ws e2 h=>WV.X9 (gU e1) (gU e2) h.1 h.2
  |_=>exact h.elim
 |tup vs=>cases b with
  |tup ws=>exact WV.ZU h.1 h.2
  |_=>exact h.elim
 |str x=>cases b with
  |str y=>exact WV.Xv h.1 h.2
  |_=>exact h.elim
 |_=>exact h.elim
theorem Lr {a b:AV}(h:Vh H a b K):WV z.c z.d z.A z.env (fun vs=>fb .Mult (vs[0]?.getD .none) (vs[1]?.getD .none)) [a,b] l H K z.X:=by
 cases a with
 |int i=>cases b with
  |int j=>exact WV.YF h.1 h.2
  |_=>exact h.elim
 |obj n=>cases b with
  |int k=>exact dW (o:=listAt H n) h fun vs e h=>WV.mulL (gU e) h.1.1.1 h.1.1.2 h.1.2 h.2
  |_=>exact h.elim
 |_=>exact h.elim
theorem J1 {op:Ch}{a b:AV}(h:TK z l H op a b K):WV z.c z.d z.A z.env (fun vs=>fb op (vs[0]?.getD .none) (vs[1]?.getD .none)) [a,b] l H K z.X:=by
 cases op with
 |Add=>exact LN h
 |Sub=>exact jz h (fun i j e1 e2 h=>by subst e1 e2;exact WV.Zh h) eu
 |Mult=>exact Lr h
 |Mod=>exact jz h (fun i j e1 e2 h=>by subst e1 e2;exact WV.XJ h.1 h.2) eu
 |FloorDiv=>exact jz h (fun i j e1 e2 h=>by subst e1 e2;exact WV.Ur h.1.1 h.2 h.1.2) eu
 |RShift=>exact jz h (fun i j e1 e2 h=>by subst e1 e2;exact WV.Wq h.1 h.2) eu
 |_=>exact h
theorem vk {a:AV}(h:V0 z l H a KB):yP z.c z.d z.A z.env a l H KB z.X:=by
 cases a with
 |bool b=>exact yP.bool h
 |none=>exact yP.none h
 |int i=>exact yP.int (two.dec h)
 |_=>exact h
theorem Ej {vs:List AV}{k:Int}(h:GH z l H (.tup vs) (.int k) K):WG z.c z.d z.A z.env (.tup vs) (.int k) l H K z.X:=by
 cases k with
 |ofNat k=>
  refine dW (o:=vs[k]?) h fun x e h=>?_
  refine bG (fM h) fun h1 h2=>?_
  exact WG.tup (fR k) (uO (aE h1) rfl) e h2
 |negSucc k=>exact h
theorem BF {a:AV}{k:Int}(h:gb (il H a) (B1 H a k K) fun kvs=>∃x,kvs.lookup k=some x∧K x H):WG z.c z.d z.A z.env a (.int k) l H K z.X:=
 zC h (by intro kvs e mr;refine aq mr fun x h3 h4=>?_;clear mr;exact WG.dict (jb e) h3 h4) fun h=>by
  cases a with
  |obj n=>exact dW (o:=listAt H n) h (by intro vs e nU;refine bG nU fun gC iu=>?_;clear nU;refine bG gC fun h1 h2=>?_;refine aq iu fun x h3 h4=>?_;exact WG.list (gU e) h1 h2 h3 h4)
  |_=>exact h.elim
theorem Iw {a b:AV}(h:GH z l H a b K):WG z.c z.d z.A z.env a b l H K z.X:=by
 cases b with
 |int k=>cases a with
  |tup vs=>exact Ej h
  |eg b=>exact WG.eg h.1.1.1 h.1.1.2 h.1.2 h.2
  |str x=>exact h
  |_=>exact BF h
 |_=>exact h
theorem PV {a:AV}{lo hi:Option Int}(h:vSl z l H a lo hi K):AL z.c z.d z.A z.env a lo hi l H K z.X:=by
 cases a with
 |eg b=>exact AL.eg h.1 h.2
 |obj n=>exact dW (o:=listAt H n) h fun vs e h=>AL.list (gU e) h.1 h.2
 |_=>exact h
theorem pZ {x y:String}{P R W:Prop}(h:bif x==y then P else R) (h1:x=y→P→W) (h2:R→W):W:=by
 cases e:x==y with
 |true=>rw[e] at h;exact h1 (eq_of_beq e) h
 |false=>rw[e] at h;exact h2 h
theorem Ee {a:AV}(h:gb (il H a) (Mx H a K) fun kvs=>kvs.length≤1000000∧K (.int kvs.length) H):WV z.c z.d z.A z.env (fun xs=>PySem.call (.builtin "len") xs) [a] l H K z.X:=
 zC h (fun kvs e h=>WV.Yy (jb e) h.1 h.2) fun h=>by
  cases a with
  |obj n=>exact dW (o:=listAt H n) h fun vs e h=>WV.YY (gU e) h.1 h.2
  |_=>exact h.elim
theorem JP {a:AV}(h:Rw H a K):WV z.c z.d z.A z.env (fun xs=>PySem.call (.builtin "len") xs) [a] l H K z.X:=by
 cases a with
 |eg b=>exact WV.X5 h.1 h.2
 |tup vs=>exact WV.Xk h.1 h.2
 |str x=>exact WV.YX h.1 h.2
 |_=>exact Ee h
theorem PZ {f:String}{a:AV}(h:vB1 H f a K (WV z.c z.d z.A z.env (fun xs=>PySem.call (.builtin f) xs) [a] l H K z.X)):WV z.c z.d z.A z.env (fun xs=>PySem.call (.builtin f) xs) [a] l H K z.X:=
 pZ h (fun e h=>e▸JP h) fun h=>pZ h (fun e h=>e▸pq (a:=a) h (fun i ea h=>ea▸WV.YC h) eu) fun h=>
 pZ h (by intro e pY;refine eC pY fun i j k ea h=>?_;clear pY;exact e▸ea▸WV.Za h) fun h=>pZ h (by intro e v8;refine aq v8 fun u ea h=>?_;clear v8;exact e▸ea▸WV.Ym h) fun h=>
 pZ h (fun e h=>by
  subst e
  cases a with
  |eg b=>exact WV.XV h
  |_=>exact h) id
theorem LP {T:String}{a:AV}(h:UG H a T K):WV z.c z.d z.A z.env (fun xs=>PySem.call (.builtin "isinstance") xs) [a,.fix (.type T)] l H K z.X:=by
 cases a with
 |eg b=>refine bG (fM h) fun e q=>?_;cases eq_of_beq e;exact WV.OS q
 |int i=>
  refine pZ h (fun e q=>by subst e;exact WV.Qw q) fun h=>?_
  refine bG (fM h) fun e q=>?_;cases eq_of_beq e;exact WV.Po q
 |str x=>refine bG (fM h) fun e q=>?_;cases eq_of_beq e;exact WV.NX q
 |tup vs=>refine bG (fM h) fun e q=>?_;cases eq_of_beq e;exact WV.PX q
 |_=>exact h.elim
theorem A8 {a b:AV}(h:Cv H a b K):WV z.c z.d z.A z.env (fun xs=>PySem.call (.builtin "list.append") xs) [a,b] l H K z.X:=by
 cases a with
 |obj n=>exact dW (o:=listAt H n) h fun vs e h=>WV.append (gU e) h.1 h.2
 |_=>exact h.elim
theorem OM {f:String}{a b:AV}(h:vB2 H f a b K (WV z.c z.d z.A z.env (fun xs=>PySem.call (.builtin f) xs) [a,b] l H K z.X)):WV z.c z.d z.A z.env (fun xs=>PySem.call (.builtin f) xs) [a,b] l H K z.X:=
 pZ h (fun e h=>e▸A8 h) fun h=>pZ h (fun e h=>e▸jz h (fun i j e1 e2 h=>e1▸e2▸WV.Wu h) eu) fun h=>pZ h (fun e h=>e▸jz h (fun i j e1 e2 h=>e1▸e2▸WV.W2 h) eu) fun h=>
 pZ h (fun e h=>by
  subst e
  cases b with
  |fix v=>cases v with
   |type T=>exact LP h
   |_=>exact h.elim
  |_=>exact h.elim) fun h=>
 pZ h (fun e h=>by
  subst e
  exact pq h (fun k e h=>e▸dW h fun kvs e h=>WV.SM (jb e) h) eu) id
theorem KI {a:AV}(h:Sg H a K):WV z.c z.d z.A z.env (fun xs=>PySem.call (.type "tuple") xs) [a] l H K z.X:=by
 cases a with
 |tup vs=>exact WV.WY h
 |obj n=>exact dW (o:=listAt H n) h fun vs e h=>WV.Yo (gU e) h.1 h.2
 |_=>exact h.elim
theorem FF {a:AV}(h:My H a K):WV z.c z.d z.A z.env (fun xs=>PySem.call (.type "list") xs) [a] l H K z.X:=by
 cases a with
 |tup vs=>exact WV.T8 h.1 h.2
 |eg b=>exact WV.Uq h.1 h.2
 |obj n=>exact dW (o:=listAt H n) h fun vs e h=>WV.Tt (gU e) h.1 h.2
 |_=>exact h.elim
theorem Qk {T:String}{a:AV}(h:vT1 H T a K (WV z.c z.d z.A z.env (fun xs=>PySem.call (.type T) xs) [a] l H K z.X)):WV z.c z.d z.A z.env (fun xs=>PySem.call (.type T) xs) [a] l H K z.X:=
 pZ h (fun e h=>e▸pq (a:=a) h (fun i ea h=>ea▸WV.ZC h) eu) fun h=>pZ h (fun e h=>e▸KI h) fun h=>pZ h (fun e h=>e▸FF h) fun h=>
 pZ h (fun e h=>e▸dW (o:=il H a) h fun kvs e h=>WV.T9 (jb e) h.1 h.2) id
theorem zm {v:ai}{as:List AV}(h:HZ z l H v as K):WV z.c z.d z.A z.env (fun xs=>PySem.call v xs) as l H K z.X:=by
 cases v with
 |ref f=>exact WV.ofC h (aA _)
 |builtin f=>
  rcases as with _ | ⟨a,_ | ⟨b,_ | ⟨dv,_ | ⟨x,r⟩⟩⟩⟩
  ·exact h
  ·exact PZ h
  ·exact OM h
  ·refine pZ h (fun e h=>?_) id
   subst e
   exact pq h (fun k e h=>e▸dW h fun kvs e h=>WV.R3 (jb e) h) eu
  ·exact h
 |type T=>
  rcases as with _ | ⟨a,_ | ⟨x,r⟩⟩
  ·exact h
  ·exact Qk h
  ·exact h
 |_=>exact h.elim
theorem Ij (ok:VOk z g){a:AV}{m:bu}{KM:ai→Prop}{l:Loc}{pl:rU Bool}(h:Ml H g a m KM):∃v,gV z.c v ∧
  (∀α s x,Inv z.c z.d z.A z.env l α H s→bM z.c s.heap α a x→∀P:ai×List ai→aH→Prop,∀E,P (v,[x]) s→bj z.c.M z.A (kj x m pl) P E s)∧KM v:=by
 have app:∀{n:Nat}{vs:List AV},H[n]?=some (.list vs)→∀m:bu,(bif m=="append" then KM (.builtin "list.append") else bif m=="pop" then KM (.builtin "list.pop") else False)→∃v,gV z.c v ∧
  (∀α s x,Inv z.c z.d z.A z.env l α H s→bM z.c s.heap α (.obj n) x→∀P:ai×List ai→aH→Prop,∀E,P (v,[x]) s→bj z.c.M z.A (kj x m pl) P E s)∧KM v:=fun{n vs} e m h=>by
  cases e1:m==("append":bu) with
  |true=>
   rw[e1] at h
   cases eq_of_beq e1
   exact⟨_,.inr (.inl ⟨_,rfl⟩),Iv PySem.F.slot_list_append PySem.F.type_list_append e,h⟩
  |false=>
   rw[e1] at h
   cases e2:m==("pop":bu) with
   |true=>
    rw[cond_false,e2] at h
    cases eq_of_beq e2
    exact⟨_,.inr (.inl ⟨_,rfl⟩),Iv PySem.F.slot_list_pop PySem.F.type_list_pop e,h⟩
   |false=>rw[cond_false,e2] at h;exact h.elim
 have get:∀{a:AV}{kvs:List (Int×AV)},DictAt z.c H a kvs→∀m:bu,(bif m=="get" then KM (.builtin "dict.get") else False)→∃v,gV z.c v ∧
  (∀α s x,Inv z.c z.d z.A z.env l α H s→bM z.c s.heap α a x→∀P:ai×List ai→aH→Prop,∀E,P (v,[x]) s→bj z.c.M z.A (kj x m pl) P E s)∧KM v:=fun{a kvs} D m h=>by
  cases e1:m==("get":bu) with
  |true=>
   rw[e1] at h
   cases eq_of_beq e1
   exact⟨_,.inr (.inl ⟨_,rfl⟩),Gn PySem.F.slot_dict_get PySem.F.type_dict_get D,h⟩
  |false=>rw[e1] at h;exact h.elim
 cases a with
 |obj n=>
   refine dW (o:=H[n]?) h fun x e h=>?_
   cases x with
   |inst C fs=>
    refine dW (o:=Kd g.mt C m) h fun f ef h=>?_
    have mo:=ok.mt ef
    cases e2:jR fs m with
    |none=>rw[e2] at h;exact⟨_,.inl mo.keep,OA mo e (by rw[←rB];exact e2),h⟩
    |some v=>rw[e2] at h;exact h.elim
   |list vs=>exact app e m h
   |dict kvs=>exact get (.inr ⟨_,rfl,.inl e⟩) m h
   |eU kvs ep=>exact get (.inr ⟨_,rfl,.inr ⟨_,e⟩⟩) m h
 |iX kvs=>exact get (.inl rfl) m h
 |_=>exact h.elim
end
end
section
open PySem PySem.W PySem.Calls PyProof.Rows
set_option backward.match.sparseCases false
section
variable {c:Cx}{d:Nat}{A:aU}{env:dI}{l:Loc}{H:List ag}{X:List ag→Prop}
theorem WB.mono {e:Expr}{Q Q':Bool→List ag→Prop}(w:WB c d A env e l H Q X) (hq:∀a H,Q a H→Q' a H):WB c d A env e l H Q' X:=fun α s I=>
 au (w α s I) (by intro u' u' lH;obtain⟨bD,H',m,i,q⟩:=lH;exact⟨bD,H',m,i,hq _ _ q⟩) fun _ _ e=>e
theorem WA.mono {e:List Expr}{Q Q':List AV→List ag→Prop}(w:WA c d A env e l H Q X) (hq:∀a H,Q a H→Q' a H):WA c d A env e l H Q' X:=fun α s I=>
 au (w α s I) (by intro u' u' mr;obtain⟨a,bD,H',m,i,r,q⟩:=mr;exact⟨a,bD,H',m,i,r,hq _ _ q⟩) fun _ _ e=>e
theorem WE.mo {e:Expr}{Q Q':AV→List ag→Prop}(w:WE c d A env e l H Q X) (hq:∀a H,Q a H→Q' a H):WE c d A env e l H Q' X:=w.mono hq fun _ h=>h
theorem WO.mono {op:mE}{a b:AV}{Q Q':Bool→List ag→Prop}(w:WO c d A env op a b l H Q X) (hq:∀a H,Q a H→Q' a H):WO c d A env op a b l H Q' X:=fun α s v w' I r1 r2=>
 au (w α s v w' I r1 r2) (by intro u' u' nU;obtain⟨b,e,bD,H',m,i,q⟩:=nU;exact⟨b,e,bD,H',m,i,hq _ _ q⟩) fun _ _ e=>e
theorem yP.mono {a:AV}{Q Q':Bool→List ag→Prop}(w:yP c d A env a l H Q X) (hq:∀a H,Q a H→Q' a H):yP c d A env a l H Q' X:=fun α s v I r1=>
 au (w α s v I r1) (by intro u' u' pY;obtain⟨bD,H',m,i,q⟩:=pY;exact⟨bD,H',m,i,hq _ _ q⟩) fun _ _ e=>e
theorem Aj {o:Expr}{x:bu}{MM:rU ai}(h:sD o=true):E1 o x env MM=MM:=by
 cases o<;>first | exact fT h | rfl
end
theorem Ht {env:dI}{pos:ij}{es:List Expr}(h2:noStar es=true) (h3:ik es.length 30=true):methodCallForm (es.length+0) (mB pos (dS es env)) (Cj pos (sQ [] env))=true:=by
 rw[oH (jV h2)]
 unfold methodCallForm
 have:=aE h3
 have e:(es.map fun e=>(false,gr e env)).all (fun x=>!x.1)=true:=by
  rw[AQ]
  exact ba.mpr fun x _=>rfl
 rw[e]
 exact decide_eq_true (p:=es.length+0+0<30)<|by exact aW [_] [] [.L (.a aB bP) (.l 30)] (.T aB (.l 30)) cK rfl this
theorem Ay {env:dI}{o:Expr}{m:bu}{oR pos:ij}{es:List Expr}(h:sD o=true) (h2:noStar es=true) (h3:ik es.length 30=true) (h4:(oR.endLine==pos.line)=true):gr (.Call (.Attribute o m oR) es [] pos) env=(do
   let ov ←gr o env
   qU oR.atName
   let(f,first) ←lJ [ov] (kj ov m (do return (←importBound o env).getD true))
   lU pos f first (mB pos (dS es env)) (Cj pos (sQ [] env))):=by
 show(do
   let ov ←E1 o m env (gr o env)
   qU oR.atName
   methodCall o m oR pos env ov (es.length+([]:List AU).length) (mB pos (dS es env)) (Cj pos (sQ [] env)))=_
 rw[Aj h]
 unfold methodCall
 rw[show es.length+([]:List AU).length=es.length+0 from rfl,Ht h2 h3]
 have e:methodCallPos true o env oR pos=pure pos:=by unfold methodCallPos;rw[h4];rfl
 rw[e]
 rfl
section
variable {z:VZ}{g:Sx}{env:dI}{names:List (bu×bc)}
structure Vs (z:VZ) (E:ET) (A:AT) (P:PT) (B:ME):Prop where
 E:∀{e:Expr}{l:Loc}{H:List ag}{K:AV→List ag→Prop},E e l H K→WE z.c z.d z.A z.env e l H K z.X
 A:∀{e:List Expr}{l:Loc}{H:List ag}{K:List AV→List ag→Prop},A e l H K→WA z.c z.d z.A z.env e l H K z.X
 P:∀{e:Option Expr}{l:Loc}{H:List ag}{K:Option Int→List ag→Prop},P e l H K→WP z.c z.d z.A z.env e l H K z.X
 B:∀{e:Expr}{l:Loc}{H:List ag}{K:Bool→List ag→Prop},B e l H K→WB z.c z.d z.A z.env e l H K z.X
theorem Ir (F:NmEnv env names){i:Nat}{x:bu}{k:bc}(h:names[i]?=some (x,k)):(x==("__debug__":bu))=false:=F.FX (x,k) (a9 h)
variable {E:ET}{A:AT}{P:PT}{B:ME}{l:Loc}{H:List ag}{K:AV→List ag→Prop}{KB:Bool→List ag→Prop}{pos:ij}
theorem M6 {i:Nat}{P:AV→Prop}{W:Prop}(h:N3 l i P) (k:∀v,l[i]?=some (some v)→P v→W):W:=dW h fun o e h=>dW h fun v e2 h=>k v (e2▸e) h
theorem HB (ok:VOk z g){x:bu}(h:M4 g l H K x):WE z.c z.d z.A z.env (.Name x pos) l H K z.X:=dW h fun p e h=>by
 obtain⟨i,k⟩:=p
 have e1:=oO e
 have FX:=Ir ok.F e1
 rw[←ok.F.nm] at e1
 cases k with
 |«local»=>exact M6 h fun v e2 h=>WE.loc i e1 e2 FX h
 |cell=>exact M6 h fun v e2 h=>WE.cell i e1 e2 FX h
 |globalImplicit=>
  refine dW (o:=jR g.gt x) h fun a e2 h=>?_
  rcases ok.gt e2 with⟨v,q1,q2⟩ | ⟨v,rfl,q1,q2,q3⟩
  ·exact WE.glob i e1 q1 FX q2 h
  ·exact WE.Mg i e1 q1 q2 q3 FX h
 |_=>exact h.elim
theorem DN {c:Ru}{k:Nat}(h:H7 H K c):WE z.c z.d z.A z.env (.Constant c k pos) l H K z.X:=by
 cases c with
 |int i=>exact WE.X3 h
 |str s=>exact WE.XO h
 |none=>exact WE.RS h
 |bool b=>exact WE.UH h
 |_=>exact h.elim
theorem Hs {ks:List (Option Expr)}{vs:List Expr}(h:MV H K ks vs):WE z.c z.d z.A z.env (.Dict ks vs pos) l H K z.X:=by
 cases ks with
 |cons=>exact h.elim
 |nil=>cases vs with
  |nil=>exact WE.Su h
  |cons=>exact h.elim
theorem OZ (v:Vs z E A P B){op:UnaryOp}{e:Expr}(h:sUn z E l H K op e):WE z.c z.d z.A z.env (.UnaryOp op e pos) l H K z.X:=by
 cases op with
 |USub=>exact WE.neg ((v.E h).mo fun a H1 h=>pq h (fun i e h=>⟨i,e,h⟩) eu)
 |Not=>exact WE.not ((v.E h).mo fun a H1 h=>vk h)
 |_=>exact h.elim
theorem IG (v:Vs z E A P B){op:BoolOp}{es:List Expr}(h:Mk z E l H K op es pos):WE z.c z.d z.A z.env (.BoolOp op es pos) l H K z.X:=by
 rcases es with _ | ⟨e,_ | ⟨e2,es⟩⟩
 ·exact h.elim
 ·exact WE.one (v.E h)
 ·cases op with
  |And=>exact WE.and ((v.E h).mo fun a H1 h=>(vk h).mono fun t H2 h=>by cases t with | true=>exact v.E h | false=>exact h)
  |Or=>exact WE.or ((v.E h).mo fun a H1 h=>(vk h).mono fun t H2 h=>by cases t with | true=>exact h | false=>exact v.E h)
theorem uQ {KB:Bool→List ag→Prop}{W:List mE→List Expr→Prop}{a:Expr}{qW:List mE}{bs:List Expr}(h:HF z E l H KB a qW bs)
  (h1:∀op b,lK op b=false→(E a l H fun x H1=>E b l H1 fun y H2=>DJ z l H2 op x y KB)→W [op] [b])
  (h2:∀op b tv b',lK tv b'=false→(E a l H fun x H1=>E b l H1 fun y H2=>DJ z l H2 op x y fun t H3=>match t with
      |true=>E b' l H3 fun w H4=>DJ z l H4 tv y w KB
      |false=>KB false H3)→W [op,tv] [b,b']):W qW bs:=by
 rcases qW with _ | ⟨op,qW⟩
 ·exact h.elim
 rcases bs with _ | ⟨b,bs⟩
 ·exact h.elim
 rcases qW with _ | ⟨tv,qW⟩
 ·rcases bs with _ | ⟨b',bs⟩
  ·refine bG (Hv h) fun hm h=>?_;exact h1 op b hm h
  ·exact h.elim
 rcases qW with _ | ⟨As,qW⟩
 ·rcases bs with _ | ⟨b',_ | ⟨b2,bs⟩⟩
  ·exact h.elim
  ·refine bG (Hv h) fun hm h=>?_;exact h2 op b tv b' hm h
  ·exact h.elim
 ·exact h.elim
theorem LZ (v:Vs z E A P B){a:Expr}{qW:List mE}{bs:List Expr}(h:HF z E l H (fun t H=>K (.bool t) H) a qW bs):WE z.c z.d z.A z.env (.Compare a qW bs pos) l H K z.X:=
 uQ (W:=fun qW bs=>WE z.c z.d z.A z.env (.Compare a qW bs pos) l H K z.X) h (fun op b hm h=>WE.cmp ((v.E h).mo fun x H1 h=>(v.E h).mo fun y H2 h=>pP h) hm)
  fun op b tv b' hm h=>WE.Oz ((v.E h).mo fun x H1 h=>(v.E h).mo fun y H2 h=>(pP h).mono fun t H3 h=>by cases t with | true=>exact(v.E h).mo fun w H4 h=>pP h | false=>exact h) hm
theorem LS (v:Vs z E A P B){a:Expr}{qW:List mE}{bs:List Expr}(h:HF z E l H KB a qW bs):WB z.c z.d z.A z.env (.Compare a qW bs pos) l H KB z.X:=
 uQ (W:=fun qW bs=>WB z.c z.d z.A z.env (.Compare a qW bs pos) l H KB z.X) h (fun op b hm h=>WB.cmp ((v.E h).mo fun x H1 h=>(v.E h).mo fun y H2 h=>pP h) hm)
  fun op b tv b' hm h=>WB.Oz ((v.E h).mo fun x H1 h=>(v.E h).mo fun y H2 h=>(pP h).mono fun t H3 h=>by cases t with | true=>exact(v.E h).mo fun w H4 h=>pP h | false=>exact h) hm
theorem Lo (ok:VOk z g){e:Expr}{x:bu}(hp:sD e=true) (w:WE z.c z.d z.A z.env e l H (fun a H1=>Ue g H1 K x a) z.X):WE z.c z.d z.A z.env (.Attribute e x pos) l H K z.X:=by
 refine WE.attr (w.mo fun a H1 h=>?_) (show(do
   let o ←E1 e x z.env (gr e z.env)
   qU pos.atName
   let r ←lJ [o] (getAttr o x true)
   letTemporaryGo e o r
   pure r)=_ by rw[Aj hp])
 cases a with
 |obj i=>
   refine dW (o:=H1[i]?) h fun y e1 h=>?_
   cases y with
   |inst C fs=>
    refine dW (o:=jR fs x) h fun v e2 h=>?_
    refine bG (fM h) fun hb h=>?_
    refine bG (aS.mp hb) fun b1 b2=>?_
    exact⟨_,_,_,v,rfl,e1,by rw[←rB];exact e2,(ok.ft b1).1,b2,h⟩
   |_=>exact h.elim
 |_=>exact h.elim
theorem HH (v:Vs z E A P B){e:Option Expr}{l:Loc}{H:List ag}{k:Option Int→List ag→Prop}{k':Option Int→List ag→Prop}(h:P e l H k) (hk:∀i H,k i H→k' i H):WP z.c z.d z.A z.env e l H k' z.X:=by
 have w:=v.P h
 cases e with
 |none=>exact hk _ _ w
 |some e=>exact WE.mo w (by intro x H v8;refine aq v8 fun i e q=>?_;clear v8;exact⟨i,e,hk _ _ q⟩)
theorem Bk {i:Expr}{s:Option Expr×Option Expr×Option Expr}(h:yk i=some s):∃p,i=.Slice s.1 s.2.1 s.2.2 p:=by
 cases i with
 |Slice=>replace h:=ae h;subst h;exact⟨_,rfl⟩
 |_=>exact nS h
theorem KW (v:Vs z E A P B){e i:Expr}(h:OF z E P l H K e i pos):WE z.c z.d z.A z.env (.Subscript e i pos) l H K z.X:=by
 cases hs:yk i with
 |some s=>
  obtain⟨e1,e2,st⟩:=s
  refine al (Bk hs) fun p jX=>?_
  subst jX
  cases st with
  |none=>exact WE.slice ((v.E h).mo fun a H1 h=>HH v h fun lo H2 h=>HH v h fun hi H3 h=>PV h)
  |some x=>exact h
 |none=>
  unfold OF at h
  rw[hs] at h
  refine WE.sub ((v.E h).mo fun a H1 h=>(v.E h).mo fun b H2 h=>Iw h) fun o x=>?_
  cases i with
  |Slice=>exact nS hs.symm
  |_=>rfl
theorem Gj (ok:VOk z g){f:bu}{R:ai→Prop}{Q:AV→List ag→Prop}(h:Xo g f R) (hq:∀v,gV z.c v→R v→Q (.fix v) H):WE z.c z.d z.A z.env (.Name f pos) l H Q z.X:=dW h fun p e h=>by
 obtain⟨i,k⟩:=p
 have e1:=oO e
 have FX:=Ir ok.F e1
 rw[←ok.F.nm] at e1
 cases k with
 |globalImplicit=>
   refine dW (o:=jR g.gt f) h fun a e2 h=>?_
   cases a with
   |fix v=>
    have q:=hq v (ok.kp e2) h
    rcases ok.gt e2 with⟨v',q1,q2⟩ | ⟨v',q0,q1,q2,q3⟩
    ·exact WE.glob i e1 q1 FX q2 q
    ·cases q0
     exact WE.Mg i e1 q1 q2 q3 FX q
   |_=>exact h.elim
 |_=>exact h.elim
theorem HR (ok:VOk z g) (v:Vs z E A P B){f:Expr}{es:List Expr}{ks:List AU}(h:MO z g E A l H K f es ks pos):WE z.c z.d z.A z.env (.Call f es ks pos) l H K z.X:=by
 cases ks with
 |cons=>exact h.elim
 |nil=>cases f with
  |Attribute o m ap=>
   refine bG (fM h) fun hb h=>?_
   refine bG (aS.mp hb) fun b1 b2=>?_
   refine bG (aS.mp b1) fun b3 b4=>?_
   refine bG (aS.mp b2) fun b5 b6=>?_
   refine WE.ZH (Ay b3 b4 b5 b6) (jV b4) ((v.E h).mo fun a H1 h=>?_)
   obtain⟨v',k1,k2,k3⟩:=Ij ok h
   exact⟨v',k1,k2,(v.A k3).mono fun as H2 h=>zm h⟩
  |Name f p=>
   refine bG (fM h) fun hb h=>?_
   exact WE.call (Gj ok h fun w k h=>⟨w,rfl,k,(v.A h).mono fun as H2 h=>zm h⟩) rfl (jV hb)
  |_=>exact h.elim
theorem NU (v:Vs z E A P B){op:UnaryOp}{e:Expr}(h:tUn B l H KB op e):WB z.c z.d z.A z.env (.UnaryOp op e pos) l H KB z.X:=by
 cases op with
 |Not=>exact WB.not (v.B h)
 |_=>exact h.elim
theorem H0 (v:Vs z E A P B){op:BoolOp}{es:List Expr}(h:M0 B l H KB op es pos):WB z.c z.d z.A z.env (.BoolOp op es pos) l H KB z.X:=by
 cases op with
 |And=>cases es with
  |nil=>exact WB.Wk h
  |cons e es=>exact WB.and ((v.B h).mono fun t H1 h=>by cases t with | true=>exact v.B h | false=>exact h)
 |Or=>cases es with
  |nil=>exact WB.orN h
  |cons e es=>exact WB.or ((v.B h).mono fun t H1 h=>by cases t with | true=>exact h | false=>exact v.B h)
theorem nY (ok:VOk z g):∀n,Vs z (vE z g n) (vA z g n) (vP z g n) (vB z g n)
 |0=>⟨fun h=>h,fun h=>h.elim,fun h=>h.elim,fun h=>h⟩
 |n+1=>by
  have v:=nY ok n
  refine⟨fun{e l H K} h=>?_,fun{es l H K} h=>?_,fun{e l H K} h=>?_,fun{e l H K} h=>?_⟩
  ·cases e with
   |Name x p=>exact HB ok h
   |Constant c k p=>exact DN h
   |Tuple es k p=>
    refine bG (fM h) fun hb h=>?_
    exact WE.tup (jV hb) ((v.A h).mono fun as H1 h=>⟨aE (fM h).1,(fM h).2⟩)
   |List es p=>
    refine bG (fM h) fun hb h=>?_
    exact WE.list (jV hb) ((v.A h).mono fun as H1 h=>⟨aE (fM h).1,(fM h).2⟩)
   |Dict ks vs p=>exact Hs h
   |BinOp a op b p=>exact WE.bin ((v.E h).mo fun x H1 h=>(v.E h).mo fun y H2 h=>J1 h)
   |UnaryOp op e p=>exact OZ v h
   |BoolOp op es p=>exact IG v h
   |IfExp t a b p=>
    refine WE.ite ((v.B h).mono fun t H1 h=>?_)
    cases t with
    |true=>exact v.E h
    |false=>exact v.E h
   |Compare a qW bs p=>exact LZ v h
   |Attribute e x p=>
    refine bG (fM h) fun hb h=>?_
    exact Lo ok hb (v.E h)
   |Subscript e i p=>exact KW v h
   |Call f es ks p=>exact HR ok v h
   |_=>exact h
  ·cases es with
   |nil=>exact WA.nil h
   |cons e es=>exact WA.cons ((v.E h).mo fun a H1 h=>v.A h)
  ·cases e with
   |none=>exact h
   |some e=>
    refine(v.E h).mo fun a H1 h=>?_
    cases a with
    |int i=>exact⟨i,rfl,h⟩
    |_=>exact h.elim
  ·cases e with
   |Compare a qW bs p=>exact LS v h
   |UnaryOp op e p=>exact NU v h
   |BoolOp op es p=>exact H0 v h
   |Name x p=>exact WB.plain ((v.E h).mo fun a H1 h=>vk h) rfl
   |Call f es ks p=>exact WB.plain ((v.E h).mo fun a H1 h=>vk h) rfl
   |_=>exact h
end
end
section
open PySem PySem.W PySem.Calls PyProof.Rows
set_option backward.match.sparseCases false
noncomputable def nL:Expr→Bool
 |.ListComp ..=>false
 |.SetComp ..=>false
 |.DictComp ..=>false
 |_=>true
noncomputable def qB:Expr→Bool
 |.Set ..=>false
 |_=>true
noncomputable def UP:Expr→Bool
 |.Name ..=>true
 |.Tuple ..=>true
 |_=>false
noncomputable def pureOf {β:Type}:rU β→Option β
 |.pure a=>some a
 |_=>none
noncomputable def EE (names:List (bu×bc)):dI:={ scope:={ kind:=.function,names:=names,isGenerator:=false,isCoroutine:=false },locals:=0,globals:=0,cells:=[],code:=.none,frame:=none }
noncomputable abbrev QT:=AF→Loc→List ag→Prop
noncomputable abbrev UT:=Loc→List ag→Prop
section
variable (z:VZ) (g:Sx) (E:ET) (A:AT) (B:ME) (l:Loc) (H:List ag) (QU:UT)
noncomputable def vo (x:bu) (a:AV):Prop:=gb (oZ g.names x 0) False fun p=>match p.2 with
  |.local=>bif ik p.1 l.length then QU (l.set p.1 (some a)) H else False
  |.cell=>bif ik p.1 l.length then QU (l.set p.1 (some a)) H else False
  |_=>False
noncomputable def Nc (x:bu) (b a:AV):Prop:=match b with
 |.obj n=>gb H[n]? False fun y=>HJ y fun C fs=>bif Lw g.ft C x&&cw fs.length 100 then QU l (H.set n (.inst C (yA x a fs))) else False
 |_=>False
noncomputable def SY (y:ag) (n:Nat) (k:Int) (a:AV):Prop:=match y with
 |.list vs=>((0≤k∧k<vs.length)∧vs.length≤1000000)∧QU l (H.set n (.list (vs.set k.toNat a)))
 |.dict kvs=>kvs.length≤1000000∧QU l (H.set n (.dict (ml k a kvs)))
 |_=>False
noncomputable def Mj (b k a:AV):Prop:=uN k False fun k=>match b with
  |.obj n=>gb H[n]? False fun y=>SY l H QU y n k a
  |_=>False
end
section
variable (g:Sx) (E:ET) (l:Loc) (Q:QT) (QU:UT)
noncomputable def Df:UT:=fun l1 H1=>Q .next l1 H1
noncomputable def kSt (x:bu) (a:AV) (H:List ag):Prop:=vo g l H QU x a
noncomputable def Mm (x:bu) (a b:AV) (H:List ag):Prop:=Nc g l H QU x b a
noncomputable def Uv (o:Expr) (x:bu) (a:AV) (H:List ag):Prop:=E o l H (Mm g l QU x a)
noncomputable def Tg (a b k:AV) (H:List ag):Prop:=Mj l H QU b k a
noncomputable def Ms (i:Expr) (a b:AV) (H:List ag):Prop:=E i l H (Tg l QU a b)
noncomputable def TO (o i:Expr) (a:AV) (H:List ag):Prop:=E o l H (Ms E l QU i a)
noncomputable def RW (a:AV) (H:List ag):Prop:=match a with
 |.none=>Q .next l H
 |_=>False
noncomputable def Y9 (a:AV) (H:List ag):Prop:=Q (.ret a) l H
noncomputable def IH (S:Loc→List ag→QT→Prop):QT:=fun f l1 H1=>match f with
 |.next=>S l1 H1 Q
 |f=>Q f l1 H1
noncomputable def kBr (S:List eF→Loc→List ag→QT→Prop) (b1 b2:List eF) (b:Bool) (H:List ag):Prop:=match b with
 |true=>S b1 l H Q
 |false=>S b2 l H Q
end
noncomputable def XN (T:Expr→AV→Loc→List ag→UT→Prop):List Expr→List AV→Loc→List ag→UT→Prop
 |[],as,l,H,QU=>match as with
  |[]=>QU l H
  |_=>False
 |t::es,as,l,H,QU=>match as with
  |a::as=>T t a l H fun l1 H1=>XN T es as l1 H1 QU
  |[]=>False
noncomputable def vTT (T:List AV→Prop) (es:List Expr) (a:AV):Prop:=match a with
 |.tup vs=>bif noStar es&&tP es.length vs.length then T vs else False
 |_=>False
noncomputable def vT (g:Sx) (E:ET):Nat→Expr→AV→Loc→List ag→UT→Prop
 |0,t,a,l,H,QU=>False
 |n+1,t,a,l,H,QU=>match t with
  |.Name x _=>vo g l H QU x a
  |.Attribute o x _=>E o l H (Mm g l QU x a)
  |.Subscript o i _=>E o l H (Ms E l QU i a)
  |.Tuple es _ _=>vTT (fun vs=>XN (vT g E n) es vs l H QU) es a
  |_=>False
noncomputable def Vl (g:Sx):List bu→List AV→Loc→List ag→UT→Prop
 |[],as,l,H,QU=>match as with
  |[]=>QU l H
  |_=>False
 |x::xs,as,l,H,QU=>match as with
  |a::as=>vo g l H (fun l1 H1=>Vl g xs as l1 H1 QU) x a
  |[]=>False
section
variable (z:VZ) (g:Sx) (E:ET) (A:AT) (B:ME) (l:Loc) (H:List ag)
noncomputable def Ng (n:Nat) (t e:Expr) (QU:UT):Prop:=gb (pureOf (jO [t] e (EE g.names))) False fun o=>match o with
 |none=>E e l H fun a H1=>vT g E n t a l H1 QU
 |some names=>E e l H fun a H1=>match a with
  |.tup vs=>bif tP names.length vs.length then Vl g names.reverse vs.reverse l H1 QU else False
  |_=>False
noncomputable def Nl (m n:Nat) (t e:Expr) (p:ij) (Q:QT):Prop:=match t with
   |.Name x np=>E e l H (kSt g l (Df Q) x)
   |.Attribute o x _=>E e l H (Uv g E l (Df Q) o x)
   |.Subscript o i _=>E e l H (TO E l (Df Q) o i)
   |.Tuple es k tp=>Ng g E l H n (.Tuple es k tp) e (Df Q)
   |_=>False
noncomputable def UY (m n:Nat) (ts:List Expr) (e:Expr) (p:ij) (Q:QT):Prop:=match ts with
 |[]=>False
 |t::ts=>match ts with
  |[]=>bif nL e then Nl g E l H m n t e p Q else VX z.c z.d m z.A z.env (.Assign [t] e p) l H Q z.X
  |_=>False
noncomputable def CP (m:Nat) (e:Expr) (p:ij) (Q:QT):Prop:=bif nL e then E e l H (RW l Q) else VX z.c z.d m z.A z.env (.Expr e p) l H Q z.X
noncomputable def UN (e:Option Expr) (Q:QT):Prop:=match e with
 |none=>Q (.ret .none) l H
 |some e=>E e l H (Y9 l Q)
noncomputable def Ip:Ru→Bool
 |.str _=>true
 |_=>false
noncomputable def constOf:Expr→Option Ru
 |.Constant c _ _=>some c
 |_=>none
noncomputable def AZ:Expr→Option bu
 |.Name x _=>some x
 |_=>none
noncomputable def BV:Expr→Option (Expr×List Expr×List AU)
 |.Call f es ks _=>some (f,es,ks)
 |_=>none
noncomputable def SV {α:Type}:List α→Option α
 |[]=>none
 |a::r=>match r with
  |[]=>some a
  |_=>none
noncomputable def CS (e:Expr):Option bu:=jq (BV e) fun c=>jq (AZ c.1) fun x=>jq (SV c.2.1) fun a=>jq (constOf a) fun k=>match c.2.2 with
 |[]=>bif Ip k then some x else none
 |_=>none
noncomputable def IS (e:Option Expr) (c:Option Expr):Prop:=match c with
 |some _=>False
 |none=>gb e False fun e=>gb (CS e) False fun x=>bif x=="BadDevice" then gb (oZ g.names x 0) False (fun p=>match p.2 with
  |.globalImplicit=>1≤z.d∧z.X H
  |_=>False) else False
noncomputable abbrev RT:=List AV→(List ag→Prop)→List ag→Prop
noncomputable def HQ (as:List AV) (R:RT):Prop:=match as with
 |[]=>False
 |a::r=>uN a False fun a=>match r with
  |[]=>(-(2^62)≤a∧a<2^62)∧R (fG 0 a 1) (fun _=>True) H
  |b::r=>uN b False fun b=>match r with
   |[]=>((-(2^62)≤a∧a<2^62)∧-(2^62)≤b∧b<2^62)∧R (fG a b 1) (fun _=>True) H
   |st::r=>uN st False fun st=>match r with
    |[]=>((st=1∨st = -1)∧(-(2^62)≤a∧a<2^62)∧-(2^62)≤b∧b<2^62)∧R (fG a b st) (fun _=>True) H
    |_=>False
noncomputable def Rz (k:Nat) (a:AV) (R:RT):Prop:=match a with
 |.eg b=>R (b.map fun x=>.int x.toNat) (fun _=>True) H
 |.str x=>R (x.cps.toList.map fun u=>.str ⟨#[u]⟩) (fun _=>True) H
 |.tup vs=>ku k vs=true∧R vs (fun _=>True) H
 |.obj n=>gb H[n]? False fun y=>match y with
  |.list vs=>bif ik n k then R vs (fun H=>H[n]?=some (.list vs)) H else False
  |.eU kvs ep=>bif ik n k then R (kvs.map fun kv=>.int kv.1) (fun H=>H[n]?=some (.eU kvs ep)) H else False
  |_=>False
 |_=>False
noncomputable def r8 (e:Expr):Option (bu×List Expr):=jq (BV e) fun c=>jq (AZ c.1) fun x=>match c.2.2 with
 |[]=>bif x=="range"&&noStar c.2.1 then some (x,c.2.1) else none
 |_=>none
noncomputable def vF (k:Nat) (e:Expr) (R:RT):Prop:=gb (r8 e) (E e l H fun a H1=>Rz H1 k a R) fun p=>Xo g p.1 fun v=>v=.type "range"∧A p.2 l H fun as H1=>HQ H1 as R
end
mutual
noncomputable def vX (z:VZ) (g:Sx):Nat→Nat→eF→Loc→List ag→QT→Prop
 |0,m,st,l,H,Q=>VX z.c z.d m z.A z.env st l H Q z.X
 |n+1,m,st,l,H,Q=>match st with
  |.Assign ts e p=>UY z g (vE z g n) l H m n ts e p Q
  |.Expr e p=>CP z (vE z g n) l H m e p Q
  |.Return e _=>UN (vE z g n) l H e Q
  |.Raise e c _=>IS z g H e c
  |.Continue _=>Q .cont l H
  |.If t b1 b2 _=>vB z g n t l H (kBr l Q (vS z g n m) b1 b2)
  |.While t body os _=>match os with
   |[]=>∃(J:Nat→Loc→List ag→Prop) (n0:Nat),J n0 l H∧∀i l1 H1,J i l1 H1→vB z g n t l1 H1 fun b H2=>match b with
    |true=>vS z g n m body l1 H2 (dT m (zu (fun l2 H2=>∃j,j<i∧J j l2 H2) Q))
    |false=>Q .next l1 H2
   |_=>False
  |.For t it body os _=>match os with
   |[]=>bif UP t&&qB it then ∃k,m≤k∧vF g (vE z g n) (vA z g n) l H k it fun xs gE H1=>∃J:Nat→Loc→List ag→Prop,J 0 l H1∧(∀i l2 H2,i≤xs.length→J i l2 H2→gE H2) ∧
     (∀i x l2 H2,xs[i]?=some x→J i l2 H2→vT g (vE z g n) n t x l2 H2 fun l3 H3=>vS z g n k body l3 H3 (dT k (zu (J (i+1)) Q)))∧∀l2 H2,J xs.length l2 H2→Q .next l2 H2 else False
   |_=>False
  |st=>VX z.c z.d m z.A z.env st l H Q z.X
noncomputable def vS (z:VZ) (g:Sx):Nat→Nat→List eF→Loc→List ag→QT→Prop
 |0,m,ss,l,H,Q=>VS z.c z.d m z.A z.env ss l H Q z.X
 |n+1,m,ss,l,H,Q=>match ss with
  |[]=>Q .next l H
  |st::r=>match r with
   |[]=>vX z g n m st l H Q
   |r=>vX z g n m st l H (IH Q (vS z g n m r))
end
end
section
open PySem PySem.W PySem.Calls PyProof.Rows
set_option backward.match.sparseCases false
theorem yo {env:dI}{r:List Expr}{e:Expr}(h:sJ e=false):qV (e::r) env=(false,iL e env)::qV r env:=by
 cases e with
 |Starred=>exact fT h.symm
 |_=>rfl
theorem BQ {env:dI}{es:List Expr}:noStar es=true→qV es env=es.map fun e=>(false,iL e env):=by
 induction es with
 |nil=>exact fun _=>rfl
 |cons e r ih=>exact fun h=>(yo (lV h).1).trans (congrArg _ (ih (lV h).2))
theorem su {e:Expr}{t:Option Expr}{ln:Nat}{env:dI}(h:nL e=true):lG e t ln env=pure false:=by
 cases e<;>first | exact fT h | rfl
theorem DI {β:Type}{x:rU β}{a:β}(h:pureOf x=some a):x=pure a:=by
 cases x with
 |pure=>replace h:=ae h;subst h;rfl
 |_=>exact nS h
theorem Uy {env:dI}{names:List (bu×bc)}{ts:List Expr}{v:Expr}(F:iA env names):jO ts v env=jO ts v (EE names):=by
 have e1:env.blockKind=(EE names).blockKind:=by unfold dI.blockKind;rw[F.kind];rfl
 have e2:∀id,env.kindOf id=(EE names).kindOf id:=fun id=>by unfold yH;rw[F.nm];rfl
 have e3:env.kindOf=(EE names).kindOf:=funext e2
 delta jO
 rw[e1,e3]
section
variable {z:VZ}{g:Sx}{E:ET}{A:AT}{P:PT}{B:ME}{l:Loc}{H:List ag}{K:AV→List ag→Prop}{KB:Bool→List ag→Prop}{pos:ij}{QU:UT}{Q:QT}{m:Nat}
theorem sv (ok:n9 z g){x:bu}{a:AV}(h:vo g l H QU x a):WU z.c z.d z.A z.env (fun vs=>p9 z.env x (vs[0]?.getD .none)) [a] l H QU z.X:=dW h fun p e h=>by
 obtain⟨i,k⟩:=p
 have e1:=oO e
 rw[←ok.F.nm] at e1
 cases k with
 |«local»=>exact WU.stLoc i e1 (aE (fM h).1) (fM h).2
 |cell=>exact WU.PU ok.Fe.fr i e1 (aE (fM h).1) (fM h).2
 |_=>exact h.elim
theorem PO {x:ag}{P:aD→List (bu×AV)→Prop}{W:Prop}(h:HJ x P) (k:∀C fs,x=.inst C fs→P C fs→W):W:=by
 cases x with
 |inst C fs=>exact k C fs rfl h
 |_=>exact h.elim
theorem z9 (ok:n9 z g){x:bu}{b a:AV}(h:Nc g l H QU x b a):WU z.c z.d z.A z.env (fun vs=>PySem.setAttr (vs[0]?.getD .none) x (vs[1]?.getD .none)) [b,a] l H QU z.X:=by
 cases b with
 |obj n=>
  refine dW (o:=H[n]?) h fun y e h=>PO h fun C fs ey h=>?_
  subst ey
  obtain⟨hb,h⟩:=fM h
  obtain⟨b1,b2⟩:=aS.mp hb
  exact WU.setAttr e (ok.ft b1).2 (aE b2) h
 |_=>exact h.elim
theorem zX {b k a:AV}(h:Mj l H QU b k a):WU z.c z.d z.A z.env (fun xs=>setItem (xs[0]?.getD .none) (xs[1]?.getD .none) (xs[2]?.getD .none)) [b,k,a] l H QU z.X:=pq h (fun k ek h=>by
 subst ek
 cases b with
 |obj n=>
  refine dW (o:=H[n]?) h fun y e h=>?_
  cases y with
  |list vs=>exact WU.KQ e h.1.1.1 h.1.1.2 h.1.2 h.2
  |dict kvs=>exact WU.KS e h.1 h.2
  |_=>exact h.elim
 |_=>exact h.elim) eu
theorem WU.mono {t:List ai→rU Unit}{as:List AV}{QU':UT}(w:WU z.c z.d z.A z.env t as l H QU z.X) (hq:∀l H,QU l H→QU' l H):WU z.c z.d z.A z.env t as l H QU' z.X:=fun α s vs I r=>
 au (w α s vs I r) (by rintro u' u' ⟨l',bD,H',m,i,q⟩;exact⟨l',bD,H',m,i,hq _ _ q⟩) fun _ _ e=>e
theorem HE {T:Expr→AV→Loc→List ag→UT→Prop}(hT:∀{t:Expr}{a:AV}{l:Loc}{H:List ag}{QU:UT},T t a l H QU→WU z.c z.d z.A z.env (fun vs=>iL t z.env (vs[0]?.getD .none)) [a] l H QU z.X) :
  ∀{es:List Expr}{as:List AV}{l:Loc}{H:List ag},XN T es as l H QU→WU z.c z.d z.A z.env (fun xs=>iC (es.map fun e=>iL e z.env) xs) as l H QU z.X
 |[],[],l,H,h=>WU.nil (fs:=[]) (.inl rfl) h
 |[],_::_,l,H,h=>h.elim
 |t::es,[],l,H,h=>h.elim
 |t::es,a::as,l,H,h=>WU.cons ((hT h).mono fun l1 H1 h=>HE hT h)
theorem C7 (ok:n9 z g) (v:Vs z E A P B):∀{n:Nat}{t:Expr}{a:AV}{l:Loc}{H:List ag}{QU:UT},vT g E n t a l H QU→WU z.c z.d z.A z.env (fun vs=>iL t z.env (vs[0]?.getD .none)) [a] l H QU z.X
 |0,t,a,l,H,QU,h=>h.elim
 |n+1,t,a,l,H,QU,h=>by
  cases t with
  |Name x p=>exact WU.aName (sv ok h)
  |Attribute o x p=>exact WU.TN ((v.E h).mo fun b H2 h=>z9 ok h)
  |Subscript o i p=>exact WU.aSub ((v.E h).mo fun b H2 h=>(v.E h).mo fun k H3 h=>zX h)
  |Tuple es k p=>
   cases a with
   |tup vs=>
    obtain⟨hb,h⟩:=fM h
    obtain⟨b1,b2⟩:=aS.mp hb
    have e:=BQ (env:=z.env) b1
    refine WU.Wi (ig b2) (by rw[e,aa]) ?_ ?_
    ·rw[e]
     rw[List.findIdx?_eq_none_iff]
     intro x hx
     refine aq (dJ.mp hx) fun y _ iu=>?_
     subst iu
     rfl
    ·rw[e,dy]
     exact HE (fun h=>C7 ok v h) h
   |_=>exact h.elim
  |_=>exact h.elim
theorem G1 (ok:n9 z g):∀{ns:List bu}{as:List AV}{l:Loc}{H:List ag},Vl g ns as l H QU→WU z.c z.d z.A z.env (fun xs=>iC (ns.map fun n=>bindName z.env n) xs) as l H QU z.X
 |[],[],l,H,h=>WU.nil (fs:=[]) (.inl rfl) h
 |[],_::_,l,H,h=>h.elim
 |n::ns,[],l,H,h=>h.elim
 |n::ns,a::as,l,H,h=>WU.cons (WU.UE ((sv ok (show vo g l H (fun l1 H1=>Vl g ns as l1 H1 QU) n a from h)).mono fun l1 H1 h=>G1 ok h))
theorem HD (ok:n9 z g) (v:Vs z E A P B){n k:Nat}{es:List Expr}{tp:ij}{e:Expr}(hc:nL e=true) (h:Ng g E l H n (.Tuple es k tp) e (fun l' H'=>Q .next l' H')) :
  WX z.c z.d z.A z.env (.Assign [.Tuple es k tp] e pos) l H Q z.X:=by
 refine dW (o:=pureOf (jO [.Tuple es k tp] e (EE g.names))) h fun o e1 h=>?_
 have e1:=DI e1
 rw[←Uy ok.Fe] at e1
 cases o with
 |none=>exact WX.Pw (show lG e (some (.Tuple es k tp)) pos.line z.env=pure false from su hc) e1 ((v.E h).mo fun a H1 h=>C7 ok v h)
 |some names=>
  refine WX.Ts (show lG e (some (.Tuple es k tp)) pos.line z.env=pure false from su hc) e1 ((v.E h).mo fun a H1 h=>?_)
  cases a with
  |tup vs=>exact⟨vs,rfl,ig (fM h).1,G1 ok (fM h).2⟩
  |_=>exact h.elim
theorem LD (ok:n9 z g) (v:Vs z E A P B){n:Nat}{ts:List Expr}{e:Expr}(h:UY z g E l H m n ts e pos Q):VX z.c z.d m z.A z.env (.Assign ts e pos) l H Q z.X:=by
 rcases ts with _ | ⟨t,_ | ⟨t2,ts⟩⟩
 ·exact h.elim
 ·have h:bif nL e then Nl g E l H m n t e pos Q else VX z.c z.d m z.A z.env (.Assign [t] e pos) l H Q z.X:=h
  cases hc:nL e with
  |false=>rw[hc] at h;exact h
  |true=>
   rw[hc] at h
   refine VX.of ?_
   cases t with
   |Name x np=>exact WX.asg ((v.E h).mo fun a H1 h=>sv ok h) (su hc)
   |Attribute o x p=>exact WX.Lk ((v.E h).mo fun a H1 h=>(v.E h).mo fun b H2 h=>z9 ok h) (su hc)
   |Subscript o i p=>exact WX.NK ((v.E h).mo fun a H1 h=>(v.E h).mo fun b H2 h=>(v.E h).mo fun k H3 h=>zX h) (su hc)
   |Tuple es k tp=>exact HD ok v hc h
   |_=>exact h.elim
 ·exact h.elim
theorem I6 {env:dI}{names:List (bu×bc)}(F:iA env names):Ma env=false:=by unfold Ma;rw[F.kind];rfl
theorem FV (ok:n9 z g) (v:Vs z E A P B){e:Expr}(h:CP z E l H m e pos Q):VX z.c z.d m z.A z.env (.Expr e pos) l H Q z.X:=by
 cases hc:nL e with
 |false=>unfold CP at h;rw[hc] at h;exact h
 |true=>
  unfold CP at h
  rw[hc] at h
  refine VX.of (WX.expr ((v.E h).mo fun a H1 h=>?_) (I6 ok.Fe) (su hc))
  cases a with
  |none=>exact⟨rfl,h⟩
  |_=>exact h.elim
theorem Lq (v:Vs z E A P B){e:Option Expr}(h:UN E l H e Q):VX z.c z.d m z.A z.env (.Return e pos) l H Q z.X:=by
 cases e with
 |none=>exact VX.of (WX.Kz h)
 |some e=>exact VX.of (WX.ret (v.E h))
theorem A5 {e:Expr}{c:Ru}(h:constOf e=some c):∃k p,e=.Constant c k p:=by
 cases e with
 |Constant=>replace h:=ae h;subst h;exact⟨_,_,rfl⟩
 |_=>exact nS h
theorem w4 {e:Expr}{x:bu}(h:AZ e=some x):∃p,e=.Name x p:=by
 cases e with
 |Name=>replace h:=ae h;subst h;exact⟨_,rfl⟩
 |_=>exact nS h
theorem xn {e:Expr}{c:Expr×List Expr×List AU}(h:BV e=some c):∃p,e=.Call c.1 c.2.1 c.2.2 p:=by
 cases e with
 |Call=>replace h:=ae h;subst h;exact⟨_,rfl⟩
 |_=>exact nS h
theorem Kl {α:Type}{l:List α}{a:α}(h:SV l=some a):l=[a]:=by
 rcases l with _ | ⟨b,_ | ⟨c,l⟩⟩<;>cases h
 rfl
theorem Es {c:Ru}(h:Ip c=true):∃x,c=.str x:=by
 cases c with
 |str=>exact⟨_,rfl⟩
 |_=>exact fT h
theorem Hh {α:Type}{b:Bool}{x y:α}(h:(bif b then some x else none)=some y):b=true∧x=y:=by
 cases b<;>cases h
 exact⟨rfl,rfl⟩
theorem Bv {e:Expr}{x:bu}(h:CS e=some x):∃p y k p1 p2,e=.Call (.Name x p) [.Constant (.str y) k p1] [] p2:=by
 refine aq (dU h) fun jX e1 h1=>?_
 obtain⟨f,es,ks⟩:=jX
 refine aq (dU h1) fun z e2 h2=>?_
 refine aq (dU h2) fun a e3 h3=>?_
 refine aq (dU h3) fun c e4 h4=>?_
 clear h h1 h2 h3
 obtain⟨p2,e1⟩:=xn e1
 obtain⟨p,e2⟩:=w4 e2
 have e3:=Kl e3
 refine fW (A5 e4) fun i p1 e4=>?_
 cases ks with
 |cons=>exact nS h4
 |nil=>
  obtain⟨hs,ex⟩:=Hh h4
  obtain⟨s,es⟩:=Es hs
  exact⟨p,s,i,p1,p2,by rw[e1,e2,e3,e4,es,ex]⟩
theorem Ey (ok:n9 z g){e c:Option Expr}(h:IS z g H e c):VX z.c z.d m z.A z.env (.Raise e c pos) l H Q z.X:=by
 cases c with
 |some c=>exact h.elim
 |none=>
  refine dW (o:=e) h fun e' ee h=>dW h fun x en h=>?_
  subst ee
  refine fW (Bv en) fun p y j4=>?_
  refine fW j4 fun k p1 nF=>?_
  refine al nF fun p2 j5=>?_
  subst j5
  obtain⟨hx,h⟩:=fM h
  cases eq_of_beq hx
  refine dW h fun q e1 h=>?_
  obtain⟨i,k⟩:=q
  have e1:=oO e1
  have FX:=Ir ok.F e1
  rw[←ok.F.nm] at e1
  cases k with
  |globalImplicit=>
   refine bQ ok.rs fun nv kp ns=>?_
   refine fW nv fun fI fd r=>?_
   exact VX.of (WX.raise r kp h.1 i e1 ns FX h.2)
  |_=>exact h.elim
theorem DW {as:List AV}{R:RT}(h:HQ H as R):∃a b st,Nb as a b st∧(st=1∨st = -1)∧(-(2^62)≤a∧a<2^62∧-(2^62)≤b∧b<2^62)∧R (fG a b st) (fun _=>True) H:=by
 rcases as with _ | ⟨a,r⟩
 ·exact h.elim
 refine pq h (fun a ea h=>?_) eu
 subst ea
 rcases r with _ | ⟨b,r⟩
 ·exact⟨0,_,1,.inl ⟨rfl,rfl,rfl⟩,.inl rfl,⟨by decide,by decide,h.1.1,h.1.2⟩,h.2⟩
 refine pq h (fun b eb h=>?_) eu
 subst eb
 rcases r with _ | ⟨st,r⟩
 ·exact⟨_,_,1,.inr (.inl ⟨rfl,rfl⟩),.inl rfl,⟨h.1.1.1,h.1.1.2,h.1.2.1,h.1.2.2⟩,h.2⟩
 refine pq h (fun st es h=>?_) eu
 subst es
 cases r with
 |nil=>exact⟨_,_,_,.inr (.inr rfl),h.1.1,⟨h.1.2.1.1,h.1.2.1.2,h.1.2.2.1,h.1.2.2.2⟩,h.2⟩
 |cons=>exact h.elim
theorem KC {k:Nat}{a:AV}{R:RT}(h:Rz H k a R):∃xs gE,eW k z.c z.d z.A xQ a xs gE∧gE H∧R xs gE H:=by
 cases a with
 |eg b=>exact⟨_,_,eW.eg _,trivial,h⟩
 |str x=>exact⟨_,_,eW.str _,trivial,h⟩
 |tup vs=>exact⟨_,_,eW.tup _ h.1,trivial,h.2⟩
 |obj n=>
  refine dW (o:=H[n]?) h fun y e h=>?_
  cases y with
  |list vs=>exact⟨_,_,eW.list _ _ (aE (fM h).1),e,(fM h).2⟩
  |eU kvs ep=>exact⟨_,_,eW.keys _ _ _ (aE (fM h).1),e,(fM h).2⟩
  |_=>exact h.elim
 |_=>exact h.elim
theorem yx {e:Expr}{q:bu×List Expr}(h:r8 e=some q):noStar q.2=true∧∃p p',e=.Call (.Name q.1 p) q.2 [] p':=by
 refine aq (dU h) fun tO e1 h1=>?_
 obtain⟨f,es,ks⟩:=tO
 refine aq (dU h1) fun z e2 h2=>?_
 clear h h1
 obtain⟨p2,e1⟩:=xn e1
 obtain⟨p,e2⟩:=w4 e2
 cases ks with
 |cons=>exact nS h2
 |nil=>
  obtain⟨hs,ex⟩:=Hh h2
  subst ex
  exact⟨(aS.mp hs).2,p,p2,by rw[e1,e2]⟩
theorem mW (ok:n9 z g) (v:Vs z E A P B){k:Nat}{e:Expr}{R:RT}(h:vF g E A l H k e R):WI k z.c z.d z.A z.env xQ e l H R z.X:=by
 refine zC (o:=r8 e) h (fun q er h2=>?_) fun h=>WI.of ((v.E h).mo fun a H1 h=>KC h)
 refine bG (yx er) fun hs jZ=>?_
 refine fW jZ fun p p' lC=>?_
 subst lC
 refine WI.range rfl (jV hs) (Gj ok.toVOk h2 fun w _ h=>?_)
 obtain⟨rfl,h⟩:=h
 exact⟨rfl,(v.A h).mono fun as H2 h=>DW h⟩
theorem kZ {e:Expr}{env:dI}(h:qB e=true) (x:ai):gA e env x=pure x:=by
 cases e<;>first | exact fT h | rfl
theorem N4 {t:Expr}(h:UP t=true):xQ t:=by
 cases t with
 |Name x p=>exact .inl ⟨x,p,rfl⟩
 |Tuple es k p=>exact .inr ⟨es,k,p,rfl⟩
 |_=>exact fT h
structure Xs (z:VZ) (g:Sx) (n:Nat):Prop where
 X:∀{m:Nat}{st:eF}{l:Loc}{H:List ag}{Q:QT},vX z g n m st l H Q→VX z.c z.d m z.A z.env st l H Q z.X
 S:∀{m:Nat}{ss:List eF}{l:Loc}{H:List ag}{Q:QT},vS z g n m ss l H Q→VS z.c z.d m z.A z.env ss l H Q z.X
theorem VX.mono {st:eF}{Q':QT}(w:VX z.c z.d m z.A z.env st l H Q z.X) (hq:∀f l H,Q f l H→Q' f l H):VX z.c z.d m z.A z.env st l H Q' z.X:=fun α s I=>
 au (w α s I) (by rintro u' u' ⟨a,l',bD,H',m,i,r,q⟩;exact⟨a,l',bD,H',m,i,r,hq _ _ _ q⟩) fun _ _ e=>e
theorem Af (ok:n9 z g):∀n,Xs z g n
 |0=>⟨fun h=>h,fun h=>h⟩
 |n+1=>by
  have v:=nY ok.toVOk n
  have x:=Af ok n
  refine⟨fun{m st l H Q} h=>?_,fun{m ss l H Q} h=>?_⟩
  ·cases st with
   |Assign ts e p=>exact LD ok v h
   |Expr e p=>exact FV ok v h
   |Return e p=>exact Lq v h
   |Raise e c p=>exact Ey ok h
   |Continue p=>exact VX.of (WX.cont h)
   |If t b1 b2 p=>
    refine VX.if_ ((v.B h).mono fun b H1 h=>?_)
    cases b with
    |true=>exact x.S h
    |false=>exact x.S h
   |While t body os p=>
    cases os with
    |cons=>exact h.elim
    |nil=>
     refine cD h fun J n0 j0 h=>?_
     refine VX.O9 J n0 j0 fun i l1 H1 j=>((v.B (h i l1 H1 j)).mono fun b H2 h=>?_)
     cases b with
     |true=>exact VS.H6 (x.S h)
     |false=>exact h
   |For t it body os p=>
    cases os with
    |cons=>exact h.elim
    |nil=>
     refine bG (fM h) fun hb sy=>?_
     refine aq sy fun k hk h=>?_
     simp only[gJ] at hb
     refine VX.R7 k hk (N4 hb.1) (kZ hb.2) ?_
     have w:=mW ok v h
     refine w.mono fun xs gE H2 p=>?_
     refine fF p fun J j0 Vo step fin=>?_
     clear p
     exact⟨J,j0,Vo,fun i x' l2 H2 hx j=>(C7 ok v (step i x' l2 H2 hx j)).mono fun l3 H3 h=>VS.H6 (x.S h),fin⟩
   |_=>exact h
  ·cases ss with
   |nil=>exact VS.nil h
   |cons st r=>
    cases r with
    |nil=>
     refine VS.cons ((x.X (show vX z g n m st l H Q from h)).mono fun f l1 H1 h=>?_)
     cases f with
     |next=>exact VS.nil h
     |_=>exact h
    |cons Xe r=>
     refine VS.cons ((x.X (show vX z g n m st l H (IH Q (vS z g n m (Xe::r))) from h)).mono fun f l1 H1 h=>?_)
     cases f with
     |next=>exact x.S h
     |_=>exact h
end
end
section
open PySem PySem.W PySem.Calls PyProof.Rows
noncomputable def j3:Option eF→List bu
 |some (.FunctionDef _ p _ _ _ _ _ _ _ _)=>p.args.map (·.arg)
 |_=>[]
noncomputable def GT:List (bu×AV):=YS.map fun p=>(fa p.1,p.2)
noncomputable def ir:List Nat→List (bu×AV)
 |[]=>[]
 |i::is=>match YS[i]? with
  |some (x,a)=>(fa x,a)::ir is
  |none=>ir is
set_option tactic.hygienic true in
theorem An {p:bu×AV}:∀{is:List Nat},p∈ir is→p∈GT:=by
 intro us
 induction us with
 |nil=>
  intro h
  unfold ir at h;cases h
 |cons i is ih=>
  intro h
  unfold ir at h
  split at h
  ·rename_i x a e
   rcases br.mp h with rfl | h
   ·exact dJ.mpr ⟨(x,a),a9 e,rfl⟩
   ·exact ih h
  ·exact ih h
theorem pM {β:Type}{x:bu}{a:β}:∀{l:List (bu×β)},jR l x=some a→(x,a)∈l:=by
 intro us
 induction us with
 |nil=>
  intro h
  unfold jR at h;exact nS h
 |cons hd r ih=>
  obtain⟨y,k⟩:=hd
  intro h
  unfold jR at h
  cases e:y==x with
  |true=>rw[e] at h;replace h:=ae h;subst h;cases eq_of_beq e;exact aI
  |false=>rw[e] at h;exact aG _ (ih h)
noncomputable abbrev gx (s:Option eF) (is:List Nat):Sx:=⟨namesOf s,ir is,FT,MT⟩
noncomputable def locs:List AV→List (bu×bc)→Loc
 |[],ns=>ns.map fun _=>none
 |a::as,[]=>some a::locs as []
 |a::as,_::ns=>some a::locs as ns
theorem rN {v:AV}{as:List AV}:∀{ns:List (bu×bc)}{i:Nat},(locs as ns)[i]?=some (some v)→as[i]?=some v:=by
 induction as with
 |nil=>
  intro ns i h
  rw[show locs [] ns=ns.map fun _=>none from rfl,aK] at h
  cases q:ns[i]? with
  |none=>rw[q] at h;exact nS h
  |some u=>rw[q] at h;exact nS (ae h)
 |cons a as ih=>
  intro ns i h
  cases ns with
  |nil=>cases i with
   |zero=>exact ae h
   |succ i=>exact ih (i:=i) h
  |cons n ns=>cases i with
   |zero=>exact ae h
   |succ i=>exact ih (i:=i) h
noncomputable def yD:List (bu×bc)→List (bu×bc)
 |[]=>[]
 |(x,k)::r=>match k with
  |.local=>(x,k)::yD r
  |.cell=>(x,k)::yD r
  |_=>[]
noncomputable def Na (K:gg) (f:aD) (s:Option eF):Prop:=∃fd,qk K f fd (iK s) (j3 s)∧fd.scope.names=namesOf s∧(∀p∈namesOf s,(p.1==("__debug__":bu))=false) ∧
 ∀(sh:aH) (vs:List ai),K.In sh.heap→vs.length=(j3 s).length→wL sh fd ⟨vs,[]⟩ ((j3 s).zip vs)
theorem binds_K {c:Cx}{d:Nat}{A:aU}{H:List ag}{fd:eJ}{ps:List bu}{as:List AV}(h:∀(sh:aH) (vs:List ai),c.K.In sh.heap→vs.length=ps.length→wL sh fd ⟨vs,[]⟩ (ps.zip vs)) (hl:as.length=ps.length) :
  ∀(α:Am) (s:aH) (vs:List ai),FO c (d+1) A α H s→bl c s.heap α as vs→∃y0,bl c s.heap α as y0∧wL s fd ⟨vs,[]⟩ (ps.zip y0):=
 fun _ s vs I r=>⟨vs,r,h s vs (I.ok.X.keeps I.h.base) (r.length.trans hl)⟩
theorem WC.Yi {c:Cx}{d:Nat}{H:List ag}{f:aD}{fd:eJ}{body:List eF}{ps:List bu}(D:qk c.K f fd body ps){as:List AV}{Q:AV→List ag→Prop}{X:List ag→Prop}(hl:as.length=ps.length)
  (h:∀(sh:aH) (vs:List ai),c.K.In sh.heap→vs.length=ps.length→wL sh fd ⟨vs,[]⟩ (ps.zip vs))
  (w:∀A env,env.scope=fd.scope→env.frame=some env.locals→VS c d H.length A env body (uA as (fd.scope.names.length-as.length)) H (qE Q) X):WC c (d+1) (.ref f) as H Q X:=
 fun A α s vs I r=>WC.Qs rfl D hl (binds_K h hl) (fun A env he hf α s I=>au (w A env he hf α s I)
  (fun _ _ p=>(p.full (bF I.h.len)).toR)
  fun _ _ p=>p.full (bF I.h.len)) α s vs I r
structure eX (c:Cx):Prop where
 gt:∀{x:bu}{a:AV},(x,a)∈GT→ZR c x a∨∃v,a=.fix v∧XA c x v
 kp:∀{x:bu}{v:ai},(x,.fix v)∈GT→gV c v
 ft:∀{C:aD}{x:bu},Lw FT C x=true→yr c.K C x∧CM c.K C x
 mt:∀{C:aD}{x:bu}{f:aD},Kd MT C x=some f→xE c.K C x f
 rs:(∃fI fd,ma c.K c.bd fI fd)∧gV c (.ref c.bd)∧EV c.K et "BadDevice"=some (some (.ref c.bd))
 mko:∀{C I:aD},kM MK C=some I→A9 c.K C I
 fn:∀{f:aD}{s:Option eF}{is:List Nat},kM FN f=some (s,is)→Na c.K f s
theorem eX.ok {c:Cx}{d:Nat}{A:aU}{env:dI}{X:List ag→Prop}{ns:List (bu×bc)}{is:List Nat}(F:eX c) (E:NmEnv env ns):VOk ⟨c,d,A,env,X⟩ ⟨ns,ir is,FT,MT⟩:=⟨E,fun h=>F.gt (An (pM h)),fun h=>F.kp (An (pM h)),F.ft,F.mt,F.rs⟩
section
variable {c:Cx}{d:Nat}{as:List AV}{H:List ag}{Q:AV→List ag→Prop}{X:List ag→Prop}
variable {A:aU}{env:dI}{l l':Loc}{α:Am}{s:aH}
theorem Inv.loc (I:Inv c d A env l α H s) (h:∀(i:Nat) (v:AV),l'[i]?=some (some v)→l[i]?=some (some v)):Inv c d A env l' α H s:=by
 refine⟨I.ok,I.e,I.r,I.top,I.h,⟨?_,fun{i x k} e hk=>?_,I.f.no,I.f.new⟩,I.k⟩
 ·refine aq I.f.ns fun m hm hr=>?_
  exact⟨m,hm,fun e1 e2=>hr e1 (h _ _ e2)⟩
 ·refine gc (I.f.cl e hk) fun b ov e1 e2 n1 n2 hr=>?_
  exact⟨b,ov,e1,e2,n1,n2,fun e3=>hr (h _ _ e3)⟩
theorem WC.v (F:eX c){f:aD}{s:Option eF}{is:List Nat}(e:kM FN f=some (s,is)) (hl:as.length=(j3 s).length)
  (w:∀A env,iA env (namesOf s)→vS ⟨c,d,A,env,X⟩ (gx s is) 60 H.length (iK s) (locs as (yD (namesOf s))) H (dT H.length (qE Q))):WC c (d+1) (.ref f) as H Q X:=by
 refine fF (F.fn e) fun fd D hn D3 hb=>?_
 refine WC.Yi D hl hb fun A env he hf=>?_
 have E:iA env (namesOf s):=⟨⟨by rw[he];exact hn,D3⟩,by rw[he];exact D.kind,hf⟩
 have W:=VS.H6 ((Af ⟨F.ok E.toNmEnv,E⟩ 60).S (w A env E))
 exact fun α s I=>W α s (I.loc fun i v e=>by
  have e:=rN e
  unfold uA
  rw[aC (by rw[aa];exact(ao.mp e).1),aK,e]
  rfl)
theorem WC.mk (F:eX c){C I:aD}(e:kM MK C=some I) (w:WC c d (.ref I) (.obj H.length::as) (H++[.inst C []]) (fun a H'=>a=.none∧Q (.obj H.length) H') X):WC c (d+1) (.ref C) as H Q X:=WC.make (F.mko e) w
end
noncomputable def ei {α:Type}(o:Option α) (no:Prop) (ok:α→Prop):Prop:=match o with
 |none=>no
 |some x=>ok x
theorem ei.mono {α:Type}{x:Option α}{no MU:Prop}{ok IL:α→Prop}(h:ei x no ok) (h0:no→MU) (h1:∀y,ok y→IL y):ei x MU IL:=by
 cases x with
 |none=>exact h0 h
 |some y=>exact h1 y h
theorem ei.map {α β:Type}{x:Option α}{f:α→β}{no MU:Prop}{ok:β→Prop}{IL:α→Prop}(h:ei (x.map f) no ok) (h0:no→MU) (h1:∀y,ok (f y)→IL y):ei x MU IL:=by
 cases x with
 |none=>exact h0 h
 |some y=>exact h1 y h
theorem ei.bind {α β:Type}{x:Option α}{f:α→Option β}{no MU:Prop}{ok:β→Prop}{IL:α→Prop}(h:ei (x.bind f) no ok) (h0:no→MU) (h1:∀y,x=some y→ei (f y) no ok→IL y):ei x MU IL:=by
 cases x with
 |none=>exact h0 h
 |some y=>exact h1 y rfl h
theorem ei.bi {α β:Type}{x:Option α}{f:α→Option β}{no:Prop}{ok:β→Prop}(h:ei (x.bind f) no ok):(x=none→no)∧∀y,x=some y→ei (f y) no ok:=by
 cases x with
 |none=>exact⟨fun _=>h,fun _=>nS⟩
 |some y=>exact⟨fun e=>nS e.symm,fun z e=>ae e▸h⟩
theorem ei.pos {α:Type}{p:Prop} [Decidable p] {x y:Option α}{no:Prop}{ok:α→Prop}(q:ei (if p then x else y) no ok) (h:p):ei x no ok:=by rw[if_pos h] at q;exact q
theorem ei.neg {α:Type}{p:Prop} [Decidable p] {x y:Option α}{no:Prop}{ok:α→Prop}(q:ei (if p then x else y) no ok) (h:¬p):ei y no ok:=by rw[if_neg h] at q;exact q
end
section
open PySem PySem.W PySem.Calls PyProof.Rows
noncomputable def mM (ns cn:List (bu×bc)):List (bu×bc):=cn.map fun p=>if (p.2==.free&&ns.lookup p.1==some .cell) then (p.1,.cell) else p
noncomputable def mR (ns:List (bu×bc)) (l:Loc):List (bu×bc)→Loc
 |[]=>[]
 |(x,k)::r=>(match k with
  |.free=>match oZ ns x 0 with
   |some (j,_)=>(l[j]?).join
   |none=>none
  |_=>none)::mR ns l r
noncomputable def rh (ns cn:List (bu×bc)) (x:bu):Bool:=cn.all (fun p=>p.2 != .cell&&(p.2 != .local||cn.lookup p.1==some .local)&&(p.2 != .free||(match oZ ns p.1 0 with
  |some (_,.cell)=>true
  |_=>false)))&&decide (cn.map (·.1)).Nodup&&(mM ns cn)[1]?==some (x,.local)&&ik 1 cn.length&&cn.all (fun p=>!(p.1==("__debug__":bu)))
section
variable {c:Cx}{d kp:Nat}{A:aU}{env:dI}{l:Loc}{H:List ag}{Q:AV→List ag→Prop}{X:List ag→Prop}{ns cn:List (bu×bc)}{scope:nR}{x:bu}
theorem Aw {cn:List (bu×bc)}:∀{i:Nat},(mR ns l cn)[i]?=(cn[i]?).map fun p=>(match p.2 with
  |.free=>match oZ ns p.1 0 with
   |some (j,_)=>(l[j]?).join
   |none=>none
  |_=>none):=by
 induction cn with
 |nil=>exact rfl
 |cons p r ih=>
  intro i
  cases i with
  |zero=>rfl
  |succ i=>exact ih
theorem D7:∀{cn:List (bu×bc)},(mR ns l cn).length=cn.length:=by
 intro us
 induction us with
 |nil=>
  unfold mR;rfl
 |cons hd r ih=>
  obtain⟨y,k⟩:=hd
  unfold mR;rw[cC,ih];rfl
set_option tactic.hygienic true in
theorem rD (E:iA env ns) (hk:scope.kind=.function) (hb:rh ns scope.names x=true):nE env l scope x (mR ns l scope.names) (mM ns scope.names):=by
 unfold rh at hb
 simp only[gJ] at hb
 refine bG hb fun iu h5=>?_
 clear hb
 refine bG iu fun jX h4=>?_
 refine bG jX fun j5 h3=>?_
 refine bG j5 fun h1 h2=>?_
 rw[ba] at h1
 refine⟨hk,fun y hy e=>?_,fun y hy e=>?_,of_decide_eq_true h2,?_,eq_of_beq h3,by rw[D7];exact aE h4,fun i y e=>?_,fun i v e=>?_⟩
 ·have:=h1 y hy;rw[e] at this;simp at this
 ·have:=h1 y hy;rw[e] at this;simpa using this
 ·unfold gB mM
  dsimp only
  refine i7 fun p hp=>?_
  rw[E.kind]
  unfold yH
  rw[E.nm]
  simp
 ·have:=h1 _ (a9 e)
  simp only[gJ] at this
  have h:=this.2
  simp only[bne_self_eq_false,ni] at h
  split at h
  ·rename_i j e2
   have e1:=oO e2
   refine⟨j,E.nm▸e1,fun v hv=>?_⟩
   rw[Aw,e] at hv
   simp only[oo,e2] at hv
   cases q:l[j]? with
   |none=>rw[q] at hv;cases hv
   |some o=>rw[q] at hv;simpa using hv
  ·exact fT h
 ·rw[Aw] at e
  cases q:scope.names[i]? with
  |none=>rw[q] at e;exact nS e
  |some p=>
   rw[q] at e
   obtain⟨y,k⟩:=p
   cases k with
   |free=>exact⟨y,rfl⟩
   |_=>cases e
theorem nx (E:iA env ns) (hb:rh ns cn x=true){cenv:dI}(h:cenv.scope.names=mM ns cn):NmEnv cenv (mM ns cn):=by
 unfold rh at hb
 simp only[gJ] at hb
 have h5:=ba.mp hb.2
 refine⟨h,fun p hp=>?_⟩
 unfold mM at hp
 refine aq (dJ.mp hp) fun q hq nF=>?_
 subst nF
 have:=h5 q hq
 split<;>simpa using this
theorem At.last {H:List ag}{n:Nat}{x:ag}(h:n=H.length):(H++[x])[n]?=some x:=by subst h;simp
theorem tu.map {oK:Expr}{lc:Loc}{dP:List (bu×bc)}{fin:List AV→List ag→Prop}{xs:List AV}{gE:List ag→Prop}(f:AV→AV) (nI:∀acc,gE (H++[.list acc])) (hz:xs.length≤1000000)
  (step:∀(cenv:dI) (i:Nat) (v:AV) (acc:List AV),cenv.scope.names=dP→xs[i]?=some v→acc.length≤1000000→WE c d A cenv oK (lc.set 1 (some v)) (H++[.list acc]) (fun a H3=>a=f v∧H3=H++[.list acc]) X)
  (q:fin (xs.map f) (H++[.list (xs.map f)])):tu c d A oK [] lc dP X fin xs gE H:=by
 refine⟨fun i acc H'=>H'=H++[.list acc]∧acc=(xs.take i).map f,⟨rfl,rfl⟩,?_,?_,?_⟩
 ·rintro i acc H' ⟨rfl,rfl⟩
  refine⟨nI _,At.last rfl,?_⟩
  rw[aa,cj];exact aW [_,_,_] [] [.L aB jg,.fm aM cg aB] (.L aM jg) (.o (.k [1,1,1,0,1]) jN) rfl hz (AH _ _)
 ·rintro cenv i v acc H' hn hv ⟨rfl,rfl⟩
  have hl:((xs.take i).map f).length≤1000000:=by rw[aa,cj];exact aW [_,_,_] [] [.L aB jg,.fm aM cg aB] (.L aM jg) (.o (.k [1,1,1,0,1]) jN) rfl hz (AH _ _)
  refine BY.nil ?_
  rw[if_pos rfl]
  refine(step cenv i v _ hn hv hl).mono ?_ fun _ h=>h
  rintro a H3 ⟨rfl,rfl⟩
  refine⟨At.last rfl,hl,by simp,?_⟩
  rw[gi,hv];simp
 ·rintro acc H' ⟨rfl,rfl⟩
  rw[kE];exact q
theorem tu.Wy {d:Nat}{A:aU}{oK t:Expr}{lc:Loc}{X:List ag→Prop}{dP:List (bu×bc)}{fin:List AV→List ag→Prop}{xs:List AV}{gE:List ag→Prop}(p:AV→Bool) (nI:∀acc,gE (H++[.list acc])) (hz:xs.length≤1000000)
  (KO:∀(cenv:dI) (i:Nat) (v:AV) (acc:List AV),cenv.scope.names=dP→xs[i]?=some v→acc.length≤1000000→WB c d A cenv t (lc.set 1 (some v)) (H++[.list acc]) (fun ok H3=>ok=p v∧H3=H++[.list acc]) X)
  (step:∀(cenv:dI) (i:Nat) (v:AV) (acc:List AV),cenv.scope.names=dP→xs[i]?=some v→acc.length≤1000000→WE c d A cenv oK (lc.set 1 (some v)) (H++[.list acc]) (fun a H3=>a=v∧H3=H++[.list acc]) X)
  (q:fin (xs.filter p) (H++[.list (xs.filter p)])):tu c d A oK [t] lc dP X fin xs gE H:=by
 have uj:∀i,((xs.take i).filter p).length≤1000000:=fun i=>by
  have h1:=List.length_filter_le p (xs.take i)
  rw[cj] at h1;exact aW [_,_,_,_] [] [.L aB jg,.L aM cg,.fm cg fz aB] (.L aM jg) (.o (.k [1,1,1,0,1,1]) rk) rfl hz h1 (AH _ _)
 refine⟨fun i acc H'=>H'=H++[.list acc]∧acc=(xs.take i).filter p,⟨rfl,rfl⟩,?_,?_,?_⟩
 ·rintro i acc H' ⟨rfl,rfl⟩
  exact⟨nI _,At.last rfl,uj i⟩
 ·rintro cenv i v acc H' hn hv ⟨rfl,rfl⟩
  refine BY.one (WB.mono (KO cenv i v _ hn hv (uj i)) ?_)
  rintro ok H3 ⟨rfl,rfl⟩
  cases hp:p v with
  |true=>
   rw[if_pos rfl]
   refine(step cenv i v _ hn hv (uj i)).mono ?_ fun _ h=>h
   rintro a H4 ⟨rfl,rfl⟩
   refine⟨At.last rfl,uj i,by simp,?_⟩
   rw[gi,hv];simp[hp]
  |false=>
   rw[if_neg (by simp)]
   refine⟨rfl,?_⟩
   rw[gi,hv];simp[hp]
 ·rintro acc H' ⟨rfl,rfl⟩
  rw[kE];exact q
theorem WI.mo {T:Expr→Prop}{e:Expr}{R R':List AV→(List ag→Prop)→List ag→Prop}(w:WI kp c d A env T e l H R X) (h:∀xs gE H1,R xs gE H1→R' xs gE H1):WI kp c d A env T e l H R' X:=fun α s I=>
 au (w α s I) (fun v bf p=>au p (by rintro it cY ⟨I₀,St,xs,gE,eY,bE,h1,h2,h3,h4,h5,h6,h7,q⟩;exact⟨I₀,St,xs,gE,eY,bE,h1,h2,h3,h4,h5,h6,h7,h _ _ _ q⟩) fun _ _ e=>e) fun _ _ e=>e
theorem WE.lc (F:eX c) (is:List Nat) (E:iA env ns){oK iter:Expr}{px pos:ij}(kp:Nat) (f:AV→AV) (hk:scope.kind=.function) (hb:rh ns scope.names x=true) (hs:qB iter=true)
  (w:vF ⟨ns,ir is,FT,MT⟩ (vE ⟨c,d,A,env,X⟩ ⟨ns,ir is,FT,MT⟩ 40) (vA ⟨c,d,A,env,X⟩ ⟨ns,ir is,FT,MT⟩ 40) l H kp iter fun xs gE H1=>((∀acc,gE (H1++[.list acc]))∧xs.length≤1000000) ∧
   (∀(cenv:dI) (i:Nat) (v:AV) (acc:List AV),xs[i]?=some v→vE ⟨c,d,A,cenv,X⟩ ⟨mM ns scope.names,ir is,FT,MT⟩ 40 oK ((mR ns l scope.names).set 1 (some v)) (H1++[.list acc]) fun a H3=>a=f v∧H3=H1++[.list acc]) ∧
   Q (.obj H1.length) (H1++[.list (xs.map f)])):WE c d A env (.ListComp oK [⟨.Name x px,iter,[],0⟩] scope pos) l H Q X:=by
 have ok:n9 ⟨c,d,A,env,X⟩ ⟨ns,ir is,FT,MT⟩:=⟨F.ok E.toNmEnv,E⟩
 refine WE.Gm (kp:=kp) (rD E hk hb) (fun x=>kZ hs x) ((mW ok (nY ok.toVOk 40) w).mo fun xs gE H1 h=>?_)
 refine bQ h fun mI h3 q=>?_
 clear h
 refine bG mI fun h1 h2=>?_
 exact tu.map f h1 h2 (fun cenv i v acc hn hv _=>(nY (z:=⟨c,d,A,cenv,X⟩) (F.ok (nx E hb hn)) 40).E (h3 cenv i v acc hv)) q
theorem WE.lj (F:eX c) (is:List Nat) (E:iA env ns){oK iter:Expr}{px pos:ij}(kp:Nat) (hk:scope.kind=.function) (hb:rh ns scope.names x=true) (hs:qB iter=true)
  (w:vF ⟨ns,ir is,FT,MT⟩ (vE ⟨c,d,A,env,X⟩ ⟨ns,ir is,FT,MT⟩ 40) (vA ⟨c,d,A,env,X⟩ ⟨ns,ir is,FT,MT⟩ 40) l H kp iter fun xs gE H1=>∃J:Nat→List AV→List ag→Prop,J 0 [] (H1++[.list []]) ∧
   (∀(i:Nat) (acc:List AV) (H':List ag),J i acc H'→gE H'∧H'[H1.length]?=some (.list acc)∧acc.length≤1000000) ∧
   (∀(cenv:dI) (i:Nat) (v:AV) (acc:List AV) (H':List ag),xs[i]?=some v→J i acc H'→vE ⟨c,d,A,cenv,X⟩ ⟨mM ns scope.names,ir is,FT,MT⟩ 40 oK ((mR ns l scope.names).set 1 (some v)) H' fun a H3=>
    H3[H1.length]?=some (.list acc)∧acc.length≤1000000∧J (i+1) (acc++[a]) (H3.set H1.length (.list (acc++[a])))) ∧
   ∀(acc:List AV) (H':List ag),J xs.length acc H'→Q (.obj H1.length) H'):WE c d A env (.ListComp oK [⟨.Name x px,iter,[],0⟩] scope pos) l H Q X:=by
 have ok:n9 ⟨c,d,A,env,X⟩ ⟨ns,ir is,FT,MT⟩:=⟨F.ok E.toNmEnv,E⟩
 refine WE.Gm (kp:=kp) (rD E hk hb) (fun x=>kZ hs x) ((mW ok (nY ok.toVOk 40) w).mo fun xs gE H1 h=>?_)
 refine fF h fun J h1 h2 h3 q=>?_
 clear h
 refine⟨J,h1,h2,fun cenv i v acc H' hn hv j=>BY.nil ?_,q⟩
 rw[if_pos rfl]
 exact(nY (z:=⟨c,d,A,cenv,X⟩) (F.ok (nx E hb hn)) 40).E (h3 cenv i v acc H' hv j)
theorem WE.lf (F:eX c) (is:List Nat) (E:iA env ns){oK iter t:Expr}{px pos:ij}(kp:Nat) (p:AV→Bool) (hk:scope.kind=.function) (hb:rh ns scope.names x=true) (hs:qB iter=true)
  (w:vF ⟨ns,ir is,FT,MT⟩ (vE ⟨c,d,A,env,X⟩ ⟨ns,ir is,FT,MT⟩ 40) (vA ⟨c,d,A,env,X⟩ ⟨ns,ir is,FT,MT⟩ 40) l H kp iter fun xs gE H1=>((∀acc,gE (H1++[.list acc]))∧xs.length≤1000000) ∧
   (∀(cenv:dI) (i:Nat) (v:AV) (acc:List AV),xs[i]?=some v→vB ⟨c,d,A,cenv,X⟩ ⟨mM ns scope.names,ir is,FT,MT⟩ 40 t ((mR ns l scope.names).set 1 (some v)) (H1++[.list acc]) (fun a H3=>a=p v∧H3=H1++[.list acc]) ∧
    vE ⟨c,d,A,cenv,X⟩ ⟨mM ns scope.names,ir is,FT,MT⟩ 40 oK ((mR ns l scope.names).set 1 (some v)) (H1++[.list acc]) fun a H3=>a=v∧H3=H1++[.list acc]) ∧
   Q (.obj H1.length) (H1++[.list (xs.filter p)])):WE c d A env (.ListComp oK [⟨.Name x px,iter,[t],0⟩] scope pos) l H Q X:=by
 have ok:n9 ⟨c,d,A,env,X⟩ ⟨ns,ir is,FT,MT⟩:=⟨F.ok E.toNmEnv,E⟩
 refine WE.Gm (kp:=kp) (rD E hk hb) (fun x=>kZ hs x) ((mW ok (nY ok.toVOk 40) w).mo fun xs gE H1 h=>?_)
 refine bQ h fun nv h3 q=>?_
 clear h
 refine bG nv fun h1 h2=>?_
 exact tu.Wy p h1 h2 (fun cenv i v acc hn hv _=>(nY (z:=⟨c,d,A,cenv,X⟩) (F.ok (nx E hb hn)) 40).B (h3 cenv i v acc hv).1) (fun cenv i v acc hn hv _=>(nY (z:=⟨c,d,A,cenv,X⟩) (F.ok (nx E hb hn)) 40).E (h3 cenv i v acc hv).2) q
end
end
section
open PySem PySem.W PySem.Calls PyProof.Rows
section
variable {k:Nat}{f:Nat→Nat}(hf:∀n,n<k→f n=n)
include hf
theorem sm {a:AV}(o:rM k a=true):mD f a=a:=Dn (T:=(rM k ·=true)) pb rO (fun o=>hf _ (aE o)) a o
theorem xW {a:List AV}(o:ku k a=true):j6 f a=a:=uP fun x hx=>sm hf (pb o x hx)
theorem CR {a:List (Int×AV)}(o:kW k a=true):nW f a=a:=ux fun x hx=>sm hf (rO o x hx)
theorem Kc {a:List (bu×AV)}(o:UZ k a=true):wz f a=a:=zw fun x hx=>sm hf (Dm o x hx)
theorem xJ {x:ag}(o:yM k x=true):ip f x=x:=by
 cases x with
 |list vs=>exact congrArg ag.list (xW hf o)
 |dict kvs=>exact congrArg ag.dict (CR hf o)
 |eU kvs ep=>exact congrArg (ag.eU · ep) (CR hf o)
 |inst C fs=>exact congrArg (ag.inst C) (Kc hf o)
end
noncomputable def tf (k:Nat) (H:List ag):Bool:=H.all (yM k)
theorem oQ {k n:Nat}(h:n<k):(bh k).getD n 0=n:=by
 rw[bt,cJ h];rfl
theorem tE.take {H₁ G:List ag}(h:tf H₁.length H₁=true):tE (bh H₁.length) H₁ (H₁++G):=by
 refine⟨a8,uq,fun{i n x} e1 e2=>?_⟩
 have hi:=(ao.mp e2).1
 rw[cJ hi] at e1
 replace e1:=ae e1
 subst e1
 have o:=ba.mp h x (a9 e2)
 rw[a8]
 exact⟨o,by rw[aC hi,xJ (fun n hn=>oQ hn) o,e2]⟩
section
variable {m:Nat}{Q:AF→Loc→List ag→Prop}{QR:AV→List ag→Prop}{a:AV}{l:Loc}{H H₁ G:List ag}
theorem dT.ret (G:List ag) (e:H=H₁++G) (h:tf H₁.length H₁=true) (hm:m≤H₁.length) (ha:rM H₁.length a=true) (q:QR a H₁):dT m (qE QR) (.ret a) l H:=by
 subst e
 exact .inr ⟨bh H₁.length,a,H₁,fun n hn=>by rw[cJ (by exact aV hn hm)],tE.take h,by rw[a8];exact ha,(sm (fun n hn=>oQ hn) ha).symm,q⟩
noncomputable def okL (k:Nat) (l:Loc):Bool:=l.all fun x=>match x with
 |some v=>rM k v
 |none=>true
theorem dT.next (G:List ag) (e:H=H₁++G) (h:tf H₁.length H₁=true) (hm:m≤H₁.length) (l₁:Loc) (hl:okL H₁.length l₁=true) (hs:∀(i:Nat) (v:AV),l₁[i]?=some (some v)→l[i]?=some (some v)) (q:Q .next l₁ H₁):dT m Q .next l H:=by
 subst e
 refine .inr ⟨bh H₁.length,l₁,H₁,fun n hn=>by rw[cJ (by exact aV hn hm)],tE.take h,fun{i v} e=>?_,q⟩
 have o:rM H₁.length v=true:=ba.mp hl _ (a9 e)
 rw[a8]
 exact⟨o,by rw[sm (fun n hn=>oQ hn) o];exact hs i v e⟩
noncomputable def vw:List Bool→Loc→Loc
 |_,[]=>[]
 |[],_::l=>none::vw [] l
 |b::bs,x::l=>(bif b then x else none)::vw bs l
theorem Hi {v:AV}:∀{bs:List Bool}{l:Loc}{i:Nat},(vw bs l)[i]?=some (some v)→l[i]?=some (some v):=fun{bs l}=>by
 induction l generalizing bs with
 |nil=>exact fun{i} e=>by unfold vw at e;exact nS e
 |cons x l ih=>
  intro i e
  cases i with
  |zero=>rcases bs with _ | ⟨_ | _,bs⟩<;>first | exact e | cases e
  |succ i=>cases bs<;>exact ih (i:=i) e
theorem dT.nextM (bs:List Bool) (G:List ag) (e:H=H₁++G) (h:tf H₁.length H₁=true) (hm:m≤H₁.length) (hl:okL H₁.length (vw bs l)=true) (q:Q .next (vw bs l) H₁):dT m Q .next l H:=
 dT.next G e h hm (vw bs l) hl (fun _ _=>Hi) q
end
theorem FD {k N n:Nat}(h:n<k):fr (bh k) N n=n:=by unfold fr;rw[cJ h]
theorem sW {f:Nat→Nat}{k:Nat}(hf:∀n,n<k→f n=n){H₀:List ag}:∀{j:Nat}{P T S:List ag},j+H₀.length≤k→tf k H₀=true→P.length=j→S.length=H₀.length→putAt f (vY j H₀.length) (P++S++T) H₀=P++H₀++T:=by
 induction H₀ with
 |nil=>exact fun _ _ _ h2=>congrArg (_++·++_) (dE.mp h2)
 |cons x H₀ ih=>
  intro j P T S h0 ho h1 h2
  cases S with
  |nil=>exact absurd h2 (om _).symm
  |cons y S=>
   have ho:=aS.mp ho
   have e:(P++y::S++T).set j (ip f x)=(P++[x])++S++T:=by
    subst h1
    rw[xJ hf ho.1,List.append_assoc,Cp _ _ (aA _),gZ]
    simp
   exact(congrArg (putAt f (vY (j+1) H₀.length) · H₀) e).trans ((ih (by rw[cC] at h0;exact aW [_,_,_] [] [.L (.a aB (.a aM bP)) cg] (.L (.a (.a aB bP) aM) cg) cK rfl h0) ho.2 (by rw[ah,h1];rfl) (qZ h2)).trans (by simp))
theorem F0 {H₀ H₁ T:List ag}(hl:H₁.length=H₀.length) (h:tf H₁.length H₁=true):put (bh H₀.length) (H₀++T) H₁=H₁++T:=by
 unfold put
 rw[a8,←hl,List.drop_length,Rp,cM,kS]
 have:=sW (f:=fr (vY 0 H₁.length) (H₀++T).length) (k:=H₁.length) (fun n hn=>by rw[←kS];exact FD hn) (j:=0) (H₀:=H₁) (P:=[]) (S:=H₀) (T:=T) (by exact aW [_] [] [] (.L (.a dF aB) aB) nt rfl) h rfl hl.symm
 simpa using this
section
variable {c:Cx}{d:Nat}{f:ai}{as:List AV}{H₀ T:List ag}{Q:AV→List ag→Prop}{X X₀:List ag→Prop}
theorem WC.take (T:List ag) (h:tf H₀.length H₀=true) (ha:ku H₀.length as=true)
  (w:WC c d f as H₀ (fun v H₁=>(H₁.length=H₀.length∧tf H₁.length H₁=true∧rM H₁.length v=true)∧Q v (H₁++T)) X₀) (hX:∀H₁,X₀ H₁→X (put (bh H₀.length) (H₀++T) H₁)):WC c d f as (H₀++T) Q X:=by
 refine WC.frame (bh H₀.length) (tE.take h) ((xW (fun n hn=>oQ hn) ha).symm) (by rw[a8];exact ha) w ?_ hX
 intro v H₁ lH
 refine bG lH fun gC q=>?_
 clear lH
 refine bQ gC fun h1 h2 h3=>?_
 rw[F0 h1 h2,sm (fun n hn=>FD (by exact aV hn (bF h1))) h3]
 exact q
end
end
section
open PySem PySem.W PySem.Calls PyProof.Rows
noncomputable abbrev d6 (b:List UInt8) (a:Nat):ag:=.inst 309 [("octets",.eg b),("at",.int a)]
theorem fy {a b:Int}:(fG a b 1).length=(b-a).toNat:=by
 unfold fG;rw[aa,a8];unfold cT;simp;exact F9
theorem vh {a b st:Int}{i:Nat}{x:AV}(h:(fG a b st)[i]?=some x):i<(fG a b st).length∧x=.int (a+i*st):=by
 have hi:=(ao.mp h).1
 refine⟨hi,?_⟩
 unfold fG at h hi
 rw[aa,a8] at hi
 rw[aK,cJ hi] at h
 exact(ae h).symm
theorem fx {a b:Int}{i:Nat}{x:AV}(h:(fG a b 1)[i]?=some x):i<(b-a).toNat∧x=.int (a+i):=by
 obtain⟨h1,h2⟩:=vh h
 rw[fy] at h1
 exact⟨h1,by rw[h2,wa]⟩
noncomputable def Q1 (b:List UInt8) (R:AV→Nat→Prop):AV→List ag→Prop:=fun v H=>∃a,H=[d6 b a]∧(∀f,mD f v=v)∧R v a
noncomputable def X1 (b:List UInt8) (P:Prop):List ag→Prop:=fun H=>(∃a,H=[d6 b a])∧P
section
variable {c:Cx}{d n:Nat}{H:List ag}{Q:AV→List ag→Prop}{X:List ag→Prop}{a:Nat}{b:List UInt8}{R:AV→Nat→Prop}{P:Prop}{ri:Int}
theorem WC.str {f:ai}{vs:List AV}(hn:H[n]?=some (d6 b a)) (h1:ku 1 vs=true) (h2:∀f,j6 f vs=vs) (w:WC c d f (.obj 0::vs) [d6 b a] (Q1 b fun v a'=>Q v (H.set n (d6 b a'))) (X1 b (∀a',X (H.set n (d6 b a'))))) :
  WC c d f (.obj n::vs) H Q X:=by
 refine WC.frame [n] ⟨rfl,by simp,fun{i m x} e1 e2=>?_⟩ (by unfold j6 mD;rw[h2];rfl) (by unfold ku rM;rw[show([n]:List Nat).length=1 from rfl,h1];rfl) w ?_ ?_
 ·cases i with
  |zero=>replace e1:=ae e1;subst e1;replace e2:=ae e2;subst e2;exact⟨rfl,hn⟩
  |succ i=>exact nS e1
 ·intro v H₀ lH
  refine aL lH fun a' gC hc q=>?_
  clear lH
  subst gC
  rw[hc]
  show Q v (putAt _ [n] H [d6 b a']++[])
  rw[cM]
  exact q
 ·intro H₀ mr
  refine bG mr fun jX q=>?_
  clear mr
  refine al jX fun a' iu=>?_
  subst iu
  show X (putAt _ [n] H [d6 b a']++[])
  rw[cM]
  exact q a'
theorem Iz (F:eX c){r:Nat}(hb:b.length≤1000000) (hr:r≤1000) (ha:a≤b.length) (q:ei (gw b a r) P fun v=>R (.int v.1) v.2) :
  WC c (d+2) (.ref 292) [.obj 0,.int r] [d6 b a] (Q1 b R) (X1 b P):=by
 refine WC.v F rfl rfl fun A env E=>?_
 unfold gw at q
 refine⟨hb,?_⟩
 refine⟨fun h=>?_,fun h=>?_⟩
 ·exact⟨ay 1 _,⟨_,rfl⟩,q.neg (by exact aW [_,_,_] [] [.t aB (.a aM cg)] (.N (.L (.a aM cg) aB)) cK rfl h)⟩
 have q:=q.pos (by exact aW [_,_,_] [] [.N (.t aB (.a aM cg))] (.L (.a aM cg) aB) cK rfl h)
 refine⟨1,aA _,rfl,⟨⟨by exact aW [_] [] [] (.l (.n tG) aB) nt rfl,by exact aW [_,_] [] [.L aB jg,.L aM aB] (.t aM tG) ui rfl hb ha⟩,by exact aW [_,_] [] [] (.l (.n tG) (.a aB aM)) nt rfl,by exact aW [_,_,_] [] [.L aB jg,.N (.t aB (.a aM cg))] (.t (.a aM cg) tG) ui rfl hb h⟩,?_⟩
 refine⟨fun i l H=>∃p,l=[some (.obj 0),some (.int r),some (.int ((a:Int)+r)),some (.int (be ((b.drop a).take i))),p]∧H=[d6 b a],⟨none,rfl,rfl⟩,fun _ _ _ _ _=>trivial,?_,?_⟩
 ·intro i x l H hx nU
  refine aq nU fun p j5 j4=>?_
  clear nU
  subst j5
  subst j4
  obtain⟨hi,rfl⟩:=fx hx
  refine⟨.of_left (by decide),?_⟩
  refine⟨⟨⟨by exact aW [_,_] [] [] (.l dF (.a aB aM)) nt rfl,by exact aW [_,_,_,_,_] [] [.N (.t aB (.a aM cg)),.T fz ji,.ft ji (.s (.a aM cg) aM)] (.t (.a aM fz) aB) (.o rk (.k [0,0,1,0,1])) rfl h hi (kQ _)⟩,by exact ca hb rfl⟩,?_⟩
  refine .inl ⟨some (.int ((a:Int)+i)),?_,rfl⟩
  rw[J7 _ _ _ (by exact aW [_,_,_,_,_] [] [.N (.t aB (.a aM cg)),.T fz ji,.ft ji (.s (.a aM cg) aM)] (.T (.a aM fz) aB) (.o rk (.k [0,0,1,0,1])) rfl h hi (kQ _)),show((a:Int)+i).toNat=a+i by exact rfl]
  exact rfl
 ·intro l H pY
  refine aq pY fun p mI nv=>?_
  clear pY
  subst mI
  subst nv
  rw[fy,show((a:Int)+r-a).toNat=r by exact aW [_,_,_] [] [.ft aB (.s (.a aM cg) aM)] (.E aB cg) (.o (.o jf cN) (.o cK cN)) rfl (kQ _)]
  exact .inl ⟨a+r,rfl,fun _=>rfl,q⟩
theorem wX (F:eX c) (r:Nat) (tN:ri=r) (hn:H[n]?=some (d6 b a)) (hb:b.length≤1000000) (ha:a≤b.length) (hr:r≤1000)
  (q:ei (gw b a r) (∀a',X (H.set n (d6 b a'))) fun v=>Q (.int v.1) (H.set n (d6 b v.2))):WC c (d+2) (.ref 292) [.obj n,.int ri] H Q X:=by
 subst tN
 exact WC.str hn rfl (fun _=>rfl) (Iz F hb hr ha q)
theorem OC {r:Nat}(hr:1≤r∧r≤4):((256:Int)^((r:Int)-1).toNat)=((256^(r-1):Nat):Int):=by
 have M8:r=1∨r=2∨r=3∨r=4:=by exact aW [_] [] [.L bP aB,.L aB iI] (.O (.E aB bP) (.O (.E aB jL) (.O (.E aB pQ) (.E aB iI)))) (.o (.o (.o (.o (.k [0,0,0,1,0,1]) jf) (.o (.k [0,1,0,1]) jf)) (.o (.o (.k [0,0,1,1]) jf) (.o (.k [0,1,0,1]) jf))) (.o (.o (.o (.k [0,0,1,1]) cN) (.o xj cN)) (.o (.o xj cK) (.o cK (.k [1,0,0,0,1]))))) rfl hr.1 hr.2
 rcases M8 with rfl | rfl | rfl | rfl<;>decide
theorem IK (F:eX c){r:Nat}(hb:b.length≤1000000) (hr:1≤r∧r≤4) (ha:a≤b.length) (q:ei (mQ b a r) P fun v=>R (.int v.1) v.2) :
  WC c (d+3) (.ref 299) [.obj 0,.int r] [d6 b a] (Q1 b R) (X1 b P):=by
 refine WC.v F rfl rfl fun A env E=>?_
 refine wX F r rfl (by rfl) hb ha (by exact ca hr.2 rfl) ?_
 unfold mQ at q
 cases e:gw b a r with
 |none=>rw[e] at q;exact fun a'=>⟨⟨_,rfl⟩,q⟩
 |some v=>
  rw[e] at q
  have hp:fc 256=9:=by decide +kernel
  refine WV.AY (by exact aW [_] [] [.L bP aB] (.l dF (.s aB bP)) cK rfl hr.1) (by rw[hp];exact aW [_] [] [.L aB iI] (.l (.m 9 (.s aB bP)) (.l 134217728)) (.k [1,9]) rfl hr.2) ?_
  rw[OC hr]
  refine⟨.of_left (by decide),?_⟩
  have q:R (.int (QY v.1 r)) v.2:=q
  unfold QY at q
  refine⟨fun h=>?_,fun h=>?_⟩
  ·rw[if_pos (by exact aW [_,_] [] [.l (.m 128 aB) aM] (.L (.m 128 aB) aM) cK rfl h)] at q
   exact⟨.of_left (by decide),.inl ⟨_,rfl,fun _=>rfl,by
    push_cast at q ⊢
    exact q⟩⟩
  ·rw[if_neg (by exact aW [_,_] [] [.N (.l (.m 128 aB) aM)] (.N (.L (.m 128 aB) aM)) cK rfl h)] at q
   exact .inl ⟨_,rfl,fun _=>rfl,q⟩
theorem ix (F:eX c) (r:Nat) (tN:ri=r) (hn:H[n]?=some (d6 b a)) (hb:b.length≤1000000) (ha:a≤b.length) (hr:1≤r∧r≤4)
  (q:ei (mQ b a r) (∀a',X (H.set n (d6 b a'))) fun v=>Q (.int v.1) (H.set n (d6 b v.2))):WC c (d+3) (.ref 299) [.obj n,.int ri] H Q X:=by
 subst tN
 exact WC.str hn rfl (fun _=>rfl) (IK F hb hr ha q)
theorem clipAt_nat (n a:Nat):QH n a=min a n:=by
 unfold QH
 rw[if_neg (jE.mpr (fR a)),show(max 0 (min (a:Int) (n:Int)))=((min a n:Nat):Int) from ?_]
 ·rfl
 rcases Ca a n with h | h
 ·rw[fv h,wJ (dZ.mpr h)];exact oj (fR _)
 ·rw[oh h,vQ (dZ.mpr h)];exact oj (fR _)
theorem G0 {β:Type}{xs:List β}{lo hi:Int}(a b:Nat) (h1:lo=a) (h2:hi=b):lM (some lo) (some hi) xs=(xs.drop a).take (b-a):=by
 subst h1 h2
 unfold lM
 simp only[tD,clipAt_nat]
 by_cases h:xs.length≤a
 ·rw[dN h,dN (by exact aW [_,_,_] [] [.L aB aM,.fm cg aM aB] (.L aB cg) (.o n8 jf) rfl h (AH _ _))];simp
 ·rw[fv (show a≤xs.length by exact dC (bq h))]
  by_cases h2:b≤xs.length
  ·rw[fv h2]
  ·rw[oh (by exact dC (bq h2)),dM (by rw[aJ];exact lQ 0 rfl),dM (by rw[aJ];exact aW [_,_,_,_,_] [] [.N (.L aB aM),.fs cg aM fz,.fs ji aB fz] (.L cg ji) (.o (.o (.k [1,0,0,1,0,1,0,1]) (.k [1,1,0,0,0,1,0,1])) (.o pE pE)) rfl h2 (eV _ _) (eV _ _))]
theorem LG (F:eX c){r:Nat}(hb:b.length≤1000000) (ha:a≤b.length) (q:ei (wq b a r) P fun v=>R (.eg v.1) v.2) :
  WC c (d+2) (.ref 306) [.obj 0,.int r] [d6 b a] (Q1 b R) (X1 b P):=by
 refine WC.v F rfl rfl fun A env E=>?_
 unfold wq at q
 refine⟨hb,⟨fun h=>?_,fun h=>?_⟩⟩
 ·exact⟨ay 1 _,⟨_,rfl⟩,q.neg (by exact aW [_,_,_] [] [.t aB (.a aM cg)] (.N (.L (.a aM cg) aB)) cK rfl h)⟩
 have q:=q.pos (by exact aW [_,_,_] [] [.N (.t aB (.a aM cg))] (.L (.a aM cg) aB) cK rfl h)
 refine⟨hb,.inl ⟨a+r,rfl,fun _=>rfl,?_⟩⟩
 rw[G0 a (a+r) rfl (by simp),fq]
 exact q
theorem HK (F:eX c) (r:Nat) (tN:ri=r) (hn:H[n]?=some (d6 b a)) (hb:b.length≤1000000) (ha:a≤b.length)
  (q:ei (wq b a r) (∀a',X (H.set n (d6 b a'))) fun v=>Q (.eg v.1) (H.set n (d6 b v.2))):WC c (d+2) (.ref 306) [.obj n,.int ri] H Q X:=by
 subst tN
 exact WC.str hn rfl (fun _=>rfl) (LG F hb ha q)
theorem Lz (F:eX c) (hb:b.length≤1000000) (ha:a≤b.length) (q:ei (nq b a) P fun v=>R (.tup [.int v.1.1,.int v.1.2.1,.int v.1.2.2]) v.2):WC c (d+4) (.ref 383) [.obj 0] [d6 b a] (Q1 b R) (X1 b P):=by
 refine WC.v F rfl rfl fun A env E=>?_
 refine ix F 4 rfl (by rfl) hb ha (by decide) (q.bind (fun p _=>⟨⟨_,rfl⟩,p⟩) fun y e q=>?_)
 refine ix F 4 rfl (by rfl) hb (pd e).2 (by decide) (q.bind (fun p _=>⟨⟨_,rfl⟩,p⟩) fun y e q=>?_)
 refine ix F 4 rfl (by rfl) hb (pd e).2 (by decide) (q.bind (fun p _=>⟨⟨_,rfl⟩,p⟩) fun y e q=>?_)
 refine⟨_,_,_,rfl,fun h=>⟨ay 1 _,⟨_,rfl⟩,q.pos h⟩,fun h=>.inl ⟨_,rfl,fun _=>rfl,q.neg h⟩⟩
theorem zB (F:eX c) (hn:H[n]?=some (d6 b a)) (hb:b.length≤1000000) (ha:a≤b.length)
  (q:ei (nq b a) (∀a',X (H.set n (d6 b a'))) fun v=>Q (.tup [.int v.1.1,.int v.1.2.1,.int v.1.2.2]) (H.set n (d6 b v.2))):WC c (d+4) (.ref 383) [.obj n] H Q X:=
 WC.str hn rfl (fun _=>rfl) (Lz F hb ha q)
end
end
section
open PySem PySem.W PySem.Calls PyProof.Rows
noncomputable def E9.av (s:E9):AV:=.tup [.int s.h,.int s.v,.int s.w,.int s.x,.int s.y,.int s.z]
noncomputable def n5.av:n5→AV
 |.char h v f c=>.tup [.int 0,.int h,.int v,.int f,.int c]
 |.rule h v a b=>.tup [.int 1,.int h,.int v,.int a,.int b]
 |.spec h v t=>.tup [.int 2,.int h,.int v,.eg t]
noncomputable def mw.av (r:mw):AV:=.tup [.int r.check,.int r.size,.int r.bW,.int r.fo,.eg r.name]
noncomputable def iW (p:Int×mw):Int×AV:=(p.1,p.2.av)
noncomputable def eQ (p:Int×Int):Int×AV:=(p.1,.tup [.int p.2,.int 0,.int 0,.int 0,.int 0,.int 0])
noncomputable abbrev CZ (s:fC) (k r:Nat):ag:=.inst 351 [("h",.int s.cA.h),("v",.int s.cA.v),("w",.int s.cA.w),("x",.int s.cA.x),("y",.int s.cA.y),("z",.int s.cA.z),("font",.int s.qx),("stack",.obj k),("deepest",.int s.deep),("rows",.obj r)]
noncomputable abbrev jn (dm:Int) (name:bu) (Tz:Int) (par ch:Nat):ag:=.inst 246 [("number",.int dm),("name",.str name),("size",.int 655360),("design",.int 655360),("check",.int Tz),("params",.obj par),("chars",.obj ch),
 ("program",.tup []),("kerns",.tup []),("boundary",.int 256),("edge_start",.int (-1)),("hyphen_char",.int 45),("skew_char",.int (-1))]
noncomputable abbrev nA:ag:=.list [.int 0,.int 196608,.int 98304,.int 65536,.int 262144,.int 655360,.int 65536]
noncomputable abbrev FC (T:List ag):List ag:=.dict [(3,.obj 1),(200,.obj 2)]::jn 3 "fc" 0 5 3::jn 200 "fhz" 77 6 4::.dict (tj.map eQ)::.dict (gT.map eQ)::nA::nA::T
structure Wd where
 b:List UInt8
 (dv pg g:ag)
 T:List ag
noncomputable abbrev Wd.D (w:Wd) (a:Nat) (kn:Known) (T:List ag):List ag:=FC (d6 w.b a::w.dv::w.pg::.dict (kn.map iW)::T)
noncomputable abbrev Wd.S (w:Wd) (a:Nat) (kn:Known) (s:fC):List ag:=w.D a kn (w.g::CZ s 13 14::.list (s.stack.map E9.av)::.list (s.rows.map n5.av)::w.T)
section
variable {c:Cx}{d:Nat}{Q:AV→List ag→Prop}{X:List ag→Prop}{a:Nat}{w:Wd}{s:fC}{kn:Known}{P:Prop}
theorem OW (F:eX c) (hz:s.stack.length≤100000) (q:Q .none (w.S a kn s.push)):WC c (d+1) (.ref 334) [.obj 12] (w.S a kn s) Q X:=by
 refine WC.v F rfl rfl fun A env E=>?_
 refine⟨by rw[aa];exact ca hz rfl,?_⟩
 refine⟨by rw[ah,aa];exact az (cS hz 1) (by decide),.inl ?_⟩
 have e1:s.push.stack.map E9.av=s.stack.map E9.av++[s.cA.av]:=aF
 have e2:s.push.deep=max s.deep (((s.stack.map E9.av++[s.cA.av]).length:Nat):Int):=by rw[ah,aa];rfl
 unfold Wd.S CZ at q
 rw[e1,e2] at q
 exact q
theorem SZ (F:eX c) (hz:s.stack.length≤100000) (q:ei s.pop (X (w.S a kn s)) fun s=>Q .none (w.S a kn s)):WC c (d+2) (.ref 341) [.obj 12] (w.S a kn s) Q X:=by
 refine WC.v F rfl rfl fun A env E=>?_
 unfold fC.pop at q
 refine⟨by rw[aa];exact ca hz rfl,⟨fun h=>?_,fun h=>?_⟩⟩
 ·rw[aa] at h
  rw[List.eq_nil_of_length_eq_zero (l:=s.stack) (by exact mO h)] at q
  exact⟨ay 1 _,q⟩
 ·rw[aa] at h
  obtain⟨st,t,i4⟩:∃st t,s.stack=st++[t]:=by
   rcases Cq s.stack with e | ⟨st,t,e⟩
   ·rw[e] at h;exact absurd rfl h
   ·exact⟨st,t,by rw[e,Cr]⟩
  rw[i4,Dy,Dz] at q
  refine WV.pop (vs:=st.map E9.av) (a:=t.av) (show some (ag.list (s.stack.map E9.av))=_ by rw[i4,aF];rfl) (by rw[i4,ah] at hz;rw[aa];exact aW [_,_] [] [.L (.a aB aM) rZ] (.L aB jg) cK rfl hz) ?_
  exact .inl q
theorem sC {i:Int}:¬((if i<0 then -i else i)>2147483647)↔i.natAbs≤2147483647:=by rw[ite_abs];exact⟨fun h=>WQ h rfl,fun h q=>bL h (c0.mp q)⟩
theorem Ek (F:eX c){x y:Int}(q:ei (s.go x y) (X (w.S a kn s)) fun s=>Q .none (w.S a kn s)):WC c (d+2) (.ref 348) [.obj 12,.int x,.int y] (w.S a kn s) Q X:=by
 refine WC.v F rfl rfl fun A env E=>?_
 refine⟨fun h=>?_,fun h=>?_⟩
 ·exact⟨ay 1 _,q.neg fun z=>absurd (sC.mpr z.1) (by simpa using h)⟩
 ·refine⟨fun h2=>?_,fun h2=>?_⟩
  ·exact⟨ay 1 _,q.neg fun z=>absurd (sC.mpr z.2) (by simpa using h2)⟩
  ·exact .inl (q.pos ⟨sC.mp h,sC.mp h2⟩)
end
end
section
open PySem PySem.W PySem.Calls PyProof.Rows
section
variable {c:Cx}{d:Nat}{Q:AV→List ag→Prop}{X:List ag→Prop}{a:Nat}{w:Wd}{s:fC}{kn:Known}{P:Prop}{H:List ag}
theorem hV {ws:List (Int×Int)}{k:Int}:(ws.map eQ).lookup k=(ws.lookup k).map fun w=>.tup [.int w,.int 0,.int 0,.int 0,.int 0,.int 0]:=by
 induction ws with
 |nil=>rfl
 |cons p ws ih=>
  obtain⟨a,b⟩:=p
  simp only[bY,eQ,dK] at ih ⊢
  cases k==a<;>simp[ih]
theorem s8 {ws:List (Int×Int)}{k:Int}:((ws.map eQ).lookup k).isSome=(ws.lookup k).isSome:=by rw[hV,dh]
theorem BJ (F:eX c){op:Int}(q:Q (.bool (decide (243≤op∧op<247))) H):WC c (d+1) (.ref 395) [.int op] H Q X:=by
 refine WC.v F rfl rfl fun A env E=>?_
 refine⟨fun h=>⟨fun h2=>?_,fun h2=>?_⟩,fun h=>?_⟩
 ·rw[decide_eq_true ⟨h,h2⟩] at q;exact .inl q
 ·rw[decide_eq_false fun z=>h2 z.2] at q;exact .inl q
 ·rw[decide_eq_false fun z=>h z.1] at q;exact .inl q
theorem Zz (F:eX c){code:Int}{T:List ag}(q:Q (.bool (tj.lookup code).isSome) (FC T)):WC c (d+1) (.ref 180) [.obj 1,.int code] (FC T) Q X:=by
 refine WC.v F rfl rfl fun A env E=>?_
 rw[←s8] at q
 exact .inl q
theorem Qm (F:eX c){code:Int}{T:List ag}(q:Q (.bool (gT.lookup code).isSome) (FC T)):WC c (d+1) (.ref 180) [.obj 2,.int code] (FC T) Q X:=by
 refine WC.v F rfl rfl fun A env E=>?_
 rw[←s8] at q
 exact .inl q
theorem NI (F:eX c){code k:Int}{T:List ag}(h:tj.lookup code=some k) (q:Q (.int k) (FC T)):WC c (d+1) (.ref 187) [.obj 1,.int code] (FC T) Q X:=by
 refine WC.v F rfl rfl fun A env E=>?_
 conv=>whnf
 rw[hV,h]
 exact .inl q
theorem Hw (F:eX c){code k:Int}{T:List ag}(h:gT.lookup code=some k) (q:Q (.int k) (FC T)):WC c (d+1) (.ref 187) [.obj 2,.int code] (FC T) Q X:=by
 refine WC.v F rfl rfl fun A env E=>?_
 conv=>whnf
 rw[hV,h]
 exact .inl q
theorem jU {rs:List n5}{x:AV}(r:n5) (h:x=r.av):rs.map n5.av++[x]=(rs++[r]).map n5.av:=by rw[aF,h];rfl
theorem zo {f:Int}{code:Nat}(h:255<code):(rW f).lookup (code:Int)=none:=by
 have h1:∀k:Int,k≤255→((code:Int)==k)=false:=fun k hk=>beq_eq_false_iff_ne.mpr (by exact aW [_] [_] [.T (.l 255) aB,.l bJ (.l 255)] (.N (.e aB bJ)) (.k [1,0,1,1]) rfl h hk)
 unfold rW
 split
 ·simp only[tj,dG,h1 65 (by decide),h1 97 (by decide),h1 200 (by decide)]
 ·split
  ·simp only[gT,dG,h1 66 (by decide),h1 98 (by decide),h1 255 (by decide)]
  ·rfl
theorem HP {f:Int}(h3:¬f=3) (sE:¬f=200):dG f [(3,AV.obj 1),(200,.obj 2)]=none:=by
 simp only[dG,beq_eq_false_iff_ne.mpr h3,beq_eq_false_iff_ne.mpr sE]
theorem LX {f:Int}(h3:¬f=3) (sE:¬f=200):rW f=[]:=by unfold rW;rw[if_neg h3,if_neg sE]
theorem vm (F:eX c){code:Nat}{mv:Bool}(hz:s.rows.length≤100000) (q:ei (s.vj code mv) (∀s,X (w.S a kn s)) fun s=>Q .none (w.S a kn s)):WC c (d+3) (.ref 409) [.obj 12,.int code,.obj 0,.bool mv] (w.S a kn s) Q X:=by
 refine WC.v F rfl rfl fun A env E=>?_
 obtain⟨sp,f,st,dp,rs⟩:=s
 have hz:rs.length≤100000:=hz
 have q:=q.bi
 by_cases h3:f=3
 ·subst h3
  have q:(tj.lookup (code:Int)=none→_)∧∀k,tj.lookup (code:Int)=some k→ei (PJ ⟨sp,3,st,dp,rs⟩ code mv k) _ _:=q
  refine⟨fun h=>⟨ay 1 _,q.1 (zo (f:=3) (rl h rfl)) _⟩,fun h=>Zz F ?_⟩
  cases hw:tj.lookup (code:Int) with
  |none=>exact⟨ay 1 _,q.1 hw _⟩
  |some k=>
   have q:=q.2 k hw
   refine⟨by rw[aa];exact ca hz rfl,?_⟩
   rw[jU (.char sp.h sp.v 3 code)]
   rotate_left
   ·rfl
   cases mv with
   |false=>exact .inl q
   |true=>exact NI F hw (Ek F (s:=fC.row ⟨sp,3,st,dp,rs⟩ (.char sp.h sp.v 3 code)) (ei.mono q (fun p=>p _) fun _ q=>.inl q))
 by_cases sE:f=200
 ·subst sE
  have q:(gT.lookup (code:Int)=none→_)∧∀k,gT.lookup (code:Int)=some k→ei (PJ ⟨sp,200,st,dp,rs⟩ code mv k) _ _:=q
  refine⟨fun h=>⟨ay 1 _,q.1 (zo (f:=200) (rl h rfl)) _⟩,fun h=>Qm F ?_⟩
  cases hw:gT.lookup (code:Int) with
  |none=>exact⟨ay 1 _,q.1 hw _⟩
  |some k=>
   have q:=q.2 k hw
   refine⟨by rw[aa];exact ca hz rfl,?_⟩
   rw[jU (.char sp.h sp.v 200 code)]
   rotate_left
   ·rfl
   cases mv with
   |false=>exact .inl q
   |true=>exact Hw F hw (Ek F (s:=fC.row ⟨sp,200,st,dp,rs⟩ (.char sp.h sp.v 200 code)) (ei.mono q (fun p=>p _) fun _ q=>.inl q))
 ·conv=>whnf
  rw[HP h3 sE]
  exact⟨ay 1 _,q.1 (congrArg (dG _) (LX h3 sE)) _⟩
theorem IX (F:eX c){mv:Bool}(hb:w.b.length≤1000000) (ha:a≤w.b.length) (hz:s.rows.length≤100000) (q:ei (qG w.b a s mv) (∀a s,X (w.S a kn s)) fun v=>Q .none (w.S v.2 kn v.1)) :
  WC c (d+4) (.ref 416) [.obj 7,.obj 12,.bool mv] (w.S a kn s) Q X:=by
 refine WC.v F rfl rfl fun A env E=>?_
 refine ix F 4 rfl (by rfl) hb ha (by decide) (q.bind (fun p _=>p _ _) fun x e q=>?_)
 refine ix F 4 rfl (by rfl) hb (pd e).2 (by decide) (q.bind (fun p _=>p _ _) fun y e q=>?_)
 have l:=(pd e).2
 have q:ei (T2 s mv x.1 y) _ _:=q
 unfold T2 at q
 refine⟨fun h=>⟨fun h2=>?_,fun h2=>?_⟩,fun h=>?_⟩
 ·refine⟨by rw[aa];exact ca hz rfl,?_⟩
  rw[jU (.rule s.cA.h s.cA.v x.1 y.1)]
  rotate_left
  ·rfl
  rw[show Mi s x.1 y.1=s.row (.rule s.cA.h s.cA.v x.1 y.1) from if_pos ⟨h,h2⟩] at q
  cases mv with
  |false=>exact .inl q
  |true=>exact Ek F (s:=s.row (.rule s.cA.h s.cA.v x.1 y.1)) (ei.map q (fun p=>p _ _) fun _ q=>.inl q)
 all_goals
  rw[show Mi s x.1 y.1=s from if_neg fun z=>by first | exact h z.1 | exact h2 z.2] at q
  cases mv with
  |false=>exact .inl q
  |true=>exact Ek F (ei.map q (fun p=>p _ _) fun _ q=>.inl q)
theorem fA {kn:Known}{k:Int}:(kn.map iW).lookup k=(kn.lookup k).map mw.av:=by
 induction kn with
 |nil=>rfl
 |cons p kn ih=>
  obtain⟨a,b⟩:=p
  simp only[bY,iW,dK] at ih ⊢
  cases k==a<;>simp[ih]
theorem zZ (F:eX c){dm:Int}(q:ei (s.choose dm kn) (X (w.S a kn s)) fun s=>Q .none (w.S a kn s)):WC c (d+2) (.ref 423) [.obj 12,.int dm,.obj 10] (w.S a kn s) Q X:=by
 refine WC.v F rfl rfl fun A env E=>?_
 unfold fC.choose at q
 conv=>whnf
 rw[fA,dh]
 cases e:(kn.lookup dm).isSome with
 |true=>exact .inl (q.pos e)
 |false=>exact⟨ay 1 _,q.neg (by rw[e];decide)⟩
end
end
section
open PySem PySem.W PySem.Calls PyProof.Rows
theorem gd {β:Type}{xs:List β}{lo:Int}(a:Nat) (h1:lo=a):lM (some lo) none xs=xs.drop a:=by
 subst h1
 unfold lM
 simp only[tD,Fw,clipAt_nat]
 by_cases h:xs.length≤a
 ·rw[dN h,dN (by exact aW [_,_,_] [] [.L aB aM,.fm cg aM aB] (.L aB cg) (.o n8 jf) rfl h (AH _ _))];simp
 ·rw[fv (by exact dC (bq h)),dM (by rw[aJ];exact lQ 0 rfl)]
theorem gv.ints {H:List ag}{n m:Nat}{xs ys:List Int}(h1:H[n]?=some (.list (xs.map .int))) (h2:H[m]?=some (.list (ys.map .int))):gv H 1 (.obj n) (.obj m) (decide (xs=ys)):=by
 by_cases hl:xs.length=ys.length
 ·have e:decide (xs=ys)=(bh (xs.map AV.int).length).all fun j=>xs[j]?==ys[j]?:=by
   rw[k8,decide_eq_true_eq,ba,aa]
   refine⟨fun h j _=>beq_iff_eq.mpr (h▸rfl),fun h=>List.ext_getElem hl fun j h1 h2=>?_⟩
   have:=eq_of_beq (h j (dg.mpr h1))
   rw[aw h1,aw h2] at this
   exact ae this
  rw[e]
  refine .lst h1 h2 (by rw[aa,aa];exact hl) fun j x y hx hy=>?_
  rw[aK,bB] at hx hy
  refine aq hx fun i hi gC=>?_
  clear hx
  subst gC
  refine aq hy fun k hk iu=>?_
  clear hy
  subst iu
  rw[hi,hk]
  exact .int i k
 ·rw[decide_eq_false (p:=xs=ys) fun q=>hl (congrArg _ q)]
  exact .len h1 h2 (by rw[aa,aa];exact hl)
theorem vb {kvs:List (Int×AV)}{k:Int}{v:AV}(h:kvs.lookup k=none):ml k v kvs=kvs++[(k,v)]:=by
 unfold ml
 rw[if_neg]
 intro q
 refine aq (um.mp q) fun p hp hk=>?_
 rw[gG] at h
 have:=h p hp
 simp at hk this
 exact this hk.symm
noncomputable def EH:AV→AV
 |.str y=>.int (y.cps.getD 0 0:Nat)
 |_=>.none
theorem Io (x:bu):(x.cps.toList.map fun u=>AV.str ⟨#[u]⟩).map EH=(x.cps.toList.map fun(u:Nat)=>(u:Int)).map .int:=by
 rw[dy,dy];rfl
theorem JS (t:List UInt8):(t.map fun x=>AV.int (x.toNat:Int))=(t.map fun x=>(x.toNat:Int)).map .int:=by
 rw[dy];rfl
theorem EO {x y:List UInt8}:x.map (fun x=>(x.toNat:Int))=y.map (fun x=>(x.toNat:Int))↔x=y:=by
 refine⟨fun h=>?_,fun h=>by rw[h]⟩
 refine List.map_inj_right (fun a b AJ=>?_) |>.mp h
 exact JG.mp (by exact_mod_cast AJ)
theorem gv.codes {H:List ag}{n m:Nat}{xs ys:List UInt8}(h1:H[n]?=some (.list (xs.map fun x=>.int (x.toNat:Int)))) (h2:H[m]?=some (.list (ys.map fun x=>.int (x.toNat:Int)))):gv H 1 (.obj n) (.obj m) (decide (xs=ys)):=by
 rw[JS] at h1 h2
 have:=gv.ints h1 h2
 rwa [show decide ((xs.map fun x=>(x.toNat:Int))=ys.map fun x=>(x.toNat:Int))=decide (xs=ys) from decide_eq_decide.mpr EO] at this
theorem rK {x:bu}{i:Nat}{v:AV}(h:(x.cps.toList.map fun u=>AV.str ⟨#[u]⟩)[i]?=some v):∃u:Nat,v=.str ⟨#[u]⟩:=by
 rw[aK] at h
 refine aq (bB.mp h) fun u _ e=>?_
 exact⟨u,e.symm⟩
noncomputable def Q8 (b:List UInt8) (R:AV→Nat→Prop):AV→List ag→Prop:=fun v H=>∃a,H=FC [d6 b a]∧(∀f,mD f v=v)∧R v a
noncomputable def X8 (b:List UInt8) (P:Prop):List ag→Prop:=fun H=>(∃T,H=FC T)∧P
section
variable {c:Cx}{d n:Nat}{H T:List ag}{Q:AV→List ag→Prop}{X:List ag→Prop}{a:Nat}{b:List UInt8}{R:AV→Nat→Prop}{P:Prop}{w:Wd}{s:fC}{kn:Known}
theorem WC.pre {f:ai}{vs:List AV}(h1:ku 8 vs=true) (h2:j6 (([0,1,2,3,4,5,6,7]:List Nat).getD · 0) vs=vs) (w:WC c d f vs (FC [d6 b a]) (Q8 b fun v a'=>Q v (FC (d6 b a'::T))) (X8 b (∀T,X (FC T)))) :
  WC c d f vs (FC (d6 b a::T)) Q X:=by
 refine WC.frame [0,1,2,3,4,5,6,7] (.of rfl (by decide) ?_) h2.symm h1 w ?_ ?_
 ·exact⟨⟨rfl,rfl⟩,⟨rfl,rfl⟩,⟨rfl,rfl⟩,⟨rfl,rfl⟩,⟨rfl,rfl⟩,⟨rfl,rfl⟩,⟨rfl,rfl⟩,⟨rfl,rfl⟩,trivial⟩
 ·intro v H₀ mr
  refine aL mr fun a' gC hc q=>?_
  clear mr
  subst gC
  rw[hc]
  show Q v (putAt _ [0,1,2,3,4,5,6,7] (FC (d6 b a::T)) (FC [d6 b a'])++[])
  rw[cM]
  exact q
 ·intro H₀ nU
  refine bG nU fun jX q=>?_
  clear nU
  refine al jX fun T' iu=>?_
  subst iu
  cases T' with
  |nil=>exact q ((d6 b a::T)++_)
  |cons x xs=>exact q ((_::T)++_)
theorem Ou (F:eX c){k:Nat}{f g:Int}(hk:k≤13) (hb:b.length≤1000000) (ha:a≤b.length) (q:ei (nw b k a f g) (∀a,X (FC (d6 b a::T))) fun v=>Q (.tup [.int v.1.1,.int v.1.2.1,.int v.1.2.2]) (FC (d6 b v.2::T))) :
  WC c (d+4) (.ref 402) [.obj 7,.int k,.int f,.int g] (FC (d6 b a::T)) Q X:=by
 refine WC.v F rfl rfl fun A env E=>?_
 unfold nw at q
 refine⟨fun h=>?_,fun h=>⟨fun h2=>⟨fun h3=>?_,fun h3=>?_⟩,fun h2=>⟨fun h3=>?_,fun h3=>?_⟩⟩⟩
 ·rw[if_pos (by exact gW h)] at q
  exact ix F (k+1) (by simp) (by rfl) hb ha (by exact⟨ay _ _,dk (gW h)⟩) (q.map id fun _ q=>.inl q)
 ·rw[if_neg (by exact dX h rfl),if_pos (by exact gW h2),if_pos (by exact rl h3 rfl)] at q
  exact ix F (k-4) (by exact rF (CX h)) (by rfl) hb ha (by exact aW [_,_] [] [.t aB (.l 9),.t iI aB,.fs aM aB iI] (.A (.L bP aM) (.L aM iI)) (.o (.o n8 ub) (.o vG cN)) rfl h2 h3 (eV _ _)) (q.map id fun _ q=>.inl q)
 ·rw[if_neg (by exact dX h rfl),if_pos (by exact gW h2),if_neg (by exact tc h3 rfl)] at q
  exact .inl q
 ·rw[if_neg (by exact dX h2 rfl),if_neg (by exact dX h2 rfl),if_pos (by exact rl h3 rfl)] at q
  exact ix F (k-9) (by exact rF (CX h2)) (by rfl) hb ha (by exact aW [_,_] [] [.L aB (.l 13),.t (.l 9) aB,.fs aM aB (.l 9)] (.A (.L bP aM) (.L aM iI)) (.o (.o n8 ub) (.o vG cN)) rfl hk h3 (eV _ _)) (q.map id fun _ q=>.inl q)
 ·rw[if_neg (by exact dX h2 rfl),if_neg (by exact dX h2 rfl),if_neg (by exact tc h3 rfl)] at q
  exact .inl q
theorem di (F:eX c){ri:Int}(r:Nat) (tN:ri=r) (hb:b.length≤1000000) (ha:a≤b.length) (hr:r≤1000) (q:ei (gw b a r) (∀a',X (FC (d6 b a'::T))) fun v=>Q (.int v.1) (FC (d6 b v.2::T))) :
  WC c (d+2) (.ref 292) [.obj 7,.int ri] (FC (d6 b a::T)) Q X:=wX F r tN rfl hb ha hr q
theorem pj (F:eX c){ri:Int}(r:Nat) (tN:ri=r) (hb:b.length≤1000000) (ha:a≤b.length) (hr:1≤r∧r≤4) (q:ei (mQ b a r) (∀a',X (FC (d6 b a'::T))) fun v=>Q (.int v.1) (FC (d6 b v.2::T))) :
  WC c (d+3) (.ref 299) [.obj 7,.int ri] (FC (d6 b a::T)) Q X:=ix F r tN rfl hb ha hr q
theorem tY (F:eX c){ri:Int}(r:Nat) (tN:ri=r) (hb:b.length≤1000000) (ha:a≤b.length) (q:ei (wq b a r) (∀a',X (FC (d6 b a'::T))) fun v=>Q (.eg v.1) (FC (d6 b v.2::T))) :
  WC c (d+2) (.ref 306) [.obj 7,.int ri] (FC (d6 b a::T)) Q X:=HK F r tN rfl hb ha q
theorem Dg {check size bW:Nat}{nm:List UInt8}:jt 3 check size bW nm=true↔size=655360∧0<bW∧bW≤134217727∧nm=[102,99]:=by
 unfold jt;simp[r7,and_assoc]
theorem xa {check size bW:Nat}{nm:List UInt8}:jt 200 check size bW nm=true↔size=655360∧0<bW∧bW≤134217727∧(check=77∨check=0)∧nm=[102,104,122]:=by
 unfold jt;simp[r7,and_assoc]
theorem JJ {dm check size bW:Nat}{nm:List UInt8}(h3:¬dm=3) (sE:¬dm=200):jt dm check size bW nm=false:=by
 unfold jt r7;rw[if_neg (by exact aW [_] [] [.N (.E aB pQ)] (.N (.e aB pQ)) (.o xj cN) rfl h3),if_neg (by exact aW [_] [] [.N (.E aB (.l 200))] (.N (.e aB (.l 200))) (.o xj cN) rfl sE)]
theorem N7 (F:eX c){op:Nat}(ho:243≤op∧op<247) (hb:b.length≤1000000) (ha:a≤b.length) (q:ei (mn b op a) P fun v=>R (.tup [.int (v.1.1:Nat),v.1.2.av]) v.2) :
  WC c (d+4) (.ref 388) [.obj 7,.int op,.obj 0] (FC [d6 b a]) (Q8 b R) (X8 b P):=by
 refine WC.v F rfl rfl fun A env E=>?_
 refine di F (op-242) (by exact aW [_,_] [] [.L (.l 243) aB,.fs aM aB (.l 242)] (.e (.a (.s aB (.l 243)) bP) aM) (.o (.o cN jf) (.o jN cK)) rfl ho.1 (eV _ _)) hb ha (by exact rm (rC ho.2 rfl)) (q.bind (fun p _=>⟨⟨_,rfl⟩,p⟩) fun dm e1 q1=>?_)
 refine di F 4 rfl hb (gM e1).2.1 (by exact(by decide)) (q1.bind (fun p _=>⟨⟨_,rfl⟩,p⟩) fun check e q=>?_)
 refine di F 4 rfl hb (gM e).2.1 (by exact(by decide)) (q.bind (fun p _=>⟨⟨_,rfl⟩,p⟩) fun size e q=>?_)
 refine di F 4 rfl hb (gM e).2.1 (by exact(by decide)) (q.bind (fun p _=>⟨⟨_,rfl⟩,p⟩) fun bW e q=>?_)
 refine di F 1 rfl hb (gM e).2.1 (by exact(by decide)) (q.bind (fun p _=>⟨⟨_,rfl⟩,p⟩) fun fo e q=>?_)
 refine di F 1 rfl hb (gM e).2.1 (by exact(by decide)) (q.bind (fun p _=>⟨⟨_,rfl⟩,p⟩) fun len e q=>?_)
 refine tY F (fo.1+len.1) (by simp) hb (gM e).2.1 (q.bind (fun p _=>⟨⟨_,rfl⟩,p⟩) fun name e q=>?_)
 have hn:name.1.length≤1000000:=by have:=Gy e;rw[Lg e];exact aW [_,_,_,_,_] [] [.L aB jg,.E aM (.a cg (.a fz ji)),.L aM aB] (.L (.a fz ji) jg) (.k [1,1,0,1,1]) rfl hb this.1 this.2
 replace q:ei (VR dm.1 check.1 size.1 bW.1 fo.1 name) _ _:=q
 generalize dm.1=dm at q ⊢
 generalize check.1=check at q ⊢
 generalize size.1=size at q ⊢
 generalize bW.1=bW at q ⊢
 generalize fo.1=fo at q ⊢
 clear e
 obtain⟨name,a'⟩:=name
 by_cases h3:dm=3
 ·subst h3
  have q0:(¬(size=655360∧0<bW∧bW≤134217727∧name.drop fo=[102,99]))→P:=fun h=>q.neg fun z=>h (Dg.mp z)
  have q1:(size=655360∧0<bW∧bW≤134217727∧name.drop fo=[102,99])→_:=fun h=>q.pos (Dg.mpr h)
  refine⟨fun h=>⟨ay 1 _,⟨_,rfl⟩,q0 (by exact JO (hG h))⟩,fun h=>⟨fun h2=>⟨fun h4=>?_,fun h4=>⟨ay 1 _,⟨_,rfl⟩,q0 fun q=>h4 (dZ.mpr q.2.2.1)⟩⟩,fun h2=>⟨ay 1 _,⟨_,rfl⟩,q0 fun q=>h2 (c0.mpr q.2.1)⟩⟩⟩
  refine(fun key=>⟨fun _=>⟨fun _=>⟨fun h=>absurd rfl h,fun _=>key⟩,fun _=>key⟩,fun _=>key⟩) ?_
  refine⟨hn,by rw[gd fo rfl,aJ];exact az (sM ..) hn,?_⟩
  refine WE.lc F [14,29,22,103,98] E 8 EH (by rfl) (by decide +kernel) (by rfl) ?_
  refine⟨⟨fun _=>trivial,aE rfl⟩,fun cenv i v acc hv=>?_,?_⟩
  ·refine al (rK hv) fun u j5=>?_
   subst j5
   exact⟨_,rfl,rfl,rfl⟩
  ·refine WO.LO 1 (by decide) (ay 1 _) (gv.codes (xs:=name.drop fo) (ys:=[102,99]) (by rw[←gd (fo:Nat) rfl];rfl) (by rfl)) ?_
   by_cases h9:name.drop fo=[102,99]
   ·rw[decide_eq_true h9]
    exact dT.ret _ (H₁:=FC [d6 b a']) (by rfl) (by rfl) (by exact aA 8) (by rfl) ⟨_,rfl,fun _=>rfl,q1 ⟨by exact l7 h,by exact rl h2 rfl,dZ.mp h4,h9⟩⟩
   ·rw[decide_eq_false h9]
    exact⟨ay 1 _,⟨_,rfl⟩,q0 fun z=>h9 z.2.2.2⟩
 by_cases sE:dm=200
 ·subst sE
  have q0:(¬(size=655360∧0<bW∧bW≤134217727∧(check=77∨check=0)∧name.drop fo=[102,104,122]))→P:=fun h=>q.neg fun z=>h (xa.mp z)
  have q1:(size=655360∧0<bW∧bW≤134217727∧(check=77∨check=0)∧name.drop fo=[102,104,122])→_:=fun h=>q.pos (xa.mpr h)
  refine⟨fun h=>⟨ay 1 _,⟨_,rfl⟩,q0 (by exact JO (hG h))⟩,fun h=>⟨fun h2=>⟨fun h4=>?_,fun h4=>⟨ay 1 _,⟨_,rfl⟩,q0 fun q=>h4 (dZ.mpr q.2.2.1)⟩⟩,fun h2=>⟨ay 1 _,⟨_,rfl⟩,q0 fun q=>h2 (c0.mpr q.2.1)⟩⟩⟩
  by_cases NL:check=77∨check=0
  case neg=>
   exact⟨fun _=>⟨fun _=>⟨fun _=>⟨ay 1 _,⟨_,rfl⟩,q0 fun z=>NL z.2.2.2.1⟩,fun h=>absurd (by decide) h⟩,fun h=>absurd (.inr (by exact l7 h)) NL⟩,fun h=>absurd (.inl (by exact l7 h)) NL⟩
  refine(fun key=>⟨fun h=>⟨fun h'=>absurd NL (fun q=>q.elim (fun e=>h (congrArg Int.ofNat e)) fun e=>h' (congrArg Int.ofNat e)),fun _=>key⟩,fun _=>key⟩) ?_
  refine⟨hn,by rw[gd fo rfl,aJ];exact az (sM ..) hn,?_⟩
  refine WE.lc F [14,29,22,103,98] E 8 EH (by rfl) (by decide +kernel) (by rfl) ?_
  refine⟨⟨fun _=>trivial,aE rfl⟩,fun cenv i v acc hv=>?_,?_⟩
  ·refine al (rK hv) fun u j4=>?_
   subst j4
   exact⟨_,rfl,rfl,rfl⟩
  ·refine WO.LO 1 (by decide) (ay 1 _) (gv.codes (xs:=name.drop fo) (ys:=[102,104,122]) (by rw[←gd (fo:Nat) rfl];rfl) (by rfl)) ?_
   by_cases h9:name.drop fo=[102,104,122]
   ·rw[decide_eq_true h9]
    exact dT.ret _ (H₁:=FC [d6 b a']) (by rfl) (by rfl) (by exact aA 8) (by rfl) ⟨_,rfl,fun _=>rfl,q1 ⟨by exact l7 h,by exact rl h2 rfl,dZ.mp h4,NL,h9⟩⟩
   ·rw[decide_eq_false h9]
    exact⟨ay 1 _,⟨_,rfl⟩,q0 fun z=>h9 z.2.2.2.2⟩
 ·have q0:P:=q.neg (by rw[JJ h3 sE];decide)
  conv=>whnf
  rw[HP (f:=(dm:Int)) (by exact aW [_] [] [.N (.E aB pQ)] (.N (.e aB pQ)) (.o xj cN) rfl h3) (by exact aW [_] [] [.N (.E aB (.l 200))] (.N (.e aB (.l 200))) (.o xj cN) rfl sE)]
  exact⟨ay 1 _,⟨_,rfl⟩,q0⟩
end
end
section
open PySem PySem.W PySem.Calls PyProof.Rows
section
variable {c:Cx}{d n:Nat}{H T:List ag}{Q:AV→List ag→Prop}{X:List ag→Prop}{a:Nat}{b:List UInt8}{P:Prop}{w:Wd}{s:fC}{kn:Known}
theorem C0 (F:eX c){op:Nat}(ho:243≤op∧op<247) (hb:b.length≤1000000) (ha:a≤b.length) (q:ei (mn b op a) (∀T,X (FC T)) fun v=>Q (.tup [.int (v.1.1:Nat),v.1.2.av]) (FC (d6 b v.2::T))) :
  WC c (d+4) (.ref 388) [.obj 7,.int op,.obj 0] (FC (d6 b a::T)) Q X:=WC.pre rfl rfl (N7 F ho hb ha q)
theorem ug {k:Nat}{r:mw}(h:kn.lookup (k:Int)=none):ml (k:Int) r.av (kn.map iW)=(kn++[((k:Int),r)]).map iW:=by
 rw[vb (by rw[fA,h];rfl),aF];rfl
theorem MD (F:eX c){op:Nat}(ho:243≤op∧op<247) (hb:w.b.length≤1000000) (ha:a≤w.b.length) (hz:kn.length≤1000) (q:ei (lZ w.b op a kn) (∀T,X (FC T)) fun v=>Q .none (w.D v.2 v.1 T)) :
  WC c (d+5) (.ref 430) [.obj 7,.int op,.obj 10,.obj 0] (w.D a kn T) Q X:=by
 refine WC.v F rfl rfl fun A env E=>?_
 refine C0 F ho hb ha (q.bind (fun p=>p) fun v e q=>?_)
 obtain⟨⟨dm,row⟩,a'⟩:=v
 conv=>whnf
 rw[fA,dh]
 cases h:(kn.lookup (dm:Int)).isSome with
 |true=>exact⟨ay 1 _,q.pos h _⟩
 |false=>
  have q:=q.neg (by rw[h];decide)
  refine⟨by rw[aa];exact ca hz rfl,?_⟩
  rw[ug (by simpa using h)]
  exact .inl q
end
end
section
open PySem PySem.W PySem.Calls PyProof.Rows
section
variable {c:Cx}{d n:Nat}{H T:List ag}{Q:AV→List ag→Prop}{X:List ag→Prop}{a:Nat}{b:List UInt8}{P:Prop}{w:Wd}{s:fC}{kn:Known}
theorem IA (F:eX c){k:Nat}{ri f g:Int}(tN:ri=k) (hk:k≤13) (hb:b.length≤1000000) (ha:a≤b.length) (q:ei (nw b k a f g) (∀a,X (FC (d6 b a::T))) fun v=>Q (.tup [.int v.1.1,.int v.1.2.1,.int v.1.2.2]) (FC (d6 b v.2::T))) :
  WC c (d+4) (.ref 402) [.obj 7,.int ri,.int f,.int g] (FC (d6 b a::T)) Q X:=by
 subst tN
 exact Ou F hk hb ha q
theorem PS (F:eX c){op:Nat}(hb:w.b.length≤1000000) (ha:a≤w.b.length) (hk:kn.length≤1000) (hr:s.rows.length≤100000) (hs:s.stack.length≤100000)
  (q:ei (kI w.b op a s kn) (∀T,X (FC T)) fun v=>Q .none (w.S v.2.2 v.2.1 v.1)):WC c (d+6) (.ref 437) [.obj 7,.obj 12,.int op,.obj 10,.obj 0] (w.S a kn s) Q X:=by
 refine WC.v F rfl rfl fun A env E=>?_
 refine⟨fun h=>?_,fun h=>?_⟩
 ·exact vm F hr ((q.pos (by exact gW h)).map (fun p _=>p _) fun _ q=>.inl q)
 have q:=q.neg (by exact dX h rfl)
 refine⟨fun h=>?_,fun h=>?_⟩
 ·refine di F (op-127) (OX 127 ‹_›) hb ha (by exact aW [_,_] [] [.t aB (.l 132),.fs aM aB (.l 127)] (.L aM (.l 1000)) (.o jN cN) rfl h (eV _ _)) ((q.pos (by exact gW h)).bind (fun p _=>p _) fun v e q=>?_)
  exact vm F hr (ei.map q (fun p _=>p _) fun _ q=>.inl q)
 have q:=q.neg (by exact dX h rfl)
 refine⟨fun h=>?_,fun h=>?_⟩
 ·exact IX F hb ha hr ((q.pos (by exact mO h)).map (fun p _ _=>p _) fun _ q=>.inl q)
 have q:=q.neg (by exact hG h)
 refine⟨fun h=>?_,fun h=>?_⟩
 ·refine di F (op-132) (Hy 132 ‹_›) hb ha (by exact aW [_,_] [] [.t aB (.l 137),.fs aM aB (.l 132)] (.L aM (.l 1000)) (.o jN cN) rfl h (eV _ _)) ((q.pos (by exact gW h)).bind (fun p _=>p _) fun v e q=>?_)
  exact vm F hr (ei.map q (fun p _=>p _) fun _ q=>.inl q)
 have q:=q.neg (by exact dX h rfl)
 refine⟨fun h=>?_,fun h=>?_⟩
 ·exact IX F hb ha hr ((q.pos (by exact mO h)).map (fun p _ _=>p _) fun _ q=>.inl q)
 have q:=q.neg (by exact hG h)
 refine⟨fun h=>?_,fun h=>?_⟩
 ·exact .inl (q.pos (by exact mO h))
 have q:=q.neg (by exact hG h)
 refine⟨fun h=>?_,fun h=>?_⟩
 ·exact OW F hs (.inl (q.pos (by exact mO h)))
 have q:=q.neg (by exact hG h)
 refine⟨fun h=>?_,fun h=>?_⟩
 ·exact SZ F hs ((q.pos (by exact mO h)).map (fun p=>p _) fun _ q=>.inl q)
 have q:=q.neg (by exact hG h)
 refine(fun key=>⟨fun h=>⟨fun h2=>?_,fun h2=>key (by exact vD h2 rfl)⟩,fun h2=>key (by exact uG h2 rfl)⟩:((¬(143≤op∧op<157))→_)→_) (fun h=>?_)
 rotate_left
 ·have q:=q.pos (by exact⟨pX h,gW h2⟩)
  refine IA F (k:=op-143) (by exact Gw h) (by exact aW [_,_] [] [.t aB (.l 157),.fs aM aB (.l 143)] (.L aM (.l 13)) (.o jN cN) rfl h2 (eV _ _)) hb ha (q.bind (fun p _=>p _) fun v e q=>?_)
  exact Ek F (s:={ s with cA:={ s.cA with w:=v.1.2.1,x:=v.1.2.2 } }) (ei.map q (fun p=>p _) fun _ q=>.inl q)
 have q:=q.neg h
 refine(fun key=>⟨fun h=>⟨fun h2=>?_,fun h2=>key (by exact vD h2 rfl)⟩,fun h2=>key (by exact uG h2 rfl)⟩:((¬(157≤op∧op<171))→_)→_) (fun h=>?_)
 rotate_left
 ·have q:=q.pos (by exact⟨pX h,gW h2⟩)
  refine IA F (k:=op-157) (by exact Gw h) (by exact aW [_,_] [] [.t aB (.l 171),.fs aM aB (.l 157)] (.L aM (.l 13)) (.o jN cN) rfl h2 (eV _ _)) hb ha (q.bind (fun p _=>p _) fun v e q=>?_)
  exact Ek F (s:={ s with cA:={ s.cA with y:=v.1.2.1,z:=v.1.2.2 } }) (ei.map q (fun p=>p _) fun _ q=>.inl q)
 have q:=q.neg h
 refine(fun key=>⟨fun h=>⟨fun h2=>?_,fun h2=>key (by exact vD h2 rfl)⟩,fun h2=>key (by exact uG h2 rfl)⟩:((¬(171≤op∧op<235))→_)→_) (fun h=>?_)
 rotate_left
 ·have q:=q.pos (by exact⟨pX h,gW h2⟩)
  rw[show(((op-171:Nat):Nat):Int)=(op:Int)-171 by exact aW [_,_] [] [.l (.l 171) aB,.fs aM aB (.l 171)] (.e aM (.s aB (.l 171))) (.o (.o jf cN) (.o cK jN)) rfl h (eV _ _)] at q
  exact zZ F (q.map (fun p=>p _) fun _ q=>.inl q)
 have q:=q.neg h
 refine(fun key=>⟨fun h=>⟨fun h2=>?_,fun h2=>key (by exact vD h2 rfl)⟩,fun h2=>key (by exact uG h2 rfl)⟩:((¬(235≤op∧op<239))→_)→_) (fun h=>?_)
 rotate_left
 ·refine di F (op-234) (by exact aW [_,_] [] [.l (.l 235) aB,.fs aM aB (.l 234)] (.e (.a (.s aB (.l 235)) bP) aM) (.o (.o cN jf) (.o jN cK)) rfl h (eV _ _)) hb ha (by exact aW [_,_] [] [.t aB (.l 239),.fs aM aB (.l 234)] (.L aM (.l 1000)) (.o jN cN) rfl h2 (eV _ _)) ((q.pos (by exact⟨pX h,gW h2⟩)).bind (fun p _=>p _) fun v e q=>?_)
  exact zZ F (ei.map q (fun p=>p _) fun _ q=>.inl q)
 have q:=q.neg h
 refine(fun key=>⟨fun h=>⟨fun h2=>?_,fun h2=>key (by exact vD h2 rfl)⟩,fun h2=>key (by exact uG h2 rfl)⟩:((¬(239≤op∧op<243))→_)→_) (fun h=>?_)
 rotate_left
 ·refine di F (op-238) (by exact aW [_,_] [] [.l (.l 239) aB,.fs aM aB (.l 238)] (.e (.a (.s aB (.l 239)) bP) aM) (.o (.o cN jf) (.o jN cK)) rfl h (eV _ _)) hb ha (by exact aW [_,_] [] [.t aB (.l 243),.fs aM aB (.l 238)] (.L aM (.l 1000)) (.o jN cN) rfl h2 (eV _ _)) ((q.pos (by exact⟨pX h,gW h2⟩)).bind (fun p _=>p _) fun v e q=>?_)
  refine tY F v.1 rfl hb (gM e).2.1 (ei.map q (fun p _=>p _) fun t q=>?_)
  refine⟨by rw[aa];exact ca hr rfl,?_⟩
  rw[jU (.spec s.cA.h s.cA.v t.1)]
  rotate_left
  ·rfl
  exact .inl q
 have q:=q.neg h
 refine BJ F ?_
 by_cases h:243≤op∧op<247
 ·rw[decide_eq_true (by exact aW [_] [] [.L (.l 243) aB,.T aB (.l 247)] (.A (.l (.l 243) aB) (.t aB (.l 247))) (.o cN cK) rfl h.1 h.2)]
  exact MD F h hb ha hk ((q.pos h).map id fun _ q=>.inl q)
 ·rw[decide_eq_false (by exact uK h)]
  exact⟨ay 1 _,q.neg h _⟩
end
end
section
open PySem PySem.W PySem.Calls PyProof.Rows
section
variable {c:Cx}{d n:Nat}{H T:List ag}{Q:AV→List ag→Prop}{X:List ag→Prop}{a:Nat}{b:List UInt8}{P:Prop}{w:Wd}{s:fC}{kn:Known}
theorem ON (F:eX c){g:ag}(q:Q .none (w.D a kn [g,CZ AK 13 14,.list [],.list []])):WC c (d+1) (.ref 327) [.obj 12] (w.D a kn [g,.inst 351 []]) Q X:=by
 refine WC.v F rfl rfl fun A env E=>?_
 refine(?_:_∨_)
 refine Or.inl ?_
 refine Eq.mpr (congrArg (Q .none) ?_) q
 kernel_rfl
theorem Vd (F:eX c){g:ag}(q:Q (.obj 12) (w.D a kn [g,CZ AK 13 14,.list [],.list []])):WC c (d+2) (.ref 351) [] (w.D a kn [g]) Q X:=
 WC.mk F rfl (ON F ⟨rfl,q⟩)
end
end
section
open PySem PySem.W PySem.Calls PyProof.Rows
section
variable {c:Cx}{d n:Nat}{H T:List ag}{Q:AV→List ag→Prop}{X:List ag→Prop}{a:Nat}{b:List UInt8}{P:Prop}{w:Wd}{s:fC}{kn:Known}
theorem ei.got {α β:Type}{x:Option α}{f:α→Option β}{y:α}{no:Prop}{ok:β→Prop}(h:ei (x.bind f) no ok) (e:x=some y):ei (f y) no ok:=by subst e;exact h
noncomputable abbrev Wd.pe (w:Wd) (iE:List Int):Wd:=⟨w.b,w.dv,w.pg,.list (iE.map .int),[]⟩
inductive PcA (w:Wd) (kn:Known) (a i:Nat) (acc:List AV) (H:List ag):Prop
 |mk (vs:List Int) (a1:Nat) (h1:zc w.b i a=some (vs,a1)) (e:acc=vs.map .int) (eh:H=w.D a1 kn [.list (vs.map .int)])
inductive PcJ (w:Wd) (last:Int) (iE:List Int) (Q:AV→List ag→Prop) (X:List ag→Prop) (i:Nat):Loc→List ag→Prop
 |mk (op a1:Nat) (s:fC) (md:Known) (q:ei ((gO w.b i op a1 s md).bind (Vt iE)) (∀T,X (FC T)) (fun v=>v.2.2≤w.b.length→v.1.2.rows.length<v.2.2→Q (.tup [.tup (v.1.1.map .int),.obj 12]) ((w.pe v.1.1).S v.2.2 v.2.1 v.1.2)))
  (h1:a1≤w.b.length) (h2:w.b.length-a1≤i) (h3:s.stack.length<a1) (h4:s.rows.length<a1) (h5:eZ md) :
  PcJ w last iE Q X i [some (.obj 7),some (.int last),some (.obj 10),some (.obj 0),some (.tup (iE.map .int)),some (.obj 12),some (.int op)] ((w.pe iE).S a1 md s)
structure PgT (b:List UInt8) (n a:Nat) (s:fC) (kn:Known) (v:pN) (z:Nat×Nat) (n':Nat):Prop where
 lt:n'<n
 le:z.2≤b.length
 fu:b.length-z.2≤n'
 st:s.stack.length<a→v.1.stack.length<z.2
 rw:s.rows.length<a→v.1.rows.length<z.2
 kn:eZ kn→eZ v.2.1
theorem J3 {β:Type}{n op:Nat}{k:pN→Option β}{no:Prop}{ok:β→Prop}(ho:op≠140) (hn:b.length-a≤n) (ha:a≤b.length) (q:ei ((gO b n op a s kn).bind k) no ok) :
  ei (kI b op a s kn) no fun v=>v.2.2≤b.length∧ei (gw b v.2.2 1) no fun z=>∃n',PgT b n a s kn v z n'∧ei ((gO b n' z.1 z.2 v.1 v.2.1).bind k) no ok:=by
 cases e5:kI b op a s kn with
 |none=>rw[vM ho e5] at q;exact q
 |some v=>
  have l:=GK _ e5
  refine⟨l.in_ ha,?_⟩
  cases e6:gw b v.2.2 1 with
  |none=>rw[BI ho e5 e6] at q;exact q
  |some z=>
   refine aL (EP ho hn ha e5 e6) fun n' e e7 h7=>?_
   rw[e7] at q
   have l6:=EC _ e6
   have lt:∀{x y:Nat},x≤y+1→y<a→x<z.2:=fun h h'=>cq h (aV (vZ h') (az (gR l.le) l6.1))
   exact⟨n',⟨e▸d7 n',l6.2,h7,lt l.sr.st,lt l.sr.rw,l.ok⟩,q⟩
theorem NT (F:eX c){last:Int}(hb:w.b.length≤100000) (ha:a≤w.b.length) (hk:eZ kn)
  (q:ei (nJ w.b last a kn) (∀T,X (FC T)) fun v=>v.2.2≤w.b.length→v.1.2.rows.length<v.2.2→Q (.tup [.tup (v.1.1.map .int),.obj 12]) ((w.pe v.1.1).S v.2.2 v.2.1 v.1.2)) :
  WC c (d+7) (.ref 442) [.obj 7,.int last,.obj 10,.obj 0] (w.D a kn []) Q X:=by
 refine WC.v F rfl rfl fun A env E=>?_
 refine WE.lj F [102,106,22,50,6,60,92] E 11 (by rfl) (by decide +kernel) (by rfl) ?_
 refine⟨rfl,⟨by decide,by decide⟩,?_⟩
 refine⟨PcA w kn a,⟨[],a,rfl,rfl,rfl⟩,?_,?_,?_⟩
 ·rintro i acc H ⟨vs,a1,h1,rfl,rfl⟩
  refine⟨trivial,rfl,?_⟩
  have:=B6 h1 ha
  rw[aa];exact aW [_,_,_,_,_] [] [.L aB rZ,.E aM (.a cg (.m 4 fz)),.L aM aB,.E ji fz] (.L ji jg) (.k [4,4,0,1,0,1,1]) rfl hb this.1 this.2.1 this.2.2
 ·rintro cenv i v acc H hx ⟨vs,a1,h1,rfl,rfl⟩
  have yO:=B6 h1 ha
  have hi:=(fx hx).1
  refine pj F 4 rfl (by exact ca hb rfl) yO.2.1 (by decide) ?_
  have q0:zc w.b (i+1) a=none→∀T,X (FC T):=fun h=>by
   have:zc w.b 10 a=none:=Ii h (by exact dk (kr hi rfl))
   unfold nJ at q
   rw[this] at q
   exact q
  rw[uT,h1] at q0
  cases e:mQ w.b a1 4 with
  |none=>exact fun _=>q0 (by show kh _ (mQ w.b a1 4)=none;rw[e];rfl) _
  |some x=>
   refine⟨rfl,by rw[aa];exact pa yO.2.2 (rC hi rfl),vs++[x.1],x.2,?_,by rw[aF];rfl,?_⟩
   ·rw[uT,h1]
    show kh _ (mQ w.b a1 4)=_
    rw[e];rfl
   ·rw[aF];rfl
 ·rintro acc H ⟨iE,a1,h1,rfl,rfl⟩
  rw[fy] at h1
  have h1:zc w.b 10 a=some (iE,a1):=h1
  have l1:=B6 h1 ha
  have q:=ei.got q h1
  refine⟨by rw[aa];exact og l1.2.2 rfl,?_⟩
  refine pj F 4 rfl (by exact ca hb rfl) l1.2.1 (by decide) (q.bind (fun p _=>p _) fun l e q=>?_)
  have l2:=pd e
  refine⟨fun h=>⟨ay 1 _,q.pos h _⟩,fun h=>?_⟩
  have q:=q.neg h
  refine Vd F ?_
  refine di F 1 rfl (by exact ca hb rfl) l2.2 (by decide) (q.bind (fun p _=>p _) fun op e q=>?_)
  have l3:=gM e
  refine⟨PcJ w last iE Q X,w.b.length-op.2,
   ⟨op.1,op.2,AK,kn,q,l3.2.1,aA _,(show 0<op.2 by exact aW [_,_] [] [.E aB (.a aM bP)] (.T dF aB) cN rfl l3.1),(show 0<op.2 by exact aW [_,_] [] [.E aB (.a aM bP)] (.T dF aB) cN rfl l3.1),hk⟩,?_⟩
  rintro i l H ⟨op,a1,s,md,q,h1,h2,h3,h4,h5⟩
  have k5:=h5.le
  refine⟨fun ho=>?_,fun ho=>?_⟩
  ·have ho:op≠140:=by exact hG ho
   refine PS F (w:=w.pe iE) (by show w.b.length≤_;exact ca hb rfl) h1 (by exact ca k5 rfl) (by exact aW [_,_,_] [] [.L aB rZ,.L aM aB,.T cg aM] (.L cg rZ) tL rfl hb h1 h4) (by exact aW [_,_,_] [] [.L aB rZ,.L aM aB,.T cg aM] (.L cg rZ) tL rfl hb h1 h3) ((J3 ho h2 h1 q).mono id fun v q=>?_)
   refine di F (b:=w.b) 1 rfl (by show w.b.length≤_;exact ca hb rfl) q.1 (by decide) (q.2.mono (fun p _=>p _) fun z q=>?_)
   refine aq q fun n' t q=>?_
   exact .inl ⟨n',t.lt,z.1,z.2,v.1,v.2.1,q,t.le,t.fu,t.st h3,t.rw h4,t.kn h5⟩
  ·have ho:op=140:=by exact l7 ho
   subst ho
   rw[uM] at q
   have q:=ei.got q rfl
   refine⟨by rw[aa];exact aW [_,_,_] [] [.L aB rZ,.L aM aB,.T cg aM] (.L cg jg) tL rfl hb h1 h3,⟨fun h=>?_,fun h=>?_⟩⟩
   ·rw[aa] at h
    exact⟨ay 1 _,q.pos (by show s.stack.length>0;exact rl h rfl) _⟩
   ·rw[aa] at h
    exact .inl (q.neg (by show ¬s.stack.length>0;exact tc h rfl) h1 h4)
end
end
section
open PySem PySem.W PySem.Calls PyProof.Rows
section
variable {c:Cx}{d n:Nat}{H T:List ag}{Q:AV→List ag→Prop}{X:List ag→Prop}{a:Nat}{b:List UInt8}{P:Prop}{w:Wd}{s:fC}{kn:Known}
theorem C9 {H:List ag}{x y:mw}:gv H 1 x.av y.av (decide (x=y)):=by
 obtain⟨c,s,d,a,n⟩:=x
 obtain⟨c',s',d',a',n'⟩:=y
 refine .tupS (.cons (.int c c') (.cons (.int s s') (.cons (.int d d') (.cons (.int a a') (.cons (.eg n n') .nil))))) (k8.mpr ⟨fun h=>?_,fun h=>?_⟩)
 ·have h1:=aS.mp h
  have h2:=aS.mp h1.2
  have h3:=aS.mp h2.2
  have h4:=aS.mp h3.2
  cases fY (eq_of_beq h1.1)
  cases fY (eq_of_beq h2.1)
  cases fY (eq_of_beq h3.1)
  cases fY (eq_of_beq h4.1)
  cases eq_of_beq (aS.mp h4.2).1
  exact decide_eq_true rfl
 ·cases of_decide_eq_true h
  exact ba.mpr fun b hb=>by
   simp only[beq_self_eq_true,br,bZ,or_false,or_self] at hb
   exact hb
inductive PfJ (w:Wd) (kn:Known) (Q:AV→List ag→Prop) (X:List ag→Prop) (i:Nat):Loc→List ag→Prop
 |mk (op a1:Nat) (told:Known) (x1 x2:Option AV) (q:ei ((gP w.b kn i op a1 told).bind (Vx kn)) (∀T,X (FC T)) (fun a'=>a'≤w.b.length→∀told:Known,Q .none (w.D a' kn [.dict (told.map iW)])))
  (h1:a1≤w.b.length) (h2:w.b.length-a1≤i) (h3:told.length<a1) :
  PfJ w kn Q X i [some (.obj 7),some (.obj 10),some (.obj 0),some (.obj 11),some (.int op),x1,x2] (w.D a1 kn [.dict (told.map iW)])
structure PfT (b:List UInt8) (n a:Nat) (v:UD) (n':Nat):Prop where
 lt:n'<n
 le:a+1≤v.2.1∧v.2.1≤b.length
 fu:b.length-v.2.1≤n'
theorem LY {β:Type}{n op:Nat}{told:Known}{k:Known×Nat→Option β}{no:Prop}{ok:β→Prop}(ho:op≠249) (hn:b.length-a≤n) (q:ei ((gP b kn n op a told).bind k) no ok) :
  ei (mq b kn op a told) no fun v=>∃n',PfT b n a v n'∧ei ((gP b kn n' v.1 v.2.1 v.2.2).bind k) no ok:=by
 cases e:mq b kn op a told with
 |none=>rw[w7 ho e] at q;exact q
 |some v=>
  refine aL (EB ho e hn) fun n' e1 e7 h7=>?_
  rw[e7] at q
  exact⟨n',⟨e1▸d7 n',CE _ e,h7⟩,q⟩
theorem xv (F:eX c) (hb:w.b.length≤100000) (ha:a≤w.b.length) (hk:kn.length≤1000)
  (q:ei (jd w.b a kn) (∀T,X (FC T)) fun a'=>a'≤w.b.length→∀told:Known,Q .none (w.D a' kn [.dict (told.map iW)])) :
  WC c (d+6) (.ref 449) [.obj 7,.obj 10,.obj 0] (w.D a kn []) Q X:=by
 refine WC.v F rfl rfl fun A env E=>?_
 refine di F 1 rfl (by exact ca hb rfl) ha (by decide) (q.bind (fun p _=>p _) fun op e q=>?_)
 have l1:=gM e
 refine⟨PfJ w kn Q X,w.b.length-op.2,⟨op.1,op.2,[],none,none,q,l1.2.1,aA _,(show 0<op.2 by exact aW [_,_] [] [.E aB (.a aM bP)] (.T dF aB) cN rfl l1.1)⟩,?_⟩
 rintro i l H ⟨op,a1,told,x1,x2,q,h1,h2,h3⟩
 refine⟨fun ho=>?_,fun ho=>?_⟩
 ·have ho:op≠249:=by exact hG ho
  have t:=LY ho h2 q
  refine BJ F ?_
  by_cases lP:243≤op∧op<247
  ·rw[decide_eq_true ⟨dZ.mpr lP.1,c0.mpr lP.2⟩]
   refine C0 F lP (by exact ca hb rfl) h1 ((t.pos lP).bind (fun p=>p) fun v e q=>?_)
   conv=>whnf
   rw[fA,dh]
   cases ht:told.lookup (v.1.1:Int) with
   |some _=>exact⟨ay 1 _,ei.pos q (.inl (by rw[ht];rfl)) _⟩
   |none=>
    conv=>whnf
    rw[fA]
    cases xS:kn.lookup (v.1.1:Int) with
    |none=>exact WO.YN (ay 1 _) ⟨ay 1 _,ei.pos q (.inr fun z=>nS (xS.symm.trans z)) _⟩
    |some Ld=>
     refine WO.LO 1 (by decide) (ay 1 _) C9 ?_
     by_cases hr:Ld=v.1.2
     ·have q:=ei.neg q fun z=>z.elim (fun z=>by rw[ht] at z;exact fT z) fun z=>z (xS.trans (congrArg some hr))
      subst hr
      rw[decide_eq_true rfl]
      refine⟨by rw[aa];exact ca (az (dC h3) (az h1 hb)) rfl,?_⟩
      rw[ug ht]
      refine di F 1 rfl (by exact ca hb rfl) (El e).2 (by decide) (ei.map q (fun p _=>p _) fun z q=>?_)
      refine aq q fun n' t q=>?_
      exact .inl ⟨n',t.lt,_,_,_,_,_,q,t.le.2,t.fu,by rw[ah];exact aV (vZ h3) t.le.1⟩
     ·rw[decide_eq_false hr]
      exact⟨ay 1 _,ei.pos q (.inr fun z=>hr (ae (xS.symm.trans z))) _⟩
  ·rw[decide_eq_false (by exact uK lP)]
   have t:=t.neg lP
   refine⟨fun mP=>⟨ay 1 _,ei.pos t (hG mP) _⟩,fun mP=>?_⟩
   refine di F 1 rfl (by exact ca hb rfl) h1 (by decide) (ei.map (ei.neg t fun z=>z (l7 mP)) (fun p _=>p _) fun z q=>?_)
   refine aq q fun n' t q=>?_
   exact .inl ⟨n',t.lt,z.1,z.2,told,x1,x2,q,t.le.2,t.fu,aV h3 (ng t.le.1)⟩
 ·have ho:op=249:=by exact l7 ho
  subst ho
  rw[vp] at q
  have q:=ei.got q rfl
  refine⟨by rw[aa];exact aW [_,_,_] [] [.L aB rZ,.L aM aB,.T cg aM] (.L cg jg) tL rfl hb h1 h3,?_⟩
  refine⟨by rw[aa];exact ca hk rfl,⟨fun h=>?_,fun h=>?_⟩⟩
  ·rw[aa,aa] at h
   exact⟨ay 1 _,q.pos (by show told.length≠kn.length;exact Gd h) _⟩
  ·rw[aa,aa] at h
   exact .inl (q.neg (by show ¬told.length≠kn.length;exact aW [_,_] [] [.N (.N (.e aB aM))] (.N (.N (.E aB aM))) (.o cN cK) rfl h) h1 told)
end
end
section
open PySem PySem.W PySem.Calls PyProof.Rows
section
variable {c:Cx}{d n:Nat}{H T:List ag}{Q:AV→List ag→Prop}{X:List ag→Prop}{a:Nat}{b:List UInt8}{P:Prop}{w:Wd}{s:fC}{kn:Known}{v:g7}
theorem Dp {α:Type} [BEq α] [LawfulBEq α] [DecidableEq α] {x y:α}:(x==y)=decide (x=y):=k8.mpr (beq_iff_eq.trans (decide_eq_true_iff ..).symm)
theorem zU {H:List ag}{x y z x' y' z':Int}:gv H 1 (.tup [.int x,.int y,.int z]) (.tup [.int x',.int y',.int z']) (decide ((x,y,z)=(x',y',z'))):=by
 refine .tupS (.cons (.int x x') (.cons (.int y y') (.cons (.int z z') .nil))) ?_
 rw[←Dp]
 exact congrArg (x==x'&&·) (congrArg (y==y'&&·) (yS _))
noncomputable abbrev Rv (v:g7):ag:=.inst 372 [("units",.tup [.int v.units.1,.int v.units.2.1,.int v.units.2.2]),("comment",.eg v.comment),("pages",.obj 9),("fonts",.obj 10),("tallest",.int v.mc),("widest",.int v.widest),("deepest",.int v.iy)]
noncomputable def tZ (p:List Int×List n5):AV:=.tup [.tup (p.1.map .int),.tup (p.2.map n5.av)]
noncomputable abbrev Wv (b:List UInt8) (v:g7) (g:ag):Wd:=⟨b,Rv v,.list (v.cb.map tZ),g,[]⟩
theorem fB {k:Nat}:∀{is:List Int},ku k (is.map .int)=true:=by
 intro us
 induction us with
 |nil=>
  exact rfl
 |cons i is ih=>
  rw[bY];unfold ku rM;rw[ih];rfl
theorem kc {α:Type}{k:Nat}{f:α→AV}(h:∀x,rM k (f x)=true):∀{l:List α},ku k (l.map f)=true:=by
 intro us
 induction us with
 |nil=>
  exact rfl
 |cons x l ih=>
  rw[bY];unfold ku;rw[h,ih];rfl
theorem xC {k:Nat}:∀r:n5,rM k r.av=true
 |.char ..=>rfl
 |.rule ..=>rfl
 |.spec ..=>rfl
theorem yv {k:Nat}{vs:List AV}(h:ku k vs=true):rM k (.tup vs)=true:=by unfold rM;exact h
theorem tS {k:Nat}(p:List Int×List n5):rM k (tZ p)=true:=by
 unfold tZ
 refine yv ?_
 unfold ku
 rw[yv fB]
 unfold ku
 rw[yv (kc xC)];rfl
theorem rX {k:Nat}:∀{kn:Known},kW k (kn.map iW)=true:=by
 intro us
 induction us with
 |nil=>
  exact rfl
 |cons p kn ih=>
  rw[bY];unfold iW kW;rw[show rM k p.2.av=true from rfl];exact ih
theorem okD {g:ag}:tf 11 ((Wv b v g).D a v.cL [])=true:=by
 have e1:yM 11 (.list (v.cb.map tZ))=true:=kc tS
 have e2:yM 11 (.dict (v.cL.map iW))=true:=rX
 unfold tf
 rw[ba]
 intro x hx
 simp only[br,bZ,or_false] at hx
 rcases hx with rfl | rfl | rfl | rfl | rfl | rfl | rfl | rfl | rfl | rfl | rfl
 all_goals first | rfl | exact e1 | exact e2
noncomputable def yf:AV→Bool
 |.int i=>decide (i≠223)
 |_=>false
theorem Kp (t:List UInt8):(t.map fun x=>AV.int (x.toNat:Int)).filter yf=((t.filter fun x=>x != 223).map fun x=>(x.toNat:Int)).map .int:=by
 induction t with
 |nil=>rfl
 |cons x t ih=>
  have hx:yf (.int (x.toNat:Int))=(x != 223):=by
   unfold yf
   rw[k8]
   simp only[ne_eq,decide_eq_true_eq,bne_iff_ne]
   rw[←JG]
   show ¬((x.toNat:Int)=223)↔¬(x.toNat=223)
   exact not_congr ⟨mO,congrArg Int.ofNat⟩
  rw[bY,JH,JH,hx,ih]
  cases x != 223<;>rfl
theorem PY:hW (nq b a) fun u=>a≤u.2∧u.2≤b.length:=
 .cV Lj fun _ h1=>.cV Lj fun _ h2=>.cV Lj fun _ h3=>.ite (fun _=>.none) fun _=>.some ⟨az h1.1 (az h2.1 h3.1),h3.2⟩
theorem vn {u:(Int×Int×Int)×Nat}(h:nq b a=some u):a≤u.2∧u.2≤b.length:=PY _ h
theorem Qd (F:eX c){g:ag}{last:Int}(hb:b.length≤100000) (ha:a≤b.length) (h1:1≤a) (hz:v.cb.length≤100000) (hk:v.cL.length≤1000)
  (q:ei (so b a last v) (∀T,X (FC T)) fun v'=>∀a',Q .none ((Wv b v' g).D a' v'.cL [])) :
  WC c (d+8) (.ref 454) [.obj 7,.obj 8,.int last,.obj 0] ((Wv b v g).D a v.cL []) Q X:=by
 refine WC.v F rfl rfl fun A env E=>?_
 have nZ:b.length≤1000000:=by exact ca hb rfl
 refine pj F (b:=b) 4 rfl nZ ha (by decide) (q.bind (fun p _=>p _) fun l e q=>?_)
 have l1:=pd e
 refine⟨fun h=>⟨ay 1 _,q.pos h _⟩,fun h=>?_⟩
 have q:=q.neg h
 refine zB F (by rfl) nZ l1.2 (q.bind (fun p _=>p _) fun u e q=>?_)
 have l2:=vn e
 refine WO.LO 1 (by decide) (ay 1 _) zU ?_
 by_cases hu:u.1=v.units
 case neg=>
  rw[decide_eq_false hu]
  exact⟨ay 1 _,q.pos hu _⟩
 rw[decide_eq_true hu]
 have q:=q.neg (fun h=>h hu)
 refine pj F (b:=b) 4 rfl nZ l2.2 (by decide) (q.bind (fun p _=>p _) fun pT e q=>?_)
 have l3:=pd e
 refine pj F (b:=b) 4 rfl nZ l3.2 (by decide) (q.bind (fun p _=>p _) fun wide e q=>?_)
 have l4:=pd e
 refine di F (b:=b) 2 rfl nZ l4.2 (by decide) (q.bind (fun p _=>p _) fun deep e q=>?_)
 have l5:=gM e
 refine⟨fun h=>⟨ay 1 _,q.pos h _⟩,fun h=>?_⟩
 have q:=q.neg h
 refine di F (b:=b) 2 rfl nZ l5.2.1 (by decide) (q.bind (fun p _=>p _) fun cb e q=>?_)
 have l6:=gM e
 refine⟨by rw[aa];exact ca hz rfl,?_⟩
 refine⟨by decide,?_⟩
 refine⟨fun h=>⟨ay 1 _,q.pos (by rw[aa] at h;exact fun q=>h (congrArg Int.ofNat q)) _⟩,fun h=>?_⟩
 have q:=q.neg (by rw[aa] at h;exact fun q=>h fun e=>q (fY e))
 refine xv F (w:=Wv b { v with mc:=pT.1,widest:=wide.1 } g) (kn:=v.cL) hb l6.2.1 hk (q.bind (fun p=>p) fun a7 e q ha7 told=>?_)
 refine di F (b:=b) 4 rfl nZ ha7 (by decide) (q.bind (fun p _=>p _) fun bg e q=>?_)
 have l8:=gM e
 refine⟨fun h=>⟨ay 1 _,q.pos (by exact aW [_,_,_] [] [.L bP aB,.N (.e aM (.s aB bP)),.fs cg aB bP] (.N (.E aM cg)) (.o (.o (.k [0,1,0,0,1,1]) (.k [0,0,1,0,0,1])) (.o (.k [1,0,0,1,0,1]) (.k [1,0,0,1,0,1,1]))) rfl h1 h (eV _ _)) _⟩,fun h=>?_⟩
 have q:=q.neg (by exact aW [_,_,_] [] [.N (.N (.e aB (.s aM bP))),.fs cg aM bP] (.N (.N (.E aB cg))) (.o (.o ub n8) (.o cN rt)) rfl h (eV _ _))
 refine di F (b:=b) 1 rfl nZ l8.2.1 (by decide) (q.bind (fun p _=>p _) fun id e q=>?_)
 have l9:=gM e
 refine⟨fun h=>⟨ay 1 _,q.pos (by exact hG h) _⟩,fun h=>?_⟩
 have q:=q.neg (by exact aW [_] [] [.N (.N (.e aB jL))] (.N (.N (.E aB jL))) (.o cN cK) rfl h)
 refine⟨by exact nZ,?_⟩
 have htk:wq b id.2 (b.length-id.2)=some (b.drop id.2,b.length):=by
  unfold wq;rw[if_pos (bF (Fx l9.2.1)),dM (by rw[aJ];exact lQ 0 rfl),show id.2+(b.length-id.2)=b.length from Fx l9.2.1]
 refine tY F (b:=b) (b.length-id.2) (Rg l9.2.1).symm nZ l9.2.1 ?_
 rw[htk]
 have U8:(b.drop id.2).length=b.length-id.2:=aJ ..
 refine⟨(by show(b.drop id.2).length≤_;exact pa U8 (rm nZ)),?_⟩
 refine⟨fun h=>⟨ay 1 _,q.pos (.inl (by have h:((b.drop id.2).length:Int)<4:=h;show b.length-id.2<4;exact aW [_,_] [] [.E aB aM,.t aB iI] (.T aM iI) qu rfl U8 h)) _⟩,fun h=>?_⟩
 refine WE.lf F [22,52,92,62,19,18] E 11 yf (by rfl) (by decide +kernel) (by rfl) ?_
 refine⟨⟨fun _=>trivial,by rw[aa];show(b.drop id.2).length≤_;exact pa U8 (rm nZ)⟩,fun cenv i v acc hv=>?_,?_⟩
 ·rw[aK] at hv
  refine aq (bB.mp hv) fun u _ gC=>?_
  subst gC
  exact⟨⟨fun h=>⟨(decide_eq_true h).symm,rfl⟩,fun h=>⟨(decide_eq_false h).symm,rfl⟩⟩,rfl,rfl⟩
 ·rw[Kp]
  refine WO.LO 1 (by decide) (ay 1 _) (gv.ints (ys:=[]) (by rfl) (by rfl)) ?_
  have e9:((b.drop id.2).filter fun x=>x != 223).map (fun x=>(x.toNat:Int))=[]↔¬((b.drop id.2).any fun x=>x != 223)=true:=by
   rw[um]
   simp[AW]
  by_cases h9:((b.drop id.2).filter fun x=>x != 223).map (fun x=>(x.toNat:Int))=[]
  ·rw[decide_eq_true h9]
   refine dT.next _ (H₁:=(Wv b { v with mc:=pT.1,widest:=wide.1 } g).D b.length v.cL []) (by rfl) okD (by exact aA 11) [] rfl (fun _ _ h=>by exact nS h) ?_
   have h:¬((b.drop id.2).length:Int)<4:=h
   exact q.neg (fun z=>z.elim (fun z=>by have z:b.length-id.2<4:=z;exact aW [_,_] [] [.E aB aM,.N (.t aB iI)] (.N (.T aM iI)) ui rfl U8 h z) (e9.mp h9)) _
  ·rw[decide_eq_false h9]
   exact⟨ay 1 _,q.pos (.inr (jk.mp (fun z=>h9 (e9.mpr z)))) _⟩
end
end
section
open PySem PySem.W PySem.Calls PyProof.Rows
section
variable {c:Cx}{d n:Nat}{H T:List ag}{Q:AV→List ag→Prop}{X:List ag→Prop}{a:Nat}{b:List UInt8}{P:Prop}{w:Wd}{s:fC}{kn:Known}{v:g7}
theorem PE (F:eX c) (q:Q .none (FC [d6 b 0])):WC c (d+1) (.ref 285) [.obj 7,.eg b] (FC [.inst 309 []]) Q X:=by
 refine WC.v F rfl rfl fun A env E=>?_
 exact .inl q
theorem NJ (F:eX c) (q:Q (.obj 7) (FC [d6 b 0])):WC c (d+2) (.ref 309) [.eg b] (FC []) Q X:=
 WC.mk F rfl (PE F ⟨rfl,q⟩)
noncomputable abbrev Wg (b:List UInt8) (v:g7):Wd:=Wv b v (.list [])
theorem Vg (F:eX c){u:Int×Int×Int}{cm:List UInt8}(q:Q .none ((Wg b ⟨u,cm,[],[],0,0,0⟩).D a [] [])):WC c (d+1) (.ref 369) [.obj 8,.tup [.int u.1,.int u.2.1,.int u.2.2],.eg cm] (FC [d6 b a,.inst 372 []]) Q X:=by
 refine WC.v F rfl rfl fun A env E=>?_
 exact .inl q
theorem TM (F:eX c){u:Int×Int×Int}{cm:List UInt8}(q:Q (.obj 8) ((Wg b ⟨u,cm,[],[],0,0,0⟩).D a [] [])):WC c (d+2) (.ref 372) [.tup [.int u.1,.int u.2.1,.int u.2.2],.eg cm] (FC [d6 b a]) Q X:=
 WC.mk F rfl (Vg F ⟨rfl,q⟩)
inductive FlJ (b:List UInt8) (u:Int×Int×Int) (hH:Nat) (Q:AV→List ag→Prop) (X:List ag→Prop) (i:Nat):Loc→List ag→Prop
 |mk (op a1:Nat) (last:Int) (v:g7) (x1 x2 x3:Option AV) (q:ei ((fQ b i op a1 last v).bind (fi6 b)) (∀T,X (FC T)) (fun v=>∀a',Q (.obj 8) ((Wg b v).D a' v.cL [])))
  (h1:a1≤b.length) (h2:b.length-a1≤i) (h3:v.cb.length<a1) (h5:eZ v.cL) :
  FlJ b u hH Q X i [some (.eg b),some (.obj 0),some (.obj 7),some (.tup [.int u.1,.int u.2.1,.int u.2.2]),some (.int hH),some (.obj 8),some (.int last),some (.int op),x1,x2,x3] ((Wg b v).D a1 v.cL [])
structure Zo (b:List UInt8) (n a:Nat) (v:g7) (z:Lm) (n':Nat):Prop where
 lt:n'<n
 fu:b.length-z.2.1≤n'
 m:MnK b a v z
theorem KN {β:Type}{n op:Nat}{last:Int}{k:Int×g7×Nat→Option β}{no:Prop}{ok:β→Prop}(ho:op≠248) (hn:b.length-a≤n) (q:ei ((fQ b n op a last v).bind k) no ok) :
  ei (kF b op a last v) no fun z=>∃n',Zo b n a v z n'∧ei ((fQ b n' z.1 z.2.1 z.2.2.1 z.2.2.2).bind k) no ok:=by
 cases e:kF b op a last v with
 |none=>rw[r9 ho e] at q;exact q
 |some z=>
  refine aL (DB ho e hn) fun n' e1 e7 h7=>?_
  rw[e7] at q
  exact⟨n',⟨e1▸d7 n',h7,ue _ e⟩,q⟩
theorem Zo.pg {n n':Nat}{z:Lm}(t:Zo b n a v z n') (h:v.cb.length<a):z.2.2.2.cb.length<z.2.1:=cq t.m.n (aV (vZ h) t.m.le.1)
theorem Oe (F:eX c) (hb:b.length≤100000) (q:ei (iD b) (∀T,X (FC T)) fun v=>∀a',Q (.obj 8) ((Wg b v).D a' v.cL [])) :
  WC c (d+9) (.ref 461) [.eg b,.obj 0] (FC []) Q X:=by
 refine WC.v F rfl rfl fun A env E=>?_
 have nZ:b.length≤1000000:=by exact ca hb rfl
 refine NJ F ?_
 refine di F 1 rfl nZ (cR _) (by decide) (q.bind (fun p _=>p _) fun op e q=>?_)
 have l1:=gM e
 refine⟨fun h=>⟨ay 1 _,q.pos (by exact hG h) _⟩,fun h=>?_⟩
 have q:=q.neg (by exact aW [_] [] [.N (.N (.e aB (.l 247)))] (.N (.N (.E aB (.l 247)))) (.o cN cK) rfl h)
 refine di F 1 rfl nZ l1.2.1 (by decide) (q.bind (fun p _=>p _) fun op e q=>?_)
 have l1:=gM e
 refine⟨fun h=>⟨ay 1 _,q.pos (by exact hG h) _⟩,fun h=>?_⟩
 have q:=q.neg (by exact aW [_] [] [.N (.N (.e aB jL))] (.N (.N (.E aB jL))) (.o cN cK) rfl h)
 refine zB F (by rfl) nZ l1.2.1 (q.bind (fun p _=>p _) fun u e q=>?_)
 have l1:=vn e
 refine di F 1 rfl nZ l1.2 (by decide) (q.bind (fun p _=>p _) fun hH e q=>?_)
 have l1:=gM e
 refine tY F hH.1 rfl nZ l1.2.1 (q.bind (fun p _=>p _) fun cm e q=>?_)
 have l1:=Gy e
 refine TM F ?_
 refine di F (b:=b) 1 rfl nZ l1.2 (by decide) (q.bind (fun p _=>p _) fun op e q=>?_)
 have l1:=gM e
 refine⟨FlJ b u.1 hH.1 Q X,b.length-op.2,
   ⟨op.1,op.2,-1,⟨u.1,cm.1,[],[],0,0,0⟩,none,none,none,q,l1.2.1,aA _,(show 0<op.2 by exact aW [_,_] [] [.E aB (.a aM bP)] (.T dF aB) cN rfl l1.1),eZ.nil⟩,?_⟩
 clear q
 rintro i l H ⟨op,a1,last,v,x1,x2,x3,q,h1,h2,h3,h5⟩
 have k5:=h5.le
 refine⟨fun ho=>?_,fun ho=>?_⟩
 ·have ho:op≠248:=by exact hG ho
  have t:=KN ho h2 q
  refine⟨fun qy=>?_,fun qy=>?_⟩
  ·have qy:op=139:=by exact mO qy
   refine NT F (w:=Wg b v) hb h1 h5 ((t.pos qy).bind (fun p=>p) fun r e q (h6:r.2.2≤b.length) (h7:r.1.2.rows.length<r.2.2)=>?_)
   refine⟨by rw[aa];exact ca (az (dC h7) (az h6 hb)) rfl,?_⟩
   refine⟨by rw[aa];exact ca (az (dC h3) (az h1 hb)) rfl,?_⟩
   refine di F (b:=b) 1 rfl nZ h6 (by decide) (ei.map q (fun p _=>p _) fun z q=>?_)
   refine aq q fun n' t q=>?_
   refine dT.nextM [true,true,true,true,true,true,true,true] _ (H₁:=(Wg b (v.Ly r)).D z.2 r.2.1 []) (by
    show _=(Wg b (v.Ly r)).D z.2 r.2.1 []++_
    unfold Wg Wv
    rw[show(v.Ly r).cb.map tZ=v.cb.map tZ++[tZ (r.1.1,r.1.2.rows)] from aF]
    rfl) okD (by exact(by decide:7≤11)) rfl ⟨n',t.lt,z.1,z.2,_,_,none,none,none,q,t.m.le.2,t.fu,t.pg h3,t.m.k h5⟩
  have t:=t.neg (hG qy)
  refine BJ F ?_
  by_cases lP:243≤op∧op<247
  ·rw[decide_eq_true ⟨dZ.mpr lP.1,c0.mpr lP.2⟩]
   refine MD F (w:=Wg b v) lP nZ h1 (by exact ca k5 rfl) ((ei.pos t lP).bind (fun p=>p) fun r e q=>?_)
   refine di F (b:=b) 1 rfl nZ (OV _ e).1.2.1 (by decide) (ei.map q (fun p _=>p _) fun z q=>?_)
   refine aq q fun n' t q=>?_
   exact .inl ⟨n',t.lt,z.1,z.2,last,{ v with cL:=r.1 },_,_,_,q,t.m.le.2,t.fu,t.pg h3,t.m.k h5⟩
  ·rw[decide_eq_false (by exact uK lP)]
   have t:=ei.neg t lP
   refine⟨fun mP=>⟨ay 1 _,ei.pos t (hG mP) _⟩,fun mP=>?_⟩
   refine di F (b:=b) 1 rfl nZ h1 (by decide) (ei.map (ei.neg t fun z=>z (l7 mP)) (fun p _=>p _) fun z q=>?_)
   refine aq q fun n' t q=>?_
   exact .inl ⟨n',t.lt,z.1,z.2,last,v,_,_,_,q,t.m.le.2,t.fu,t.pg h3,t.m.k h5⟩
 ·have ho:op=248:=by exact l7 ho
  subst ho
  rw[vI] at q
  refine Qd F hb h1 (by exact aW [_,_] [] [.T aB aM] (.L bP aM) cK rfl h3) (by exact aW [_,_,_] [] [.L aB rZ,.L aM aB,.T cg aM] (.L cg rZ) tL rfl hb h1 h3) (by exact ca k5 rfl) (ei.mono (ei.got q rfl) (fun p=>p) fun v q a'=>.inl (q a'))
end
end
section
open PySem PySem.W PySem.Calls PyProof.Rows
section
variable {c:Cx}{d m kp:Nat}{A:aU}{env:dI}{l l':Loc}{α bD:Am}{h h':cf}{H H':List ag}{s s':aH}{as:List AV}{ns:List (bu×bc)}{scope:nR}{x:bu}{pos:ij}
variable {Q:AV→List ag→Prop}{X:List ag→Prop}
theorem YJ {fI:aD}{fd:eJ}{tb rest:List eF}{x:bu}{np hp tp rp cp:ij}{k:Nat}{XT:List ag→Prop}(ok:ma c.K c.bd fI fd) (i:Nat) (hn:env.scope.names[i]?=some (x,.globalImplicit))
  (hv:EV c.K et x=some (some (.ref c.bd))) (D3:(x==("__debug__":bu))=false) (hx:∀H',XT H'→Q .none H')
  (w:VS c d H.length A env tb l H (fun af l' H'=>af=.next∧VS c d H.length A env rest l' H' (qE Q) X) XT) (I:Inv c d A env l α H s) :
  bj c.M A (execs (.Try tb [.ExceptHandler (some (.Name x np)) none [.Return (some (.Constant .none k cp)) rp] hp] [] [] tp::rest) env) (HV c A env α s.heap Q) (kG c A env α s.heap X) s:=by
 refine g5 ok.cls fun nm q' N bs bm hdct sn sub ab col dd k0 k1 k2 gC=>?_
 obtain⟨k3,k5,xg,Kr,Q4,QV,Vy,VQ⟩:=gC
 have yO:α.length≤H.length:=by rw[I.h.len];exact aA _
 refine qd (wpAny_Try_except ?_)
 refine au (w α s I) (fun f bf p=>?_) fun v bf p=>?_
 ·obtain⟨af,l₁,aP,H₁,b0,bp,fr,rfl,q⟩:=p
  cases fr
  refine jS ?_
  exact au (CA b0 (q aP bf bp)) (fun _ _ p=>(p.full yO).toR) fun _ _ p=>p.full yO
 ·obtain⟨e,fl,aP,H₁,rfl,uj,z,m,O,K,hX,-,-⟩:=p
  have m:=m.full yO
  refine cD I.top fun en o mu tU=>?_
  refine al I.e.frame fun F hF=>?_
  rw[jw tU]
  refine OQ mu (tU.trans hF) (by unfold wx at uj ⊢;rw[tU];exact uj) m O K z fun h1 z1 m1 O1 K1 _=>?_
  refine pR (s:={ bf with heap:=h1 }) (fr:=none) mu m1 O1 K1 z1 fun h2 z2 m2 O2 K2 _=>?_
  have z2':=z2
  obtain⟨_,_,_,oe,vs,a0,z4,z5,z6,z7,T,oT,ts,y1,_⟩:=z2'
  have g2:h2.Ns env.globals c.mg:=I.e.glob▸I.ok.T.g.keeps O2.base
  have Xf:c.K.In h2:=I.ok.X.keeps O2.base
  refine wpAny_handleBy_cons (codeAny_handlers_test (lS I.e.kind (cX I.e.nodup hn) (wK g2 (mg_of I.ok.X I.ok.T.g hv) ?_) D3)) (by intro q;cases q)
  refine wpAny_excMatches_sub_self (Xf _ _ xg) z4 z5 VQ (codeAny_handlers_suite ?_)
  refine pR (A:=A.mark (some (.ref e))) (s:={ bf with heap:=h2 }) (fr:=none) (ct:=α) (h₀:=s.heap) (own:=cz env) mu ⟨m2.pre,m2.fresh,m2.alive,m2.keep,m2.slot⟩ O2 ⟨K2.fr,K2.la⟩ z2 fun h3 z3 m3 O3 K3 _=>?_
  refine qd (Rh (Constant_none ?_))
  exact⟨.none,aP,H₁,⟨m3.pre,m3.fresh,m3.alive,m3.keep,m3.slot⟩,O3,⟨K3.fr,K3.la⟩,(xh (c:=c) (h:=h3) (α:=aP)),hx _ hX⟩
theorem WC.t (F:eX c){f:aD}{s:Option eF}{is:List Nat}(i:Nat){tb rest:List eF}{np hp tp rp cp:ij}{k:Nat}{XT:List ag→Prop}(e:kM FN f=some (s,is)) (hl:as.length=(j3 s).length)
  (hb:iK s=.Try tb [.ExceptHandler (some (.Name "BadDevice" np)) none [.Return (some (.Constant .none k cp)) rp] hp] [] [] tp::rest) (hi:(namesOf s)[i]?=some (("BadDevice":bu),bc.globalImplicit)) (hx:∀H',XT H'→Q .none H')
  (w:∀A env,iA env (namesOf s)→vS ⟨c,d,A,env,XT⟩ (gx s is) 60 H.length tb (locs as (yD (namesOf s))) H (fun af l' H'=>af=.next∧vS ⟨c,d,A,env,X⟩ (gx s is) 60 H.length rest l' H' (qE Q))):WC c (d+1) (.ref f) as H Q X:=by
 refine fF (F.fn e) fun fd D hn D3 nZ=>?_
 refine bQ F.rs fun j4 _ hv=>?_
 refine fW j4 fun fI fd' ok=>?_
 intro W6
 refine WC.Qs rfl D hl (binds_K nZ hl) fun A env he hf α s' I=>?_
 have E:iA env (namesOf s):=⟨⟨by rw[he];exact hn,D3⟩,by rw[he];exact D.kind,hf⟩
 rw[hb]
 refine YJ ok i (by rw[E.nm];exact hi) hv (by decide +kernel) hx ?_ (I.loc (l':=locs as (yD (namesOf s))) fun i v e=>?_)
 ·refine VS.mono (X':=XT) ((Af ⟨F.ok E.toNmEnv,E⟩ 60).S (w A env E)) ?_
  intro af l' H' lH
  obtain⟨rfl,w⟩:=lH
  exact⟨rfl,(Af ⟨F.ok E.toNmEnv,E⟩ 60).S w⟩
 ·have e:=rN e
  unfold uA
  rw[aC (by rw[aa];exact(ao.mp e).1),aK,e]
  rfl
theorem WE.dj (F:eX c) (is:List Nat) (E:iA env ns){kx vx iter:Expr}{px pos:ij}(kp:Nat) (hk:scope.kind=.function) (hb:rh ns scope.names x=true) (hs:qB iter=true)
  (w:vF ⟨ns,ir is,FT,MT⟩ (vE ⟨c,d,A,env,X⟩ ⟨ns,ir is,FT,MT⟩ 40) (vA ⟨c,d,A,env,X⟩ ⟨ns,ir is,FT,MT⟩ 40) l H kp iter fun xs gE H1=>∃J:Nat→List (Int×AV)→List ag→Prop,J 0 [] (H1++[.dict []]) ∧
   (∀(i:Nat) (acc:List (Int×AV)) (H':List ag),J i acc H'→gE H'∧H'[H1.length]?=some (.dict acc)∧acc.length≤1000000) ∧
   (∀(cenv:dI) (i:Nat) (v:AV) (acc:List (Int×AV)) (H':List ag),xs[i]?=some v→J i acc H'→vE ⟨c,d,A,cenv,X⟩ ⟨mM ns scope.names,ir is,FT,MT⟩ 40 kx ((mR ns l scope.names).set 1 (some v)) H' fun a H3=>
    ∃k,a=.int k∧vE ⟨c,d,A,cenv,X⟩ ⟨mM ns scope.names,ir is,FT,MT⟩ 40 vx ((mR ns l scope.names).set 1 (some v)) H3 fun b H4=>H4[H1.length]?=some (.dict acc)∧acc.length≤1000000∧J (i+1) (ml k b acc) (H4.set H1.length (.dict (ml k b acc)))) ∧
   ∀(acc:List (Int×AV)) (H':List ag),J xs.length acc H'→Q (.obj H1.length) H'):WE c d A env (.DictComp kx vx [⟨.Name x px,iter,[],0⟩] scope pos) l H Q X:=by
 have ok:n9 ⟨c,d,A,env,X⟩ ⟨ns,ir is,FT,MT⟩:=⟨F.ok E.toNmEnv,E⟩
 refine WE.Uh (kp:=kp) (rD E hk hb) (fun x=>kZ hs x) ((mW ok (nY ok.toVOk 40) w).mo fun xs gE H1 h=>?_)
 refine fF h fun J h1 h2 h3 q=>?_
 clear h
 refine⟨J,h1,h2,fun cenv i v acc H' hn hv j=>BY.nil ?_,q⟩
 rw[if_pos rfl]
 refine WE.mono ((nY (z:=⟨c,d,A,cenv,X⟩) (F.ok (nx E hb hn)) 40).E (h3 cenv i v acc H' hv j)) ?_ fun _ h=>h
 intro a H3 mr
 refine aq mr fun k nF h=>?_
 clear mr
 subst nF
 exact⟨k,rfl,(nY (z:=⟨c,d,A,cenv,X⟩) (F.ok (nx E hb hn)) 40).E h⟩
end
section
variable {c:Cx}{d n:Nat}{H T:List ag}{Q:AV→List ag→Prop}{X:List ag→Prop}{a:Nat}{b:List UInt8}{v:g7}
noncomputable abbrev FL (T:List ag):List ag:=.list [.obj 1,.obj 2]::jn 3 "fc" 0 5 3::jn 200 "fhz" 77 6 4::.dict (tj.map eQ)::.dict (gT.map eQ)::nA::nA::T
noncomputable abbrev VP:ag:=.dict [(3,.obj 1),(200,.obj 2)]
noncomputable abbrev J5 (v:g7) (p s:Nat):AV:=.tup [.tup [.int v.units.1,.int v.units.2.1,.int v.units.2.2],.eg v.comment,.obj p,.int v.mc,.int v.widest,.int v.iy,.obj s]
theorem fh {α:Type}{g:α→AV}{f:Nat→Nat}(h:∀x,mD f (g x)=g x):∀{l:List α},j6 f (l.map g)=l.map g:=by
 intro us
 induction us with
 |nil=>
  exact rfl
 |cons x l ih=>
  rw[bY];unfold j6;rw[h,ih]
theorem xH {f:Nat→Nat}{vs:List AV}(h:j6 f vs=vs):mD f (.tup vs)=.tup vs:=by unfold mD;rw[h]
theorem uc {f:Nat→Nat}:∀r:n5,mD f r.av=r.av
 |.char ..=>rfl
 |.rule ..=>rfl
 |.spec ..=>rfl
theorem tX {f:Nat→Nat}(p:List Int×List n5):mD f (tZ p)=tZ p:=by
 unfold tZ
 refine xH ?_
 unfold j6
 rw[xH (fh (g:=AV.int) fun _=>rfl)]
 unfold j6
 rw[xH (fh uc)]
 rfl
theorem wZ {f:Nat→Nat}:∀{kn:Known},nW f (kn.map iW)=kn.map iW:=by
 intro us
 induction us with
 |nil=>
  exact rfl
 |cons p kn ih=>
  rw[bY];unfold iW nW;rw[show mD f p.2.av=p.2.av from rfl];exact congrArg _ ih
noncomputable abbrev Br (v:g7):ag:=.inst 372 [("units",.tup [.int v.units.1,.int v.units.2.1,.int v.units.2.2]),("comment",.eg v.comment),("pages",.obj 10),("fonts",.obj 11),("tallest",.int v.mc),("widest",.int v.widest),("deepest",.int v.iy)]
theorem LB (F:eX c) (hb:b.length≤100000) (q:ei (iD b) (∀T,X (FL T)) fun v=>∀a,Q (.obj 9) (FL [VP,d6 b a,Br v,.list (v.cb.map tZ),.dict (v.cL.map iW)])):WC c (d+9) (.ref 461) [.eg b,.obj 7] (FL [VP]) Q X:=by
 refine WC.frame [7,1,2,3,4,5,6] (H₀:=FC []) (.of rfl (by decide) ?_) (as₀:=[.eg b,.obj 0]) rfl rfl (Q₀:=fun u H=>∃v a,iD b=some v∧u=.obj 8∧H=(Wg b v).D a v.cL []) (X₀:=fun H=>iD b=none∧∃T,H=FC T)
  (Oe F hb (by cases e:iD b with
   |none=>exact fun T=>⟨rfl,T,rfl⟩
   |some v=>exact fun a=>⟨v,a,rfl,rfl,rfl⟩)) ?_ ?_
 ·exact⟨⟨rfl,rfl⟩,⟨rfl,rfl⟩,⟨rfl,rfl⟩,⟨rfl,rfl⟩,⟨rfl,rfl⟩,⟨rfl,rfl⟩,⟨rfl,rfl⟩,trivial⟩
 ·intro u H nU
  refine aN nU fun v a e mI nv=>?_
  clear nU
  subst mI
  subst nv
  rw[e] at q
  have e1:∀f,ip f (.list (v.cb.map tZ))=.list (v.cb.map tZ):=fun f=>congrArg ag.list (fh tX)
  have e2:∀f,ip f (.dict (v.cL.map iW))=.dict (v.cL.map iW):=fun f=>congrArg ag.dict wZ
  have q:=q a
  rw[←e1 (fr [7,1,2,3,4,5,6] 8),←e2 (fr [7,1,2,3,4,5,6] 8)] at q
  exact q
 ·intro H pY
  refine bG pY fun e lC=>?_
  clear pY
  refine al lC fun T tO=>?_
  subst tO
  rw[e] at q
  exact q _
theorem NZ (F:eX c) (hb:b.length≤100000) (q:match iD b with
  |none=>∀T,Q .none (FL T)
  |some v=>∀a ns,jx (v.cL.map (·.1)) ns→Q (J5 v 10 12) (FL [VP,d6 b a,Br v,.list (v.cb.map tZ),.dict (v.cL.map iW),.list (ns.map .int)])) :
  WC c (d+10) (.ref 621) [.eg b,.obj 0] (FL []) Q X:=by
 refine WC.t F 4 (XT:=fun H=>iD b=none∧∃T,H=FL T) rfl rfl (by rfl) (by rfl) (fun H' ⟨h,T,e⟩=>by rw[h] at q;subst e;exact q T) fun A env E=>?_
 refine WE.dj F [64,22,96] E 7 (by rfl) (by decide +kernel) (by rfl) ?_
 refine⟨fun i acc H=>H=FL [.dict acc]∧acc=([(3,.obj 1),(200,.obj 2)]:List (Int×AV)).take i,⟨rfl,rfl⟩,?_,?_,?_⟩
 ·intro i acc H v8
  obtain⟨rfl,rfl⟩:=v8
  exact⟨rfl,rfl,by rw[cj];exact az (Nat.min_le_right ..) (by decide)⟩
 ·intro cenv i v acc H hv Fb
  obtain⟨rfl,rfl⟩:=Fb
  rcases i with _ | _ | i
  ·replace hv:=ae hv
   subst hv
   exact⟨3,rfl,rfl,cR _,rfl,rfl⟩
  ·replace hv:=ae hv
   subst hv
   exact⟨200,rfl,rfl,by decide,rfl,rfl⟩
  ·simp at hv
 ·intro acc H E6
  obtain⟨rfl,rfl⟩:=E6
  refine LB F hb ?_
  cases e:iD b with
  |none=>exact fun T=>⟨rfl,T,rfl⟩
  |some v=>
   rw[e] at q
   have k:=(EU e).le
   refine fun a=>⟨rfl,?_⟩
   refine WV.tq (kvs:=v.cL.map iW) (.inr ⟨11,rfl,.inl rfl⟩) (by rw[aa];exact oX k rfl) fun ns hs=>?_
   rw[dy] at hs
   exact q _ _ hs
end
end
section
open PySem PySem.W PySem.Calls PyProof.Rows
section
variable {c:Cx}{d n:Nat}{H T:List ag}{Q:AV→List ag→Prop}{X:List ag→Prop}{a:Nat}{b:List UInt8}{P:Prop}{f:ai}{as:List AV}
theorem WC.new (ha:ku 0 as=true) (hr:j6 (([]:List Nat).getD · 0) as=as) (w:WC c d f as [] (fun v G=>Q (mD (fr [] H.length) v) (H++G.map (ip (fr [] H.length)))) fun G=>X (H++G.map (ip (fr [] H.length)))):WC c d f as H Q X:=
 WC.frame [] ⟨rfl,gF,fun{i n x} e _=>by exact nS e⟩ hr.symm ha w (fun v G q=>q) fun G q=>q
theorem jC (F:eX c) (q:Q (.int (be b)) H):WC c (d+1) (.ref 545) [.eg b] H Q X:=by
 refine WC.v F rfl rfl fun A env E=>?_
 refine⟨H.length,aA _,?_⟩
 refine⟨fun i l' H'=>H'=H∧∃p,l'=[some (.eg b),some (.int (be (b.take i))),p],⟨rfl,none,rfl⟩,fun _ _ _ _ _=>trivial,?_,?_⟩
 ·rintro i x l' H' hx ⟨rfl,p,rfl⟩
  rw[aK,bB] at hx
  refine aq hx fun u hu gC=>?_
  clear hx
  subst gC
  refine⟨.of_right (by decide),?_⟩
  refine .inl ⟨rfl,some (.int u.toNat),?_⟩
  rw[gi,hu,Option.toList_some,C6]
  have:((be (b.take i):Nat):Int)*256+(u.toNat:Int)=((256*be (b.take i)+u.toNat:Nat):Int):=by lia
  rw[←this];rfl
 ·rintro l' H' ⟨rfl,p,rfl⟩
  rw[aa,kE]
  exact .inl q
theorem ju (F:eX c) (hb:b.length≤100000) (hn:0<b.length) (q:Q (.int (jH b)) H):WC c (d+2) (.ref 552) [.eg b] H Q X:=by
 refine WC.v F rfl rfl fun A env E=>?_
 refine jC F ?_
 unfold jH at q
 refine⟨⟨⟨by exact(by decide),by exact aW [_] [] [.T dF aB] (.t dF aB) cK rfl hn⟩,by exact ca hb rfl⟩,⟨fun h=>?_,fun h=>?_⟩⟩
 ·have h:(127:Int)<((b.getD 0 0).toNat:Int):=h
  rw[if_pos (by exact rl h rfl)] at q
  refine⟨by exact ca hb rfl,?_⟩
  have hp:fc 256=9:=by decide +kernel
  refine WV.AY (by exact ll) (by rw[hp];exact aW [_] [] [.L aB rZ] (.l (.m 9 aB) (.l 134217728)) (.k [1,9]) rfl hb) ?_
  exact .inl q
 ·have h:¬(127:Int)<((b.getD 0 0).toNat:Int):=h
  rw[if_neg (by exact tc h rfl)] at q
  exact .inl q
theorem dT.pick {QR:AV→List ag→Prop}{l:Loc}(k:Nat) (x:ag) (e:H[k]?=some x) (o:yM 1 x=true) (r:∀f,ip f x=x) (q:QR (.obj 0) [x]):dT 0 (qE QR) (.ret (.obj k)) l H:=by
 refine .inr ⟨[k],.obj 0,[x],fun n hn=>by exact(aW [_] [] [] (.N (.T aB dF)) nt rfl hn).elim,⟨rfl,by simp,fun{i n y} e1 e2=>?_⟩,rfl,rfl,q⟩
 cases i with
 |zero=>replace e1:=ae e1;subst e1;replace e2:=ae e2;subst e2;exact⟨o,by rw[r];exact e⟩
 |succ i=>exact nS e1
theorem i5 {xs:List UInt8}{lo hi:Int}(a b:Nat) (h1:lo=a) (h2:hi=b):lM (some lo) (some hi) xs=da xs a b:=G0 a b h1 h2
noncomputable def xI (b:List UInt8):AV→AV
 |.int i=>.int (jH (da b (4*i.toNat) (4*i.toNat+4)))
 |_=>.none
theorem yp (F:eX c) (hb:b.length≤100000) (hn:12≤b.length) (q:Q (.tup [.int (three b).1,.int (three b).2.1,.int (three b).2.2]) H):WC c (d+3) (.ref 604) [.eg b] H Q X:=by
 refine WC.new rfl rfl ?_
 refine WC.v F rfl rfl fun A env E=>?_
 refine WE.lc F [102,106,78] E 0 (xI b) (by rfl) (by decide +kernel) (by rfl) ?_
 refine⟨rfl,⟨by decide,by decide⟩,?_⟩
 refine⟨⟨fun _=>trivial,by decide⟩,fun cenv i v acc hv=>?_,?_⟩
 ·refine bG (fx hv) fun hi iu=>?_
  subst iu
  have hi:i<3:=hi
  refine⟨.of_left (by decide),⟨.of_left (by decide),⟨by exact ca hb rfl,?_⟩⟩⟩
  rw[i5 (4*i) (4*i+4) (by exact aW [_] [] [] (.e (.m 4 (.a dF aB)) (.c (.m 4 aB))) (.o nt nt) rfl) (by exact aW [_] [] [] (.e (.a (.m 4 (.a dF aB)) iI) (.c (.a (.m 4 aB) iI))) (.o nt nt) rfl)]
  have hl:=kU b (x:=4*i) (y:=4*i+4) (by exact aW [_,_] [] [.L (.l 12) aB,.T aM pQ] (.L (.a (.m 4 aM) iI) aB) (.k [1,4,1]) rfl hn hi)
  refine ju F (by exact aW [_,_,_] [] [.E aB aM,.fs aM (.a (.m 4 cg) iI) (.m 4 cg)] (.L aB rZ) (.o jN jN) rfl hl (eV _ _)) (by exact aW [_,_,_] [] [.E aB aM,.fs aM (.a (.m 4 cg) iI) (.m 4 cg)] (.T dF aB) (.o (.k [1,0,0,1,0,1]) xK) rfl hl (eV _ _)) ⟨?_,rfl⟩
  show AV.int _=AV.int (jH (da b (4*(0+(i:Int)).toNat) (4*(0+(i:Int)).toNat+4)))
  rw[show(0+(i:Int)).toNat=i by exact Sy]
 ·refine⟨by rw[aa];decide,dT.ret _ (H₁:=[]) rfl rfl (aA _) rfl ?_⟩
  rw[←cM H] at q
  exact q
theorem P7 (F:eX c) (q:Q (.obj H.length) (H++[.list (qN.map fun(n:Nat)=>AV.int n)])):WC c (d+1) (.ref 559) [] H Q X:=by
 refine WC.new rfl rfl ?_
 refine WC.v F rfl rfl fun A env E=>?_
 iterate 11 refine⟨by decide,?_⟩
 refine dT.pick 17 (.list (qN.map fun(n:Nat)=>AV.int n)) (by rfl) (by rfl) (fun f=>congrArg ag.list (fh fun _=>rfl)) ?_
 rw[←show ip (fr [] H.length) (.list (qN.map fun(n:Nat)=>AV.int n))=.list (qN.map fun(n:Nat)=>AV.int n) from congrArg ag.list (fh fun _=>rfl)] at q
 exact q
end
end
section
open PySem PySem.W PySem.Calls PyProof.Rows
noncomputable def z0 (x:fK):AV:=.tup [.int x.op,.int x.place,.eg x.args]
theorem Ai (t:List UInt8):(t.map fun x=>(x.toNat:Int)).sum=(Ac t:Int):=by
 unfold Ac
 induction t with
 |nil=>rfl
 |cons x t ih=>simp only[bY,List.sum_cons,ih];simp
theorem uH {α:Type}{P:α→Prop}{G:Prop}(R:α→Prop) (w:(∀e,R e→P e)→G) (k:∀e,R e→P e):G:=w k
section
variable {c:Cx}{d n:Nat}{H T:List ag}{Q:AV→List ag→Prop}{X:List ag→Prop}{a:Nat}{b:List UInt8}{P:Prop}{f:ai}{as:List AV}
theorem G4 {n p:Nat}{found:List fK}(h:¬p<b.length):jm b n p found=none:=by unfold jm;rw[if_neg h]
theorem HW {n p:Nat}{found:List fK}(h:p<b.length) (hn:b.length-p≤n):∃n',n=n'+1∧jm b n p found=(if (b.getD p 0).toNat>249∨aO b (b.getD p 0).toNat p>b.length then none
  else if (b.getD p 0).toNat=249 then some (found++[⟨(b.getD p 0).toNat,p,da b (p+1) (aO b (b.getD p 0).toNat p)⟩])
  else jm b n' (aO b (b.getD p 0).toNat p) (found++[⟨(b.getD p 0).toNat,p,da b (p+1) (aO b (b.getD p 0).toNat p)⟩])):=by
 cases n with
 |zero=>exact(aW [_,_,_] [] [.T aB aM,.fs cg aM aB] (.N (.L cg dF)) (.o n8 vG) rfl h (eV _ _) hn).elim
 |succ n=>
  refine⟨n,rfl,?_⟩;conv=>lhs;unfold jm
  rw[if_pos h]
inductive CtJ (b:List UInt8) (i:Nat):Loc→List ag→Prop
 |mk (p:Nat) (found:List fK) (x1 x2:Option AV) (h1:jm b i p found=jm b b.length 0 []) (h2:b.length-p≤i) (h3:found.length≤p) :
  CtJ b i [some (.eg b),some (.obj 0),some (.int p),some (.obj 1),x1,x2] [.list (found.map z0),.list (qN.map fun(n:Nat)=>AV.int n)]
theorem UL (F:eX c) (hb:b.length≤100000) (q:match jm b b.length 0 [] with
  |none=>Q .none H
  |some cs=>Q (.obj H.length) (H++[.list (cs.map z0)])):WC c (d+2) (.ref 566) [.eg b] H Q X:=by
 refine WC.new rfl rfl ?_
 have q0:jm b b.length 0 []=none→Q .none (H++[]):=fun h=>by rw[h] at q;rw[cM];exact q
 have q1:∀cs,jm b b.length 0 []=some cs→Q (.obj H.length) (H++[.list (cs.map z0)]):=fun cs h=>by rw[h] at q;exact q
 clear q
 refine WC.v F rfl rfl fun A env E=>?_
 refine P7 F ?_
 refine⟨CtJ b,b.length,⟨0,[],none,none,rfl,sM _ _,cR _⟩,?_⟩
 rintro i l H' ⟨p,found,x1,x2,h1,h2,h3⟩
 refine⟨by exact ca hb rfl,⟨fun hp=>?_,fun hp=>?_⟩⟩
 ·have hp:p<b.length:=by exact Hb hp
  refine⟨⟨⟨by exact ll,c0.mpr hp⟩,by exact ca hb rfl⟩,?_⟩
  rw[show(p:Int).toNat=p from rfl]
  generalize lP:(b.getD p 0).toNat=op
  have Yq:op<256:=by rw[←lP];exact UInt8.toNat_lt _
  apply uH (fun e:Int=>e=(aO b op p:Int))
  ·intro key
   refine⟨fun h=>?_,fun h=>?_⟩
   ·refine⟨⟨by exact ll,by exact Ob h rfl⟩,.int (qN.getD op 0:Nat),?_,?_⟩
    ·rw[aK,gm,aw (show op<qN.length by rw[show qN.length=239 from rfl];exact gW h),oo,bt,aw (show op<qN.length by rw[show qN.length=239 from rfl];exact gW h)]
     rfl
    ·conv=>whnf
     generalize hee:(p:Int)+1+(qN.getD op 0:Nat)=ee
     have he:ee=(aO b op p:Int):=by unfold aO;rw[if_pos (by exact gW h)];exact aW [_,_] [_] [.e (.a (.a aB bP) aM) bJ] (.e bJ (.c (.a (.a aB bP) aM))) (.o cK cN) rfl hee
     exact key ee he
   refine⟨fun h2=>?_,fun h2=>?_⟩
   ·refine⟨by exact ca hb rfl,?_⟩
    rw[i5 (p+1) (p+1+(op-238)) (by exact rfl) (by exact aW [_,_,_] [] [.N (.t aB (.l 239)),.fs aM aB (.l 238)] (.e (.s (.a (.a cg bP) aB) (.l 238)) (.c (.a (.a cg bP) aM))) (.o (.o cN jf) (.o jN cK)) rfl h (eV _ _))]
    refine jC F ?_
    exact key _ (by unfold aO;rw[if_neg (by exact dX h rfl),if_pos (by exact gW h2)];exact aW [_,_,_,_] [] [.N (.t aB (.l 239)),.fs aM aB (.l 238)] (.e (.a (.s (.a (.a cg bP) aB) (.l 238)) fz) (.c (.a (.a (.a cg bP) aM) fz))) (.o (.o cN jf) (.o jN cK)) rfl h (eV _ _))
   refine⟨fun h3=>?_,fun h3=>?_⟩
   ·refine⟨by exact ca hb rfl,?_⟩
    rw[i5 (p+1+(op-242+14)-2) (p+1+(op-242+14)) (by exact aW [_,_,_,_] [] [.N (.t aB (.l 243)),.fs aM aB (.l 242),.fs cg (.a (.a fz bP) (.a aM (.l 14))) jL] (.e (.s (.a (.s (.a (.a fz bP) aB) (.l 242)) (.l 14)) jL) cg) (.o (.o (.o ub (.k [1,0,0,1,0,0,1])) (.o xK xK)) (.o (.o (.k [0,0,0,0,1,0,0,1]) (.k [0,0,0,0,1,0,0,1])) (.o xK xK))) rfl h2 (eV _ _) (eV _ _)) (by exact aW [_,_,_] [] [.N (.t aB (.l 243)),.fs aM aB (.l 242)] (.e (.a (.s (.a (.a cg bP) aB) (.l 242)) (.l 14)) (.c (.a (.a cg bP) (.a aM (.l 14))))) (.o (.o cN jf) (.o jN cK)) rfl h2 (eV _ _))]
    exact key _ (by rw[Ai];unfold aO;rw[if_neg (by exact dX h2 rfl),if_neg (by exact dX h2 rfl),if_pos (by exact gW h3)];exact aW [_,_,_,_] [] [.N (.t aB (.l 243)),.fs aM aB (.l 242)] (.e (.a (.a (.s (.a (.a cg bP) aB) (.l 242)) (.l 14)) fz) (.c (.a (.a (.a cg bP) (.a aM (.l 14))) fz))) (.o (.o cN jf) (.o jN cK)) rfl h2 (eV _ _))
   refine⟨fun h4=>?_,fun h4=>?_⟩
   ·refine⟨by exact ca hb rfl,?_⟩
    rw[i5 (p+1+14-1) (p+1+14) (by exact aW [_,_] [] [.fs aB (.a (.a aM bP) (.l 14)) bP] (.e (.s (.a (.a aM bP) (.l 14)) bP) aB) (.o (.o cN jf) (.o cN xK)) rfl (eV _ _)) (by exact rfl)]
    exact key _ (by rw[Ai];unfold aO;rw[if_neg (by exact dX h3 rfl),if_neg (by exact dX h3 rfl),if_neg (by exact dX h3 rfl),if_pos (by exact mO h4)];exact rfl)
   refine⟨fun h5=>?_,fun h5=>?_⟩
   ·exact key _ (by unfold aO;rw[if_neg (by exact dX h3 rfl),if_neg (by exact dX h3 rfl),if_neg (by exact dX h3 rfl),if_neg (by exact hG h4),if_pos (by exact mO h5)];exact rfl)
   refine⟨fun h6=>?_,fun h6=>?_⟩
   ·refine⟨by exact ca hb rfl,?_⟩
    exact key _ (by unfold aO;rw[if_neg (by exact dX h3 rfl),if_neg (by exact dX h3 rfl),if_neg (by exact dX h3 rfl),if_neg (by exact hG h4),if_neg (by exact hG h5),if_pos (by exact mO h6)])
   ·exact key ((p:Int)+1) (by unfold aO;rw[if_neg (by exact dX h3 rfl),if_neg (by exact dX h3 rfl),if_neg (by exact dX h3 rfl),if_neg (by exact hG h4),if_neg (by exact hG h5),if_neg (by exact hG h6)];exact rfl)
  ·intro e he
   subst he
   have hgt:=@jY b op p hp
   refine aq (HW (found:=found) hp h2) fun n' Q9 i4=>?_
   rw[i4,lP] at h1
   refine⟨fun h=>?_,fun h=>?_⟩
   ·rw[if_pos (.inl (by exact rl h rfl))] at h1
    exact .inl (dT.ret _ (H₁:=[]) (by rfl) (by rfl) (aA _) (by rfl) (q0 h1.symm))
   refine⟨by exact ca hb rfl,⟨fun h2=>?_,fun h2=>?_⟩⟩
   ·rw[if_pos (.inr (by exact Hb h2))] at h1
    exact .inl (dT.ret _ (H₁:=[]) (by rfl) (by rfl) (aA _) (by rfl) (q0 h1.symm))
   rw[if_neg (by exact aW [_,_,_] [] [.N (.t (.l 249) aB),.N (.t aM cg)] (.N (.O (.T (.l 249) aB) (.T aM cg))) (.o cN cK) rfl h h2)] at h1
   refine⟨by exact ca hb rfl,⟨by rw[aa];exact wW h3 hp hb rfl,?_⟩⟩
   rw[i5 (p+1) (aO b op p) (by exact rfl) (by exact rfl)]
   have hcv:found.map z0++[AV.tup [.int op,.int p,.eg (da b (p+1) (aO b op p))]]=(found++[fK.mk op p (da b (p+1) (aO b op p))]).map z0:=by rw[aF];rfl
   rw[hcv]
   refine⟨fun h3=>?_,fun h3=>?_⟩
   ·rw[if_pos (by exact mO h3)] at h1
    have q:=q1 _ h1.symm
    rw[←show ip (fr [] H.length) (.list ((found++[fK.mk op p (da b (p+1) (aO b op p))]).map z0))=.list ((found++[fK.mk op p (da b (p+1) (aO b op p))]).map z0) from congrArg ag.list (fh fun _=>rfl)] at q
    exact .inl (dT.ret _ (H₁:=[.list ((found++[fK.mk op p (da b (p+1) (aO b op p))]).map z0)]) (by rfl) (by exact aS.mpr ⟨kc fun _=>rfl,rfl⟩) (cR _) (by rfl) q)
   ·rw[if_neg (by exact hG h3)] at h1
    exact .inl ⟨n',by exact aW [_,_] [] [.E aB (.a aM bP)] (.T aM aB) cN rfl Q9,aO b op p,_,_,_,h1,Pl ‹b.length-p≤i› Q9 hgt,by rw[ah];exact cq ‹found.length≤p› hgt⟩
 ·rw[G4 (by exact bL (Hm hp))] at h1
  exact dT.ret _ (H₁:=[]) (by rfl) (by rfl) (aA _) (by rfl) (q0 h1.symm)
end
end
section
open PySem PySem.W PySem.Calls PyProof.Rows
section
variable {c:Cx}{d n:Nat}{H T:List ag}{Q:AV→List ag→Prop}{X:List ag→Prop}{a:Nat}{b:List UInt8}{P:Prop}{f:ai}{as:List AV}
theorem WV.MB {A:aU}{env:dI}{l:Loc}(q:∀k:Int,k=134217728→Q (.int k) H):WV c d A env (fun vs=>fb .Pow (vs[0]?.getD .none) (vs[1]?.getD .none)) [.int 2,.int 27] l H Q X:=
 WV.AY (i:=2) (n:=27) (by decide) (by decide +kernel) (by exact q _ (by decide +kernel))
theorem WV.U5 {A:aU}{env:dI}{l:Loc}{i:Int}(kT:(fc i:Int)*2≤2^27) (q:Q (.int (i*i)) H):WV c d A env (fun vs=>fb .Pow (vs[0]?.getD .none) (vs[1]?.getD .none)) [.int i,.int 2] l H Q X:=
 WV.AY (i:=i) (n:=2) (by decide) kT (by rw[show i^(2:Int).toNat=i*i by rw[show(2:Int).toNat=2 from rfl,Cd,Cd,Int.pow_zero,Int.one_mul]];exact q)
theorem WO.R1 {A:aU}{env:dI}{l:Loc}{QB:Bool→List ag→Prop}{i x y:Int}(q:QB (decide (i=x∨i=y)) H):WO c d A env .In (.int i) (.tup [.int x,.int y]) l H QB X:=by
 refine WO.inT (ns:=[x,y]) ?_
 rw[show([x,y].any fun n=>n==i)=decide (i=x∨i=y) by
  rw[k8];simp only[rQ,List.any_nil,QP,L6,beq_iff_eq,decide_eq_true_eq];exact or_congr eq_comm eq_comm]
 exact q
theorem hU {P G:Prop}(R:Prop) (w:(R→P)→G) (k:R→P):G:=w k
theorem pF {β:Type}{xs:List β}{hi:Int}(b:Nat) (h:hi=b):lM none (some hi) xs=xs.take b:=by
 subst h
 unfold lM
 simp only[tD,Fw,clipAt_nat]
 simp only[List.drop_zero,Nat.sub_zero]
 by_cases h:b≤xs.length
 ·rw[fv h]
 ·rw[oh (by exact dC (bq h)),dM (aA _),dM (by exact dC (bq h))]
inductive FoJ (args:List UInt8) (room dm check size bW fo:Nat) (name:List UInt8) (i:Nat):Loc→List ag→Prop
 |mk (p q:Option AV) (m1:1≤i→¬uw 3 0 [102,99] dm check size bW (name.drop fo)) (m2:2≤i→¬uw 200 77 [102,104,122] dm check size bW (name.drop fo)) :
  FoJ args room dm check size bW fo name i [some (.eg args),some (.int room),some (.obj 0),some (.int dm),some (.int check),some (.int size),some (.int bW),some (.int fo),some (.eg name),p,q] (FL [])
theorem Dj (F:eX c){args:List UInt8}{room:Nat}{ri:Int}(tN:ri=room) (hr:1≤room∧room≤4) (qw:room+14≤args.length) (hb:args.length≤100000) (q0:me args room=none→Q .none (FL T))
  (q1:∀dm row,me args room=some (dm,row)→Q (.tup [.int (dm:Nat),row.av]) (FL T)):WC c (d+2) (.ref 571) [.eg args,.int ri,.obj 0] (FL T) Q X:=by
 subst tN
 refine WC.take (H₀:=FL []) (X₀:=fun _=>False) T rfl rfl ?_ (fun _ h=>h.elim)
 refine WC.v F rfl rfl fun A env E=>?_
 refine⟨by exact ca hb rfl,?_⟩
 rw[pF room rfl]
 refine jC F ?_
 refine⟨by exact ca hb rfl,?_⟩
 rw[i5 room (room+4) (by exact rfl) (by exact rfl)]
 refine jC F ?_
 refine⟨by exact ca hb rfl,?_⟩
 rw[i5 (room+4) (room+8) (by exact rfl) (by exact rfl)]
 refine jC F ?_
 refine⟨by exact ca hb rfl,?_⟩
 rw[i5 (room+8) (room+12) (by exact rfl) (by exact rfl)]
 refine jC F ?_
 refine⟨⟨by exact aW [_,_] [] [.L (.a aB (.l 14)) aM] (.A (.l dF (.a aB (.l 12))) (.t (.a aB (.l 12)) aM)) (.o nt cK) rfl qw,by exact ca hb rfl⟩,?_⟩
 refine⟨by exact ca hb rfl,?_⟩
 rw[gd (room+14) (by exact rfl),show((room:Int)+12).toNat=room+12 by exact rfl]
 unfold me at q0 q1
 rw[show da args 0 room=args.take room from rfl] at q0 q1
 generalize be (args.take room)=dm at *
 generalize be (da args room (room+4))=check at *
 generalize be (da args (room+4) (room+8))=size at *
 generalize be (da args (room+8) (room+12))=bW at *
 generalize (args.getD (room+12) 0).toNat=fo at *
 have V5:(args.drop (room+14)).length≤100000:=by rw[aJ];exact rm hb
 generalize args.drop (room+14)=name at *
 have q0:jt dm check size bW (name.drop fo)=false→_:=fun h=>q0 (if_neg (by rw[h];exact fN))
 have q1:jt dm check size bW (name.drop fo)=true→_:=fun h=>q1 dm ⟨check,size,bW,fo,name⟩ (if_pos h)
 refine⟨7,aA _,?_⟩
 refine⟨FoJ args room dm check size bW fo name,⟨_,_,fun h=>by exact(aW [] [] [] (.N (.L bP dF)) nt rfl h).elim,fun h=>by exact(aW [] [] [] (.N (.L jL dF)) nt rfl h).elim⟩,fun i l H _ j=>by obtain⟨_,_,_,_⟩:=j;rfl,?_,?_⟩
 ·intro i x l H hx lH
  obtain⟨p,q,m1,m2⟩:=lH
  rcases i with _ | _ | i
  ·replace hx:=ae hx
   subst hx
   refine WE.lc F [81,103,98] E 7 EH (by rfl) (by decide +kernel) (by rfl) ?_
   refine⟨⟨fun _=>trivial,aE rfl⟩,fun cenv i v acc hv=>?_,?_⟩
   ·refine al (rK hv) fun u iu=>?_
    subst iu
    exact⟨_,rfl,rfl,rfl⟩
   refine⟨by exact ca V5 rfl,⟨by rw[gd fo rfl,aJ];exact Il V5 rfl,?_⟩⟩
   refine WO.Qv 1 (by decide) (ay 1 _) (gv.codes (xs:=[102,99]) (ys:=name.drop fo) (by rfl) (by rw[←gd (fo:Nat) rfl];rfl)) ?_
   generalize T5:decide ([102,99]=name.drop fo)=dc
   apply hU (¬uw 3 0 [102,99] dm check size bW (name.drop fo))
   ·intro no
    refine⟨fun h1=>?_,fun h1=>by(conv=>whnf);exact no (by intro mr;obtain⟨z,u'⟩:=mr;exact by exact aW [_] [] [.N (.e pQ aB)] (.N (.E aB pQ)) (.o cN xj) rfl h1 z)⟩
    refine⟨fun h2=>?_,fun h2=>no (by intro nU;refine bQ nU fun u' z u'=>?_;clear nU;exact by exact aW [_] [] [.N (.e (.l 655360) aB)] (.N (.E aB (.l 655360))) (.o cN xj) rfl h2 z)⟩
    cases dc with
    |false=>exact no (by intro pY;refine dn pY fun u' u' z u'=>?_;clear pY;exact of_decide_eq_false T5 z.symm)
    |true=>
    have h3:=of_decide_eq_true T5
    refine⟨fun h4=>?_,fun h4=>no (by intro v8;refine dn v8 fun u' u' u' jX=>?_;clear v8;refine bG jX fun z u'=>?_;exact by exact aW [_] [] [.N (.t dF aB)] (.N (.T dF aB)) cK rfl h4 z)⟩
    refine WV.MB fun k hk=>?_
    refine⟨fun h5=>?_,fun h5=>no (by intro Fb;refine dn Fb fun u' u' u' j5=>?_;clear Fb;refine bQ j5 fun u' z u'=>?_;exact by exact aW [_] [_] [.e bJ (.l 134217728),.N (.t aB bJ)] (.N (.T aB (.l 134217728))) qu rfl hk h5 z)⟩
    refine⟨.of_right (by decide),?_⟩
    refine WV.U5 (by decide +kernel) ?_
    refine WO.R1 ?_
    by_cases h6:(check:Int)*0=0∨(check:Int)*0=0*0
    ·rw[decide_eq_true h6]
     refine .inl (dT.ret _ (H₁:=FL []) (by rfl) (by rfl) (aA _) (by rfl) ⟨⟨rfl,rfl,rfl⟩,q1 ?_⟩)
     exact qC.mpr (.inl ⟨by exact aW [_] [] [.e pQ aB] (.E aB pQ) (.o cK cN) rfl h1,by exact aW [_] [] [.e (.l 655360) aB] (.E aB (.l 655360)) (.o cK cN) rfl h2,h3.symm,by exact rl h4 rfl,by exact aW [_] [_] [.e bJ (.l 134217728),.t aB bJ] (.T aB (.l 134217728)) ui rfl hk h5,.inl rfl⟩)
    ·exact absurd (.inl (Int.mul_zero _)) h6
   ·intro no
    refine dT.nextM [true,true,true,true,true,true,true,true,true] _ (H₁:=FL []) (by rfl) (by rfl) (aA _) (by rfl) ?_
    ·exact⟨_,_,fun _=>no,fun h=>by exact(aW [] [] [] (.N (.L jL bP)) nt rfl h).elim⟩
  ·replace hx:=ae hx
   subst hx
   refine WE.lc F [81,103,98] E 7 EH (by rfl) (by decide +kernel) (by rfl) ?_
   refine⟨⟨fun _=>trivial,aE rfl⟩,fun cenv i v acc hv=>?_,?_⟩
   ·refine al (rK hv) fun u jX=>?_
    subst jX
    exact⟨_,rfl,rfl,rfl⟩
   refine⟨by exact ca V5 rfl,⟨by rw[gd fo rfl,aJ];exact Il V5 rfl,?_⟩⟩
   refine WO.Qv 1 (by decide) (ay 1 _) (gv.codes (xs:=[102,104,122]) (ys:=name.drop fo) (by rfl) (by rw[←gd (fo:Nat) rfl];rfl)) ?_
   generalize T5:decide ([102,104,122]=name.drop fo)=dc
   apply hU (¬uw 200 77 [102,104,122] dm check size bW (name.drop fo))
   ·intro no
    refine⟨fun h1=>?_,fun h1=>by(conv=>whnf);exact no (by intro E6;obtain⟨z,u'⟩:=E6;exact by exact aW [_] [] [.N (.e (.l 200) aB)] (.N (.E aB (.l 200))) (.o cN xj) rfl h1 z)⟩
    refine⟨fun h2=>?_,fun h2=>no (by intro GS;refine bQ GS fun u' z u'=>?_;clear GS;exact by exact aW [_] [] [.N (.e (.l 655360) aB)] (.N (.E aB (.l 655360))) (.o cN xj) rfl h2 z)⟩
    cases dc with
    |false=>exact no (by intro Mp;refine dn Mp fun u' u' z u'=>?_;clear Mp;exact of_decide_eq_false T5 z.symm)
    |true=>
    have h3:=of_decide_eq_true T5
    refine⟨fun h4=>?_,fun h4=>no (by intro HI;refine dn HI fun u' u' u' j4=>?_;clear HI;refine bG j4 fun z u'=>?_;exact by exact aW [_] [] [.N (.t dF aB)] (.N (.T dF aB)) cK rfl h4 z)⟩
    refine WV.MB fun k hk=>?_
    refine⟨fun h5=>?_,fun h5=>no (by intro UM;refine dn UM fun u' u' u' nF=>?_;clear UM;refine bQ nF fun u' z u'=>?_;exact by exact aW [_] [_] [.e bJ (.l 134217728),.N (.t aB bJ)] (.N (.T aB (.l 134217728))) qu rfl hk h5 z)⟩
    refine⟨.of_right (by decide),?_⟩
    refine WV.U5 (by decide +kernel) ?_
    refine WO.R1 ?_
    by_cases h6:(check:Int)*77=0∨(check:Int)*77=77*77
    ·rw[decide_eq_true h6]
     refine .inl (dT.ret _ (H₁:=FL []) (by rfl) (by rfl) (aA _) (by rfl) ⟨⟨rfl,rfl,rfl⟩,q1 ?_⟩)
     exact qC.mpr (.inr ⟨by exact aW [_] [] [.e (.l 200) aB] (.E aB (.l 200)) (.o cK cN) rfl h1,by exact aW [_] [] [.e (.l 655360) aB] (.E aB (.l 655360)) (.o cK cN) rfl h2,h3.symm,by exact rl h4 rfl,by exact aW [_] [_] [.e bJ (.l 134217728),.t aB bJ] (.T aB (.l 134217728)) ui rfl hk h5,h6.imp (fun h=>fY (show Int.ofNat (check*77)=Int.ofNat 0 from h)) (fun h=>fY (show Int.ofNat (check*77)=Int.ofNat (77*77) from h))⟩)
    ·rw[decide_eq_false h6]
     exact no (by intro TL;refine dn TL fun u' u' u' mI=>?_;clear TL;refine bQ mI fun u' u' z=>?_;exact h6 (z.imp (fun h=>congrArg Int.ofNat h) fun h=>congrArg Int.ofNat h))
   ·intro no
    refine dT.nextM [true,true,true,true,true,true,true,true,true] _ (H₁:=FL []) (by rfl) (by rfl) (aA _) (by rfl) ?_
    ·exact⟨_,_,fun _=>m1 (by decide),fun _=>no⟩
  ·simp at hx
 ·intro l H Zw
  obtain⟨p,q,m1,m2⟩:=Zw
  refine .inl ⟨⟨rfl,rfl,rfl⟩,q0 ?_⟩
  rw[I8]
  intro h
  rcases qC.mp h with h | h
  ·exact m1 (by decide) h
  ·exact m2 (by decide) h
end
end
section
open PySem PySem.W PySem.Calls PyProof.Rows
section
variable {c:Cx}{d n:Nat}{H T:List ag}{Q:AV→List ag→Prop}{X:List ag→Prop}{a op:Nat}{b args:List UInt8}{P:Prop}{f:ai}{as:List AV}{sp:List Int}{A:aU}{env:dI}{l:Loc}
theorem gn {j:Nat}(hj:j<sp.length):(sp.map AV.int)[j]?=some (.int (sp.getD j 0)):=by
 rw[aK,bt,aw hj];rfl
theorem oJ {j:Nat}{v:Int}:(sp.map AV.int).set j (.int v)=(sp.set j v).map .int:=by rw[List.map_set]
noncomputable abbrev aZ (sp:List Int):ag:=.list (sp.map .int)
theorem PB (F:eX c) (ho:143≤op∧op<171) (hb:args.length≤100000) (hl:sp.length=6) (q:Q .none [aZ (lb op args sp)]):WC c (d+3) (.ref 578) [.int op,.eg args,.obj 0] [aZ sp] Q X:=by
 refine WC.v F rfl rfl fun A env E=>?_
 unfold lb It QX Kk JA at q
 refine⟨⟨by decide,by decide⟩,⟨by decide,?_⟩⟩
 rw[show((op:Int)-143) / 14=(((op-143) / 14:Nat):Int) by rw[rF ho.1];rfl,show((op:Int)-143)%14=(((op-143)%14:Nat):Int) by rw[rF ho.1];rfl]
 have ha:(op-143) / 14<2:=by exact aW [_,_,_,_] [] [.T aB (.l 171),.fs aM aB (.l 143),.fd 14 cg fz aM] (.T cg jL) (.o (.k [14,0,1,0,0,1,0,1]) (.k [14,0,1,0,0,1])) rfl ho.2 (eV _ _) (f_d 14 _ rfl)
 generalize (op-143) / 14=Kj at *
 generalize (op-143)%14=TR at *
 refine⟨.of_left (by decide),?_⟩
 generalize hr:2+2*Kj+(if TR>8 then 1 else 0)=reg at q
 have PD:reg<6:=by
  rw[←hr]
  split
  ·exact aW [_] [] [.T aB jL] (.T (.a (.a jL (.m 2 aB)) bP) (.l 6)) (.k [1,2]) rfl ha
  ·exact aW [_] [] [.T aB jL] (.T (.a (.a jL (.m 2 aB)) dF) (.l 6)) (.k [1,2]) rfl ha
 apply uH (fun e:Int=>e=(reg:Nat))
 ·intro key
  refine⟨fun h=>?_,fun h=>?_⟩
  ·conv=>whnf
   generalize hg:2+2*(Kj:Int)+1=e
   exact key e (by rw[←hr,←hg,if_pos (by exact rl h rfl)];exact rfl)
  ·exact key (2+2*(Kj:Int)+0) (by rw[←hr,if_neg (by exact tc h rfl)];exact rfl)
 rintro e rfl
 clear hr
 refine⟨by exact ca hb rfl,?_⟩
 generalize hs:(if args.length=0 then sp.getD reg 0 else jH args)=size at q
 apply uH (fun e:Int=>e=size)
 ·intro key
  refine⟨fun h=>?_,fun h=>?_⟩
  ·refine⟨⟨by exact ll,by exact aW [_] [] [.T aB (.l 6)] (.t aB D1) cK rfl PD⟩,_,gn (j:=reg) (by exact EK hl (i0 PD)),?_⟩
   conv=>whnf
   generalize hg:sp.getD reg 0=e
   exact key e (by rw[←hs,if_pos (by exact mO h),hg])
  ·refine ju F hb (by exact aW [_] [] [.N (.e aB dF)] (.T dF aB) (.o xK cK) rfl h) ?_
   exact key _ (by rw[←hs,if_neg (by exact hG h)])
 rintro e rfl
 clear hs
 generalize hs:(if TR>3 then sp.set reg e else sp)=sp2 at q
 have yN:sp2.length=6:=by rw[←hs];split<;>simp[hl]
 apply hU True
 ·intro key
  refine⟨fun h=>?_,fun h=>?_⟩
  ·refine⟨⟨⟨by exact ll,by rw[aa];exact aW [_,_] [] [.E aB (.l 6),.T aM (.l 6)] (.t aM aB) qu rfl hl PD⟩,by rw[aa];exact og hl rfl⟩,?_⟩
   rw[gm,oJ,show sp.set reg e=sp2 by rw[←hs,if_pos (by exact rl h rfl)]]
   conv=>whnf
   exact key trivial
  ·rw[if_neg (by exact tc h rfl)] at hs
   subst hs
   exact key trivial
 intro _
 refine⟨⟨by exact ll,by exact aW [_] [] [.T aB jL] (.t aB D1) cK rfl ha⟩,_,gn (j:=Kj) (by exact aV ha (DL yN rfl)),?_⟩
 refine⟨⟨⟨by exact ll,by rw[aa];exact aW [_,_] [] [.T aB jL,.E aM (.l 6)] (.t aB aM) (.k [1,0,1,1]) rfl ha yN⟩,by rw[aa];exact og yN rfl⟩,?_⟩
 rw[gm,oJ]
 exact .inl q
end
end
section
open PySem PySem.W PySem.Calls PyProof.Rows
section
variable {c:Cx}{d n:Nat}{H T:List ag}{Q:AV→List ag→Prop}{X:List ag→Prop}{a op:Nat}{b args:List UInt8}{P:Prop}{f:ai}{as:List AV}{sp:List Int}{A:aU}{env:dI}{l:Loc}
theorem ti {ws:List (Int×Int)}{k:Int}:(ws.map fun p=>(p.1,AV.int p.2)).lookup k=(ws.lookup k).map .int:=by
 induction ws with
 |nil=>rfl
 |cons p ws ih=>
  obtain⟨a,b⟩:=p
  simp only[bY,dK] at ih ⊢
  cases k==a<;>simp[ih]
theorem FY (ch:Int):(dG ch [((3:Int),Lp),(200,xG)]=none∧rW ch=[])∨dG ch [((3:Int),Lp),(200,xG)]=some (.iX ((rW ch).map fun p=>(p.1,AV.int p.2))):=by
 by_cases h:ch=3
 ·subst h;exact .inr rfl
 ·by_cases h':ch=200
  ·subst h';exact .inr rfl
  ·refine .inl ⟨?_,by simp[rW,h,h']⟩
   simp only[dG,beq_eq_false_iff_ne.mpr h,beq_eq_false_iff_ne.mpr h']
noncomputable abbrev qK (rows:List n5):ag:=.list (rows.map n5.av)
theorem LW (F:eX c){ch:Int}{rows:List n5}(hco:op<138) (hb:args.length≤100000) (hA:op=132∨op=137→args.length=8) (hl:sp.length=6) (hz:rows.length<100000)
  (q0:my op args sp ch rows=none→Q (.bool false) [aZ sp,qK rows]) (q1:∀Ju qi,my op args sp ch rows=some (Ju,qi)→Q (.bool true) [aZ Ju,qK qi]) :
  WC c (d+3) (.ref 585) [.int op,.eg args,.obj 0,.int ch,.obj 1] [aZ sp,qK rows] Q X:=by
 refine WC.v F rfl rfl fun A env E=>?_
 apply hU (op=132∨op=137)
 ·intro key
  refine⟨fun h=>by(conv=>whnf);exact key (by exact aW [_] [] [.e aB (.l 132)] (.O (.E aB (.l 132)) (.E aB (.l 137))) (.o (.o (.k [0,1,0,1]) cK) (.o xj cN)) rfl h),fun h=>⟨fun h2=>key (by exact aW [_] [] [.e aB (.l 137)] (.O (.E aB (.l 132)) (.E aB (.l 137))) (.o (.o (.k [0,1,0,1]) cK) (.o jf cN)) rfl h2),fun h2=>?_⟩⟩
  have hd:my op args sp ch rows=R6 op sp ch rows (if op<128 then op else be args):=if_neg (show ¬(op=132∨op=137) from aW [_] [] [.N (.e aB (.l 132)),.N (.e aB (.l 137))] (.N (.O (.E aB (.l 132)) (.E aB (.l 137)))) (.o (.o (.o (.k [0,1,0,1]) (.k [0,1,0,1])) (.o cN (.k [0,1,0,1]))) (.o (.o jf xj) (.o cN cN))) rfl h h2)
  have q0:R6 op sp ch rows (if op<128 then op else be args)=none→_:=fun e=>q0 (hd.trans e)
  have q1:∀r,R6 op sp ch rows (if op<128 then op else be args)=some r→Q (.bool true) [aZ r.1,qK r.2]:=fun r e=>q1 _ _ (hd.trans e)
  clear hd
  generalize Y4:(if op<128 then op else be args)=code at q0 q1
  apply uH (fun e:Int=>e=(code:Nat))
  ·intro ph
   refine⟨fun h3=>?_,fun h3=>?_⟩
   rotate_left
   ·refine jC F ?_
    conv=>whnf
    generalize hg:((be args:Nat):Int)=e
    exact ph e (by rw[←Y4,←hg,if_neg (by exact dX h3 rfl)])
   ·exact ph _ (by rw[←Y4,if_pos (by exact gW h3)])
  ·rintro e rfl
   rcases FY ch with⟨yN,hw⟩ | yN
   ·conv=>whnf
    rw[yN]
    exact .inl (q0 (mN (by rw[hw];rfl) rfl))
   ·conv=>whnf
    rw[yN]
    refine⟨_,yN,?_⟩
    conv=>whnf
    rw[ti,dh]
    cases hw:(rW ch).lookup (code:Int) with
    |none=>exact .inl (q0 (mN hw rfl))
    |some w=>
     have q1:Q (.bool true) [aZ (xk op sp w),qK (rows++[.char (sp.getD 0 0) (sp.getD 1 0) ch code])]:=q1 _ (mS hw rfl)
     clear q0
     refine⟨⟨by decide,by decide⟩,_,gn (j:=0) (by exact qA hl rfl),?_⟩
     refine⟨⟨by decide,by decide⟩,_,gn (j:=1) (by exact qA hl rfl),?_⟩
     refine⟨by rw[aa];exact rC hz rfl,?_⟩
     rw[jU (.char (sp.getD 0 0) (sp.getD 1 0) ch code) (by rfl)]
     refine⟨_,yN,?_⟩
     refine⟨.int w,by rw[ti,hw];rfl,?_⟩
     refine⟨fun h5=>?_,fun h5=>?_⟩
     ·rw[xk,if_pos (show op<133 by exact gW h5)] at q1
      refine⟨⟨by decide,by decide⟩,_,gn (j:=0) (by exact qA hl rfl),?_⟩
      refine⟨⟨⟨by decide,by rw[aa];exact aW [_] [] [.E aB (.l 6)] (.t dF aB) cN rfl hl⟩,by rw[aa];exact og hl rfl⟩,?_⟩
      rw[oJ]
      exact .inl q1
     ·rw[xk,if_neg (show ¬op<133 by exact dX h5 rfl)] at q1
      exact .inl q1
 ·intro hA'
  have wU:=hA hA'
  have q1:Q (.bool true) [aZ (xk op sp (jH (args.drop 4))),qK (if min (jH (da args 0 4)) (jH (args.drop 4))>0 then rows++[.rule (sp.getD 0 0) (sp.getD 1 0) (jH (da args 0 4)) (jH (args.drop 4))] else rows)]:=q1 _ _ (if_pos hA')
  clear q0
  refine⟨by exact og wU rfl,?_⟩
  rw[show lM none (some (4:Int)) args=args.take 4 from pF 4 rfl]
  refine ju F (by rw[cj];exact aW [_,_] [] [.fm aB iI aM] (.L aB rZ) (.o cN ui) rfl (AH _ _)) (by rw[cj];exact aW [_,_] [] [.E aB (.l 8),.fm aM iI aB] (.T dF aM) (.o jf (.k [1,0,0,1,0,1])) rfl wU (AH _ _)) ?_
  refine⟨by exact og wU rfl,?_⟩
  rw[show lM (some (4:Int)) none args=args.drop 4 from gd 4 rfl]
  refine ju F (by rw[aJ];exact rm hb) (by rw[aJ];exact nh (qA wU rfl)) ?_
  rw[show da args 0 4=args.take 4 from rfl] at q1
  generalize jH (args.drop 4)=w at *
  generalize jH (args.take 4)=h at *
  refine⟨fun h4=>?_,fun h4=>?_⟩
  ·rw[if_pos h4] at q1
   refine⟨⟨by decide,by decide⟩,_,gn (j:=0) (by exact qA hl rfl),?_⟩
   refine⟨⟨by decide,by decide⟩,_,gn (j:=1) (by exact qA hl rfl),?_⟩
   refine⟨by rw[aa];exact rC hz rfl,?_⟩
   rw[jU (.rule (sp.getD 0 0) (sp.getD 1 0) h w) (by rfl)]
   refine⟨fun h5=>?_,fun h5=>?_⟩
   ·rw[xk,if_pos (by exact gW h5)] at q1
    refine⟨⟨by decide,by decide⟩,_,gn (j:=0) (by exact qA hl rfl),?_⟩
    refine⟨⟨⟨by decide,by rw[aa];exact aW [_] [] [.E aB (.l 6)] (.t dF aB) cN rfl hl⟩,by rw[aa];exact og hl rfl⟩,?_⟩
    rw[oJ]
    exact .inl q1
   ·rw[xk,if_neg (by exact dX h5 rfl)] at q1
    exact .inl q1
  ·rw[if_neg h4] at q1
   refine⟨fun h5=>?_,fun h5=>?_⟩
   ·rw[xk,if_pos (by exact gW h5)] at q1
    refine⟨⟨by decide,by decide⟩,_,gn (j:=0) (by exact qA hl rfl),?_⟩
    refine⟨⟨⟨by decide,by rw[aa];exact aW [_] [] [.E aB (.l 6)] (.t dF aB) cN rfl hl⟩,by rw[aa];exact og hl rfl⟩,?_⟩
    rw[oJ]
    exact .inl q1
   ·rw[xk,if_neg (by exact dX h5 rfl)] at q1
    exact .inl q1
end
end
section
open PySem PySem.W PySem.Calls PyProof.Rows
section
variable {c:Cx}{d n m:Nat}{H T:List ag}{Q:AV→List ag→Prop}{X:List ag→Prop}{a op:Nat}{b args:List UInt8}{P:Prop}{f:ai}{as:List AV}{sp:List Int}{A:aU}{env:dI}{l:Loc}{kn:Known}{cm:ag}
theorem J8 (F:eX c) (hn:H[n]?=some (aZ sp)) (ho:143≤op∧op<171) (hb:args.length≤100000) (hl:sp.length=6) (q:Q .none (H.set n (aZ (lb op args sp)))):WC c (d+3) (.ref 578) [.int op,.eg args,.obj n] H Q X:=by
 refine WC.frame [n] (H₀:=[aZ sp]) ⟨rfl,by simp,fun{i k x} e1 e2=>?_⟩ (as₀:=[.int op,.eg args,.obj 0]) rfl rfl (X₀:=fun _=>False) (PB F ho hb hl ?_) (fun _ _ h=>h) fun _ h=>h.elim
 ·cases i with
  |zero=>replace e1:=ae e1;subst e1;replace e2:=ae e2;subst e2;exact⟨fB,by rw[hn];exact congrArg (fun v=>some (ag.list v)) (fh fun _=>rfl).symm⟩
  |succ i=>exact nS e1
 ·show Q .none (H.set n (.list (j6 _ _))++[])
  rw[fh (fun _=>rfl),cM]
  exact q
theorem FW (F:eX c){ch:Int}{rows:List n5}(hn:H[n]?=some (aZ sp)) (hm:H[m]?=some (qK rows)) (v7:n≠m) (hco:op<138) (hb:args.length≤100000) (hA:op=132∨op=137→args.length=8) (hl:sp.length=6) (hz:rows.length<100000)
  (q:ei (my op args sp ch rows) (Q (.bool false) H) fun v=>Q (.bool true) ((H.set n (aZ v.1)).set m (qK v.2))) :
  WC c (d+3) (.ref 585) [.int op,.eg args,.obj n,.int ch,.obj m] H Q X:=by
 have e:∀v w,putAt (fr [n,m] H.length) [n,m] H [aZ v,qK w]++[]=(H.set n (aZ v)).set m (qK w):=fun v w=>by
  show(H.set n (.list (j6 _ _))).set m (.list (j6 _ _))++[]=_
  rw[fh (fun _=>rfl),fh uc,cM]
 have hs:∀{k:Nat}{x:ag}{G:List ag},G[k]?=some x→G.set k x=G:=fun{k x G} h=>by
  obtain⟨hk,e⟩:=ao.mp h
  exact e▸Cs hk
 refine WC.frame [n,m] (H₀:=[aZ sp,qK rows]) ⟨rfl,by simp[v7],fun{i k x} e1 e2=>?_⟩ (as₀:=[.int op,.eg args,.obj 0,.int ch,.obj 1]) rfl rfl (X₀:=fun _=>False)
  (LW F hco hb hA hl hz (fun h=>?_) fun Ju qi h=>?_) (fun _ _ h=>h) fun _ h=>h.elim
 ·rcases i with _ | _ | i
  ·replace e1:=ae e1;subst e1;replace e2:=ae e2;subst e2;exact⟨fB,by rw[hn];exact congrArg (fun v=>some (ag.list v)) (fh fun _=>rfl).symm⟩
  ·replace e1:=ae e1;subst e1;replace e2:=ae e2;subst e2;exact⟨kc xC,by rw[hm];exact congrArg (fun v=>some (ag.list v)) (fh uc).symm⟩
  ·exact nS e1
 ·rw[h] at q
  show Q (.bool false) (putAt (fr [n,m] H.length) [n,m] H [aZ sp,qK rows]++[])
  rw[e,hs hn,hs hm]
  exact q
 ·rw[h] at q
  show Q (.bool true) (putAt (fr [n,m] H.length) [n,m] H [aZ Ju,qK qi]++[])
  rw[e]
  exact q
theorem C5 (F:eX c) (ho:243≤op∧op<247) (qw:op-242+14≤args.length) (hb:args.length≤100000) (hz:kn.length≤100000)
  (q:ei (iJ op args kn) (Q (.bool false) (FL (cm::.dict (kn.map iW)::T))) fun kn=>Q (.bool true) (FL (cm::.dict (kn.map iW)::T))):WC c (d+3) (.ref 599) [.int op,.eg args,.obj 8,.obj 0] (FL (cm::.dict (kn.map iW)::T)) Q X:=by
 refine WC.v F rfl rfl fun A env E=>?_
 refine Dj F (room:=op-242) (by exact rF (B2 ho.1 rfl)) (by exact aW [_,_] [] [.L (.l 243) aB,.T aB (.l 247),.fs aM aB (.l 242)] (.A (.L bP aM) (.L aM iI)) (.o (.o (.k [1,0,0,1,0,1]) jN) (.o (.k [0,1,0,0,0,1]) cN)) rfl ho.1 ho.2 (eV _ _)) qw hb (fun h=>?_) (fun dm row h=>?_)
 ·exact .inl (ei.bi q |>.1 h)
 ·have q:ei (Of kn (dm,row)) _ _:=ei.got q h
  conv=>whnf
  rw[fA,dh]
  cases hk:(kn.lookup (dm:Int)).isSome with
  |true=>exact .inl (q.pos hk)
  |false=>
   refine⟨by rw[aa];exact ca hz rfl,?_⟩
   rw[ug (by simpa using hk)]
   exact .inl (q.neg (by simp[hk]))
end
end
section
open PySem PySem.W PySem.Calls PyProof.Rows
theorem gv.nil {H:List ag}{n m:Nat}{vs:List AV}(h1:H[n]?=some (.list vs)) (h2:H[m]?=some (.list [])):gv H 1 (.obj n) (.obj m) vs.isEmpty:=by
 cases vs with
 |nil=>exact .lst (e:=fun _=>true) h1 h2 rfl fun _ _ _ h=>nS h
 |cons v vs=>exact .len h1 h2 (om _)
theorem Pd {op:Nat}{args:List UInt8}{sp:List Int}{ch:Int}{rows:List n5}:hW (my op args sp ch rows) fun r=>r.1.length=sp.length∧r.2.length≤rows.length+1:=by
 have h:∀{w:Int},(xk op sp w).length=sp.length:=fun{w}=>by unfold xk;split;exact dH ..;rfl
 refine .ite (fun _=>.some ⟨h,?_⟩) fun _=>.map fun _ _=>⟨h,bF ah⟩
 show(if _ then _ else _:List n5).length≤_
 split
 ·exact bF ah
 ·exact bX _
theorem A2 {op:Nat}{args:List UInt8}{sp:List Int}{ch:Int}{rows qi:List n5}{Ju:List Int}(h:my op args sp ch rows=some (Ju,qi)):Ju.length=sp.length∧qi.length≤rows.length+1:=Pd _ h
theorem DO {op:Nat}{args:List UInt8}{sp:List Int}:(lb op args sp).length=sp.length:=by
 refine(dH ..).trans ?_
 unfold QX
 split
 ·exact dH ..
 ·rfl
theorem BK {op:Nat}{args:List UInt8}{kn oY:Known}(h:iJ op args kn=some oY):oY.length=kn.length+1:=(Bs _ h).2
noncomputable def ko (n:Nat):List AV:=(bh n).map fun i=>.obj (14+i)
theorem uf (n:Nat):ko (n+1)=ko n++[.obj (14+n)]:=by unfold ko;rw[List.range_succ,aF];rfl
theorem Bf (n:Nat):(ko n).length=n:=by unfold ko;rw[aa,a8]
noncomputable abbrev RH (cs:List fK) (kn:Known) (pg:ag) (s:ka) (T:List ag):List ag:=
 FL (.list (cs.map z0)::.dict (kn.map iW)::pg::.list [.int 0]::aZ s.sp::.list (ko s.kept.length)::qK s.rows::(s.kept.map aZ++T))
noncomputable def jv:List eF:=match iK (df 72) with
 |[_,.While _ b _ _,_]=>b.drop 4
 |_=>[]
section
variable {c:Cx}{d n m:Nat}{H T:List ag}{Q:AV→List ag→Prop}{SQ:AF→Loc→List ag→Prop}{X:List ag→Prop}{a op:Nat}{b args:List UInt8}{P:Prop}{f:ai}{as:List AV}{sp:List Int}{A:aU}{env:dI}{l:Loc}{kn:Known}{cm pg:ag}{cs:List fK}
theorem wV {sx:Nat}{x0 x1 x2 x3 x5 x6 x7 x8 x9 O8 ND:Option AV}(hl:l=[x0,x1,x2,x3,some (.obj sx),x5,x6,x7,x8,x9,O8,ND]) (hs:H[sx]?=some (aZ sp)) (h6:sp.length=6) (q0:Kf sp=false→SQ (.ret .none) l H) (q1:Kf sp=true→SQ .next l H) :
  vS ⟨c,d,A,env,X⟩ (gx (df 72) [92,83,103,94,82,77,85,91]) (n+20) m jv l H SQ:=by
 subst hl
 refine Gf (k7 hs) (by decide) (gn (j:=0) (by exact qA h6 rfl)) ?_
 refine Gf (k7 hs) (by decide) (gn (j:=1) (by exact qA h6 rfl)) ?_
 have a0:=@sC (sp.getD 0 0)
 have a1:=@sC (sp.getD 1 0)
 refine⟨fun h=>?_,fun h=>?_⟩
 ·refine q0 ?_
  unfold Kf;rw[decide_eq_false_iff_not];intro q
  exact jE.mpr (Int.max_le.mpr ⟨jE.mp (a0.mpr q.1),jE.mp (a1.mpr q.2)⟩) h
 ·refine q1 ?_
  unfold Kf;rw[decide_eq_true_eq]
  exact⟨a0.mp (by exact aW [] [_,_,_] [.N (.t (.l 2147483647) bJ),.fI bJ dO hO] (.N (.t (.l 2147483647) dO)) (.o n8 (.k [1,1,0,1,1])) rfl h (f_I _ _)),a1.mp (by exact aW [] [_,_,_] [.N (.t (.l 2147483647) bJ),.fI bJ dO hO] (.N (.t (.l 2147483647) hO)) (.o (.k [1,1,0,1,1]) n8) rfl h (f_I _ _))⟩
theorem G9 {α:Type}{g:α→AV}{f:Nat→Nat}:∀{l:List α},(∀x∈l,mD f (g x)=g x)→j6 f (l.map g)=l.map g:=by
 intro us
 induction us with
 |nil=>
  intro _
  exact rfl
 |cons x l ih=>
  intro h
  rw[bY];unfold j6;rw[h x aI,ih fun y hy=>h y (aG _ hy)]
theorem FU {α:Type}{k:Nat}{f:α→AV}:∀{l:List α},(∀x∈l,rM k (f x)=true)→ku k (l.map f)=true:=by
 intro us
 induction us with
 |nil=>
  intro _
  exact rfl
 |cons x l ih=>
  intro h
  rw[bY];unfold ku;rw[h x aI,ih fun y hy=>h y (aG _ hy)];rfl
noncomputable def si (n:Nat):List Nat:=0::1::2::3::4::5::6::7::8::9::10::(14+n)::12::13::(bh n).map fun i=>14+i
theorem Dh {n i:Nat}(h:i<n):(si n)[i+14]?=some (14+i):=by
 show((bh n).map fun i=>14+i)[i]?=_
 rw[aK,cJ h];rfl
theorem zi {n:Nat}:(si n).length=n+14:=by
 show((bh n).map fun i=>14+i).length+14=_
 rw[aa,a8]
theorem zk.mem {k:Nat}{f:Nat→Nat}{H:List ag}{τ:List Nat}:∀{H₁:List ag},(∀{i n:Nat}{x:ag},τ[i]?=some n→H₁[i]?=some x→yM k x=true∧H[n]?=some (ip f x))→zk k f H τ H₁:=by
 induction τ with
 |nil=>exact fun _=>trivial
 |cons n τ ih=>
  intro H₁ h
  cases H₁ with
  |nil=>exact trivial
  |cons x r=>exact⟨h (i:=0) rfl rfl,ih fun{i n x} e1 e2=>h (i:=i+1) e1 e2⟩
theorem KU {y:List Int}{ks:List (List Int)}{rows:List n5}{deep chosen:Int}{old:ag}(PF:∀k,yM k pg=true) (Xa:∀f,ip f pg=pg):tE (si ks.length) (RH cs kn pg ⟨y,ks,rows,deep,chosen⟩ [])
  (FL (.list (cs.map z0)::.dict (kn.map iW)::pg::.list [.int 0]::old::.list (ko ks.length)::qK rows::(ks.map aZ++aZ y::T))):=by
 have hk:∀i,i<ks.length→(si ks.length).getD (14+i) 0=14+i:=fun i h=>by
  rw[bt,show 14+i=i+14 by exact fJ _ _,Dh h]
  show 14+i=_;exact fJ _ _
 have ho:yM (si ks.length).length (.list (ko ks.length))=true:=FU fun i h=>by
  have:=dg.mp h
  unfold rM
  rw[zi]
  exact eR (by exact aW [_,_] [] [.T aB aM] (.L (.a (.a (.l 14) aB) bP) (.a aM (.l 14))) cK rfl this)
 have hr:ip ((si ks.length).getD · 0) (.list (ko ks.length))=.list (ko ks.length):=congrArg ag.list (G9 fun i h=>by
  unfold mD
  rw[hk i (dg.mp h)])
 have hy:(ks.map aZ++aZ y::T)[ks.length]?=some (aZ y):=by rw[aY (by rw[aa];exact lQ 0 rfl),aa,gZ];rfl
 refine tE.of ?_ ?_ (show zk _ _ _ (0::1::2::3::4::5::6::7::8::9::10::(14+ks.length)::12::13::(bh ks.length).map fun i=>14+i) _ from
  ⟨⟨rfl,rfl⟩,⟨rfl,rfl⟩,⟨rfl,rfl⟩,⟨rfl,rfl⟩,⟨rfl,rfl⟩,⟨rfl,rfl⟩,⟨rfl,rfl⟩,⟨kc fun _=>rfl,congrArg (fun v=>some (ag.list v)) (fh fun _=>rfl).symm⟩,⟨rX,congrArg (fun v=>some (ag.dict v)) wZ.symm⟩,⟨PF _,congrArg some (Xa _).symm⟩,⟨rfl,rfl⟩,
   ⟨fB,?_⟩,⟨ho,congrArg some hr.symm⟩,⟨kc xC,congrArg (fun v=>some (ag.list v)) (fh uc).symm⟩,zk.mem fun{i n x} e1 e2=>?_⟩)
 ·rw[zi]
  show _=(ks.map aZ++[]).length+14
  rw[cM,aa]
 ·refine(fun h=>(List.pairwise_map.mp h).imp fun h e=>h (congrArg (fun k=>if k=14+ks.length then 11 else k) e):((si ks.length).map fun k=>if k=14+ks.length then 11 else k).Nodup→_) ?_
  have e:(si ks.length).map (fun k=>if k=14+ks.length then 11 else k)=bh (14+ks.length):=by
   unfold si
   rw[List.range_add]
   simp only[bY,dy,if_true]
   rw[show(bh ks.length).map ((fun k=>if k=14+ks.length then 11 else k) ∘ fun i=>14+i)=(bh ks.length).map (14+·) from i7 fun i h=>if_neg (show ¬14+i=_ by have:=dg.mp h;exact aW [_,_] [] [.T aB aM] (.N (.E (.a (.l 14) aB) (.a (.l 14) aM))) xj rfl this)]
   have hc:∀k,k<14→(if k=14+ks.length then 11 else k)=k:=fun k h=>if_neg (by exact aW [_,_] [] [.T aB (.l 14)] (.N (.E aB (.a (.l 14) aM))) xj rfl h)
   rw[hc 0 (by decide),hc 1 (by decide),hc 2 (by decide),hc 3 (by decide),hc 4 (by decide),hc 5 (by decide),hc 6 (by decide),hc 7 (by decide),hc 8 (by decide),hc 9 (by decide),hc 10 (by decide),hc 12 (by decide),hc 13 (by decide)]
   rfl
  rw[e]
  exact uq
 ·rw[show ip ((si ks.length).getD · 0) (aZ y)=aZ y from congrArg ag.list (fh fun _=>rfl),fJ]
  exact hy
 ·have e2:(ks.map aZ++[])[i]?=some x:=e2
  rw[cM,aK] at e2
  refine aq (bB.mp e2) fun sp h gC=>?_
  subst gC
  have hi:=(ao.mp h).1
  have e1:(si ks.length)[i+14]?=some n:=e1
  rw[Dh hi] at e1
  replace e1:=ae e1
  subst e1
  refine⟨fB,?_⟩
  rw[show ip ((si ks.length).getD · 0) (aZ sp)=aZ sp from congrArg ag.list (fh fun _=>rfl),fJ]
  show(ks.map aZ++aZ y::T)[i]?=_
  rw[aC (by rw[aa];exact hi),aK,h];rfl
theorem kN {S:Loc→List ag→QT→Prop}{Q:QT}{l:Loc}{H:List ag}(h:S l H Q):IH Q S .next l H:=h
theorem Im {z:VZ}{g:Sx}{SQ:QT}{ss:List eF}{G:Prop}(R:Loc→List ag→Prop) (w:(∀l H,R l H→vS z g n m ss l H SQ)→G) (k:∀l H,R l H→vS z g n m ss l H SQ):G:=w k
inductive RwJ (cs:List fK) (pg:ag) (tM:Option (ka×Known×List fK)) (i:Nat):Loc→List ag→Prop
 |mk (iM:Nat) (s:ka) (md:Known) (x1 x2 x3:Option AV) (yK:lr (cs.drop iM) s md=tM) (OB:iM≤cs.length) (hi:i=cs.length-iM) (Dd:s.kept.length≤iM) (CT:s.rows.length≤iM) (E8:md.length≤iM) (h6:s.sp.length=6) (EL:∀sp∈s.kept,sp.length=6) :
  RwJ cs pg tM i [some (.obj 7),some (.int iM),some (.obj 8),some (.obj 0),some (.obj 11),some (.obj 12),some (.obj 13),some (.int s.deep),some (.int s.chosen),x1,x2,x3] (RH cs md pg s [])
inductive RwT (cs:List fK) (pg:ag) (iM op place:Nat) (args:List UInt8) (mid:Option (ka×Known)) (l:Loc) (H:List ag):Prop
 |mk (s2:ka) (Jv:Known) (el:l=[some (.obj 7),some (.int ((iM:Int)+1)),some (.obj 8),some (.obj 0),some (.obj 11),some (.obj 12),some (.obj 13),some (.int s2.deep),some (.int s2.chosen),some (.int op),some (.int place),some (.eg args)]) (eh:H=RH cs Jv pg s2 []) (e:mid=some (s2,Jv))
  (b1:s2.kept.length≤iM+1) (b2:s2.rows.length≤iM+1) (b3:Jv.length≤iM+1) (b4:s2.sp.length=6) (b5:∀sp∈s2.kept,sp.length=6)
theorem Pe (F:eX c){at_:Nat}(PF:∀k,yM k pg=true) (Xa:∀f,ip f pg=pg) (nI:∀c∈cs,rj c) (r5:cs.length≤100000) (Nj:at_≤cs.length) (ZS:kn.length≤at_)
  (q0:lr (cs.drop at_) Sm kn=none→∀T,Q .none (FL T))
  (q1:∀s' oY r',lr (cs.drop at_) Sm kn=some (s',oY,r')→s'.rows.length≤cs.length-r'.length→oY.length≤cs.length-r'.length→(∃k,r'=cs.drop k∧k≤cs.length) →
   ∀T,Q (.tup [.obj 13,.int s'.deep,.int ((cs.length-r'.length:Nat):Int)]) (RH cs oY pg s' T)):WC c (d+4) (.ref 592) [.obj 7,.int at_,.obj 8,.obj 0] (FL [.list (cs.map z0),.dict (kn.map iW),pg]) Q X:=by
 refine WC.v F rfl rfl fun A env E=>?_
 generalize Ar:lr (cs.drop at_) Sm kn=tM at q0 q1
 refine⟨⟨by decide,by decide⟩,?_⟩
 refine⟨RwJ cs pg tM,cs.length-at_,
  ⟨at_,Sm,kn,none,none,none,Ar,Nj,rfl,cR _,cR _,ZS,rfl,fun _ h=>by cases h⟩,?_⟩
 rintro i l H' ⟨iM,s,md,x1,x2,x3,yK,OB,rfl,Dd,CT,E8,h6,EL⟩
 refine⟨by rw[aa];exact ca r5 rfl,⟨fun h1=>?_,fun h1=>?_⟩⟩
 ·rw[aa] at h1
  have h1:iM<cs.length:=by exact Hb h1
  obtain⟨Bd,tF⟩:∃Bd,cs[iM]?=some Bd:=⟨_,aw h1⟩
  have yg:=nI Bd (a9 tF)
  have Sq:cs.drop iM=Bd::cs.drop (iM+1):=by
   obtain⟨h2,rfl⟩:=ao.mp tF
   exact i3 h2
  rw[Sq] at yK
  obtain⟨op,place,args⟩:=Bd
  have HT:=yg.small
  dsimp only at HT
  refine⟨⟨by exact ll,by exact Hg h1 r5 rfl⟩,.tup [.int op,.int place,.eg args],by rw[aK,gm,tF];rfl,?_⟩
  obtain⟨sp,kept,rows,deep,chosen⟩:=s
  dsimp only at Dd CT h6 EL
  refine⟨fun h2=>?_,fun h2=>?_⟩
  ·have yK:(if kept=[] then some ((⟨sp,kept,rows,deep,chosen⟩:ka),md,cs.drop (iM+1)) else none)=tM:=(if_pos (mO h2)).symm.trans yK
   refine WO.Qv 1 (by decide) (ay 1 _) (gv.nil (vs:=ko kept.length) (by rfl) (At.last rfl)) ?_
   cases kept with
   |nil=>
    have q:=q1 _ _ _ yK.symm (by rw[aJ];exact Ad CT h1) (by rw[aJ];exact Ad E8 h1) ⟨iM+1,rfl,h1⟩ [.list []]
    rw[aJ,show cs.length-(cs.length-(iM+1))=iM+1 by exact vR (f9 0 h1 rfl)] at q
    exact .inl (.inl q)
   |cons x kept=>
    rw[show(ko (x::kept).length).isEmpty=false by rw[cC,uf];cases ko kept.length<;>rfl]
    exact .inl (.inl (q0 yK.symm _))
  ·have yK:((DF ⟨op,place,args⟩ ⟨sp,kept,rows,deep,chosen⟩ md).bind fun q=>lr (cs.drop (iM+1)) q.1 q.2)=tM:=(if_neg (hG h2)).symm.trans yK
   have Jq:g8 ⟨op,place,args⟩ ⟨sp,kept,rows,deep,chosen⟩ md=none→∀T,Q .none (FL T):=fun h=>q0 (yK.symm.trans (bN (bN h rfl) rfl))
   have Jo:∀{s2:ka}{Jv:Known},g8 ⟨op,place,args⟩ ⟨sp,kept,rows,deep,chosen⟩ md=some (s2,Jv)→(Kf s2.sp=false→∀T,Q .none (FL T))∧(Kf s2.sp=true→lr (cs.drop (iM+1)) s2 Jv=tM):=fun{s2 Jv} e=>
    ⟨fun hb=>q0 (yK.symm.trans (bN (bS e (if_neg (by rw[hb];exact fN))) rfl)),fun hb=>(bS (show DF _ _ _=some (s2,Jv) from bS e (if_pos hb)) rfl).symm.trans yK⟩
   clear yK
   by_cases OI:op=142
   ·subst OI
    refine⟨fun h=>by exact(aW [] [] [] (.N (.t (.l 142) (.l 138))) nt rfl h).elim,fun _=>⟨fun h=>by exact(aW [] [] [] (.N (.e (.l 142) (.l 141))) nt rfl h).elim,fun _=>⟨fun _=>?_,fun h=>absurd rfl h⟩⟩⟩
    refine WO.LO 1 (by decide) (ay 1 _) (gv.nil (vs:=ko kept.length) (by rfl) (At.last rfl)) ?_
    rcases Cq kept with rfl | ⟨ks,y,he⟩
    ·iterate 4 refine⟨fun h=>absurd h (by decide),fun _=>?_⟩
     exact⟨fun _=>.inl (.inl (Jq rfl _)),fun h=>by exact(aW [] [] [] (.N (.N (.N (.e (.l 142) (.l 138))))) nt rfl h).elim⟩
    ·rw[Cr] at he
     subst he
     have Bp:(ks++[y]).length=ks.length+1:=ah
     rw[show(ko (ks++[y]).length).isEmpty=false by rw[Bp,uf];cases ko ks.length<;>rfl]
     have e:g8 ⟨142,place,args⟩ ⟨sp,ks++[y],rows,deep,chosen⟩ md=some (⟨y,ks,rows,deep,chosen⟩,md):=by
      exact iF (by exact(by decide:¬142<138)) (iF (by exact(by decide:¬142=141)) (iT ⟨rfl,by simp⟩ (by rw[Dz,Dy];rfl)))
     have xS:(ks++[y]).map aZ++[]++[.list []]=ks.map aZ++aZ y::[.list []]:=by simp
     refine WV.pop (vs:=ko ks.length) (a:=.obj (14+ks.length)) (show some (ag.list (ko (ks++[y]).length))=_ by rw[Bp,uf]) (by rw[Bf];exact aW [_,_,_,_] [] [.L aB rZ,.T aM aB,.L cg aM,.E cg (.a fz bP)] (.L fz jg) (.k [1,0,1,1,1,1]) rfl r5 h1 Dd Bp) ?_
     refine kN (?_:vS _ _ _ _ jv _ _ _)
     have Jo:=Jo e
     refine wV (sx:=14+ks.length) (sp:=y) rfl ?_ (EL y (by simp)) (fun hb=>?_) (fun hb=>?_)
     ·rw[fJ]
      show((ks++[y]).map aZ++[]++[.list []])[ks.length]?=_
      rw[xS,aY (by rw[aa];exact lQ 0 rfl),aa,gZ];rfl
     ·exact .inl (.inl (Jo.1 hb _))
     ·have yK:=Jo.2 hb
      refine .inr ⟨si ks.length,[some (.obj 7),some (.int ((iM:Int)+1)),some (.obj 8),some (.obj 0),some (.obj 11),some (.obj 12),some (.obj 13),some (.int deep),some (.int chosen),none,none,none],RH cs md pg ⟨y,ks,rows,deep,chosen⟩ [],fun n hn=>?_,?_,fun{i v} hv=>?_,?_⟩
      ·have hn:n<10:=hn
       rcases n with _ | _ | _ | _ | _ | _ | _ | _ | _ | _ | n
       all_goals first | rfl | exact(aW [_] [] [] (.N (.T (.a (.a (.a (.a (.a (.a (.a (.a (.a (.a aB bP) bP) bP) bP) bP) bP) bP) bP) bP) bP) (.l 10))) nt rfl hn).elim
      ·have:=KU (T:=[.list []]) (cs:=cs) (kn:=md) (y:=y) (ks:=ks) (rows:=rows) (deep:=deep) (chosen:=chosen) (old:=aZ sp) PF Xa
       rw[←xS] at this
       exact this
      ·rcases i with _ | _ | _ | _ | _ | _ | _ | _ | _ | _ | _ | _ | i
       all_goals first | (replace hv:=ae (ae hv);subst hv;exact⟨rfl,rfl⟩) | cases hv
      ·exact⟨cs.length-(iM+1),by exact wm h1,iM+1,⟨y,ks,rows,deep,chosen⟩,md,_,_,_,yK,h1,rfl,(show ks.length≤iM+1 by exact aW [_,_,_] [] [.L aB aM,.E aB (.a cg bP)] (.L cg (.a aM bP)) (.k [1,0,1,1]) rfl Dd Bp),bz CT,bz E8,EL y (by simp),fun x hx=>EL x (by simp[hx])⟩
   have hA:op=132∨op=137→args.length=8:=fun h=>by
    have:=yg.short (show op<239 by exact aW [_] [] [.O (.E aB (.l 132)) (.E aB (.l 137))] (.T aB (.l 239)) (.o cK cK) rfl h)
    rcases h with rfl | rfl
    ·exact this
    ·exact this
   apply Im (ss:=jv) (RwT cs pg iM op place args (g8 ⟨op,place,args⟩ ⟨sp,kept,rows,deep,chosen⟩ md))
   case w=>
    intro key
    refine⟨fun h3=>?_,fun h3=>?_⟩
    ·refine FW F (sp:=sp) (rows:=rows) (by rfl) (by rfl) (by decide) (by exact gW h3) (by exact HT) hA h6 (by exact cq CT (aV h1 r5)) ?_
     have e:g8 ⟨op,place,args⟩ ⟨sp,kept,rows,deep,chosen⟩ md=(my op args sp chosen rows).map fun p=>(⟨p.1,kept,p.2,deep,chosen⟩,md):=by
      exact if_pos (show op<138 by exact gW h3)
     cases h:my op args sp chosen rows with
     |none=>exact .inl (.inl (Jq (by rw[e,h];rfl) _))
     |some v=>
      obtain⟨Ju,qi⟩:=v
      have Vn:=A2 h
      exact key _ _ ⟨⟨Ju,kept,qi,deep,chosen⟩,md,rfl,rfl,by rw[e,h];rfl,bz Dd,(show qi.length≤iM+1 by exact az Vn.2 (cS CT _)),by exact QS E8,(show Ju.length=6 by exact aW [_,_] [] [.E aB (.l 6),.E aM aB] (.E aM (.l 6)) (.o jN qu) rfl h6 Vn.1),EL⟩
    refine⟨fun h4=>?_,fun h4=>?_⟩
    ·have e:g8 ⟨op,place,args⟩ ⟨sp,kept,rows,deep,chosen⟩ md=some (⟨sp,kept++[sp],rows,max deep (kept.length+1),chosen⟩,md):=by
      exact iF (show ¬op<138 from dX h3 rfl) (if_pos (show op=141 from mO h4))
     have Bp:∀x,(ko kept.length++[x]).length=kept.length+1:=fun x=>by rw[ah,Bf];rfl
     refine⟨by rw[aa];show sp.length≤_;exact og h6 rfl,⟨by rw[Bf];show kept.length≤_;exact wW Dd h1 r5 rfl,⟨by rw[Bp];exact cS (wW Dd h1 r5 rfl) _,?_⟩⟩⟩
     refine kN (?_:vS _ _ _ _ jv _ _ _)
     refine key _ _ ⟨⟨sp,kept++[sp],rows,max deep (kept.length+1),chosen⟩,md,?_,?_,e,by rw[ah];exact cS Dd 1,bz CT,bz E8,h6,fun x hx=>?_⟩
     ·exact congrArg (fun k:Nat=>([some (.obj 7),some (.int ((iM:Int)+1)),some (.obj 8),some (.obj 0),some (.obj 11),some (.obj 12),some (.obj 13),some (.int (max deep (k:Int))),some (.int chosen),some (.int op),some (.int place),some (.eg args)]:Loc)) (Bp _)
     ·have k3:(kept.map aZ++[]).length+14=14+kept.length:=by rw[cM,aa];exact fJ _ _
      have k1:ko (kept++[sp]).length=ko kept.length++[.obj ((kept.map aZ++[]).length+14)]:=by rw[k3,ah];exact uf _
      have k2:(kept++[sp]).map aZ++[]=(kept.map aZ++[])++[aZ sp]:=by simp
      unfold RH
      dsimp only
      rw[k1,k2]
      rfl
     ·rcases eG.mp hx with hx | hx
      ·exact EL x hx
      ·rw[cU.mp hx];exact h6
    refine⟨fun h5=>absurd h5 (by exact aW [_] [] [.N (.E aB (.l 142))] (.N (.e aB (.l 142))) (.o xj cN) rfl OI),fun h5=>?_⟩
    have hm:¬(op=142∧kept≠[]):=fun z=>OI z.1
    apply hU (¬(143≤op∧op<171))
    ·intro ph
     refine⟨fun u6=>⟨fun h7=>?_,fun h7=>ph (by exact vD h7 rfl)⟩,fun u6=>ph (by exact uG u6 rfl)⟩
     have e:g8 ⟨op,place,args⟩ ⟨sp,kept,rows,deep,chosen⟩ md=some (⟨lb op args sp,kept,rows,deep,chosen⟩,md):=by
      exact uL (c:=⟨op,place,args⟩) ⟨pX u6,gW h7⟩
     refine J8 F (sp:=sp) (by rfl) (by exact⟨pX u6,gW h7⟩) HT h6 ?_
     exact key _ _ ⟨⟨lb op args sp,kept,rows,deep,chosen⟩,md,rfl,rfl,e,bz Dd,bz CT,bz E8,(show(lb op args sp).length=6 by rw[DO];exact h6),EL⟩
    intro hA1
    apply hU (¬(171≤op∧op<239))
    ·intro ph
     refine⟨fun u6=>⟨fun h7=>?_,fun h7=>ph (by exact vD h7 rfl)⟩,fun u6=>ph (by exact uG u6 rfl)⟩
     have e:∀ch:Int,ch=(if op>234 then (be args:Int) else (op:Int)-171)→g8 ⟨op,place,args⟩ ⟨sp,kept,rows,deep,chosen⟩ md=if (md.lookup ch).isSome then some (⟨sp,kept,rows,deep,ch⟩,md) else none:=by
      rintro _ rfl
      exact u9 (c:=⟨op,place,args⟩) ⟨pX u6,gW h7⟩
     refine⟨fun h8=>?_,fun h8=>?_⟩
     ·have e:=e (be args) (if_pos (by exact rl h8 rfl)).symm
      refine jC F ?_
      conv=>whnf
      rw[fA,dh]
      cases hs:(md.lookup ((be args:Nat):Int)).isSome with
      |false=>exact .inl (.inl (Jq (by rw[e,hs];rfl) _))
      |true=>
       refine kN (?_:vS _ _ _ _ jv _ _ _)
       exact key _ _ ⟨⟨sp,kept,rows,deep,(be args:Nat)⟩,md,rfl,rfl,by rw[e,hs];rfl,bz Dd,bz CT,bz E8,h6,EL⟩
     ·have e:=e ((op:Int)-171) (if_neg (by exact tc h8 rfl)).symm
      conv=>whnf
      rw[fA,dh]
      cases hs:(md.lookup ((op:Int)-171)).isSome with
      |false=>exact .inl (.inl (Jq (by rw[e,hs];rfl) _))
      |true=>
       refine kN (?_:vS _ _ _ _ jv _ _ _)
       exact key _ _ ⟨⟨sp,kept,rows,deep,(op:Int)-171⟩,md,rfl,rfl,by rw[e,hs];rfl,bz Dd,bz CT,bz E8,h6,EL⟩
    intro hA2
    apply hU (¬(239≤op∧op<243))
    ·intro ph
     refine⟨fun u6=>⟨fun h7=>?_,fun h7=>ph (by exact vD h7 rfl)⟩,fun u6=>ph (by exact uG u6 rfl)⟩
     have e:g8 ⟨op,place,args⟩ ⟨sp,kept,rows,deep,chosen⟩ md=some (⟨sp,kept,rows++[.spec (sp.getD 0 0) (sp.getD 1 0) (args.drop (op-238))],deep,chosen⟩,md):=by
      exact Ao (c:=⟨op,place,args⟩) ⟨pX u6,gW h7⟩
     refine⟨⟨by decide,by decide⟩,_,gn (j:=0) (show 0<sp.length by exact qA h6 rfl),?_⟩
     refine⟨⟨by decide,by decide⟩,_,gn (j:=1) (show 1<sp.length by exact qA h6 rfl),?_⟩
     refine⟨by exact ca HT rfl,⟨by rw[aa];show rows.length≤_;exact wW CT h1 r5 rfl,?_⟩⟩
     rw[gd (op-238) (by exact rF (Wj u6 rfl))]
     rw[jU (.spec (sp.getD 0 0) (sp.getD 1 0) (args.drop (op-238))) (by rfl)]
     refine kN (?_:vS _ _ _ _ jv _ _ _)
     exact key _ _ ⟨⟨sp,kept,rows++[.spec (sp.getD 0 0) (sp.getD 1 0) (args.drop (op-238))],deep,chosen⟩,md,rfl,rfl,e,bz Dd,(by rw[ah];exact cS CT 1),by exact QS E8,h6,EL⟩
    intro hA3
    apply hU (¬(243≤op∧op<247))
    ·intro ph
     refine⟨fun u6=>⟨fun h7=>?_,fun h7=>ph (by exact vD h7 rfl)⟩,fun u6=>ph (by exact uG u6 rfl)⟩
     have e:∀o,iJ op args md=o→g8 ⟨op,place,args⟩ ⟨sp,kept,rows,deep,chosen⟩ md=o.map fun k=>(⟨sp,kept,rows,deep,chosen⟩,k):=by
      rintro _ rfl
      exact yV (c:=⟨op,place,args⟩) ⟨pX u6,gW h7⟩
     refine C5 F (by exact⟨pX u6,gW h7⟩) (yg.qx (show 243≤op by exact pX u6) (show op<247 by exact gW h7)) HT (by exact wW E8 h1 r5 rfl) ?_
     cases hs:iJ op args md with
     |none=>exact .inl (.inl (Jq (by rw[e _ hs];rfl) _))
     |some oY=>
      have Vn:=BK hs
      refine kN (?_:vS _ _ _ _ jv _ _ _)
      exact key _ _ ⟨⟨sp,kept,rows,deep,chosen⟩,oY,rfl,rfl,by rw[e _ hs];rfl,bz Dd,bz CT,by exact pa Vn (cS E8 _),h6,EL⟩
    intro hA4
    have e:g8 ⟨op,place,args⟩ ⟨sp,kept,rows,deep,chosen⟩ md=if op≠138 then none else some (⟨sp,kept,rows,deep,chosen⟩,md):=by
     exact iF (show ¬op<138 from dX h3 rfl) (iF (show ¬op=141 from hG h4) (iF hm (iF hA1 (iF hA2 (iF hA3 (if_neg hA4))))))
    refine⟨fun u6=>?_,fun u6=>?_⟩
    ·exact .inl (.inl (Jq (by rw[e,if_pos (by exact hG u6)]) _))
    ·refine kN (?_:vS _ _ _ _ jv _ _ _)
     exact key _ _ ⟨⟨sp,kept,rows,deep,chosen⟩,md,rfl,rfl,by rw[e,if_neg (by exact aW [_] [] [.N (.N (.e aB (.l 138)))] (.N (.N (.E aB (.l 138)))) (.o cN cK) rfl u6)],bz Dd,bz CT,bz E8,h6,EL⟩
   case k=>
    rintro l H ⟨s2,Jv,rfl,rfl,e,b1,b2,b3,b4,b5⟩
    have Jo:=Jo e
    refine wV (sp:=s2.sp) rfl (by rfl) b4 (fun hb=>?_) (fun hb=>?_)
    ·exact .inl (.inl (Jo.1 hb _))
    ·have yK:=Jo.2 hb
     exact .inl ⟨cs.length-(iM+1),by exact wm h1,iM+1,s2,Jv,_,_,_,yK,h1,rfl,b1,b2,b3,b4,b5⟩
 ·rw[aa] at h1
  rw[dN (by exact Hm h1)] at yK
  exact .inl (q0 yK.symm _)
end
end
section
open PySem PySem.W PySem.Calls PyProof.Rows
theorem jx.uniq {ks ns:List Int}(h:jx ks ns):ns=BN ks:=by
 have h1:(BN ks).Perm ks:=List.mergeSort_perm ks _
 have h2:(BN ks).Pairwise (·≤·):=by
  have:=List.pairwise_mergeSort (le:=fun a b:Int=>decide (a≤b)) (by intro a b c;simp;lia) (by intro a b;simp;exact aW [] [_,_] [] (.O (.l bJ dO) (.l dO bJ)) cK rfl) ks
  exact this.imp (by intro a b;simp)
 exact v3 (le:=(·≤·)) (fun a b _ _=>Nz) h.2 h2 (h.1.trans h1.symm)
theorem gv.Wl {H:List ag}{y:AV}{ys:List AV}:gv H 1 (.tup []) (.tup (y::ys)) false:=
 (show((bh (min 0 (ys.length+1))).all (fun _=>true)&&0==ys.length+1)=false by rw[Nat.zero_min];rfl)▸.tup (xs:=[]) (ys:=y::ys) (e:=fun _=>true) fun _ _ _ h=>nS h
theorem gv.aab {H:List ag}{x y:List UInt8}:gv H 0 (.eg x) (.eg y) (decide (x=y)):=Dp (x:=x) (y:=y)▸.eg x y
theorem Lv {k:Nat}:(bH k [AV.int 223]).flatten=(bH k (223:Int)).map .int:=by
 induction k with
 |zero=>rfl
 |succ k ih=>rw[i8,Jl,ih,i8];rfl
theorem G2 {k:Nat}:(bH k (223:Int)).map (fun x=>x.toNat.toUInt8)=bH k (223:UInt8):=by
 rw[List.map_replicate];rfl
section
variable {c:Cx}{d n m:Nat}{H T:List ag}{Q:AV→List ag→Prop}{X:List ag→Prop}{a op:Nat}{b args:List UInt8}{P:Prop}{kn:Known}{pg:ag}{cs:List fK}
noncomputable abbrev CH (cs:List fK) (kn:Known) (pg:ag) (T:List ag):List ag:=FL (.list (cs.map z0)::.dict (kn.map iW)::pg::T)
theorem UC (PF:∀k,yM k pg=true):tf 10 (CH cs kn pg [])=true:=by
 have e1:yM 10 (.list (cs.map z0))=true:=kc fun _=>rfl
 have e2:yM 10 (.dict (kn.map iW))=true:=rX
 unfold tf
 rw[ba]
 intro x hx
 simp only[br,bZ,or_false] at hx
 rcases hx with rfl | rfl | rfl | rfl | rfl | rfl | rfl | rfl | rfl | rfl
 all_goals first | rfl | exact e1 | exact e2 | exact PF _
inductive EnJ (cs:List fK) (kn:Known) (pg:ag) (rest:List fK) (at_ place:Nat) (tM:Bool) (i:Nat):Loc→List ag→Prop
 |mk (told:Known) (x1 x2 x3 x4:Option AV) (AM:oa place kn (rest.drop i) told=tM) (R0:eZ told) :
  EnJ cs kn pg rest at_ place tM i [some (.obj 7),some (.int at_),some (.obj 8),some (.obj 0),some (.obj 10),x1,x2,x3,x4] (CH cs kn pg [.dict (told.map iW),.list (rest.map z0)])
theorem UA (F:eX c){at_:Nat}{pc:fK}(PF:∀k,yM k pg=true) (nI:∀c∈cs,rj c) (r5:cs.length≤100000) (Nj:cs[at_]?=some pc) (Jn:eZ kn)
  (q:Q (.bool (oa pc.place kn (cs.drop (at_+1)) [])) (CH cs kn pg [])):WC c (d+4) (.ref 611) [.obj 7,.int at_,.obj 8,.obj 0] (CH cs kn pg []) Q X:=by
 refine WC.v F rfl rfl fun A env E=>?_
 have WD:=(ao.mp Nj).1
 refine⟨12,by exact(by decide:10≤12),?_⟩
 refine⟨by rw[aa];exact ca r5 rfl,?_⟩
 rw[gd (at_+1) (by exact rfl),←yT]
 have Z0:∀c∈cs.drop (at_+1),rj c:=fun c hc=>nI c (kR hc)
 generalize xd:cs.drop (at_+1)=rest at *
 have U8:rest.length≤100000:=by rw[←xd,aJ];exact rm r5
 generalize Ar:oa pc.place kn rest []=tM at q
 have hR:∀{l:Loc}{H G:List ag}{b:Bool},tM=b→H=CH cs kn pg []++G→dT 10 (qE Q) (.ret (.bool b)) l H:=fun hb he=>dT.ret _ he (UC PF) (aA 10) rfl (hb▸q)
 clear q
 refine⟨EnJ cs kn pg rest at_ pc.place tM,⟨[],none,none,none,none,Ar,eZ.nil⟩,fun i l' H' _ j=>by obtain⟨_,_,_,_,_,_,_⟩:=j;rfl,?_,?_⟩
 ·rintro i x l' H' hx ⟨told,x1,x2,x3,x4,AM,R0⟩
  rw[aK,bB] at hx
  refine aq hx fun iu tF jX=>?_
  clear hx
  obtain⟨op,place,args⟩:=iu
  subst jX
  have yg:=Z0 _ (a9 tF)
  have v9:=yg.small
  dsimp only at v9
  have Sq:rest.drop i=⟨op,place,args⟩::rest.drop (i+1):=by
   obtain⟨h2,e⟩:=ao.mp tF
   rw[←e];exact i3 h2
  rw[Sq] at AM
  have no:op≠249→pn kn ⟨op,place,args⟩ told=none→tM=false:=fun h9 h=>AM.symm.trans (CI h9 h)
  have go:∀{t:Known},op≠249→pn kn ⟨op,place,args⟩ told=some t→oa pc.place kn (rest.drop (i+1)) t=tM:=fun h9 h=>(yt h9 h).symm.trans AM
  rw[show z0 ⟨op,place,args⟩=.tup [.int op,.int place,.eg args] from rfl]
  have htz:=R0.le
  have ZS:=Jn.le
  apply hU (¬(243≤op∧op<247))
  ·intro key
   refine⟨fun h1=>⟨fun h2=>?_,fun h2=>key (by exact vD h2 rfl)⟩,fun h1=>key (by exact uG h1 rfl)⟩
   have lP:243≤op∧op<247:=by exact⟨pX h1,gW h2⟩
   have h9:op≠249:=zG lP.2 rfl
   refine Dj F (room:=op-242) (by exact rF (B2 lP.1 rfl)) (by exact aW [_,_] [] [.l (.l 243) aB,.t aB (.l 247),.fs aM aB (.l 242)] (.A (.L bP aM) (.L aM iI)) (.o (.o (.k [1,0,0,1,0,1]) jN) (.o (.k [0,1,0,0,0,1]) cN)) rfl h1 h2 (eV _ _)) (yg.qx lP.1 lP.2) v9 (fun h=>?_) fun dm row h=>?_
   ·exact .inl (hR (no h9 ((if_pos lP).trans (bN h rfl))) (by rfl))
   ·have hl:pn kn ⟨op,place,args⟩ told=Zn kn told (dm,row):=(if_pos lP).trans (bS h rfl)
    conv=>whnf
    rw[fA,dh]
    cases ht:(told.lookup (dm:Int)).isSome with
    |true=>exact .inl (hR (no h9 (hl.trans (if_pos (.inl ht)))) (by rfl))
    |false=>
     have ht:told.lookup (dm:Int)=none:=by simpa using ht
     conv=>whnf
     rw[fA]
     cases Bp:kn.lookup (dm:Int) with
     |none=>
      refine WO.LO 1 (by decide) (ay 1 _) gv.Wl ?_
      exact .inl (hR (no h9 (hl.trans (if_pos (.inr fun z=>nS (Bp.symm.trans z))))) (by rfl))
     |some Ld=>
      refine WO.LO 1 (by decide) (ay 1 _) C9 ?_
      by_cases hr:Ld=row
      ·subst hr
       have AM:=go h9 (hl.trans (if_neg fun z=>z.elim (fun z=>by rw[ht] at z;exact fT z) fun z=>z Bp))
       rw[decide_eq_true rfl]
       refine⟨by rw[aa];exact ca htz rfl,?_⟩
       rw[ug ht]
       exact .inl ⟨told++[((dm:Int),Ld)],_,_,_,_,AM,R0.snoc ht (ED h)⟩
      ·rw[decide_eq_false hr]
       exact .inl (hR (no h9 (hl.trans (if_pos (.inr fun z=>hr (ae (Bp.symm.trans z)))))) (by rfl))
  ·intro lP
   refine⟨fun Ei=>?_,fun Ei=>?_⟩
   ·have Ei:op=249:=by exact mO Ei
    subst Ei
    have he:vK pc.place args told kn=tM:=(G3 rfl).symm.trans AM
    refine⟨by exact ca v9 rfl,⟨fun h9=>.inl (hR (he.symm.trans (if_pos (gW h9))) (by rfl)),fun h9=>?_⟩⟩
    have he:Yn pc.place args told kn=tM:=(if_neg (dX h9 rfl)).symm.trans he
    refine⟨by exact ca v9 rfl,?_⟩
    rw[show lM none (some (4:Int)) args=da args 0 4 from pF 4 rfl]
    refine jC F ?_
    refine⟨⟨by exact ll,by exact Hg WD r5 rfl⟩,z0 pc,by rw[aK,gm,Nj];rfl,?_⟩
    refine⟨fun hw=>.inl (hR (he.symm.trans (if_pos (Gd hw))) (by rfl)),fun hw=>?_⟩
    have he:ZY args told kn=tM:=(if_neg fun z=>hw fun e=>z (MX e)).symm.trans he
    refine⟨⟨⟨by decide,by exact aW [_] [] [.N (.t aB (.l 9))] (.t iI aB) cK rfl h9⟩,by exact ca v9 rfl⟩,?_⟩
    rw[show args.getD (Me 4) 0=args.getD 4 0 from rfl]
    refine⟨fun h2=>.inl (hR (he.symm.trans (if_pos (hG h2))) (by rfl)),fun h2=>?_⟩
    have AM:CG args told kn=tM:=(if_neg fun z=>h2 fun e=>z (mO e)).symm.trans he
    unfold CG at AM
    refine WV.tq (kvs:=told.map iW) (.inr ⟨10,rfl,.inl rfl⟩) (by rw[aa];exact oX htz rfl) fun ns1 E4=>?_
    rw[dy] at E4
    have E4:=jx.uniq (ks:=told.map (·.1)) E4
    refine WV.tq (kvs:=kn.map iW) (.inr ⟨8,rfl,.inl rfl⟩) (by rw[aa];exact oX ZS rfl) fun ns2 I5=>?_
    rw[dy] at I5
    have I5:=jx.uniq (ks:=kn.map (·.1)) I5
    refine WO.Qv 1 (by decide) (ay 1 _) (gv.ints (xs:=ns1) (ys:=ns2) (by rfl) (by rfl)) ?_
    rw[E4,I5]
    by_cases V4:BN (told.map (·.1))=BN (kn.map (·.1))
    ·rw[decide_eq_true V4,QD] at AM
     rw[decide_eq_true V4]
     refine⟨by exact ca v9 rfl,⟨by exact ca v9 rfl,⟨⟨by exact aW [_] [] [.L aB rZ] (.t (.s aB (.l 5)) tG) cK rfl v9,by exact aW [_] [] [] (.t (.n tG) (.s aB (.l 5))) nt rfl⟩,by rw[bA,wh];exact aW [_,_] [] [.L aB rZ,.ft aM (.s aB (.l 5))] (.L aM jg) (.o jN cN) rfl v9 (kQ _)⟩,?_⟩⟩
     rw[show lM (some (5:Int)) none args=args.drop 5 from gd 5 rfl,show((args.length:Int)-5).toNat=args.length-5 by exact aW [_,_,_] [] [.ft aB (.s aM (.l 5)),.fs cg aM (.l 5)] (.E aB cg) (.o (.o (.o (.k [1,0,1,0,0,0,1]) (.k [1,0,0,1,0,1])) (.o cN (.k [1,1,0,0,0,1]))) (.o (.o jN pE) (.o cN pE))) rfl (kQ _) (eV _ _),Lv]
     refine WV.RY (xs:=bH (args.length-5) 223) (by rfl) (fun x hx=>by have:=yU hx;exact aW [] [_] [.e bJ (.l 223)] (.A (.l dF bJ) (.t bJ (.l 256))) (.o cN cK) rfl this) (by rw[eP];exact Il v9 rfl) ?_
     rw[G2]
     refine WO.Qv 0 (by decide) (ay 1 _) gv.aab ?_
     exact .inl (hR AM.symm (by rfl))
    ·rw[decide_eq_false V4,xp] at AM
     rw[decide_eq_false V4]
     exact .inl (hR AM.symm (by rfl))
   ·refine⟨fun mP=>?_,fun mP=>?_⟩
    ·exact .inl (hR (no (hG Ei) ((if_neg lP).trans (if_pos (hG mP)))) (by rfl))
    ·have mP:op=138:=by exact l7 mP
     exact .inl ⟨told,_,_,_,_,go (hG Ei) ((if_neg lP).trans (if_neg fun z=>z mP)),R0⟩
 ·rintro l' H' ⟨told,x1,x2,x3,x4,AM,R0⟩
  rw[dN (by rw[aa];exact lQ 0 rfl)] at AM
  exact hR AM.symm (by rfl)
end
end
section
open PySem PySem.W PySem.Calls PyProof.Rows
set_option tactic.hygienic true in
theorem zJ {b:List UInt8}:∀{n p:Nat}{found cs:List fK},jm b n p found=some cs→found.length≤p→cs.length≤b.length
 |n,p,found,cs,h,hf=>by
  unfold jm at h
  split at h
  ·rename_i hp
   cases n with
   |zero=>exact nS h
   |succ n=>
    dsimp only at h
    split at h
    ·exact nS h
    ·split at h
     ·replace h:=ae h;subst h;rw[ah];simp;exact dk (cq hf hp)
     ·have:=@jY b (b.getD p 0).toNat p hp
      exact zJ h (by rw[ah,bA];exact dk (cq hf this))
  ·exact nS h
theorem EF {H:List ag}{t u:Int×Int×Int}:gv H 1 (.tup [.int t.1,.int t.2.1,.int t.2.2]) (.tup [.int u.1,.int u.2.1,.int u.2.2]) (decide (t=u)):=zU
theorem bI {H:List ag}{vs:List AV}:listAt (H++[.list vs]) H.length=some vs:=k7 (At.last rfl)
theorem IZ (args:List UInt8):(fG 0 10 1).map (xI args)=(xA args).map .int:=rfl
section
variable {c:Cx}{d n m:Nat}{H T:List ag}{Q:AV→List ag→Prop}{X:List ag→Prop}{a op:Nat}{b args:List UInt8}{P:Prop}{kn:Known}{pg:ag}{cs:List fK}
noncomputable abbrev DZ (ps:List (List Int×List n5)):ag:=.list (ps.map tZ)
noncomputable abbrev IP (o:wk) (p s:Nat):AV:=.tup [.tup [.int o.scale.1,.int o.scale.2.1,.int o.scale.2.2],.eg o.comment,.obj p,.int o.pT,.int o.wide,.int o.deep,.obj s]
inductive LfJ (b RK:List UInt8) (sc:Int×Int×Int) (all:List fK) (tM:Option (lu×List fK)) (n:Nat):Loc→List ag→Prop
 |mk (iM sz:Nat) (v:lu) (x1 x2 x3 x4 x5:Option AV) (zR:mL sz (all.drop iM) v=tM) (QZ:(all.drop iM).length≤sz) (hn:n=all.length-iM) (tU:Ends (all.drop iM)) (OB:iM≤all.length) (SD:1≤iM) (Jn:eZ v.known) (Rb:v.cb.length≤iM) :
  LfJ b RK sc all tM n [some (.eg b),some (.obj 0),some (.obj 7),some (.tup [.int sc.1,.int sc.2.1,.int sc.2.2]),some (.eg RK),some (.obj 8),some (.obj 9),some (.int v.last),some (.int v.deep),some (.int iM),x1,x2,x3,x4,x5] (CH all v.known (DZ v.cb) [])
theorem LR (F:eX c) (hb:b.length≤100000) (q0:rI b=none→∀T,Q .none (FL T))
  (q1:∀o,rI b=some o→∀cs ns,jx (o.known.map (·.1)) ns→Q (IP o 9 10) (CH cs o.known (DZ o.cb) [.list (ns.map .int)])):WC c (d+6) (.ref 616) [.eg b,.obj 0] (FL []) Q X:=by
 refine WC.v F rfl rfl fun A env E=>?_
 have q:ei (rI b) (∀T,Q .none (FL T)) (fun o=>∀cs ns,jx (o.known.map (·.1)) ns→Q (IP o 9 10) (CH cs o.known (DZ o.cb) [.list (ns.map .int)])):=by
  cases e:rI b with
  |none=>exact q0 e
  |some o=>exact q1 o e
 clear q0 q1
 refine UL F hb ?_
 have q:=ei.bi q
 cases h:jm b b.length 0 [] with
 |none=>exact .inl (q.1 h _)
 |some cs=>
 have q:=q.2 cs h
 refine bG (JY hb h (fun c hc=>by cases hc)) fun nI CU=>?_
 have r5:=zJ h (aA _)
 clear h
 obtain⟨Bd,Fd,rfl⟩:∃Bd Fd,cs=Bd::Fd:=by
  cases cs with
  |nil=>exact absurd rfl CU.ne
  |cons x y=>exact⟨x,y,rfl⟩
 obtain⟨op,place,args⟩:=Bd
 have yg:=nI ⟨op,place,args⟩ (by simp)
 have q:ei (Oc ⟨op,place,args⟩ Fd) _ _:=q
 have v9:=yg.small
 have hpre:=yg.pre
 dsimp only at v9 hpre
 refine⟨⟨by decide,by decide⟩,.tup [.int op,.int place,.eg args],rfl,?_⟩
 refine⟨fun h1=>.inl (ei.pos q (.inl (hG h1)) _),fun h1=>?_⟩
 have h1:op=247:=by exact l7 h1
 subst h1
 have hpre:=hpre rfl
 refine⟨⟨by decide,by decide⟩,.tup [.int (247:Nat),.int place,.eg args],rfl,?_⟩
 refine⟨⟨⟨by decide,by exact aW [_] [] [.L (.l 14) aB] (.t dF aB) cK rfl hpre⟩,by exact ca v9 rfl⟩,?_⟩
 rw[show args.getD (Me 0) 0=args.getD 0 0 from rfl]
 refine⟨fun h2=>.inl (ei.pos q (.inr (hG h2)) _),fun h2=>?_⟩
 have h2:(args.getD 0 0).toNat=2:=by exact l7 h2
 have q:ei (Vz (three (args.drop 1)) (args.drop 14) Fd) _ _:=ei.neg q fun z=>z.elim (fun z=>z rfl) fun z=>z h2
 refine⟨⟨by decide,by decide⟩,.tup [.int (247:Nat),.int place,.eg args],rfl,?_⟩
 refine⟨by exact ca v9 rfl,?_⟩
 rw[show lM (some (1:Int)) none args=args.drop 1 from gd 1 rfl]
 refine yp F (by rw[aJ];exact rm v9) (by rw[aJ];exact aW [_,_] [] [.L (.l 14) aB,.fs aM aB bP] (.L (.l 12) aM) (.o n8 vG) rfl hpre (eV _ _)) ?_
 generalize w6:three (args.drop 1)=sc at *
 refine⟨_,_,_,rfl,fun h3=>.inl (ei.pos q h3 _),fun h3=>?_⟩
 have q5:=(ei.bi (x:=mL Fd.length Fd ⟨[],[],-1,0⟩) (f:=Q2 sc (args.drop 14)) (ei.neg q h3))
 refine⟨⟨by decide,by decide⟩,.tup [.int (247:Nat),.int place,.eg args],rfl,?_⟩
 refine⟨by exact ca v9 rfl,?_⟩
 rw[show lM (some (1:Int)) none args=args.drop 1 from gd 1 rfl]
 refine yp F (by rw[aJ];exact rm v9) (by rw[aJ];exact aW [_,_] [] [.L (.l 14) aB,.fs aM aB bP] (.L (.l 12) aM) (.o n8 vG) rfl hpre (eV _ _)) ?_
 rw[w6]
 refine⟨⟨by decide,by decide⟩,.tup [.int (247:Nat),.int place,.eg args],rfl,?_⟩
 refine⟨by exact ca v9 rfl,?_⟩
 rw[show lM (some (14:Int)) none args=args.drop 14 from gd 14 rfl]
 generalize JZ:(⟨247,place,args⟩:fK)::Fd=all at *
 have E7:all.drop 1=Fd:=by rw[←JZ];rfl
 have qw:Fd.length=all.length-1:=by rw[←JZ];rfl
 have TG:1≤all.length:=by rw[←JZ];simp
 have TT:Ends (all.drop 1):=by
  rw[E7];rw[←JZ] at CU;exact CU.tail (by simp)
 obtain⟨tM,Ar⟩:∃t,mL Fd.length Fd ⟨[],[],-1,0⟩=t:=⟨_,rfl⟩
 have q6:=And.intro (fun e=>q5.1 (Ar.trans e)) (fun y e=>q5.2 y (Ar.trans e))
 clear q5
 generalize args.drop 14=RK at *
 refine⟨LfJ b RK sc all tM,all.length-1,
  ⟨1,Fd.length,⟨[],[],-1,0⟩,none,none,none,none,none,by rw[E7];exact Ar,by rw[E7];exact aA _,rfl,TT,TG,aA _,eZ.nil,cR _⟩,?_⟩
 clear Ar
 rintro n l' H' ⟨iM,sz,v,x1,x2,x3,x4,x5,zR,QZ,rfl,tU,OB,SD,Jn,Rb⟩
 obtain⟨Bd,tF⟩:∃Bd,all[iM]?=some Bd:=by
  cases e:all[iM]? with
  |some x=>exact⟨x,rfl⟩
  |none=>exact absurd (dN (List.getElem?_eq_none_iff.mp e)) tU.ne
 have JW:=nI Bd (a9 tF)
 have wo:=(ao.mp tF).1
 have Sq:all.drop iM=Bd::all.drop (iM+1):=by
  obtain⟨h2,rfl⟩:=ao.mp tF
  exact i3 h2
 rw[Sq] at zR tU QZ
 obtain⟨As,oU,d5⟩:=Bd
 have YI:(all.map z0)[((iM:Nat):Int).toNat]?=some (.tup [.int As,.int oU,.eg d5]):=by rw[gm,aK,tF];rfl
 have B5:=JW.small
 dsimp only at B5
 have Pp:=Jn.le
 have Jq:tM=none→∀T,Q .none (FL T):=q6.1
 refine⟨⟨by exact ll,by exact By wo r5 hb rfl⟩,_,YI,?_⟩
 refine⟨fun tI=>?_,fun tI=>?_⟩
 ·have tI:As≠248:=by exact hG tI
  refine⟨⟨by exact ll,by exact By wo r5 hb rfl⟩,_,YI,?_⟩
  obtain⟨sz,rfl⟩:∃f,sz=f+1:=⟨sz-1,by simp at QZ;exact aW [_,_,_] [] [.L (.a aB bP) aM,.fs cg aM bP] (.E aM (.a cg bP)) (.o (.o cN jf) (.o jN cK)) rfl QZ (eV _ _)⟩
  have JT:(all.drop (iM+1)).length≤sz:=by simp only[cC] at QZ;exact aW [_,_] [] [.L (.a aB bP) (.a aM bP)] (.L aB aM) cK rfl QZ
  have zT:As≠249→Ends (all.drop (iM+1)):=fun h=>tU.tail h
  apply hU (¬(As=139∧jH (d5.drop 40)=v.last))
  ·intro key
   refine⟨fun qy=>?_,fun qy=>by(conv=>whnf);exact key fun z=>qy (by exact aW [_] [] [.E aB (.l 139)] (.e aB (.l 139)) (.o cN cK) rfl z.1)⟩
   have qy:As=139:=by exact mO qy
   have wU:d5.length=44:=(JW.short (show As<239 by exact vl qy rfl)).trans (by rw[qy];rfl)
   have zT:=zT (by exact bV (vl qy rfl))
   refine⟨by exact og wU rfl,?_⟩
   rw[show lM (some (40:Int)) none d5=d5.drop 40 from gd 40 rfl]
   refine ju F (by rw[aJ];exact rm B5) (by rw[aJ];exact nh (qA wU rfl)) ?_
   refine⟨fun VW=>?_,fun VW=>key fun z=>VW z.2⟩
   refine Pe F (pg:=DZ v.cb) (at_:=iM+1) (fun _=>kc tS) (fun _=>congrArg ag.list (fh tX)) nI (by exact az r5 hb) (by exact f9 0 wo rfl) (by exact aW [_,_] [] [.L bP aB,.L aM jL] (.L aM (.a aB bP)) ui rfl SD Pp) (fun h=>?_) (fun s' oY r' h y3 y4 y5=>?_)
   ·exact fun T=>.inl (.inl (Jq (zR.symm.trans (kA tI ((if_pos ⟨qy,VW⟩).trans (mN h rfl)))) T))
   ·refine aq y5 fun k j5 Bp=>?_
    clear y5
    subst j5
    have hro:=Gl h Jn
    have RN:=hro.2 zT
    have zR:=(mH (c:=⟨As,oU,d5⟩) tI ((if_pos ⟨qy,VW⟩).trans (mS h rfl))).symm.trans zR
    rw[aJ] at y3 y4 ⊢
    rw[show all.length-(all.length-k)=k by exact vR Bp] at y3 y4 ⊢
    intro T
    refine WE.lc F [80,95,86,78,84,102,106,94,85,87,77,92,96] E 10 (xI d5) (by rfl) (by decide +kernel) (by rfl) ?_
    refine⟨rfl,⟨by decide,by decide⟩,?_⟩
    refine⟨⟨fun _=>trivial,by decide⟩,fun cenv i v acc hv=>?_,?_⟩
    ·refine bG (fx hv) fun hi j4=>?_
     subst j4
     have hi:i<10:=hi
     refine⟨.of_left (by decide),⟨.of_left (by decide),⟨by exact og wU rfl,?_⟩⟩⟩
     rw[i5 (4*i) (4*i+4) (by exact aW [_] [] [] (.e (.m 4 (.a dF aB)) (.c (.m 4 aB))) (.o nt nt) rfl) (by exact aW [_] [] [] (.e (.a (.m 4 (.a dF aB)) iI) (.c (.a (.m 4 aB) iI))) (.o nt nt) rfl)]
     have hl:=kU d5 (x:=4*i) (y:=4*i+4) (by exact aW [_,_] [] [.E aB (.l 44),.T aM (.l 10)] (.L (.a (.m 4 aM) iI) aB) (.k [1,4,0,1]) rfl wU hi)
     refine ju F (by exact aW [_,_,_] [] [.E aB aM,.fs aM (.a (.m 4 cg) iI) (.m 4 cg)] (.L aB rZ) (.o jN jN) rfl hl (eV _ _)) (by exact aW [_,_,_] [] [.E aB aM,.fs aM (.a (.m 4 cg) iI) (.m 4 cg)] (.T dF aB) (.o (.k [1,0,0,1,0,1]) xK) rfl hl (eV _ _)) ⟨?_,rfl⟩
     show AV.int _=AV.int (jH (da d5 (4*(0+(i:Int)).toNat) (4*(0+(i:Int)).toNat+4)))
     rw[show(0+(i:Int)).toNat=i by exact Sy]
    ·rw[IZ]
     have SJ:(all.drop k).length<(all.drop (iM+1)).length:=CC _ h
     rw[aJ,aJ] at SJ
     have Zv:(xA d5).length=10:=rfl
     refine hY (bI) ⟨by rw[aa,Zv];decide,⟨by rw[aa];exact aW [_,_,_,_] [] [.L aB rZ,.L aM aB,.L cg aM,.L fz cg] (.L fz jg) (.k [1,1,1,1,1]) rfl hb r5 Bp y3,⟨by rw[aa];exact MN Rb wo r5 hb rfl,?_⟩⟩⟩
     have hkk:k<all.length:=by
      by_cases h:k<all.length
      ·exact h
      ·exact absurd (dN (by exact aR h)) RN.ne
     refine dT.nextM [true,true,true,true,true,true,true,true,true,true] _ (H₁:=CH all oY (DZ (v.cb++[(xA d5,s'.rows)])) []) (by
      unfold CH DZ
      rw[show(v.cb++[(xA d5,s'.rows)]).map tZ=v.cb.map tZ++[tZ (xA d5,s'.rows)] from aF]
      rfl) (UC fun _=>kc tS) (by exact(by decide:7≤10)) (by rfl) ?_
     ·exact⟨all.length-k,by exact aW [_,_,_,_,_] [] [.T aB aM,.fs cg fz ji,.fs aM fz (.a ji bP)] (.T aB cg) (.o (.o (.k [1,0,1,0,0,0,1,1]) (.k [0,0,1,0,0,0,0,1])) (.o (.k [0,0,1,0,1,0,0,1]) (.k [0,0,1,0,0,0,0,1]))) rfl SJ (eV _ _) (eV _ _),k,sz,{ known:=oY,cb:=v.cb++[(xA d5,s'.rows)],last:=oU,deep:=max v.deep s'.deep },_,_,_,_,_,zR,by rw[aJ] at JT ⊢;exact dC (aV SJ JT),rfl,RN,Bp,by exact aW [_,_,_,_,_] [] [.T aB aM,.fs aB cg fz,.fs aM cg (.a ji bP)] (.L bP fz) (.o (.o (.k [1,0,1,0,0,0,1,1]) (.k [0,0,1,0,0,0,0,1])) (.o (.k [1,0,1,0,1,0,0,1]) (.k [0,0,1,0,0,0,0,1]))) rfl SJ (eV _ _) (eV _ _),hro.1,by rw[ah,bA];exact aW [_,_,_,_,_,_] [] [.L aB aM,.T cg fz,.fs cg ji qD,.fs fz ji (.a aM bP)] (.L (.a aB bP) qD) (.o (.o (.k [1,0,1,0,0,0,1,1,1]) (.k [0,0,1,0,0,0,0,1])) (.o (.k [1,0,1,0,1,0,0,1,1]) (.k [0,0,1,0,0,0,0,1]))) rfl Rb SJ (eV _ _) (eV _ _)⟩
  ·intro Q6
   apply hU (¬(243≤As∧As<247))
   ·intro key
    refine⟨fun h1=>⟨fun h2=>?_,fun h2=>key (by exact vD h2 rfl)⟩,fun h1=>key (by exact uG h1 rfl)⟩
    have lP:243≤As∧As<247:=by exact⟨pX h1,gW h2⟩
    refine C5 F lP (JW.qx lP.1 lP.2) B5 (by exact ca Pp rfl) ?_
    cases h:iJ As d5 v.known with
    |none=>exact .inl (.inl (Jq (zR.symm.trans (kA tI ((if_neg Q6).trans ((if_pos lP).trans (mN h rfl))))) _))
    |some oY=>
     have hl:lq ⟨As,oU,d5⟩ (all.drop (iM+1)) v=some (all.drop (iM+1),{ v with known:=oY }):=(if_neg Q6).trans ((if_pos lP).trans (mS h rfl))
     have zR:=(mH tI hl).symm.trans zR
     exact .inl ⟨all.length-(iM+1),by exact wm wo,iM+1,sz,{ v with known:=oY },_,_,_,_,_,zR,JT,rfl,zT (by exact zG lP.2 rfl),by exact f9 0 wo rfl,by exact ay _ _,Ec h Jn,(show v.cb.length≤iM+1 by exact QS Rb)⟩
   ·intro lP
    refine⟨fun mP=>?_,fun mP=>?_⟩
    ·exact .inl (.inl (Jq (zR.symm.trans (kA tI ((if_neg Q6).trans ((if_neg lP).trans (if_pos (hG mP)))))) _))
    ·have mP:As=138:=by exact l7 mP
     have hl:lq ⟨As,oU,d5⟩ (all.drop (iM+1)) v=some (all.drop (iM+1),v):=(if_neg Q6).trans ((if_neg lP).trans (if_neg fun z=>z mP))
     have zR:=(mH tI hl).symm.trans zR
     exact .inl ⟨all.length-(iM+1),by exact wm wo,iM+1,sz,v,_,_,_,_,_,zR,JT,rfl,zT (by exact bV (vl mP rfl)),by exact f9 0 wo rfl,by exact ay _ _,Jn,by exact QS Rb⟩
 ·have tI:As=248:=by exact l7 tI
  subst tI
  have zR:=(pH rfl).symm.trans zR
  subst zR
  have q:ei (V2 sc RK v ⟨248,oU,d5⟩ (all.drop (iM+1))) _ _:=q6.2 _ rfl
  have wU:d5.length=28:=JW.post rfl
  refine⟨⟨by exact ll,by exact By wo r5 hb rfl⟩,_,YI,?_⟩
  refine⟨by exact og wU rfl,?_⟩
  rw[show lM none (some (4:Int)) d5=da d5 0 4 from pF 4 rfl]
  refine ju F (by have:=qL d5 0 4;exact az this B5) (by rw[kU d5 (by exact DL wU rfl)];decide) ?_
  refine⟨fun E4=>.inl (ei.pos q (.inl E4) _),fun E4=>?_⟩
  have E4:=yE E4
  refine⟨by exact og wU rfl,?_⟩
  rw[show lM (some (4:Int)) none d5=d5.drop 4 from gd 4 rfl]
  refine yp F (by rw[aJ];exact rm B5) (by rw[aJ];exact S4 wU rfl) ?_
  refine WO.LO 1 (by decide) (ay 1 _) EF ?_
  by_cases I5:three (d5.drop 4)=sc
  case neg=>
   rw[decide_eq_false I5]
   exact .inl (ei.pos q (.inr (.inl I5)) _)
  rw[decide_eq_true I5]
  refine UA F (pg:=DZ v.cb) (fun _=>kc tS) nI (by exact az r5 hb) tF Jn ?_
  dsimp only
  cases yO:oa oU v.known (all.drop (iM+1)) [] with
  |false=>exact .inl (ei.pos q (.inr (.inr yO)) _)
  |true=>
   have hnn:¬(jH (da d5 0 4)≠v.last∨three (d5.drop 4)≠sc∨oa oU v.known (all.drop (iM+1)) []=false):=by
    rw[E4,I5,yO];simp
   have q:=ei.neg q hnn
   clear hnn
   have hp0:v.cb.length≤100000:=by exact MN Rb wo r5 hb rfl
   refine⟨by exact og wU rfl,?_⟩
   rw[show lM (some (24:Int)) (some (26:Int)) d5=da d5 24 26 from i5 24 26 rfl rfl]
   refine jC F ?_
   refine⟨fun h5=>.inl (ei.pos q (.inl h5) _),fun h5=>?_⟩
   refine⟨by exact og wU rfl,?_⟩
   rw[show lM (some (26:Int)) none d5=d5.drop 26 from gd 26 rfl]
   refine jC F ?_
   refine⟨by rw[aa];exact ca hp0 rfl,⟨fun h6=>?_,fun h6=>?_⟩⟩
   ·rw[aa] at h6
    exact .inl (ei.pos q (.inr (Gd h6)) _)
   rw[aa] at h6
   have q1:=ei.neg q fun z=>z.elim h5 fun z=>h6 fun e=>z (MX e)
   refine⟨by exact og wU rfl,?_⟩
   rw[show lM (some (16:Int)) (some (20:Int)) d5=da d5 16 20 from i5 16 20 rfl rfl]
   refine ju F (by have:=qL d5 16 20;exact az this B5) (by rw[kU d5 (by exact DL wU rfl)];decide) ?_
   refine⟨by exact og wU rfl,?_⟩
   rw[show lM (some (20:Int)) (some (24:Int)) d5=da d5 20 24 from i5 20 24 rfl rfl]
   refine ju F (by have:=qL d5 20 24;exact az this B5) (by rw[kU d5 (by exact DL wU rfl)];decide) ?_
   refine WV.tq (kvs:=v.known.map iW) (.inr ⟨8,rfl,.inl rfl⟩) (by rw[aa];exact oX Pp rfl) fun ns hs=>?_
   rw[dy] at hs
   exact .inl (q1 _ ns hs)
end
end
section
open PySem PySem.W PySem.Calls PyProof.Rows
noncomputable def bK (xs:List Int):Prop:=∀x∈xs,0≤x∧x<256
theorem bK.nil:bK []:=fun x h=>by cases h
theorem bK.cons {x:Int}{xs:List Int}(h:0≤x∧x<256) (hs:bK xs):bK (x::xs):=fun y hy=>by
 rcases br.mp hy with rfl | hy
 ·exact h
 ·exact hs y hy
theorem bK.app {xs ys:List Int}(h:bK xs) (h':bK ys):bK (xs++ys):=fun y hy=>by
 rcases eG.mp hy with hy | hy
 ·exact h y hy
 ·exact h' y hy
theorem bK.rep {x:Int}{k:Nat}(h:0≤x∧x<256):bK (bH k x):=fun y hy=>by
 rw[yU hy];exact h
theorem o9 {xs ys:List Int}:xs.map AV.int++ys.map AV.int=(xs++ys).map .int:=aF.symm
theorem xu {k:Nat}{x:Int}:(bH k [AV.int x]).flatten=(bH k x).map .int:=by
 induction k with
 |zero=>rfl
 |succ k ih=>rw[i8,Jl,ih,i8];rfl
theorem cF {f:Nat→Nat}{xs:List Int}:ip f (aZ xs)=aZ xs:=congrArg ag.list (fh fun _=>rfl)
structure kC (t:Nat) (a n r:Int):Prop where
 ha:0≤a
 hn:0≤n
 hnt:n≤t
 hr:0≤r
 QW:r<1000003
theorem uE {x:Int}{m:Nat}(h:x.natAbs<2^m):fc x≤m:=intBits_le_iff.mpr h
noncomputable def Tw:AV→AV
 |.int i=>.int (if i<0 then -i else i)
 |_=>.none
theorem FR (ns:List Int):(ns.map AV.int).map Tw=(ns.map fun i=>if i<0 then -i else i).map .int:=by
 rw[dy,dy];rfl
theorem o7 {a b:Int}:(fG a b (-1)).length=(a-b).toNat:=by
 unfold fG;rw[aa,a8];unfold cT;simp;exact F9
theorem tg {a b:Int}{i:Nat}{x:AV}(h:(fG a b (-1))[i]?=some x):i<(a-b).toNat∧x=.int (a-i):=by
 refine bG (vh h) fun h1 h2=>?_
 rw[o7] at h1
 exact⟨h1,by rw[h2];congr 1;lia⟩
section
variable {c:Cx}{d n m t:Nat}{H T A:List ag}{Q:AV→List ag→Prop}{X:List ag→Prop}{op:Nat}{a r k:Int}{f:ai}{as:List AV}
theorem WV.To {B:aU}{env:dI}{l:Loc}(q:∀k:Int,k=1000000000000000000→Q (.int k) H):WV c d B env (fun vs=>fb .Pow (vs[0]?.getD .none) (vs[1]?.getD .none)) [.int 10,.int 18] l H Q X:=
 WV.AY (i:=10) (n:=18) (by decide) (by decide +kernel) (q _ (by decide +kernel))
theorem oI (i n:Nat) (h:i<n∧n≤1000000):((0:Int)≤(i:Int)∧(i:Int)<(n:Int))∧n≤1000000:=⟨⟨by exact ll,by exact aW [_,_] [] [.T aB aM] (.t aB aM) cK rfl h.1⟩,h.2⟩
theorem WC.one {x:List Int}{g:AV→List AV}(hn:H[n]?=some (aZ x)) (ho:ku 1 (g (.obj 0))=true) (hr:j6 (([n]:List Nat).getD · 0) (g (.obj 0))=g (.obj n)){R:AV→List Int→List Int→Prop}
  (w:WC c d f (g (.obj 0)) [aZ x] (fun v G=>(∃i,v=.int i∧∃y,G=[aZ y]∧R v y [])∨(v=.obj 1∧∃y z,G=[aZ y,aZ z]∧R v y z)) fun _=>False)
  (q1:∀i y,R (.int i) y []→Q (.int i) (H.set n (aZ y))) (q2:∀y z,R (.obj 1) y z→Q (.obj H.length) (H.set n (aZ y)++[aZ z])):WC c d f (g (.obj n)) H Q X:=by
 refine WC.frame [n] (H₀:=[aZ x]) ⟨rfl,by simp,fun{i k y} e1 e2=>?_⟩ hr.symm ho w ?_ fun _ h=>h.elim
 ·cases i with
  |zero=>replace e1:=ae e1;subst e1;replace e2:=ae e2;subst e2;exact⟨fB,by rw[hn,cF]⟩
  |succ i=>exact nS e1
 ·rintro v G (⟨i,rfl,y,rfl,h⟩ | ⟨rfl,y,z,rfl,h⟩)
  ·show Q (.int i) (H.set n (ip _ (aZ y))++[])
   rw[cF,cM]
   exact q1 i y h
  ·show Q (.obj (H.length+(1-1))) (H.set n (ip _ (aZ y))++[ip _ (aZ z)])
   rw[cF,cF]
   exact q2 y z h
theorem fX (F:eX c){hH:Int}(hn:H[n]?=some (aZ [a,k,r])) (hb:kC t a k r) (ht:t≤100000) (hm:0<hH) (YD:hH<1073741824)
  (q:∀v a k r,0≤v→v<hH→kC (t+1) a k r→Q (.int v) (H.set n (aZ [a,k,r]))):WC c (d+1) (.ref 476) [.obj n,.int hH] H Q X:=by
 refine WC.one (g:=fun x=>[x,.int hH]) hn rfl rfl (R:=fun v y z=>∃i a k r,v=.int i∧y=[a,k,r]∧0≤i∧i<hH∧kC (t+1) a k r) ?_ ?_ ?_
 ·obtain⟨h1,h2,h3,h4,h5⟩:=hb
  refine WC.v F rfl rfl fun A env E=>?_
  refine⟨by decide,_,rfl,?_⟩
  refine WV.To fun k18 aap=>?_
  refine⟨fun h=>?_,fun h=>?_⟩
  ·refine⟨by decide,_,rfl,⟨hm,?_⟩⟩
   refine⟨by decide,_,rfl,⟨⟨hm,YD⟩,⟨oI 0 3 (by decide),?_⟩⟩⟩
   have h0:=lE a (show hH≠0 from Int.ne_of_gt hm)
   have h1:=jF a hm
   have h2:0≤a / hH:=Int.ediv_nonneg (by assumption) (iZ hm)
   exact .inl (.inl ⟨_,rfl,_,rfl,_,_,_,_,rfl,rfl,h0,h1,h2,by assumption,by exact Ba h3,by assumption,by assumption⟩)
  ·refine⟨by decide,_,rfl,⟨oI 1 3 (by decide),?_⟩⟩
   refine⟨by decide,_,rfl,?_⟩
   refine⟨by decide,_,rfl,⟨.of_left (by decide),?_⟩⟩
   have Tj:fc (r+7103*(k+1)+20023)≤64:=uE (So h2 h3 h4 h5 ht)
   refine WV.AY (by decide) (RR Tj) ?_
   refine⟨by decide,?_⟩
   generalize (r+7103*(k+1)+20023)^(5:Int).toNat=Zk
   have hx0:=lE Zk (show(2147483647:Int)≠0 by decide)
   have hx1:=jF Zk (show(0:Int)<2147483647 by decide)
   generalize Zk%2147483647=Ni at *
   refine⟨.of_left (uE (Nat.lt_trans (B3 hx0 hx1) (by decide))),⟨by decide,⟨⟨by decide,by decide⟩,⟨hm,?_⟩⟩⟩⟩
   generalize Ni*Ni%2147483563 / 16=w
   have h0:=lE w (show hH≠0 by exact aW [] [_] [.t dF bJ] (.N (.e bJ dF)) cN rfl hm)
   have h1:=jF w hm
   exact .inl (.inl ⟨_,rfl,_,rfl,_,_,_,_,rfl,rfl,h0,h1,by assumption,by exact aW [] [_] [.l dF bJ] (.l dF (.a bJ bP)) cK rfl h2,by exact aW [_] [_] [.l bJ aB] (.l (.a bJ bP) (.c (.a aB bP))) cK rfl h3,by assumption,by assumption⟩)
 ·intro i y lH
  refine fW lH fun i a jX=>?_
  clear lH
  refine gc jX fun k r e iu h1 h2 h3=>?_
  subst iu
  cases e
  exact q _ _ _ _ h1 h2 h3
 ·intro y z mr
  refine fW mr fun i a j5=>?_
  clear mr
  refine cD j5 fun k r e _=>?_
  cases e
theorem HA (i:Int):0≤if i<0 then -i else i:=by rw[ite_abs];exact ll
theorem Pg (xs:List Int):0≤(xs.map fun i=>if i<0 then -i else i).sum:=by
 induction xs with
 |nil=>exact dR _
 |cons x xs ih=>exact qR (HA x) ih
theorem Bh (F:eX c){ns:List Int}(hn:H[n]?=some (aZ ns)) (hz:ns.length≤4) (hk:0≤k∧k≤10) (q:∀a k r,kC 0 a k r→Q (.obj H.length) (H++[aZ [a,k,r]])):WC c (d+1) (.ref 469) [.obj n,.int k] H Q X:=by
 refine WC.one (g:=fun x=>[x,.int k]) hn rfl rfl (R:=fun v y z=>v=.obj 1∧y=ns∧∃a k r,z=[a,k,r]∧kC 0 a k r) ?_ ?_ ?_
 ·refine WC.v F rfl rfl fun A env E=>?_
  refine⟨by rw[aa];exact ca hz rfl,⟨fun h=>?_,fun h=>?_⟩⟩
  ·rw[aa] at h
   refine⟨⟨by exact hk.1,by exact aW [] [_] [.l bJ (.l 10)] (.t bJ D1) cK rfl hk.2⟩,_,gn (j:=k.toNat) (by exact aW [_,_] [_] [.l dF bJ,.t bJ aB,.ft aM bJ] (.T aM aB) (.o jN rk) rfl hk.1 h (kQ _)),?_⟩
   refine⟨by decide,.inl (.inr ⟨rfl,ns,_,rfl,rfl,rfl,_,_,_,rfl,HA _,dR _,dR _,by exact aW [] [_,_,_] [.fD 1000003 bJ dO hO] (.l dF dO) cN rfl (ke 1000003 _ rfl),by exact aW [] [_,_,_] [.fD 1000003 bJ dO hO] (.t dO (.l 1000003)) cK rfl (ke 1000003 _ rfl)⟩)⟩
  ·refine⟨.of_left (by decide),?_⟩
   refine WE.lc F [92,91,99,93] E 1 Tw (by rfl) (by decide +kernel) (by rfl) ?_
   refine⟨⟨fun _=>rfl,by rw[aa];exact ca hz rfl⟩,fun cenv i v acc hv=>?_,?_⟩
   ·rw[aK] at hv
    refine aq (bB.mp hv) fun u _ iu=>?_
    subst iu
    exact⟨rfl,rfl⟩
   ·rw[FR]
    refine WV.WK (by rfl) ?_
    have:=Pg ns
    generalize (ns.map fun i=>if i<0 then -i else i)=ys at *
    refine⟨by decide,⟨by decide,?_⟩⟩
    have r5:0≤7919*k+20011+ys.sum%99991:=by exact aW [] [_,_,_,_] [.l dF bJ,.fD 99991 dO hO xB] (.l dF (.a (.a (.m 7919 bJ) (.l 20011)) hO)) (.k [1,0,1,0,0,7919]) rfl hk.1 (ke 99991 _ rfl)
    refine .inr ⟨[0,2],.obj 1,[aZ ns,aZ [7919*k+20011+ys.sum%99991,0,(7919*k+20011+ys.sum%99991)%1000003]],fun n hn=>?_,⟨rfl,by decide,fun{i m x} e1 e2=>?_⟩,rfl,rfl,.inr ⟨rfl,ns,_,rfl,rfl,rfl,_,_,_,rfl,r5,dR _,dR _,by exact aW [] [_,_,_,_] [.fD 1000003 bJ dO (.a (.a (.m 7919 hO) (.l 20011)) xB)] (.l dF dO) cN rfl (ke 1000003 _ rfl),by exact aW [] [_,_,_,_] [.fD 1000003 bJ dO (.a (.a (.m 7919 hO) (.l 20011)) xB)] (.t dO (.l 1000003)) cK rfl (ke 1000003 _ rfl)⟩⟩
    ·have hn:n<1:=hn
     rw[show n=0 by exact aW [_] [] [.T aB bP] (.E aB dF) (.o nt cK) rfl hn];rfl
    ·rcases i with _ | _ | i
     ·replace e1:=ae e1;subst e1;replace e2:=ae e2;subst e2;exact⟨fB,by rw[cF];rfl⟩
     ·replace e1:=ae e1;subst e1;replace e2:=ae e2;subst e2;exact⟨rfl,rfl⟩
     ·exact nS e1
 ·intro i y nU
  obtain⟨e,_⟩:=nU
  cases e
 ·intro y z pY
  refine bQ pY fun _ j4 mI=>?_
  clear pY
  refine eC mI fun a k r nF h=>?_
  subst j4
  subst nF
  rw[show H.set n (aZ y)=H by obtain⟨hk,e⟩:=ao.mp hn;rw[←e];exact Cs hk]
  exact q a k r h
noncomputable def RX (v:Int):AV→AV
 |.int i=>.int (v / 2^(8*i).toNat%256)
 |_=>.none
theorem IW (v:Int) (xs:List AV) (h:∀x∈xs,∃i,x=.int i):∃ys:List Int,xs.map (RX v)=ys.map .int∧bK ys∧ys.length=xs.length:=by
 induction xs with
 |nil=>exact⟨[],rfl,bK.nil,rfl⟩
 |cons x xs ih=>
  refine al (h x aI) fun i j5=>?_
  subst j5
  exact aL (ih fun y hy=>h y (aG _ hy)) fun ys e1 e2 e3=>⟨(v / 2^(8*i).toNat%256)::ys,congrArg _ e1,bK.cons ⟨lE _ (by decide),jF _ (by decide)⟩ e2,congrArg _ e3⟩
theorem ky (F:eX c){v:Int}{room:Nat}{ri:Int}(tN:ri=room) (hr:room≤100) (q:∀xs,bK xs→xs.length=room→Q (.obj H.length) (H++[aZ xs])):WC c (d+1) (.ref 481) [.int v,.int ri] H Q X:=by
 subst tN
 refine WC.new rfl rfl ?_
 refine WC.v F rfl rfl fun A env E=>?_
 refine WE.lc F [106] E 0 (RX v) (by rfl) (by decide +kernel) (by rfl) ?_
 refine⟨rfl,⟨⟨.inr rfl,⟨by exact aW [_] [] [] (.l (.n tG) (.s aB bP)) nt rfl,by exact aW [_] [] [.L aB (.l 100)] (.t (.s aB bP) tG) cK rfl hr⟩,by exact⟨(by decide),(by decide)⟩⟩,?_⟩⟩
 refine⟨⟨fun _=>trivial,by rw[o7];exact aW [_,_] [] [.L aB (.l 100),.ft aM (.s (.s aB bP) (.n bP))] (.L aM jg) (.o jN cN) rfl hr (kQ _)⟩,fun cenv i w acc hw=>?_,?_⟩
 ·refine bG (tg hw) fun hi j4=>?_
  subst j4
  exact⟨.of_left (by decide),⟨by exact aW [_,_,_] [] [.T aB aM,.ft aM (.s (.s cg bP) (.n bP))] (.l dF (.m 8 (.s (.s cg bP) aB))) (.o (.k [1,0,8,0,8]) (.k [0,0,1,0,1])) rfl hi (kQ _),⟨by decide,⟨rfl,rfl⟩⟩⟩⟩
 ·obtain⟨ys,e1,e2,e3⟩:=IW v (fG ((room:Int)-1) (-1) (-1)) (fun x hx=>by
   refine al (eO.mp hx) fun i hi=>?_
   exact⟨_,(tg hi).2⟩)
  rw[e1]
  have q:=q ys e2 (by rw[e3,o7];exact aW [_,_] [] [.ft aB (.s (.s aM bP) (.n bP))] (.E aB aM) (.o (.o jf cN) (.o cK cN)) rfl (kQ _))
  rw[←cF (f:=fr [] H.length)] at q
  exact .inl q
end
end
section
open PySem PySem.W PySem.Calls PyProof.Rows
section
variable {c:Cx}{d n m t:Nat}{H T A G:List ag}{Q QR:AV→List ag→Prop}{X:List ag→Prop}{op:Nat}{a r k:Int}{f:ai}{as:List AV}{l:Loc}
theorem A4 {N n k:Nat}(h:n<N):(bh N++[k]).getD n 0=n:=by
 rw[bt,aC (by rw[a8];exact h),cJ h];rfl
theorem tE.qg {k:Nat}{xs:List Int}(e:H=A++G) (hk:H[k]?=some (aZ xs)) (hA:A.length≤k) (h:tf A.length A=true) (h':tf (A.length+1) A=true):tE (bh A.length++[k]) (A++[aZ xs]) H:=by
 refine⟨by rw[ah,ah,a8];rfl,?_,fun{i n x} e1 e2=>?_⟩
 ·rw[m7]
  refine⟨uq,by simp,fun x hx y hy=>?_⟩
  rw[cU.mp hy]
  have:=dg.mp hx
  exact bV (aV this hA)
 ·rw[ah,a8,bA]
  by_cases hi:i<A.length
  ·rw[aC (by rw[a8];exact hi),cJ hi] at e1
   replace e1:=ae e1
   subst e1
   rw[aC hi] at e2
   have o:=ba.mp h x (a9 e2)
   exact⟨ba.mp h' x (a9 e2),by rw[xJ (fun n hn=>A4 hn) o,e,aC hi,e2]⟩
  ·have Jr:=(ao.mp e2).1
   rw[ah,bA] at Jr
   have Jr:i=A.length:=by exact aW [_,_] [] [.N (.T aB aM),.T aB (.a aM bP)] (.E aB aM) (.o cN cK) rfl hi Jr
   subst Jr
   rw[aY (by rw[a8];exact aA _),a8,gZ] at e1
   rw[aY (aA _),gZ] at e2
   replace e1:=ae e1;subst e1;replace e2:=ae e2;subst e2
   exact⟨fB,by rw[cF];exact hk⟩
theorem dT.qg (A G:List ag) (k:Nat) (xs:List Int) (e:H=A++G) (hk:H[k]?=some (aZ xs)) (hA:A.length≤k) (h:tf A.length A=true) (h':tf (A.length+1) A=true) (hm:m≤A.length) (q:QR (.obj A.length) (A++[aZ xs])):dT m (qE QR) (.ret (.obj k)) l H:=by
 refine .inr ⟨bh A.length++[k],.obj A.length,A++[aZ xs],fun n hn=>?_,tE.qg e hk hA h h',?_,?_,q⟩
 ·rw[aC (by rw[a8];exact aV hn hm),cJ (by exact aV hn hm)]
 ·unfold rM
  rw[ah,a8]
  exact eR (by simp)
 ·unfold mD
  rw[bt,aY (by rw[a8];exact aA _),a8,gZ];rfl
theorem Ea {f:Nat→Nat}{σ:List Nat}:∀{H xs ys:List ag},xs.length=σ.length→putAt f σ H (xs++ys)=putAt f σ H xs:=by
 induction σ with
 |nil=>exact fun{_ _ _} _=>rfl
 |cons n σ ih=>
  intro H xs ys h
  cases xs with
  |nil=>exact absurd h (om _).symm
  |cons x xs=>exact ih (qZ h)
theorem WC.TQ {R:List ag→List Int→Prop}(h:tf A.length A=true) (ha:ku A.length as=true)
  (w:WC c d f as A (fun v G=>∃A' xs,v=.obj A.length∧G=A'++[aZ xs]∧(A'.length=A.length∧tf A.length A'=true)∧R A' xs) fun _=>False)
  (q:∀A' xs,A'.length=A.length→R A' xs→Q (.obj (A++T).length) (A'++T++[aZ xs])):WC c d f as (A++T) Q X:=by
 refine WC.frame (bh A.length) (tE.take h) ((xW (fun n hn=>oQ hn) ha).symm) (by rw[a8];exact ha) w ?_ fun _ h=>h.elim
 intro v G lH
 refine b9 lH fun A' xs gC iu jX hr=>?_
 clear lH
 refine bG jX fun h1 h2=>?_
 subst gC
 subst iu
 have e1:put (bh A.length) (A++T) (A'++[aZ xs])=A'++T++[aZ xs]:=by
  unfold put
  rw[a8,Ea (by rw[a8,h1]),←h1,List.drop_left,List.map_singleton,cF,kS]
  have:=sW (f:=fr (vY 0 A'.length) (A++T).length) (k:=A'.length) (fun n hn=>by rw[←kS];exact FD hn) (j:=0) (H₀:=A') (P:=[]) (S:=A) (T:=T) (by exact aW [_] [] [] (.L (.a dF aB) aB) nt rfl) (by rw[h1];exact h2) rfl h1.symm
  exact congrArg (·++[aZ xs]) this
 have e2:mD (fr (bh A.length) (A++T).length) (.obj A.length)=.obj (A++T).length:=by
  unfold mD fr
  rw[cH (by rw[a8];exact aA _),a8,gZ];rfl
 rw[e1,e2]
 exact q A' xs h1 hr
end
noncomputable abbrev F3 (dm:Int) (nm:bu) (ck:Int) (ws:List (Int×Int)) (T:List ag):List ag:=jn dm nm ck 2 1::.dict (ws.map eQ)::nA::T
theorem k6 {k:Nat}:∀{ws:List (Int×Int)},kW k (ws.map eQ)=true:=by
 intro us
 induction us with
 |nil=>
  exact rfl
 |cons p ws ih=>
  rw[bY];unfold eQ kW;exact ih
section
variable {c:Cx}{d n m t:Nat}{H T A G:List ag}{Q QR:AV→List ag→Prop}{X:List ag→Prop}{op:Nat}{a r k dm ck:Int}{f:ai}{as:List AV}{l:Loc}{nm:bu}{ws:List (Int×Int)}
theorem OT:tf 3 (F3 dm nm ck ws [])=true:=by
 show(true&&(kW 3 (ws.map eQ)&&(true&&true)))=true
 rw[k6];rfl
theorem S2:tf 4 (F3 dm nm ck ws [])=true:=by
 show(true&&(kW 4 (ws.map eQ)&&(true&&true)))=true
 rw[k6];rfl
theorem Bj (F:eX c){room:Nat}{x y:Int}(nr:dm=3∨dm=200) (hr:1≤room∧room≤4){codes:List UInt8}(qf:nm.cps.toList.map (fun(u:Nat)=>(u:Int))=codes.map (fun x=>(x.toNat:Int))) (hz:nm.cps.size≤10)
  (q:∀xs,bK xs→xs.length≤40→Q (.obj 3) (F3 dm nm ck ws [aZ xs])):WC c (d+2) (.ref 486) [.obj 0,.int room,.tup [.int x,.int y]] (F3 dm nm ck ws []) Q X:=by
 refine WC.v F rfl rfl fun A env E=>?_
 refine ky F (room:=4) rfl (by decide) fun x1 o1 l1=>?_
 refine ky F (room:=4) rfl (by decide) fun x2 o2 l2=>?_
 refine⟨by rw[aa,aa,l1,l2];decide,?_⟩
 refine ky F (room:=4) rfl (by decide) fun x3 o3 l3=>?_
 rw[o9]
 refine⟨by rw[aa,aa,ah,l1,l2,l3];decide,?_⟩
 refine ky F (room:=room) rfl (by exact ca hr.2 rfl) fun x4 o4 l4=>?_
 have Um:nm.length≤10:=hz
 refine⟨by rw[aa,l4];exact az (gI hr.2 1) (by decide),?_⟩
 refine⟨by simp only[ah,aa,cC,jl];exact aW [_,_,_,_,_] [] [.L aB iI,.E aM iI,.E cg iI,.E fz iI,.E ji aB] (.L (.a (.a bP ji) (.a (.a aM cg) fz)) jg) (.k [1,1,0,1,0,1,0,1,0,1]) rfl hr.2 l1 l2 l3 l4,?_⟩
 refine⟨by exact ca Um rfl,?_⟩
 refine⟨by simp only[ah,aa,cC,jl];exact aW [_,_,_,_,_] [] [.L aB iI,.E aM iI,.E cg iI,.E fz iI,.E ji aB] (.L (.a (.a (.a bP ji) (.a (.a aM cg) fz)) jL) jg) (.k [1,1,0,1,0,1,0,1,0,1]) rfl hr.2 l1 l2 l3 l4,?_⟩
 refine WE.lc F [67,92,98] E 3 EH (by rfl) (by decide +kernel) (by rfl) ?_
 refine⟨⟨fun _=>trivial,by rw[aa,dw];exact ca hz rfl⟩,fun cenv i v acc hv=>?_,?_⟩
 ·refine al (rK hv) fun u gC=>?_
  subst gC
  exact⟨_,rfl,rfl,rfl⟩
 ·rw[Io,qf]
  have hcz:codes.length≤10:=by
   have:=congrArg m8 qf
   rw[aa,aa,dw] at this
   exact aW [_,_] [] [.L aB (.l 10),.E aB aM] (.L aM (.l 10)) (.k [1,0,1,1]) rfl hz this
  have hoc:bK (codes.map fun x=>(x.toNat:Int)):=by
   intro z hz
   refine aq (dJ.mp hz) fun w _ iu=>?_
   subst iu
   have:=w.toNat_lt
   exact aW [_] [] [.T aB (.l 256)] (.A (.l dF aB) (.t aB (.l 256))) (.o nt cK) rfl this
  have Rx:(codes.map fun x=>(x.toNat:Int)).length≤10:=by rw[aa];exact hcz
  generalize (codes.map fun x=>(x.toNat:Int))=WH at *
  refine⟨by simp only[ah,aa,cC,jl];exact aW [_,_,_,_,_,_] [] [.L aB iI,.E aM iI,.E cg iI,.E fz iI,.E ji aB,.L qD (.l 10)] (.L (.a (.a (.a (.a bP ji) (.a (.a aM cg) fz)) jL) qD) jg) (.k [1,1,1,0,1,0,1,0,1,0,1]) rfl hr.2 l1 l2 l3 l4 Rx,?_⟩
  have e:[AV.int (242+(room:Int))]++x4.map AV.int++((x1++x2).map AV.int++x3.map AV.int)++[AV.int 0,AV.int (nm.length:Int)]++WH.map AV.int=([242+(room:Int)]++x4++(x1++x2++x3)++[0,(nm.length:Int)]++WH).map .int:=by
   simp only[aF];rfl
  refine dT.qg (F3 dm nm ck ws []) _ 15 ([242+(room:Int)]++x4++(x1++x2++x3)++[0,(nm.length:Int)]++WH) (by rfl) (congrArg (fun v=>some (ag.list v)) e) (by exact(by decide:3≤15)) OT S2 (aA _) (q _ ?_ ?_)
  ·exact((((bK.cons (by exact aW [_] [] [.L aB iI] (.A (.l dF (.a (.l 242) aB)) (.t (.a (.l 242) aB) (.l 256))) (.o nt cK) rfl hr.2) bK.nil).app o4).app ((o1.app o2).app o3)).app (bK.cons (by exact⟨(by decide),(by decide)⟩) (bK.cons (by exact aW [_] [] [.L aB (.l 10)] (.A (.l dF aB) (.t aB (.l 256))) (.o nt cK) rfl Um) bK.nil))).app hoc
  ·simp only[ah,cC,jl];exact aW [_,_,_,_,_,_] [] [.L aB iI,.E aM iI,.E cg iI,.E fz iI,.E ji aB,.L qD (.l 10)] (.L (.a (.a (.a (.a bP ji) (.a (.a aM cg) fz)) jL) qD) (.l 40)) (.k [1,1,1,0,1,0,1,0,1,0,1]) rfl hr.2 l1 l2 l3 l4 Rx
theorem C1 (F:eX c){room:Nat}{ri x y:Int}(tN:ri=room) (nr:dm=3∨dm=200) (hr:1≤room∧room≤4){codes:List UInt8}(qf:nm.cps.toList.map (fun(u:Nat)=>(u:Int))=codes.map (fun x=>(x.toNat:Int))) (hz:nm.cps.size≤10)
  (q:∀xs,bK xs→xs.length≤40→Q (.obj (F3 dm nm ck ws T).length) (F3 dm nm ck ws T++[aZ xs])):WC c (d+2) (.ref 486) [.obj 0,.int ri,.tup [.int x,.int y]] (F3 dm nm ck ws T) Q X:=by
 subst tN
 exact WC.TQ (A:=F3 dm nm ck ws []) (T:=T) (R:=fun A xs=>A=F3 dm nm ck ws []∧bK xs∧xs.length≤40) OT rfl (Bj F nr hr qf hz fun xs o l=>⟨_,xs,rfl,rfl,⟨rfl,OT⟩,rfl,o,l⟩) fun A xs _ ⟨e,o,l⟩=>by subst e;exact q xs o l
end
end
section
open PySem PySem.W PySem.Calls PyProof.Rows
noncomputable abbrev lg:=List (Int×Int×Int)
noncomputable def kH (p:Int×Int×Int):Int×AV:=(p.1,.tup [.int p.2.1,.int p.2.2])
theorem hB {ds:lg}{k:Int}:(ds.map kH).lookup k=(ds.lookup k).map fun p=>.tup [.int p.1,.int p.2]:=by
 induction ds with
 |nil=>rfl
 |cons p ds ih=>
  obtain⟨a,b⟩:=p
  simp only[bY,kH,dK] at ih ⊢
  cases k==a<;>simp[ih]
theorem fE {k:Nat}:∀{ds:lg},kW k (ds.map kH)=true:=by
 intro us
 induction us with
 |nil=>
  exact rfl
 |cons p ds ih=>
  rw[bY];unfold kH kW;exact ih
theorem rY {f:Nat→Nat}:∀{ds:lg},nW f (ds.map kH)=ds.map kH:=by
 intro us
 induction us with
 |nil=>
  exact rfl
 |cons p ds ih=>
  rw[bY];unfold kH nW;exact congrArg _ ih
structure kB (ds:lg):Prop where
 nd:(ds.map (·.1)).Nodup
 ks:∀k∈ds.map (·.1),k=3∨k=200
theorem kB.nil:kB []:=⟨gF,fun _ h=>by cases h⟩
theorem kB.le {ds:lg}(h:kB ds):ds.length≤2:=by
 have:=BB h.nd h.ks
 rwa [aa] at this
theorem kB.snoc {ds:lg}{k:Int}{v:Int×Int}(h:kB ds) (hk:ds.lookup k=none) (h3:k=3∨k=200):kB (ds++[(k,v)]):=by
 refine⟨?_,fun x hx=>?_⟩
 ·rw[aF,m7]
  refine⟨h.nd,by simp,fun x hx y hy=>?_⟩
  simp at hy
  subst hy
  refine aq (dJ.mp hx) fun p hp iu=>?_
  subst iu
  rw[gG] at hk
  have:=hk p hp
  simp at this
  exact fun q=>this q.symm
 ·rw[aF,eG] at hx
  rcases hx with hx | hx
  ·exact h.ks x hx
  ·simp at hx;subst hx;exact h3
theorem C4 {ds:lg}{k:Int}{v:Int×Int}(h:ds.lookup k=none):ml k (.tup [.int v.1,.int v.2]) (ds.map kH)=(ds++[(k,v)]).map kH:=by
 rw[vb (by rw[hB,h];rfl),aF];rfl
theorem sY {β:Type}{l:List (Int×β)}{k:Int}{v:β}(h:l.lookup k=none):(l++[(k,v)]).lookup k=some v:=by
 rw[List.lookup_append,h];simp[dG]
noncomputable abbrev VH (k:Nat) (ch dep deep:Int):ag:=.list [.int ch,.int dep,.obj k,.int deep]
structure wF (t:Nat) (ch dep deep:Int):Prop where
 c:ch=0∨ch=3∨ch=200
 d0:0≤dep
 d1:dep≤t
 e0:0≤deep
 e1:deep≤t
noncomputable def qI:List eF:=(iK (df 57)).drop 2
section
variable {c:Cx}{d n m t:Nat}{H T A G:List ag}{Q QR:AV→List ag→Prop}{X:List ag→Prop}{op:Nat}{a r k dm ck:Int}{f:ai}{as:List AV}{l:Loc}{nm:bu}{ws:List (Int×Int)}{ds:lg}{ch dep deep one two:Int}
noncomputable abbrev SH (dm:Int) (nm:bu) (ck:Int) (ws:List (Int×Int)) (ds:lg) (ch dep deep:Int) (T:List ag):List ag:=F3 dm nm ck ws (.dict (ds.map kH)::VH 3 ch dep deep::T)
theorem J4 {k:Nat}(hk:k=5∨k=6):tf k (SH dm nm ck ws ds ch dep deep [])=true:=by
 rcases hk with rfl | rfl
 ·show(true&&(kW 5 (ws.map eQ)&&(true&&(kW 5 (ds.map kH)&&(true&&true)))))=true
  rw[k6,fE];rfl
 ·show(true&&(kW 6 (ws.map eQ)&&(true&&(kW 6 (ds.map kH)&&(true&&true)))))=true
  rw[k6,fE];rfl
theorem iG {vs:List AV}{xs:List Int}(e:vs=xs.map .int):ag.list vs=aZ xs:=congrArg ag.list e
theorem s5 (F:eX c){B:aU}{env:dI}{j:Nat}{xs:List Int}(hl:l=[some (.obj 4),some (.obj 0),some (.int one),some (.int two),some (.obj j)]) (hj:listAt (SH dm nm ck ws ds dm dep deep T) j=some (xs.map .int)) (nr:dm=3∨dm=200) (ho:bK xs) (hx:xs.length≤40)
  (h2:0≤two∧two<8) (q:∀xs,bK xs→xs.length≤60→Q (.obj 5) (SH dm nm ck ws ds dm dep deep [aZ xs])) :
  vS ⟨c,d+2,B,env,X⟩ (gx (df 57) [68,67]) (n+20) 5 qI l (SH dm nm ck ws ds ch dep deep T) (dT 5 (qE Q)):=by
 subst hl
 refine⟨oI 0 4 (by decide),?_⟩
 rw[show(SH dm nm ck ws ds ch dep deep T).set 4 (.list ([AV.int ch,.int dep,.obj 3,.int deep].set (Me 0) (.int dm)))=SH dm nm ck ws ds dm dep deep T from rfl]
 apply hU True
 ·intro key
  refine⟨fun ha=>⟨fun hb=>?_,fun hb=>by(conv=>whnf);exact key trivial⟩,fun ha=>key trivial⟩
  refine hY (cQ hj) (hY (bI) ⟨by rw[aa];exact az (cS hx 1) (by decide),?_⟩)
  refine dT.qg (SH dm nm ck ws ds dm dep deep []) _ _ (xs++[171+dm]) (by rfl) ((At.last rfl).trans (congrArg some (iG (by rw[aF];rfl)))) (ay 5 _) (J4 (.inl rfl)) (J4 (.inr rfl)) (aA _) (q _ ?_ ?_)
  ·exact ho.app (bK.cons (by exact aW [] [_] [.O (.e bJ pQ) (.e bJ (.l 200)),.t bJ (.l 64)] (.A (.l dF (.a (.l 171) bJ)) (.t (.a (.l 171) bJ) (.l 256))) (.o (.o jf cN) (.o jf (.k [0,1,0,1]))) rfl nr ha) bK.nil)
  ·rw[ah,bA];exact dk (oX hx rfl)
 ·intro _
  refine⟨by decide,?_⟩
  refine hY (cQ hj) (hY (bI) ⟨by rw[aa];exact az (cS hx 1) (by decide),?_⟩)
  refine⟨by decide,?_⟩
  refine ky F (room:=(1+two%4).toNat) (by exact aW [_] [_,_,_] [.fD 4 bJ dO hO,.ft aB (.a bP dO)] (.e (.a bP dO) aB) (.o (.o cN jf) (.o ub cK)) rfl (ke 4 _ rfl) (kQ _)) (by exact aW [_] [_,_,_] [.fD 4 bJ dO hO,.ft aB (.a bP dO)] (.L aB (.l 100)) (.o jN cN) rfl (ke 4 _ rfl) (kQ _)) fun ys o1 l1=>?_
  refine hY (cQ bI) (hY (bI) ⟨by rw[ah,aa,aa,bA,l1];exact aW [_,_] [_,_,_] [.L aB (.l 40),.fD 4 bJ dO hO,.ft aM (.a bP dO)] (.L (.a (.a aB bP) aM) jg) (.o (.k [1,0,1,0,1,0,0,0,1]) (.k [1,0,1,0,0,0,0,0,1])) rfl hx (ke 4 _ rfl) (kQ _),?_⟩)
  refine dT.qg (SH dm nm ck ws ds dm dep deep []) _ _ (xs++[235+two%4]++ys) (by rfl) ((At.last rfl).trans (congrArg some (iG (by rw[aF,aF];rfl)))) (ay 5 _) (J4 (.inl rfl)) (J4 (.inr rfl)) (aA _) (q _ ?_ ?_)
  ·exact(ho.app (bK.cons (by exact aW [] [_,_,_] [.fD 4 bJ dO hO] (.A (.l dF (.a (.l 235) dO)) (.t (.a (.l 235) dO) (.l 256))) (.o cN cK) rfl (ke 4 _ rfl)) bK.nil)).app o1
  ·rw[ah,ah,bA,l1];exact aW [_,_] [_,_,_] [.L aB (.l 40),.fD 4 bJ dO hO,.ft aM (.a bP dO)] (.L (.a (.a aB bP) aM) (.l 60)) (.o (.k [1,0,1,0,1,0,0,0,1]) (.k [1,0,1,0,0,0,0,0,1])) rfl hx (ke 4 _ rfl) (kQ _)
theorem Aq (F:eX c) (nr:dm=3∨dm=200) (NL:fc ck≤64){codes:List UInt8}(qf:nm.cps.toList.map (fun(u:Nat)=>(u:Int))=codes.map (fun x=>(x.toNat:Int))) (hz:nm.cps.size≤10)
  (pI:kB ds) (i4:wF t ch dep deep) (h1:0≤one∧one<8) (h2:0≤two∧two<8)
  (q:∀ds xs,kB ds→bK xs→xs.length≤60→Q (.obj 5) (SH dm nm ck ws ds dm dep deep [aZ xs])):WC c (d+3) (.ref 493) [.obj 4,.obj 0,.int one,.int two] (SH dm nm ck ws ds ch dep deep []) Q X:=by
 refine WC.v F rfl rfl fun A env E=>?_
 have RV:=pI.le
 refine⟨by decide,_,rfl,?_⟩
 conv=>whnf
 rw[hB,dh]
 cases xg:ds.lookup dm with
 |some v=>
  refine kN (?_:vS _ _ _ _ qI _ _ _)
  exact s5 F (xs:=[]) (T:=[.list []]) rfl (by rfl) nr bK.nil (cR _) h2 (fun xs o l=>q ds xs pI o l)
 |none=>
  have N8:=pI.snoc (v:=(1+one*65536,ck*(two%2))) xg nr
  refine⟨.of_right (by decide),⟨by decide,⟨.of_left (by exact az NL (by decide)),?_⟩⟩⟩
  refine⟨by decide,_,rfl,?_⟩
  refine⟨by rw[aa];exact ca RV rfl,?_⟩
  rw[C4 (v:=(1+one*65536,ck*(two%2))) xg]
  refine⟨by decide,?_⟩
  refine⟨by decide,_,rfl,?_⟩
  refine⟨_,by rw[hB,sY xg];rfl,?_⟩
  refine C1 F (room:=(1+one%2).toNat) (by exact aW [_] [_,_,_] [.fD 2 bJ dO hO,.ft aB (.a bP dO)] (.e (.a bP dO) aB) (.o (.o cN jf) (.o ub cK)) rfl (ke 2 _ rfl) (kQ _)) nr (by exact aW [_] [_,_,_] [.fD 2 bJ dO hO,.ft aB (.a bP dO)] (.A (.L bP aB) (.L aB iI)) (.o (.o (.k [1,0,0,1,0,1]) jN) (.o (.k [0,1,0,0,0,1]) cN)) rfl (ke 2 _ rfl) (kQ _)) qf hz fun xs o l=>?_
  refine kN (?_:vS _ _ _ _ qI _ _ _)
  exact s5 F (xs:=xs) (T:=[.list [],aZ xs]) rfl (by rfl) nr o l h2 (fun xs o l=>q _ xs N8 o l)
end
end
section
open PySem PySem.W PySem.Calls PyProof.Rows
section
variable {c:Cx}{d n m t:Nat}{H T A G:List ag}{Q QR:AV→List ag→Prop}{X:List ag→Prop}{op:Nat}{a r k dm ck:Int}{f:ai}{as:List AV}{l:Loc}{nm:bu}{ws:List (Int×Int)}{ds:lg}{ch dep deep one two:Int}
noncomputable abbrev BL (ds:lg) (ch dep deep:Int) (T:List ag):List ag:=FL (.dict (ds.map kH)::VH 7 ch dep deep::T)
theorem DX (F:eX c) (hn:n=1∨n=2) (pI:kB ds) (i4:wF t ch dep deep) (h1:0≤one∧one<8) (h2:0≤two∧two<8)
  (q:∀ds dm xs,(dm=3∨dm=200)→kB ds→bK xs→xs.length≤60→Q (.obj (BL ds ch dep deep T).length) (BL ds dm dep deep T++[aZ xs])):WC c (d+3) (.ref 493) [.obj 8,.obj n,.int one,.int two] (BL ds ch dep deep T) Q X:=by
 have ed:∀{f:Nat→Nat}{ds:lg},ip f (.dict (ds.map kH))=.dict (ds.map kH):=fun{f ds}=>congrArg ag.dict rY
 rcases hn with rfl | rfl
 ·refine WC.frame [1,3,5,7,8] (H₀:=SH 3 "fc" 0 tj ds ch dep deep []) (.of rfl (by decide) ?_) (as₀:=[.obj 4,.obj 0,.int one,.int two]) rfl rfl
   (Q₀:=fun v G=>v=.obj 5∧∃ds xs,kB ds∧bK xs∧xs.length≤60∧G=SH 3 "fc" 0 tj ds 3 dep deep [aZ xs]) (X₀:=fun _=>False)
   (Aq F (.inl rfl) (by decide +kernel) (codes:=[102,99]) (by decide +kernel) (by decide +kernel) pI i4 h1 h2 fun ds xs a b e=>⟨rfl,ds,xs,a,b,e,rfl⟩) ?_ fun _ h=>h.elim
  ·exact⟨⟨rfl,rfl⟩,⟨rfl,rfl⟩,⟨rfl,rfl⟩,⟨fE,by rw[ed];rfl⟩,⟨rfl,rfl⟩,trivial⟩
  ·intro v G lH
   refine bG lH fun gC jX=>?_
   clear lH
   refine b9 jX fun Li xs a b e iu=>?_
   subst gC
   subst iu
   have q:=q Li 3 xs (.inl rfl) a b e
   unfold BL at q
   rw[←ed (f:=fr [1,3,5,7,8] (BL ds ch dep deep T).length),←cF (f:=fr [1,3,5,7,8] (BL ds ch dep deep T).length)] at q
   exact q
 ·refine WC.frame [2,4,6,7,8] (H₀:=SH 200 "fhz" 77 gT ds ch dep deep []) (.of rfl (by decide) ?_) (as₀:=[.obj 4,.obj 0,.int one,.int two]) rfl rfl
   (Q₀:=fun v G=>v=.obj 5∧∃ds xs,kB ds∧bK xs∧xs.length≤60∧G=SH 200 "fhz" 77 gT ds 200 dep deep [aZ xs]) (X₀:=fun _=>False)
   (Aq F (.inr rfl) (by decide +kernel) (codes:=[102,104,122]) (by decide +kernel) (by decide +kernel) pI i4 h1 h2 fun ds xs a b e=>⟨rfl,ds,xs,a,b,e,rfl⟩) ?_ fun _ h=>h.elim
  ·exact⟨⟨rfl,rfl⟩,⟨rfl,rfl⟩,⟨rfl,rfl⟩,⟨fE,by rw[ed];rfl⟩,⟨rfl,rfl⟩,trivial⟩
  ·intro v G mr
   refine bG mr fun j5 nF=>?_
   clear mr
   refine b9 nF fun Li xs a b e j4=>?_
   subst j5
   subst j4
   have q:=q Li 200 xs (.inr rfl) a b e
   unfold BL at q
   rw[←ed (f:=fr [2,4,6,7,8] (BL ds ch dep deep T).length),←cF (f:=fr [2,4,6,7,8] (BL ds ch dep deep T).length)] at q
   exact q
noncomputable abbrev LH (ds:lg) (ch dep deep:Int) (T:List ag):List ag:=.dict (ds.map kH)::VH 0 ch dep deep::T
theorem Ll {k:Nat}(hk:k=2∨k=3):tf k (LH ds ch dep deep [])=true:=by
 rcases hk with rfl | rfl
 ·show(kW 2 (ds.map kH)&&(true&&true))=true
  rw[fE];rfl
 ·show(kW 3 (ds.map kH)&&(true&&true))=true
  rw[fE];rfl
theorem HU (F:eX c) (YL:ch=3∨ch=200) (h1:0≤one∧one<8) (h2:0≤two∧two<8) (q:∀xs,bK xs→xs.length≤60→Q (.obj 2) (LH ds ch dep deep [aZ xs])):WC c (d+2) (.ref 500) [.obj 1,.int one,.int two] (LH ds ch dep deep []) Q X:=by
 obtain⟨ws,hws,hk,qw⟩:∃ws:List (Int×AV),dG ch [((3:Int),Lp),(200,xG)]=some (.iX ws)∧(∀k∈ws.map (·.1),0≤k∧k<256)∧ws.length=3:=by
  rcases YL with rfl | rfl
  ·exact⟨_,rfl,by decide,rfl⟩
  ·exact⟨_,rfl,by decide,rfl⟩
 refine WC.v F rfl rfl fun A env E=>?_
 refine⟨by decide,_,rfl,⟨_,hws,?_⟩⟩
 refine WV.tq (.inl rfl) (by exact vl qw rfl) fun ns ua=>?_
 have Um:ns.length=3:=by rw[ua.1.length_eq,aa,qw]
 refine⟨by decide,⟨⟨by exact aW [] [_,_,_] [.fD 3 bJ dO hO] (.l dF dO) cN rfl (ke 3 _ rfl),by exact aW [] [_,_,_] [.fD 3 bJ dO hO] (.t dO D1) cK rfl (ke 3 _ rfl)⟩,_,gn (j:=(one%3).toNat) (by exact aW [_,_] [_,_,_] [.E aB pQ,.fD 3 bJ dO hO,.ft aM dO] (.T aM aB) (.o (.k [1,0,1,0,1,0,0,0,0,1]) (.k [1,0,1,0,0,0,0,0,0,1])) rfl Um (ke 3 _ rfl) (kQ _)),?_⟩⟩
 have qf:0≤ns.getD (one%3).toNat 0∧ns.getD (one%3).toNat 0<256:=by
  have iS:(one%3).toNat<ns.length:=by exact aW [_,_] [_,_,_] [.E aB pQ,.fD 3 bJ dO hO,.ft aM dO] (.T aM aB) (.o (.k [1,0,1,0,1,0,0,0,0,1]) (.k [1,0,1,0,0,0,0,0,0,1])) rfl Um (ke 3 _ rfl) (kQ _)
  have hm:ns.getD (one%3).toNat 0∈ns:=by
   rw[bt,aw iS];exact ur iS
  exact hk _ (ua.1.mem_iff.mp hm)
 generalize ns.getD (one%3).toNat 0=code at *
 apply hU True
 ·intro key
  refine⟨fun ha=>⟨fun hb=>?_,fun hb=>by(conv=>whnf);exact key trivial⟩,fun ha=>key trivial⟩
  exact dT.qg (LH ds ch dep deep []) _ 3 [code] (by rfl) (by rfl) (by exact(by decide:2≤3)) (Ll (.inl rfl)) (Ll (.inr rfl)) (aA _) (q _ (bK.cons qf bK.nil) (by exact(by decide:1≤60)))
 ·intro _
  refine⟨⟨by decide,by decide⟩,?_⟩
  apply uH (fun v:Int=>v=128∨v=133)
  ·intro key
   rcases(show one / 4=0∨one / 4=1 by exact aW [] [_,_,_] [.l dF bJ,.t bJ (.l 8),.fD 4 dO hO bJ] (.O (.e dO dF) (.e dO bP)) (.o (.o (.k [0,4,1,0,0,1,0,1]) cK) (.o cK (.k [4,0,0,1,1,0,1]))) rfl h1.1 h1.2 (ke 4 _ rfl)) with h | h
   ·rw[h]
    conv=>whnf
    generalize hg:(128:Int)=e
    exact key e (.inl hg.symm)
   ·rw[h]
    exact key 133 (.inr rfl)
  ·intro v hv
   refine⟨by decide,⟨by decide,?_⟩⟩
   refine ky F (room:=(1+two%4).toNat) (by exact aW [_] [_,_,_] [.fD 4 bJ dO hO,.ft aB (.a bP dO)] (.e (.a bP dO) aB) (.o (.o cN jf) (.o ub cK)) rfl (ke 4 _ rfl) (kQ _)) (by exact aW [_] [_,_,_] [.fD 4 bJ dO hO,.ft aB (.a bP dO)] (.L aB (.l 100)) (.o jN cN) rfl (ke 4 _ rfl) (kQ _)) fun ys o1 l1=>?_
   refine⟨by rw[aa,bA,l1];exact aW [_] [_,_,_] [.fD 4 bJ dO hO,.ft aB (.a bP dO)] (.L (.a bP aB) jg) (.o jN cN) rfl (ke 4 _ rfl) (kQ _),?_⟩
   refine dT.qg (LH ds ch dep deep []) _ 5 ([v+two%4]++ys) (by rfl) (congrArg some (iG (by rw[aF];rfl))) (by exact(by decide:2≤5)) (Ll (.inl rfl)) (Ll (.inr rfl)) (aA _) (q _ ?_ ?_)
   ·exact(bK.cons (by exact aW [] [_,_,_,_] [.O (.e bJ (.l 128)) (.e bJ (.l 133)),.fD 4 dO hO xB] (.A (.l dF (.a bJ hO)) (.t (.a bJ hO) (.l 256))) (.o (.o (.k [1,0,1,0,0,0,1]) (.k [1,1,0,0,0,1])) (.o (.k [1,0,1,0,0,0,1]) (.k [1,1,0,0,0,1]))) rfl hv (ke 4 _ rfl)) bK.nil).app o1
   ·rw[ah,bA,l1];exact aW [_] [_,_,_] [.fD 4 bJ dO hO,.ft aB (.a bP dO)] (.L (.a bP aB) (.l 60)) (.o jN cN) rfl (ke 4 _ rfl) (kQ _)
theorem DA (F:eX c) (YL:ch=3∨ch=200) (h1:0≤one∧one<8) (h2:0≤two∧two<8) (q:∀xs,bK xs→xs.length≤60→Q (.obj (BL ds ch dep deep T).length) (BL ds ch dep deep T++[aZ xs])):WC c (d+2) (.ref 500) [.obj 8,.int one,.int two] (BL ds ch dep deep T) Q X:=by
 have ed:∀{f:Nat→Nat}{ds:lg},ip f (.dict (ds.map kH))=.dict (ds.map kH):=fun{f ds}=>congrArg ag.dict rY
 refine WC.frame [7,8] (H₀:=LH ds ch dep deep []) (.of rfl (by decide) ?_) (as₀:=[.obj 1,.int one,.int two]) rfl rfl
  (Q₀:=fun v G=>v=.obj 2∧∃xs,bK xs∧xs.length≤60∧G=LH ds ch dep deep [aZ xs]) (X₀:=fun _=>False) (HU F YL h1 h2 fun xs a b=>⟨rfl,xs,a,b,rfl⟩) ?_ fun _ h=>h.elim
 ·exact⟨⟨fE,by rw[ed];rfl⟩,⟨rfl,rfl⟩,trivial⟩
 ·intro v G nU
  refine bG nU fun mI tO=>?_
  clear nU
  refine aL tO fun xs a b nv=>?_
  subst mI
  subst nv
  have q:=q xs a b
  unfold BL at q
  rw[←ed (f:=fr [7,8] (BL ds ch dep deep T).length),←cF (f:=fr [7,8] (BL ds ch dep deep T).length)] at q
  exact q
theorem lY (ns:List Int){j:Nat}(hj:j<ns.length):∃v∈ns,(ns.map AV.int)[j]?=some (.int v):=by
 refine⟨_,?_,gn hj⟩
 rw[bt,aw hj];exact ur hj
theorem Hf (F:eX c){base xF:Int}(hb:0≤base∧base≤200) (h1:0≤one∧one<8) (h2:0≤two∧two<8) (h3:0≤xF∧xF<256)
  (q:∀xs,bK xs→xs.length≤60→Q (.obj H.length) (H++[aZ xs])):WC c (d+1) (.ref 507) [.int base,.int one,.int two,.int xF] H Q X:=by
 refine WC.new rfl rfl ?_
 refine WC.v F rfl rfl fun A env E=>?_
 refine⟨by decide,?_⟩
 refine al (cI h2.1) fun j gC=>?_
 subst gC
 have hj:j<8:=by exact gW h2.2
 have hjb:ik j 1000000=true:=eR (by exact dk (kr hj rfl))
 apply uH (fun v:Int=>0≤v∧v<256)
 ·intro key
  refine⟨fun h=>?_,fun h=>?_⟩
  ·refine aq (lY [0,0,0,255,255,0,64,192] hj) fun v hv e=>?_
   conv=>whnf
   rw[show[AV.int 0,.int 0,.int 0,.int 255,.int 255,.int 0,.int 64,.int 192][j]?=some (.int v) from e]
   conv=>whnf
   rw[hjb]
   conv=>whnf
   exact key v (by clear e;revert v;decide)
  ·refine aq (lY [0,1,127,128,255,3,200,64] hj) fun v hv e=>?_
   conv=>whnf
   rw[show[AV.int 0,.int 1,.int 127,.int 128,.int 255,.int 3,.int 200,.int 64][j]?=some (.int v) from e]
   conv=>whnf
   rw[hjb]
   exact key v (by clear e;revert v;decide)
 intro v hv
 refine⟨by decide,?_⟩
 refine al (cI (show 0≤xF%3 by exact aW [] [_,_,_] [.fD 3 bJ dO hO] (.l dF dO) cN rfl (ke 3 _ rfl))) fun i hi=>?_
 rw[hi]
 refine aq (lY [0,5,10] (j:=i) (by show i<3;exact aW [_] [_,_,_] [.e bJ aB,.fD 3 dO bJ hO] (.T aB pQ) (.k [1,1,0,0,0,0,1]) rfl hi (ke 3 _ rfl))) fun w hw e=>?_
 conv=>whnf
 rw[show[AV.int 0,.int 5,.int 10][i]?=some (.int w) from e]
 conv=>whnf
 rw[show ik i 1000000=true from eR (by exact aW [_] [_,_,_] [.e bJ aB,.fD 3 dO bJ hO] (.L (.a aB bP) jg) (.k [1,1,0,0,0,0,1]) rfl hi (ke 3 _ rfl))]
 have hw:0≤w∧w≤10:=by clear e;revert w;decide
 refine⟨⟨⟨by exact aW [] [_,_,_] [.fD 4 bJ dO hO] (.t (.s (.a bP dO) bP) tG) cK rfl (ke 4 _ rfl),by exact aW [] [_,_,_] [.fD 4 bJ dO hO] (.t (.n tG) (.s (.a bP dO) bP)) cN rfl (ke 4 _ rfl)⟩,by rw[bA,wh];exact aW [_] [_,_,_] [.fD 4 bJ dO hO,.ft aB (.s (.a bP dO) bP)] (.L aB jg) (.o jN cN) rfl (ke 4 _ rfl) (kQ _)⟩,?_⟩
 rw[xu]
 refine⟨by rw[aa,eP];exact(show 2+_≤1000000 by exact aW [_] [_,_,_] [.fD 4 bJ dO hO,.ft aB (.s (.a bP dO) bP)] (.L (.a jL aB) jg) (.o jN cN) rfl (ke 4 _ rfl) (kQ _)),?_⟩
 have e2:[AV.int (base+w+(1+one%4)-1),.int v]++(bH (1+one%4-1).toNat xF).map .int=([base+w+(1+one%4)-1,v]++bH (1+one%4-1).toNat xF).map .int:=by rw[aF];rfl
 refine(?_:dT _ _ _ _ _)
 refine dT.qg [] _ 3 ([base+w+(1+one%4)-1,v]++bH (1+one%4-1).toNat xF) (by rfl) (congrArg some (iG e2)) (cR _) rfl rfl (aA _) ?_
 have q:=q ([base+w+(1+one%4)-1,v]++bH (1+one%4-1).toNat xF) ?_ ?_
 ·rw[←cF (f:=fr [] H.length)] at q
  exact q
 ·exact(bK.cons (by exact aW [] [_,_,_,_,_] [.l dF bJ,.l bJ (.l 200),.l dF dO,.l dO (.l 10),.fD 4 hO xB (.w 4)] (.A (.l dF (.s (.a (.a bJ dO) (.a bP xB)) bP)) (.t (.s (.a (.a bJ dO) (.a bP xB)) bP) (.l 256))) (.o (.k [1,0,1,0,0,0,1,0,1]) (.k [1,1,0,0,0,1,0,1])) rfl hb.1 hb.2 hw.1 hw.2 (ke 4 _ rfl)) (bK.cons hv bK.nil)).app (bK.rep h3)
 ·rw[ah,eP];exact(show 2+_≤60 by exact aW [_] [_,_,_] [.fD 4 bJ dO hO,.ft aB (.s (.a bP dO) bP)] (.L (.a jL aB) (.l 60)) (.o jN cN) rfl (ke 4 _ rfl) (kQ _))
end
end
section
open PySem PySem.W PySem.Calls PyProof.Rows
structure BW where
 ds:lg
 (ch dep deep a k r:Int)
noncomputable abbrev BW.H (w:BW) (T:List ag):List ag:=BL w.ds w.ch w.dep w.deep (aZ [w.a,w.k,w.r]::T)
structure BW.Ok (w:BW) (t u:Nat):Prop where
 d:kB w.ds
 s:wF u w.ch w.dep w.deep
 b:kC t w.a w.k w.r
theorem zy {w:BW}{k:Nat}(hk:k=10∨k=11):tf k (w.H [])=true:=by
 rcases hk with rfl | rfl
 ·show(true&&(true&&(true&&(true&&(true&&(true&&(true&&(kW 10 (w.ds.map kH)&&(true&&(true&&true))))))))))=true
  rw[fE];rfl
 ·show(true&&(true&&(true&&(true&&(true&&(true&&(true&&(kW 11 (w.ds.map kH)&&(true&&(true&&true))))))))))=true
  rw[fE];rfl
theorem wF.up {t:Nat}{ch dep deep:Int}(h:wF t ch dep deep):wF (t+1) ch dep deep:=by
 obtain⟨h1,h2,h3,h4,h5⟩:=h
 exact⟨h1,h2,by exact Ba h3,h4,by exact Ba h5⟩
theorem kC.le {t t':Nat}{a k r:Int}(h:kC t a k r) (ht:t≤t'):kC t' a k r:=by
 obtain⟨h1,h2,h3,h4,h5⟩:=h
 exact⟨h1,h2,by exact aW [_,_] [_] [.L aB aM,.l bJ aB] (.l bJ aM) ui rfl ht h3,h4,h5⟩
noncomputable def Ug (k:Int):AV→AV
 |.int i=>.int (k+i)
 |_=>.none
theorem GL (k:Int) (ns:List Int):(ns.map AV.int).map (Ug k)=(ns.map fun i=>k+i).map .int:=by
 rw[dy,dy];rfl
theorem zb {a b:Int}:fG a b 1=((bh (b-a).toNat).map fun(i:Nat)=>a+(i:Int)).map .int:=by
 apply Jc;intro i
 by_cases h:i<(b-a).toNat
 ·have hl:i<(fG a b 1).length:=by rw[fy];exact h
  have:=(fx (aw hl)).2
  rw[aw hl,this];simp[h]
 ·rw[cH (by rw[fy];exact aR h),cH (by simp;exact aW [_,_] [_,_] [.N (.T aB aM),.ft aM (.s bJ dO)] (.l (.s bJ dO) aB) (.o n8 cK) rfl h (kQ _))]
section
variable {c:Cx}{d n m t u:Nat}{H T A G:List ag}{Q QR:AV→List ag→Prop}{X:List ag→Prop}{op:Nat}{one two:Int}{f:ai}{as:List AV}{l:Loc}
theorem dT.bw (w:BW) (G:List ag) (k:Nat) (xs:List Int) (e:H=w.H []++G) (hk:H[k]?=some (aZ xs)) (hA:10≤k) (q:QR (.obj 10) (w.H [aZ xs])):dT 10 (qE QR) (.ret (.obj k)) l H:=
 dT.qg (w.H []) G k xs e hk hA (zy (.inl rfl)) (zy (.inr rfl)) (aA _) q
theorem DY (F:eX c){w:BW}(hw:w.Ok t u) (ht:t≤90000) (q:∀(w:BW) xs,w.Ok (t+4) (u+1)→bK xs→xs.length≤60→Q (.obj 10) (w.H [aZ xs])):WC c (d+4) (.ref 512) [.obj 9,.obj 8,.obj 0] (w.H []) Q X:=by
 obtain⟨hd,hs,hb⟩:=hw
 refine WC.v F rfl rfl fun A env E=>?_
 obtain⟨ds,ch,dep,deep,a0,k0,r0⟩:=w
 dsimp only at hd hs hb
 refine fX F (by rfl) hb (by exact ca ht rfl) (by decide) (by decide) fun Pa a1 k1 r1 y1 y2 hb=>?_
 refine fX F (by rfl) hb (by exact dk (oX ht rfl)) (by decide) (by decide) fun one a2 k2 r2 y3 y4 hb=>?_
 refine fX F (by rfl) hb (by exact aW [_] [] [.L aB (.l 90000)] (.L (.a (.a aB bP) bP) rZ) cK rfl ht) (by decide) (by decide) fun two a3 k3 r3 y5 y6 hb=>?_
 have hb4:=hb.le (show t+1+1+1≤t+4 by exact lQ 1 rfl)
 have fin:∀ds ch dep deep xs,kB ds→wF (u+1) ch dep deep→bK xs→xs.length≤60→Q (.obj 10) (BW.H ⟨ds,ch,dep,deep,a3,k3,r3⟩ [aZ xs]):=fun ds ch dep deep xs h1 h2 h3 h4=>q ⟨ds,ch,dep,deep,a3,k3,r3⟩ xs ⟨h1,h2,hb4⟩ h3 h4
 obtain⟨fn,Xh,ZA⟩:∃n,(n=1∨n=2)∧[AV.obj 1,.obj 2][(one%2).toNat]?=some (.obj n):=by
  rcases(show(one%2).toNat=0∨(one%2).toNat=1 by exact aW [_] [_,_,_] [.fD 2 bJ dO hO,.ft aB dO] (.O (.E aB dF) (.E aB bP)) (.o (.o (.o xK cK) (.o cK (.k [1,0,0,1,0,1]))) (.o (.o xK cK) (.o cK jf))) rfl (ke 2 _ rfl) (kQ _)) with h | h
  ·exact⟨1,.inl rfl,by rw[h];rfl⟩
  ·exact⟨2,.inr rfl,by rw[h];rfl⟩
 apply hU (¬(Pa<4∧ch>0))
 ·intro key
  refine⟨fun h1=>⟨by decide,_,rfl,⟨fun h2=>?_,fun h2=>by(conv=>whnf);exact key fun z=>h2 z.2⟩⟩,fun h1=>key fun z=>h1 z.1⟩
  refine DA F (ds:=ds) (dep:=dep) (deep:=deep) (T:=[aZ [a3,k3,r3]]) (show ch=3∨ch=200 by have:=hs.c;have h2:ch>0:=h2;exact aW [] [_] [.O (.e bJ dF) (.O (.e bJ pQ) (.e bJ (.l 200))),.t dF bJ] (.O (.e bJ pQ) (.e bJ (.l 200))) (.o (.o (.o (.k [0,0,1,1]) cK) (.o (.k [0,1,0,1]) jf)) (.o (.o (.o vG cK) (.o (.k [0,1,0,1]) jf)) (.o (.o vG cK) (.o (.k [1,0,0,0,1]) jf)))) rfl this h2) ⟨y3,y4⟩ ⟨y5,y6⟩ fun xs o hl=>?_
  exact dT.bw ⟨ds,ch,dep,deep,a3,k3,r3⟩ _ _ xs (by rfl) (by rfl) (aA _) (fin _ _ _ _ _ hd hs.up o hl)
 intro n1
 apply hU (Pa<4∨Pa=12)
 ·intro key
  refine⟨fun h1=>by(conv=>whnf);exact key (.inl h1),fun h1=>⟨fun h2=>key (.inr h2),fun h2=>?_⟩⟩
  refine⟨fun h4=>?_,fun h4=>?_⟩
  ·refine⟨by decide,?_⟩
   refine al (cI (show 0≤(one+two)%2 by exact aW [] [_,_,_,_] [.fD 2 bJ dO (.a hO xB)] (.l dF dO) cN rfl (ke 2 _ rfl))) fun i hi=>?_
   refine al (cI y3) fun j1 e1=>?_
   refine al (cI y5) fun j2 e2=>?_
   refine aq (lY [132,137] (j:=i) (by show i<2;exact aW [_] [_,_,_,_] [.e bJ aB,.fD 2 dO bJ (.a hO xB)] (.T aB jL) (.k [1,1,0,0,0,0,1]) rfl hi (ke 2 _ rfl))) fun v hv ev=>?_
   refine aq (lY [0,1,-5,70000,1048576,65536,-1,3] (j:=j1) (by show j1<8;exact aW [_] [_] [.t bJ (.l 8),.e bJ aB] (.T aB (.l 8)) (.k [1,0,1,1]) rfl y4 e1)) fun v1 _ ev1=>?_
   refine aq (lY [0,1,-5,70000,1048576,65536,-1,3] (j:=j2) (by show j2<8;exact aW [_] [_] [.t bJ (.l 8),.e bJ aB] (.T aB (.l 8)) (.k [1,0,1,1]) rfl y6 e2)) fun v2 _ ev2=>?_
   have hv:v=132∨v=137:=by simpa using hv
   have WR:∀k,k<8→ik k 1000000=true:=fun k h=>eR (by exact dk (kr h rfl))
   rw[hi]
   conv=>whnf
   rw[show[AV.int 132,.int 137][i]?=some (.int v) from ev]
   conv=>whnf
   rw[WR i (by exact aW [_] [_,_,_,_] [.e bJ aB,.fD 2 dO bJ (.a hO xB)] (.T aB (.l 8)) (.k [1,1,0,0,0,0,1]) rfl hi (ke 2 _ rfl))]
   conv=>whnf
   subst e1
   conv=>whnf
   rw[show[AV.int 0,.int 1,.int (-5),.int 70000,.int 1048576,.int 65536,.int (-1),.int 3][j1]?=some (.int v1) from ev1]
   conv=>whnf
   rw[WR j1 (by exact gW y4)]
   refine ky F (room:=4) rfl (by decide) fun x1 o1 l1=>?_
   refine⟨by rw[aa,l1];exact(by decide:1+4≤1000000),?_⟩
   subst e2
   conv=>whnf
   rw[show[AV.int 0,.int 1,.int (-5),.int 70000,.int 1048576,.int 65536,.int (-1),.int 3][j2]?=some (.int v2) from ev2]
   conv=>whnf
   rw[WR j2 (by exact gW y6)]
   refine ky F (room:=4) rfl (by decide) fun x2 o2 l2=>?_
   refine⟨by rw[ah,aa,aa,l1,l2];exact(by decide:1+4+4≤1000000),?_⟩
   have e:[AV.int v]++x1.map .int++x2.map .int=([v]++x1++x2).map .int:=by rw[aF,aF];rfl
   exact dT.bw ⟨ds,ch,dep,deep,a3,k3,r3⟩ _ 14 ([v]++x1++x2) (by rfl) (congrArg some (iG e)) (by decide) (fin _ _ _ _ _ hd hs.up (((bK.cons (by exact aW [] [_] [.O (.e bJ (.l 132)) (.e bJ (.l 137))] (.A (.l dF bJ) (.t bJ (.l 256))) (.o (.o cN cK) (.o cN cK)) rfl hv) bK.nil).app o1).app o2) (by rw[ah,ah,l1,l2];exact(by decide:1+4+4≤60)))
  apply hU (¬(Pa=6∧dep>0))
  ·intro ph
   refine⟨fun h6=>⟨by decide,_,rfl,⟨fun h7=>?_,fun h7=>by(conv=>whnf);exact ph fun z=>h7 z.2⟩⟩,fun h6=>ph fun z=>h6 z.1⟩
   have h7:dep>0:=h7
   refine⟨by decide,_,rfl,⟨oI 1 4 (by decide),?_⟩⟩
   refine dT.bw ⟨ds,ch,dep-1,deep,a3,k3,r3⟩ _ 10 [142] (by rfl) (by rfl) (aA _) (fin _ _ _ _ _ hd ⟨hs.c,by exact aW [] [_] [.t dF bJ] (.l dF (.s bJ bP)) cK rfl h7,by have:=hs.d1;exact aW [_] [_] [.l bJ aB] (.l (.s bJ bP) (.c (.a aB bP))) cK rfl this,hs.e0,by have:=hs.e1;exact Ba this⟩ (bK.cons (by decide) bK.nil) (by decide))
  intro n6
  apply hU (Pa=5∨Pa=6)
  ·intro Vc
   refine⟨fun h5=>by(conv=>whnf);exact Vc (.inl h5),fun h5=>⟨fun h6=>Vc (.inr h6),fun h6=>?_⟩⟩
   refine⟨fun Uj=>?_,fun Uj=>?_⟩
   ·have mv:∀{v:Int}{a4 k4 r4:Int}{xs:List Int},kC (t+1+1+1+1) a4 k4 r4→bK xs→xs.length≤60→Q (.obj 10) (BW.H ⟨ds,ch,dep,deep,a4,k4,r4⟩ [aZ xs]):=fun hb o hl=>q ⟨_,_,_,_,_,_,_⟩ _ ⟨hd,hs.up,hb⟩ o hl
    refine⟨fun h9=>?_,fun h9=>?_⟩
    all_goals
     refine fX F (by rfl) hb (by exact aW [_] [] [.L aB (.l 90000)] (.L (.a (.a (.a aB bP) bP) bP) rZ) cK rfl ht) (by decide) (by decide) fun xF a4 k4 r4 z1 z2 hb5=>?_
     refine Hf F (by decide) ⟨y3,y4⟩ ⟨y5,y6⟩ ⟨z1,z2⟩ fun xs o hl=>?_
     exact dT.bw ⟨ds,ch,dep,deep,a4,k4,r4⟩ _ _ xs (by rfl) (by rfl) (aA _) (mv (v:=0) hb5 o hl)
   refine⟨fun Uj=>?_,fun Uj=>?_⟩
   ·refine⟨by decide,?_⟩
    refine al (cI (show 0≤one%4 by exact aW [] [_,_,_] [.fD 4 bJ dO hO] (.l dF dO) cN rfl (ke 4 _ rfl))) fun i hi=>?_
    refine aq (lY [147,152,161,166] (j:=i) (by show i<4;exact aW [_] [_,_,_] [.e bJ aB,.fD 4 dO bJ hO] (.T aB iI) (.k [1,1,0,0,0,0,1]) rfl hi (ke 4 _ rfl))) fun v hv ev=>?_
    have hv:0≤v∧v<256:=by clear ev;revert v;decide
    rw[hi]
    conv=>whnf
    rw[show[AV.int 147,.int 152,.int 161,.int 166][i]?=some (.int v) from ev]
    conv=>whnf
    rw[show ik i 1000000=true from eR (by exact aW [_] [_,_,_] [.e bJ aB,.fD 4 dO bJ hO] (.L (.a aB bP) jg) (.k [1,1,0,0,0,0,1]) rfl hi (ke 4 _ rfl))]
    exact dT.bw ⟨ds,ch,dep,deep,a3,k3,r3⟩ _ 10 [v] (by rfl) (by rfl) (aA _) (fin _ _ _ _ _ hd hs.up (bK.cons hv bK.nil) (by exact(by decide:1≤60)))
   refine⟨fun V1=>?_,fun V1=>?_⟩
   ·refine⟨by decide,⟨by decide,⟨by decide,?_⟩⟩⟩
    refine ky F (room:=(1+two%4).toNat) (by exact aW [_] [_,_,_] [.fD 4 bJ dO hO,.ft aB (.a bP dO)] (.e (.a bP dO) aB) (.o (.o cN jf) (.o ub cK)) rfl (ke 4 _ rfl) (kQ _)) (by exact aW [_] [_,_,_] [.fD 4 bJ dO hO,.ft aB (.a bP dO)] (.L aB (.l 100)) (.o jN cN) rfl (ke 4 _ rfl) (kQ _)) fun ys o1 l1=>?_
    refine⟨by rw[aa,bA,l1];exact aW [_] [_,_,_] [.fD 4 bJ dO hO,.ft aB (.a bP dO)] (.L (.a bP aB) jg) (.o jN cN) rfl (ke 4 _ rfl) (kQ _),?_⟩
    refine WE.lc F [66,70,69,67,94,71,106] E 10 (Ug (7*two)) (by rfl) (by decide +kernel) (by rfl) ?_
    refine⟨rfl,⟨by decide,⟨⟨by exact aW [] [_,_,_] [.fD 4 bJ dO hO] (.l (.n tG) dO) cN rfl (ke 4 _ rfl),by exact aW [] [_,_,_] [.fD 4 bJ dO hO] (.t dO tG) cK rfl (ke 4 _ rfl)⟩,?_⟩⟩⟩
    refine⟨⟨fun _=>trivial,by rw[fy];exact aW [_] [_,_,_] [.fD 4 bJ dO hO,.ft aB (.s dO dF)] (.L aB jg) (.o jN cN) rfl (ke 4 _ rfl) (kQ _)⟩,fun cenv i x acc hx=>?_,?_⟩
    ·refine bG (fx hx) fun hi j4=>?_
     subst j4
     exact⟨.of_left (by decide),rfl,rfl⟩
    ·rw[zb,GL]
     have hoy:bK ((NA (fun(i:Nat)=>(0:Int)+(i:Int)) (bh (one%4-0).toNat)).map fun i=>7*two+i):=by
      intro z hz
      refine aq (dJ.mp hz) fun w hw nF=>?_
      subst nF
      refine aq (dJ.mp hw) fun j hj mI=>?_
      subst mI
      have:=dg.mp hj
      exact aW [_,_] [_,_,_,_] [.l dF bJ,.t bJ (.l 8),.T aB aM,.fD 4 dO hO xB,.ft aM (.s hO dF)] (.A (.l dF (.a (.m 7 bJ) (.a dF aB))) (.t (.a (.m 7 bJ) (.a dF aB)) (.l 256))) (.o (.o (.k [1,0,0,0,0,0,0,0,0,0,7]) (.k [1,0,1,0,1,0,0,0,1,7])) (.o (.k [0,0,1,0,0,0,0,0,1]) (.k [1,0,1,0,0,0,0,0,1,7]))) rfl y5 y6 this (ke 4 _ rfl) (kQ _)
     have hly:((NA (fun(i:Nat)=>(0:Int)+(i:Int)) (bh (one%4-0).toNat)).map fun i=>7*two+i).length≤4:=by
      rw[aa,aa,a8];exact aW [_] [_,_,_] [.fD 4 bJ dO hO,.ft aB (.s dO dF)] (.L aB iI) (.o jN cN) rfl (ke 4 _ rfl) (kQ _)
     generalize ((NA (fun(i:Nat)=>(0:Int)+(i:Int)) (bh (one%4-0).toNat)).map fun i=>7*two+i)=zs at *
     refine⟨by rw[ah,aa,aa,l1];exact az (gI hly _) (by rw[bA];exact aW [_] [_,_,_] [.fD 4 bJ dO hO,.ft aB (.a bP dO)] (.L (.a (.a bP aB) iI) jg) (.o jN cN) rfl (ke 4 _ rfl) (kQ _)),?_⟩
     have e:[AV.int (239+two%4)]++ys.map .int++zs.map .int=([239+two%4]++ys++zs).map .int:=by rw[aF,aF];rfl
     exact dT.bw ⟨ds,ch,dep,deep,a3,k3,r3⟩ _ 14 ([239+two%4]++ys++zs) (by rfl) (congrArg some (iG e)) (by decide) (fin _ _ _ _ _ hd hs.up (((bK.cons (by exact aW [] [_,_,_] [.fD 4 bJ dO hO] (.A (.l dF (.a (.l 239) dO)) (.t (.a (.l 239) dO) (.l 256))) (.o cN cK) rfl (ke 4 _ rfl)) bK.nil).app o1).app hoy) (by rw[ah,ah,l1,bA];exact aW [_,_] [_,_,_] [.L aB iI,.fD 4 bJ dO hO,.ft aM (.a bP dO)] (.L (.a (.a bP aM) aB) (.l 60)) (.o (.k [1,0,1,0,1,0,0,0,1]) (.k [1,0,1,0,0,0,0,0,1])) rfl hly (ke 4 _ rfl) (kQ _)))
   ·exact dT.bw ⟨ds,ch,dep,deep,a3,k3,r3⟩ _ 10 [138] (by rfl) (by rfl) (aA _) (fin _ _ _ _ _ hd hs.up (bK.cons (by decide) bK.nil) (by decide))
  ·intro h5
   refine⟨by decide,_,rfl,⟨oI 1 4 (by decide),?_⟩⟩
   refine⟨by decide,_,rfl,⟨by decide,_,rfl,⟨oI 3 4 (by decide),?_⟩⟩⟩
   exact dT.bw ⟨ds,ch,dep+1,max deep (dep+1),a3,k3,r3⟩ _ 10 [141] (by rfl) (by rfl) (aA _) (fin _ _ _ _ _ hd ⟨hs.c,qR hs.d0 (by decide),E2 hs.d1 1,lR hs.e0 (Int.le_max_left _ _),Int.max_le.mpr ⟨Ba hs.e1,E2 hs.d1 1⟩⟩ (bK.cons (by decide) bK.nil) (by decide))
 ·intro h1
  refine⟨by decide,⟨⟨by exact aW [] [_,_,_] [.fD 2 bJ dO hO] (.l dF dO) cN rfl (ke 2 _ rfl),by exact aW [] [_,_,_] [.fD 2 bJ dO hO] (.t dO D1) cK rfl (ke 2 _ rfl)⟩,_,ZA,?_⟩⟩
  refine DX F (ds:=ds) (T:=[aZ [a3,k3,r3]]) Xh hd hs ⟨y3,y4⟩ ⟨y5,y6⟩ fun ds dm xs nr pI o hl=>?_
  exact dT.bw ⟨ds,dm,dep,deep,a3,k3,r3⟩ _ _ xs (by rfl) (by rfl) (aA _) (fin _ _ _ _ _ pI ⟨by exact aW [] [_] [.O (.e bJ pQ) (.e bJ (.l 200))] (.O (.e bJ dF) (.O (.e bJ pQ) (.e bJ (.l 200)))) (.o (.o (.o (.o (.k [0,0,1,0,1]) cN) (.o xj cN)) (.o (.o vG cK) (.o (.k [0,1,0,1]) jf))) (.o (.o (.o (.k [0,0,1,0,1]) cN) (.o (.k [0,0,1,0,1]) cN)) (.o (.o vG cK) (.o (.k [1,0,0,0,1]) jf)))) rfl nr,hs.d0,by have:=hs.d1;exact Ba this,hs.e0,by have:=hs.e1;exact Ba this⟩ o hl)
end
end
section
open PySem PySem.W PySem.Calls PyProof.Rows
noncomputable def mV:List eF:=(iK (df 61)).drop 7
section
variable {c:Cx}{d n m t u:Nat}{H T A G P:List ag}{Q QR:AV→List ag→Prop}{SQ:QT}{X:List ag→Prop}{op:Nat}{one two:Int}{f:ai}{as:List AV}{l:Loc}{w:BW}{xs:List Int}{j:Nat}{last Ku:Int}
theorem BC (F:eX c) (hw:w.Ok t u) (ht:t≤90000) (q:∀(w':BW) xs,w'.Ok (t+4) (u+1)→bK xs→xs.length≤60→Q (.obj (w.H T).length) (w'.H T++[aZ xs])):WC c (d+4) (.ref 512) [.obj 9,.obj 8,.obj 0] (w.H T) Q X:=
 WC.TQ (A:=w.H []) (T:=T) (R:=fun A xs=>∃w':BW,A=w'.H []∧w'.Ok (t+4) (u+1)∧bK xs∧xs.length≤60) (zy (.inl rfl)) rfl (DY F hw ht fun w' xs h o l=>⟨w'.H [],xs,rfl,rfl,⟨rfl,zy (.inl rfl)⟩,w',rfl,h,o,l⟩)
  fun A xs _ ⟨w',e,h,o,l⟩=>by subst e;exact q w' xs h o l
theorem dT.Mq (A G:List ag) (k:Nat) (xs:List Int) (e:H=A++G) (hk:H[k]?=some (aZ xs)) (hA:A.length≤k) (h:tf A.length A=true) (h':tf (A.length+1) A=true) (hm:m≤A.length) (l₁:Loc)
  (hs:uJ (A.length+1) ((bh A.length++[k]).getD · 0) l₁ l) (q:SQ .next l₁ (A++[aZ xs])):dT m SQ .next l H:=by
 refine .inr ⟨bh A.length++[k],l₁,A++[aZ xs],fun n hn=>?_,tE.qg e hk hA h h',wu.of ?_,q⟩
 ·rw[aC (by rw[a8];exact aV hn hm),cJ (by exact aV hn hm)]
 ·rw[ah,a8]
  exact hs
theorem kz:listAt (w.H (P++[aZ xs])) (P.length+10)=some (xs.map .int):=k7 (show(w.H (P++[aZ xs]))[P.length+10]?=some (aZ xs) from At.last rfl)
inductive PgA (ds:lg) (ch dep deep a1 k1 r1 last:Int) (i:Nat):Loc→List ag→Prop
 |mk (P:List ag) (xs:List Int) (p:Option AV) (o:bK xs) (hl:xs.length≤5+4*i) :
  PgA ds ch dep deep a1 k1 r1 last i [some (.obj 9),some (.obj 8),some (.obj 0),some (.int last),some (.obj (P.length+10)),p,none,none] (BW.H ⟨ds,ch,dep,deep,a1,k1,r1⟩ (P++[aZ xs]))
inductive PgB (last Ku:Int) (t u i:Nat):Loc→List ag→Prop
 |mk (P:List ag) (xs:List Int) (w:BW) (p5 p7:Option AV) (H:List ag) (eh:H=w.H (P++[aZ xs])) (hw:w.Ok (t+3+4*i) (u+i)) (o:bK xs) (hl:xs.length≤45+60*i) :
  PgB last Ku t u i [some (.obj 9),some (.obj 8),some (.obj 0),some (.int last),some (.obj (P.length+10)),p5,some (.int Ku),p7] H
theorem mJ (F:eX c){B:aU}{env:dI}{x5 x7:Option AV}(hl:l=[some (.obj 9),some (.obj 8),some (.obj 0),some (.int last),some (.obj j),x5,some (.int Ku),x7]) (hj:listAt (w.H G) j=some (xs.map .int)) (ho:bK xs) (hx:xs.length≤2800) (hd:0≤w.dep∧w.dep≤100)
  (q:∀xs,bK xs→xs.length≤3000→Q (.obj 10) (w.H [aZ xs])):vS ⟨c,d,B,env,X⟩ (gx (df 61) [67,66,106,72]) (n+20) 10 mV l (w.H G) (dT 10 (qE Q)):=by
 subst hl
 apply uH (fun e:Int=>0≤e∧e≤101)
 ·intro key
  refine⟨by decide,_,rfl,⟨fun h=>?_,fun h=>?_⟩⟩
  ·conv=>whnf
   generalize hg:w.dep+1=e
   exact key e (by exact aW [] [_,_] [.l dF bJ,.l bJ (.l 100),.e (.a bJ bP) dO] (.A (.l dF dO) (.l dO (.l 101))) (.o rt (.k [1,0,1,1])) rfl hd.1 hd.2 hg)
  ·exact key (w.dep+0) (by exact aW [] [_] [.l dF bJ,.l bJ (.l 100)] (.A (.l dF (.a bJ dF)) (.l (.a bJ dF) (.l 101))) (.o cN cK) rfl hd.1 hd.2)
 ·intro e he
  refine hY (bI) ⟨⟨⟨by exact aW [] [_] [.l bJ (.l 101)] (.t bJ tG) cK rfl he.2,by exact aW [] [_] [.l dF bJ] (.t (.n tG) bJ) cK rfl he.1⟩,by rw[bA,wh];exact aW [_] [_] [.l bJ (.l 101),.ft aB bJ] (.L aB jg) (.o jN cN) rfl he.2 (kQ _)⟩,?_⟩
  rw[xu]
  refine hY (cQ (cQ hj)) (hY (bI) ⟨by rw[aa,aa,eP];exact aW [_,_] [_] [.L aB (.l 2800),.l bJ (.l 101),.ft aM bJ] (.L (.a aB aM) jg) (.o rk ub) rfl hx he.2 (kQ _),?_⟩)
  refine hY (cQ bI) (hY (bI) ⟨by rw[ah,aa,aa,eP,bA];exact aW [_,_] [_] [.L aB (.l 2800),.l bJ (.l 101),.ft aM bJ] (.L (.a (.a aB aM) bP) jg) (.o rk ub) rfl hx he.2 (kQ _),?_⟩)
  refine dT.bw w _ _ (xs++bH e.toNat 142++[140]) (by rfl) ((At.last rfl).trans (congrArg some (iG (by rw[aF,aF];rfl)))) (ay 10 _) (q _ ?_ ?_)
  ·exact(ho.app (bK.rep (by decide))).app (bK.cons (by decide) bK.nil)
  ·rw[ah,ah,eP,bA];exact aW [_,_] [_] [.L aB (.l 2800),.l bJ (.l 101),.ft aM bJ] (.L (.a (.a aB aM) bP) (.l 3000)) (.o rk ub) rfl hx he.2 (kQ _)
theorem PC (F:eX c) (hw:w.Ok t u) (ht:t≤50000) (hu:u≤60) (q:∀(w':BW) xs,w'.Ok (t+100) (u+20)→bK xs→xs.length≤3000→Q (.obj 10) (w'.H [aZ xs])):WC c (d+5) (.ref 519) [.obj 9,.obj 8,.obj 0,.int last] (w.H []) Q X:=by
 obtain⟨ds,ch,dep,deep,a0,k0,r0⟩:=w
 obtain⟨hd,hs,hb⟩:=hw
 dsimp only at hd hs hb
 refine WC.v F rfl rfl fun A env E=>?_
 refine fX F (by rfl) hb (by exact ca ht rfl) (by decide) (by decide) fun v a1 k1 r1 y1 y2 hb=>?_
 refine ky F (room:=4) rfl (by decide) fun x0 o0 l0=>?_
 refine⟨by rw[aa,l0];exact(by decide:1+4≤1000000),?_⟩
 refine⟨10,aA _,rfl,⟨⟨by decide,by decide⟩,by decide,by decide⟩,?_⟩
 refine⟨PgA ds ch dep deep a1 k1 r1 last,
  ⟨[.list [.int 139],aZ x0],139::x0,none,bK.cons (by decide) o0,by rw[cC,l0];exact(by decide)⟩,fun _ _ _ _ _=>trivial,?_,?_⟩
 ·rintro i x l H hx ⟨P,xs,p,o,hl⟩
  refine bG (fx hx) fun hi jX=>?_
  subst jX
  have hi:i<9:=hi
  refine ky F (room:=4) rfl (by decide) fun ys o1 l1=>?_
  refine hY (cQ kz) (hY (bI) ⟨by rw[aa,aa];exact aW [_,_,_] [] [.L aB (.a (.l 5) (.m 4 aM)),.T aM (.l 9),.E cg iI] (.L (.a aB cg) jg) (.k [1,1,0,4,1]) rfl hl hi l1,?_⟩)
  refine dT.Mq (BW.H ⟨ds,ch,dep,deep,a1,k1,r1⟩ []) _ _ (xs++ys) (by rfl) ((At.last rfl).trans (congrArg some (iG aF.symm))) (ay 10 _) (zy (.inl rfl)) (zy (.inr rfl)) (aA _) [some (.obj 9),some (.obj 8),some (.obj 0),some (.int last),some (.obj 10),none,none,none] ?_ ?_
  ·exact⟨⟨rfl,rfl⟩,⟨rfl,rfl⟩,⟨rfl,rfl⟩,⟨rfl,rfl⟩,⟨rfl,rfl⟩,trivial⟩
  ·exact⟨[],xs++ys,none,o.app o1,by rw[ah,l1];exact aW [_,_] [] [.L aB (.a (.l 5) (.m 4 aM))] (.L (.a aB iI) (.a (.l 5) (.m 4 (.a aM bP)))) cK rfl hl⟩
 ·rintro l H ⟨P,xs,p,o,hl⟩
  rw[fy] at hl
  have hl:xs.length≤41:=hl
  refine ky F (room:=4) rfl (by decide) fun ys o1 l1=>?_
  refine hY (cQ kz) (hY (bI) ⟨by rw[aa,aa];exact aW [_,_] [] [.L aB (.l 41),.E aM iI] (.L (.a aB aM) jg) qu rfl hl l1,?_⟩)
  refine⟨oI 0 4 (by decide),⟨oI 1 4 (by decide),?_⟩⟩
  refine fX F (by rfl) hb (by exact dk (oX ht rfl)) (by decide) (by decide) fun Ku a2 k2 r2 y3 y4 hb=>?_
  refine⟨10,aA _,rfl,?_⟩
  refine fX F (by rfl) hb (by exact aW [_] [] [.L aB (.l 50000)] (.L (.a (.a aB bP) bP) rZ) cK rfl ht) (by decide) (by decide) fun hH a3 k3 r3 y5 y6 hb=>?_
  refine⟨⟨by exact aW [] [_] [.l dF bJ] (.l (.n tG) (.a jL bJ)) cK rfl y5,by exact aW [] [_] [.t bJ (.l 10)] (.t (.a jL bJ) tG) cK rfl y6⟩,?_⟩
  refine⟨PgB last Ku t u,
   ⟨P++[aZ xs]++[aZ ys],xs++ys,⟨ds,0,0,deep,a3,k3,r3⟩,p,none,_,congrArg (fun x=>BW.H ⟨ds,0,0,deep,a3,k3,r3⟩ (P++[aZ xs]++[aZ ys]++[x])) (iG aF.symm),⟨hd,⟨.inl rfl,dR _,(show(0:Int)≤(u:Int) by exact ll),hs.e0,hs.e1⟩,hb⟩,o.app o1,by rw[ah,l1];exact cS hl _⟩,fun _ _ _ _ _=>trivial,?_,?_⟩
  ·rintro i x l H hx ⟨P,xs,w,p5,p7,_,rfl,hw,o,hl⟩
   refine bG (fx hx) fun hi j5=>?_
   subst j5
   have hi:i<11:=by exact aW [_,_] [_] [.t bJ (.l 10),.T aB aM,.ft aM (.s (.a jL bJ) dF)] (.T aB (.l 11)) (.o rk jN) rfl y6 hi (kQ _)
   refine BC F (T:=P++[aZ xs]) hw (by exact aW [_,_] [] [.L aB (.l 50000),.T aM (.l 11)] (.L (.a (.a aB pQ) (.m 4 aM)) (.l 90000)) (.k [1,4,1]) rfl ht hi) fun w' ys hw' o1 l1=>?_
   refine hY (cQ kz) (hY (show listAt (w'.H (P++[aZ xs])++[aZ ys]) (w.H (P++[aZ xs])).length=some (ys.map .int) from bI) ⟨by rw[aa,aa];exact aW [_,_,_] [] [.L aB (.a (.l 45) (.m 60 aM)),.T aM (.l 11),.L cg (.l 60)] (.L (.a aB cg) jg) (.k [1,1,60,1]) rfl hl hi l1,?_⟩)
   refine dT.Mq (w'.H []) _ _ (xs++ys) (by rfl) ((At.last rfl).trans (congrArg some (iG aF.symm))) (ay 10 _) (zy (.inl rfl)) (zy (.inr rfl)) (aA _) [some (.obj 9),some (.obj 8),some (.obj 0),some (.int last),some (.obj 10),none,some (.int Ku),none] ?_ ?_
   ·exact⟨⟨rfl,rfl⟩,⟨rfl,rfl⟩,⟨rfl,rfl⟩,⟨rfl,rfl⟩,⟨rfl,rfl⟩,⟨rfl,rfl⟩,trivial⟩
   ·exact⟨[],xs++ys,w',none,none,_,rfl,hw',o.app o1,by rw[ah];exact aW [_,_,_] [] [.L aB (.a (.l 45) (.m 60 aM)),.L cg (.l 60)] (.L (.a aB cg) (.a (.l 45) (.m 60 (.a aM bP)))) ui rfl hl l1⟩
  ·rintro l H ⟨P,xs,w,p5,p7,_,rfl,hw,o,hl⟩
   rw[fy] at hl hw
   have hn:(2+hH-0).toNat≤11:=by exact aW [_] [_] [.t bJ (.l 10),.ft aB (.s (.a jL bJ) dF)] (.L aB (.l 11)) (.o jN cN) rfl y6 (kQ _)
   generalize (2+hH-0).toNat=nn at *
   have E7:=hw.s.d1
   have Q3:=hw.s.d0
   have TB:w.Ok (t+100) (u+20):=⟨hw.d,⟨hw.s.c,Q3,by exact aW [_,_] [_] [.L aB (.l 11),.l bJ (.c (.a aM aB))] (.l bJ (.c (.a aM (.l 20)))) ui rfl hn E7,hw.s.e0,by have:=hw.s.e1;exact aW [_,_] [_] [.L aB (.l 11),.l bJ (.c (.a aM aB))] (.l bJ (.c (.a aM (.l 20)))) ui rfl hn this⟩,hw.b.le (by exact aW [_,_] [] [.L aB (.l 11)] (.L (.a (.a aM pQ) (.m 4 aB)) (.a aM (.l 100))) (.k [1,4]) rfl hn)⟩
   refine⟨fun h=>?_,fun h=>?_⟩
   ·refine hY (cQ kz) (hY (bI) ⟨by rw[aa];exact(show _+1≤1000000 by exact aW [_,_] [] [.L aB (.a (.l 45) (.m 60 aM)),.L aM (.l 11)] (.L (.a aB bP) jg) (.k [1,60,1]) rfl hl hn),?_⟩)
    refine kN (?_:vS _ _ _ _ mV _ _ _)
    exact mJ F (w:=w) (xs:=xs++[141]) rfl (bI.trans (congrArg some (by rw[aF];rfl))) (o.app (bK.cons (by decide) bK.nil)) (by rw[ah];exact(show _+1≤2800 by exact aW [_,_] [] [.L aB (.a (.l 45) (.m 60 aM)),.L aM (.l 11)] (.L (.a aB bP) (.l 2800)) (.k [1,60,1]) rfl hl hn)) ⟨Q3,by exact aW [_,_] [_] [.L aB (.l 60),.L aM (.l 11),.l bJ (.c (.a aB aM))] (.l bJ (.l 100)) tL rfl hu hn E7⟩ fun xs o hl=>q w xs TB o hl
   refine⟨fun h=>?_,fun h=>?_⟩
   ·refine hY (cQ kz) (hY (bI) ⟨by rw[aa];exact(show _+1≤1000000 by exact aW [_,_] [] [.L aB (.a (.l 45) (.m 60 aM)),.L aM (.l 11)] (.L (.a aB bP) jg) (.k [1,60,1]) rfl hl hn),?_⟩)
    refine kN (?_:vS _ _ _ _ mV _ _ _)
    exact mJ F (w:=w) (xs:=xs++[67]) rfl (bI.trans (congrArg some (by rw[aF];rfl))) (o.app (bK.cons (by decide) bK.nil)) (by rw[ah];exact(show _+1≤2800 by exact aW [_,_] [] [.L aB (.a (.l 45) (.m 60 aM)),.L aM (.l 11)] (.L (.a aB bP) (.l 2800)) (.k [1,60,1]) rfl hl hn)) ⟨Q3,by exact aW [_,_] [_] [.L aB (.l 60),.L aM (.l 11),.l bJ (.c (.a aB aM))] (.l bJ (.l 100)) tL rfl hu hn E7⟩ fun xs o hl=>q w xs TB o hl
   refine⟨fun h=>?_,fun h=>?_⟩
   ·refine hY (cQ kz) (hY (bI) ⟨by rw[aa];exact(show _+2≤1000000 by exact aW [_,_] [] [.L aB (.a (.l 45) (.m 60 aM)),.L aM (.l 11)] (.L (.a aB jL) jg) (.k [1,60,1]) rfl hl hn),?_⟩)
    refine kN (?_:vS _ _ _ _ mV _ _ _)
    exact mJ F (w:=w) (xs:=xs++[180,65]) rfl (bI.trans (congrArg some (by rw[aF];rfl))) (o.app (bK.cons (by decide) (bK.cons (by decide) bK.nil))) (by rw[ah];exact(show _+2≤2800 by exact aW [_,_] [] [.L aB (.a (.l 45) (.m 60 aM)),.L aM (.l 11)] (.L (.a aB jL) (.l 2800)) (.k [1,60,1]) rfl hl hn)) ⟨Q3,by exact aW [_,_] [_] [.L aB (.l 60),.L aM (.l 11),.l bJ (.c (.a aB aM))] (.l bJ (.l 100)) tL rfl hu hn E7⟩ fun xs o hl=>q w xs TB o hl
   refine⟨fun h=>?_,fun h=>?_⟩
   ·refine⟨by decide,?_⟩
    refine al (cI (show 0≤last%4 by exact aW [] [_,_,_] [.fD 4 bJ dO hO] (.l dF dO) cN rfl (ke 4 _ rfl))) fun i hi=>?_
    refine aq (lY [250,139,247,248] (j:=i) (by show i<4;exact aW [_] [_,_,_] [.e bJ aB,.fD 4 dO bJ hO] (.T aB iI) (.k [1,1,0,0,0,0,1]) rfl hi (ke 4 _ rfl))) fun z hz ev=>?_
    have hz:0≤z∧z<256:=by clear ev;revert z;decide
    rw[hi]
    conv=>whnf
    rw[show[AV.int 250,.int 139,.int 247,.int 248][i]?=some (.int z) from ev]
    conv=>whnf
    rw[show ik i 1000000=true from eR (by exact aW [_] [_,_,_] [.e bJ aB,.fD 4 dO bJ hO] (.L (.a aB bP) jg) (.k [1,1,0,0,0,0,1]) rfl hi (ke 4 _ rfl))]
    refine hY (cQ kz) (hY (bI) ⟨by rw[aa];exact(show _+1≤1000000 by exact aW [_,_] [] [.L aB (.a (.l 45) (.m 60 aM)),.L aM (.l 11)] (.L (.a aB bP) jg) (.k [1,60,1]) rfl hl hn),?_⟩)
    refine kN (?_:vS _ _ _ _ mV _ _ _)
    exact mJ F (w:=w) (xs:=xs++[z]) rfl (bI.trans (congrArg some (by rw[aF];rfl))) (o.app (bK.cons hz bK.nil)) (by rw[ah];exact(show _+1≤2800 by exact aW [_,_] [] [.L aB (.a (.l 45) (.m 60 aM)),.L aM (.l 11)] (.L (.a aB bP) (.l 2800)) (.k [1,60,1]) rfl hl hn)) ⟨Q3,by exact aW [_,_] [_] [.L aB (.l 60),.L aM (.l 11),.l bJ (.c (.a aB aM))] (.l bJ (.l 100)) tL rfl hu hn E7⟩ fun xs o hl=>q w xs TB o hl
   ·refine kN (?_:vS _ _ _ _ mV _ _ _)
    exact mJ F (w:=w) (xs:=xs) rfl kz o (by exact aW [_,_] [] [.L aB (.a (.l 45) (.m 60 aM)),.L aM (.l 11)] (.L aB (.l 2800)) (.k [1,60,1]) rfl hl hn) ⟨Q3,by exact aW [_,_] [_] [.L aB (.l 60),.L aM (.l 11),.l bJ (.c (.a aB aM))] (.l bJ (.l 100)) tL rfl hu hn E7⟩ fun xs o hl=>q w xs TB o hl
end
end
section
open PySem PySem.W PySem.Calls PyProof.Rows
section
variable {c:Cx}{d n m t u:Nat}{H T A G P:List ag}{Q QR:AV→List ag→Prop}{SQ:QT}{X:List ag→Prop}{op:Nat}{one two:Int}{f:ai}{as:List AV}{l:Loc}{w:BW}{xs ns bx:List Int}{j:Nat}{last Ku dm ck ch dep deep:Int}{nm:bu}{ws:List (Int×Int)}{ds:lg}{js:Nat→List Int}
theorem xc (F:eX c) (nr:dm=3∨dm=200){codes:List UInt8}(qf:nm.cps.toList.map (fun(u:Nat)=>(u:Int))=codes.map (fun x=>(x.toNat:Int))) (hz:nm.cps.size≤10)
  (pI:kB ds) (q:∀ds xs,kB ds→bK xs→xs.length≤60→Q (.obj 5) (SH dm nm ck ws ds ch dep deep [aZ xs])):WC c (d+3) (.ref 526) [.obj 4,.obj 0] (SH dm nm ck ws ds ch dep deep []) Q X:=by
 refine WC.v F rfl rfl fun A env E=>?_
 have RV:=pI.le
 refine⟨by decide,_,rfl,?_⟩
 conv=>whnf
 rw[hB,dh]
 cases xg:ds.lookup dm with
 |some v=>exact .inl (q ds [138] pI (bK.cons (by decide) bK.nil) (by decide))
 |none=>
  have N8:=pI.snoc (v:=(65536,ck)) xg nr
  refine⟨by decide,_,rfl,?_⟩
  refine⟨by rw[aa];exact ca RV rfl,?_⟩
  rw[C4 (v:=(65536,ck)) xg]
  refine⟨by decide,_,rfl,?_⟩
  refine⟨_,by rw[hB,sY xg];rfl,?_⟩
  refine C1 F (room:=1) rfl nr (by decide) qf hz fun xs o l=>?_
  exact .inl (q _ xs N8 o (by exact ca l rfl))
noncomputable abbrev oq (ns bx:List Int) (js:Nat→List Int) (xs:List Int) (ds:lg) (ch dep deep:Int) (T:List ag):List ag:=
 FL (aZ ns::aZ bx::aZ (js 9)::aZ (js 10)::aZ (js 11)::aZ (js 12)::aZ (js 13)::aZ (js 14)::aZ (js 15)::aZ (js 16)::aZ (js 17)::aZ (js 18)::aZ xs::.dict (ds.map kH)::VH 20 ch dep deep::T)
theorem lx {f:Nat→Nat}{ds:lg}:ip f (.dict (ds.map kH))=.dict (ds.map kH):=congrArg ag.dict rY
theorem Bc {k:Nat}{xs:List Int}{f:Nat→Nat}:yM k (aZ xs)=true∧some (aZ xs)=some (ip f (aZ xs)):=⟨fB,by rw[cF]⟩
theorem Bx (F:eX c) (hn:n=1∨n=2) (pI:kB ds) (q:∀ds ys,kB ds→bK ys→ys.length≤60→Q (.obj (T.length+22)) (oq ns bx js xs ds ch dep deep T++[aZ ys])):WC c (d+3) (.ref 526) [.obj 21,.obj n] (oq ns bx js xs ds ch dep deep T) Q X:=by
 rcases hn with rfl | rfl
 ·refine WC.frame [1,3,5,20,21] (H₀:=SH 3 "fc" 0 tj ds ch dep deep []) (.of rfl (by decide) ?_) (as₀:=[.obj 4,.obj 0]) rfl rfl
   (Q₀:=fun v G=>v=.obj 5∧∃ds xs,kB ds∧bK xs∧xs.length≤60∧G=SH 3 "fc" 0 tj ds ch dep deep [aZ xs]) (X₀:=fun _=>False)
   (xc F (.inl rfl) (codes:=[102,99]) (by decide +kernel) (by decide +kernel) pI fun ds xs a b e=>⟨rfl,ds,xs,a,b,e,rfl⟩) ?_ fun _ h=>h.elim
  ·exact⟨⟨rfl,rfl⟩,⟨rfl,rfl⟩,⟨rfl,rfl⟩,⟨fE,by rw[lx];rfl⟩,⟨rfl,rfl⟩,trivial⟩
  ·intro v G lH
   refine bG lH fun gC jX=>?_
   clear lH
   refine b9 jX fun Li ys a b e iu=>?_
   subst gC
   subst iu
   have q:=q Li ys a b e
   unfold oq at q
   rw[←lx (f:=fr [1,3,5,20,21] (oq ns bx js xs ds ch dep deep T).length),←cF (f:=fr [1,3,5,20,21] (oq ns bx js xs ds ch dep deep T).length) (xs:=ys)] at q
   exact q
 ·refine WC.frame [2,4,6,20,21] (H₀:=SH 200 "fhz" 77 gT ds ch dep deep []) (.of rfl (by decide) ?_) (as₀:=[.obj 4,.obj 0]) rfl rfl
   (Q₀:=fun v G=>v=.obj 5∧∃ds xs,kB ds∧bK xs∧xs.length≤60∧G=SH 200 "fhz" 77 gT ds ch dep deep [aZ xs]) (X₀:=fun _=>False)
   (xc F (.inr rfl) (codes:=[102,104,122]) (by decide +kernel) (by decide +kernel) pI fun ds xs a b e=>⟨rfl,ds,xs,a,b,e,rfl⟩) ?_ fun _ h=>h.elim
  ·exact⟨⟨rfl,rfl⟩,⟨rfl,rfl⟩,⟨rfl,rfl⟩,⟨fE,by rw[lx];rfl⟩,⟨rfl,rfl⟩,trivial⟩
  ·intro v G mr
   refine bG mr fun j5 nF=>?_
   clear mr
   refine b9 nF fun Li ys a b e j4=>?_
   subst j5
   subst j4
   have q:=q Li ys a b e
   unfold oq at q
   rw[←lx (f:=fr [2,4,6,20,21] (oq ns bx js xs ds ch dep deep T).length),←cF (f:=fr [2,4,6,20,21] (oq ns bx js xs ds ch dep deep T).length) (xs:=ys)] at q
   exact q
theorem JN (F:eX c){room:Nat}{ri x y:Int}(tN:ri=room) (hr:1≤room∧room≤4) (hn:n=1∨n=2) (q:∀ys,bK ys→ys.length≤40→Q (.obj (T.length+7)) (FL T++[aZ ys])):WC c (d+2) (.ref 486) [.obj n,.int ri,.tup [.int x,.int y]] (FL T) Q X:=by
 subst tN
 rcases hn with rfl | rfl
 ·refine WC.frame [1,3,5] (H₀:=F3 3 "fc" 0 tj []) (.of rfl (by decide) ?_) (as₀:=[.obj 0,.int room,.tup [.int x,.int y]]) rfl rfl (Q₀:=fun v G=>v=.obj 3∧∃xs,bK xs∧xs.length≤40∧G=F3 3 "fc" 0 tj [aZ xs]) (X₀:=fun _=>False)
   (Bj F (.inl rfl) hr (codes:=[102,99]) (by decide +kernel) (by decide +kernel) fun xs o l=>⟨rfl,xs,o,l,rfl⟩) ?_ fun _ h=>h.elim
  ·exact⟨⟨rfl,rfl⟩,⟨rfl,rfl⟩,⟨rfl,rfl⟩,trivial⟩
  ·intro v G nU
   refine bG nU fun mI tO=>?_
   clear nU
   refine aL tO fun ys o l nv=>?_
   subst mI
   subst nv
   have q:=q ys o l
   rw[←cF (f:=fr [1,3,5] (FL T).length) (xs:=ys)] at q
   exact q
 ·refine WC.frame [2,4,6] (H₀:=F3 200 "fhz" 77 gT []) (.of rfl (by decide) ?_) (as₀:=[.obj 0,.int room,.tup [.int x,.int y]]) rfl rfl (Q₀:=fun v G=>v=.obj 3∧∃xs,bK xs∧xs.length≤40∧G=F3 200 "fhz" 77 gT [aZ xs]) (X₀:=fun _=>False)
   (Bj F (.inr rfl) hr (codes:=[102,104,122]) (by decide +kernel) (by decide +kernel) fun xs o l=>⟨rfl,xs,o,l,rfl⟩) ?_ fun _ h=>h.elim
  ·exact⟨⟨rfl,rfl⟩,⟨rfl,rfl⟩,⟨rfl,rfl⟩,trivial⟩
  ·intro v G pY
   refine bG pY fun lC u0=>?_
   clear pY
   refine aL u0 fun ys o l jZ=>?_
   subst lC
   subst jZ
   have q:=q ys o l
   rw[←cF (f:=fr [2,4,6] (FL T).length) (xs:=ys)] at q
   exact q
theorem K6 (F:eX c){a k r:Int}(pI:kB ds) (i4:wF u ch dep deep) (hb:kC t a k r) (ht:t≤50000) (hu:u≤60)
  (q:∀ds ch dep deep b ys,kB ds→wF (u+20) ch dep deep→bK ys→ys.length≤3000→Q (.obj ((T++[aZ [a,k,r]]).length+22)) (oq ns bx js xs ds ch dep deep (T++[aZ b])++[aZ ys])) :
  WC c (d+5) (.ref 519) [.obj (T.length+22),.obj 21,.obj 0,.int last] (oq ns bx js xs ds ch dep deep (T++[aZ [a,k,r]])) Q X:=by
 refine WC.frame [0,1,2,3,4,5,6,20,21,T.length+22] (H₀:=BW.H ⟨ds,ch,dep,deep,a,k,r⟩ []) (.of rfl ?_ ?_) (as₀:=[.obj 9,.obj 8,.obj 0,.int last]) rfl rfl
  (Q₀:=fun v G=>v=.obj 10∧∃(w:BW) (xs:List Int),w.Ok (t+100) (u+20)∧bK xs∧xs.length≤3000∧G=w.H [aZ xs]) (X₀:=fun _=>False)
  (PC F ⟨pI,i4,hb⟩ ht hu fun w xs h o l=>⟨rfl,w,xs,h,o,l,rfl⟩) ?_ fun _ h=>h.elim
 ·simp
 ·exact⟨⟨rfl,rfl⟩,⟨rfl,rfl⟩,⟨rfl,rfl⟩,⟨rfl,rfl⟩,⟨rfl,rfl⟩,⟨rfl,rfl⟩,⟨rfl,rfl⟩,⟨fE,by rw[lx];rfl⟩,⟨rfl,rfl⟩,⟨rfl,At.last rfl⟩,trivial⟩
 ·intro v G v8
  refine bG v8 fun sy sG=>?_
  clear v8
  refine b9 sG fun mx ys hw o hl qH=>?_
  subst sy
  obtain⟨Li,ch',Wr,RE,a',k',r'⟩:=mx
  subst qH
  have q:=q Li ch' Wr RE [a',k',r'] ys hw.d hw.s o hl
  have e:∀f,T++[aZ [a',k',r']]=(T++[aZ [a,k,r]]).set T.length (ip f (aZ [a',k',r'])):=fun f=>by
   rw[cF,Cp _ _ (aA _),gZ];rfl
  unfold oq at q
  rw[e (fr [0,1,2,3,4,5,6,20,21,T.length+22] (oq ns bx js xs ds ch dep deep (T++[aZ [a,k,r]])).length),←lx (f:=fr [0,1,2,3,4,5,6,20,21,T.length+22] (oq ns bx js xs ds ch dep deep (T++[aZ [a,k,r]])).length),
   ←cF (f:=fr [0,1,2,3,4,5,6,20,21,T.length+22] (oq ns bx js xs ds ch dep deep (T++[aZ [a,k,r]])).length) (xs:=ys)] at q
  exact q
end
end
section
open PySem PySem.W PySem.Calls PyProof.Rows
section
variable {c:Cx}{d m kp:Nat}{A:aU}{env:dI}{l:Loc}{H:List ag}{SQ:QT}{X:List ag→Prop}{ns:List (bu×bc)}{scope:nR}{x y:bu}{pos uR px py:ij}{oK iter:Expr}
theorem iA.eta (E:iA env ns):env={ env with scope:={ env.scope with kind:=.function,names:=ns } }:=by
 obtain⟨sc,b,g,h,cd,fm⟩:=env
 obtain⟨⟨nm,_⟩,kd,_⟩:=E
 dsimp only at nm kd
 subst nm
 obtain⟨k,n,g1,g2⟩:=sc
 dsimp only at kd
 subst kd
 rfl
theorem VX.aj (F:eX c) (is:List Nat) (E:iA env ns) (kp i:Nat) (hk:scope.kind=.function) (hb:rh ns scope.names x=true) (hs:qB iter=true)
  (YO:lG (.ListComp oK [⟨.Name x px,iter,[],0⟩] scope pos) (some (.Name y py)) uR.line { env with scope:={ env.scope with kind:=.function,names:=ns } }=pure true) (hn:ns[i]?=some (y,.local)) (hi:i<l.length)
  (w:vF ⟨ns,ir is,FT,MT⟩ (vE ⟨c,d,A,env,X⟩ ⟨ns,ir is,FT,MT⟩ 40) (vA ⟨c,d,A,env,X⟩ ⟨ns,ir is,FT,MT⟩ 40) l H kp iter fun xs gE H1=>∃J:Nat→List AV→List ag→Prop,J 0 [] (H1++[.list []]) ∧
   (∀(i:Nat) (acc:List AV) (H':List ag),J i acc H'→gE H'∧H'[H1.length]?=some (.list acc)∧acc.length≤1000000) ∧
   (∀(cenv:dI) (i:Nat) (v:AV) (acc:List AV) (H':List ag),xs[i]?=some v→J i acc H'→vE ⟨c,d,A,cenv,X⟩ ⟨mM ns scope.names,ir is,FT,MT⟩ 40 oK ((mR ns l scope.names).set 1 (some v)) H' fun a H3=>
    H3[H1.length]?=some (.list acc)∧acc.length≤1000000∧J (i+1) (acc++[a]) (H3.set H1.length (.list (acc++[a])))) ∧
   ∀(acc:List AV) (H':List ag),J xs.length acc H'→SQ .next (l.set i (some (.obj H1.length))) H'):VX c d m A env (.Assign [.Name y py] (.ListComp oK [⟨.Name x px,iter,[],0⟩] scope pos) uR) l H SQ X:=by
 have ok:n9 ⟨c,d,A,env,X⟩ ⟨ns,ir is,FT,MT⟩:=⟨F.ok E.toNmEnv,E⟩
 refine VX.of (WX.K7 (kp:=kp) (rD E hk hb) (fun x=>kZ hs x) (by rw[E.eta];exact YO) i (by rw[E.nm];exact hn) hi ((mW ok (nY ok.toVOk 40) w).mo fun xs gE H1 h=>?_))
 refine fF h fun J h1 h2 h3 q=>?_
 clear h
 refine⟨J,h1,h2,fun cenv i v acc H' hn hv j=>BY.nil ?_,q⟩
 rw[if_pos rfl]
 exact(nY (z:=⟨c,d,A,cenv,X⟩) (F.ok (nx E hb hn)) 40).E (h3 cenv i v acc H' hv j)
end
noncomputable def Z9 (k:Nat):List Nat:=[0,1,2,3,4,5,6,7,8,9,10,11,12,13,14,15,16,17,18,k,20,21]
section
variable {c:Cx}{d n m t u:Nat}{H T A G P:List ag}{Q QR:AV→List ag→Prop}{SQ:QT}{X:List ag→Prop}{op:Nat}{one two:Int}{f:ai}{as:List AV}{l:Loc}{w:BW}{xs ns bx:List Int}{j:Nat}{last Ku dm ck ch dep deep:Int}{nm:bu}{ws:List (Int×Int)}{ds:lg}{js:Nat→List Int}
theorem dT.bb (k:Nat) (Wh:List Int) (e:H=oq ns bx js xs ds ch dep deep T) (h22:22≤k) (hk:H[k]?=some (aZ Wh)) (l₁:Loc) (hs:uJ 22 ((Z9 k).getD · 0) l₁ l)
  (q:SQ .next l₁ (oq ns bx js Wh ds ch dep deep [])):dT 8 SQ .next l H:=by
 subst e
 exact .inr ⟨Z9 k,l₁,oq ns bx js Wh ds ch dep deep [],Bt rfl,.of rfl (EN (l:=bh 22) (i:=19) (by decide) fun x hx=>aV (dg.mp hx) h22)
  ⟨⟨rfl,rfl⟩,⟨rfl,rfl⟩,⟨rfl,rfl⟩,⟨rfl,rfl⟩,⟨rfl,rfl⟩,⟨rfl,rfl⟩,⟨rfl,rfl⟩,Bc,Bc,Bc,Bc,Bc,Bc,Bc,Bc,Bc,Bc,Bc,Bc,⟨fB,by rw[cF];exact hk⟩,⟨fE,by rw[lx];rfl⟩,⟨rfl,rfl⟩,trivial⟩,wu.of (τ:=Z9 k) hs,q⟩
theorem WV.Mo {B:aU}{env:dI}(q:∀k:Int,k=1048576→Q (.int k) H):WV c d B env (fun vs=>fb .Pow (vs[0]?.getD .none) (vs[1]?.getD .none)) [.int 2,.int 20] l H Q X:=
 WV.AY (i:=2) (n:=20) (by decide) (by decide +kernel) (q _ (by decide +kernel))
theorem tW (F:eX c){a k r hH:Int}(hb:kC t a k r) (ht:t≤100000) (hm:0<hH) (YD:hH<1073741824)
  (q:∀v a k r,0≤v→v<hH→kC (t+1) a k r→Q (.int v) (oq ns [a,k,r] js xs ds ch dep deep T)):WC c (d+1) (.ref 476) [.obj 8,.int hH] (oq ns [a,k,r] js xs ds ch dep deep T) Q X:=
 fX F (n:=8) rfl hb ht hm YD q
theorem uU (F:eX c){v:Int}{room:Nat}{ri:Int}(tN:ri=room) (hr:room≤100) (q:∀ys,bK ys→ys.length=room→Q (.obj (T.length+22)) (oq ns bx js xs ds ch dep deep (T++[aZ ys]))) :
  WC c (d+1) (.ref 481) [.int v,.int ri] (oq ns bx js xs ds ch dep deep T) Q X:=ky F tN hr q
theorem Kt (F:eX c){room:Nat}{ri x y:Int}(tN:ri=room) (hr:1≤room∧room≤4) (hn:n=1∨n=2) (q:∀ys,bK ys→ys.length≤40→Q (.obj (T.length+22)) (oq ns bx js xs ds ch dep deep (T++[aZ ys]))) :
  WC c (d+2) (.ref 486) [.obj n,.int ri,.tup [.int x,.int y]] (oq ns bx js xs ds ch dep deep T) Q X:=JN F tN hr hn q
theorem wQ {vs:List AV}:listAt (oq ns bx js xs ds ch dep deep (T++[.list vs])) (T.length+22)=some vs:=k7 (show(oq ns bx js xs ds ch dep deep (T++[.list vs]))[T.length+22]?=some (.list vs) from At.last rfl)
theorem A0 {vs:List AV}{x:ag}(h:listAt (oq ns bx js xs ds ch dep deep T) j=some vs):listAt (oq ns bx js xs ds ch dep deep (T++[x])) j=some vs:=cQ (G:=[x]) h
theorem vr {n m:Nat}{x:ag}(h:m≠n):listAt (H.set m x) n=listAt H n:=congrArg (jq · C8) (cO h)
noncomputable def OL (vs:List AV) (n:Nat):Prop:=∃xs:List Int,vs=xs.map .int∧bK xs∧xs.length≤n
theorem OL.of {xs:List Int}{n:Nat}(o:bK xs) (h:xs.length≤n):OL (xs.map .int) n:=⟨xs,rfl,o,h⟩
theorem OL.JV {x:Int}(h:0≤x∧x<256):OL [.int x] 1:=⟨[x],rfl,bK.cons h bK.nil,aA _⟩
theorem OL.app {a b:List AV}{n m:Nat}(h:OL a n) (h':OL b m):OL (a++b) (n+m):=by
 refine aL h fun xs j5 o l=>?_
 clear h
 subst j5
 refine aL h' fun ys j4 o' l'=>?_
 clear h'
 subst j4
 exact⟨xs++ys,aF.symm,o.app o',by rw[ah];exact aW [_,_,_,_] [] [.L aB aM,.L cg fz] (.L (.a aB cg) (.a aM fz)) ui rfl l l'⟩
theorem OL.add {a b:List AV}{n m:Nat}(h:OL a n) (h':OL b m) (hk:n+m≤1000000):a.length+b.length≤1000000:=by
 refine aL h fun xs nF o l=>?_
 clear h
 subst nF
 refine aL h' fun ys mI o' l'=>?_
 clear h'
 subst mI
 rw[aa,aa];exact aW [_,_,_,_] [] [.L (.a aB aM) jg,.L cg aB,.L fz aM] (.L (.a cg fz) jg) tL rfl hk l l'
theorem OL.le {a:List AV}{n m:Nat}(h:OL a n) (h':n≤m):OL a m:=by
 refine aL h fun xs e o l=>?_
 clear h
 exact⟨xs,e,o,az l h'⟩
noncomputable def ve:List eF:=match ((iK (df 63))[4]?:Option eF) with
 |some (eF.For _ _ b _ _)=>b.drop 1
 |_=>[]
inductive BCm (ns x1 x2 x3 sc:List Int) (i:Nat) (acc:List AV):List ag→Prop
 |mk (a k r:Int) (ys:List Int) (hb:kC (2+i) a k r) (e:acc=ys.map .int) (o:bK ys) (hl:ys.length=i) (hi:i≤2) :
  BCm ns x1 x2 x3 sc i acc (FL [aZ ns,aZ [a,k,r],aZ x1,aZ x2,aZ (x1++x2),aZ x3,aZ sc,.list acc])
inductive BPg (ns:List Int) (js:Nat→List Int) (cb:Int) (i:Nat):Loc→List ag→Prop
 |mk (a k r:Int) (xs:List Int) (ds:lg) (ch dep deep last:Int) (p4 II:Option AV) (hb:kC (10+i) a k r) (pI:kB ds) (i4:wF (20*i) ch dep deep) (o:bK xs) (h0:0<xs.length) (hl:xs.length≤17+3100*i) :
  BPg ns js cb i [some (.obj 7),some (.obj 0),some (.obj 8),some (.obj 13),p4,some (.obj 14),some (.obj 19),some (.int last),some (.obj 21),some (.int cb),II,none,none,none] (oq ns [a,k,r] js xs ds ch dep deep [])
inductive BTn (ns:List Int) (js:Nat→List Int) (a k r last cb ch dep deep:Int) (II:Option AV) (i:Nat):Loc→List ag→Prop
 |mk (ds:lg) (xs x0:List Int) (T:List ag) (j:Nat) (hj:∀ds ch dep deep,listAt (oq ns [a,k,r] js x0 ds ch dep deep T) j=some (xs.map .int)) (pI:kB ds) (o:bK xs) (h0:0<xs.length) (hl:xs.length≤17+3100*i+60) :
  BTn ns js a k r last cb ch dep deep II i [some (.obj 7),some (.obj 0),some (.obj 8),some (.obj 13),some (.int (0+(i:Int))),some (.obj 14),some (.obj j),some (.int last),some (.obj 21),some (.int cb),II,none,none,none] (oq ns [a,k,r] js x0 ds ch dep deep T)
inductive BFn (ns:List Int) (js:Nat→List Int) (xs:List Int) (ds:lg) (ch dep deep last cb:Int) (p4 II:Option AV) (i:Nat):Loc→List ag→Prop
 |mk (a k r:Int) (vs:List AV) (T:List ag) (j:Nat) (V7:Option AV) (Oy:T[13]?=some (.list [.obj 2,.obj 1])) (hj:∀bx,listAt (oq ns bx js xs ds ch dep deep T) j=some vs) (hb:kC (20+i) a k r) (ho:OL vs (6246+40*i)) :
  BFn ns js xs ds ch dep deep last cb p4 II i [some (.obj 7),some (.obj 0),some (.obj 8),some (.obj 13),p4,some (.obj 14),some (.obj j),some (.int last),some (.obj 21),some (.int cb),II,some (.int xs.length),some (.obj 24),V7] (oq ns [a,k,r] js xs ds ch dep deep T)
theorem LI (F:eX c) (hz:ns.length≤4) (q:∀xs T,bK xs→0<xs.length→xs.length≤8000→∀n,8≤n→(FL (aZ ns::T))[n]?=some (aZ xs)→Q (.obj n) (FL (aZ ns::T))):WC c (d+6) (.ref 531) [.obj 7,.obj 0] (FL [aZ ns]) Q X:=by
 refine WC.v F rfl rfl fun A env E=>?_
 refine Bh F (by rfl) hz (by decide) fun a k r hb=>?_
 refine ky F (room:=4) rfl (by decide) fun x1 o1 l1=>?_
 refine ky F (room:=4) rfl (by decide) fun x2 o2 l2=>?_
 refine⟨by rw[aa,aa,l1,l2];decide,?_⟩
 rw[o9]
 refine fX F (by rfl) hb (by exact(by decide)) (by decide) (by decide) fun v a k r y1 y2 hb=>?_
 refine ky F (room:=4) rfl (by decide) fun x3 o3 l3=>?_
 refine⟨by rw[aa,aa,ah,l1,l2,l3];decide,?_⟩
 rw[o9]
 have w6:bK (x1++x2++x3):=(o1.app o2).app o3
 have Ls:(x1++x2++x3).length=12:=by rw[ah,ah,l1,l2,l3]
 generalize x1++x2++x3=sc at *
 refine VX.aj F [65,67,66,106,92,74,73,68] E 8 5 (by rfl) (by decide +kernel) (by rfl) (by rfl) (by rfl) (by exact(by decide:5<14)) ?_
 refine⟨rfl,?_⟩
 refine fX F (by rfl) hb (by exact(by decide)) (by decide) (by decide) fun hH a k r z1 z2 hb=>?_
 refine⟨⟨by exact aW [] [_] [.l dF bJ] (.l (.n tG) bJ) cK rfl z1,by exact aW [] [_] [.t bJ pQ] (.t bJ tG) cK rfl z2⟩,?_⟩
 refine⟨BCm ns x1 x2 x3 sc,⟨_,_,_,[],hb,rfl,bK.nil,rfl,by decide⟩,?_,?_,?_⟩
 ·rintro i acc H ⟨a,k,r,ys,hb,rfl,o,hl,Vw⟩
  exact⟨trivial,rfl,by rw[aa];exact pa hl (ca Vw rfl)⟩
 ·rintro cenv i x acc H hx ⟨a,k,r,ys,hb,rfl,o,hl,Vw⟩
  have hi:=(fx hx).1
  refine fX F (by rfl) hb (by exact aW [_] [] [.L aB jL] (.L (.a jL aB) rZ) cK rfl Vw) (by decide) (by decide) fun v a k r z1 z2 hb=>?_
  refine⟨rfl,by rw[aa];exact pa hl (ca Vw rfl),_,_,_,ys++[v],hb,by rw[aF];rfl,o.app (bK.cons ⟨z1,z2⟩ bK.nil),by rw[ah,hl];rfl,SO hi ‹hH<3›⟩
 ·rintro acc H ⟨a,k,r,cm,hb,rfl,ocm,OH,_⟩
  rw[fy] at OH hb
  have OH:cm.length≤2:=by exact aW [_,_] [_] [.t bJ pQ,.E aB aM,.ft aM (.s bJ dF)] (.L aB jL) (.o (.k [1,0,1,0,1,0,1]) jN) rfl z2 OH (kQ _)
  have hb:=hb.le (show 2+(hH-0).toNat≤4 by exact aW [_] [_] [.t bJ pQ,.ft aB (.s bJ dF)] (.L (.a jL aB) iI) (.o jN cN) rfl z2 (kQ _))
  have en:∀xs:List Int,xs.length≤100→2+xs.length≤1000000:=fun xs h=>by exact aW [_] [] [.L aB (.l 100)] (.L (.a jL aB) jg) cK rfl h
  refine⟨by rw[aa];exact en sc (by exact og Ls rfl),?_⟩
  refine⟨by rw[aa];exact ca OH rfl,?_⟩
  rw[aa]
  refine⟨by rw[ah,aa];exact(show 2+_+1≤1000000 by exact aW [_] [] [.E aB (.l 12)] (.L (.a (.a jL aB) bP) jg) cK rfl Ls),?_⟩
  rw[show[AV.int 247,.int 2]++sc.map .int++[.int (cm.length:Nat)]=([247,2]++sc++[(cm.length:Int)]).map .int by rw[aF];rfl]
  have hf0:bK ([247,2]++sc++[(cm.length:Int)]):=((bK.cons (by decide) (bK.cons (by decide) bK.nil)).app w6).app (bK.cons (by exact aW [_] [] [.L aB jL] (.A (.l dF aB) (.t aB (.l 256))) (.o nt cK) rfl OH) bK.nil)
  have VN:([247,2]++sc++[(cm.length:Int)]).length=15:=by rw[ah,ah,Ls];rfl
  refine⟨by rw[aa,aa,VN];exact aW [_] [] [.L aB jL] (.L (.a (.l 15) aB) jg) cK rfl OH,?_⟩
  rw[o9]
  refine fX F (by rfl) hb (by exact(by decide)) (by decide) (by decide) fun cb a k r z3 z4 hb=>?_
  refine⟨8,aA _,rfl,⟨⟨by exact aW [] [_] [.l dF bJ] (.l (.n tG) bJ) cK rfl z3,by exact aW [] [_] [.t bJ pQ] (.t bJ tG) cK rfl z4⟩,?_⟩⟩
  have hf1:bK ([247,2]++sc++[(cm.length:Int)]++cm):=hf0.app ocm
  have VV:0<([247,2]++sc++[(cm.length:Int)]++cm).length∧([247,2]++sc++[(cm.length:Int)]++cm).length≤17:=by rw[ah,VN];exact aW [_] [] [.L aB jL] (.A (.T dF (.a (.l 15) aB)) (.L (.a (.l 15) aB) (.l 17))) (.o nt cK) rfl OH
  obtain⟨js,hjs⟩:∃js:Nat→List Int,js=fun i=>[x1,x2,x1++x2,x3,sc,cm,[247,2],[247,2]++sc,[(cm.length:Int)],[247,2]++sc++[(cm.length:Int)]].getD (i-9) []:=⟨_,rfl⟩
  have V1:js 13=sc:=by subst hjs;rfl
  refine⟨BPg ns js cb,by rw[hjs];exact⟨a,k,r,[247,2]++sc++[(cm.length:Int)]++cm,[],0,0,0,-1,none,none,hb.le (by exact(by decide)),kB.nil,⟨.inl rfl,dR _,dR _,dR _,dR _⟩,hf1,VV.1,by exact VV.2⟩,fun _ _ _ _ _=>trivial,?_,?_⟩
  ·rintro i x l H hx ⟨a,k,r,xs,ds,ch,dep,deep,last,p4,II,hb,pI,i4,o,FG,hl⟩
   refine bG (fx hx) fun hi nv=>?_
   subst nv
   have hi:i<2:=by exact aW [_,_] [_] [.t bJ pQ,.T aB aM,.ft aM (.s bJ dF)] (.T aB jL) (.o rk jN) rfl z4 hi (kQ _)
   refine fX F (by rfl) hb (by exact aW [_] [] [.T aB jL] (.L (.a (.l 10) aB) rZ) cK rfl hi) (by decide) (by decide) fun z a k r z5 z6 hb=>?_
   apply Im (ss:=ve) (BTn ns js a k r last cb ch dep deep II i)
   case w=>
    intro key
    refine⟨fun h0=>?_,fun h0=>?_⟩
    ·obtain⟨fn,Xh,ZA⟩:∃n,(n=1∨n=2)∧[AV.obj 1,.obj 2][(0+(i:Int)).toNat]?=some (.obj n):=by
      rcases(show i=0∨i=1 by exact aW [_] [] [.T aB jL] (.O (.E aB dF) (.E aB bP)) (.o (.o xK cK) (.o cK cN)) rfl hi) with h | h
      ·exact⟨1,.inl rfl,by rw[h];rfl⟩
      ·exact⟨2,.inr rfl,by rw[h];rfl⟩
     refine⟨⟨by exact aW [_] [] [] (.l dF (.a dF aB)) nt rfl,by exact aW [_] [] [.T aB jL] (.t (.a dF aB) D1) cK rfl hi⟩,_,ZA,?_⟩
     refine Bx F (T:=[]) Xh pI fun ds ys pI o2 yN=>?_
     refine⟨by rw[aa,aa];exact aW [_,_,_] [] [.L aB (.a (.l 17) (.m 3100 aM)),.T aM jL,.L cg (.l 60)] (.L (.a aB cg) jg) (.k [1,1,3100,1]) rfl hl hi yN,?_⟩
     rw[o9]
     refine kN (?_:vS _ _ _ _ ve _ _ _)
     exact key _ _ ⟨ds,xs++ys,xs,[aZ ys,aZ (xs++ys)],23,fun _ _ _ _=>rfl,pI,o.app o2,by rw[ah];exact aV FG (bC _ _),by rw[ah];exact aW [_,_,_] [] [.L aB (.a (.l 17) (.m 3100 aM)),.L cg (.l 60)] (.L (.a aB cg) (.a (.a (.l 17) (.m 3100 aM)) (.l 60))) ui rfl hl yN⟩
    ·refine kN (?_:vS _ _ _ _ ve _ _ _)
     exact key _ _ ⟨ds,xs,xs,[],19,fun _ _ _ _=>rfl,pI,o,FG,by exact az hl (lQ 60 rfl)⟩
   case k=>
    rintro l H ⟨ds,xs,x0,T,j,hj,pI,o,FG,hl⟩
    refine Bh F (n:=7) (by rfl) hz (by exact aW [_] [] [.T aB jL] (.A (.l dF (.a bP (.a dF aB))) (.l (.a bP (.a dF aB)) (.l 10))) (.o nt cK) rfl hi) fun a' k' r' nZ=>?_
    refine K6 F (T:=T) pI i4 nZ (by exact(by decide)) (by exact aW [_] [] [.T aB jL] (.L (.m 20 aB) (.l 60)) (.k [1,20]) rfl hi) fun ds ch dep deep b ys pI i4 o2 yN=>?_
    have XH:listAt (oq ns [a,k,r] js x0 ds ch dep deep (T++[aZ b])++[aZ ys]) j=some (xs.map .int):=cQ (cQ (G:=[aZ b]) (hj ds ch dep deep))
    have hy:listAt (oq ns [a,k,r] js x0 ds ch dep deep (T++[aZ b])++[aZ ys]) ((T++[aZ [a',k',r']]).length+22)=some (ys.map .int):=by
     rw[show(T++[aZ [a',k',r']]).length+22=(oq ns [a,k,r] js x0 ds ch dep deep (T++[aZ b])).length by
      show _=(T++[aZ b]).length+22
      rw[ah,ah];rfl]
     exact bI
    conv=>whnf
    rw[xf XH]
    conv=>whnf
    rw[XH]
    refine⟨by rw[aa];exact aW [_,_] [] [.T aB jL,.L aM (.a (.a (.l 17) (.m 3100 aB)) (.l 60))] (.L aM jg) (.k [1,1,3100]) rfl hi hl,?_⟩
    conv=>whnf
    rw[XH,hy]
    refine⟨by rw[aa,aa];exact aW [_,_,_] [] [.T aB jL,.L aM (.a (.a (.l 17) (.m 3100 aB)) (.l 60)),.L cg (.l 3000)] (.L (.a aM cg) jg) (.k [1,1,1,3100]) rfl hi hl yN,?_⟩
    rw[aa]
    refine dT.bb (js:=js) _ (xs++ys) (by rfl) ?_ ((At.last rfl).trans (congrArg some (iG aF.symm))) [some (.obj 7),some (.obj 0),some (.obj 8),some (.obj 13),none,some (.obj 14),some (.obj 19),some (.int xs.length),some (.obj 21),some (.int cb),none,none,none,none] ?_ ?_
    ·exact ay 22 _
    ·exact⟨⟨rfl,rfl⟩,⟨rfl,rfl⟩,⟨rfl,rfl⟩,⟨rfl,rfl⟩,⟨rfl,rfl⟩,⟨rfl,rfl⟩,⟨rfl,rfl⟩,⟨rfl,rfl⟩,⟨rfl,rfl⟩,trivial⟩
    ·exact⟨_,_,_,xs++ys,ds,ch,dep,deep,_,_,_,hb.le (by exact lQ 0 rfl),pI,i4,o.app o2,by rw[ah];exact aV FG (bC _ _),by rw[ah];exact aW [_,_,_] [] [.L aB (.a (.a (.l 17) (.m 3100 aM)) (.l 60)),.L cg (.l 3000)] (.L (.a aB cg) (.a (.l 17) (.m 3100 (.a aM bP)))) ui rfl hl yN⟩
  ·rintro l H ⟨a,k,r,xs,ds,ch,dep,deep,last,p4,II,hb,pI,i4,o,FG,hl⟩
   rw[fy] at hb i4 hl
   have hp:(cb-0).toNat≤2:=by exact aW [_] [_] [.t bJ pQ,.ft aB (.s bJ dF)] (.L aB jL) (.o jN cN) rfl z4 (kQ _)
   have hb:=hb.le (show 10+(cb-0).toNat≤12 by exact aW [_] [] [.L aB jL] (.L (.a (.l 10) aB) (.l 12)) cK rfl hp)
   have hl:xs.length≤6217:=by exact aW [_,_] [] [.L aB (.a (.l 17) (.m 3100 aM)),.L aM jL] (.L aB (.l 6217)) (.k [1,3100,1]) rfl hl hp
   refine⟨by rw[aa];exact ca hl rfl,?_⟩
   rw[aa]
   refine WV.Mo fun k20 GV=>?_
   refine tW F (js:=js) hb (by exact(by decide)) (by exact aW [] [_] [.e bJ (.l 1048576)] (.t dF bJ) cN rfl GV) (by exact aW [] [_] [.e bJ (.l 1048576)] (.t bJ (.l 1073741824)) cK rfl GV) fun v1 a k r _ _ hb=>?_
   refine uU F (js:=js) (room:=4) rfl (by decide) fun y1 o1 l1=>?_
   refine WV.Mo fun k20 GV=>?_
   refine tW F (js:=js) hb (by exact(by decide)) (by exact aW [] [_] [.e bJ (.l 1048576)] (.t dF bJ) cN rfl GV) (by exact aW [] [_] [.e bJ (.l 1048576)] (.t bJ (.l 1073741824)) cK rfl GV) fun v1 a k r _ _ hb=>?_
   refine uU F (js:=js) (room:=4) rfl (by decide) fun y2 o2 l2=>?_
   refine⟨by rw[aa,aa,l1,l2];decide,?_⟩
   have h0:OL (xs.map .int) 6217:=.of o hl
   have hz:OL (y1.map .int++y2.map .int) 8:=(OL.of o1 (bF l1)).app (.of o2 (bF l2))
   have h1:=h0.app (.JV (show(0:Int)≤248∧(248:Int)<256 by decide))
   have hs:=OL.of (xs:=js 13) (n:=12) (by rw[V1];exact w6) (by rw[V1];exact bF Ls)
   refine⟨h0.add (.JV (show(0:Int)≤248∧(248:Int)<256 by decide)) (by decide),?_⟩
   refine uU F (js:=js) (room:=4) rfl (by decide) fun y3 o3 l3=>?_
   have h3:=OL.of o3 (bF l3)
   refine⟨h1.add h3 (by decide),⟨(h1.app h3).add hs (by decide),⟨((h1.app h3).app hs).add hz (by decide),?_⟩⟩⟩
   have h2:=((h1.app h3).app hs).app hz
   refine⟨by decide,_,rfl,?_⟩
   refine tW F (js:=js) hb (by exact(by decide)) (by decide) (by decide) fun v1 a k r _ _ hb=>?_
   refine uU F (js:=js) (room:=2) rfl (by decide) fun y4 o4 l4=>?_
   have h4:=OL.of o4 (bF l4)
   refine⟨h2.add h4 (by decide),?_⟩
   refine uU F (js:=js) (room:=2) rfl (by decide) fun y5 o5 l5=>?_
   have h5:=OL.of o5 (bF l5)
   refine⟨(h2.app h4).add h5 (by decide),?_⟩
   have h6:=(h2.app h4).app h5
   refine⟨36,by exact(by decide:8≤36),?_⟩
   refine WE.W5 (p2:=⟨0,0,0,0⟩) ((nY (z:=⟨c,d+5,A,env,X⟩) (g:=gx (df 63) [65,67,66,106,92,74,73,68]) (F.ok E.toNmEnv) 40).E ?_)
   refine⟨0,_,rfl,rfl,by decide,?_⟩
   refine⟨BFn ns js xs ds ch dep deep last cb p4 II,⟨a,k,r,_,_,34,none,rfl,fun _=>rfl,hb.le (by exact(by decide)),h6⟩,fun i l H _ h=>by obtain⟨a,k,r,vs,T,j,V7,Oy,_⟩:=h;exact Oy,?_,?_⟩
   ·rintro i x l H hx ⟨a,k,r,vs,T,j,V7,Oy,hj,hb,ho⟩
    obtain⟨n,dm,rfl,hn,hi⟩:∃(n:Nat) (dm:Int),x=.obj n∧(n=2∧dm=200∨n=1∧dm=3)∧i<2:=by
     rcases i with _ | _ | i
     ·replace hx:=ae hx;subst hx;exact⟨2,200,rfl,.inl ⟨rfl,rfl⟩,by decide⟩
     ·replace hx:=ae hx;subst hx;exact⟨1,3,rfl,.inr ⟨rfl,rfl⟩,by decide⟩
     ·exact nS hx
    have Q9:n=1∨n=2:=by exact aW [_] [_] [.O (.A (.E aB jL) (.e bJ (.l 200))) (.A (.E aB bP) (.e bJ pQ))] (.O (.E aB bP) (.E aB jL)) (.o (.o (.o (.k [0,1,0,0,0,1]) cK) (.o cK (.k [1,0,0,0,1]))) (.o (.o (.k [0,1,0,0,0,1]) cK) (.o cK (.k [1,0,0,0,1])))) rfl hn
    rcases hn with⟨rfl,rfl⟩ | ⟨rfl,rfl⟩
    all_goals
     refine⟨by decide,_,rfl,?_⟩
     conv=>whnf
     rw[hB,dh]
     cases xg:ds.lookup _ with
     |none=>exact .inl ⟨a,k,r,vs,T,j,_,Oy,hj,hb.le (by exact lQ 1 rfl),ho.le (by exact aW [_] [] [] (.L (.a (.l 6246) (.m 40 aB)) (.a (.l 6246) (.m 40 (.a aB bP)))) nt rfl)⟩
     |some v=>
      refine tW F (js:=js) hb (by exact aW [_] [] [.T aB jL] (.L (.a (.l 20) aB) rZ) cK rfl hi) (by decide) (by decide) fun v1 a k r w1 w2 hb=>?_
      refine⟨by decide,_,rfl,?_⟩
      refine⟨_,by rw[hB,xg];rfl,?_⟩
      refine Kt F (js:=js) (room:=(1+v1).toNat) (tn1 w1) (Zd w1 w2 (by decide)) Q9 fun ys o2 yN=>?_
      refine hY (A0 (hj _)) (hY (wQ) ⟨ho.add (.of o2 yN) (by exact aW [_] [] [.T aB jL] (.L (.a (.a (.l 6246) (.m 40 aB)) (.l 40)) jg) (.k [1,40]) rfl hi),?_⟩)
      refine .inl ⟨a,k,r,vs++ys.map AV.int,T++[aZ ys]++[ag.list (vs++ys.map AV.int)],(T++[aZ ys]).length+22,_,?_,fun _=>wQ,hb.le (by exact lQ 0 rfl),(ho.app (.of o2 yN)).le (by exact bF rfl)⟩
      have:=(ao.mp Oy).1
      rw[aC (by rw[ah];exact aV this (bC _ _)),aC this,Oy]
   ·rintro l H ⟨a,k,r,vs,T,j,V7,Oy,hj,hb,ho⟩
    have hb:=hb.le (show 20+[AV.obj 1,.obj 2].reverse.length≤22 by decide)
    have ho:=ho.le (show 6246+40*[AV.obj 1,.obj 2].reverse.length≤6326 by decide)
    have RU:=OL.JV (show(0:Int)≤249∧(249:Int)<256 by decide)
    have o2:=OL.JV (show(0:Int)≤2∧(2:Int)<256 by decide)
    refine hY (show listAt (oq ns [a,k,r] js xs ds ch dep deep T++[.list [.int 249]]) j=some vs from cQ (hj _)) (hY (bI) ⟨ho.add RU (by decide),?_⟩)
    have g1:=ho.app RU
    refine ky F (room:=4) rfl (by decide) fun ys oy ly=>?_
    have gy:=OL.of oy (bF ly)
    refine hY (cQ bI) (hY (bI) ⟨g1.add gy (by decide),?_⟩)
    have g2:=g1.app gy
    refine hY (cQ bI) (hY (bI) ⟨g2.add o2 (by decide),?_⟩)
    have g3:=g2.app o2
    refine fX F (n:=8) (by rfl) hb (by exact(by decide)) (by decide) (by decide) fun v a k r z7 z8 hb=>?_
    conv=>whnf
    rw[vr,bI]
    rotate_left
    ·exact fun h=>absurd (az (ay 22 _) (bF h.symm)) (show ¬22≤8 by decide)
    refine⟨⟨⟨by exact aW [] [_] [.t bJ iI] (.t (.a iI bJ) tG) cK rfl z8,by exact aW [] [_] [.l dF bJ] (.t (.n tG) (.a iI bJ)) cK rfl z7⟩,by rw[bA,wh];exact aW [_] [_] [.t bJ iI,.ft aB (.a iI bJ)] (.L aB jg) (.o jN cN) rfl z8 (kQ _)⟩,?_⟩
    rw[xu]
    have g4:=OL.of (bK.rep (k:=(4+v).toNat) (show(0:Int)≤223∧(223:Int)<256 by decide)) (n:=7) (by rw[eP];exact aW [_] [_] [.t bJ iI,.ft aB (.a iI bJ)] (.L aB (.l 7)) (.o jN cN) rfl z8 (kQ _))
    conv=>whnf
    rw[cQ ((vr ?_).trans (cQ bI)),bI]
    rotate_left
    ·exact fun h=>absurd (az (ay 22 _) (bF h.symm)) (show ¬22≤8 by decide)
    refine⟨g3.add g4 (by decide),?_⟩
    refine aL (g3.app g4) fun zs e oz lz=>?_
    have hz0:0<zs.length:=by
     have:=congrArg m8 e
     simp only[ah,aa,cC,jl] at this
     exact aW [_,_,_,_] [] [.E (.a (.a (.a (.a aB bP) aM) bP) cg) fz] (.T dF fz) cK rfl this
    exact .inl (q zs _ oz hz0 (by exact ca lz rfl) _ (az (by decide) (ay 22 _)) ((At.last rfl).trans (congrArg some (iG e))))
end
end
section
open PySem PySem.W PySem.Calls PyProof.Rows
section
variable {c:Cx}{d n m t u:Nat}{H T A G P:List ag}{Q QR:AV→List ag→Prop}{X:List ag→Prop}{l:Loc}{xs ns bx:List Int}{j:Nat}{a k r:Int}
theorem wR {xs:List Int}{k:Nat}:(xs.map AV.int).drop k=(xs.drop k).map .int:=yT.symm
theorem D0 {xs:List Int}{k:Nat}:(xs.map AV.int).take k=(xs.take k).map .int:=QO.symm
theorem bK.sub {xs ys:List Int}(h:bK xs) (hs:∀y∈ys,y∈xs):bK ys:=fun y hy=>h y (hs y hy)
theorem FQ (F:eX c) (hb:kC t a k r) (ht:t≤1000) (o:bK xs) (h0:0<xs.length) (hl:xs.length≤8000) (q:∀(n:Nat) (T:List ag) ys,bK ys→ys.length≤8001→T[n]?=some (aZ ys)→Q (.obj n) T):WC c (d+2) (.ref 538) [.obj 0,.obj 1] [aZ [a,k,r],aZ xs] Q X:=by
 refine WC.v F rfl rfl fun A env E=>?_
 refine fX F (by rfl) hb (by exact ca ht rfl) (by decide) (by decide) fun Pa a k r y1 y2 hb=>?_
 refine⟨by rw[aa];exact ca hl rfl,?_⟩
 rw[aa]
 refine fX F (by rfl) hb (by exact dk (oX ht rfl)) (by exact aW [_] [] [.T dF aB] (.t dF aB) cK rfl h0) (by exact aW [_] [] [.L aB (.l 8000)] (.t aB (.l 1073741824)) cK rfl hl) fun place a k r y3 y4 hb=>?_
 refine fX F (by rfl) hb (by exact aW [_] [] [.L aB (.l 1000)] (.L (.a (.a aB bP) bP) rZ) cK rfl ht) (by decide) (by decide) fun lW a k r y5 y6 hb=>?_
 refine al (cI y3) fun p gC=>?_
 subst gC
 have ot:∀k,bK (xs.take k):=fun k=>o.sub fun y hy=>qt hy
 have od:∀k,bK (xs.drop k):=fun k=>o.sub fun y hy=>kR hy
 have lt:(xs.take p).length=p:=by rw[cj];exact aW [_,_,_] [] [.t aB aM,.fm cg aB aM] (.E cg aB) (.o (.o jf cN) (.o n8 vG)) rfl y4 (AH _ _)
 have ld:(xs.drop p).length≤8000:=by rw[aJ];exact rm hl
 have ld1:(xs.drop (p+1)).length≤8000:=by rw[aJ];exact rm hl
 have IE:p+(xs.drop p).length≤8000:=by rw[aJ];exact aW [_,_,_] [] [.L aB (.l 8000),.t aM aB,.fs cg aB aM] (.L (.a aM cg) (.l 8000)) (.o ub rk) rfl hl y4 (eV _ _)
 have zv:p+1+(xs.drop (p+1)).length≤8000:=by rw[aJ];exact aW [_,_,_] [] [.L aB (.l 8000),.t aM aB,.fs cg aB (.a aM bP)] (.L (.a (.a aM bP) cg) (.l 8000)) (.o ub rk) rfl hl y4 (eV _ _)
 have s1:∀{lo:Int},lo=((p+1:Nat):Int)→lM (some lo) none (xs.map AV.int)=(xs.drop (p+1)).map .int:=fun h=>(gd (p+1) h).trans wR
 have s0:lM (some (p:Int)) none (xs.map AV.int)=(xs.drop p).map .int:=(gd p rfl).trans wR
 have s2:lM none (some (p:Int)) (xs.map AV.int)=(xs.take p).map .int:=(pF p rfl).trans D0
 refine⟨fun h=>.inl (q 1 _ xs o (by exact QS hl) rfl),fun h=>?_⟩
 refine⟨fun h=>?_,fun h=>?_⟩
 ·refine⟨by rw[aa];exact ca hl rfl,?_⟩
  rw[s2]
  refine⟨by rw[aa,lt];exact(show p+1≤_ by exact aW [_,_] [] [.L (.a aB aM) (.l 8000)] (.L (.a aB bP) jg) cK rfl IE),?_⟩
  refine⟨by rw[aa];exact ca hl rfl,?_⟩
  rw[s1 (by exact rfl)]
  refine⟨by rw[ah,aa,aa,lt];exact(show p+1+_≤_ by exact ca zv rfl),?_⟩
  have e:(xs.take p).map AV.int++[.int lW]++(xs.drop (p+1)).map .int=(xs.take p++[lW]++xs.drop (p+1)).map .int:=by rw[aF,aF];rfl
  exact .inl (q _ _ _ (((ot p).app (bK.cons ⟨y5,y6⟩ bK.nil)).app (od (p+1))) (by rw[ah,ah,lt];exact(show p+1+_≤_ by exact QS zv)) ((At.last rfl).trans (congrArg some (iG e))))
 refine⟨fun h=>?_,fun h=>?_⟩
 ·refine⟨by rw[aa];exact ca hl rfl,?_⟩
  rw[s2]
  refine⟨by rw[aa,lt];exact(show p+1≤_ by exact aW [_,_] [] [.L (.a aB aM) (.l 8000)] (.L (.a aB bP) jg) cK rfl IE),?_⟩
  refine⟨by rw[aa];exact ca hl rfl,?_⟩
  rw[s0]
  refine⟨by rw[ah,aa,aa,lt];exact(show p+1+_≤_ by exact aW [_,_] [] [.L (.a aB aM) (.l 8000)] (.L (.a (.a aB bP) aM) jg) cK rfl IE),?_⟩
  have e:(xs.take p).map AV.int++[.int lW]++(xs.drop p).map .int=(xs.take p++[lW]++xs.drop p).map .int:=by rw[aF,aF];rfl
  exact .inl (q _ _ _ (((ot p).app (bK.cons ⟨y5,y6⟩ bK.nil)).app (od p)) (by rw[ah,ah,lt];exact(show p+1+_≤_ by exact aW [_,_] [] [.L (.a aB aM) (.l 8000)] (.L (.a (.a aB bP) aM) (.l 8001)) cK rfl IE)) ((At.last rfl).trans (congrArg some (iG e))))
 ·refine⟨by rw[aa];exact ca hl rfl,?_⟩
  rw[s2]
  refine⟨fun h=>?_,fun h=>?_⟩
  ·refine⟨by rw[aa];exact ca hl rfl,?_⟩
   rw[s1 (by exact rfl)]
   refine⟨by rw[aa,aa,lt];exact aW [_,_] [] [.L (.a (.a aB bP) aM) (.l 8000)] (.L (.a aB aM) jg) cK rfl zv,?_⟩
   exact .inl (q _ _ _ ((ot p).app (od (p+1))) (by rw[ah,lt];exact aW [_,_] [] [.L (.a (.a aB bP) aM) (.l 8000)] (.L (.a aB aM) (.l 8001)) cK rfl zv) ((At.last rfl).trans (congrArg some (iG aF.symm))))
  ·refine⟨by rw[aa,lt];exact(show p+0≤_ by exact aW [_,_] [] [.L (.a aB aM) (.l 8000)] (.L (.a aB dF) jg) cK rfl IE),?_⟩
   exact .inl (q _ _ _ ((ot p).app bK.nil) (by rw[ah,lt];exact(show p+0≤_ by exact aW [_,_] [] [.L (.a (.a aB bP) aM) (.l 8000)] (.L (.a aB dF) (.l 8001)) cK rfl zv)) ((At.last rfl).trans (congrArg some (iG (show _++[]=_ from(aF (l₂:=([]:List Int))).symm)))))
end
end
section
open PySem PySem.W PySem.Calls PyProof.Rows
section
variable {c:Cx}{d n m:Nat}{H T A G P:List ag}{Q QR:AV→List ag→Prop}{SQ:QT}{X:List ag→Prop}{l:Loc}{xs ns bx:List Int}{j:Nat}{a k r v lo hi:Int}{B:aU}{env:dI}{as:List AV}{kvs:List (Int×AV)}
theorem hN (F:eX c) (h:lo≤v∧v≤hi) (q:Q (.bool true) H):WC c (d+1) (.ref 97) [.int v,.int lo,.int hi] H Q X:=by
 refine WC.v F rfl rfl fun A env E=>?_
 exact⟨fun _=>⟨fun _=>.inl q,fun h'=>absurd h.2 h'⟩,fun h'=>absurd h.1 h'⟩
theorem DH (F:eX c) (h : -1073741823≤v∧v≤1073741823) (q:Q (.bool true) H):WC c (d+2) (.ref 114) [.int v] H Q X:=by
 refine WC.v F rfl rfl fun A env E=>?_
 exact hN F h (.inl q)
theorem ym (F:eX c) (h:∀x∈xs,-1073741823≤x∧x≤1073741823) (q:Q .none H):WC c (d+3) (.ref 121) [.tup (xs.map .int)] H Q X:=by
 refine WC.v F rfl rfl fun A env E=>?_
 refine⟨H.length,aA _,⟨fB,?_⟩⟩
 refine⟨fun i l' H'=>∃p,l'=[some (.tup (xs.map .int)),p]∧H'=H,⟨_,rfl,rfl⟩,fun _ _ _ _ _=>trivial,?_,?_⟩
 ·intro i x l' H' hx lH
  refine aq lH fun p gC iu=>?_
  clear lH
  subst gC
  subst iu
  rw[aK] at hx
  refine aq (bB.mp hx) fun y hy gC=>?_
  subst gC
  exact DH F (h y (a9 hy)) (.inl ⟨_,rfl,rfl⟩)
 ·intro l' H' mr
  refine aq mr fun p jX j5=>?_
  clear mr
  subst jX
  subst j5
  exact .inl q
theorem xV (F:eX c) (q:Q (.int (-1)) H):WC c (d+1) (.ref 156) [.tup []] H Q X:=by
 refine WC.v F rfl rfl fun A env E=>?_
 exact⟨cR _,⟨fun _=>.inl q,fun h=>absurd rfl h⟩⟩
theorem VS.back {ss:List eF}(w:VS c d m B env ss l H (fun f l H'=>∃kvs ep,H'[n]?=some (.eU kvs ep)∧SQ f l (H'.set n (.dict kvs))) X):VS c d m B env ss l H SQ X:=fun α s I=>
 au (w α s I) (fun f s' u=>by
  obtain⟨af,l',bD,H',y,I',fr,w'⟩:=u
  exact cD w' fun kvs ep e q=>⟨af,l',bD,_,y,⟨I'.ok,I'.e,I'.r,I'.top,I'.h.ofX e,I'.f,I'.k⟩,fr,q⟩) fun _ _ e=>e
theorem WC.x (F:eX c){f:aD}{s:Option eF}{is:List Nat}(e:kM FN f=some (s,is)) (hl:as.length=(j3 s).length) (hn:H[n]?=some (.dict kvs))
  (w:∀A env,iA env (namesOf s)→n9 ⟨c,d,A,env,X⟩ (gx s is)→∀ep,VS c d H.length A env (iK s) (locs as (yD (namesOf s))) (H.set n (.eU kvs ep)) (fun f l H'=>∃kvs ep,H'[n]?=some (.eU kvs ep)∧qE Q f l (H'.set n (.dict kvs))) X):WC c (d+1) (.ref f) as H Q X:=by
 refine fF (F.fn e) fun fd D Qi D3 hb=>?_
 refine WC.Yi D hl hb fun A env he hf=>?_
 have E:iA env (namesOf s):=⟨⟨by rw[he];exact Qi,D3⟩,by rw[he];exact D.kind,hf⟩
 have W:=VS.toX hn fun ep=>VS.back (w A env E ⟨F.ok E.toNmEnv,E⟩ ep)
 exact fun α s I=>W α s (I.loc fun i v e=>by
  have e:=rN e
  unfold uA
  rw[aC (by rw[aa];exact(ao.mp e).1),aK,e]
  rfl)
theorem WC.vs (F:eX c){f:aD}{s:Option eF}{is:List Nat}(e:kM FN f=some (s,is)) (hl:as.length=(j3 s).length)
  (w:∀A env,iA env (namesOf s)→n9 ⟨c,d,A,env,X⟩ (gx s is)→VS c d H.length A env (iK s) (locs as (yD (namesOf s))) H (qE Q) X):WC c (d+1) (.ref f) as H Q X:=by
 refine fF (F.fn e) fun fd D Qi D3 hb=>?_
 refine WC.Yi D hl hb fun A env he hf=>?_
 have E:iA env (namesOf s):=⟨⟨by rw[he];exact Qi,D3⟩,by rw[he];exact D.kind,hf⟩
 exact fun α s I=>w A env E ⟨F.ok E.toNmEnv,E⟩ α s (I.loc fun i v e=>by
  have e:=rN e
  unfold uA
  rw[aC (by rw[aa];exact(ao.mp e).1),aK,e]
  rfl)
theorem VX.items {z:VZ}{g:Sx}(ok:n9 z g){k:Nat}(hk:m≤k){o:Expr}{oR sb pos tp:ij}{es:List Expr}{ec:Nat}{body:List eF}(h1:sD o=true) (h2:(oR.endLine==sb.line)=true)
  (w:vE z g 40 o l H (fun a H1=>∃n kvs ep,a=.obj n∧n<k∧H1[n]?=some (.eU kvs ep)∧∃J:Nat→Loc→List ag→Prop,J 0 l H1∧(∀i l' H',i≤kvs.length→J i l' H'→H'[n]?=some (.eU kvs ep)) ∧
   (∀i (p:Int×AV) l2 H2,kvs[i]?=some p→J i l2 H2→vT g (vE z g 40) 40 (.Tuple es ec tp) (.tup [.int p.1,p.2]) l2 H2 fun l3 H3=>vS z g 40 k body l3 H3 (dT k (zu (J (i+1)) SQ)))∧∀l2 H2,J kvs.length l2 H2→SQ .next l2 H2)) :
  VX z.c z.d m z.A z.env (.For (.Tuple es ec tp) (.Call (.Attribute o "items" oR) [] [] sb) body [] pos) l H SQ z.X:=by
 have v:=nY ok.toVOk 40
 have x:=Af ok 40
 refine VX.R7 (T:=Pr) k hk ⟨_,_,_,rfl⟩ (fun _=>rfl) (WI.items (Ay h1 rfl rfl h2) ((v.E w).mono ?_ fun _ h=>h))
 intro a H1 nU
 refine cy nU fun n kvs ep j4 hn e nF=>?_
 clear nU
 refine fF nF fun J j0 Vo step fin=>?_
 subst j4
 refine⟨n,kvs,ep,rfl,hn,e,J,j0,fun i l' H' hi j=>Vo i l' H' (by rwa [aa] at hi) j,fun i y l2 H2 hx j=>?_,fun l2 H2 j=>fin l2 H2 (by rwa [aa] at j)⟩
 rw[aK] at hx
 refine aq (bB.mp hx) fun p hp iu=>?_
 subst iu
 exact(C7 ok v (step i p l2 H2 hp j)).mono fun l3 H3 h=>VS.H6 (x.S h)
theorem DE (F:eX c){ch:Nat}{bo:Int}(q:Q .none H):WC c (d+3) (.ref 149) [.tup [],.tup [],.obj ch,.int bo] H Q X:=by
 refine WC.vs F rfl rfl fun A env E ok=>?_
 refine VS.cons (((Af ok 60).X (Q:=fun f l1 H1=>f=.next∧l1=[some (.tup []),some (.tup []),some (.obj ch),some (.int bo),some (.int 0),none,none,none,none,none,none,none]∧H1=H) ?_).mono ?_)
 ·exact⟨cR _,rfl,rfl,rfl⟩
 ·intro f l1 H1 pY
  refine bQ pY fun mI nv tO=>?_
  clear pY
  subst mI
  subst nv
  subst tO
  refine VS.cons (VX.of (WX.Ge (fun _=>rfl) (by rfl) (jV rfl) ((nY ok.toVOk 40).E ?_)))
  refine⟨rfl,(nY ok.toVOk 40).A ?_⟩
  exact⟨rfl,VS.nil q⟩
theorem Ih (F:eX c){ws:List (Int×Int)}(hz:ws.length≤10) (q:Q .none [.dict (ws.map eQ)]):WC c (d+1) (.ref 142) [.obj 0] [.dict (ws.map eQ)] Q X:=by
 refine WC.x F (n:=0) rfl rfl rfl fun A env E ok ep=>?_
 refine(Af ok 60).S ?_
 refine⟨1,aA _,?_⟩
 refine⟨fun i l H=>∃p1 p2 p3,l=[some (.obj 0),p1,p2,p3]∧H=[.eU (ws.map eQ) ep],⟨none,none,none,rfl,rfl⟩,fun i l H _ u=>eC u fun _ _ _ _ e=>by rw[e];rfl,?_,?_⟩
 ·intro i x l H hx v8
  refine eC v8 fun p1 p2 p3 lC jZ=>?_
  clear v8
  subst lC
  subst jZ
  rw[aK] at hx
  refine aq (bB.mp hx) fun p hp jX=>?_
  subst jX
  refine⟨fun i l H=>l=[some (.obj 0),some (.int p.1),some (.int p.1),some (.int 0)]∧H=[.eU (ws.map eQ) ep],0,⟨rfl,rfl⟩,?_⟩
  intro i l H Fb
  obtain⟨rfl,rfl⟩:=Fb
  conv=>whnf
  rw[hV]
  cases hw:ws.lookup p.1 with
  |none=>exact .inl ⟨_,_,_,rfl,rfl⟩
  |some w=>
   refine⟨_,by rw[hV,hw];rfl,?_⟩
   exact⟨fun h=>absurd h (by decide),fun _=>.inl ⟨_,_,_,rfl,rfl⟩⟩
 ·intro l H E6
  refine eC E6 fun p1 p2 p3 mx qH=>?_
  clear E6
  subst mx
  subst qH
  exact⟨_,_,rfl,q⟩
theorem Kx (F:eX c){ws:List (Int×Int)}(hz:ws.length≤10) (hw:∀p∈ws,(0≤p.1∧p.1≤255)∧-1073741823≤p.2∧p.2≤1073741823) (q:Q .none [.dict (ws.map eQ)]):WC c (d+4) (.ref 135) [.obj 0,.int 0] [.dict (ws.map eQ)] Q X:=by
 refine WC.x F (n:=0) rfl rfl rfl fun A env E ok ep=>?_
 refine VS.cons (VX.items (k:=1) ok (aA _) rfl rfl ?_)
 refine⟨0,_,ep,rfl,aA _,rfl,?_⟩
 refine⟨fun i l H=>∃p2 p3 p4 p5,l=[some (.obj 0),some (.int 0),p2,p3,p4,p5]∧H=[.eU (ws.map eQ) ep],⟨none,none,none,none,rfl,rfl⟩,fun i l H _ u=>al u fun _ u=>eC u fun _ _ _ _ e=>by rw[e];rfl,?_,?_⟩
 ·intro i p l H hp GS
  refine fW GS fun p2 p3 vq=>?_
  clear GS
  refine cD vq fun p4 p5 sG uy=>?_
  subst sG
  subst uy
  rw[aK] at hp
  refine aq (bB.mp hp) fun j5 hp' j4=>?_
  obtain⟨code,w⟩:=j5
  subst j4
  obtain⟨hc,hw⟩:=hw _ (a9 hp')
  refine hN F hc ?_
  refine⟨by exact(by decide:6≤1000000),⟨fun h=>absurd rfl h,fun _=>?_⟩⟩
  refine AL.tup 0 4 (by exact(by decide:d8 none (some 4) 1 ((6:Nat):Int)=(((0:Nat):Int),((4:Nat):Int)))) (by exact(by decide:¬(0=0∧4=6))) (by decide) (by exact(by decide:4≤6)) (by exact(by decide:6≤1000000)) ?_
  refine ym F (xs:=[w,0,0,0]) ?_ ?_
  ·intro x hx
   simp only[br,bZ,or_false] at hx
   exact hx.elim (fun e=>e▸hw) fun hx=>(show x=0 from by rcases hx with h | h | h<;>exact h)▸(by decide)
  ·refine hN F (by decide) ?_
   refine⟨fun h=>absurd h (by decide),fun _=>?_⟩
   refine hN F (by decide) ?_
   exact⟨fun h=>absurd h (by decide),fun _=>.inl ⟨_,_,_,_,rfl,rfl⟩⟩
 ·intro l H Mp
  refine fW Mp fun p2 p3 GQ=>?_
  clear Mp
  refine cD GQ fun p4 p5 xN Qu=>?_
  subst xN
  subst Qu
  exact VS.nil ⟨_,_,rfl,q⟩
end
end
section
open PySem PySem.W PySem.Calls PyProof.Rows
section
variable {c:Cx}{d n m:Nat}{H T A G P:List ag}{Q QR:AV→List ag→Prop}{SQ:QT}{X:List ag→Prop}{l:Loc}{xs ns bx:List Int}{j:Nat}{a k r v lo hi:Int}{B:aU}{env:dI}{as:List AV}{kvs:List (Int×AV)}
theorem Km (F:eX c) (q:Q (.str "fc") H):WC c (d+1) (.ref 257) [.int 3] H Q X:=by
 refine WC.v F rfl rfl fun A env E=>?_
 refine⟨by decide,?_⟩
 refine WG.str (k:=2) (by decide) (by decide) (u:=99) (by decide +kernel) ?_
 refine⟨fun n l' H'=>l'=[some (.int 3),some (.int 2),some (.str ⟨#[99]⟩)]∧H'=H,0,⟨rfl,rfl⟩,?_⟩
 rintro n l' H' ⟨rfl,rfl⟩
 refine⟨fun h=>absurd h (by decide),fun _=>?_⟩
 refine⟨by decide +kernel,?_⟩
 rw[show(fa "f"++⟨#[99]⟩:bu)=fa "fc" by decide +kernel]
 exact .inl q
theorem EG (F:eX c) (q:Q (.str "fhz") H):WC c (d+1) (.ref 257) [.int 200] H Q X:=by
 refine WC.v F rfl rfl fun A env E=>?_
 refine⟨by decide,?_⟩
 refine WG.str (k:=24) (by decide) (by decide) (u:=122) (by decide +kernel) ?_
 refine⟨fun n l' H'=>(n=1∧l'=[some (.int 200),some (.int 199),some (.str ⟨#[122]⟩)]∧H'=H)∨(n=0∧l'=[some (.int 200),some (.int 7),some (.str ⟨#[104,122]⟩)]∧H'=H),1,.inl ⟨rfl,rfl,rfl⟩,?_⟩
 rintro n l' H' (⟨rfl,rfl,rfl⟩ | ⟨rfl,rfl,rfl⟩)
 ·refine⟨fun _=>?_,fun h=>absurd (by decide) h⟩
  refine⟨by decide,⟨by decide,?_⟩⟩
  refine WG.str (k:=7) (by decide) (by decide) (u:=104) (by decide +kernel) ?_
  refine⟨by decide +kernel,?_⟩
  rw[show(⟨#[104]⟩++⟨#[122]⟩:bu)=⟨#[104,122]⟩ by decide +kernel]
  exact .inl ⟨0,by decide,.inr ⟨rfl,rfl,rfl⟩⟩
 ·refine⟨fun h=>absurd h (by decide),fun _=>?_⟩
  refine⟨by decide +kernel,?_⟩
  rw[show(fa "f"++⟨#[104,122]⟩:bu)=fa "fhz" by decide +kernel]
  exact .inl q
theorem xi {f:Nat→Nat}:∀{ws:List (Int×Int)},nW f (ws.map eQ)=ws.map eQ:=by
 intro us
 induction us with
 |nil=>
  exact rfl
 |cons p ws ih=>
  rw[bY];unfold eQ nW;exact congrArg _ ih
theorem KL {k:Nat}{ws:List (Int×Int)}:tf k [.dict (ws.map eQ)]=true:=by
 show(kW k (ws.map eQ)&&true)=true
 rw[k6];rfl
theorem KX (F:eX c){dm:Int}{nm:bu}{ws:List (Int×Int)}(nr:1≤dm∧dm≤255) (Qi:(nm==fa "")=false) (hz:ws.length≤10) (hw:∀p∈ws,(0≤p.1∧p.1≤255)∧-1073741823≤p.2∧p.2≤1073741823)
  (q:Q .none [.dict (ws.map eQ),jn dm nm 0 2 3,nA,.dict (ws.map eQ)]):WC c (d+5) (.ref 173) [.obj 1,.int dm,.str nm,.int 655360,Aa,.obj 0,.tup [],.tup [],.int 256] [.dict (ws.map eQ),.inst 246 []] Q X:=by
 refine WC.v F rfl rfl fun A env E=>?_
 refine hN F nr ?_
 conv=>whnf
 rw[Qi]
 refine hN F (by decide) ?_
 refine hN F (by decide) ?_
 refine⟨by decide,⟨fun h=>absurd h (by decide),fun _=>?_⟩⟩
 refine ym F (xs:=[0,196608,98304,65536,262144,655360,65536]) (by decide) ?_
 refine ym F (xs:=[]) (by decide) ?_
 refine⟨cR _,?_⟩
 refine WC.take (H₀:=[.dict (ws.map eQ)]) (X₀:=fun _=>False) [.inst 246 []] KL rfl (Kx F hz hw ⟨⟨rfl,KL,rfl⟩,?_⟩) (fun _ h=>h.elim)
 refine WC.take (H₀:=[.dict (ws.map eQ)]) (X₀:=fun _=>False) [.inst 246 []] KL rfl (Ih F hz ⟨⟨rfl,KL,rfl⟩,?_⟩) (fun _ h=>h.elim)
 refine DE F ?_
 refine⟨by decide,⟨by rw[aa];exact aW [_] [] [.L aB (.l 10)] (.L aB jg) cK rfl hz,?_⟩⟩
 refine xV F ?_
 refine(?_:_∨_)
 refine Or.inl ?_
 refine Eq.mpr (congrArg (Q .none) ?_) q
 kernel_rfl
noncomputable def ze (p:Int×Int):AV:=.tup [.int p.1,.int p.2,.int 0,.int 0]
end
end
section
open PySem PySem.W PySem.Calls PyProof.Rows
section
variable {c:Cx}{d n m:Nat}{H T A G P:List ag}{Q QR:AV→List ag→Prop}{SQ:QT}{X:List ag→Prop}{l:Loc}
noncomputable def GW (c:Cx):Prop:=∃fd VG,qk c.K 267 fd (iK (df 32)) (j3 (df 32))∧fd.scope.names=namesOf (df 32)∧(∀p∈namesOf (df 32),(p.1==("__debug__":bu))=false) ∧
 ∀(s:aH) (α:Am),(∀b o,c.hb.get? b=some o→s.heap.get? b=some o)→bl c s.heap α [Aa,.tup [],.tup [],.int 256] VG∧∀v1 v2,wL s fd ⟨[v1,v2],[]⟩ ((j3 (df 32)).zip (v1::v2::VG))
theorem WC.vd (F:eX c) (D:GW c){a1 a2:AV}(w:∀A env,iA env (namesOf (df 32))→vS ⟨c,d,A,env,X⟩ (gx (df 32) [25,27,21,92,102,43,44]) 60 H.length (iK (df 32)) (locs [a1,a2,Aa,.tup [],.tup [],.int 256] (yD (namesOf (df 32)))) H (dT H.length (qE Q))) :
  WC c (d+1) (.ref 267) [a1,a2] H Q X:=by
 refine b9 D fun fd VG D hn D3 hb=>?_
 intro W6 α s vs I r
 refine WC.Qs rfl D (as':=[a1,a2,Aa,.tup [],.tup [],.int 256]) rfl (fun α s vs I r=>?_) (fun A env he hf α s I=>?_) α s vs I r
 ·have r0:=r
  unfold bl at r0
  refine aN r0 fun v1 r1 gC q1 Z1=>?_
  clear r0
  subst gC
  unfold bl at Z1
  refine aN Z1 fun v2 r2 iu q2 r2'=>?_
  clear Z1
  subst iu
  unfold bl at r2'
  subst r2'
  obtain⟨b1,b2⟩:=hb s α (fun b o e=>I.h.base _ _ e)
  exact⟨v1::v2::VG,eD q1 (eD q2 b1),b2 v1 v2⟩
 ·have E:iA env (namesOf (df 32)):=⟨⟨by rw[he];exact hn,D3⟩,by rw[he];exact D.kind,hf⟩
  have W:=VS.H6 ((Af ⟨F.ok E.toNmEnv,E⟩ 60).S (w A env E))
  have I':=I.loc (l':=locs [a1,a2,Aa,.tup [],.tup [],.int 256] (yD (namesOf (df 32)))) fun i v e=>by
   have e:=rN e
   unfold uA
   rw[aC (by rw[aa];exact(ao.mp e).1),aK,e]
   rfl
  exact au (W α s I') (fun _ _ p=>(p.full (bF I.h.len)).toR) fun _ _ p=>p.full (bF I.h.len)
theorem H9 (F:eX c) (D:GW c){dm:Int}{nm:bu}{ws:List (Int×Int)}(Uc:∀{d:Nat}{H:List ag}{Q:AV→List ag→Prop}{X:List ag→Prop},Q (.str nm) H→WC c (d+1) (.ref 257) [.int dm] H Q X) (nr:1≤dm∧dm≤255) (Qi:(nm==fa "")=false) (hz:ws.length≤10)
  (hnd:(ws.map (·.1)).Nodup) (hw:∀p∈ws,(0≤p.1∧p.1≤255)∧-1073741823≤p.2∧p.2≤1073741823)
  (q:Q (.obj 2) [.list (ws.map ze),.dict (ws.map eQ),jn dm nm 0 3 4,nA,.dict (ws.map eQ)]):WC c (d+7) (.ref 267) [.int dm,.obj 0] [.list (ws.map ze)] Q X:=by
 refine WC.vd F D fun A env E=>?_
 refine hN F nr ?_
 refine⟨1,aA _,?_⟩
 refine⟨fun i l H=>∃p,l=[some (.int dm),some (.obj 0),some Aa,some (.tup []),some (.tup []),some (.int 256),some (.obj 1),p]∧H=[.list (ws.map ze),.dict ((ws.take i).map eQ)],⟨none,rfl,rfl⟩,fun i l H _ ⟨_,_,e⟩=>by rw[e];rfl,?_,?_⟩
 ·intro i x l H hx lH
  refine aq lH fun p gC iu=>?_
  clear lH
  subst gC
  subst iu
  rw[aK] at hx
  refine aq (bB.mp hx) fun jX hp j5=>?_
  obtain⟨code,w⟩:=jX
  subst j5
  refine⟨by exact(by decide:4≤1000000),⟨fun _=>⟨fun _=>?_,fun h=>absurd (by exact(by decide:((4:Nat):Int)≤7)) h⟩,fun h=>absurd (by exact(by decide:(4:Int)≤((4:Nat):Int))) h⟩⟩
  have xg:(ws.take i).lookup code=none:=by
   rw[gG]
   intro p hp'
   obtain⟨j,hj⟩:=eO.mp hp'
   have hji:j<i:=by
    have:=(ao.mp hj).1
    rw[cj] at this;exact aW [_,_,_,_] [] [.T aB aM,.fm aM cg fz] (.T aB cg) (.o jN (.k [1,1,1,0,1])) rfl this (AH _ _)
   rw[yQ hji] at hj
   have qw:=(ao.mp hp).1
   have hjl:=(ao.mp hj).1
   refine bne_iff_ne.mpr fun e=>?_
   have:=(List.pairwise_iff_getElem.mp hnd) j i (by rw[aa];exact hjl) (by rw[aa];exact qw) hji
   rw[JI,JI,(ao.mp hj).2,(ao.mp hp).2] at this
   exact this e.symm
  conv=>whnf
  rw[hV,xg]
  refine⟨by exact(by decide:4+3≤1000000),?_⟩
  refine AL.tup 1 7 (by exact(by decide:d8 (some 1) (some 7) 1 ((7:Nat):Int)=(((1:Nat):Int),((7:Nat):Int)))) (by exact(by decide:¬(1=0∧7=7))) (by decide) (by exact(by decide:7≤7)) (by exact(by decide:7≤1000000)) ?_
  refine⟨by rw[aa,cj];exact aW [_,_,_] [] [.L aB (.l 10),.fm aM cg aB] (.L aM jg) (.o (.k [1,1,1,0,1]) jN) rfl hz (AH _ _),?_⟩
  have aaa:ml code (.tup [.int w,.int 0,.int 0,.int 0,.int 0,.int 0]) ((ws.take i).map eQ)=(ws.take (i+1)).map eQ:=by
   rw[vb (by rw[hV,xg];rfl),gi,hp,aF];rfl
  exact .inl ⟨_,rfl,congrArg (fun x=>[ag.list (ws.map ze),.dict x]) aaa⟩
 ·intro l H mr
  refine aq mr fun p j5 j4=>?_
  clear mr
  subst j5
  subst j4
  rw[aa,kE]
  refine Uc ?_
  refine WC.mk F rfl ?_
  refine WC.frame [1,2] (H₀:=[.dict (ws.map eQ),.inst 246 []]) (.of rfl (by decide) ?_) (as₀:=[.obj 1,.int dm,.str nm,.int 655360,Aa,.obj 0,.tup [],.tup [],.int 256]) rfl rfl
   (Q₀:=fun v G=>v=.none∧G=[.dict (ws.map eQ),jn dm nm 0 2 3,nA,.dict (ws.map eQ)]) (X₀:=fun _=>False) (KX F nr Qi hz hw ⟨rfl,rfl⟩) ?_ fun _ h=>h.elim
  ·exact⟨⟨k6,congrArg (fun v=>some (ag.dict v)) xi.symm⟩,⟨rfl,rfl⟩,trivial⟩
  ·intro v G nU
   obtain⟨rfl,rfl⟩:=nU
   refine⟨rfl,.inl ?_⟩
   rw[←show ip (fr [1,2] 3) (.dict (ws.map eQ))=.dict (ws.map eQ) from congrArg ag.dict xi] at q
   exact q
end
end
section
open PySem PySem.W PySem.Calls PyProof.Rows
section
variable {c:Cx}{d n m:Nat}{H T A G P:List ag}{Q QR:AV→List ag→Prop}{SQ:QT}{X:List ag→Prop}{l:Loc}{σ:List Nat}
theorem xZ {n:Nat}(h:n<H.length) (hn:n∉σ):(put σ H G)[n]?=H[n]?:=by
 unfold put
 rw[aC (by rw[je];exact h),u4 _ hn]
theorem ff {n:Nat}{x:ag}(nd:σ.Nodup) (hs:∀i∈σ,i<H.length) (h:G[n]?=some x):(put σ H G)[fr σ H.length n]?=some (ip (fr σ H.length) x):=by
 unfold put
 by_cases hn:n<σ.length
 ·have e:σ[n]?=some σ[n]:=aw hn
  have e2:fr σ H.length n=σ[n]:=by unfold fr;rw[e]
  have hi:=hs _ (ur hn)
  rw[e2,aC (by rw[je];exact hi),Ah _ nd e h hi]
 ·have e2:fr σ H.length n=H.length+(n-σ.length):=by unfold fr;rw[cH (by exact aR hn)]
  rw[e2,aY (by rw[je];exact bC _ _),je,fq,aK,cG,show σ.length+(n-σ.length)=n by exact aW [_,_,_] [] [.N (.T aB aM),.fs cg aB aM] (.E (.a aM cg) aB) (.o (.o jf cN) (.o cK jN)) rfl hn (eV _ _),h]
  rfl
theorem jx.id {ks ns:List Int}(h:jx ks ns) (hp:ks.Pairwise (·≤·)):ns=ks:=v3 (le:=(·≤·)) (fun a b _ _=>Nz) h.2 hp h.1
noncomputable def Tr (ws:List (Int×Int)):AV→AV
 |.int k=>.tup [.int k,.int ((ws.lookup k).getD 0),.int 0,.int 0]
 |_=>.none
noncomputable abbrev LA0 (ns:List Int):List ag:=[aZ ns,.list [],.list [.int 3,.int 200]]
noncomputable abbrev LA1 (ns:List Int):List ag:=[aZ ns,.list [.obj 3],.list [.int 3,.int 200],jn 3 "fc" 0 5 4,.dict (tj.map eQ),nA]
noncomputable abbrev Jx (ns:List Int) (ck:Int):List ag:=[aZ ns,.list [.obj 3,.obj 6],.list [.int 3,.int 200],jn 3 "fc" 0 5 4,.dict (tj.map eQ),nA,jn 200 "fhz" ck 8 7,.dict (gT.map eQ),nA]
theorem IM.self {k:Nat}{xs:List AV}(h:∀x∈xs,gv H k x x true):IM H k xs xs (xs.map fun _=>true):=by
 induction xs with
 |nil=>exact .nil
 |cons x xs ih=>exact .cons (h x aI) (ih fun y hy=>h y (aG _ hy))
theorem Th {xs:List AV}:(xs.map fun _=>true).all id=true:=by rw[AQ];exact ba.mpr fun _ _=>rfl
theorem gv.S6 {k:Nat}{xs:List AV}(h:∀x∈xs,gv H k x x true):gv H (k+1) (.tup xs) (.tup xs) true:=.tupS (IM.self h) Th
theorem gv.Sz {k n m:Nat}{xs:List AV}(h1:H[n]?=some (.list xs)) (h2:H[m]?=some (.list xs)) (h:∀x∈xs,gv H k x x true):gv H (k+1) (.obj n) (.obj m) true:=
 A7 (n:=xs.length) (fun _ _=>rfl)▸.lst (e:=fun _=>true) h1 h2 rfl fun j x y e1 e2=>by
  cases e1.symm.trans e2
  exact h x (a9 e1)
theorem gv.i {i:Int}:gv H 0 (.int i) (.int i) true:=beq_self_eq_true i▸.int i i
theorem gv.b {x:List UInt8}:gv H 0 (.eg x) (.eg x) true:=beq_self_eq_true x▸.eg x x
theorem gv.ts {xs:List Int}:gv H 1 (.tup (xs.map .int)) (.tup (xs.map .int)) true:=.S6 fun x hx=>by
 refine aq (dJ.mp hx) fun i _ gC=>?_;subst gC;exact .i
theorem gv.row (r:n5):gv H 1 r.av r.av true:=by
 cases r with
 |char h v f c=>exact gv.ts (xs:=[0,h,v,f,c])
 |rule h v a b=>exact gv.ts (xs:=[1,h,v,a,b])
 |spec h v t=>exact .tupS (.cons .i (.cons .i (.cons .i (.cons .b .nil)))) rfl
theorem gv.tZ (p:List Int×List n5):gv H 3 (tZ p) (tZ p) true:=
 .tupS (.cons (.up .ts) (.cons (.S6 fun x hx=>by
  refine aq (dJ.mp hx) fun r _ iu=>?_
  subst iu
  exact .row r) .nil)) rfl
theorem gv.told {v:g7}{o:wk}{p s p' s':Nat}{ns:List Int}(ho:o=v.out) (h1:H[p]?=some (.list (v.cb.map Mine.tZ))) (h2:H[p']?=some (.list (v.cb.map Mine.tZ))) (h3:H[s]?=some (aZ ns)) (h4:H[s']?=some (aZ ns)) :
  gv H 5 (J5 v p s) (IP o p' s') true:=by
 subst ho
 exact .tupS (.cons (.up (.up (.up (gv.ts (xs:=[_,_,_]))))) (.cons (.up (.up (.up (.up .b)))) (.cons (gv.Sz h1 h2 fun x hx=>by refine aq (dJ.mp hx) fun p _ jX=>?_;subst jX;exact .tZ p) (.cons (.up (.up (.up (.up .i)))) (.cons (.up (.up (.up (.up .i)))) (.cons (.up (.up (.up (.up .i))))
  (.cons (.up (.up (.up (gv.Sz h3 h4 fun x hx=>by refine aq (dJ.mp hx) fun p _ j5=>?_;subst j5;exact .i)))) .nil))))))) rfl
structure FI (H:List ag):Prop where
 f1:H[1]?=some (.list [.obj 3,.obj 6])
 f3:H[3]?=some (jn 3 "fc" 0 5 4)
 f6:H[6]?=some (jn 200 "fhz" 77 8 7)
 f4:H[4]?=some (.dict (tj.map eQ))
 f7:H[7]?=some (.dict (gT.map eQ))
 f5:H[5]?=some nA
 f8:H[8]?=some nA
noncomputable abbrev sF:List Nat:=[1,3,6,4,7,5,8]
theorem FI.len (h:FI H):9≤H.length:=(ao.mp h.f8).1
theorem FI.lt (h:FI H):∀i∈sF,i<H.length:=fun i hi=>by
 have:=h.len
 simp only[sF,br,bZ,or_false] at hi
 exact aW [_,_] [] [.L (.l 9) aB,.O (.E aM bP) (.O (.E aM pQ) (.O (.E aM (.l 6)) (.O (.E aM iI) (.O (.E aM (.l 7)) (.O (.E aM (.l 5)) (.E aM (.l 8)))))))] (.T aM aB) (.o qu (.o qu (.o qu (.o qu (.o qu (.o qu qu)))))) rfl this hi
theorem FI.sel (h:FI H):tE sF (FL []) H:=.of rfl (by decide) ⟨⟨rfl,h.f1⟩,⟨rfl,h.f3⟩,⟨rfl,h.f6⟩,⟨rfl,h.f4⟩,⟨rfl,h.f7⟩,⟨rfl,h.f5⟩,⟨rfl,h.f8⟩,trivial⟩
theorem FI.put (h:FI H):FI (Mine.put sF H (FL G)):=by
 have nd:sF.Nodup:=by decide
 exact⟨ff (n:=0) (x:=(.list [.obj 1,.obj 2])) nd h.lt rfl,ff (n:=1) (x:=(jn 3 "fc" 0 5 3)) nd h.lt rfl,ff (n:=2) (x:=(jn 200 "fhz" 77 6 4)) nd h.lt rfl,ff (n:=3) (x:=(.dict (tj.map eQ))) nd h.lt rfl,ff (n:=4) (x:=(.dict (gT.map eQ))) nd h.lt rfl,ff (n:=5) (x:=nA) nd h.lt rfl,ff (n:=6) (x:=nA) nd h.lt rfl⟩
theorem Lu (F:eX c){b:List UInt8}(hF:FI H) (hb:b.length≤100000) (q0:iD b=none→∀H',FI H'→Q .none H')
  (q1:∀v,iD b=some v→∀ns p s H',jx (v.cL.map (·.1)) ns→FI H'→9≤p→9≤s→H'[p]?=some (DZ v.cb)→H'[s]?=some (aZ ns)→Q (J5 v p s) H'):WC c (d+10) (.ref 621) [.eg b,.obj 1] H Q X:=by
 refine WC.frame sF (H₀:=FL []) hF.sel (as₀:=[.eg b,.obj 0]) rfl rfl (X₀:=fun _=>False)
  (Q₀:=fun v G=>(iD b=none∧v=.none∧∃T,G=FL T)∨∃w a ns,iD b=some w∧jx (w.cL.map (·.1)) ns∧v=J5 w 10 12∧G=FL [VP,d6 b a,Br w,DZ w.cb,.dict (w.cL.map iW),aZ ns]) (NZ F hb ?_) ?_ fun _ h=>h.elim
 ·cases e:iD b with
  |none=>exact fun T=>.inl ⟨rfl,rfl,T,rfl⟩
  |some w=>exact fun a ns h=>.inr ⟨w,a,ns,rfl,h,rfl,rfl⟩
 ·have nd:sF.Nodup:=by decide
  have:=hF.len
  rintro v G (⟨e,rfl,T,rfl⟩ | ⟨w,a,ns,e,hs,rfl,rfl⟩)
  ·exact q0 e _ hF.put
  ·refine q1 w e ns (H.length+3) (H.length+5) _ hs hF.put (by exact az this (lQ 3 rfl)) (by exact az this (lQ 5 rfl)) ?_ ?_
   ·exact(ff (n:=10) (x:=DZ w.cb) nd hF.lt rfl).trans (congrArg (fun v=>some (ag.list v)) (fh tX))
   ·exact(ff (n:=12) (x:=aZ ns) nd hF.lt rfl).trans (congrArg some cF)
theorem yW (F:eX c){b:List UInt8}(hF:FI H) (hb:b.length≤100000) (q0:rI b=none→∀H',FI H'→Q .none H')
  (q1:∀o,rI b=some o→∀ns p s H',jx (o.known.map (·.1)) ns→(∀(n:Nat) x,9≤n→H[n]?=some x→H'[n]?=some x)→H'[p]?=some (DZ o.cb)→H'[s]?=some (aZ ns)→Q (IP o p s) H'):WC c (d+6) (.ref 616) [.eg b,.obj 1] H Q X:=by
 refine WC.frame sF (H₀:=FL []) hF.sel (as₀:=[.eg b,.obj 0]) rfl rfl (X₀:=fun _=>False)
  (Q₀:=fun v G=>(rI b=none∧v=.none∧∃T,G=FL T)∨∃o cs ns,rI b=some o∧jx (o.known.map (·.1)) ns∧v=IP o 9 10∧G=CH cs o.known (DZ o.cb) [aZ ns]) (LR F hb (fun e T=>.inl ⟨e,rfl,T,rfl⟩) fun o e cs ns h=>.inr ⟨o,cs,ns,e,h,rfl,rfl⟩) ?_ fun _ h=>h.elim
 have nd:sF.Nodup:=by decide
 rintro v G (⟨e,rfl,T,rfl⟩ | ⟨o,cs,ns,e,hs,rfl,rfl⟩)
 ·exact q0 e _ hF.put
 ·refine q1 o e ns (H.length+2) (H.length+3) _ hs (fun n x hn hx=>?_) ?_ ?_
  ·rw[xZ (ao.mp hx).1 (by simp only[sF,br,bZ,or_false];exact aW [_] [] [.L (.l 9) aB] (.N (.O (.E aB bP) (.O (.E aB pQ) (.O (.E aB (.l 6)) (.O (.E aB iI) (.O (.E aB (.l 7)) (.O (.E aB (.l 5)) (.E aB (.l 8))))))))) (.o cN (.o cN (.o cN (.o cN (.o cN (.o cN cN)))))) rfl hn)];exact hx
  ·exact(ff (n:=9) (x:=DZ o.cb) nd hF.lt rfl).trans (congrArg (fun v=>some (ag.list v)) (fh tX))
  ·exact(ff (n:=10) (x:=aZ ns) nd hF.lt rfl).trans (congrArg some cF)
noncomputable def Ln:List eF:=(iK (df 78)).drop 3
theorem Ry (F:eX c) (D:GW c){a:aD}{ns:List Int}{vs:Array ai}(hl:c.hb.IsList a vs) (hi:oD vs.toList ns) (hz:ns.length≤1000000) (q:∀H,Q (.bool true) H):WC c (d+11) (.ref 626) [.fix (.ref a)] [] Q X:=by
 refine WC.v F rfl rfl fun A env E=>?_
 refine AL.Y0 hl hi hz ?_
 rw[show lM none (some (4:Int)) ns=ns.take 4 from pF 4 rfl]
 have h4:(ns.take 4).length≤4:=by rw[cj];exact aW [_,_] [] [.fm aB iI aM] (.L aB iI) (.o cN ui) rfl (AH _ _)
 generalize ns.take 4=n4 at *
 refine⟨3,cR _,?_⟩
 refine WV.tq (.inl rfl) (by decide) fun ks hs=>?_
 have hk:ks=[3,200]:=jx.id hs (by decide)
 subst hk
 refine⟨fun i l H=>∃p1 p2,l=[some (.obj 0),some (.obj 1),p1,p2,none]∧(i=0∧H=LA0 n4∨i=1∧H=LA1 n4∨i=2∧H=Jx n4 0),⟨none,none,rfl,.inl ⟨rfl,rfl⟩⟩,?_,?_,?_⟩
 ·rintro i l H _ ⟨p1,p2,_,(⟨_,e⟩ | ⟨_,e⟩ | ⟨_,e⟩)⟩
  all_goals rw[e];rfl
 ·rintro i x l H hx ⟨p1,p2,rfl,(⟨rfl,rfl⟩ | ⟨rfl,rfl⟩ | ⟨rfl,rfl⟩)⟩
  ·replace hx:=ae hx
   subst hx
   refine⟨_,rfl,?_⟩
   refine WE.lc F [96,111,45,105,76,65,75,89,88] E 4 (Tr tj) (by rfl) (by decide +kernel) (by rfl) ?_
   refine WV.tq (.inl rfl) (by decide) fun ks hs=>?_
   have hk:ks=[65,97,200]:=jx.id hs (by decide)
   subst hk
   refine⟨⟨fun _=>rfl,by decide⟩,fun cenv i v acc hv=>?_,?_⟩
   ·rcases i with _ | _ | _ | i
    ·replace hv:=ae hv;subst hv;exact⟨_,rfl,rfl,rfl⟩
    ·replace hv:=ae hv;subst hv;exact⟨_,rfl,rfl,rfl⟩
    ·replace hv:=ae hv;subst hv;exact⟨_,rfl,rfl,rfl⟩
    ·exact nS hv
   ·refine WC.frame [4] (H₀:=[.list (tj.map ze)]) (.of rfl (by decide) ?_) (as₀:=[.int 3,.obj 0]) rfl rfl
     (Q₀:=fun v G=>v=.obj 2∧G=[.list (tj.map ze),.dict (tj.map eQ),jn 3 "fc" 0 3 4,nA,.dict (tj.map eQ)]) (X₀:=fun _=>False)
     (H9 F D (nm:="fc") (ws:=tj) (Km F) (by decide) (by decide +kernel) (by decide) (by decide) (by decide) ⟨rfl,rfl⟩) ?_ fun _ h=>h.elim
    ·exact⟨⟨rfl,rfl⟩,trivial⟩
    ·intro v G lH
     obtain⟨rfl,rfl⟩:=lH
     refine⟨cR _,?_⟩
     refine .inr ⟨[0,1,2,6,8,7],[some (.obj 0),some (.obj 1),none,none,none],LA1 n4,Bt rfl,(.of rfl (by decide) ?_),wu.of (τ:=[0,1,2,6,8,7]) (l₁:=[some (.obj 0),some (.obj 1),none,none,none]) ⟨⟨rfl,rfl⟩,⟨rfl,rfl⟩,trivial⟩,⟨_,_,rfl,.inr (.inl ⟨rfl,rfl⟩)⟩⟩
     ·exact⟨Bc,⟨rfl,rfl⟩,⟨rfl,rfl⟩,⟨rfl,rfl⟩,⟨rfl,rfl⟩,⟨rfl,rfl⟩,trivial⟩
  ·replace hx:=ae hx
   subst hx
   refine⟨_,rfl,?_⟩
   refine WE.lc F [96,111,45,105,76,65,75,89,88] E 7 (Tr gT) (by rfl) (by decide +kernel) (by rfl) ?_
   refine WV.tq (.inl rfl) (by decide) fun ks hs=>?_
   have hk:ks=[66,98,255]:=jx.id hs (by decide)
   subst hk
   refine⟨⟨fun _=>rfl,by decide⟩,fun cenv i v acc hv=>?_,?_⟩
   ·rcases i with _ | _ | _ | i
    ·replace hv:=ae hv;subst hv;exact⟨_,rfl,rfl,rfl⟩
    ·replace hv:=ae hv;subst hv;exact⟨_,rfl,rfl,rfl⟩
    ·replace hv:=ae hv;subst hv;exact⟨_,rfl,rfl,rfl⟩
    ·exact nS hv
   ·refine WC.frame [7] (H₀:=[.list (gT.map ze)]) (.of rfl (by decide) ?_) (as₀:=[.int 200,.obj 0]) rfl rfl
     (Q₀:=fun v G=>v=.obj 2∧G=[.list (gT.map ze),.dict (gT.map eQ),jn 200 "fhz" 0 3 4,nA,.dict (gT.map eQ)]) (X₀:=fun _=>False)
     (H9 F D (nm:="fhz") (ws:=gT) (EG F) (by decide) (by decide +kernel) (by decide) (by decide) (by decide) ⟨rfl,rfl⟩) ?_ fun _ h=>h.elim
    ·exact⟨⟨rfl,rfl⟩,trivial⟩
    ·intro v G mr
     obtain⟨rfl,rfl⟩:=mr
     refine⟨ay 1 _,?_⟩
     refine .inr ⟨[0,1,2,3,4,5,9,11,10],[some (.obj 0),some (.obj 1),none,none,none],Jx n4 0,Bt rfl,(.of rfl (by decide) ?_),wu.of (τ:=[0,1,2,3,4,5,9,11,10]) (l₁:=[some (.obj 0),some (.obj 1),none,none,none]) ⟨⟨rfl,rfl⟩,⟨rfl,rfl⟩,trivial⟩,⟨_,_,rfl,.inr (.inr ⟨rfl,rfl⟩)⟩⟩
     ·exact⟨Bc,⟨rfl,rfl⟩,⟨rfl,rfl⟩,⟨rfl,rfl⟩,⟨rfl,rfl⟩,⟨rfl,rfl⟩,⟨rfl,rfl⟩,⟨rfl,rfl⟩,⟨rfl,rfl⟩,trivial⟩
  ·exact nS hx
 ·rintro l H ⟨p1,p2,rfl,(⟨h,_⟩ | ⟨h,_⟩ | ⟨_,rfl⟩)⟩
  ·cases h
  ·cases h
  refine⟨by decide,_,rfl,?_⟩
  refine(?_:vS _ _ _ _ Ln _ (Jx n4 77) _)
  refine Bh F (n:=0) (by rfl) h4 (by decide) fun a k r hb=>?_
  have nB:([1,3,6,4,7,5,8,0]:List Nat).Nodup:=by decide
  have lB:∀i∈([1,3,6,4,7,5,8,0]:List Nat),i<(Jx n4 77++[aZ [a,k,r]]).length:=by
   intro i hi
   have:(Jx n4 77++[aZ [a,k,r]]).length=10:=rfl
   simp only[br,bZ,or_false] at hi
   exact aW [_,_] [] [.E aB (.l 10),.O (.E aM bP) (.O (.E aM pQ) (.O (.E aM (.l 6)) (.O (.E aM iI) (.O (.E aM (.l 7)) (.O (.E aM (.l 5)) (.O (.E aM (.l 8)) (.E aM dF)))))))] (.T aM aB) (.o rt (.o rt (.o rt (.o rt (.o rt (.o rt (.o rt rt))))))) rfl this hi
  refine WC.frame [1,3,6,4,7,5,8,0] (H₀:=FL [aZ n4]) (.of rfl (by decide) ?_) (as₀:=[.obj 7,.obj 0]) rfl rfl (X₀:=fun _=>False)
   (Q₀:=fun v G=>∃xs T n,bK xs∧0<xs.length∧xs.length≤8000∧8≤n∧(FL (aZ n4::T))[n]?=some (aZ xs)∧v=.obj n∧G=FL (aZ n4::T)) (LI F h4 fun xs T o h1 h2 n h8 e=>⟨xs,T,n,o,h1,h2,h8,e,rfl,rfl⟩) ?_ fun _ h=>h.elim
  ·exact⟨⟨rfl,rfl⟩,⟨rfl,rfl⟩,⟨rfl,rfl⟩,⟨rfl,rfl⟩,⟨rfl,rfl⟩,⟨rfl,rfl⟩,⟨rfl,rfl⟩,Bc,trivial⟩
  intro v G nU
  refine cy nU fun xs T n o VN VV mI=>?_
  clear nU
  refine dn mI fun h8 e j4 nF=>?_
  subst j4
  subst nF
  have f2:FI (Mine.put [1,3,6,4,7,5,8,0] (Jx n4 77++[aZ [a,k,r]]) (FL (aZ n4::T))):=⟨ff (n:=0) (x:=(.list [.obj 1,.obj 2])) nB lB rfl,ff (n:=1) (x:=(jn 3 "fc" 0 5 3)) nB lB rfl,ff (n:=2) (x:=(jn 200 "fhz" 77 6 4)) nB lB rfl,ff (n:=3) (x:=(.dict (tj.map eQ))) nB lB rfl,ff (n:=4) (x:=(.dict (gT.map eQ))) nB lB rfl,ff (n:=5) (x:=nA) nB lB rfl,ff (n:=6) (x:=nA) nB lB rfl⟩
  have b2:(Mine.put [1,3,6,4,7,5,8,0] (Jx n4 77++[aZ [a,k,r]]) (FL (aZ n4::T)))[9]?=some (aZ [a,k,r]):=(xZ (by exact(by decide:9<10)) (by decide)).trans rfl
  have o2:=(ff nB lB e).trans (congrArg some cF)
  have n2:fr [1,3,6,4,7,5,8,0] (Jx n4 77++[aZ [a,k,r]]).length n=10+(n-8):=by
   unfold fr;rw[cH (by exact h8)];rfl
  rw[n2] at o2
  show WC _ _ _ [.obj 9,.obj (fr [1,3,6,4,7,5,8,0] (Jx n4 77++[aZ [a,k,r]]).length n)] _ _ _
  rw[n2]
  generalize Mine.put [1,3,6,4,7,5,8,0] (Jx n4 77++[aZ [a,k,r]]) (FL (aZ n4::T))=H2 at *
  have Vr:10≤10+(n-8):=by exact bC _ _
  generalize 10+(n-8)=n' at *
  have nd3:([9,n']:List Nat).Nodup:=by simp;exact bV (f9 0 Vr rfl)
  have ln2:=(ao.mp o2).1
  have l3:∀i∈([9,n']:List Nat),i<H2.length:=by
   intro i hi
   simp only[br,bZ,or_false] at hi
   exact aW [_,_,_] [] [.L (.l 10) aB,.T aB aM,.O (.E cg (.l 9)) (.E cg aB)] (.T cg aM) (.o (.k [1,1,0,1,1]) qu) rfl Vr ln2 hi
  refine WC.frame [9,n'] (H₀:=[aZ [a,k,r],aZ xs]) (.of rfl nd3 ?_) (as₀:=[.obj 0,.obj 1]) rfl rfl (X₀:=fun _=>False)
   (Q₀:=fun v G=>∃m ys,v=.obj m∧bK ys∧ys.length≤8001∧G[m]?=some (aZ ys)) (FQ F hb (by decide) o VN VV fun m T ys o h e=>⟨m,ys,rfl,o,h,e⟩) ?_ fun _ h=>h.elim
  ·exact⟨⟨fB,by rw[cF];exact b2⟩,⟨fB,by rw[cF];exact o2⟩,trivial⟩
  intro v G pY
  refine b9 pY fun m ys nv oy ly e3=>?_
  clear pY
  subst nv
  have po:∀j,j<9→(Mine.put [9,n'] H2 G)[j]?=H2[j]?:=fun j hj=>xZ (by exact aW [_,_,_] [] [.L (.l 10) aB,.T aB aM,.T cg (.l 9)] (.T cg aM) tL rfl Vr ln2 hj) (by simp only[br,bZ,or_false];exact aW [_,_] [] [.L (.l 10) aB,.T aM (.l 9)] (.N (.O (.E aM (.l 9)) (.E aM aB))) (.o xj (.k [0,1,1,1])) rfl Vr hj)
  have f3:FI (Mine.put [9,n'] H2 G):=⟨(po 1 (by decide)).trans f2.f1,(po 3 (by decide)).trans f2.f3,(po 6 (by decide)).trans f2.f6,(po 4 (by decide)).trans f2.f4,(po 7 (by decide)).trans f2.f7,(po 5 (by decide)).trans f2.f5,(po 8 (by decide)).trans f2.f8⟩
  have o3:=(ff nd3 l3 e3).trans (congrArg some cF)
  refine WV.RY o3 oy (by exact ca ly rfl) ?_
  generalize Mine.put [9,n'] H2 G=H3 at *
  have SE:(ys.map fun x=>x.toNat.toUInt8).length≤100000:=by rw[aa];exact ca ly rfl
  generalize (ys.map fun x=>x.toNat.toUInt8)=bs at *
  refine Lu F f3 SE (fun h H' f4=>?_) (fun v h nn p s H' hs f4 hp hs9 g1 g2=>?_)
  ·have e:=CL bs SE
   rw[h] at e
   refine yW F f4 SE (fun _ H5 _=>?_) (fun o ho=>by rw[e] at ho;exact nS ho)
   refine WO.Qv 0 (by decide) (ay 1 _) .YG ?_
   exact .inl (q _)
  ·have e:=CL bs SE
   rw[h] at e
   refine yW F f4 SE (fun h2=>by rw[e] at h2;exact nS (fZ h2)) (fun o ho nn2 p2 s2 H5 I5 keep g3 g4=>?_)
   rw[e] at ho
   replace ho:=ae ho
   subst ho
   have e1:=jx.uniq hs
   have e2:=jx.uniq I5
   rw[show nn2=nn by rw[e1,e2];rfl] at g4
   refine WO.Qv 5 (by decide) (ay 1 _) (gv.told rfl (keep _ _ hp g1) g3 (keep _ _ hs9 g2) g4) ?_
   exact .inl (q _)
end
end
section
open PySem PySem.W PySem.Calls PyProof.Rows
theorem De {v:ai}{i:Int}(e:vInt v=some i):∃t,v=.int i t:=by
 cases v with
 |int=>replace e:=ae e;subst e;exact⟨_,rfl⟩
 |_=>exact nS e
theorem Ko {v:ai}{i:bu}(e:vStr v=some i):∃t,v=.str i t:=by
 cases v with
 |str=>replace e:=ae e;subst e;exact⟨_,rfl⟩
 |_=>exact nS e
theorem CJ {v:ai}{i:aD}(e:OY v=some i):v=.ref i:=by
 cases v with
 |ref=>replace e:=ae e;subst e;rfl
 |_=>exact nS e
theorem Qn {v:ai}{i:String}(e:vTy v=some i):v=.type i:=by
 cases v with
 |type=>replace e:=ae e;subst e;rfl
 |_=>exact nS e
theorem CV {d:Data}{xs:Array ai}(e:O0 d=some xs):∃n,d=.seq xs n:=by
 cases d with
 |seq=>replace e:=ae e;subst e;exact⟨_,rfl⟩
 |_=>exact nS e
theorem GX {d:Data}{xs:Array eo}(e:Nm d=some xs):∃n,d=.dict xs n:=by
 cases d with
 |dict=>replace e:=ae e;subst e;exact⟨_,rfl⟩
 |_=>exact nS e
theorem zV {K:gg}{v:ai}{T:String}{o:ow}(e:GA K v T=some o):∃a,v=.ref a∧K.lookup a=some o∧o.cls=.type T:=by
 refine aq (dU e) fun a ha e=>?_
 refine aq (dU e) fun o' ho e=>?_
 have e:=Hh e
 exact⟨a,CJ ha,e.2▸ho,e.2▸Qn (eq_of_beq e.1)⟩
theorem Au {K:gg}{v:ai}{xs:Array ai}(e:Gh K v=some xs):∃a o n,v=.ref a∧K.lookup a=some o∧o.cls=.type "tuple"∧o.data=.seq xs n:=by
 refine aq (dU e) fun o ho e=>?_
 refine al (zV ho) fun a h=>?_
 refine al (CV e) fun n e=>?_
 exact⟨a,o,n,h.1,h.2.1,h.2.2,e⟩
theorem DM {K:gg}{v:ai}{xs:Array eo}(e:dictAt K v=some xs):∃a o n,v=.ref a∧(a==gh)=false∧K.lookup a=some o∧o.ExactDict∧o.data=.dict xs n:=by
 refine aq (dU e) fun o ho e=>?_
 refine al (zV ho) fun a h=>?_
 cases q:!(v==.ref gh)&&(o.dict.isNone&&o.slots.size==0) with
 |false=>rw[q] at e;exact nS e
 |true=>
  rw[q] at e
  have q:=dY q
  have q2:=dY q.2
  refine al (GX e) fun n e=>?_
  refine⟨a,o,n,h.1,beq_eq_false_iff_ne.mpr fun z=>?_,h.2.1,⟨h.2.2,mh.mp q2.1,Array.eq_empty_of_size_eq_zero (beq_iff_eq.mp q2.2)⟩,e⟩
  have q:=q.1
  rw[h.1,z,beq_self_eq_true] at q
  exact fT q
theorem yl {α:Type}{l:List α}{x:α}(h:l.head?=some x):l=x::l.tail:=by
 cases l with
 |nil=>exact nS h
 |cons y l=>replace h:=ae h;subst h;rfl
structure ZN (c:Cx) (h:cf) (α:Am) (xs:List (Int×AV)) (es:List eo) (kv:List (Int×ai)):Prop where
 r:de c h α xs kv
 p:Pairs (ia c.prog c.w) es kv
 k:∀e∈es,∃k,(ia c.prog c.w).is k e.key=true∧e.hash=(ia c.prog c.w).hash k
 m:kv.map (·.1)=xs.map (·.1)
section
variable {c:Cx}{h:cf}{α:Am}
theorem Av {xs:List AV}(k:∀x∈xs,∀{v:ai},B0 c.K x v=true→bM c h α x v):∀{vs:List ai},xm c.K xs vs=true→bl c h α xs vs:=by
 induction xs with
 |nil=>exact fun e=>fL.mp e
 |cons x xs ih=>exact fun e=>aq (ej e) fun v q e=>⟨v,_,yl q,k x aI (dY e).1,ih (fun y hy=>k y (aG _ hy)) (dY e).2⟩
theorem Ho {xs:List (Int×AV)}(k:∀x∈xs,∀{v:ai},B0 c.K x.2 v=true→bM c h α x.2 v):∀{es:List eo},FH c.K xs es=true→∃kv,ZN c h α xs es kv:=by
 induction xs with
 |nil=>exact fun e=>⟨[],rfl,(fL.mp e).symm▸.nil,fun _ h=>(nomatch (fL.mp e▸h :)),rfl⟩
 |cons x xs ih=>
  intro es e
  refine aq (ej e) fun en q e=>?_
  have e:=dY e
  have e2:=dY e.2
  have e3:=dY e2.2
  refine al (De (eq_of_beq e.1)) fun t ht=>?_
  refine al (ih (fun y hy=>k y (aG _ hy)) e3.2) fun kv f=>?_
  have z:(ia c.prog c.w).is x.1 en.key=true:=ht▸beq_self_eq_true x.1
  rw[yl q]
  exact⟨(x.1,en.val)::kv,⟨_,_,rfl,k x aI e3.1,f.r⟩,.cons z rfl f.p,gj.mpr ⟨⟨x.1,z,of_decide_eq_true e2.1⟩,f.k⟩,congrArg _ f.m⟩
theorem zW (hk:c.K.In c.hb) (hs:∀b o,c.hb.get? b=some o→h.get? b=some o){x:AV}:∀{v:ai},B0 c.K x v=true→bM c h α x v:=
 AV.ind (P:=fun x=>∀{v:ai},B0 c.K x v=true→bM c h α x v) (fun e=>fT e) (fun _ _ e=>fT e) (fun _ _ e=>De (eq_of_beq e)) (fun _ _ e=>Ko (eq_of_beq e)) (fun _ _ e=>fT e) (fun _ _ e=>eq_of_beq e) (fun _ _ e=>fT e)
  (fun vs ih v e=>aq (ej e) fun xs q e=>cy (Au q) fun a o n q0 ho q1 q2=>⟨a,xs,q0,⟨_,hs _ _ (hk _ _ ho),q1,_,q2⟩,Av ih e⟩)
  (fun kvs ih v e=>aq (ej e) fun es q e=>cy (DM q) fun a o n qv q0 ho gC=>al (Ho ih (dY e).1) fun kv f=>
   ⟨a,kv,qv,q0,⟨_,_,_,hk _ _ ho,gC.1,gC.2,fun x hx=>f.k x (Array.mem_toList_iff.mpr hx),f.p,f.m▸of_decide_eq_true (dY e).2⟩,f.r⟩) x
theorem EM (hk:c.K.In c.hb) (hs:∀b o,c.hb.get? b=some o→h.get? b=some o){xs:List AV}{vs:List ai}:xm c.K xs vs=true→bl c h α xs vs:=Av fun _ _=>zW hk hs
end
theorem F8 {a:AV}{v:ai}(e:HN a=some v):a=.fix v:=by
 cases a with
 |fix=>replace e:=ae e;subst e;rfl
 |_=>exact nS e
theorem DS {c:Cx}{v:ai}(e:Sw v=true):gV c v:=by
 cases v with
 |builtin=>exact .inr (.inl ⟨_,rfl⟩)
 |type=>exact .inr (.inr ⟨_,rfl⟩)
 |_=>exact fT e
theorem Ph {c:Cx}(hk:c.K.In c.hb){x:bu}{a:AV}(e:V3 c.K x a=true):ZR c x a∨∃v,a=.fix v∧XA c x v:=by
 refine aq (ej e) fun r hr e=>?_
 refine yj e (fun v ev q=>.inl ⟨v,hr.trans (congrArg some ev),fun h α hs=>zW hk hs (dY q).1⟩) fun er q=>?_
 refine aq (ej q) fun v hv q=>?_
 have q:=dY q
 exact .inr ⟨v,F8 hv,hr.trans (congrArg some er),eq_of_beq q.1,beq_eq_false_iff_ne.mp ((m9 _).mp (dY q.2).2)⟩
theorem N9 {c:Cx}{x:bu}{v:ai}(e:V3 c.K x (.fix v)=true):gV c v:=by
 refine aq (ej e) fun r hr e=>?_
 exact yj e (fun _ _ q=>.inl (dY q).2) fun _ q=>DS (dY (dY q).2).1
theorem Ov {K:gg}{C:aD}{x:bu}(e:ftB K C x=true):yr K C x∧CM K C x:=by
 have e1:=dY e
 have e2:=dY e1.2
 have e3:=dY e2.2
 have e4:=dY e3.2
 have e5:=dY e4.2
 have e6:=dY e5.2
 exact⟨⟨e1.1,e2.1,ej e3.1⟩,⟨eq_of_beq e4.1,e5.1,eq_of_beq e6.1,e6.2⟩⟩
theorem PI {K:gg}{C f:aD}{x:bu}(e:mtB K C x f=true):xE K C x f:=by
 have e1:=dY e
 have e2:=dY e1.2
 have e3:=dY e2.2
 exact⟨e1.1,eq_of_beq e2.1,e3.1,e3.2⟩
theorem O6 {K:gg}{C I:aD}(e:mkB K (C,I)=true):A9 K C I:=by
 have e1:=dY e
 have e2:=dY e1.2
 exact⟨e1.1,eq_of_beq e2.1,eq_of_beq e2.2⟩
theorem zf {d:Data}{fd:eJ}(e:GR d=some fd):d=.func fd:=by
 cases d with
 |func=>replace e:=ae e;subst e;rfl
 |_=>exact nS e
theorem HC {k:ScopeKind}(e:MG k=true):k=.function:=by
 cases k with
 |function=>rfl
 |_=>exact fT e
noncomputable def yy (p:Fg):Bool:=p.posonlyargs.isEmpty&&(p.vararg.isNone&&(p.kwonlyargs.isEmpty&&(p.kwarg.isNone&&decide (p.args.map (·.arg)).Nodup)))
noncomputable def PQ (ps:List bu) (ns:List (bu×bc)):Bool:=decide (ns.map (·.1)).Nodup&&(ns.all (fun p=>!(p.2==.free)&&!(p.1==("__debug__":bu)))&&(bh ps.length).all (fun j=>match ps[j]?,ns[j]? with
  |some x,some (y,k)=>x==y&&(k==.local||k==.cell)
  |_,_=>false))
noncomputable def A3 (s:Option eF):Bool:=yy (qM s)&&PQ (j3 s) (namesOf s)
theorem Az:FN.all (fun e=>A3 e.2.1)=true:=by decide +kernel
end
section
open PySem PySem.W PySem.Calls PyProof.Rows
theorem zl {ps:List bu}:∀{vs:List ai}{x:bu},vs.length=ps.length→x∈ps→((ps.zip vs).lookup x).isSome=true:=by
 induction ps with
 |nil=>intro vs x _ h;cases h
 |cons p ps ih=>
  intro vs x hl h
  cases vs with
  |nil=>cases hl
  |cons v vs=>
   rw[Fy,dK]
   cases q:x==p with
   |true=>rfl
   |false=>exact ih (qZ hl) ((br.mp h).resolve_left (beq_eq_false_iff_ne.mp q))
theorem IJ {α β:Type}{f g:α→Option β}{l:List α}:(∀x∈l,f x=g x)→l.filterMap f=l.filterMap g:=by
 induction l with
 |nil=>exact fun _=>rfl
 |cons x l ih=>
  intro h
  rw[q9,q9,h x aI,ih fun y hy=>h y (aG _ hy)]
theorem JX {ps:List bu}:∀{vs:List ai},vs.length=ps.length→ps.Nodup→ps.filterMap (fun n=>((ps.zip vs).lookup n).map (n,·))=ps.zip vs:=by
 induction ps with
 |nil=>intro vs _ _;rfl
 |cons p ps ih=>
  intro vs hl hn
  cases vs with
  |nil=>cases hl
  |cons v vs=>
   have hn:=du.mp hn
   rw[Fy,q9,List.lookup_cons_self]
   refine congrArg ((p,v)::·) (oA (IJ fun x hx=>?_) (ih (qZ hl) hn.2))
   rw[dK,show(x==p)=false from beq_eq_false_iff_ne.mpr fun e=>hn.1 (e▸hx)]
theorem Kq {f:bu×ai→List (bu×ai)→rU (ForInStep (List (bu×ai)))}{b:List (bu×ai)}{l:List (bu×ai)}:(∀p∈l,f p b=pure (.yield b))→forIn l b f=pure b:=by
 induction l with
 |nil=>exact fun _=>rfl
 |cons p l ih=>
  intro h
  rw[wg,h p aI]
  exact ih fun p hp=>h p (aG _ hp)
theorem Eg {p:Fg}(h:yy p=true):∃as kd df,p=⟨[],as,none,[],kd,none,df⟩∧(as.map (·.arg)).Nodup:=by
 obtain⟨po,as,va,ko,kd,kw,df⟩:=p
 have h:=dY h
 have h2:=dY h.2
 have h3:=dY h2.2
 have h4:=dY h3.2
 cases fL.mp h.1
 cases mh.mp h2.1
 cases fL.mp h3.1
 cases mh.mp h4.1
 exact⟨as,kd,df,rfl,of_decide_eq_true h4.2⟩
theorem JR {ps:List bu}{vs:List ai}(hl:vs.length=ps.length) (n:Nat):(List.filter (fun n=>((ps.zip vs).lookup n).isNone) (ps.take n)).isEmpty=true:=by
 rw[fL,AW]
 intro x hx
 rw[wi.mpr (zl hl (qt hx))]
 exact fN
theorem Qy {α β:Type}{x:rU α}{a:α}{k:α→rU β}{r:rU β}(h:x=pure a) (q:k a=r):x >>= k=r:=by rw[h];exact q
theorem zq {fd:eJ}{vs:List ai}(h:yy fd.params=true) (hl:vs.length=(fd.params.args.map (·.arg)).length) :
  ∃k:Option (Array ai)→rU (List (bu×ai)),bindArgs fd ⟨vs,[]⟩=seqItems? fd.defaults >>= k∧∀it,k it=pure ((fd.params.args.map (·.arg)).zip vs):=by
 refine eC (Eg h) fun as kd df e hn=>?_
 cases fd
 subst e
 replace hl:vs.length=(as.map (·.arg)).length:=hl
 refine⟨_,rfl,fun it=>?_⟩
 refine(if_neg fun q=>absurd (of_decide_eq_true (dY q).1) (hl▸gq _)).trans ?_
 refine(if_neg fun q=>fT ((congrArg not (JR hl _)).symm.trans q)).trans ?_
 refine Qy (Kq (b:=(as.map (·.arg)).zip vs) fun p hp=>?_) ?_
 ·exact if_neg fun q=>fT ((wi.mpr (zl hl (kR (List.of_mem_zip hp).1))).symm.trans q)
 ·exact congrArg (pure (f:=rU)) ((congrArg (List.filterMap _) (cM _)).trans (JX hl hn))
end
section
open PySem PySem.W PySem.Calls PyProof.Rows
theorem zK (s:Option eF):j3 s=(qM s).args.map (·.arg):=by
 cases s with
 |none=>rfl
 |some s=>cases s<;>rfl
structure G7 (K:gg) (f:aD) (s:Option eF) (o:ow) (fd:eJ):Prop where
 at_:K.lookup f=some o
 data:o.data=.func fd
 body:fd.body=.stmts (iK s)
 params:fd.params=qM s
 names:fd.scope.names=namesOf s
 ok:HG K fd=true
theorem uz {K:gg}{f:aD}{s:Option eF}(e:pJ K f=pL s):∃o fd,G7 K f s o fd:=by
 refine aq (dU (show jq (K.lookup f) _=some _ from e)) fun o ho e=>?_
 refine aq (dU e) fun fd hd e=>?_
 have e:=ae e
 exact⟨o,fd,ho,zf hd,congrArg lX.body e,congrArg lX.params e,congrArg lX.names e,congrArg lX.ok e⟩
theorem La {b:Bool}(h:(!b)=true):b=false:=(m9 _).mp h
structure W8 (K:gg) (f:aD) (s:Option eF) (fd:eJ):Prop where
 d:qk K f fd (iK s) (j3 s)
 n:fd.scope.names=namesOf s
 g:∀p∈namesOf s,(p.1==("__debug__":bu))=false
 a:yy fd.params=true
 p:fd.params=qM s
 f:Sr K fd.defaults=true
theorem Ag {K:gg}{f:aD}{s:Option eF}{o:ow}{fd:eJ}(h:G7 K f s o fd) (p:A3 s=true):W8 K f s fd:=by
 obtain⟨oc,od,d,sl⟩:=o
 have hd:d=.func fd:=h.data
 have p1:=dY p
 have p2:=dY p1.2
 have p3:=dY p2.2
 have a1:=dY h.ok
 have a2:=dY a1.2
 have a3:=dY a2.2
 have a4:=dY a3.2
 have a5:=dY a4.2
 have a6:=dY a5.2
 have a7:=dY a6.2
 refine⟨⟨⟨_,_,_,hd▸h.at_⟩,h.body,fL.mp a1.1,ig a2.1,ig a3.1,La a4.1,La a5.1,HC a6.1,a7.1,h.names▸of_decide_eq_true p2.1,fun q hq=>?_,h.names▸p3.2⟩,h.names,fun q hq=>La (dY (ba.mp p3.1 q hq)).2,h.params▸p1.1,h.params,a7.2⟩
 exact beq_eq_false_iff_ne.mp (La (dY (ba.mp p3.1 q (h.names▸hq))).1)
theorem Ap {K:gg}{f:aD}{s:Option eF}(e:pJ K f=pL s) (p:A3 s=true):Na K f s:=by
 refine fW (uz e) fun o fd h=>?_
 have h:=Ag h p
 refine⟨fd,h.d,h.n,h.g,fun sh vs hk hl=>?_⟩
 rw[zK,←h.p] at hl ⊢
 refine aq (zq h.a hl) fun k q1 q2=>?_
 refine(Bool.or_eq_true_iff.mp h.f).elim (fun z=>?_) fun z=>?_
 ·rw[eq_of_beq z] at q1
  exact wL.of_eq (q1.trans (q2 none))
 ·refine aq (ej z) fun T hT z=>?_
  refine aq (ej z) fun o ho z=>?_
  refine al (xq.mp z) fun xs hx=>?_
  refine al (CV hx) fun n hn=>?_
  exact AX (CJ hT) (hk _ _ ho) hn q1 (q2 _)
theorem kY {β:Type}{x:aD}{b:β}{l:List (aD×β)}:kM l x=some b→(x,b)∈l:=by
 induction l with
 |nil=>exact nS
 |cons p r ih=>
  intro h
  replace h:(bif tP p.1 x then some p.2 else kM r x)=some b:=h
  cases e:tP p.1 x with
  |true=>rw[e] at h;replace h:=ae h;subst h;cases ig e;exact aI
  |false=>rw[e] at h;exact aG _ (ih h)
theorem GG {x:bu}{l:List bu}:Gk l x=true→x∈l:=by
 induction l with
 |nil=>exact fT
 |cons y r ih=>
  intro h
  replace h:(bif y==x then true else Gk r x)=true:=h
  cases e:y==x with
  |true=>cases eq_of_beq e;exact aI
  |false=>rw[e] at h;exact aG _ (ih h)
section
variable {c:Cx}
theorem Pf (hk:c.K.In c.hb) (hb:c.bd=88) (e:rg c.K=rf):eX c:=by
 have e1:FN.map (fun e=>pJ c.K e.1)=FN.map fun e=>pL e.2.1:=congrArg td.defs e
 have e2:=congrArg td.init e
 have e3:=congrArg td.bd e
 have e4:=congrArg td.ok e
 have b1:=dY (show WZ c.K=true from e4)
 have b2:=dY b1.2
 have b3:=dY b2.2
 have b4:=dY b3.2
 have r1:=dY (dY b4.2).1
 have r2:=dY r1.2
 have r3:=dY r2.2
 have r4:=dY r3.2
 have hg:∀{x:bu}{a:AV},(x,a)∈GT→V3 c.K x a=true:=fun{x a} h=>by
  refine aq (dJ.mp h) fun p hp q=>?_
  cases q
  exact ba.mp b1.1 p hp
 refine⟨fun h=>Ph hk (hg h),fun h=>N9 (hg h),fun{C x} h=>?_,fun{C x f} h=>?_,?_,fun{C I} h=>O6 (ba.mp b4.1 _ (kY h)),fun{f s is} h=>?_⟩
 ·replace h:(match kM FT C with | some l=>Gk l x | none=>false)=true:=h
  cases hl:kM FT C with
  |none=>rw[hl] at h;exact fT h
  |some l=>rw[hl] at h;exact Ov (ba.mp (ba.mp b2.1 _ (kY hl)) _ (GG h))
 ·replace h:(match kM MT C with | some l=>jR l x | none=>none)=some f:=h
  cases hl:kM MT C with
  |none=>rw[hl] at h;exact nS h
  |some l=>rw[hl] at h;exact PI (ba.mp (ba.mp b3.1 _ (kY hl)) _ (pM h))
 ·rw[hb]
  refine fF (Ap (f:=48) e2 (by decide +kernel)) fun fd D h2 _ h3=>?_
  have s1:=dY r3.1
  have s2:=dY s1.2
  have s3:=dY s2.2
  refine⟨⟨48,fd,⟨⟨_,_,_,_,_,_,_,_,_,_,_,_,_,_,_,_,e3.trans rfl,?_,?_,?_,?_,?_⟩,eq_of_beq r1.1,eq_of_beq r2.1,⟨eq_of_beq s1.1,s2.1,eq_of_beq s3.1,s3.2⟩,⟨_,_,_,_,D⟩,h2.trans (by decide +kernel),fun x y s hs=>?_⟩⟩,.inl r4.1,eq_of_beq r4.2⟩
  ·exact by decide +kernel
  ·exact by decide +kernel
  ·exact by decide +kernel
  ·exact by decide +kernel
  ·exact by decide +kernel
  ·exact h3 s [x,y] hs rfl
 ·have p:=ba.mp Az _ (kY h)
  exact Ap (Jm.mp e1 _ (kY h)) p
end
end
section
open PySem PySem.W PySem.Calls PyProof.Rows
theorem EA {fd:eJ}(hp:fd.params=qM (df 32)) (v1 v2 d1 d2 d3 d4:ai) :
  ∃k:Option (Array ai)→rU (List (bu×ai)),bindArgs fd ⟨[v1,v2],[]⟩=seqItems? fd.defaults >>= k∧k (some #[d1,d2,d3,d4])=pure ((j3 (df 32)).zip [v1,v2,d1,d2,d3,d4]):=by
 cases fd
 cases (show _=qM (df 32) from hp)
 refine⟨_,rfl,?_⟩
 kernel_rfl
theorem EI {K:gg}{xs:List AV}:∀{vs:List ai},xm K xs vs=true→vs.length=xs.length:=by
 induction xs with
 |nil=>exact fun e=>congrArg _ (fL.mp e)
 |cons x xs ih=>
  intro vs e
  refine aq (ej e) fun v q e=>?_
  rw[yl q]
  exact congrArg (·+1) (ih (dY e).2)
theorem YW {α:Type}{l:List α}(h:l.length=4):∃a b c d,l=[a,b,c,d]:=by
 rcases l with _ | ⟨a,_ | ⟨b,_ | ⟨c,_ | ⟨d,_ | ⟨e,l⟩⟩⟩⟩⟩
 ·cases h
 ·cases h
 ·cases h
 ·cases h
 ·exact⟨a,b,c,d,rfl⟩
 ·cases h
theorem Ke {c:Cx}(hk:c.K.In c.hb) (e:rg c.K=rf):GW c:=by
 have e1:FN.map (fun e=>pJ c.K e.1)=FN.map fun e=>pL e.2.1:=congrArg td.defs e
 have b1:=dY (show WZ c.K=true from congrArg td.ok e)
 have b6:=(dY (dY (dY (dY b1.2).2).2).2).2
 have hm:((267:aD),(df 32,[25,27,21,92,102,43,44]))∈FN:=kY (by rfl)
 refine fW (uz (Jm.mp e1 _ hm)) fun o fd h=>?_
 have k:=Ag h (ba.mp Az _ hm)
 refine aq (ej b6) fun o' ho b6=>?_
 refine aq (ej b6) fun fd' hf b6=>?_
 cases ho.symm.trans h.at_
 cases (zf hf).symm.trans h.data
 refine aq (ej b6) fun l q b6=>?_
 refine cy (Au q) fun a o2 n hd hl _ Wn=>?_
 refine⟨fd,l.toList,k.d,k.n,k.g,fun s α hs=>⟨EM hk hs b6,fun v1 v2=>?_⟩⟩
 refine fW (YW (EI b6)) fun d1 d2 gC=>?_
 refine fW gC fun d3 d4 z=>?_
 obtain⟨l⟩:=l
 cases (show l=_ from z)
 refine aq (EA k.p v1 v2 d1 d2 d3 d4) fun k q1 q2=>?_
 exact AX hd (hs _ _ (hk _ _ hl)) Wn q1 q2
end
section
open PySem PySem.W PySem.Calls PyProof.Rows
noncomputable def YP (w:iN) (h:cf):Prop:=∃K:gg,K.In h∧rg K=rf
set_option tactic.hygienic true in
theorem US {K:gg}{h:cf}{m:bu→Option ai}{a:aD}{x:bu}{v:ai}(hk:K.In h) (hn:h.Ns a m) (e:EV K a x=some (some v)):m x=some v:=by
 obtain⟨o,es,ep,ho,hd,_,hf⟩:=hn
 unfold EV at e
 split at e
 ·rename_i oc od es' n sl jQ
  have e2:=hk _ _ jQ
  rw[ho] at e2
  cases e2
  cases hd
  split at e
  ·rename_i en tU
   cases e
   rw[←hf x]
   show(es.find? fun e=>e.key.isStr x).map (·.val)=_
   rw[←Array.find?_toList,tU]
   rfl
  ·split at e<;>cases e
 ·cases e
theorem Ga {w:iN}{bf:aH}{mg mb:bu→Option ai}(T:TopRead qv (looseW qv lo) mg mb bf.heap) (Y:YP w bf.heap){a l:aD}{vs:Array ai}{ns:List Int}(Xp:mg "law"=some (.ref a)) (hl:bf.heap.IsList l vs) (hi:oD vs.toList ns) (hz:ns.length≤1000000)
  {R:sP→aH→Prop}(h:∀s',(∀b o,bf.heap.get? b=some o→s'.heap.get? b=some o)→s'.os=bf.os→s'.gens=bf.gens→R (.ok (.ret (.bool true))) s') :
  ic (ki rp w) callerA (.call (.ref a) ⟨[.ref l],[]⟩) R bf:=by
 obtain⟨K,hk,hs⟩:=Y
 have F:eX ⟨rp,w,bf.heap,K,qv,looseW qv lo,mg,mb,88,(bf.gens,bf.os)⟩:=Pf hk rfl hs
 have D:GW ⟨rp,w,bf.heap,K,qv,looseW qv lo,mg,mb,88,(bf.gens,bf.os)⟩:=Ke hk hs
 have ha:a=626:=by
  rcases F.gt (x:="law") (a:=.fix (.ref 626)) (pM (by rfl)) with⟨v,e,r⟩ | ⟨v,e,e1,e2,_⟩
  ·have e3:=US hk T.g e
   rw[Xp] at e3
   cases e3
   have:=(r bf.heap [] fun _ _ e=>e).fix
   cases this
   rfl
  ·cases e
   exact absurd e2 (by decide +kernel)
 subst ha
 refine qT (Ry (d:=0) (Q:=fun v _=>v=.bool true) (X:=fun _=>False) F D hl hi hz (fun _=>rfl) callerA [] bf [.ref l]
  ⟨⟨hk,T⟩,⟨by decide,by decide,rfl⟩,⟨rfl,fun{n x p} e=>(nomatch e),fun{i j p q} e=>(nomatch e),fun _ _ e=>e,fun b ⟨n,p,e,_⟩=>(nomatch e)⟩,⟨⟨[],rfl,trivial,fun _ h=>(nomatch h)⟩,rfl⟩⟩ (eD TH jD)) fun r s' p=>?_
 rcases r with x | (v | _ | _ | _)<;>first | exact p.elim | skip
 ·obtain⟨_,_,_,_,_,_,_,_,q⟩:=p
  exact q.elim
 ·obtain⟨_,bD,H',m,_,k,r,rfl⟩:=p
  cases r.bool
  have st:=k.la
  exact h s' (fun b o e=>m.keep e (fun⟨n,p,e,_⟩=>(nomatch e)) (fun q=>q) fun⟨l,en,e1,e2,_⟩=>by cases e1;cases e2) (congrArg Prod.snd st) (congrArg Prod.fst st)
end
section
open PySem PySem.W PySem.Calls PyProof.Rows
theorem S3:E3 PySem.Challenge.rw_rg0159_01=true:=by
 delta E3
 repeat' with_reducible refine Fz ?_ ?_
 ·delta OpenRow.wellSaid
  repeat' with_reducible refine Fz ?_ ?_
  ·delta OpenRow.partSaid
   repeat' with_reducible refine Fz ?_ ?_
   ·delta looksOpen
    repeat' with_reducible refine Fz ?_ ?_
    all_goals decide +kernel
   all_goals decide +kernel
  all_goals decide +kernel
 all_goals decide +kernel
set_option tactic.hygienic true in
theorem Xq:PySem.Challenge.rw_rg0159_01.Holds:=by
 refine holds_law S3 fun aag=>?_
 refine W.holds_open (q:=qv) (loose:=lo) (Xt:=Xt) (XP:=XL qv []) (Yf:=K0) (Ya:=fun _=>True) (YP:=YP) (N:=6000) left (fun w s e=>of_eq_true e) (fun w h h' ⟨K,a,b⟩ k=>⟨K,a.keeps k,b⟩)
  (fun s e=>xl_of s (aS.mp e).1) XL.keeps (by rfl) (by rfl) (by rfl) (fun s e=>recFacts_of (aS.mp e).2) (by rfl) (by first | assumption | decide +kernel) (by decide +kernel) ⟨rfl,rfl,rfl,rfl,rfl,by decide +kernel⟩ ?hw ?hc
 case hw=>exact⟨[.list []],by decide +kernel,by decide +kernel⟩
 intro w aai bf mg mb G Y a o pm cd doc dV kV ho hd Y4 hD Xp hg args aaq as hpre hlay hrd hwl hlo
 wrow_args hpre hlay hrd hwl hlo
 rename_i ns _ _ _ _ _ _ _ l vs _ hl _ _ _ hi _ hz _
 refine enter_call (Ga (topRead_of G.T) Y Xp hl (by simpa using hi) (by omega) fun s' k ho hgs=>?_)
 refine⟨.inl ⟨_,_,_,rfl,fun _=>rfl,.bool true,?_,fun _=>⟨.nil,fun _ h=>(nomatch h)⟩⟩,.of_keep k,ho,.of_eq (hgs.trans hg)⟩
 wrow_post
end
end Mine
theorem PySem.Challenge.cw_rg0159_01_holds : PySem.Challenge.rw_rg0159_01.Holds :=
  Mine.Xq
