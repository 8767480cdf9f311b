import PyProof.Rows.All
import Wide.All
import OpenK.AllK
import Wide.FinOn
import PyProof.ExcBaseAll.Exception
import PyProof.ExcInit
import PyProof.ExcAttrAll.Exception
import Lean
import PySem.Challenge.RW_no0391_01
open PySem renaming Str → b9p, wpAny_mono → b9L, sizeLine_eq → b9O, wpAny_field → b9Q, strKind_is → b9X, wpAny_setField → c0u, wpAny_call_entry → c0G, Expr → c0J, wpAny_askSetting → c0L, wpAny_newObj_type → c0P, wpAny_seqItems → c0Q, wpAny_callSpecial?_slot → c1c, wpAny_rule → c1d, wpAny_loadPart_at → c1e, wpAny_setState_of → c1h, codeAny_builtin → c1o, wpAny_attempt → c1F, wpAny_execs_cons → c1U, wpAny_isSubtype_exc → c1Y, wpAny_letGo → c2s, codeAny_mono → c2w, wpAny_loadPart → c2y, wpAny_setField_rec → c2E, plainId_quiet → c2K, codeAny_call_builtin → c2R, wpAny_pyIter_list → c2W, fits_of_scanBound → c3k, isSubtype_type → c3m, fastTable_eq_tree → c3n, wpAny_setEntries_of → c3C
open PySem.Str renaming ofString → b9q, empty → b9Y, ofString → c2o, length_append → c3u
open List renaming mem_cons → b9r, mem_append_right → b9s, mem_append → b9y, length_map → b9z, mem_singleton → b9C, mem_append_left → b9G, size_toArray → b9H, mem_map → b9I, mem_of_getElem? → b9Z, cons_append → c0b, nil_append → c0c, not_mem_nil → c0f, append_nil → c0k, length_append → c0l, getElem?_map → c0s, toArray → c0x, take_of_length_le → c0A, map_cons → c0B, map_append → c0D, take_add_one → c0H, getD_eq_getElem?_getD → c0I, append_assoc → c0M, length → c0N, any_eq_true → c0R, nodup_cons → c0Y, flatMap_cons → c1a, find?_cons → c1f, nodup_append → c1g, take → c1p, range → c1s, filter_append → c1t, filter → c1u, length_filter_le → c1A, getElem_map → c1B, any_cons → c1I, length_range → c1L, length_singleton → c1N, getElem_inj → c1P, length_cons → c1X, ext_getElem → c2a, flatMap_append → c2c, getElem_mem → c2f, drop_zero → c2r, map_map → c2t, contains_cons → c2v, getElem?_eq_getElem → c2G, all_eq_true → c2H, filter_cons → c2I, toList_toArray → c2V, flatMap_nil → c2Z, filter_congr → c3c, length_take → c3d, mem_range → c3i, mem_cons_self → c3w, take_append_drop → c3x, getElem_of_eq → c3y
open PySem.Value renaming ref → b9t, none → b9P, str → c0E, type → c1v, bool → c1G, builtin → c1M, isStrOf_shape → c2T
open PySem.Challenge renaming rw_no0391_01 → b9u, pw_no0391_01 → b9J
open Nat renaming ne_of_lt → b9v, ne_of_gt → b9F, le_refl → b9K, lt_succ_of_lt → b9N, lt_trans → b9V, le_trans → b9W, lt_of_le_of_lt → c0a, lt_irrefl → c0g, zero_le → c0m, le_of_eq → c0o, lt_of_lt_of_le → c0t, le_add_right → c0y, lt_succ_self → c0K, add_assoc → c1k, sub_le → c1m, le_antisymm → c1D, zero_add → c1J, le_of_lt_succ → c1T, le_of_ble_eq_true → c1V, not_lt_zero → c2b, le_succ → c2h, lt_asymm → c2F, lt_of_le_of_ne → c3p, le_sub_one_of_lt → c3q, le_of_not_lt → c3r, add_le_add_right → c3t, le_succ_of_le → c3A, le_of_succ_le → c3E, add_sub_cancel' → c3F, sub_pos_of_lt → c3G, add_sub_assoc → c3H
open LT renaming lt → b9w
open PySem.Heap renaming lt_size → b9x, get?_push_of_some → b9B, get?_push_size → b9R, size_push → c0i, get?_update_self → c0F, get?_update_other → c0V, SameBut → c1q, ExtBut → c1E
open Ne renaming symm → b9A
open List.Mem renaming tail → b9D, head → c1z
open Lean renaming Syntax → b9E
open PySem.PyData renaming keyHash → b9M, strOk → b9S
open Classical renaming epsilon → b9T, epsilon_spec → c2l, byContradiction → c3N
open Option.some renaming inj → b9U
open PySem.Txt renaming slice → c0d, join → c1r, item → c1y, split → c1C, find → c1H, startswith → c2u
open Array renaming length_toList → c0e, getElem?_eq_getElem → c2g, getElem?_setIfInBounds_ne → c2n, getElem?_setIfInBounds_self_of_lt → c2z, getElem?_eq_none → c3h, getElem?_toList → c3l
open Bool renaming and_eq_true → c0h, false_eq_true → c0w, not_eq_true → c0C, eq_iff_iff → c1b, or_eq_true → c2e, false_ne_true → c2p, eq_false_iff → c2D, or_true → c2Q, false_or → c2S, not_eq_true' → c2Y
open LawfulBEq renaming eq_of_beq → c0j
open PySem.Heap.SameBut renaming update → c0n, refl → c3j
open PyProof.Rows.News renaming isTup → c0p
open PyProof.Rows.LCg renaming lst → c0q, FinE → c1w, ListComp_U → c2A, Assign_ListComp_U → c3z, range_walks → c3Q
open PySem.W renaming ktu_ne → c0r, looks_pair → c0U, kts_self → c0X, ktu_new → c0Z, boot_heap → c1i, For_turns → c1O, looks_findIn → c2x
open PySem.Obj renaming mapFields → c0v, data_mapFields → c0z, mapSeq → c0T, isFreed_of_fields → c0W, IsDictOf → c1n, cls_mapFields → c1W, putName → c1Z
open Option renaming map_eq_some_iff → c0O, toList_some → c0S
open PySem.W.Fast renaming te14364793385576792824 → c1j, te10110043849684766642 → c2k, te5923862056798008813 → c3s, te4354255287344443571 → c3I, te1571739515156823405 → c3J, te5555851639681330969 → c3K, te8326940854005059898 → c3L, te17119622794617984870 → c3M
open Prod.mk renaming inj → c1l
open PyProof.Rows renaming next_is_new → c1x, slot_list_sort → c3X, entry_list_sort → c3Y, args_list_sort → c3Z
open PyProof.Rows.LCg.CompSrc renaming ledger → c1K
open PySem.Builtin.SmallTypes renaming nextOf → c1Q, ownedTupleIsFree → c3g, ownedTupleHandOut → c3W
open PySem.Stmt renaming Assign → c1R
open PySem.SetTable renaming grown → c1S, below → c3o
open PySem.Builtin.Str renaming strSliceIndices → c2d, occurrences → c3v
open And renaming right → c2i
open PySem.W.Dat renaming tuple → c2j
open Lean.Macro renaming throwUnsupported → c2m
open Int renaming toNat_natCast → c2q, le_refl → c2C
open PySem.Builtin.Range renaming small → c2B, rangeSize → c2X, rangeFitsLong → c3R
open PySem.Around renaming under_plainId → c2J
open PySem.W.KasT renaming kasWp_bind → c2L
open PySem.BindsTo renaming of_eq → c2M
open PySem.F renaming args_dict_pop_2 → c2N, excBase_Exception → c2P, slot_tuple_iterator_next → c3e, slot_zip_next → c3f, slot_str_ascii_iterator_next → c3O, slot_str_iterator_next → c3P, entry_tuple_iterator_next → c3U, args_tuple_iterator_next_1 → c3V
open PySem.Code renaming quiet_builtin → c2O
open PyProof.Rows.LCt renaming CompRestT → c2U, ListComp_T → c3a
open PyProof.Rows.LCt.CompSrcT renaming ledger → c3b
open PyProof.Rows.F renaming plain_set_update_loop → c3B, entry_set_update_loop → c4a
open PySem.Builtin.List renaming listExtendWith → c3D, listLengthHint → c4b, listSameRef → c4c
open PySem.StrLaws renaming sliced_plain → c3S, strSliceIndices_plain → c3T
open PySem PySem.W PyProof.Rows
set_option Elab.async false
namespace Mine
set_option maxRecDepth 100000
set_option maxHeartbeats 8000000
set_option linter.all false
set_option hygiene false
noncomputable section
noncomputable def fcP : Stmt → Option (Arguments × List Stmt × Scope) × List Stmt
 | .FunctionDef _ a b _ _ _ sc _ _ _ => (some (a, b, sc), [])
 | .ClassDef _ _ _ b _ _ _ _ _ _ _ => (none, b)
 | _ => (none, [])
noncomputable def fdI (i : Nat) : Option (Arguments × List Stmt × Scope) := (b9J.main.body[i]?).bind fun c => (fcP c).1
noncomputable def fmI (i j : Nat) : Option (Arguments × List Stmt × Scope) := (b9J.main.body[i]?).bind fun c => ((fcP c).2[j]?).bind fun c => (fcP c).1
noncomputable abbrev a0M (i : Nat) := {x : Arguments × List Stmt × Scope // fdI i = some x}
noncomputable abbrev a8j (i j : Nat) := {x : Arguments × List Stmt × Scope // fmI i j = some x}
noncomputable abbrev b9i (name qual : b9p) (params : Arguments) (body : List Stmt) (scope : Scope) : FuncData := { name, qualname := qual, params, body := .stmts body, scope, globals := 0, closure := [], defaults := .none, kwdefaults := .none }
noncomputable abbrev kv (P : Params) (s : b9p) (t : Nat) (v : Value) : DictEntry := ⟨b9M P s, .str s t, v⟩
noncomputable abbrev tu (l : List Value) : Obj := ⟨.type "tuple", none, .seq ⟨l⟩ 0, #[]⟩
noncomputable abbrev tuE : Obj := ⟨.type "tuple", none, .seq #[] 0, #[]⟩
noncomputable abbrev nfE : Obj := ⟨.none, none, .fields #[], #[]⟩
noncomputable abbrev io (n q : b9p) (f : Arguments × List Stmt × Scope) : Obj := ⟨.none, none, .func (b9i n q f.1 f.2.1 f.2.2), #[]⟩
noncomputable abbrev fo (n q : b9p) (f : Arguments × List Stmt × Scope) (d : Value) (m : b9p) (t c : Nat) : Obj := ⟨.type "function", none, .func (fnOf n q f.1 f.2.1 f.2.2 d .none .none (.str m t) none (.ref c) .none), #[]⟩
noncomputable def rf : Nat → Value
 | 0 => .none
 | n + 1 => .ref (n + 1)
noncomputable abbrev cd (n q : b9p) (t l a z : Nat) (b : Bool) (r x y u c k : Nat) : Obj := ⟨.type "code", none, .fields #[.str n t, .str q (t + 1), .str "/claim/cut.py" (t + 2), .int l 0, .int a 0, .int 0 0, .int 0 0, .int z 0, .ref r, .bool b, .int 181 0, .ref (r + 1), rf x, rf y, rf u, rf c, .int k 0, .int l 0, .str "/claim/cut.py" (k + 1)], #[]⟩
noncomputable abbrev cN (n : b9p) (t l a r x y u c k : Nat) : Obj := cd n n t l a 3 true r x y u c k
noncomputable def fl (l : List (Nat × Nat × Nat)) : Obj := ⟨.none, none, .fields ⟨l.flatMap fun p => [.int p.1 0, .int p.2.1 0, .ref p.2.2]⟩, #[]⟩
noncomputable def b9j (o : Obj) : List DictEntry := match o.data with
 | .dict e _ => e.toList
 | _ => []
noncomputable abbrev f1_0 : a8j 1 0 := ⟨(_, _, _), rfl⟩
noncomputable abbrev f5 : a0M 5 := ⟨(_, _, _), rfl⟩
noncomputable abbrev f7 : a0M 7 := ⟨(_, _, _), rfl⟩
noncomputable abbrev f12 : a0M 12 := ⟨(_, _, _), rfl⟩
noncomputable abbrev f13 : a0M 13 := ⟨(_, _, _), rfl⟩
noncomputable abbrev f14 : a0M 14 := ⟨(_, _, _), rfl⟩
noncomputable abbrev f15 : a0M 15 := ⟨(_, _, _), rfl⟩
noncomputable abbrev f16 : a0M 16 := ⟨(_, _, _), rfl⟩
noncomputable abbrev f17 : a0M 17 := ⟨(_, _, _), rfl⟩
noncomputable abbrev f19_0 : a8j 19 0 := ⟨(_, _, _), rfl⟩
noncomputable abbrev f24 : a0M 24 := ⟨(_, _, _), rfl⟩
noncomputable abbrev f25 : a0M 25 := ⟨(_, _, _), rfl⟩
noncomputable abbrev f26 : a0M 26 := ⟨(_, _, _), rfl⟩
noncomputable abbrev f27 : a0M 27 := ⟨(_, _, _), rfl⟩
noncomputable abbrev f28 : a0M 28 := ⟨(_, _, _), rfl⟩
noncomputable abbrev f29 : a0M 29 := ⟨(_, _, _), rfl⟩
noncomputable abbrev f33_0 : a8j 33 0 := ⟨(_, _, _), rfl⟩
noncomputable abbrev f44_0 : a8j 44 0 := ⟨(_, _, _), rfl⟩
noncomputable abbrev f44_2 : a8j 44 2 := ⟨(_, _, _), rfl⟩
noncomputable abbrev f44_3 : a8j 44 3 := ⟨(_, _, _), rfl⟩
noncomputable abbrev f51 : a0M 51 := ⟨(_, _, _), rfl⟩
noncomputable abbrev f52 : a0M 52 := ⟨(_, _, _), rfl⟩
noncomputable abbrev f53 : a0M 53 := ⟨(_, _, _), rfl⟩
noncomputable abbrev f65_0 : a8j 65 0 := ⟨(_, _, _), rfl⟩
noncomputable abbrev f65_1 : a8j 65 1 := ⟨(_, _, _), rfl⟩
noncomputable abbrev f65_2 : a8j 65 2 := ⟨(_, _, _), rfl⟩
noncomputable abbrev f65_3 : a8j 65 3 := ⟨(_, _, _), rfl⟩
noncomputable abbrev f65_4 : a8j 65 4 := ⟨(_, _, _), rfl⟩
noncomputable abbrev f66 : a0M 66 := ⟨(_, _, _), rfl⟩
noncomputable abbrev f69 : a0M 69 := ⟨(_, _, _), rfl⟩
noncomputable abbrev f70 : a0M 70 := ⟨(_, _, _), rfl⟩
noncomputable abbrev f71 : a0M 71 := ⟨(_, _, _), rfl⟩
noncomputable abbrev f72 : a0M 72 := ⟨(_, _, _), rfl⟩
noncomputable abbrev f74 : a0M 74 := ⟨(_, _, _), rfl⟩
noncomputable abbrev f75 : a0M 75 := ⟨(_, _, _), rfl⟩
noncomputable abbrev f77 : a0M 77 := ⟨(_, _, _), rfl⟩
noncomputable abbrev f78 : a0M 78 := ⟨(_, _, _), rfl⟩
noncomputable abbrev f79 : a0M 79 := ⟨(_, _, _), rfl⟩
noncomputable abbrev f80 : a0M 80 := ⟨(_, _, _), rfl⟩
noncomputable abbrev f81 : a0M 81 := ⟨(_, _, _), rfl⟩
noncomputable abbrev f87 : a0M 87 := ⟨(_, _, _), rfl⟩
noncomputable abbrev f88 : a0M 88 := ⟨(_, _, _), rfl⟩
noncomputable abbrev f93 : a0M 93 := ⟨(_, _, _), rfl⟩
noncomputable abbrev f95 : a0M 95 := ⟨(_, _, _), rfl⟩
noncomputable abbrev f96 : a0M 96 := ⟨(_, _, _), rfl⟩
noncomputable abbrev f97 : a0M 97 := ⟨(_, _, _), rfl⟩
noncomputable abbrev f98 : a0M 98 := ⟨(_, _, _), rfl⟩
noncomputable abbrev f99 : a0M 99 := ⟨(_, _, _), rfl⟩
noncomputable abbrev f100 : a0M 100 := ⟨(_, _, _), rfl⟩
noncomputable abbrev f101 : a0M 101 := ⟨(_, _, _), rfl⟩
noncomputable abbrev f102 : a0M 102 := ⟨(_, _, _), rfl⟩
noncomputable abbrev f103 : a0M 103 := ⟨(_, _, _), rfl⟩
noncomputable abbrev f104 : a0M 104 := ⟨(_, _, _), rfl⟩
noncomputable abbrev f105 : a0M 105 := ⟨(_, _, _), rfl⟩
noncomputable abbrev f106 : a0M 106 := ⟨(_, _, _), rfl⟩
noncomputable abbrev f107 : a0M 107 := ⟨(_, _, _), rfl⟩
noncomputable abbrev f108 : a0M 108 := ⟨(_, _, _), rfl⟩
noncomputable abbrev f109 : a0M 109 := ⟨(_, _, _), rfl⟩
noncomputable abbrev f110 : a0M 110 := ⟨(_, _, _), rfl⟩
noncomputable def fdG (i : Nat) : Arguments × List Stmt × Scope := (fdI i).getD f5.1
noncomputable def fmG (i j : Nat) : Arguments × List Stmt × Scope := (fmI i j).getD f5.1
noncomputable abbrev b6t (P : Params) : Obj := ⟨.none, none, .dict #[kv P "type.__subclasses__.Exception.0" 225 (.int 39 0), kv P "type.__subclasses__.Exception.n" 226 (.int 1 0)] 2, #[]⟩
noncomputable abbrev b3U (P : Params) : Obj := ⟨.type "dict", none, .dict #[kv P "__name__" 165 (.str "law_no0391_01" 1105), kv P "__doc__" 166 .none, kv P "__package__" 167 .none, kv P "__loader__" 168 (.builtin "__main__.__loader__#opaque"), kv P "__spec__" 169 .none, kv P "__annotations__" 170 (.ref 6), kv P "__builtins__" 171 (.ref 4), kv P "__file__" 173 (.str "/claim/cut.py" 172), kv P "__cached__" 174 .none, kv P "PostError" 228 (.ref 39), kv P "NameFault" 244 (.ref 52), kv P "StoreFault" 260 (.ref 64), kv P "lower_code" 269 (.ref 73), kv P "lower_text" 275 (.ref 78), kv P "upper_text" 281 (.ref 83), kv P "DELIMITER" 285 (.str "/" 284), kv P "INBOX_names" 287 (.str "INBOX" 286), kv P "WILD_SIGNS" 289 (.str "%*" 288), kv P "is_half" 296 (.ref 90), kv P "first_part" 304 (.ref 97), kv P "normal_name" 313 (.ref 104), kv P "is_barred_code" 320 (.ref 111), kv P "check_name" 330 (.ref 118), kv P "is_below" 338 (.ref 125), kv P "Atom" 376 (.ref 149), kv P "EVERYWHERE" 383 (.ref 154), kv P "NAME_DEEDS" 389 (.ref 155), kv P "WITH_USER" 399 (.ref 157), kv P "code_of" 407 (.ref 165), kv P "is_let" 415 (.ref 172), kv P "bare_name" 423 (.ref 179), kv P "new_name" 430 (.ref 186), kv P "name_row" 438 (.ref 193), kv P "refusal" 446 (.ref 200), kv P "Section" 490 (.ref 224), kv P "Command" 532 (.ref 254), kv P "told_argument" 538 (.ref 263), kv P "SYSTEM" 542 (.str "\\Seen \\Answered \\Flagged \\Deleted \\Draft" 541), kv P "NO_KEYWORD" 544 (.str "(){ %*\"\\]" 543), kv P "MOST_KEYWORD" 546 (.int 60 545), kv P "system_flags" 552 (.ref 270), kv P "is_keyword" 560 (.ref 277), kv P "flag_name" 568 (.ref 284), kv P "flag_tuple" 578 (.ref 291), kv P "Letter" 630 (.ref 322), kv P "Box" 687 (.ref 360), kv P "remade" 693 (.ref 369), kv P "place_of" 704 (.ref 376), kv P "raised" 711 (.ref 383), kv P "add_letter" 723 (.ref 390), kv P "set_flags" 735 (.ref 397), kv P "flags_after" 741 (.ref 402), kv P "expunge" 747 (.ref 407), kv P "copy_letters" 753 (.ref 412), kv P "move_letters" 759 (.ref 417), kv P "is_sound" 765 (.ref 422), kv P "is_refused" 775 (.ref 429), kv P "store_flags" 781 (.ref 435), kv P "distinct" 790 (.ref 442), kv P "forget_gone" 796 (.ref 447), kv P "INBOX_store" 800 (.str "INBOX" 799), kv P "MOST" 802 (.int 4294967295 801), kv P "MOST_MODSEQ" 804 (.int 9223372036854775807 803), kv P "SHAPES" 806 (.str "create:tn delete:t rename:tt append:tfno flags:tnf store:tutfn expunge:tu copy:tut move:tut subscribe:t unsubscribe:t forget:tn snapshot:nfr" 805), kv P "Store" 866 (.ref 490), kv P "is_number" 873 (.ref 501), kv P "are_texts" 879 (.ref 506), kv P "are_numbers" 885 (.ref 511), kv P "fits_shape" 893 (.ref 518), kv P "check_row" 905 (.ref 525), kv P "settled_name" 914 (.ref 532), kv P "need_modseqs" 922 (.ref 539), kv P "need_room" 930 (.ref 546), kv P "need_new" 938 (.ref 553), kv P "need_validity" 946 (.ref 560), kv P "need_uids" 952 (.ref 565), kv P "create_box" 962 (.ref 572), kv P "delete_box" 971 (.ref 579), kv P "renamed_pairs" 983 (.ref 586), kv P "rename_box" 989 (.ref 591), kv P "rename_inbox" 999 (.ref 598), kv P "append_letter" 1012 (.ref 605), kv P "flag_letter" 1023 (.ref 612), kv P "store_letters" 1036 (.ref 619), kv P "expunge_letters" 1046 (.ref 626), kv P "copy_or_move" 1052 (.ref 631), kv P "subscribe_name" 1061 (.ref 638), kv P "unsubscribe_name" 1067 (.ref 643), kv P "is_letter_told" 1074 (.ref 650), kv P "is_box_told" 1080 (.ref 655), kv P "need_sound" 1089 (.ref 662), kv P "restore" 1095 (.ref 667), kv P "apply" 1104 (.ref 674), kv P "_law_pen" 1112 (.ref 679), kv P "_law_draw" 1122 (.ref 686), kv P "_law_names" 1128 (.ref 693), kv P "_law_odd" 1134 (.ref 700), kv P "_law_words" 1140 (.ref 707), kv P "_law_name" 1148 (.ref 714), kv P "_law_normal" 1156 (.ref 721), kv P "_law_is_name" 1163 (.ref 728), kv P "_law_made" 1171 (.ref 735), kv P "_law_below" 1177 (.ref 740), kv P "_law_create" 1186 (.ref 747), kv P "_law_rename" 1192 (.ref 752), kv P "_law_do" 1198 (.ref 757), kv P "_law_heard" 1207 (.ref 764), kv P "_law_states" 1214 (.ref 771), kv P "law" 1220 (.ref 776)] 109, #[]⟩
noncomputable abbrev o15 : Obj := (tu [.type "Exception"])
noncomputable abbrev o22 : Obj := (tu [.int (-1) 202])
noncomputable abbrev o28 : Obj := (cd "__init__" "PostError.__init__" 203 4 3 3 true 23 0 25 26 27 209)
noncomputable abbrev o29 : Obj := (fo "__init__" "PostError.__init__" f1_0.1 (.ref 22) "postkeep.errors" 187 28)
noncomputable abbrev o38 (P : Params) : Obj := ⟨.type "dict", none, .dict #[kv P "__module__" 196 (.str "postkeep.errors" 187), kv P "__firstlineno__" 200 (.int 2 199), kv P "__init__" 211 (.ref 29), kv P "told" 218 (.ref 36), kv P "__static_attributes__" 221 (.ref 37), kv P "__weakref__" 223 (.ref 40), kv P "__doc__" 224 .none] 3, #[]⟩
noncomputable abbrev o39 : Obj := ⟨.type "type", none, .cls { name := "PostError", bases := [.type "Exception"], mro := [.ref 39, .type "Exception", .type "BaseException", .type "object"], ns := 38, qualname := "PostError", hasDict := true, slotNames := [], subclasses := [.ref 52, .ref 64], abstract := false, collection := none, hasDel := false }, #[some (.ref 15), none, some (.str "PostError" 189), some (.str "PostError" 197), some (.builtin "Exception.__new__"), some (.bool true)]⟩
noncomputable abbrev o43 : Obj := (tu [.ref 39])
noncomputable abbrev o51 (P : Params) : Obj := ⟨.type "dict", none, .dict #[kv P "__module__" 236 (.str "postkeep.errors" 187), kv P "__firstlineno__" 240 (.int 11 239), kv P "__static_attributes__" 241 (.ref 50), kv P "__doc__" 242 .none] 2, #[]⟩
noncomputable abbrev o52 : Obj := ⟨.type "type", none, .cls { name := "NameFault", bases := [.ref 39], mro := [.ref 52, .ref 39, .type "Exception", .type "BaseException", .type "object"], ns := 51, qualname := "NameFault", hasDict := true, slotNames := [], subclasses := [], abstract := false, collection := none, hasDel := false }, #[some (.ref 43), none, some (.str "NameFault" 229), some (.str "NameFault" 237), some (.builtin "Exception.__new__"), some (.bool true)]⟩
noncomputable abbrev o55 : Obj := (tu [.ref 39])
noncomputable abbrev o63 (P : Params) : Obj := ⟨.type "dict", none, .dict #[kv P "__module__" 252 (.str "postkeep.errors" 187), kv P "__firstlineno__" 256 (.int 13 255), kv P "__static_attributes__" 257 (.ref 62), kv P "__doc__" 258 .none] 2, #[]⟩
noncomputable abbrev o64 : Obj := ⟨.type "type", none, .cls { name := "StoreFault", bases := [.ref 39], mro := [.ref 64, .ref 39, .type "Exception", .type "BaseException", .type "object"], ns := 63, qualname := "StoreFault", hasDict := true, slotNames := [], subclasses := [], abstract := false, collection := none, hasDel := false }, #[some (.ref 55), none, some (.str "StoreFault" 245), some (.str "StoreFault" 253), some (.builtin "Exception.__new__"), some (.bool true)]⟩
noncomputable abbrev o82 : Obj := (cN "upper_text" 276 20 1 79 0 0 0 81 279)
noncomputable abbrev o83 : Obj := (fo "upper_text" "upper_text" f7.1 .none "postkeep.octets" 261 82)
noncomputable abbrev o89 : Obj := (cN "is_half" 290 26 1 84 0 86 87 88 294)
noncomputable abbrev o90 : Obj := (fo "is_half" "is_half" f12.1 .none "postkeep.names" 282 89)
noncomputable abbrev o96 : Obj := (cN "first_part" 297 28 1 91 0 93 94 95 302)
noncomputable abbrev o97 : Obj := (fo "first_part" "first_part" f13.1 .none "postkeep.names" 282 96)
noncomputable abbrev b8p : Obj := (cN "normal_name" 305 33 1 98 0 100 101 102 311)
noncomputable abbrev b8i : Obj := (fo "normal_name" "normal_name" f14.1 .none "postkeep.names" 282 103)
noncomputable abbrev b7V : Obj := (cN "is_barred_code" 314 38 1 105 0 107 108 109 318)
noncomputable abbrev b8t : Obj := (fo "is_barred_code" "is_barred_code" f15.1 .none "postkeep.names" 282 110)
noncomputable abbrev b6z : Obj := (cN "check_name" 321 40 1 112 0 114 115 116 328)
noncomputable abbrev b7U : Obj := (fo "check_name" "check_name" f16.1 .none "postkeep.names" 282 117)
noncomputable abbrev b7i : Obj := (cN "is_below" 331 55 2 119 0 121 122 123 336)
noncomputable abbrev b8z : Obj := (fo "is_below" "is_below" f17.1 .none "postkeep.names" 282 124)
noncomputable abbrev b6r : Obj := (cd "__init__" "Atom.__init__" 353 60 2 3 true 133 0 135 136 137 358)
noncomputable abbrev b6j : Obj := (fo "__init__" "Atom.__init__" f19_0.1 .none "postkeep.wire" 339 138)
noncomputable abbrev b6H (P : Params) : Obj := ⟨.type "dict", none, .dict #[kv P "__module__" 348 (.str "postkeep.wire" 339), kv P "__firstlineno__" 352 (.int 58 351), kv P "__init__" 360 (.ref 139), kv P "told" 367 (.ref 146), kv P "__static_attributes__" 369 (.ref 147), kv P "__dict__" 371 (.ref 150), kv P "__weakref__" 373 (.ref 151), kv P "__doc__" 374 .none] 4, #[]⟩
noncomputable abbrev b8y : Obj := ⟨.type "type", none, .cls { name := "Atom", bases := [.type "object"], mro := [.ref 149, .type "object"], ns := 148, qualname := "Atom", hasDict := true, slotNames := [], subclasses := [], abstract := false, collection := none, hasDel := false }, #[none, none, some (.str "Atom" 341), some (.str "Atom" 349), some (.builtin "object.__new__"), some (.bool true)]⟩
noncomputable abbrev b4s : Obj := (tu [.str "CAPABILITY" 379, .str "NOOP" 380, .str "LOGOUT" 381, .str "ID" 382])
noncomputable abbrev b5m : Obj := (tu [.str "CREATE" 384, .str "DELETE" 385, .str "RENAME" 386, .str "SUBSCRIBE" 387, .str "UNSUBSCRIBE" 388, .str "ENABLE" 390, .str "SELECT" 391, .str "EXAMINE" 392, .str "LIST" 393, .str "LSUB" 394, .str "STATUS" 395, .str "APPEND" 396, .str "NAMESPACE" 397, .str "IDLE" 398])
noncomputable abbrev b7x : Obj := (tu [.none])
noncomputable abbrev b7W : Obj := (cN "code_of" 400 69 2 159 0 161 162 163 405)
noncomputable abbrev b6f : Obj := (fo "code_of" "code_of" f24.1 (.ref 158) "postkeep.session" 377 164)
noncomputable abbrev b8x : Obj := (cN "is_let" 408 71 2 166 0 168 169 170 413)
noncomputable abbrev b7X : Obj := (fo "is_let" "is_let" f25.1 .none "postkeep.session" 377 171)
noncomputable abbrev b7o : Obj := (cN "bare_name" 416 79 1 173 0 175 176 177 421)
noncomputable abbrev b7R : Obj := (fo "bare_name" "bare_name" f26.1 .none "postkeep.session" 377 178)
noncomputable abbrev b7n : Obj := (cN "new_name" 424 82 1 180 0 182 183 184 428)
noncomputable abbrev b8h : Obj := (fo "new_name" "new_name" f27.1 .none "postkeep.session" 377 185)
noncomputable abbrev b7F : Obj := (cN "name_row" 431 84 2 187 0 189 190 191 436)
noncomputable abbrev b7y : Obj := (fo "name_row" "name_row" f28.1 .none "postkeep.session" 377 192)
noncomputable abbrev b6X : Obj := (cN "refusal" 439 90 2 194 0 196 197 198 444)
noncomputable abbrev b6F : Obj := (fo "refusal" "refusal" f29.1 .none "postkeep.session" 377 199)
noncomputable abbrev b6u : Obj := tuE
noncomputable abbrev b6p : Obj := (tu [.ref 236])
noncomputable abbrev b7B : Obj := (cd "__init__" "Command.__init__" 505 114 4 3 true 238 0 240 241 242 512)
noncomputable abbrev b7I : Obj := (fo "__init__" "Command.__init__" f33_0.1 (.ref 237) "postkeep.commands" 491 243)
noncomputable abbrev b7O (P : Params) : Obj := ⟨.type "dict", none, .dict #[kv P "__module__" 500 (.str "postkeep.commands" 491), kv P "__firstlineno__" 504 (.int 112 503), kv P "__init__" 514 (.ref 244), kv P "told" 521 (.ref 251), kv P "__static_attributes__" 525 (.ref 252), kv P "__dict__" 527 (.ref 255), kv P "__weakref__" 529 (.ref 256), kv P "__doc__" 530 .none] 4, #[]⟩
noncomputable abbrev b8q : Obj := ⟨.type "type", none, .cls { name := "Command", bases := [.type "object"], mro := [.ref 254, .type "object"], ns := 253, qualname := "Command", hasDict := true, slotNames := [], subclasses := [], abstract := false, collection := none, hasDel := false }, #[none, none, some (.str "Command" 493), some (.str "Command" 501), some (.builtin "object.__new__"), some (.bool true)]⟩
noncomputable abbrev b7q : Obj := (cd "__init__" "Box.__init__" 643 170 3 3 true 334 0 336 337 338 649)
noncomputable abbrev b7T : Obj := (fo "__init__" "Box.__init__" f44_0.1 .none "postkeep.boxes" 539 339)
noncomputable abbrev b6K : Obj := (cd "uids" "Box.uids" 661 183 1 3 true 348 0 0 0 350 664)
noncomputable abbrev b6S : Obj := (fo "uids" "Box.uids" f44_2.1 .none "postkeep.boxes" 539 351)
noncomputable abbrev b8d : Obj := (cd "told" "Box.told" 667 186 1 3 true 353 0 0 0 355 670)
noncomputable abbrev b6d : Obj := (fo "told" "Box.told" f44_3.1 .none "postkeep.boxes" 539 356)
noncomputable abbrev b7z (P : Params) : Obj := ⟨.type "dict", none, .dict #[kv P "__module__" 638 (.str "postkeep.boxes" 539), kv P "__firstlineno__" 642 (.int 168 641), kv P "__init__" 651 (.ref 340), kv P "letter" 660 (.ref 347), kv P "uids" 666 (.ref 352), kv P "told" 672 (.ref 357), kv P "__static_attributes__" 680 (.ref 358), kv P "__dict__" 682 (.ref 361), kv P "__weakref__" 684 (.ref 362), kv P "__doc__" 685 .none] 4, #[]⟩
noncomputable abbrev b7u : Obj := ⟨.type "type", none, .cls { name := "Box", bases := [.type "object"], mro := [.ref 360, .type "object"], ns := 359, qualname := "Box", hasDict := true, slotNames := [], subclasses := [], abstract := false, collection := none, hasDel := false }, #[none, none, some (.str "Box" 631), some (.str "Box" 639), some (.builtin "object.__new__"), some (.bool true)]⟩
noncomputable abbrev b6m : Obj := (cN "expunge" 742 234 2 403 0 0 0 405 745)
noncomputable abbrev b6h : Obj := (fo "expunge" "expunge" f51.1 .none "postkeep.boxes" 539 406)
noncomputable abbrev b7t : Obj := (cN "copy_letters" 748 245 3 408 0 0 0 410 751)
noncomputable abbrev b7N : Obj := (fo "copy_letters" "copy_letters" f52.1 .none "postkeep.boxes" 539 411)
noncomputable abbrev b6V : Obj := (cN "move_letters" 754 252 3 413 0 0 0 415 757)
noncomputable abbrev b7g : Obj := (fo "move_letters" "move_letters" f53.1 .none "postkeep.boxes" 539 416)
noncomputable abbrev b8m : Obj := (cd "__init__" "Store.__init__" 819 305 1 3 true 455 0 457 458 459 823)
noncomputable abbrev b7M : Obj := (fo "__init__" "Store.__init__" f65_0.1 .none "postkeep.store" 797 460)
noncomputable abbrev b8f : Obj := (cd "has" "Store.has" 826 310 2 3 true 462 0 464 465 466 831)
noncomputable abbrev b8a : Obj := (fo "has" "Store.has" f65_1.1 .none "postkeep.store" 797 467)
noncomputable abbrev b7H : Obj := (cd "box" "Store.box" 834 313 2 3 true 469 0 471 472 473 840)
noncomputable abbrev b8b : Obj := (fo "box" "Store.box" f65_2.1 .none "postkeep.store" 797 474)
noncomputable abbrev b7l : Obj := (cd "names" "Store.names" 843 319 1 3 true 476 0 478 479 480 847)
noncomputable abbrev b7e : Obj := (fo "names" "Store.names" f65_3.1 .none "postkeep.store" 797 481)
noncomputable abbrev b6n : Obj := (cd "told" "Store.told" 850 322 1 3 true 483 0 0 0 485 853)
noncomputable abbrev b7L : Obj := (fo "told" "Store.told" f65_4.1 .none "postkeep.store" 797 486)
noncomputable abbrev b7P (P : Params) : Obj := ⟨.type "dict", none, .dict #[kv P "__module__" 814 (.str "postkeep.store" 797), kv P "__firstlineno__" 818 (.int 303 817), kv P "__init__" 825 (.ref 461), kv P "has" 833 (.ref 468), kv P "box" 842 (.ref 475), kv P "names" 849 (.ref 482), kv P "told" 855 (.ref 487), kv P "__static_attributes__" 859 (.ref 488), kv P "__dict__" 861 (.ref 491), kv P "__weakref__" 863 (.ref 492), kv P "__doc__" 864 .none] 4, #[]⟩
noncomputable abbrev b6k : Obj := ⟨.type "type", none, .cls { name := "Store", bases := [.type "object"], mro := [.ref 490, .type "object"], ns := 489, qualname := "Store", hasDict := true, slotNames := [], subclasses := [], abstract := false, collection := none, hasDel := false }, #[none, none, some (.str "Store" 807), some (.str "Store" 815), some (.builtin "object.__new__"), some (.bool true)]⟩
noncomputable abbrev b6R : Obj := (cN "is_number" 867 325 1 495 0 497 498 499 871)
noncomputable abbrev b7m : Obj := (fo "is_number" "is_number" f66.1 .none "postkeep.store" 797 500)
noncomputable abbrev b8r : Obj := (cN "fits_shape" 886 331 2 512 0 514 515 516 891)
noncomputable abbrev b8j : Obj := (fo "fits_shape" "fits_shape" f69.1 .none "postkeep.store" 797 517)
noncomputable abbrev b7Z : Obj := (cN "check_row" 894 343 1 519 0 521 522 523 903)
noncomputable abbrev b7s : Obj := (fo "check_row" "check_row" f70.1 .none "postkeep.store" 797 524)
noncomputable abbrev b7c : Obj := (cN "settled_name" 906 356 1 526 0 528 529 530 912)
noncomputable abbrev b7p : Obj := (fo "settled_name" "settled_name" f71.1 .none "postkeep.store" 797 531)
noncomputable abbrev b6W : Obj := (cN "need_modseqs" 915 363 2 533 0 535 536 537 920)
noncomputable abbrev b8o : Obj := (fo "need_modseqs" "need_modseqs" f72.1 .none "postkeep.store" 797 538)
noncomputable abbrev b6i : Obj := (cN "need_new" 931 370 2 547 0 549 550 551 936)
noncomputable abbrev b6e : Obj := (fo "need_new" "need_new" f74.1 .none "postkeep.store" 797 552)
noncomputable abbrev b7j : Obj := (cN "need_validity" 939 373 2 554 0 556 557 558 944)
noncomputable abbrev b8c : Obj := (fo "need_validity" "need_validity" f75.1 .none "postkeep.store" 797 559)
noncomputable abbrev b6y : Obj := (cN "create_box" 953 382 3 566 0 568 569 570 960)
noncomputable abbrev b7d : Obj := (fo "create_box" "create_box" f77.1 .none "postkeep.store" 797 571)
noncomputable abbrev b6A : Obj := (cN "delete_box" 963 389 2 573 0 575 576 577 969)
noncomputable abbrev b8e : Obj := (fo "delete_box" "delete_box" f78.1 .none "postkeep.store" 797 578)
noncomputable abbrev b6B : Obj := (cN "renamed_pairs" 972 395 3 580 0 582 583 584 981)
noncomputable abbrev b8A : Obj := (fo "renamed_pairs" "renamed_pairs" f79.1 .none "postkeep.store" 797 585)
noncomputable abbrev b6M : Obj := (cN "rename_box" 984 403 3 587 0 0 0 589 987)
noncomputable abbrev b8s : Obj := (fo "rename_box" "rename_box" f80.1 .none "postkeep.store" 797 590)
noncomputable abbrev b6s : Obj := (cN "rename_inbox" 990 415 3 592 0 594 595 596 997)
noncomputable abbrev b7Q : Obj := (fo "rename_inbox" "rename_inbox" f81.1 .none "postkeep.store" 797 597)
noncomputable abbrev b8n : Obj := (cN "subscribe_name" 1053 450 2 632 0 634 635 636 1059)
noncomputable abbrev b7A : Obj := (fo "subscribe_name" "subscribe_name" f87.1 .none "postkeep.store" 797 637)
noncomputable abbrev b7a : Obj := (cN "unsubscribe_name" 1062 456 2 639 0 0 0 641 1065)
noncomputable abbrev b7J : Obj := (fo "unsubscribe_name" "unsubscribe_name" f88.1 .none "postkeep.store" 797 642)
noncomputable abbrev b7C : Obj := (cN "apply" 1096 501 2 668 0 670 671 672 1102)
noncomputable abbrev b6T : Obj := (fo "apply" "apply" f93.1 .none "postkeep.store" 797 673)
noncomputable abbrev b6P : Obj := (cN "_law_pen" 1107 528 1 675 0 0 0 677 1110)
noncomputable abbrev b7K : Obj := (fo "_law_pen" "_law_pen" f95.1 .none "law_no0391_01" 1105 678)
noncomputable abbrev b8g : Obj := (cN "_law_draw" 1113 537 2 680 0 682 683 684 1120)
noncomputable abbrev b6o : Obj := (fo "_law_draw" "_law_draw" f96.1 .none "law_no0391_01" 1105 685)
noncomputable abbrev b7r : Obj := (cN "_law_names" 1123 548 0 687 0 689 690 691 1126)
noncomputable abbrev b6w : Obj := (fo "_law_names" "_law_names" f97.1 .none "law_no0391_01" 1105 692)
noncomputable abbrev b7E : Obj := (cN "_law_odd" 1129 550 0 694 0 696 697 698 1132)
noncomputable abbrev b8w : Obj := (fo "_law_odd" "_law_odd" f98.1 .none "law_no0391_01" 1105 699)
noncomputable abbrev b7f : Obj := (cN "_law_words" 1135 552 0 701 0 703 704 705 1138)
noncomputable abbrev b6Q : Obj := (fo "_law_words" "_law_words" f99.1 .none "law_no0391_01" 1105 706)
noncomputable abbrev b6g : Obj := (cN "_law_name" 1141 554 1 708 0 710 711 712 1146)
noncomputable abbrev b6L : Obj := (fo "_law_name" "_law_name" f100.1 .none "law_no0391_01" 1105 713)
noncomputable abbrev b7h : Obj := (cN "_law_normal" 1149 559 1 715 0 717 718 719 1154)
noncomputable abbrev b7v : Obj := (fo "_law_normal" "_law_normal" f101.1 .none "law_no0391_01" 1105 720)
noncomputable abbrev b7w : Obj := (cN "_law_is_name" 1157 562 1 722 0 724 725 726 1161)
noncomputable abbrev b6q : Obj := (fo "_law_is_name" "_law_is_name" f102.1 .none "law_no0391_01" 1105 727)
noncomputable abbrev b6I : Obj := (cN "_law_made" 1164 564 1 729 0 731 732 733 1169)
noncomputable abbrev b8u : Obj := (fo "_law_made" "_law_made" f103.1 .none "law_no0391_01" 1105 734)
noncomputable abbrev b6E : Obj := (cN "_law_below" 1172 567 2 736 0 0 0 738 1175)
noncomputable abbrev b7G : Obj := (fo "_law_below" "_law_below" f104.1 .none "law_no0391_01" 1105 739)
noncomputable abbrev b8l : Obj := (cN "_law_create" 1178 569 2 741 0 743 744 745 1184)
noncomputable abbrev b6G : Obj := (fo "_law_create" "_law_create" f105.1 .none "law_no0391_01" 1105 746)
noncomputable abbrev b6x : Obj := (cN "_law_rename" 1187 576 3 748 0 0 0 750 1190)
noncomputable abbrev b6D : Obj := (fo "_law_rename" "_law_rename" f106.1 .none "law_no0391_01" 1105 751)
noncomputable abbrev b6Y : Obj := (cN "_law_do" 1193 598 3 753 0 0 0 755 1196)
noncomputable abbrev b8v : Obj := (fo "_law_do" "_law_do" f107.1 .none "law_no0391_01" 1105 756)
noncomputable abbrev b6J : Obj := (cN "_law_heard" 1199 620 2 758 0 760 761 762 1205)
noncomputable abbrev b8k : Obj := (fo "_law_heard" "_law_heard" f108.1 .none "law_no0391_01" 1105 763)
noncomputable abbrev b7k : Obj := (cN "_law_states" 1208 627 1 765 0 767 768 769 1212)
noncomputable abbrev b6Z : Obj := (fo "_law_states" "_law_states" f109.1 .none "law_no0391_01" 1105 770)
noncomputable abbrev b6l : Obj := (cN "law" 1215 633 1 772 0 0 0 774 1218)
noncomputable abbrev b7b : Obj := (fo "law" "law" f110.1 .none "law_no0391_01" 1105 775)
noncomputable def t0 (P : Params) : List Obj := []
noncomputable def h0 (P : Params) : Heap := ⟨⟨[PySem.W.boot_o_0 P, PySem.W.boot_o_1 P, PySem.W.boot_o_2 P, PySem.W.boot_o_3 P, PySem.W.boot_o_4 P, PySem.W.boot_o_5 P, PySem.W.boot_o_6 P, PySem.W.boot_o_7 P, PySem.W.boot_o_8 P, PySem.W.boot_o_9 P, PySem.W.boot_o_10 P, tuE, nfE, (cd "<module>" "<module>" 182 1 0 0 false 11 0 0 0 0 185), ⟨.type "frame", none, .plain, #[some (.ref 13), some (.ref 3), some (.ref 3), none, some (.str "__main__" 164), none, some (.ref 0)]⟩]⟩, {}⟩
noncomputable def t1 (P : Params) : List Obj := [o15, ⟨.type "builtin_function_or_method", none, .fields #[.builtin "type.__prepare__", .type "type"], #[]⟩, ⟨.type "dict", none, .dict #[kv P "__module__" 196 (.str "postkeep.errors" 187), kv P "__qualname__" 198 (.str "PostError" 197), kv P "__firstlineno__" 200 (.int 2 199), kv P "__init__" 211 (.ref 29), kv P "told" 218 (.ref 36), kv P "__static_attributes__" 221 (.ref 37)] 6, #[]⟩, tuE, (fl [(4, 4, 28), (9, 4, 35)]), (cd "PostError" "PostError" 191 2 0 0 false 18 0 0 0 0 194), ⟨.type "frame", none, .plain, #[some (.ref 20), some (.ref 3), some (.ref 17), none, some (.str "postkeep.errors" 187), none, some (.ref 0)]⟩, o22, tuE, nfE, (tu [.str "self" 206, .str "what" 207, .str "at" 208]), tuE, (io "__init__" "PostError.__init__" f1_0.1), o28, o29, tuE, nfE, (tu [.str "self" 215]), tuE, (io "told" "PostError.told" (fmG 1 1)), (cd "told" "PostError.told" 212 9 1 3 true 30 0 32 33 34 216), (fo "told" "PostError.told" (fmG 1 1) .none "postkeep.errors" 187 35), (tu [.str "at" 219, .str "what" 220]), o38 P, o39, ⟨.type "getset_descriptor", none, .fields #[.str "__weakref__" 222, .ref 39, .builtin "ExceptionGroup.__weakref__", .none], #[]⟩, ⟨.type "super", none, .fields #[.ref 39, .ref 39, .ref 39], #[]⟩, ⟨.type "builtin_function_or_method", none, .fields #[.builtin "object.__init_subclass__", .ref 39], #[]⟩, o43, ⟨.type "builtin_function_or_method", none, .fields #[.builtin "type.__prepare__", .type "type"], #[]⟩, ⟨.type "dict", none, .dict #[kv P "__module__" 236 (.str "postkeep.errors" 187), kv P "__qualname__" 238 (.str "NameFault" 237), kv P "__firstlineno__" 240 (.int 11 239), kv P "__static_attributes__" 241 (.ref 50)] 4, #[]⟩, tuE, nfE, (cd "NameFault" "NameFault" 231 11 0 0 false 46 0 0 0 0 234), ⟨.type "frame", none, .plain, #[some (.ref 48), some (.ref 3), some (.ref 45), none, some (.str "postkeep.errors" 187), none, some (.ref 0)]⟩, tuE, o51 P, o52, ⟨.type "super", none, .fields #[.ref 52, .ref 52, .ref 52], #[]⟩, ⟨.type "builtin_function_or_method", none, .fields #[.builtin "object.__init_subclass__", .ref 52], #[]⟩, o55, ⟨.type "builtin_function_or_method", none, .fields #[.builtin "type.__prepare__", .type "type"], #[]⟩, ⟨.type "dict", none, .dict #[kv P "__module__" 252 (.str "postkeep.errors" 187), kv P "__qualname__" 254 (.str "StoreFault" 253), kv P "__firstlineno__" 256 (.int 13 255), kv P "__static_attributes__" 257 (.ref 62)] 4, #[]⟩, tuE, nfE, (cd "StoreFault" "StoreFault" 247 13 0 0 false 58 0 0 0 0 250), ⟨.type "frame", none, .plain, #[some (.ref 60), some (.ref 3), some (.ref 57), none, some (.str "postkeep.errors" 187), none, some (.ref 0)]⟩, tuE, o63 P, o64, ⟨.type "super", none, .fields #[.ref 64, .ref 64, .ref 64], #[]⟩, ⟨.type "builtin_function_or_method", none, .fields #[.builtin "object.__init_subclass__", .ref 64], #[]⟩, tuE, nfE, (tu [.str "code" 266]), tuE, (io "lower_code" "lower_code" f5.1), (cN "lower_code" 263 16 1 67 0 69 70 71 267), (fo "lower_code" "lower_code" f5.1 .none "postkeep.octets" 261 72), tuE, nfE, (io "lower_text" "lower_text" (fdG 6)), (cN "lower_text" 270 18 1 74 0 0 0 76 273), (fo "lower_text" "lower_text" (fdG 6) .none "postkeep.octets" 261 77), tuE, nfE, (io "upper_text" "upper_text" f7.1), o82, o83, tuE, nfE, (tu [.str "code" 293]), tuE, (io "is_half" "is_half" f12.1), o89, o90, tuE, nfE, (tu [.str "text" 300, .str "end" 301]), tuE, (io "first_part" "first_part" f13.1), o96, o97, tuE, nfE, (tu [.str "text" 308, .str "head" 309, .str "rest" 310]), tuE, (io "normal_name" "normal_name" f14.1), b8p, b8i, tuE, nfE, (tu [.str "code" 317]), tuE, (io "is_barred_code" "is_barred_code" f15.1), b7V, b8t, tuE, nfE, (tu [.str "text" 324, .str "begin" 325, .str "at" 326, .str "sign" 327]), tuE, (io "check_name" "check_name" f16.1), b6z, b7U, tuE, nfE, (tu [.str "name" 334, .str "parent" 335]), tuE, (io "is_below" "is_below" f17.1), b7i, b8z]
noncomputable def flL : List (Nat × Nat × Nat) := [(2, 0, 20), (11, 0, 48), (13, 0, 60), (16, 0, 72), (18, 0, 77), (20, 0, 82), (26, 0, 89), (28, 0, 96), (33, 0, 103), (38, 0, 110), (40, 0, 117), (55, 0, 124), (58, 0, 131), (69, 0, 164), (71, 0, 171), (79, 0, 178), (82, 0, 185), (84, 0, 192), (90, 0, 199), (99, 0, 206), (112, 0, 234), (121, 0, 262), (131, 0, 269), (133, 0, 276), (140, 0, 283), (147, 0, 290), (154, 0, 297), (168, 0, 332), (189, 0, 368), (195, 0, 375), (206, 0, 382), (209, 0, 389), (215, 0, 396), (225, 0, 401), (234, 0, 406), (245, 0, 411), (252, 0, 416), (256, 0, 421), (274, 0, 428), (276, 0, 434), (284, 0, 441), (289, 0, 446), (303, 0, 453), (325, 0, 500), (327, 0, 505), (329, 0, 510), (331, 0, 517), (343, 0, 524), (356, 0, 531), (363, 0, 538), (366, 0, 545), (370, 0, 552), (373, 0, 559), (376, 0, 564), (382, 0, 571), (389, 0, 578), (395, 0, 585), (403, 0, 590), (415, 0, 597), (423, 0, 604), (428, 0, 611), (432, 0, 618), (438, 0, 625), (442, 0, 630), (450, 0, 637), (456, 0, 642), (462, 0, 649), (466, 0, 654), (472, 0, 661), (480, 0, 666), (501, 0, 673), (528, 0, 678), (537, 0, 685), (548, 0, 692), (550, 0, 699), (552, 0, 706), (554, 0, 713), (559, 0, 720), (562, 0, 727), (564, 0, 734), (567, 0, 739), (569, 0, 746), (576, 0, 751), (598, 0, 756), (620, 0, 763), (627, 0, 770), (633, 0, 775)]
noncomputable def nsH (P : Params) (n : b9p) (t k : Nat) : Obj := ⟨.type "dict", none, .dict ⟨kv P "__name__" 165 (.str n t) :: (b9j (b3U P)).tail.take (k - 1)⟩ k, #[]⟩
noncomputable def hH (P : Params) (d : Obj) (m : Nat) (l : List Obj) : Heap := ⟨⟨[PySem.W.boot_o_0 P, PySem.W.boot_o_1 P, b6t P, d, PySem.W.boot_o_4 P, PySem.W.boot_o_5 P, PySem.W.boot_o_6 P, PySem.W.boot_o_7 P, PySem.W.boot_o_8 P, PySem.W.boot_o_9 P, PySem.W.boot_o_10 P, tuE, fl (flL.take m), (cd "<module>" "<module>" 182 1 0 0 false 11 0 0 0 0 185), ⟨.type "frame", none, .plain, #[some (.ref 13), some (.ref 3), some (.ref 3), none, some (.str "__main__" 164), none, some (.ref 0)]⟩] ++ l⟩, {}⟩
noncomputable def h1 (P : Params) : Heap := hH P (nsH P "postkeep.wire" 339 24) 12 (t1 P)
noncomputable def t2 (P : Params) : List Obj := [tuE, ⟨.type "builtin_function_or_method", none, .fields #[.builtin "type.__prepare__", .type "type"], #[]⟩, ⟨.type "dict", none, .dict #[kv P "__module__" 348 (.str "postkeep.wire" 339), kv P "__qualname__" 350 (.str "Atom" 349), kv P "__firstlineno__" 352 (.int 58 351), kv P "__init__" 360 (.ref 139), kv P "told" 367 (.ref 146), kv P "__static_attributes__" 369 (.ref 147)] 6, #[]⟩, tuE, (fl [(60, 4, 138), (63, 4, 145)]), (cd "Atom" "Atom" 343 58 0 0 false 129 0 0 0 0 346), ⟨.type "frame", none, .plain, #[some (.ref 131), some (.ref 3), some (.ref 128), none, some (.str "postkeep.wire" 339), none, some (.ref 0)]⟩, tuE, nfE, (tu [.str "self" 356, .str "text" 357]), tuE, (io "__init__" "Atom.__init__" f19_0.1), b6r, b6j, tuE, nfE, (tu [.str "self" 364]), tuE, (io "told" "Atom.told" (fmG 19 1)), (cd "told" "Atom.told" 361 63 1 3 true 140 0 142 143 144 365), (fo "told" "Atom.told" (fmG 19 1) .none "postkeep.wire" 339 145), (tu [.str "text" 368]), b6H P, b8y, ⟨.type "getset_descriptor", none, .fields #[.str "__dict__" 370, .ref 149, .builtin "function.__dict__", .builtin "function.__dict__#set"], #[]⟩, ⟨.type "getset_descriptor", none, .fields #[.str "__weakref__" 372, .ref 149, .builtin "ExceptionGroup.__weakref__", .none], #[]⟩, ⟨.type "super", none, .fields #[.ref 149, .ref 149, .ref 149], #[]⟩, ⟨.type "builtin_function_or_method", none, .fields #[.builtin "object.__init_subclass__", .ref 149], #[]⟩, b4s, (tu [.str "CREATE" 384, .str "DELETE" 385, .str "RENAME" 386, .str "SUBSCRIBE" 387, .str "UNSUBSCRIBE" 388]), (tu [.str "ENABLE" 390, .str "SELECT" 391, .str "EXAMINE" 392, .str "LIST" 393, .str "LSUB" 394, .str "STATUS" 395, .str "APPEND" 396, .str "NAMESPACE" 397, .str "IDLE" 398]), b5m, b7x, tuE, nfE, (tu [.str "word" 403, .str "worth" 404]), tuE, (io "code_of" "code_of" f24.1), b7W, b6f, tuE, nfE, (tu [.str "word" 411, .str "state" 412]), tuE, (io "is_let" "is_let" f25.1), b8x, b7X, tuE, nfE, (tu [.str "text" 419, .str "name" 420]), tuE, (io "bare_name" "bare_name" f26.1), b7o, b7R, tuE, nfE, (tu [.str "text" 427]), tuE, (io "new_name" "new_name" f27.1), b7n, b8h, tuE, nfE, (tu [.str "store" 434, .str "command" 435]), tuE, (io "name_row" "name_row" f28.1), b7F, b7y, tuE, nfE, (tu [.str "store" 442, .str "command" 443]), tuE, (io "refusal" "refusal" f29.1), b6X, b6F, tuE, ⟨.type "builtin_function_or_method", none, .fields #[.builtin "type.__prepare__", .type "type"], #[]⟩, ⟨.type "dict", none, .dict #[kv P "__module__" 456 (.str "postkeep.sections" 447), kv P "__qualname__" 458 (.str "Section" 457), kv P "__firstlineno__" 460 (.int 99 459), kv P "__init__" 472 (.ref 216), kv P "told" 478 (.ref 221), kv P "__static_attributes__" 483 (.ref 222)] 6, #[]⟩, tuE, (fl [(101, 4, 215), (107, 4, 220)]), (cd "Section" "Section" 451 99 0 0 false 204 0 0 0 0 454), ⟨.type "frame", none, .plain, #[some (.ref 206), some (.ref 3), some (.ref 203), none, some (.str "postkeep.sections" 447), none, some (.ref 0)]⟩, tuE, (tu [.str "" 461, .ref 208, .none]), tuE, nfE, (tu [.str "self" 465, .str "path" 466, .str "word" 467, .str "names" 468, .str "partial" 469]), tuE, (io "__init__" "Section.__init__" (fmG 31 0)), (cd "__init__" "Section.__init__" 462 101 5 3 true 210 0 212 213 214 470), (fo "__init__" "Section.__init__" (fmG 31 0) (.ref 209) "postkeep.sections" 447 215), tuE, nfE, (io "told" "Section.told" (fmG 31 1)), (cd "told" "Section.told" 473 107 1 3 true 217 0 0 0 219 476), (fo "told" "Section.told" (fmG 31 1) .none "postkeep.sections" 447 220), (tu [.str "names" 479, .str "partial" 480, .str "path" 481, .str "word" 482]), ⟨.type "dict", none, .dict #[kv P "__module__" 456 (.str "postkeep.sections" 447), kv P "__firstlineno__" 460 (.int 99 459), kv P "__init__" 472 (.ref 216), kv P "told" 478 (.ref 221), kv P "__static_attributes__" 483 (.ref 222), kv P "__dict__" 485 (.ref 225), kv P "__weakref__" 487 (.ref 226), kv P "__doc__" 488 .none] 4, #[]⟩, ⟨.type "type", none, .cls { name := "Section", bases := [.type "object"], mro := [.ref 224, .type "object"], ns := 223, qualname := "Section", hasDict := true, slotNames := [], subclasses := [], abstract := false, collection := none, hasDel := false }, #[none, none, some (.str "Section" 449), some (.str "Section" 457), some (.builtin "object.__new__"), some (.bool true)]⟩, ⟨.type "getset_descriptor", none, .fields #[.str "__dict__" 484, .ref 224, .builtin "function.__dict__", .builtin "function.__dict__#set"], #[]⟩, ⟨.type "getset_descriptor", none, .fields #[.str "__weakref__" 486, .ref 224, .builtin "ExceptionGroup.__weakref__", .none], #[]⟩, ⟨.type "super", none, .fields #[.ref 224, .ref 224, .ref 224], #[]⟩, ⟨.type "builtin_function_or_method", none, .fields #[.builtin "object.__init_subclass__", .ref 224], #[]⟩, tuE, ⟨.type "builtin_function_or_method", none, .fields #[.builtin "type.__prepare__", .type "type"], #[]⟩, ⟨.type "dict", none, .dict #[kv P "__module__" 500 (.str "postkeep.commands" 491), kv P "__qualname__" 502 (.str "Command" 501), kv P "__firstlineno__" 504 (.int 112 503), kv P "__init__" 514 (.ref 244), kv P "told" 521 (.ref 251), kv P "__static_attributes__" 525 (.ref 252)] 6, #[]⟩, tuE, (fl [(114, 4, 243), (119, 4, 250)]), (cd "Command" "Command" 495 112 0 0 false 232 0 0 0 0 498), ⟨.type "frame", none, .plain, #[some (.ref 234), some (.ref 3), some (.ref 231), none, some (.str "postkeep.commands" 491), none, some (.ref 0)]⟩, b6u, b6p, tuE, nfE, (tu [.str "self" 508, .str "tag" 509, .str "word" 510, .str "args" 511]), tuE, (io "__init__" "Command.__init__" f33_0.1), b7B, b7I, tuE, nfE, (tu [.str "self" 518]), tuE, (io "told" "Command.told" (fmG 33 1)), (cd "told" "Command.told" 515 119 1 3 true 245 0 247 248 249 519), (fo "told" "Command.told" (fmG 33 1) .none "postkeep.commands" 491 250), (tu [.str "args" 522, .str "tag" 523, .str "word" 524]), b7O P, b8q, ⟨.type "getset_descriptor", none, .fields #[.str "__dict__" 526, .ref 254, .builtin "function.__dict__", .builtin "function.__dict__#set"], #[]⟩, ⟨.type "getset_descriptor", none, .fields #[.str "__weakref__" 528, .ref 254, .builtin "ExceptionGroup.__weakref__", .none], #[]⟩, ⟨.type "super", none, .fields #[.ref 254, .ref 254, .ref 254], #[]⟩, ⟨.type "builtin_function_or_method", none, .fields #[.builtin "object.__init_subclass__", .ref 254], #[]⟩, tuE, nfE, (io "told_argument" "told_argument" (fdG 34)), (cN "told_argument" 533 121 1 259 0 0 0 261 536), (fo "told_argument" "told_argument" (fdG 34) .none "postkeep.commands" 491 262)]
noncomputable def h2 (P : Params) : Heap := hH P (nsH P "postkeep.boxes" 539 38) 22 (t1 P ++ (t2 P))
noncomputable def t3 (P : Params) : List Obj := [tuE, nfE, tuE, tuE, (io "system_flags" "system_flags" (fdG 39)), (cN "system_flags" 547 131 0 264 0 266 267 268 550), (fo "system_flags" "system_flags" (fdG 39) .none "postkeep.boxes" 539 269), tuE, nfE, (tu [.str "text" 556, .str "sign" 557]), tuE, (io "is_keyword" "is_keyword" (fdG 40)), (cN "is_keyword" 553 133 1 271 0 273 274 275 558), (fo "is_keyword" "is_keyword" (fdG 40) .none "postkeep.boxes" 539 276), tuE, nfE, (tu [.str "text" 564, .str "name" 565]), tuE, (io "flag_name" "flag_name" (fdG 41)), (cN "flag_name" 561 140 1 278 0 280 281 282 566), (fo "flag_name" "flag_name" (fdG 41) .none "postkeep.boxes" 539 283), tuE, nfE, (tu [.str "flags" 572, .str "found" 573, .str "text" 574, .str "name" 575]), tuE, (io "flag_tuple" "flag_tuple" (fdG 42)), (cN "flag_tuple" 569 147 1 285 0 287 288 289 576), (fo "flag_tuple" "flag_tuple" (fdG 42) .none "postkeep.boxes" 539 290), tuE, ⟨.type "builtin_function_or_method", none, .fields #[.builtin "type.__prepare__", .type "type"], #[]⟩, ⟨.type "dict", none, .dict #[kv P "__module__" 586 (.str "postkeep.boxes" 539), kv P "__qualname__" 588 (.str "Letter" 587), kv P "__firstlineno__" 590 (.int 154 589), kv P "__init__" 602 (.ref 305), kv P "has" 610 (.ref 312), kv P "told" 617 (.ref 319), kv P "__static_attributes__" 623 (.ref 320)] 7, #[]⟩, tuE, (fl [(156, 4, 304), (163, 4, 311), (166, 4, 318)]), (cd "Letter" "Letter" 581 154 0 0 false 295 0 0 0 0 584), ⟨.type "frame", none, .plain, #[some (.ref 297), some (.ref 3), some (.ref 294), none, some (.str "postkeep.boxes" 539), none, some (.ref 0)]⟩, tuE, nfE, (tu [.str "self" 594, .str "uid" 595, .str "octets" 596, .str "flags" 597, .str "instant" 598, .str "modseq" 599]), tuE, (io "__init__" "Letter.__init__" (fmG 43 0)), (cd "__init__" "Letter.__init__" 591 156 6 3 true 299 0 301 302 303 600), (fo "__init__" "Letter.__init__" (fmG 43 0) .none "postkeep.boxes" 539 304), tuE, nfE, (tu [.str "self" 606, .str "name" 607]), tuE, (io "has" "Letter.has" (fmG 43 1)), (cd "has" "Letter.has" 603 163 2 3 true 306 0 308 309 310 608), (fo "has" "Letter.has" (fmG 43 1) .none "postkeep.boxes" 539 311), tuE, nfE, (tu [.str "self" 614]), tuE, (io "told" "Letter.told" (fmG 43 2)), (cd "told" "Letter.told" 611 166 1 3 true 313 0 315 316 317 615), (fo "told" "Letter.told" (fmG 43 2) .none "postkeep.boxes" 539 318), (tu [.str "flags" 618, .str "instant" 619, .str "modseq" 620, .str "octets" 621, .str "uid" 622]), ⟨.type "dict", none, .dict #[kv P "__module__" 586 (.str "postkeep.boxes" 539), kv P "__firstlineno__" 590 (.int 154 589), kv P "__init__" 602 (.ref 305), kv P "has" 610 (.ref 312), kv P "told" 617 (.ref 319), kv P "__static_attributes__" 623 (.ref 320), kv P "__dict__" 625 (.ref 323), kv P "__weakref__" 627 (.ref 324), kv P "__doc__" 628 .none] 4, #[]⟩, ⟨.type "type", none, .cls { name := "Letter", bases := [.type "object"], mro := [.ref 322, .type "object"], ns := 321, qualname := "Letter", hasDict := true, slotNames := [], subclasses := [], abstract := false, collection := none, hasDel := false }, #[none, none, some (.str "Letter" 579), some (.str "Letter" 587), some (.builtin "object.__new__"), some (.bool true)]⟩, ⟨.type "getset_descriptor", none, .fields #[.str "__dict__" 624, .ref 322, .builtin "function.__dict__", .builtin "function.__dict__#set"], #[]⟩, ⟨.type "getset_descriptor", none, .fields #[.str "__weakref__" 626, .ref 322, .builtin "ExceptionGroup.__weakref__", .none], #[]⟩, ⟨.type "super", none, .fields #[.ref 322, .ref 322, .ref 322], #[]⟩, ⟨.type "builtin_function_or_method", none, .fields #[.builtin "object.__init_subclass__", .ref 322], #[]⟩, tuE, ⟨.type "builtin_function_or_method", none, .fields #[.builtin "type.__prepare__", .type "type"], #[]⟩, ⟨.type "dict", none, .dict #[kv P "__module__" 638 (.str "postkeep.boxes" 539), kv P "__qualname__" 640 (.str "Box" 639), kv P "__firstlineno__" 642 (.int 168 641), kv P "__init__" 651 (.ref 340), kv P "letter" 660 (.ref 347), kv P "uids" 666 (.ref 352), kv P "told" 672 (.ref 357), kv P "__static_attributes__" 680 (.ref 358)] 8, #[]⟩, tuE, (fl [(170, 4, 339), (179, 4, 346), (183, 4, 351), (186, 4, 356)]), (cd "Box" "Box" 633 168 0 0 false 330 0 0 0 0 636), ⟨.type "frame", none, .plain, #[some (.ref 332), some (.ref 3), some (.ref 329), none, some (.str "postkeep.boxes" 539), none, some (.ref 0)]⟩, tuE, nfE, (tu [.str "self" 646, .str "name" 647, .str "validity" 648]), tuE, (io "__init__" "Box.__init__" f44_0.1), b7q, b7T, tuE, nfE, (tu [.str "self" 655, .str "uid" 656, .str "at" 657]), tuE, (io "letter" "Box.letter" (fmG 44 1)), (cd "letter" "Box.letter" 652 179 2 3 true 341 0 343 344 345 658), (fo "letter" "Box.letter" (fmG 44 1) .none "postkeep.boxes" 539 346), tuE, nfE, (io "uids" "Box.uids" f44_2.1), b6K, b6S, tuE, nfE, (io "told" "Box.told" f44_3.1), b8d, b6d, (tu [.str "floor" 673, .str "gone" 674, .str "letters" 675, .str "name" 676, .str "next_uid" 677, .str "top" 678, .str "validity" 679]), b7z P, b7u, ⟨.type "getset_descriptor", none, .fields #[.str "__dict__" 681, .ref 360, .builtin "function.__dict__", .builtin "function.__dict__#set"], #[]⟩, ⟨.type "getset_descriptor", none, .fields #[.str "__weakref__" 683, .ref 360, .builtin "ExceptionGroup.__weakref__", .none], #[]⟩, ⟨.type "super", none, .fields #[.ref 360, .ref 360, .ref 360], #[]⟩, ⟨.type "builtin_function_or_method", none, .fields #[.builtin "object.__init_subclass__", .ref 360], #[]⟩, tuE, nfE, (io "remade" "remade" (fdG 45)), (cN "remade" 688 189 1 365 0 0 0 367 691), (fo "remade" "remade" (fdG 45) .none "postkeep.boxes" 539 368), tuE, nfE, (tu [.str "letters" 697, .str "uid" 698, .str "low" 699, .str "high" 700, .str "middle" 701]), tuE, (io "place_of" "place_of" (fdG 46)), (cN "place_of" 694 195 2 370 0 372 373 374 702), (fo "place_of" "place_of" (fdG 46) .none "postkeep.boxes" 539 375), tuE, nfE, (tu [.str "box" 708]), tuE, (io "raised" "raised" (fdG 47)), (cN "raised" 705 206 1 377 0 379 380 381 709), (fo "raised" "raised" (fdG 47) .none "postkeep.boxes" 539 382), tuE, nfE, (tu [.str "box" 715, .str "octets" 716, .str "flags" 717, .str "instant" 718, .str "names" 719, .str "letter" 720]), tuE, (io "add_letter" "add_letter" (fdG 48)), (cN "add_letter" 712 209 4 384 0 386 387 388 721), (fo "add_letter" "add_letter" (fdG 48) .none "postkeep.boxes" 539 389), tuE, nfE, (tu [.str "box" 727, .str "uid" 728, .str "flags" 729, .str "names" 730, .str "at" 731, .str "letter" 732]), tuE, (io "set_flags" "set_flags" (fdG 49)), (cN "set_flags" 724 215 3 391 0 393 394 395 733), (fo "set_flags" "set_flags" (fdG 49) .none "postkeep.boxes" 539 396)]
noncomputable def h3 (P : Params) : Heap := hH P (nsH P "postkeep.boxes" 539 51) 33 (t1 P ++ (t2 P ++ (t3 P)))
noncomputable def t4 (P : Params) : List Obj := [tuE, nfE, (io "flags_after" "flags_after" (fdG 50)), (cN "flags_after" 736 225 3 398 0 0 0 400 739), (fo "flags_after" "flags_after" (fdG 50) .none "postkeep.boxes" 539 401), tuE, nfE, (io "expunge" "expunge" f51.1), b6m, b6h, tuE, nfE, (io "copy_letters" "copy_letters" f52.1), b7t, b7N, tuE, nfE, (io "move_letters" "move_letters" f53.1), b6V, b7g, tuE, nfE, (io "is_sound" "is_sound" (fdG 54)), (cN "is_sound" 760 256 1 418 0 0 0 420 763), (fo "is_sound" "is_sound" (fdG 54) .none "postkeep.boxes" 539 421), tuE, nfE, (tu [.str "letter" 771, .str "unless" 772]), tuE, (io "is_refused" "is_refused" (fdG 56)), (cN "is_refused" 768 274 2 423 0 425 426 427 773), (fo "is_refused" "is_refused" (fdG 56) .none "postkeep.changes" 766 428), (tu [.none]), tuE, nfE, (io "store_flags" "store_flags" (fdG 57)), (cN "store_flags" 776 276 5 431 0 0 0 433 779), (fo "store_flags" "store_flags" (fdG 57) (.ref 430) "postkeep.changes" 766 434), tuE, nfE, (tu [.str "uids" 785, .str "seen" 786, .str "uid" 787]), tuE, (io "distinct" "distinct" (fdG 58)), (cN "distinct" 782 284 1 436 0 438 439 440 788), (fo "distinct" "distinct" (fdG 58) .none "postkeep.changes" 766 441), tuE, nfE, (io "forget_gone" "forget_gone" (fdG 59)), (cN "forget_gone" 791 289 2 443 0 0 0 445 794), (fo "forget_gone" "forget_gone" (fdG 59) .none "postkeep.changes" 766 446), tuE, ⟨.type "builtin_function_or_method", none, .fields #[.builtin "type.__prepare__", .type "type"], #[]⟩, ⟨.type "dict", none, .dict #[kv P "__module__" 814 (.str "postkeep.store" 797), kv P "__qualname__" 816 (.str "Store" 815), kv P "__firstlineno__" 818 (.int 303 817), kv P "__init__" 825 (.ref 461), kv P "has" 833 (.ref 468), kv P "box" 842 (.ref 475), kv P "names" 849 (.ref 482), kv P "told" 855 (.ref 487), kv P "__static_attributes__" 859 (.ref 488)] 9, #[]⟩, tuE, (fl [(305, 4, 460), (310, 4, 467), (313, 4, 474), (319, 4, 481), (322, 4, 486)]), (cd "Store" "Store" 809 303 0 0 false 451 0 0 0 0 812), ⟨.type "frame", none, .plain, #[some (.ref 453), some (.ref 3), some (.ref 450), none, some (.str "postkeep.store" 797), none, some (.ref 0)]⟩, tuE, nfE, (tu [.str "self" 822]), tuE, (io "__init__" "Store.__init__" f65_0.1), b8m, b7M, tuE, nfE, (tu [.str "self" 829, .str "name" 830]), tuE, (io "has" "Store.has" f65_1.1), b8f, b8a, tuE, nfE, (tu [.str "self" 837, .str "name" 838, .str "found" 839]), tuE, (io "box" "Store.box" f65_2.1), b7H, b8b, tuE, nfE, (tu [.str "self" 846]), tuE, (io "names" "Store.names" f65_3.1), b7l, b7e, tuE, nfE, (io "told" "Store.told" f65_4.1), b6n, b7L, (tu [.str "boxes" 856, .str "next_validity" 857, .str "subscribed" 858]), b7P P, b6k, ⟨.type "getset_descriptor", none, .fields #[.str "__dict__" 860, .ref 490, .builtin "function.__dict__", .builtin "function.__dict__#set"], #[]⟩, ⟨.type "getset_descriptor", none, .fields #[.str "__weakref__" 862, .ref 490, .builtin "ExceptionGroup.__weakref__", .none], #[]⟩, ⟨.type "super", none, .fields #[.ref 490, .ref 490, .ref 490], #[]⟩, ⟨.type "builtin_function_or_method", none, .fields #[.builtin "object.__init_subclass__", .ref 490], #[]⟩, tuE, nfE, (tu [.str "value" 870]), tuE, (io "is_number" "is_number" f66.1), b6R, b7m, tuE, nfE, (io "are_texts" "are_texts" (fdG 67)), (cN "are_texts" 874 327 1 502 0 0 0 504 877), (fo "are_texts" "are_texts" (fdG 67) .none "postkeep.store" 797 505), tuE, nfE, (io "are_numbers" "are_numbers" (fdG 68)), (cN "are_numbers" 880 329 1 507 0 0 0 509 883), (fo "are_numbers" "are_numbers" (fdG 68) .none "postkeep.store" 797 510), tuE, nfE, (tu [.str "value" 889, .str "letter" 890]), tuE, (io "fits_shape" "fits_shape" f69.1), b8r, b8j, tuE, nfE, (tu [.str "row" 897, .str "entry" 898, .str "word" 899, .str "shape" 900, .str "value" 901, .str "letter" 902]), tuE, (io "check_row" "check_row" f70.1), b7Z, b7s, tuE, nfE, (tu [.str "name" 909, .str "found" 910, .str "fault" 911]), tuE, (io "settled_name" "settled_name" f71.1), b7c, b7p, tuE, nfE, (tu [.str "box" 918, .str "count" 919]), tuE, (io "need_modseqs" "need_modseqs" f72.1), b6W, b8o, tuE, nfE, (tu [.str "box" 926, .str "count" 927]), tuE, (io "need_room" "need_room" (fdG 73)), (cN "need_room" 923 366 2 540 0 542 543 544 928), (fo "need_room" "need_room" (fdG 73) .none "postkeep.store" 797 545), tuE, nfE, (tu [.str "store" 934, .str "name" 935]), tuE, (io "need_new" "need_new" f74.1), b6i, b6e, tuE, nfE, (tu [.str "store" 942, .str "validity" 943]), tuE, (io "need_validity" "need_validity" f75.1), b7j, b8c]
noncomputable def h4 (P : Params) : Heap := hH P (nsH P "postkeep.store" 797 75) 53 (t1 P ++ (t2 P ++ (t3 P ++ (t4 P))))
noncomputable def t5 (P : Params) : List Obj := [tuE, nfE, (io "need_uids" "need_uids" (fdG 76)), (cN "need_uids" 947 376 2 561 0 0 0 563 950), (fo "need_uids" "need_uids" (fdG 76) .none "postkeep.store" 797 564), tuE, nfE, (tu [.str "store" 956, .str "name" 957, .str "validity" 958, .str "found" 959]), tuE, (io "create_box" "create_box" f77.1), b6y, b7d, tuE, nfE, (tu [.str "store" 966, .str "name" 967, .str "box" 968]), tuE, (io "delete_box" "delete_box" f78.1), b6A, b8e, tuE, nfE, (tu [.str "store" 975, .str "old" 976, .str "new" 977, .str "pairs" 978, .str "name" 979, .str "goal" 980]), tuE, (io "renamed_pairs" "renamed_pairs" f79.1), b6B, b8A, tuE, nfE, (io "rename_box" "rename_box" f80.1), b6M, b8s, tuE, nfE, (tu [.str "store" 993, .str "inbox" 994, .str "name" 995, .str "box" 996]), tuE, (io "rename_inbox" "rename_inbox" f81.1), b6s, b7Q, tuE, nfE, (tu [.str "store" 1003, .str "name" 1004, .str "flags" 1005, .str "instant" 1006, .str "octets" 1007, .str "box" 1008, .str "letter" 1009]), tuE, (io "append_letter" "append_letter" (fdG 82)), (cN "append_letter" 1000 423 5 599 0 601 602 603 1010), (fo "append_letter" "append_letter" (fdG 82) .none "postkeep.store" 797 604), tuE, nfE, (tu [.str "store" 1016, .str "name" 1017, .str "uid" 1018, .str "flags" 1019, .str "box" 1020]), tuE, (io "flag_letter" "flag_letter" (fdG 83)), (cN "flag_letter" 1013 428 4 606 0 608 609 610 1021), (fo "flag_letter" "flag_letter" (fdG 83) .none "postkeep.store" 797 611), tuE, nfE, (tu [.str "store" 1027, .str "name" 1028, .str "uids" 1029, .str "way" 1030, .str "flags" 1031, .str "unless" 1032, .str "box" 1033]), tuE, (io "store_letters" "store_letters" (fdG 84)), (cN "store_letters" 1024 432 6 613 0 615 616 617 1034), (fo "store_letters" "store_letters" (fdG 84) .none "postkeep.store" 797 618), tuE, nfE, (tu [.str "store" 1040, .str "name" 1041, .str "uids" 1042, .str "box" 1043]), tuE, (io "expunge_letters" "expunge_letters" (fdG 85)), (cN "expunge_letters" 1037 438 3 620 0 622 623 624 1044), (fo "expunge_letters" "expunge_letters" (fdG 85) .none "postkeep.store" 797 625), tuE, nfE, (io "copy_or_move" "copy_or_move" (fdG 86)), (cN "copy_or_move" 1047 442 5 627 0 0 0 629 1050), (fo "copy_or_move" "copy_or_move" (fdG 86) .none "postkeep.store" 797 630), tuE, nfE, (tu [.str "store" 1056, .str "name" 1057, .str "found" 1058]), tuE, (io "subscribe_name" "subscribe_name" f87.1), b8n, b7A, tuE, nfE, (io "unsubscribe_name" "unsubscribe_name" f88.1), b7a, b7J, tuE, nfE, (tu [.str "value" 1071]), tuE, (io "is_letter_told" "is_letter_told" (fdG 89)), (cN "is_letter_told" 1068 462 1 644 0 646 647 648 1072), (fo "is_letter_told" "is_letter_told" (fdG 89) .none "postkeep.store" 797 649), tuE, nfE, (io "is_box_told" "is_box_told" (fdG 90)), (cN "is_box_told" 1075 466 1 651 0 0 0 653 1078), (fo "is_box_told" "is_box_told" (fdG 90) .none "postkeep.store" 797 654), tuE, nfE, (tu [.str "box" 1084, .str "next_validity" 1085, .str "letter" 1086]), tuE, (io "need_sound" "need_sound" (fdG 91)), (cN "need_sound" 1081 472 2 656 0 658 659 660 1087), (fo "need_sound" "need_sound" (fdG 91) .none "postkeep.store" 797 661), tuE, nfE, (io "restore" "restore" (fdG 92)), (cN "restore" 1090 480 4 663 0 0 0 665 1093), (fo "restore" "restore" (fdG 92) .none "postkeep.store" 797 666), tuE, nfE, (tu [.str "store" 1099, .str "row" 1100, .str "word" 1101]), tuE, (io "apply" "apply" f93.1), b7C, b6T, tuE, nfE, (io "_law_pen" "_law_pen" f95.1), b6P, b7K, tuE, nfE, (tu [.str "pen" 1116, .str "limit" 1117, .str "place" 1118, .str "digit" 1119]), tuE, (io "_law_draw" "_law_draw" f96.1), b8g, b6o, tuE, nfE, tuE, tuE, (io "_law_names" "_law_names" f97.1), b7r, b6w, tuE, nfE, tuE, tuE, (io "_law_odd" "_law_odd" f98.1), b7E, b8w, tuE, nfE, tuE, tuE, (io "_law_words" "_law_words" f99.1), b7f, b6Q, tuE, nfE, (tu [.str "pen" 1144, .str "way" 1145]), tuE, (io "_law_name" "_law_name" f100.1), b6g, b6L, tuE, nfE, (tu [.str "name" 1152, .str "parts" 1153]), tuE, (io "_law_normal" "_law_normal" f101.1), b7h, b7v, tuE, nfE, (tu [.str "name" 1160]), tuE, (io "_law_is_name" "_law_is_name" f102.1), b7w, b6q, tuE, nfE, (tu [.str "name" 1167, .str "found" 1168]), tuE, (io "_law_made" "_law_made" f103.1), b6I, b8u, tuE, nfE, (io "_law_below" "_law_below" f104.1), b6E, b7G, tuE, nfE, (tu [.str "state" 1181, .str "name" 1182, .str "found" 1183]), tuE, (io "_law_create" "_law_create" f105.1), b8l, b6G, tuE, nfE, (io "_law_rename" "_law_rename" f106.1), b6x, b6D, tuE, nfE, (io "_law_do" "_law_do" f107.1), b6Y, b8v, tuE, nfE, (tu [.str "store" 1202, .str "command" 1203, .str "code" 1204]), tuE, (io "_law_heard" "_law_heard" f108.1), b6J, b8k, tuE, nfE, (tu [.str "word" 1211]), tuE, (io "_law_states" "_law_states" f109.1), b7k, b6Z, tuE, nfE, (io "law" "law" f110.1), b6l, b7b]
noncomputable def h5 (P : Params) : Heap := hH P (b3U P) 87 (t1 P ++ (t2 P ++ (t3 P ++ (t4 P ++ (t5 P)))))
noncomputable def K (P : Params) : Frag := (nat_lit 2, b6t P) :: (nat_lit 3, b3U P) :: (nat_lit 15, o15) :: (nat_lit 22, o22) :: (nat_lit 28, o28) :: (nat_lit 29, o29) :: (nat_lit 38, o38 P) :: (nat_lit 39, o39) :: (nat_lit 43, o43) :: (nat_lit 51, o51 P) :: (nat_lit 52, o52) :: (nat_lit 55, o55) :: (nat_lit 63, o63 P) :: (nat_lit 64, o64) :: (nat_lit 82, o82) :: (nat_lit 83, o83) :: (nat_lit 89, o89) :: (nat_lit 90, o90) :: (nat_lit 96, o96) :: (nat_lit 97, o97) :: (nat_lit 103, b8p) :: (nat_lit 104, b8i) :: (nat_lit 110, b7V) :: (nat_lit 111, b8t) :: (nat_lit 117, b6z) :: (nat_lit 118, b7U) :: (nat_lit 124, b7i) :: (nat_lit 125, b8z) :: (nat_lit 138, b6r) :: (nat_lit 139, b6j) :: (nat_lit 148, b6H P) :: (nat_lit 149, b8y) :: (nat_lit 154, b4s) :: (nat_lit 157, b5m) :: (nat_lit 158, b7x) :: (nat_lit 164, b7W) :: (nat_lit 165, b6f) :: (nat_lit 171, b8x) :: (nat_lit 172, b7X) :: (nat_lit 178, b7o) :: (nat_lit 179, b7R) :: (nat_lit 185, b7n) :: (nat_lit 186, b8h) :: (nat_lit 192, b7F) :: (nat_lit 193, b7y) :: (nat_lit 199, b6X) :: (nat_lit 200, b6F) :: (nat_lit 236, b6u) :: (nat_lit 237, b6p) :: (nat_lit 243, b7B) :: (nat_lit 244, b7I) :: (nat_lit 253, b7O P) :: (nat_lit 254, b8q) :: (nat_lit 339, b7q) :: (nat_lit 340, b7T) :: (nat_lit 351, b6K) :: (nat_lit 352, b6S) :: (nat_lit 356, b8d) :: (nat_lit 357, b6d) :: (nat_lit 359, b7z P) :: (nat_lit 360, b7u) :: (nat_lit 406, b6m) :: (nat_lit 407, b6h) :: (nat_lit 411, b7t) :: (nat_lit 412, b7N) :: (nat_lit 416, b6V) :: (nat_lit 417, b7g) :: (nat_lit 460, b8m) :: (nat_lit 461, b7M) :: (nat_lit 467, b8f) :: (nat_lit 468, b8a) :: (nat_lit 474, b7H) :: (nat_lit 475, b8b) :: (nat_lit 481, b7l) :: (nat_lit 482, b7e) :: (nat_lit 486, b6n) :: (nat_lit 487, b7L) :: (nat_lit 489, b7P P) :: (nat_lit 490, b6k) :: (nat_lit 500, b6R) :: (nat_lit 501, b7m) :: (nat_lit 517, b8r) :: (nat_lit 518, b8j) :: (nat_lit 524, b7Z) :: (nat_lit 525, b7s) :: (nat_lit 531, b7c) :: (nat_lit 532, b7p) :: (nat_lit 538, b6W) :: (nat_lit 539, b8o) :: (nat_lit 552, b6i) :: (nat_lit 553, b6e) :: (nat_lit 559, b7j) :: (nat_lit 560, b8c) :: (nat_lit 571, b6y) :: (nat_lit 572, b7d) :: (nat_lit 578, b6A) :: (nat_lit 579, b8e) :: (nat_lit 585, b6B) :: (nat_lit 586, b8A) :: (nat_lit 590, b6M) :: (nat_lit 591, b8s) :: (nat_lit 597, b6s) :: (nat_lit 598, b7Q) :: (nat_lit 637, b8n) :: (nat_lit 638, b7A) :: (nat_lit 642, b7a) :: (nat_lit 643, b7J) :: (nat_lit 673, b7C) :: (nat_lit 674, b6T) :: (nat_lit 678, b6P) :: (nat_lit 679, b7K) :: (nat_lit 685, b8g) :: (nat_lit 686, b6o) :: (nat_lit 692, b7r) :: (nat_lit 693, b6w) :: (nat_lit 699, b7E) :: (nat_lit 700, b8w) :: (nat_lit 706, b7f) :: (nat_lit 707, b6Q) :: (nat_lit 713, b6g) :: (nat_lit 714, b6L) :: (nat_lit 720, b7h) :: (nat_lit 721, b7v) :: (nat_lit 727, b7w) :: (nat_lit 728, b6q) :: (nat_lit 734, b6I) :: (nat_lit 735, b8u) :: (nat_lit 739, b6E) :: (nat_lit 740, b7G) :: (nat_lit 746, b8l) :: (nat_lit 747, b6G) :: (nat_lit 751, b6x) :: (nat_lit 752, b6D) :: (nat_lit 756, b6Y) :: (nat_lit 757, b8v) :: (nat_lit 763, b6J) :: (nat_lit 764, b8k) :: (nat_lit 770, b7k) :: (nat_lit 771, b6Z) :: (nat_lit 775, b6l) :: (nat_lit 776, b7b) :: []
end
noncomputable section
noncomputable def a9N : Env := { scope := b9J.main.scope, locals := mainNs, globals := mainNs, cells := [], code := .ref 13, frame := some 14 }
noncomputable def bE : List Stmt := behindTheImports b9J
noncomputable def cE : Code := .body bE a9N
noncomputable def p0 : Pos := ⟨0, 0, 0, 0⟩
noncomputable abbrev s0 (w : World) (os : OsState) : Shared := ⟨h0 w.params, #[], {}, 187, os⟩
noncomputable abbrev qq0 : Pos := ⟨0, 0, 0, 0⟩
noncomputable abbrev s1 (w : World) (os : OsState) : Shared := ⟨h1 w.params, #[], {}, 341, os⟩
noncomputable abbrev qq1 : Pos := ⟨57, 0, 57, 8⟩
noncomputable abbrev s2 (w : World) (os : OsState) : Shared := ⟨h2 w.params, #[], {}, 543, os⟩
noncomputable abbrev qq2 : Pos := ⟨128, 0, 128, 6⟩
noncomputable abbrev s3 (w : World) (os : OsState) : Shared := ⟨h3 w.params, #[], {}, 736, os⟩
noncomputable abbrev qq3 : Pos := ⟨215, 0, 224, 15⟩
noncomputable abbrev s4 (w : World) (os : OsState) : Shared := ⟨h4 w.params, #[], {}, 947, os⟩
noncomputable abbrev qq4 : Pos := ⟨373, 0, 375, 52⟩
noncomputable abbrev s5 (w : World) (os : OsState) : Shared := ⟨h5 w.params, #[], {}, 1221, os⟩
noncomputable abbrev qq5 : Pos := ⟨633, 0, 657, 15⟩
noncomputable def hv (l : List Obj) : Bool → List Obj := @List.rec Obj (fun _ => Bool → List Obj) (fun _ => []) (fun x _ ih b => @Bool.rec (fun _ => List Obj) (ih true) (x :: ih false) b) l
noncomputable def bt (n : Nat) : List Obj → BT := @Nat.rec (fun _ => List Obj → BT) (fun _ => .nil) (fun _ ih l => @List.rec Obj (fun _ => BT) .nil (fun x xs _ => .node x (ih (hv xs true)) (ih (hv xs false))) l) n
noncomputable abbrev z0 (w : World) (os : OsState) : SharedT := ⟨bt 12 (h0 w.params).objs.toList, (h0 w.params).objs.size, {}, #[], {}, 187, os⟩
noncomputable abbrev z1 (w : World) (os : OsState) : SharedT := ⟨bt 12 (h1 w.params).objs.toList, (h1 w.params).objs.size, {}, #[], {}, 341, os⟩
noncomputable abbrev z2 (w : World) (os : OsState) : SharedT := ⟨bt 12 (h2 w.params).objs.toList, (h2 w.params).objs.size, {}, #[], {}, 543, os⟩
noncomputable abbrev z3 (w : World) (os : OsState) : SharedT := ⟨bt 12 (h3 w.params).objs.toList, (h3 w.params).objs.size, {}, #[], {}, 736, os⟩
noncomputable abbrev z4 (w : World) (os : OsState) : SharedT := ⟨bt 12 (h4 w.params).objs.toList, (h4 w.params).objs.size, {}, #[], {}, 947, os⟩
noncomputable abbrev z5 (w : World) (os : OsState) : SharedT := ⟨bt 12 (h5 w.params).objs.toList, (h5 w.params).objs.size, {}, #[], {}, 1221, os⟩
theorem b5d : ∀ (w : World) (os : OsState), topGo treeTable b9J w 11 (some (.ref 6)) 12 ⟨c1i w.params, #[], boot_drawn, boot_toks, os⟩ (topStub b9J) = some (s0 w os, ⟨denote treeTable cE, cE, qq0, [topFrame p0]⟩) := by
 intro w os
 rw [show @treeTable = _ from c1j]
 kernel_rfl
theorem b1w : ∀ (w : World) (os : OsState), segRun treeTable b9J w 11 (some (.ref 6)) 1 1 (s0 w os) (blockOf bE a9N cE qq0 [topFrame p0]) = some (.next, s0 w os, cE, qq0) := by
 intro w os
 rw [show @treeTable = _ from c1j, show @segRun = _ from PySem.W.Fast.te14374325043358763698]
 kernel_rfl
theorem r0 : ∀ (w : World) (os : OsState), segRunT treeTable b9J w 11 (some (.ref 6)) 1 1020 (z0 w os) (piecesOf ((bE.drop 0).take 19) a9N cE qq0 [topFrame p0]) = some (.next, z1 w os, cE, qq1) := by
 intro w os
 rw [show @treeTable = _ from c1j, show @segRunT = _ from c2k]
 kernel_rfl
theorem r1 : ∀ (w : World) (os : OsState), segRunT treeTable b9J w 11 (some (.ref 6)) 1 1089 (z1 w os) (piecesOf ((bE.drop 19).take 18) a9N cE qq1 [topFrame p0]) = some (.next, z2 w os, cE, qq2) := by
 intro w os
 rw [show @treeTable = _ from c1j, show @segRunT = _ from c2k]
 kernel_rfl
theorem r2 : ∀ (w : World) (os : OsState), segRunT treeTable b9J w 11 (some (.ref 6)) 1 906 (z2 w os) (piecesOf ((bE.drop 37).take 13) a9N cE qq2 [topFrame p0]) = some (.next, z3 w os, cE, qq3) := by
 intro w os
 rw [show @treeTable = _ from c1j, show @segRunT = _ from c2k]
 kernel_rfl
theorem r3 : ∀ (w : World) (os : OsState), segRunT treeTable b9J w 11 (some (.ref 6)) 1 942 (z3 w os) (piecesOf ((bE.drop 50).take 26) a9N cE qq3 [topFrame p0]) = some (.next, z4 w os, cE, qq4) := by
 intro w os
 rw [show @treeTable = _ from c1j, show @segRunT = _ from c2k]
 kernel_rfl
theorem r4 : ∀ (w : World) (os : OsState), segRunT treeTable b9J w 11 (some (.ref 6)) 1 1008 (z4 w os) (piecesOf ((bE.drop 76).take 35) a9N cE qq4 [topFrame p0]) = some (.next, z5 w os, cE, qq5) := by
 intro w os
 rw [show @treeTable = _ from c1j, show @segRunT = _ from c2k]
 kernel_rfl
theorem ab0 : ∀ (w : World) (os : OsState), (z0 w os).abs = s0 w os := by
 intro w os
 kernel_rfl
theorem ab5 : ∀ (w : World) (os : OsState), (z5 w os).abs = s5 w os := by
 intro w os
 kernel_rfl
noncomputable def GT (w : World) (a : Addr) : Option Obj := match Nat.blt a 777 with
 | true => alive (((bt 12 (h5 w.params).objs.toList).get a).getD default)
 | false => none
theorem a9T (t : BT) (n : Nat) (life : Life) (a : Addr) : (absHeap t n life).get? a = match Nat.blt a n with | true => alive ((t.get a).getD default) | false => none := by
 unfold Heap.get?
 rw [absHeap_at]
 cases e : Nat.blt a n with
 | true =>
  have e' : a < n := c1V e
  rw [if_pos e']
  generalize (t.get a).getD default = o
  obtain ⟨c, d, dt, sl⟩ := o
  cases dt <;> rfl
 | false =>
  have e' : ¬ a < n := fun q => by rw [show Nat.blt a n = true from Nat.ble_eq_true_of_le q] at e; cases e
  rw [if_neg e']
theorem b4c (w : World) (os : OsState) : (h5 w.params).get? = GT w := by
 rw [show h5 w.params = (s5 w os).heap from rfl, ← ab5 w os]
 funext a
 refine (a9T _ _ _ a).trans ?_
 rw [show (z5 w os).n = 777 by kernel_rfl]
 rfl
noncomputable def a0H : List b9p := ["PostError", "WITH_USER", "code_of", "Section", "Command", "store_flags"]
noncomputable def asK : List Nat := [2, 3, 15, 22, 28, 29, 38, 39, 43, 51, 52, 55, 63, 64, 82, 83, 89, 90, 96, 97, 103, 104, 110, 111, 117, 118, 124, 125, 138, 139, 148, 149, 154, 157, 158, 164, 165, 171, 172, 178, 179, 185, 186, 192, 193, 199, 200, 236, 237, 243, 244, 253, 254, 339, 340, 351, 352, 356, 357, 359, 360, 406, 407, 411, 412, 416, 417, 460, 461, 467, 468, 474, 475, 481, 482, 486, 487, 489, 490, 500, 501, 517, 518, 524, 525, 531, 532, 538, 539, 552, 553, 559, 560, 571, 572, 578, 579, 585, 586, 590, 591, 597, 598, 637, 638, 642, 643, 673, 674, 678, 679, 685, 686, 692, 693, 699, 700, 706, 707, 713, 714, 720, 721, 727, 728, 734, 735, 739, 740, 746, 747, 751, 752, 756, 757, 763, 764, 770, 771, 775, 776]
theorem b3z (P : Params) : asK = (K P).map (·.1) := by kernel_rfl
noncomputable abbrev Hk : Hook := kHook K asK b3z
noncomputable abbrev Xt0 : Shared → Bool := fun s => xlAt b9J [] s && recOk (RowW.records b9u.row.toRowW) s
theorem b4x : ∀ (w : World) (os : OsState), topRun treeTable b9J w 11 (some (.ref 6)) 2 (s5 w os) ⟨doneF .next, cE, qq5, [topFrame p0]⟩ = some (s5 w os) := by
 intro w os
 rw [show @treeTable = _ from c1j, show @topRun = _ from PySem.W.Fast.te14082659384304107361]
 kernel_rfl
theorem a9I : ∀ (w : World) (os : OsState), (staticsOk (importedModules b9J.main.body) (c1i w.params) (s5 w os).heap && namesBound b9J (s5 w os).heap && gensDone (s5 w os) && laidKept (c1i w.params) (s5 w os).heap) = true := by
 intro w os
 rw [show @importedModules = _ from c3s]
 kernel_rfl
theorem b4X : ∀ (w : World) (os : OsState), Hook.obs Hk (s5 w os) = Hook.val Hk w := by
 intro w os
 show asK.map (h5 w.params).get? = _
 rw [b4c w os]
 kernel_rfl
end
noncomputable abbrev pp := b9J
noncomputable def rcS : Stmt → List DefRec
 | .FunctionDef n a b _ _ _ sc _ _ pos => [⟨n, a, b, sc, pos⟩]
 | _ => []
noncomputable def RL : List DefRec := (pp.main.body.take 24 ++ ((pp.main.body.drop 25).take 32 ++ pp.main.body.drop 58)).flatMap rcS
noncomputable def DL : List DefRec := ((pp.main.body.drop 24).take 1 ++ (pp.main.body.drop 57).take 1).flatMap rcS
noncomputable def WL : List (b9p × WData) := [("EVERYWHERE", .tuple [.str "CAPABILITY", .str "NOOP", .str "LOGOUT", .str "ID"]), ("NAME_DEEDS", .tuple [.str "CREATE", .str "DELETE", .str "RENAME", .str "SUBSCRIBE", .str "UNSUBSCRIBE"])]
noncomputable def LL : List b9p := ["PostError", "WITH_USER", "code_of", "Section", "Command", "store_flags", "code_of", "store_flags", "EVERYWHERE", "NAME_DEEDS", "code_of", "store_flags"]
noncomputable section
noncomputable def nsG (F : Array DictEntry → b9p → Option Value) (g : Addr → Option Obj) (a : Addr) (x : b9p) : Option Value := match g a with
 | some o => (match o.data with | .dict es _ => F es x | _ => none)
 | none => none
noncomputable def fnG (F : Array DictEntry → b9p → Option Value) (g : Addr → Option Obj) (ns : Addr) (x : b9p) : Option (Addr × Obj × FuncData) := match nsG F g ns x with
 | some (.ref a) => (match g a with
  | some o => (match o.data with | .func fd => some (a, o, fd) | _ => none)
  | none => none)
 | _ => none
noncomputable def crG (E : b9p → b9p → Bool) (g : Addr → Option Obj) (cd : Value) (q : b9p) : Bool := match cd with
 | .ref c => (match g c with
  | some o => (match o.data with
   | .fields vs => (match (vs[1]? : Option Value) with | some (c0E n _) => E n q | _ => false)
   | _ => false)
  | none => false)
 | _ => false
noncomputable def shG (E : b9p → b9p → Bool) (F : Array DictEntry → b9p → Option Value) (g : Addr → Option Obj) (ns : Addr) (x : b9p) : Option FnShape :=
 (fnG F g ns x).map fun x => ⟨x.2.2.name, x.2.2.qualname, x.2.2.params, x.2.2.body, x.2.2.scope, x.2.2.globals, x.2.2.closure, x.2.2.defaults, x.2.2.kwdefaults, x.2.2.annotations, x.2.2.closureTuple, x.2.2.builtins, crG E g x.2.2.code x.2.2.qualname⟩
noncomputable def t0G (E : b9p → b9p → Bool) (F : Array DictEntry → b9p → Option Value) (g : Addr → Option Obj) (x : b9p) : Bool := match fnG F g mainGlobals x with
 | some (_, _, fd) => (match fd.code with
  | .ref c => (match g c with
   | some ⟨.type n, _, .fields vs, _⟩ =>
    if n == "code" then
     match (vs[11]? : Option Value), (vs[18]? : Option Value), (vs[7]? : Option Value), (vs[9]? : Option Value), (vs[10]? : Option Value) with
     | some (.ref P), some (.str _ _), some (.int _ _), some (.bool _), some (.int _ _) =>
      (match g P with
      | some ⟨.none, none, .fields ps, sl⟩ => if ps.size == 0 && sl.size == 0 && c != P then some P else none
      | _ => none)
     | _, _, _, _, _ => none
    else none
   | _ => none : Option Addr).isSome
  | _ => false)
 | none => false
theorem b2X (h : Heap) (ns : Addr) (x : b9p) : h.shapeAt ns x = shG (· == ·) nsFind h.get? ns x := rfl
theorem b3h (h : Heap) (x : b9p) : h.tab0Ok x = t0G (· == ·) nsFind h.get? x := by
 unfold Heap.tab0Ok t0G Heap.tab0At; rfl
theorem eqS : (fun a b : b9p => a == b) = Fast.sEq := by
 funext a b
 exact c1b.mpr (beq_iff_eq.trans Fast.sEq_iff.symm)
noncomputable def ksQ (n : b9p) : Value → Bool
 | .str s _ => Fast.sEq s n
 | _ => false
noncomputable def nsL (es : Array DictEntry) (x : b9p) : Option Value := (es.toList.find? fun e => ksQ x e.key).map (·.val)
theorem b1n : @nsFind = nsL := by
 funext es x
 obtain ⟨l⟩ := es
 unfold nsFind findBy nsL
 rw [List.find?_toArray]
 refine congrArg (Option.map (·.val)) (congrArg (List.find? · l) (funext fun e => ?_))
 unfold Value.isStr ksQ
 cases e.key <;> first | rfl | exact c1b.mpr (beq_iff_eq.trans Fast.sEq_iff.symm)
end
theorem a4m : recsOf pp = RL := by
 rw [show @recsOf = _ from PySem.W.Fast.te3399658132070893891]
 kernel_rfl
theorem a6K : drecsOf pp = DL.map (·, [.none]) := by
 rw [show @drecsOf = _ from PySem.W.Fast.te3247288618530077131]
 kernel_rfl
theorem a6m : wdefsOf pp = DL.map (·, []) := by
 rw [show @wdefsOf = _ from PySem.W.Fast.te694669760492028198]
 kernel_rfl
theorem a6y : wlitsOf pp = WL := by
 rw [show @wlitsOf = _ from PySem.W.Fast.te11925523677476243305]
 kernel_rfl
theorem a6n : looseW pp a0H = LL := by
 unfold looseW looseD heldW
 rw [a6m, a6y, a6K]
 rw [show @dclssOf = _ from c3I, show @wclssOf = _ from c3J, show @importedNames = _ from PySem.W.Fast.te12879404354523853263]
 kernel_rfl
theorem b2a : ∀ (w : World) (os : OsState), (RL.map (·.name)).map ((s5 w os).heap.shapeAt mainGlobals) = RL.map fun d => some d.shape := by
 intro w os
 rw [show (s5 w os).heap.shapeAt mainGlobals = fun x => shG (· == ·) nsFind (h5 w.params).get? mainGlobals x from funext fun x => b2X _ _ x, b4c w os, eqS, b1n]
 kernel_rfl
theorem b3x : ∀ (w : World) (os : OsState), seen ((recsOf pp).map (·.name)) (ownsOf pp) [] { s5 w os with gens := #[] } = expectedOf pp := by
 intro w os
 have a := b2a w os
 unfold seen expectedOf
 rw [a4m]
 refine Seen.mk.injEq .. ▸ ⟨a, ?_, rfl, ?_, ?_, ?_, rfl⟩
 ·rw [show @ownsOf = _ from PySem.W.Fast.te5991557255702980513, show @Heap.ownExcOk = _ from PySem.W.Fast.te2817317335113233408, show @Heap.quietOk = _ from PySem.W.Fast.te16017708745293785899]
  kernel_rfl
 ·kernel_rfl
 ·kernel_rfl
 ·rw [show @Heap.noLimitOk = _ from PySem.W.Fast.te15623941606353435126, show @Heap.noDigitsOk = _ from PySem.W.Fast.te912232860611745870]
  kernel_rfl
theorem b5l : ∀ (w : World) (os : OsState), (s5 w os).heap.bltView = bltViewBooted := by
 intro w os
 kernel_rfl
theorem b2J : ∀ (w : World) (os : OsState), (s5 w os).heap.keysOk (looseW pp a0H) ((recsOf pp).map (·.name)) ((litsOf pp).map (·.1)) ((clssOf pp (looseW pp a0H)).map (·.name)) = true := by
 intro w os
 rw [a6n, a4m]
 rw [show @Heap.keysOk = _ from PySem.W.Fast.te10880121769531294198, show @litsOf = _ from PySem.W.Fast.te7409074990110511671, show @clssOf = _ from PySem.W.Fast.te13664370479719496447]
 kernel_rfl
theorem b4P : ∀ (w : World) (os : OsState), ((s5 w os).heap.accountedOkI (importedModules pp.main.body) && (s5 w os).heap.isNs mainGlobals && (s5 w os).heap.isNs builtinsNs) = true := by
 intro w os
 rw [show @Heap.accountedOkI = _ from PySem.W.Fast.te14722251495701143533, show @importedModules = _ from c3s]
 kernel_rfl
theorem b0v : ∀ (w : World) (os : OsState), tablesOk pp (s5 w os).heap = true := by
 intro w os
 rw [show @tablesOk = _ from PySem.W.Fast.te10994771534591457954]
 kernel_rfl
theorem b8J : ∀ (w : World) (os : OsState), Xt0 (s5 w os) = true := by
 intro w os
 kernel_rfl
theorem b5J : ∀ (w : World) (os : OsState), (RL.all fun d => (s5 w os).heap.tab0Ok d.name) = true := by
 intro w os
 rw [show (s5 w os).heap.tab0Ok = fun x => t0G (· == ·) nsFind (h5 w.params).get? x from funext fun x => b3h _ x, b4c w os, eqS, b1n]
 kernel_rfl
theorem b2N : ∀ (w : World) (os : OsState), tabsOk pp (s5 w os) = true := by
 intro w os
 unfold tabsOk
 rw [a4m, b5J w os]
 rw [show @Heap.bmainOk = _ from PySem.W.Fast.te5244371056499926238, show @valsOk = _ from PySem.W.Fast.te2578726214315757710, show @importsNone = _ from PySem.W.Fast.te2458874890965802552, show @Heap.noSeerOk = _ from PySem.W.Fast.te9649274521512697073]
 kernel_rfl
theorem b5R : ∀ (w : World) (os : OsState), pinSeenD pp (drecsOf pp) (s5 w os) = pinGoodD (drecsOf pp) := by
 intro w os
 rw [a6K]
 rw [show @pinSeenD = _ from PySem.W.Fast.te16090120013241838585]
 kernel_rfl
theorem a9Q : ∀ (w : World) (os : OsState), plainSeenE pp (looseW pp a0H) (s5 w os) = plainGoodE pp (looseW pp a0H) := by
 intro w os
 unfold plainSeenE plainGoodE
 rw [a6n]
 rw [show @Heap.plainShapeAt = _ from PySem.W.Fast.te15717526521509864196, show @ClsRec.withCmp = _ from PySem.W.Fast.te12515865711710729776, show @plainsOf = _ from PySem.W.Fast.te210736558901404530]
 kernel_rfl
theorem b0W : ∀ (w : World) (os : OsState), plainSeenD pp a0H (s5 w os) = plainGoodD pp a0H := by
 intro w os
 unfold plainSeenD plainGoodD
 rw [show @Heap.plainShapeAtD = _ from c3K, show @dclssOf = _ from c3I]
 kernel_rfl
theorem b3v : ∀ (w : World) (os : OsState), wideSeen pp (s5 w os) = wideGood pp := by
 intro w os
 unfold wideSeen wideGood
 rw [a6m, a6y]
 rw [show @shapeAtK = _ from PySem.W.Fast.te17916874912237369181, show @Heap.restOk = _ from PySem.W.Fast.te18429517753735259766, show @Program.nameAt = _ from PySem.W.Fast.te172715102188844465, show @dfltAt = _ from PySem.W.Fast.te18415734462268123781, show @constAt = _ from PySem.W.Fast.te1696807537771891022]
 kernel_rfl
theorem b5x : ∀ (w : World) (os : OsState), clsSeenW pp a0H (s5 w os) = clsGoodW pp a0H := by
 intro w os
 unfold clsSeenW clsGoodW
 rw [show @wclsSeen = _ from PySem.W.Fast.te18187449340191768954, show @Heap.plainShapeAtD = _ from c3K, show @wclssOf = _ from c3J]
 kernel_rfl
theorem b0a : bE = (bE.drop 0).take 19 ++ ((bE.drop 19).take 18 ++ ((bE.drop 37).take 13 ++ ((bE.drop 50).take 26 ++ ((bE.drop 76).take 35 ++ [])))) := by kernel_rfl
noncomputable abbrev M0 : Nat := 12 + (1 + (1020 + (1089 + (906 + (942 + (1008 + 2))))))
theorem b8Q (w : World) (os : OsState) : topRun treeTable b9J w 11 (some (.ref 6)) M0 ⟨c1i w.params, #[], boot_drawn, boot_toks, os⟩ (topStub b9J) = some (s5 w os) := by
 refine go_top (b5d w os) (piece_block (b1w w os) ?_)
 rw [show restOf bE a9N cE qq0 [topFrame p0] = restOf ((bE.drop 0).take 19 ++ ((bE.drop 19).take 18 ++ ((bE.drop 37).take 13 ++ ((bE.drop 50).take 26 ++ ((bE.drop 76).take 35 ++ []))))) a9N cE qq0 [topFrame p0] from congrArg (restOf · a9N cE qq0 [topFrame p0]) b0a]
 rw [← ab0 w os]
 exact piece_app (segRun_of (r0 w os)) (piece_app (segRun_of (r1 w os)) (piece_app (segRun_of (r2 w os)) (piece_app (segRun_of (r3 w os)) (piece_app (segRun_of (r4 w os)) ((ab5 w os).symm ▸ b4x w os)))))
theorem b8W (w : World) (os : OsState) : ((s5 w os).heap.keysOk (looseW b9J a0H) ((recsOf b9J).map (·.name)) ((litsOf b9J).map (·.1)) ((clssOf b9J (looseW b9J a0H)).map (·.name)) &&
   (s5 w os).heap.accountedOkI (importedModules b9J.main.body) && (s5 w os).heap.isNs mainGlobals && (s5 w os).heap.isNs builtinsNs && tablesOk b9J (s5 w os).heap && Xt0 (s5 w os) && (if true = true then (s5 w os).gens.size == 0 else !leftWithCleanup (s5 w os).gens)) = true := by
 have a := b4P w os
 simp only [c0h] at a
 rw [b2J w os, a.1.1, a.1.2, a.2, b0v w os, b8J w os]
 rfl
theorem b4q (w : World) (os : OsState) : openSeen b9J a0H (importedModules b9J.main.body) Xt0 true (s5 w os) = openGood b9J a0H := by
 unfold openSeen openGood
 exact c0U (b3x w os) (c0U (b5l w os) (c0U (b8W w os) (c0U (b2N w os) (c0U (b5R w os) (c0U (a9Q w os) (c0U (b0W w os) (c0U (b3v w os) (b5x w os))))))))
theorem b3P : ∀ w : World, ((c1i w.params).isNs mainGlobals && (#[] : Array GenState).size == 0, (c1i w.params).objs.size, (c1i w.params).nsMap mainGlobals "__annotations__") = (true, 11, some (.ref 6)) := by
 intro w
 kernel_rfl
theorem b1u : opening b9J = plainProg b9J.main.scope.names := by kernel_rfl
theorem a9V : ∀ s, fenceModules? b9J s = some s := by intro s; kernel_rfl
theorem b5G : LeftO b9J b9J a0H Xt0 (Hook.obs Hk) (Hook.val Hk) 12000 :=
 LeftO.of_pieces (H₀ := c1i) (H₁ := h5) (gs₀ := #[]) (gs₁ := #[]) (d₀ := boot_drawn) (d₁ := {}) (k₀ := boot_toks) (k₁ := 1221) (m₀ := 11) (ann := some (.ref 6)) (M := M0)
  (boot_open b1u rfl a9V) b3P b8Q rfl (fun w => funext fun os => c0U (a9I w os) (c0U (b4q w os) (b4X w os)))
noncomputable abbrev lawRec : DefRec := ⟨"law", f110.1.1, f110.1.2.1, f110.1.2.2, ⟨633, 0, 657, 15⟩⟩
theorem la : RL.find? (fun e => e.name == ("law" : b9p)) = some lawRec := by
 rw [show @instDecidableEqStr = _ from Fast.sDec_eq]
 kernel_rfl
theorem lb : pp.theDef "law" = some (lawRec.params, lawRec.body, lawRec.scope) := by
 rw [show @Program.theDef = _ from PySem.W.Fast.te10235530238920679567]
 kernel_rfl
theorem b0X {p : Program} {n : b9p} {d : DefRec} {R : List DefRec} (e : recsOf p = R) (h : R.find? (fun e => e.name == n) = some d) (hd : d.params.defaults.isEmpty = true) : defOf p n = some (d, []) ∧ (recsOf p).find? (fun e => e.name == n) = some d := by
 subst e
 refine ⟨?_, h⟩
 unfold defOf
 rw [h]
 exact if_pos hd
theorem a5V : defOf b9J b9u.name = some (lawRec, []) ∧ (b9u.row.toRowW.prog.theDef b9u.name = some (lawRec.params, lawRec.body, lawRec.scope)) ∧ (recsOf b9J).find? (fun e => e.name == lawRec.name) = some lawRec := 
 have z := b0X a4m la (by kernel_rfl)
 ⟨z.1, lb, z.2⟩
noncomputable abbrev b3n : Prop := WalkO b9J a0H (XL b9J []) (Hook.says Hk) b9u.row.toRowW lawRec [] fun f vs => PySem.call f vs
theorem b5A : b9u.row.toRowW.promised := by w_witness2
theorem b4B : namesResolve pp = true := by
 rw [show @namesResolve = _ from PySem.W.Fast.te8377067652309620493]
 kernel_rfl
theorem b5y : (["vars", "dir", "locals"] : List b9p).filter (readsOut pp pp.main.body) = [] := by
 rw [show @readsOut = _ from PySem.W.Fast.te13343964577679436407]
 kernel_rfl
theorem b5p : noRoadLSs { strict := !(importedModules pp.main.body).all cThrough.contains, foot := none, bare := [] } pp.main.body = true := by
 rw [show @noRoadLSs = _ from c3L, show @importedModules = _ from c3s]
 kernel_rfl
theorem b4k : (namesMeet pp pp.main.body fun _ n => attrL n) = true := by
 rw [show @namesMeet = _ from c3M]
 kernel_rfl
theorem b5H : looksOpen pp = true := by
 unfold looksOpen
 rw [b4B, b5y, b5p, b4k]
 kernel_rfl
theorem b9e : b9u.wellSaid = true := by
 unfold OpenLaw.wellSaid OpenRow.wellSaid OpenRow.partSaid
 rw [show looksOpen b9u.row.prog = true from b5H, show @noRoadLSs = _ from c3L, show @namesMeet = _ from c3M, show @noClassBlock = _ from PySem.W.Fast.te8179353310426384613, show @OpenLaw.reads = _ from PySem.W.Fast.te6984425678791042302, show @OpenLaw.bound' = _ from PySem.W.Fast.te797321630700447069, show @OpenLaw.namesIt = _ from PySem.W.Fast.te16286561074155671207, show @builtinNamed = _ from Fast.named_eq]
 kernel_rfl
theorem b3a : TablesWhole.wModule TablesWhole.holds pp.main = true := by
 rw [show TablesWhole.holds = (⟨fun sc n _ => sc.bears n, fun _ _ _ ok => ok, fun _ => true, true, false, fun a b => a && b⟩ : TablesWhole.Alg Bool) from rfl, show @TablesWhole.wModule = _ from PySem.W.Fast.te6116379765354995101, show @Scope.bears = _ from PySem.W.Fast.te15985051520779696433]
 kernel_rfl
theorem a8x : pp.tablesWhole = true := by
 unfold Program.tablesWhole TablesWhole.wProgram
 rw [b3a]
 kernel_rfl
theorem head (walk : b3n) : b9u.Holds := by
 refine holds_law b9e fun said' => ?_
 refine holds_open (q := b9J) (loose := a0H) (Xt := Xt0) (XP := XL b9J []) (Yf := Hook.obs Hk) (Ya := Hook.val Hk) (YP := Hook.says Hk) (N := 12000) b5G (Hook.of Hk) (Hook.keeps Hk)
  (fun s e => xl_of s (Bool.and_eq_true_iff.mp e).1) XL.keeps a5V.1 a5V.2.1 (by rfl) (fun s e => recFacts_of (Bool.and_eq_true_iff.mp e).2) (by rfl) said' (by decide +kernel) ⟨rfl, rfl, rfl, rfl, rfl, a8x⟩ b5A walk

noncomputable abbrev Led := List (Addr × Obj)
structure Gl where
 p : Program
 loose : List b9p
 mean : ExcName → Option Value
 mg : b9p → Option Value
 mb : b9p → Option Value
variable {G : Gl} {dp c un k k' i tk n nn n1 j m9 n9 : Nat} {M : Model} {a b p d : Addr × Obj} {w : World} {loose ss xs subs us : List b9p} {mean : ExcName → Option Value} {mg mb m m' m₀ m₁ : b9p → Option Value} {f cn g x y name old new z wd x₂ : b9p} {u t ux tw t9 : Tok} {vs ys ord : List Value} {R : Result → Shared → Prop} {hd v b' vt vn va vb vd : Option Value} {gd : Option (List Code)} {cs scope : Scope} {ccd tb cx cd : Value} {cl : List (b9p × Addr)} {outer : List Env} {A₀ A : Around} {base h₀ h h' : Heap} {L e it C D T I ax P SB SU ST S fa : Addr} {s s₁ : Shared} {Q E : Value → Shared → Prop} {α α1 α2 α3 α4 α5 α6 α7 α8 α9 α10 α11 α12 α13 : Type} {a1 a2 a3 a4 a5 a6 a7 : Prop} {env : Env} {es : Array (Int × Value)} {pos px : Pos} {dr : Drawn} {oe ox od o oI sd' ob' ob po co so bo uo oS oW : Obj} {items its : Array Value} {l kvs : List (b9p × Value)} {prog : Program} {elt ct value slice iter : Expr} {fp : List Addr} {body : List Stmt} {ds : List Dat} {nxt : Int} {bs ps : List (b9p × Int)} {ns : List Int} {news news' big rest post rest' tl : Led}
theorem b4H {M : Nat} (h : dp + c < M) : dp < M := c0a (c0y _ _) h
theorem a8R {a M : Nat} (h : dp + c < M) (k : a ≤ c) : dp + a < M := c0a (Nat.add_le_add_left k _) h
theorem b2e {a b M : Nat} (h : dp + c < M) (k : a + b ≤ c) : dp + a + b < M := by rw [c1k]; exact a8R h k
noncomputable abbrev a9r (hd : Option Value) (dp un : Nat) (gd : Option (List Code)) (cn : b9p) (cs : Scope) (L a : Addr) (ccd : Value) (cl : List (b9p × Addr)) (outer : List Env) : Around := { handled := hd, depth := dp, frames := some (envX cn cs L a ccd cl :: outer), guards := gd, units := un }
noncomputable def Fn (w : World) (G : Gl) (hd : Option Value) (f : Addr) (d u : Nat) (vs : List Value) (news : Led) (R : Value → Led → Prop) : Prop :=
 ∀ (dp un : Nat) (gd : Option (List Code)) (cn : b9p) (cs : Scope) (a : Addr) (ccd : Value) (cl : List (b9p × Addr)) (outer : List Env) (A₀ : Around) (base h₀ : Heap) (L : Addr) (m : b9p → Option Value) (s : Shared) (Q E : Value → Shared → Prop),
  Below A₀ base outer h₀ → Fr h₀ L s.heap m → (K w.params).In base → News h₀ L s.heap news → Top G.p G.loose G.mean G.mg G.mb base → cs.kind = .function → dp + d < recursionLimit → un + u < cLine →
  (∀ v news' h' tk', R v news' → Fr h₀ L h' m → News h₀ L h' news' → Q v { s with heap := h', toks := tk' }) →
  wpAny (model b9u.prog w) (a9r hd dp un gd cn cs L a ccd cl outer) (call (.ref f) vs) Q E s
theorem Fn.use {p : Program} {f : Addr} {d u : Nat} {R : Value → Led → Prop} {a : Addr} (C : Fn w ⟨p, loose, mean, mg, mb⟩ hd f d u vs news R) (B : Below A₀ base outer h₀) (F : Fr h₀ L s.heap m) (X : (K w.params).In base) (N : News h₀ L s.heap news) (T : Top p loose mean mg mb base) (hk : cs.kind = .function) (hdp : dp + d < recursionLimit) (hun : un + u < cLine) (h : ∀ (h' : Heap) (tk' : Nat) (C' : Value → Led → Prop), (C' = fun v n => Fr h₀ L h' m → News h₀ L h' n → Q v { s with heap := h', toks := tk' }) → ∀ v n, R v n → C' v n) :
  wpAny (model b9u.prog w) (a9r hd dp un gd cn cs L a ccd cl outer) (call (.ref f) vs) Q E s := C _ _ _ _ _ _ _ _ _ _ _ _ _ _ _ _ _ B F X N T hk hdp hun fun v n h' tk' r => h h' tk' _ rfl v n r
noncomputable abbrev a1f (vs : List Value) : Obj := { cls := .type "tuple", data := .seq vs.toArray }
noncomputable abbrev b8C (x : b9p) (news : Led) : Value → Led → Prop := fun v n => ∃ t, v = .str x t ∧ n = news
noncomputable abbrev b1Z (x : Bool) (news : Led) : Value → Led → Prop := fun v n => v = .bool x ∧ n = news
theorem a0y {P : α → Prop} (n : Nonempty α) (h : P (@b9T _ n fun x => ¬ P x)) : ∀ x, P x := fun x => c3N fun hx => (@c2l α (fun x => ¬ P x) ⟨x, hx⟩) h
theorem pa1 {a b : Prop} (h : a ∧ b) : a := h.1
theorem pa2 {a b c : Prop} (h : a ∧ b ∧ c) : b := h.2.1
theorem pa3 {a b c d : Prop} (h : a ∧ b ∧ c ∧ d) : c := h.2.2.1
theorem pa4 {a b c d e : Prop} (h : a ∧ b ∧ c ∧ d ∧ e) : d := h.2.2.2.1
theorem pa5 {a b c d e f : Prop} (h : a ∧ b ∧ c ∧ d ∧ e ∧ f) : e := h.2.2.2.2.1
theorem pa6 {a b c d e f g : Prop} (h : a ∧ b ∧ c ∧ d ∧ e ∧ f ∧ g) : f := h.2.2.2.2.2.1
theorem pa7 {a b c d e f g i : Prop} (h : a ∧ b ∧ c ∧ d ∧ e ∧ f ∧ g ∧ i) : g := h.2.2.2.2.2.2.1
theorem b3w {a b : Nat} (h : a < b) : a ≠ b + 1 := b9v (b9N h)
theorem b3p {a b : Nat} (h : a < b) : b + 1 ≠ a := b9F (b9N h)
noncomputable def b8L (a b c : Nat) : Prop := a - b < c
noncomputable def b8R (a b c : Nat) : Prop := a - b ≤ c
theorem b3r {a b : Nat} : (a - b < c) = b8L a b c := rfl
theorem b2Q {a b : Nat} : (a - b ≤ c) = b8R a b c := rfl
theorem a8y {a M : Nat} (h : a ≤ c) (e : c + k ≤ M) : a + k ≤ M := b9W (c3t h k) e
theorem b3Q {a b e M : Nat} (h : dp + c < M) (k : a + b + e ≤ c) : dp + a + b + e < M := by rw [c1k, c1k, ← c1k a]; exact a8R h k
theorem b4h {a : Nat} (h : a < 9900) : a < cLine := by rw [cLine_is]; exact h
theorem b2A {a M : Nat} (h : a ≤ c) (e : c + k < M) : a + k < M := c0a (c3t h k) e
theorem in6 {a b c d e f p : α} {l : List α} (h : p ∈ l) : p ∈ a :: b :: c :: d :: e :: f :: l := .tail _ (.tail _ (.tail _ (.tail _ (.tail _ (.tail _ h)))))
theorem a2a {P : α → Prop} {l m : List α} (h : ∀ p ∈ l, P p) (k : ∀ p ∈ m, P p) : ∀ p ∈ l ++ m, P p := fun p hp => (b9y.mp hp).elim (h p) (k p)
theorem a0e {P : α → Prop} {a : α} {m : List α} (h : P a) (k : ∀ p ∈ m, P p) : ∀ p ∈ a :: m, P p := List.forall_mem_cons.mpr ⟨h, k⟩
theorem a2e {P : α → Prop} : ∀ p ∈ ([] : List α), P p := fun _ h => nomatch h
theorem mt1 {a b : α} {l : List α} : b ∈ a :: b :: l := .tail _ (.head _)
theorem mt2 {a b c : α} {l : List α} : c ∈ a :: b :: c :: l := .tail _ mt1
theorem mt3 {a b c d : α} {l : List α} : d ∈ a :: b :: c :: d :: l := .tail _ mt2
theorem mt4 {a b c d e : α} {l : List α} : e ∈ a :: b :: c :: d :: e :: l := .tail _ mt3
theorem tl2 {a b p : α} {l : List α} (h : p ∈ l) : p ∈ a :: b :: l := .tail _ (.tail _ h)
theorem tl3 {a b c p : α} {l : List α} (h : p ∈ l) : p ∈ a :: b :: c :: l := .tail _ (tl2 h)
theorem tl4 {a b c d p : α} {l : List α} (h : p ∈ l) : p ∈ a :: b :: c :: d :: l := .tail _ (tl3 h)
theorem tl5 {a b c d e p : α} {l : List α} (h : p ∈ l) : p ∈ a :: b :: c :: d :: e :: l := .tail _ (tl4 h)
theorem tl6 {a b c d e f p : α} {l : List α} (h : p ∈ l) : p ∈ a :: b :: c :: d :: e :: f :: l := .tail _ (tl5 h)
theorem tl7 {a b c d e f g p : α} {l : List α} (h : p ∈ l) : p ∈ a :: b :: c :: d :: e :: f :: g :: l := .tail _ (tl6 h)
theorem tl8 {a b c d e f g i p : α} {l : List α} (h : p ∈ l) : p ∈ a :: b :: c :: d :: e :: f :: g :: i :: l := .tail _ (tl7 h)
theorem mt5 {a b c d e p : α} {l : List α} : p ∈ a :: b :: c :: d :: e :: p :: l := .tail _ mt4
theorem mt6 {a b c d e f p : α} {l : List α} : p ∈ a :: b :: c :: d :: e :: f :: p :: l := .tail _ mt5
theorem b9l {a n : Nat} [OfNat Nat n] (h : a < OfNat.ofNat n) : a < OfNat.ofNat n := h
theorem b5v {a b : Nat} (h : b < c) (k : a < b) : a < c := b9V k h
theorem b4G {a b : Nat} (h : a = b) (k : b ≤ c) : a ≤ c := b9W (c0o h) k
theorem b4f {a b : Nat} (h : a = b) (k : b < c) : a < c := c0a (c0o h) k
theorem b9h {m t M : Nat} (h : k ≤ m) (e : t * (m + c) ≤ M) : t * (k + c) ≤ M := b9W (Nat.mul_le_mul_left t (c3t h c)) e
theorem b3k {a b M : Nat} (e : a = b) (h : b ≤ c) (k : c ≤ M) : a ≤ M := e ▸ b9W h k
theorem a5S {P : α → Prop} (n : Nonempty α) (h : ∃ x, P x) : P (@b9T α n P) := @c2l α P h
noncomputable def pr1 {α β : Type} (t : α × β) : α := t.1
noncomputable def pr2 {α β : Type} (t : α × β) : β := t.2
noncomputable def a0b : Prop := True
noncomputable abbrev Chg (A G : Prop) := (A → G) → A → G
noncomputable def p1 {α β : Type} (t : α × β) : α := t.1
noncomputable def p2 {α β γ : Type} (t : α × β × γ) : β := t.2.1
noncomputable def p3 {α β γ δ : Type} (t : α × β × γ × δ) : γ := t.2.2.1
noncomputable def p4 {α β γ δ ε : Type} (t : α × β × γ × δ × ε) : δ := t.2.2.2.1
noncomputable def p5 {α β γ δ ε ζ : Type} (t : α × β × γ × δ × ε × ζ) : ε := t.2.2.2.2.1
noncomputable def p6 {α β γ δ ε ζ η : Type} (t : α × β × γ × δ × ε × ζ × η) : ζ := t.2.2.2.2.2.1
noncomputable def p7 {α β γ δ ε ζ η θ : Type} (t : α × β × γ × δ × ε × ζ × η × θ) : η := t.2.2.2.2.2.2.1
noncomputable def p8 {α β γ δ ε ζ η θ ι : Type} (t : α × β × γ × δ × ε × ζ × η × θ × ι) : θ := t.2.2.2.2.2.2.2.1
noncomputable def q1 {α β : Type} (t : α × β) : β := t.2
noncomputable def q2 {α β γ : Type} (t : α × β × γ) : γ := t.2.2
noncomputable def q3 {α β γ δ : Type} (t : α × β × γ × δ) : δ := t.2.2.2
noncomputable def q4 {α β γ δ ε : Type} (t : α × β × γ × δ × ε) : ε := t.2.2.2.2
noncomputable def q5 {α β γ δ ε ζ : Type} (t : α × β × γ × δ × ε × ζ) : ζ := t.2.2.2.2.2
noncomputable def q6 {α β γ δ ε ζ η : Type} (t : α × β × γ × δ × ε × ζ × η) : η := t.2.2.2.2.2.2
noncomputable def q7 {α β γ δ ε ζ η θ : Type} (t : α × β × γ × δ × ε × ζ × η × θ) : θ := t.2.2.2.2.2.2.2
noncomputable def q8 {α β γ δ ε ζ η θ ι : Type} (t : α × β × γ × δ × ε × ζ × η × θ × ι) : ι := t.2.2.2.2.2.2.2.2
noncomputable abbrev Hd1 {α1 : Type} (P : α1 → Prop) (x1 : α1) : Prop := P x1
noncomputable def Ha1 {α1 : Type} (P : α1 → Prop) : Prop := ∀ x1, Hd1 P x1
theorem Hd1.mk {α1 : Type} {P : α1 → Prop} {x1} (h : P x1) : Hd1 P x1 := h
noncomputable def en1 {α1 : Type} (ne : Nonempty (α1)) (P : α1 → Prop) : α1 := @b9T _ ne fun t => ¬ P t
theorem cl1 {P : α1 → Prop} (ne : Nonempty (α1)) (h : Hd1 P (en1 ne P)) : ∀ x1, P x1 := fun x1 => a0y (P := fun t : α1 => P t) ne h x1
noncomputable abbrev Hd2 {α1 α2 : Type} (P : α1 → α2 → Prop) (x1 : α1) (x2 : α2) : Prop := P x1 x2
noncomputable def Ha2 {α1 α2 : Type} (P : α1 → α2 → Prop) : Prop := ∀ x1 x2, Hd2 P x1 x2
theorem Hd2.mk {α1 α2 : Type} {P : α1 → α2 → Prop} {x1 x2} (h : P x1 x2) : Hd2 P x1 x2 := h
noncomputable def en2 {α1 α2 : Type} (ne : Nonempty (α1 × α2)) (P : α1 → α2 → Prop) : α1 × α2 := @b9T _ ne fun t => ¬ P (p1 t) (q1 t)
theorem cl2 {P : α1 → α2 → Prop} (ne : Nonempty (α1 × α2)) (h : Hd2 P (p1 (en2 ne P)) (q1 (en2 ne P))) : ∀ x1 x2, P x1 x2 := fun x1 x2 => a0y (P := fun t : α1 × α2 => P (p1 t) (q1 t)) ne h (x1, x2)
noncomputable abbrev Hd3 {α1 α2 α3 : Type} (P : α1 → α2 → α3 → Prop) (x1 : α1) (x2 : α2) (x3 : α3) : Prop := P x1 x2 x3
noncomputable def Ha3 {α1 α2 α3 : Type} (P : α1 → α2 → α3 → Prop) : Prop := ∀ x1 x2 x3, Hd3 P x1 x2 x3
theorem Hd3.mk {α1 α2 α3 : Type} {P : α1 → α2 → α3 → Prop} {x1 x2 x3} (h : P x1 x2 x3) : Hd3 P x1 x2 x3 := h
noncomputable def en3 {α1 α2 α3 : Type} (ne : Nonempty (α1 × α2 × α3)) (P : α1 → α2 → α3 → Prop) : α1 × α2 × α3 := @b9T _ ne fun t => ¬ P (p1 t) (p2 t) (q2 t)
theorem cl3 {P : α1 → α2 → α3 → Prop} (ne : Nonempty (α1 × α2 × α3)) (h : Hd3 P (p1 (en3 ne P)) (p2 (en3 ne P)) (q2 (en3 ne P))) : ∀ x1 x2 x3, P x1 x2 x3 := fun x1 x2 x3 => a0y (P := fun t : α1 × α2 × α3 => P (p1 t) (p2 t) (q2 t)) ne h (x1, x2, x3)
noncomputable abbrev Hd4 {α1 α2 α3 α4 : Type} (P : α1 → α2 → α3 → α4 → Prop) (x1 : α1) (x2 : α2) (x3 : α3) (x4 : α4) : Prop := P x1 x2 x3 x4
noncomputable def Ha4 {α1 α2 α3 α4 : Type} (P : α1 → α2 → α3 → α4 → Prop) : Prop := ∀ x1 x2 x3 x4, Hd4 P x1 x2 x3 x4
theorem Hd4.mk {α1 α2 α3 α4 : Type} {P : α1 → α2 → α3 → α4 → Prop} {x1 x2 x3 x4} (h : P x1 x2 x3 x4) : Hd4 P x1 x2 x3 x4 := h
noncomputable def en4 {α1 α2 α3 α4 : Type} (ne : Nonempty (α1 × α2 × α3 × α4)) (P : α1 → α2 → α3 → α4 → Prop) : α1 × α2 × α3 × α4 := @b9T _ ne fun t => ¬ P (p1 t) (p2 t) (p3 t) (q3 t)
theorem cl4 {P : α1 → α2 → α3 → α4 → Prop} (ne : Nonempty (α1 × α2 × α3 × α4)) (h : Hd4 P (p1 (en4 ne P)) (p2 (en4 ne P)) (p3 (en4 ne P)) (q3 (en4 ne P))) : ∀ x1 x2 x3 x4, P x1 x2 x3 x4 := fun x1 x2 x3 x4 => a0y (P := fun t : α1 × α2 × α3 × α4 => P (p1 t) (p2 t) (p3 t) (q3 t)) ne h (x1, x2, x3, x4)
noncomputable abbrev Hd5 {α1 α2 α3 α4 α5 : Type} (P : α1 → α2 → α3 → α4 → α5 → Prop) (x1 : α1) (x2 : α2) (x3 : α3) (x4 : α4) (x5 : α5) : Prop := P x1 x2 x3 x4 x5
noncomputable def Ha5 {α1 α2 α3 α4 α5 : Type} (P : α1 → α2 → α3 → α4 → α5 → Prop) : Prop := ∀ x1 x2 x3 x4 x5, Hd5 P x1 x2 x3 x4 x5
theorem Hd5.mk {α1 α2 α3 α4 α5 : Type} {P : α1 → α2 → α3 → α4 → α5 → Prop} {x1 x2 x3 x4 x5} (h : P x1 x2 x3 x4 x5) : Hd5 P x1 x2 x3 x4 x5 := h
noncomputable def en5 {α1 α2 α3 α4 α5 : Type} (ne : Nonempty (α1 × α2 × α3 × α4 × α5)) (P : α1 → α2 → α3 → α4 → α5 → Prop) : α1 × α2 × α3 × α4 × α5 := @b9T _ ne fun t => ¬ P (p1 t) (p2 t) (p3 t) (p4 t) (q4 t)
theorem cl5 {P : α1 → α2 → α3 → α4 → α5 → Prop} (ne : Nonempty (α1 × α2 × α3 × α4 × α5)) (h : Hd5 P (p1 (en5 ne P)) (p2 (en5 ne P)) (p3 (en5 ne P)) (p4 (en5 ne P)) (q4 (en5 ne P))) : ∀ x1 x2 x3 x4 x5, P x1 x2 x3 x4 x5 := fun x1 x2 x3 x4 x5 => a0y (P := fun t : α1 × α2 × α3 × α4 × α5 => P (p1 t) (p2 t) (p3 t) (p4 t) (q4 t)) ne h (x1, x2, x3, x4, x5)
noncomputable abbrev Hd6 {α1 α2 α3 α4 α5 α6 : Type} (P : α1 → α2 → α3 → α4 → α5 → α6 → Prop) (x1 : α1) (x2 : α2) (x3 : α3) (x4 : α4) (x5 : α5) (x6 : α6) : Prop := P x1 x2 x3 x4 x5 x6
noncomputable def Ha6 {α1 α2 α3 α4 α5 α6 : Type} (P : α1 → α2 → α3 → α4 → α5 → α6 → Prop) : Prop := ∀ x1 x2 x3 x4 x5 x6, Hd6 P x1 x2 x3 x4 x5 x6
theorem Hd6.mk {α1 α2 α3 α4 α5 α6 : Type} {P : α1 → α2 → α3 → α4 → α5 → α6 → Prop} {x1 x2 x3 x4 x5 x6} (h : P x1 x2 x3 x4 x5 x6) : Hd6 P x1 x2 x3 x4 x5 x6 := h
noncomputable def en6 {α1 α2 α3 α4 α5 α6 : Type} (ne : Nonempty (α1 × α2 × α3 × α4 × α5 × α6)) (P : α1 → α2 → α3 → α4 → α5 → α6 → Prop) : α1 × α2 × α3 × α4 × α5 × α6 := @b9T _ ne fun t => ¬ P (p1 t) (p2 t) (p3 t) (p4 t) (p5 t) (q5 t)
theorem cl6 {P : α1 → α2 → α3 → α4 → α5 → α6 → Prop} (ne : Nonempty (α1 × α2 × α3 × α4 × α5 × α6)) (h : Hd6 P (p1 (en6 ne P)) (p2 (en6 ne P)) (p3 (en6 ne P)) (p4 (en6 ne P)) (p5 (en6 ne P)) (q5 (en6 ne P))) : ∀ x1 x2 x3 x4 x5 x6, P x1 x2 x3 x4 x5 x6 := fun x1 x2 x3 x4 x5 x6 => a0y (P := fun t : α1 × α2 × α3 × α4 × α5 × α6 => P (p1 t) (p2 t) (p3 t) (p4 t) (p5 t) (q5 t)) ne h (x1, x2, x3, x4, x5, x6)
noncomputable abbrev Hd7 {α1 α2 α3 α4 α5 α6 α7 : Type} (P : α1 → α2 → α3 → α4 → α5 → α6 → α7 → Prop) (x1 : α1) (x2 : α2) (x3 : α3) (x4 : α4) (x5 : α5) (x6 : α6) (x7 : α7) : Prop := P x1 x2 x3 x4 x5 x6 x7
noncomputable def Ha7 {α1 α2 α3 α4 α5 α6 α7 : Type} (P : α1 → α2 → α3 → α4 → α5 → α6 → α7 → Prop) : Prop := ∀ x1 x2 x3 x4 x5 x6 x7, Hd7 P x1 x2 x3 x4 x5 x6 x7
theorem Hd7.mk {α1 α2 α3 α4 α5 α6 α7 : Type} {P : α1 → α2 → α3 → α4 → α5 → α6 → α7 → Prop} {x1 x2 x3 x4 x5 x6 x7} (h : P x1 x2 x3 x4 x5 x6 x7) : Hd7 P x1 x2 x3 x4 x5 x6 x7 := h
noncomputable def en7 {α1 α2 α3 α4 α5 α6 α7 : Type} (ne : Nonempty (α1 × α2 × α3 × α4 × α5 × α6 × α7)) (P : α1 → α2 → α3 → α4 → α5 → α6 → α7 → Prop) : α1 × α2 × α3 × α4 × α5 × α6 × α7 := @b9T _ ne fun t => ¬ P (p1 t) (p2 t) (p3 t) (p4 t) (p5 t) (p6 t) (q6 t)
theorem cl7 {P : α1 → α2 → α3 → α4 → α5 → α6 → α7 → Prop} (ne : Nonempty (α1 × α2 × α3 × α4 × α5 × α6 × α7)) (h : Hd7 P (p1 (en7 ne P)) (p2 (en7 ne P)) (p3 (en7 ne P)) (p4 (en7 ne P)) (p5 (en7 ne P)) (p6 (en7 ne P)) (q6 (en7 ne P))) : ∀ x1 x2 x3 x4 x5 x6 x7, P x1 x2 x3 x4 x5 x6 x7 := fun x1 x2 x3 x4 x5 x6 x7 => a0y (P := fun t : α1 × α2 × α3 × α4 × α5 × α6 × α7 => P (p1 t) (p2 t) (p3 t) (p4 t) (p5 t) (p6 t) (q6 t)) ne h (x1, x2, x3, x4, x5, x6, x7)
noncomputable abbrev Hd8 {α1 α2 α3 α4 α5 α6 α7 α8 : Type} (P : α1 → α2 → α3 → α4 → α5 → α6 → α7 → α8 → Prop) (x1 : α1) (x2 : α2) (x3 : α3) (x4 : α4) (x5 : α5) (x6 : α6) (x7 : α7) (x8 : α8) : Prop := P x1 x2 x3 x4 x5 x6 x7 x8
noncomputable def Ha8 {α1 α2 α3 α4 α5 α6 α7 α8 : Type} (P : α1 → α2 → α3 → α4 → α5 → α6 → α7 → α8 → Prop) : Prop := ∀ x1 x2 x3 x4 x5 x6 x7 x8, Hd8 P x1 x2 x3 x4 x5 x6 x7 x8
theorem Hd8.mk {α1 α2 α3 α4 α5 α6 α7 α8 : Type} {P : α1 → α2 → α3 → α4 → α5 → α6 → α7 → α8 → Prop} {x1 x2 x3 x4 x5 x6 x7 x8} (h : P x1 x2 x3 x4 x5 x6 x7 x8) : Hd8 P x1 x2 x3 x4 x5 x6 x7 x8 := h
noncomputable def en8 {α1 α2 α3 α4 α5 α6 α7 α8 : Type} (ne : Nonempty (α1 × α2 × α3 × α4 × α5 × α6 × α7 × α8)) (P : α1 → α2 → α3 → α4 → α5 → α6 → α7 → α8 → Prop) : α1 × α2 × α3 × α4 × α5 × α6 × α7 × α8 := @b9T _ ne fun t => ¬ P (p1 t) (p2 t) (p3 t) (p4 t) (p5 t) (p6 t) (p7 t) (q7 t)
theorem cl8 {P : α1 → α2 → α3 → α4 → α5 → α6 → α7 → α8 → Prop} (ne : Nonempty (α1 × α2 × α3 × α4 × α5 × α6 × α7 × α8)) (h : Hd8 P (p1 (en8 ne P)) (p2 (en8 ne P)) (p3 (en8 ne P)) (p4 (en8 ne P)) (p5 (en8 ne P)) (p6 (en8 ne P)) (p7 (en8 ne P)) (q7 (en8 ne P))) : ∀ x1 x2 x3 x4 x5 x6 x7 x8, P x1 x2 x3 x4 x5 x6 x7 x8 := fun x1 x2 x3 x4 x5 x6 x7 x8 => a0y (P := fun t : α1 × α2 × α3 × α4 × α5 × α6 × α7 × α8 => P (p1 t) (p2 t) (p3 t) (p4 t) (p5 t) (p6 t) (p7 t) (q7 t)) ne h (x1, x2, x3, x4, x5, x6, x7, x8)
noncomputable abbrev Hd9 {α1 α2 α3 α4 α5 α6 α7 α8 α9 : Type} (P : α1 → α2 → α3 → α4 → α5 → α6 → α7 → α8 → α9 → Prop) (x1 : α1) (x2 : α2) (x3 : α3) (x4 : α4) (x5 : α5) (x6 : α6) (x7 : α7) (x8 : α8) (x9 : α9) : Prop := P x1 x2 x3 x4 x5 x6 x7 x8 x9
noncomputable def Ha9 {α1 α2 α3 α4 α5 α6 α7 α8 α9 : Type} (P : α1 → α2 → α3 → α4 → α5 → α6 → α7 → α8 → α9 → Prop) : Prop := ∀ x1 x2 x3 x4 x5 x6 x7 x8 x9, Hd9 P x1 x2 x3 x4 x5 x6 x7 x8 x9
noncomputable def en9 {α1 α2 α3 α4 α5 α6 α7 α8 α9 : Type} (ne : Nonempty (α1 × α2 × α3 × α4 × α5 × α6 × α7 × α8 × α9)) (P : α1 → α2 → α3 → α4 → α5 → α6 → α7 → α8 → α9 → Prop) : α1 × α2 × α3 × α4 × α5 × α6 × α7 × α8 × α9 := @b9T _ ne fun t => ¬ P (p1 t) (p2 t) (p3 t) (p4 t) (p5 t) (p6 t) (p7 t) (p8 t) (q8 t)
theorem cl9 {P : α1 → α2 → α3 → α4 → α5 → α6 → α7 → α8 → α9 → Prop} (ne : Nonempty (α1 × α2 × α3 × α4 × α5 × α6 × α7 × α8 × α9)) (h : Hd9 P (p1 (en9 ne P)) (p2 (en9 ne P)) (p3 (en9 ne P)) (p4 (en9 ne P)) (p5 (en9 ne P)) (p6 (en9 ne P)) (p7 (en9 ne P)) (p8 (en9 ne P)) (q8 (en9 ne P))) : ∀ x1 x2 x3 x4 x5 x6 x7 x8 x9, P x1 x2 x3 x4 x5 x6 x7 x8 x9 := fun x1 x2 x3 x4 x5 x6 x7 x8 x9 => a0y (P := fun t : α1 × α2 × α3 × α4 × α5 × α6 × α7 × α8 × α9 => P (p1 t) (p2 t) (p3 t) (p4 t) (p5 t) (p6 t) (p7 t) (p8 t) (q8 t)) ne h (x1, x2, x3, x4, x5, x6, x7, x8, x9)
noncomputable abbrev Hd10 {α1 α2 α3 α4 α5 α6 α7 α8 α9 α10 : Type} (P : α1 → α2 → α3 → α4 → α5 → α6 → α7 → α8 → α9 → α10 → Prop) (x1 : α1) (x2 : α2) (x3 : α3) (x4 : α4) (x5 : α5) (x6 : α6) (x7 : α7) (x8 : α8) (x9 : α9) (x10 : α10) : Prop := P x1 x2 x3 x4 x5 x6 x7 x8 x9 x10
noncomputable def Ha10 {α1 α2 α3 α4 α5 α6 α7 α8 α9 α10 : Type} (P : α1 → α2 → α3 → α4 → α5 → α6 → α7 → α8 → α9 → α10 → Prop) : Prop := ∀ x1 x2 x3 x4 x5 x6 x7 x8 x9 x10, Hd10 P x1 x2 x3 x4 x5 x6 x7 x8 x9 x10
noncomputable def en10 {α1 α2 α3 α4 α5 α6 α7 α8 α9 α10 : Type} (ne : Nonempty (α1 × α2 × α3 × α4 × α5 × α6 × α7 × α8 × α9 × α10)) (P : α1 → α2 → α3 → α4 → α5 → α6 → α7 → α8 → α9 → α10 → Prop) : α1 × α2 × α3 × α4 × α5 × α6 × α7 × α8 × α9 × α10 := @b9T _ ne fun t => ¬ P (p1 t) (p2 t) (p3 t) (p4 t) (p5 t) (p6 t) (p7 t) (p8 t) (p1 (q8 t)) (q1 (q8 t))
theorem cl10 {P : α1 → α2 → α3 → α4 → α5 → α6 → α7 → α8 → α9 → α10 → Prop} (ne : Nonempty (α1 × α2 × α3 × α4 × α5 × α6 × α7 × α8 × α9 × α10)) (h : Hd10 P (p1 (en10 ne P)) (p2 (en10 ne P)) (p3 (en10 ne P)) (p4 (en10 ne P)) (p5 (en10 ne P)) (p6 (en10 ne P)) (p7 (en10 ne P)) (p8 (en10 ne P)) (p1 (q8 (en10 ne P))) (q1 (q8 (en10 ne P)))) : ∀ x1 x2 x3 x4 x5 x6 x7 x8 x9 x10, P x1 x2 x3 x4 x5 x6 x7 x8 x9 x10 := fun x1 x2 x3 x4 x5 x6 x7 x8 x9 x10 => a0y (P := fun t : α1 × α2 × α3 × α4 × α5 × α6 × α7 × α8 × α9 × α10 => P (p1 t) (p2 t) (p3 t) (p4 t) (p5 t) (p6 t) (p7 t) (p8 t) (p1 (q8 t)) (q1 (q8 t))) ne h (x1, x2, x3, x4, x5, x6, x7, x8, x9, x10)
noncomputable abbrev Hd11 {α1 α2 α3 α4 α5 α6 α7 α8 α9 α10 α11 : Type} (P : α1 → α2 → α3 → α4 → α5 → α6 → α7 → α8 → α9 → α10 → α11 → Prop) (x1 : α1) (x2 : α2) (x3 : α3) (x4 : α4) (x5 : α5) (x6 : α6) (x7 : α7) (x8 : α8) (x9 : α9) (x10 : α10) (x11 : α11) : Prop := P x1 x2 x3 x4 x5 x6 x7 x8 x9 x10 x11
noncomputable def Ha11 {α1 α2 α3 α4 α5 α6 α7 α8 α9 α10 α11 : Type} (P : α1 → α2 → α3 → α4 → α5 → α6 → α7 → α8 → α9 → α10 → α11 → Prop) : Prop := ∀ x1 x2 x3 x4 x5 x6 x7 x8 x9 x10 x11, Hd11 P x1 x2 x3 x4 x5 x6 x7 x8 x9 x10 x11
noncomputable def en11 {α1 α2 α3 α4 α5 α6 α7 α8 α9 α10 α11 : Type} (ne : Nonempty (α1 × α2 × α3 × α4 × α5 × α6 × α7 × α8 × α9 × α10 × α11)) (P : α1 → α2 → α3 → α4 → α5 → α6 → α7 → α8 → α9 → α10 → α11 → Prop) : α1 × α2 × α3 × α4 × α5 × α6 × α7 × α8 × α9 × α10 × α11 := @b9T _ ne fun t => ¬ P (p1 t) (p2 t) (p3 t) (p4 t) (p5 t) (p6 t) (p7 t) (p8 t) (p1 (q8 t)) (p2 (q8 t)) (q2 (q8 t))
theorem cl11 {P : α1 → α2 → α3 → α4 → α5 → α6 → α7 → α8 → α9 → α10 → α11 → Prop} (ne : Nonempty (α1 × α2 × α3 × α4 × α5 × α6 × α7 × α8 × α9 × α10 × α11)) (h : Hd11 P (p1 (en11 ne P)) (p2 (en11 ne P)) (p3 (en11 ne P)) (p4 (en11 ne P)) (p5 (en11 ne P)) (p6 (en11 ne P)) (p7 (en11 ne P)) (p8 (en11 ne P)) (p1 (q8 (en11 ne P))) (p2 (q8 (en11 ne P))) (q2 (q8 (en11 ne P)))) : ∀ x1 x2 x3 x4 x5 x6 x7 x8 x9 x10 x11, P x1 x2 x3 x4 x5 x6 x7 x8 x9 x10 x11 := fun x1 x2 x3 x4 x5 x6 x7 x8 x9 x10 x11 => a0y (P := fun t : α1 × α2 × α3 × α4 × α5 × α6 × α7 × α8 × α9 × α10 × α11 => P (p1 t) (p2 t) (p3 t) (p4 t) (p5 t) (p6 t) (p7 t) (p8 t) (p1 (q8 t)) (p2 (q8 t)) (q2 (q8 t))) ne h (x1, x2, x3, x4, x5, x6, x7, x8, x9, x10, x11)
noncomputable abbrev Hd12 {α1 α2 α3 α4 α5 α6 α7 α8 α9 α10 α11 α12 : Type} (P : α1 → α2 → α3 → α4 → α5 → α6 → α7 → α8 → α9 → α10 → α11 → α12 → Prop) (x1 : α1) (x2 : α2) (x3 : α3) (x4 : α4) (x5 : α5) (x6 : α6) (x7 : α7) (x8 : α8) (x9 : α9) (x10 : α10) (x11 : α11) (x12 : α12) : Prop := P x1 x2 x3 x4 x5 x6 x7 x8 x9 x10 x11 x12
noncomputable def Ha12 {α1 α2 α3 α4 α5 α6 α7 α8 α9 α10 α11 α12 : Type} (P : α1 → α2 → α3 → α4 → α5 → α6 → α7 → α8 → α9 → α10 → α11 → α12 → Prop) : Prop := ∀ x1 x2 x3 x4 x5 x6 x7 x8 x9 x10 x11 x12, Hd12 P x1 x2 x3 x4 x5 x6 x7 x8 x9 x10 x11 x12
noncomputable def en12 {α1 α2 α3 α4 α5 α6 α7 α8 α9 α10 α11 α12 : Type} (ne : Nonempty (α1 × α2 × α3 × α4 × α5 × α6 × α7 × α8 × α9 × α10 × α11 × α12)) (P : α1 → α2 → α3 → α4 → α5 → α6 → α7 → α8 → α9 → α10 → α11 → α12 → Prop) : α1 × α2 × α3 × α4 × α5 × α6 × α7 × α8 × α9 × α10 × α11 × α12 := @b9T _ ne fun t => ¬ P (p1 t) (p2 t) (p3 t) (p4 t) (p5 t) (p6 t) (p7 t) (p8 t) (p1 (q8 t)) (p2 (q8 t)) (p3 (q8 t)) (q3 (q8 t))
theorem cl12 {P : α1 → α2 → α3 → α4 → α5 → α6 → α7 → α8 → α9 → α10 → α11 → α12 → Prop} (ne : Nonempty (α1 × α2 × α3 × α4 × α5 × α6 × α7 × α8 × α9 × α10 × α11 × α12)) (h : Hd12 P (p1 (en12 ne P)) (p2 (en12 ne P)) (p3 (en12 ne P)) (p4 (en12 ne P)) (p5 (en12 ne P)) (p6 (en12 ne P)) (p7 (en12 ne P)) (p8 (en12 ne P)) (p1 (q8 (en12 ne P))) (p2 (q8 (en12 ne P))) (p3 (q8 (en12 ne P))) (q3 (q8 (en12 ne P)))) : ∀ x1 x2 x3 x4 x5 x6 x7 x8 x9 x10 x11 x12, P x1 x2 x3 x4 x5 x6 x7 x8 x9 x10 x11 x12 := fun x1 x2 x3 x4 x5 x6 x7 x8 x9 x10 x11 x12 => a0y (P := fun t : α1 × α2 × α3 × α4 × α5 × α6 × α7 × α8 × α9 × α10 × α11 × α12 => P (p1 t) (p2 t) (p3 t) (p4 t) (p5 t) (p6 t) (p7 t) (p8 t) (p1 (q8 t)) (p2 (q8 t)) (p3 (q8 t)) (q3 (q8 t))) ne h (x1, x2, x3, x4, x5, x6, x7, x8, x9, x10, x11, x12)
noncomputable abbrev Hd13 {α1 α2 α3 α4 α5 α6 α7 α8 α9 α10 α11 α12 α13 : Type} (P : α1 → α2 → α3 → α4 → α5 → α6 → α7 → α8 → α9 → α10 → α11 → α12 → α13 → Prop) (x1 : α1) (x2 : α2) (x3 : α3) (x4 : α4) (x5 : α5) (x6 : α6) (x7 : α7) (x8 : α8) (x9 : α9) (x10 : α10) (x11 : α11) (x12 : α12) (x13 : α13) : Prop := P x1 x2 x3 x4 x5 x6 x7 x8 x9 x10 x11 x12 x13
noncomputable def Ha13 {α1 α2 α3 α4 α5 α6 α7 α8 α9 α10 α11 α12 α13 : Type} (P : α1 → α2 → α3 → α4 → α5 → α6 → α7 → α8 → α9 → α10 → α11 → α12 → α13 → Prop) : Prop := ∀ x1 x2 x3 x4 x5 x6 x7 x8 x9 x10 x11 x12 x13, Hd13 P x1 x2 x3 x4 x5 x6 x7 x8 x9 x10 x11 x12 x13
noncomputable def en13 {α1 α2 α3 α4 α5 α6 α7 α8 α9 α10 α11 α12 α13 : Type} (ne : Nonempty (α1 × α2 × α3 × α4 × α5 × α6 × α7 × α8 × α9 × α10 × α11 × α12 × α13)) (P : α1 → α2 → α3 → α4 → α5 → α6 → α7 → α8 → α9 → α10 → α11 → α12 → α13 → Prop) : α1 × α2 × α3 × α4 × α5 × α6 × α7 × α8 × α9 × α10 × α11 × α12 × α13 := @b9T _ ne fun t => ¬ P (p1 t) (p2 t) (p3 t) (p4 t) (p5 t) (p6 t) (p7 t) (p8 t) (p1 (q8 t)) (p2 (q8 t)) (p3 (q8 t)) (p4 (q8 t)) (q4 (q8 t))
theorem cl13 {P : α1 → α2 → α3 → α4 → α5 → α6 → α7 → α8 → α9 → α10 → α11 → α12 → α13 → Prop} (ne : Nonempty (α1 × α2 × α3 × α4 × α5 × α6 × α7 × α8 × α9 × α10 × α11 × α12 × α13)) (h : Hd13 P (p1 (en13 ne P)) (p2 (en13 ne P)) (p3 (en13 ne P)) (p4 (en13 ne P)) (p5 (en13 ne P)) (p6 (en13 ne P)) (p7 (en13 ne P)) (p8 (en13 ne P)) (p1 (q8 (en13 ne P))) (p2 (q8 (en13 ne P))) (p3 (q8 (en13 ne P))) (p4 (q8 (en13 ne P))) (q4 (q8 (en13 ne P)))) : ∀ x1 x2 x3 x4 x5 x6 x7 x8 x9 x10 x11 x12 x13, P x1 x2 x3 x4 x5 x6 x7 x8 x9 x10 x11 x12 x13 := fun x1 x2 x3 x4 x5 x6 x7 x8 x9 x10 x11 x12 x13 => a0y (P := fun t : α1 × α2 × α3 × α4 × α5 × α6 × α7 × α8 × α9 × α10 × α11 × α12 × α13 => P (p1 t) (p2 t) (p3 t) (p4 t) (p5 t) (p6 t) (p7 t) (p8 t) (p1 (q8 t)) (p2 (q8 t)) (p3 (q8 t)) (p4 (q8 t)) (q4 (q8 t))) ne h (x1, x2, x3, x4, x5, x6, x7, x8, x9, x10, x11, x12, x13)
noncomputable abbrev Hd14 {α1 α2 α3 α4 α5 α6 α7 α8 α9 α10 α11 α12 α13 α14 : Type} (P : α1 → α2 → α3 → α4 → α5 → α6 → α7 → α8 → α9 → α10 → α11 → α12 → α13 → α14 → Prop) (x1 : α1) (x2 : α2) (x3 : α3) (x4 : α4) (x5 : α5) (x6 : α6) (x7 : α7) (x8 : α8) (x9 : α9) (x10 : α10) (x11 : α11) (x12 : α12) (x13 : α13) (x14 : α14) : Prop := P x1 x2 x3 x4 x5 x6 x7 x8 x9 x10 x11 x12 x13 x14
noncomputable def Ha14 {α1 α2 α3 α4 α5 α6 α7 α8 α9 α10 α11 α12 α13 α14 : Type} (P : α1 → α2 → α3 → α4 → α5 → α6 → α7 → α8 → α9 → α10 → α11 → α12 → α13 → α14 → Prop) : Prop := ∀ x1 x2 x3 x4 x5 x6 x7 x8 x9 x10 x11 x12 x13 x14, Hd14 P x1 x2 x3 x4 x5 x6 x7 x8 x9 x10 x11 x12 x13 x14
noncomputable def en14 {α1 α2 α3 α4 α5 α6 α7 α8 α9 α10 α11 α12 α13 α14 : Type} (ne : Nonempty (α1 × α2 × α3 × α4 × α5 × α6 × α7 × α8 × α9 × α10 × α11 × α12 × α13 × α14)) (P : α1 → α2 → α3 → α4 → α5 → α6 → α7 → α8 → α9 → α10 → α11 → α12 → α13 → α14 → Prop) : α1 × α2 × α3 × α4 × α5 × α6 × α7 × α8 × α9 × α10 × α11 × α12 × α13 × α14 := @b9T _ ne fun t => ¬ P (p1 t) (p2 t) (p3 t) (p4 t) (p5 t) (p6 t) (p7 t) (p8 t) (p1 (q8 t)) (p2 (q8 t)) (p3 (q8 t)) (p4 (q8 t)) (p5 (q8 t)) (q5 (q8 t))
theorem cl14 {α1 α2 α3 α4 α5 α6 α7 α8 α9 α10 α11 α12 α13 α14 : Type} {P : α1 → α2 → α3 → α4 → α5 → α6 → α7 → α8 → α9 → α10 → α11 → α12 → α13 → α14 → Prop} (ne : Nonempty (α1 × α2 × α3 × α4 × α5 × α6 × α7 × α8 × α9 × α10 × α11 × α12 × α13 × α14)) (h : Hd14 P (p1 (en14 ne P)) (p2 (en14 ne P)) (p3 (en14 ne P)) (p4 (en14 ne P)) (p5 (en14 ne P)) (p6 (en14 ne P)) (p7 (en14 ne P)) (p8 (en14 ne P)) (p1 (q8 (en14 ne P))) (p2 (q8 (en14 ne P))) (p3 (q8 (en14 ne P))) (p4 (q8 (en14 ne P))) (p5 (q8 (en14 ne P))) (q5 (q8 (en14 ne P)))) : ∀ x1 x2 x3 x4 x5 x6 x7 x8 x9 x10 x11 x12 x13 x14, P x1 x2 x3 x4 x5 x6 x7 x8 x9 x10 x11 x12 x13 x14 := fun x1 x2 x3 x4 x5 x6 x7 x8 x9 x10 x11 x12 x13 x14 => a0y (P := fun t : α1 × α2 × α3 × α4 × α5 × α6 × α7 × α8 × α9 × α10 × α11 × α12 × α13 × α14 => P (p1 t) (p2 t) (p3 t) (p4 t) (p5 t) (p6 t) (p7 t) (p8 t) (p1 (q8 t)) (p2 (q8 t)) (p3 (q8 t)) (p4 (q8 t)) (p5 (q8 t)) (q5 (q8 t))) ne h (x1, x2, x3, x4, x5, x6, x7, x8, x9, x10, x11, x12, x13, x14)
noncomputable abbrev Hd15 {α1 α2 α3 α4 α5 α6 α7 α8 α9 α10 α11 α12 α13 α14 α15 : Type} (P : α1 → α2 → α3 → α4 → α5 → α6 → α7 → α8 → α9 → α10 → α11 → α12 → α13 → α14 → α15 → Prop) (x1 : α1) (x2 : α2) (x3 : α3) (x4 : α4) (x5 : α5) (x6 : α6) (x7 : α7) (x8 : α8) (x9 : α9) (x10 : α10) (x11 : α11) (x12 : α12) (x13 : α13) (x14 : α14) (x15 : α15) : Prop := P x1 x2 x3 x4 x5 x6 x7 x8 x9 x10 x11 x12 x13 x14 x15
noncomputable def Ha15 {α1 α2 α3 α4 α5 α6 α7 α8 α9 α10 α11 α12 α13 α14 α15 : Type} (P : α1 → α2 → α3 → α4 → α5 → α6 → α7 → α8 → α9 → α10 → α11 → α12 → α13 → α14 → α15 → Prop) : Prop := ∀ x1 x2 x3 x4 x5 x6 x7 x8 x9 x10 x11 x12 x13 x14 x15, Hd15 P x1 x2 x3 x4 x5 x6 x7 x8 x9 x10 x11 x12 x13 x14 x15
noncomputable def en15 {α1 α2 α3 α4 α5 α6 α7 α8 α9 α10 α11 α12 α13 α14 α15 : Type} (ne : Nonempty (α1 × α2 × α3 × α4 × α5 × α6 × α7 × α8 × α9 × α10 × α11 × α12 × α13 × α14 × α15)) (P : α1 → α2 → α3 → α4 → α5 → α6 → α7 → α8 → α9 → α10 → α11 → α12 → α13 → α14 → α15 → Prop) : α1 × α2 × α3 × α4 × α5 × α6 × α7 × α8 × α9 × α10 × α11 × α12 × α13 × α14 × α15 := @b9T _ ne fun t => ¬ P (p1 t) (p2 t) (p3 t) (p4 t) (p5 t) (p6 t) (p7 t) (p8 t) (p1 (q8 t)) (p2 (q8 t)) (p3 (q8 t)) (p4 (q8 t)) (p5 (q8 t)) (p6 (q8 t)) (q6 (q8 t))
theorem cl15 {α14 α15 : Type} {P : α1 → α2 → α3 → α4 → α5 → α6 → α7 → α8 → α9 → α10 → α11 → α12 → α13 → α14 → α15 → Prop} (ne : Nonempty (α1 × α2 × α3 × α4 × α5 × α6 × α7 × α8 × α9 × α10 × α11 × α12 × α13 × α14 × α15)) (h : Hd15 P (p1 (en15 ne P)) (p2 (en15 ne P)) (p3 (en15 ne P)) (p4 (en15 ne P)) (p5 (en15 ne P)) (p6 (en15 ne P)) (p7 (en15 ne P)) (p8 (en15 ne P)) (p1 (q8 (en15 ne P))) (p2 (q8 (en15 ne P))) (p3 (q8 (en15 ne P))) (p4 (q8 (en15 ne P))) (p5 (q8 (en15 ne P))) (p6 (q8 (en15 ne P))) (q6 (q8 (en15 ne P)))) : ∀ x1 x2 x3 x4 x5 x6 x7 x8 x9 x10 x11 x12 x13 x14 x15, P x1 x2 x3 x4 x5 x6 x7 x8 x9 x10 x11 x12 x13 x14 x15 := fun x1 x2 x3 x4 x5 x6 x7 x8 x9 x10 x11 x12 x13 x14 x15 => a0y (P := fun t : α1 × α2 × α3 × α4 × α5 × α6 × α7 × α8 × α9 × α10 × α11 × α12 × α13 × α14 × α15 => P (p1 t) (p2 t) (p3 t) (p4 t) (p5 t) (p6 t) (p7 t) (p8 t) (p1 (q8 t)) (p2 (q8 t)) (p3 (q8 t)) (p4 (q8 t)) (p5 (q8 t)) (p6 (q8 t)) (q6 (q8 t))) ne h (x1, x2, x3, x4, x5, x6, x7, x8, x9, x10, x11, x12, x13, x14, x15)
noncomputable abbrev Hd16 {α1 α2 α3 α4 α5 α6 α7 α8 α9 α10 α11 α12 α13 α14 α15 α16 : Type} (P : α1 → α2 → α3 → α4 → α5 → α6 → α7 → α8 → α9 → α10 → α11 → α12 → α13 → α14 → α15 → α16 → Prop) (x1 : α1) (x2 : α2) (x3 : α3) (x4 : α4) (x5 : α5) (x6 : α6) (x7 : α7) (x8 : α8) (x9 : α9) (x10 : α10) (x11 : α11) (x12 : α12) (x13 : α13) (x14 : α14) (x15 : α15) (x16 : α16) : Prop := P x1 x2 x3 x4 x5 x6 x7 x8 x9 x10 x11 x12 x13 x14 x15 x16
noncomputable def Ha16 {α1 α2 α3 α4 α5 α6 α7 α8 α9 α10 α11 α12 α13 α14 α15 α16 : Type} (P : α1 → α2 → α3 → α4 → α5 → α6 → α7 → α8 → α9 → α10 → α11 → α12 → α13 → α14 → α15 → α16 → Prop) : Prop := ∀ x1 x2 x3 x4 x5 x6 x7 x8 x9 x10 x11 x12 x13 x14 x15 x16, Hd16 P x1 x2 x3 x4 x5 x6 x7 x8 x9 x10 x11 x12 x13 x14 x15 x16
noncomputable def en16 {α1 α2 α3 α4 α5 α6 α7 α8 α9 α10 α11 α12 α13 α14 α15 α16 : Type} (ne : Nonempty (α1 × α2 × α3 × α4 × α5 × α6 × α7 × α8 × α9 × α10 × α11 × α12 × α13 × α14 × α15 × α16)) (P : α1 → α2 → α3 → α4 → α5 → α6 → α7 → α8 → α9 → α10 → α11 → α12 → α13 → α14 → α15 → α16 → Prop) : α1 × α2 × α3 × α4 × α5 × α6 × α7 × α8 × α9 × α10 × α11 × α12 × α13 × α14 × α15 × α16 := @b9T _ ne fun t => ¬ P (p1 t) (p2 t) (p3 t) (p4 t) (p5 t) (p6 t) (p7 t) (p8 t) (p1 (q8 t)) (p2 (q8 t)) (p3 (q8 t)) (p4 (q8 t)) (p5 (q8 t)) (p6 (q8 t)) (p7 (q8 t)) (q7 (q8 t))
theorem cl16 {α1 α2 α3 α4 α5 α6 α7 α8 α9 α10 α11 α12 α13 α14 α15 α16 : Type} {P : α1 → α2 → α3 → α4 → α5 → α6 → α7 → α8 → α9 → α10 → α11 → α12 → α13 → α14 → α15 → α16 → Prop} (ne : Nonempty (α1 × α2 × α3 × α4 × α5 × α6 × α7 × α8 × α9 × α10 × α11 × α12 × α13 × α14 × α15 × α16)) (h : Hd16 P (p1 (en16 ne P)) (p2 (en16 ne P)) (p3 (en16 ne P)) (p4 (en16 ne P)) (p5 (en16 ne P)) (p6 (en16 ne P)) (p7 (en16 ne P)) (p8 (en16 ne P)) (p1 (q8 (en16 ne P))) (p2 (q8 (en16 ne P))) (p3 (q8 (en16 ne P))) (p4 (q8 (en16 ne P))) (p5 (q8 (en16 ne P))) (p6 (q8 (en16 ne P))) (p7 (q8 (en16 ne P))) (q7 (q8 (en16 ne P)))) : ∀ x1 x2 x3 x4 x5 x6 x7 x8 x9 x10 x11 x12 x13 x14 x15 x16, P x1 x2 x3 x4 x5 x6 x7 x8 x9 x10 x11 x12 x13 x14 x15 x16 := fun x1 x2 x3 x4 x5 x6 x7 x8 x9 x10 x11 x12 x13 x14 x15 x16 => a0y (P := fun t : α1 × α2 × α3 × α4 × α5 × α6 × α7 × α8 × α9 × α10 × α11 × α12 × α13 × α14 × α15 × α16 => P (p1 t) (p2 t) (p3 t) (p4 t) (p5 t) (p6 t) (p7 t) (p8 t) (p1 (q8 t)) (p2 (q8 t)) (p3 (q8 t)) (p4 (q8 t)) (p5 (q8 t)) (p6 (q8 t)) (p7 (q8 t)) (q7 (q8 t))) ne h (x1, x2, x3, x4, x5, x6, x7, x8, x9, x10, x11, x12, x13, x14, x15, x16)
noncomputable abbrev Hd17 {α1 α2 α3 α4 α5 α6 α7 α8 α9 α10 α11 α12 α13 α14 α15 α16 α17 : Type} (P : α1 → α2 → α3 → α4 → α5 → α6 → α7 → α8 → α9 → α10 → α11 → α12 → α13 → α14 → α15 → α16 → α17 → Prop) (x1 : α1) (x2 : α2) (x3 : α3) (x4 : α4) (x5 : α5) (x6 : α6) (x7 : α7) (x8 : α8) (x9 : α9) (x10 : α10) (x11 : α11) (x12 : α12) (x13 : α13) (x14 : α14) (x15 : α15) (x16 : α16) (x17 : α17) : Prop := P x1 x2 x3 x4 x5 x6 x7 x8 x9 x10 x11 x12 x13 x14 x15 x16 x17
noncomputable def Ha17 {α1 α2 α3 α4 α5 α6 α7 α8 α9 α10 α11 α12 α13 α14 α15 α16 α17 : Type} (P : α1 → α2 → α3 → α4 → α5 → α6 → α7 → α8 → α9 → α10 → α11 → α12 → α13 → α14 → α15 → α16 → α17 → Prop) : Prop := ∀ x1 x2 x3 x4 x5 x6 x7 x8 x9 x10 x11 x12 x13 x14 x15 x16 x17, Hd17 P x1 x2 x3 x4 x5 x6 x7 x8 x9 x10 x11 x12 x13 x14 x15 x16 x17
noncomputable def en17 {α1 α2 α3 α4 α5 α6 α7 α8 α9 α10 α11 α12 α13 α14 α15 α16 α17 : Type} (ne : Nonempty (α1 × α2 × α3 × α4 × α5 × α6 × α7 × α8 × α9 × α10 × α11 × α12 × α13 × α14 × α15 × α16 × α17)) (P : α1 → α2 → α3 → α4 → α5 → α6 → α7 → α8 → α9 → α10 → α11 → α12 → α13 → α14 → α15 → α16 → α17 → Prop) : α1 × α2 × α3 × α4 × α5 × α6 × α7 × α8 × α9 × α10 × α11 × α12 × α13 × α14 × α15 × α16 × α17 := @b9T _ ne fun t => ¬ P (p1 t) (p2 t) (p3 t) (p4 t) (p5 t) (p6 t) (p7 t) (p8 t) (p1 (q8 t)) (p2 (q8 t)) (p3 (q8 t)) (p4 (q8 t)) (p5 (q8 t)) (p6 (q8 t)) (p7 (q8 t)) (p8 (q8 t)) (q8 (q8 t))
theorem cl17 {α1 α2 α3 α4 α5 α6 α7 α8 α9 α10 α11 α12 α13 α14 α15 α16 α17 : Type} {P : α1 → α2 → α3 → α4 → α5 → α6 → α7 → α8 → α9 → α10 → α11 → α12 → α13 → α14 → α15 → α16 → α17 → Prop} (ne : Nonempty (α1 × α2 × α3 × α4 × α5 × α6 × α7 × α8 × α9 × α10 × α11 × α12 × α13 × α14 × α15 × α16 × α17)) (h : Hd17 P (p1 (en17 ne P)) (p2 (en17 ne P)) (p3 (en17 ne P)) (p4 (en17 ne P)) (p5 (en17 ne P)) (p6 (en17 ne P)) (p7 (en17 ne P)) (p8 (en17 ne P)) (p1 (q8 (en17 ne P))) (p2 (q8 (en17 ne P))) (p3 (q8 (en17 ne P))) (p4 (q8 (en17 ne P))) (p5 (q8 (en17 ne P))) (p6 (q8 (en17 ne P))) (p7 (q8 (en17 ne P))) (p8 (q8 (en17 ne P))) (q8 (q8 (en17 ne P)))) : ∀ x1 x2 x3 x4 x5 x6 x7 x8 x9 x10 x11 x12 x13 x14 x15 x16 x17, P x1 x2 x3 x4 x5 x6 x7 x8 x9 x10 x11 x12 x13 x14 x15 x16 x17 := fun x1 x2 x3 x4 x5 x6 x7 x8 x9 x10 x11 x12 x13 x14 x15 x16 x17 => a0y (P := fun t : α1 × α2 × α3 × α4 × α5 × α6 × α7 × α8 × α9 × α10 × α11 × α12 × α13 × α14 × α15 × α16 × α17 => P (p1 t) (p2 t) (p3 t) (p4 t) (p5 t) (p6 t) (p7 t) (p8 t) (p1 (q8 t)) (p2 (q8 t)) (p3 (q8 t)) (p4 (q8 t)) (p5 (q8 t)) (p6 (q8 t)) (p7 (q8 t)) (p8 (q8 t)) (q8 (q8 t))) ne h (x1, x2, x3, x4, x5, x6, x7, x8, x9, x10, x11, x12, x13, x14, x15, x16, x17)
noncomputable abbrev Hd24 {α1 α2 α3 α4 α5 α6 α7 α8 α9 α10 α11 α12 α13 α14 α15 α16 α17 α18 α19 α20 α21 α22 α23 α24 : Type} (P : α1 → α2 → α3 → α4 → α5 → α6 → α7 → α8 → α9 → α10 → α11 → α12 → α13 → α14 → α15 → α16 → α17 → α18 → α19 → α20 → α21 → α22 → α23 → α24 → Prop) (x1 : α1) (x2 : α2) (x3 : α3) (x4 : α4) (x5 : α5) (x6 : α6) (x7 : α7) (x8 : α8) (x9 : α9) (x10 : α10) (x11 : α11) (x12 : α12) (x13 : α13) (x14 : α14) (x15 : α15) (x16 : α16) (x17 : α17) (x18 : α18) (x19 : α19) (x20 : α20) (x21 : α21) (x22 : α22) (x23 : α23) (x24 : α24) : Prop := P x1 x2 x3 x4 x5 x6 x7 x8 x9 x10 x11 x12 x13 x14 x15 x16 x17 x18 x19 x20 x21 x22 x23 x24
noncomputable def Ha24 {α1 α2 α3 α4 α5 α6 α7 α8 α9 α10 α11 α12 α13 α14 α15 α16 α17 α18 α19 α20 α21 α22 α23 α24 : Type} (P : α1 → α2 → α3 → α4 → α5 → α6 → α7 → α8 → α9 → α10 → α11 → α12 → α13 → α14 → α15 → α16 → α17 → α18 → α19 → α20 → α21 → α22 → α23 → α24 → Prop) : Prop := ∀ x1 x2 x3 x4 x5 x6 x7 x8 x9 x10 x11 x12 x13 x14 x15 x16 x17 x18 x19 x20 x21 x22 x23 x24, Hd24 P x1 x2 x3 x4 x5 x6 x7 x8 x9 x10 x11 x12 x13 x14 x15 x16 x17 x18 x19 x20 x21 x22 x23 x24
noncomputable def en24 {α1 α2 α3 α4 α5 α6 α7 α8 α9 α10 α11 α12 α13 α14 α15 α16 α17 α18 α19 α20 α21 α22 α23 α24 : Type} (ne : Nonempty (α1 × α2 × α3 × α4 × α5 × α6 × α7 × α8 × α9 × α10 × α11 × α12 × α13 × α14 × α15 × α16 × α17 × α18 × α19 × α20 × α21 × α22 × α23 × α24)) (P : α1 → α2 → α3 → α4 → α5 → α6 → α7 → α8 → α9 → α10 → α11 → α12 → α13 → α14 → α15 → α16 → α17 → α18 → α19 → α20 → α21 → α22 → α23 → α24 → Prop) : α1 × α2 × α3 × α4 × α5 × α6 × α7 × α8 × α9 × α10 × α11 × α12 × α13 × α14 × α15 × α16 × α17 × α18 × α19 × α20 × α21 × α22 × α23 × α24 := @b9T _ ne fun t => ¬ P (p1 t) (p2 t) (p3 t) (p4 t) (p5 t) (p6 t) (p7 t) (p8 t) (p1 (q8 t)) (p2 (q8 t)) (p3 (q8 t)) (p4 (q8 t)) (p5 (q8 t)) (p6 (q8 t)) (p7 (q8 t)) (p8 (q8 t)) (p1 (q8 (q8 t))) (p2 (q8 (q8 t))) (p3 (q8 (q8 t))) (p4 (q8 (q8 t))) (p5 (q8 (q8 t))) (p6 (q8 (q8 t))) (p7 (q8 (q8 t))) (q7 (q8 (q8 t)))
theorem cl24 {α14 α15 α16 α17 α18 α19 α20 α21 α22 α23 α24 : Type} {P : α1 → α2 → α3 → α4 → α5 → α6 → α7 → α8 → α9 → α10 → α11 → α12 → α13 → α14 → α15 → α16 → α17 → α18 → α19 → α20 → α21 → α22 → α23 → α24 → Prop} (ne : Nonempty (α1 × α2 × α3 × α4 × α5 × α6 × α7 × α8 × α9 × α10 × α11 × α12 × α13 × α14 × α15 × α16 × α17 × α18 × α19 × α20 × α21 × α22 × α23 × α24)) (h : Hd24 P (p1 (en24 ne P)) (p2 (en24 ne P)) (p3 (en24 ne P)) (p4 (en24 ne P)) (p5 (en24 ne P)) (p6 (en24 ne P)) (p7 (en24 ne P)) (p8 (en24 ne P)) (p1 (q8 (en24 ne P))) (p2 (q8 (en24 ne P))) (p3 (q8 (en24 ne P))) (p4 (q8 (en24 ne P))) (p5 (q8 (en24 ne P))) (p6 (q8 (en24 ne P))) (p7 (q8 (en24 ne P))) (p8 (q8 (en24 ne P))) (p1 (q8 (q8 (en24 ne P)))) (p2 (q8 (q8 (en24 ne P)))) (p3 (q8 (q8 (en24 ne P)))) (p4 (q8 (q8 (en24 ne P)))) (p5 (q8 (q8 (en24 ne P)))) (p6 (q8 (q8 (en24 ne P)))) (p7 (q8 (q8 (en24 ne P)))) (q7 (q8 (q8 (en24 ne P))))) : ∀ x1 x2 x3 x4 x5 x6 x7 x8 x9 x10 x11 x12 x13 x14 x15 x16 x17 x18 x19 x20 x21 x22 x23 x24, P x1 x2 x3 x4 x5 x6 x7 x8 x9 x10 x11 x12 x13 x14 x15 x16 x17 x18 x19 x20 x21 x22 x23 x24 := fun x1 x2 x3 x4 x5 x6 x7 x8 x9 x10 x11 x12 x13 x14 x15 x16 x17 x18 x19 x20 x21 x22 x23 x24 => a0y (P := fun t : α1 × α2 × α3 × α4 × α5 × α6 × α7 × α8 × α9 × α10 × α11 × α12 × α13 × α14 × α15 × α16 × α17 × α18 × α19 × α20 × α21 × α22 × α23 × α24 => P (p1 t) (p2 t) (p3 t) (p4 t) (p5 t) (p6 t) (p7 t) (p8 t) (p1 (q8 t)) (p2 (q8 t)) (p3 (q8 t)) (p4 (q8 t)) (p5 (q8 t)) (p6 (q8 t)) (p7 (q8 t)) (p8 (q8 t)) (p1 (q8 (q8 t))) (p2 (q8 (q8 t))) (p3 (q8 (q8 t))) (p4 (q8 (q8 t))) (p5 (q8 (q8 t))) (p6 (q8 (q8 t))) (p7 (q8 (q8 t))) (q7 (q8 (q8 t)))) ne h (x1, x2, x3, x4, x5, x6, x7, x8, x9, x10, x11, x12, x13, x14, x15, x16, x17, x18, x19, x20, x21, x22, x23, x24)
noncomputable def ep {α : Type} (n : Nonempty α) (P : α → Prop) : α := @b9T α n P
theorem b2h {α : Type} {P : α → Prop} [n : Nonempty α] (h : Hd1 P (en1 n P)) : ∀ x, P x := a0y n h
theorem ex1 {P : α → Prop} (n : Nonempty α) (h : ∃ x, P x) {G : Prop} (k : Hd1 (fun x => P x → G) (ep n P)) : G := k (@c2l α P h)
theorem ex_eps {P : α → Prop} [n : Nonempty α] (h : ∃ x, P x) {G : Prop} (k : Hd1 (fun x => P x → G) (ep n P)) : G := k (@c2l α P h)
theorem exo2 {P : α1 → α2 → Prop} {G : Prop} (h : ∃ x1 x2, P x1 x2) (k : ∀ x1 x2, P x1 x2 → G) : G := h.elim fun x1 h => h.elim fun x2 h => k x1 x2 h
theorem exo3 {P : α1 → α2 → α3 → Prop} {G : Prop} (h : ∃ x1 x2 x3, P x1 x2 x3) (k : ∀ x1 x2 x3, P x1 x2 x3 → G) : G := h.elim fun x1 h => h.elim fun x2 h => h.elim fun x3 h => k x1 x2 x3 h
theorem exo4 {P : α1 → α2 → α3 → α4 → Prop} {G : Prop} (h : ∃ x1 x2 x3 x4, P x1 x2 x3 x4) (k : ∀ x1 x2 x3 x4, P x1 x2 x3 x4 → G) : G := h.elim fun x1 h => h.elim fun x2 h => h.elim fun x3 h => h.elim fun x4 h => k x1 x2 x3 x4 h
theorem exo5 {P : α1 → α2 → α3 → α4 → α5 → Prop} {G : Prop} (h : ∃ x1 x2 x3 x4 x5, P x1 x2 x3 x4 x5) (k : ∀ x1 x2 x3 x4 x5, P x1 x2 x3 x4 x5 → G) : G := h.elim fun x1 h => h.elim fun x2 h => h.elim fun x3 h => h.elim fun x4 h => h.elim fun x5 h => k x1 x2 x3 x4 x5 h
theorem exo6 {P : α1 → α2 → α3 → α4 → α5 → α6 → Prop} {G : Prop} (h : ∃ x1 x2 x3 x4 x5 x6, P x1 x2 x3 x4 x5 x6) (k : ∀ x1 x2 x3 x4 x5 x6, P x1 x2 x3 x4 x5 x6 → G) : G := h.elim fun x1 h => h.elim fun x2 h => h.elim fun x3 h => h.elim fun x4 h => h.elim fun x5 h => h.elim fun x6 h => k x1 x2 x3 x4 x5 x6 h
theorem exo9 {P : α1 → α2 → α3 → α4 → α5 → α6 → α7 → α8 → α9 → Prop} {G : Prop} (h : ∃ x1 x2 x3 x4 x5 x6 x7 x8 x9, P x1 x2 x3 x4 x5 x6 x7 x8 x9) (k : ∀ x1 x2 x3 x4 x5 x6 x7 x8 x9, P x1 x2 x3 x4 x5 x6 x7 x8 x9 → G) : G := h.elim fun x1 h => h.elim fun x2 h => h.elim fun x3 h => h.elim fun x4 h => h.elim fun x5 h => h.elim fun x6 h => h.elim fun x7 h => h.elim fun x8 h => h.elim fun x9 h => k x1 x2 x3 x4 x5 x6 x7 x8 x9 h
theorem exo13 {P : α1 → α2 → α3 → α4 → α5 → α6 → α7 → α8 → α9 → α10 → α11 → α12 → α13 → Prop} {G : Prop} (h : ∃ x1 x2 x3 x4 x5 x6 x7 x8 x9 x10 x11 x12 x13, P x1 x2 x3 x4 x5 x6 x7 x8 x9 x10 x11 x12 x13) (k : ∀ x1 x2 x3 x4 x5 x6 x7 x8 x9 x10 x11 x12 x13, P x1 x2 x3 x4 x5 x6 x7 x8 x9 x10 x11 x12 x13 → G) : G := h.elim fun x1 h => h.elim fun x2 h => h.elim fun x3 h => h.elim fun x4 h => h.elim fun x5 h => h.elim fun x6 h => h.elim fun x7 h => h.elim fun x8 h => h.elim fun x9 h => h.elim fun x10 h => h.elim fun x11 h => h.elim fun x12 h => h.elim fun x13 h => k x1 x2 x3 x4 x5 x6 x7 x8 x9 x10 x11 x12 x13 h
theorem ando3 {G : Prop} (h : a1 ∧ a2 ∧ a3) (k : a1 → a2 → a3 → G) : G := k h.1 h.2.1 h.2.2
theorem ando4 {G : Prop} (h : a1 ∧ a2 ∧ a3 ∧ a4) (k : a1 → a2 → a3 → a4 → G) : G := k h.1 h.2.1 h.2.2.1 h.2.2.2
theorem ando5 {G : Prop} (h : a1 ∧ a2 ∧ a3 ∧ a4 ∧ a5) (k : a1 → a2 → a3 → a4 → a5 → G) : G := k h.1 h.2.1 h.2.2.1 h.2.2.2.1 h.2.2.2.2
theorem ando6 {G : Prop} (h : a1 ∧ a2 ∧ a3 ∧ a4 ∧ a5 ∧ a6) (k : a1 → a2 → a3 → a4 → a5 → a6 → G) : G := k h.1 h.2.1 h.2.2.1 h.2.2.2.1 h.2.2.2.2.1 h.2.2.2.2.2
theorem ando7 {G : Prop} (h : a1 ∧ a2 ∧ a3 ∧ a4 ∧ a5 ∧ a6 ∧ a7) (k : a1 → a2 → a3 → a4 → a5 → a6 → a7 → G) : G := k h.1 h.2.1 h.2.2.1 h.2.2.2.1 h.2.2.2.2.1 h.2.2.2.2.2.1 h.2.2.2.2.2.2
theorem ando8 {a8 G : Prop} (h : a1 ∧ a2 ∧ a3 ∧ a4 ∧ a5 ∧ a6 ∧ a7 ∧ a8) (k : a1 → a2 → a3 → a4 → a5 → a6 → a7 → a8 → G) : G := k h.1 h.2.1 h.2.2.1 h.2.2.2.1 h.2.2.2.2.1 h.2.2.2.2.2.1 h.2.2.2.2.2.2.1 h.2.2.2.2.2.2.2
theorem ando9 {a8 a9 G : Prop} (h : a1 ∧ a2 ∧ a3 ∧ a4 ∧ a5 ∧ a6 ∧ a7 ∧ a8 ∧ a9) (k : a1 → a2 → a3 → a4 → a5 → a6 → a7 → a8 → a9 → G) : G := k h.1 h.2.1 h.2.2.1 h.2.2.2.1 h.2.2.2.2.1 h.2.2.2.2.2.1 h.2.2.2.2.2.2.1 h.2.2.2.2.2.2.2.1 h.2.2.2.2.2.2.2.2
theorem ando10 {a8 a9 a10 G : Prop} (h : a1 ∧ a2 ∧ a3 ∧ a4 ∧ a5 ∧ a6 ∧ a7 ∧ a8 ∧ a9 ∧ a10) (k : a1 → a2 → a3 → a4 → a5 → a6 → a7 → a8 → a9 → a10 → G) : G := k h.1 h.2.1 h.2.2.1 h.2.2.2.1 h.2.2.2.2.1 h.2.2.2.2.2.1 h.2.2.2.2.2.2.1 h.2.2.2.2.2.2.2.1 h.2.2.2.2.2.2.2.2.1 h.2.2.2.2.2.2.2.2.2
theorem and_el {a b : Prop} (h : a ∧ b) {G : Prop} (k : a → b → G) : G := k h.1 h.2
theorem ne2 {β : Type} (a : Nonempty α) (b : Nonempty β) : Nonempty (α × β) := a.elim fun a => b.elim fun b => ⟨(a, b)⟩
theorem a6h : Nonempty Params := ⟨{strHash := fun _ => 0, shareClass := fun _ => 0, mergeTok := id, idOf := fun _ => 0, idOfShared := fun _ _ => 0, followText := fun _ => false, idOfImm := fun _ => 0}⟩
theorem neWorld : Nonempty World := ⟨⟨fun _ _ => 0, Classical.choice a6h⟩⟩
theorem b9m : Nonempty Gl := ⟨⟨default, [], fun _ => none, fun _ => none, fun _ => none⟩⟩
theorem a4e : Nonempty Shared := ⟨{}⟩
theorem b1x : Nonempty Drawn := ⟨{}⟩
theorem neObj : Nonempty Obj := ⟨listOf #[] 0⟩
theorem b5O : Nonempty Dat := ⟨.int 0⟩
theorem b1M : Nonempty Model := neWorld.elim fun w => ⟨model default w⟩
theorem b0I : Nonempty PyData := ⟨.int 0⟩
theorem a5G : Nonempty Scope := ⟨{ kind := .function, names := [], isGenerator := false, isCoroutine := false }⟩
theorem a4n : Nonempty Around := ⟨{ handled := none, depth := 0, frames := none, guards := none, units := 0 }⟩
theorem b8U : Nonempty (Nat × Nat × Option (List Code) × b9p × Scope × Addr × Value × List (b9p × Addr) × Around × Heap × Heap × Addr × (b9p → Option Value) × Shared × (Value → Shared → Prop) × (Value → Shared → Prop)) :=
 ne2 inferInstance (ne2 inferInstance (ne2 inferInstance (ne2 inferInstance (ne2 a5G (ne2 inferInstance (ne2 inferInstance (ne2 inferInstance (ne2 a4n (ne2 inferInstance (ne2 inferInstance (ne2 inferInstance (ne2 inferInstance (ne2 a4e (ne2 inferInstance inferInstance))))))))))))))
theorem b4l : Nonempty (Nat × Nat × Option (List Code) × b9p × Scope × Addr × Value × List (b9p × Addr) × List Env × Around × Heap × Heap × Addr × (b9p → Option Value) × Shared × (Value → Shared → Prop) × (Value → Shared → Prop)) :=
 ne2 inferInstance (ne2 inferInstance (ne2 inferInstance (ne2 inferInstance (ne2 a5G (ne2 inferInstance (ne2 inferInstance (ne2 inferInstance (ne2 inferInstance (ne2 a4n (ne2 inferInstance (ne2 inferInstance (ne2 inferInstance (ne2 inferInstance (ne2 a4e (ne2 inferInstance inferInstance)))))))))))))))
noncomputable def eq2 {α1 α2 : Type} (ne : Nonempty (α1 × α2)) (P : α1 → α2 → Prop) : α1 × α2 := @b9T _ ne fun t => P (p1 t) (q1 t)
theorem ex2 {P : α1 → α2 → Prop} (ne : Nonempty (α1 × α2)) (h : ∃ x1 x2, P x1 x2) {G : Prop} (k : Hd2 (fun x1 x2 => P x1 x2 → G) (p1 (eq2 ne P)) (q1 (eq2 ne P))) : G := h.elim fun x1 h => h.elim fun x2 h => k (a5S ne (P := fun t : α1 × α2 => P (p1 t) (q1 t)) ⟨(x1, x2), h⟩)
noncomputable def eq3 {α1 α2 α3 : Type} (ne : Nonempty (α1 × α2 × α3)) (P : α1 → α2 → α3 → Prop) : α1 × α2 × α3 := @b9T _ ne fun t => P (p1 t) (p2 t) (q2 t)
theorem ex3 {P : α1 → α2 → α3 → Prop} (ne : Nonempty (α1 × α2 × α3)) (h : ∃ x1 x2 x3, P x1 x2 x3) {G : Prop} (k : Hd3 (fun x1 x2 x3 => P x1 x2 x3 → G) (p1 (eq3 ne P)) (p2 (eq3 ne P)) (q2 (eq3 ne P))) : G := h.elim fun x1 h => h.elim fun x2 h => h.elim fun x3 h => k (a5S ne (P := fun t : α1 × α2 × α3 => P (p1 t) (p2 t) (q2 t)) ⟨(x1, x2, x3), h⟩)
noncomputable def eq4 {α1 α2 α3 α4 : Type} (ne : Nonempty (α1 × α2 × α3 × α4)) (P : α1 → α2 → α3 → α4 → Prop) : α1 × α2 × α3 × α4 := @b9T _ ne fun t => P (p1 t) (p2 t) (p3 t) (q3 t)
theorem ex4 {P : α1 → α2 → α3 → α4 → Prop} (ne : Nonempty (α1 × α2 × α3 × α4)) (h : ∃ x1 x2 x3 x4, P x1 x2 x3 x4) {G : Prop} (k : Hd4 (fun x1 x2 x3 x4 => P x1 x2 x3 x4 → G) (p1 (eq4 ne P)) (p2 (eq4 ne P)) (p3 (eq4 ne P)) (q3 (eq4 ne P))) : G := h.elim fun x1 h => h.elim fun x2 h => h.elim fun x3 h => h.elim fun x4 h => k (a5S ne (P := fun t : α1 × α2 × α3 × α4 => P (p1 t) (p2 t) (p3 t) (q3 t)) ⟨(x1, x2, x3, x4), h⟩)
noncomputable def eq5 {α1 α2 α3 α4 α5 : Type} (ne : Nonempty (α1 × α2 × α3 × α4 × α5)) (P : α1 → α2 → α3 → α4 → α5 → Prop) : α1 × α2 × α3 × α4 × α5 := @b9T _ ne fun t => P (p1 t) (p2 t) (p3 t) (p4 t) (q4 t)
theorem ex5 {P : α1 → α2 → α3 → α4 → α5 → Prop} (ne : Nonempty (α1 × α2 × α3 × α4 × α5)) (h : ∃ x1 x2 x3 x4 x5, P x1 x2 x3 x4 x5) {G : Prop} (k : Hd5 (fun x1 x2 x3 x4 x5 => P x1 x2 x3 x4 x5 → G) (p1 (eq5 ne P)) (p2 (eq5 ne P)) (p3 (eq5 ne P)) (p4 (eq5 ne P)) (q4 (eq5 ne P))) : G := h.elim fun x1 h => h.elim fun x2 h => h.elim fun x3 h => h.elim fun x4 h => h.elim fun x5 h => k (a5S ne (P := fun t : α1 × α2 × α3 × α4 × α5 => P (p1 t) (p2 t) (p3 t) (p4 t) (q4 t)) ⟨(x1, x2, x3, x4, x5), h⟩)
noncomputable def eq6 {α1 α2 α3 α4 α5 α6 : Type} (ne : Nonempty (α1 × α2 × α3 × α4 × α5 × α6)) (P : α1 → α2 → α3 → α4 → α5 → α6 → Prop) : α1 × α2 × α3 × α4 × α5 × α6 := @b9T _ ne fun t => P (p1 t) (p2 t) (p3 t) (p4 t) (p5 t) (q5 t)
theorem ex6 {P : α1 → α2 → α3 → α4 → α5 → α6 → Prop} (ne : Nonempty (α1 × α2 × α3 × α4 × α5 × α6)) (h : ∃ x1 x2 x3 x4 x5 x6, P x1 x2 x3 x4 x5 x6) {G : Prop} (k : Hd6 (fun x1 x2 x3 x4 x5 x6 => P x1 x2 x3 x4 x5 x6 → G) (p1 (eq6 ne P)) (p2 (eq6 ne P)) (p3 (eq6 ne P)) (p4 (eq6 ne P)) (p5 (eq6 ne P)) (q5 (eq6 ne P))) : G := h.elim fun x1 h => h.elim fun x2 h => h.elim fun x3 h => h.elim fun x4 h => h.elim fun x5 h => h.elim fun x6 h => k (a5S ne (P := fun t : α1 × α2 × α3 × α4 × α5 × α6 => P (p1 t) (p2 t) (p3 t) (p4 t) (p5 t) (q5 t)) ⟨(x1, x2, x3, x4, x5, x6), h⟩)
noncomputable def eq7 {α1 α2 α3 α4 α5 α6 α7 : Type} (ne : Nonempty (α1 × α2 × α3 × α4 × α5 × α6 × α7)) (P : α1 → α2 → α3 → α4 → α5 → α6 → α7 → Prop) : α1 × α2 × α3 × α4 × α5 × α6 × α7 := @b9T _ ne fun t => P (p1 t) (p2 t) (p3 t) (p4 t) (p5 t) (p6 t) (q6 t)
theorem ex7 {P : α1 → α2 → α3 → α4 → α5 → α6 → α7 → Prop} (ne : Nonempty (α1 × α2 × α3 × α4 × α5 × α6 × α7)) (h : ∃ x1 x2 x3 x4 x5 x6 x7, P x1 x2 x3 x4 x5 x6 x7) {G : Prop} (k : Hd7 (fun x1 x2 x3 x4 x5 x6 x7 => P x1 x2 x3 x4 x5 x6 x7 → G) (p1 (eq7 ne P)) (p2 (eq7 ne P)) (p3 (eq7 ne P)) (p4 (eq7 ne P)) (p5 (eq7 ne P)) (p6 (eq7 ne P)) (q6 (eq7 ne P))) : G := h.elim fun x1 h => h.elim fun x2 h => h.elim fun x3 h => h.elim fun x4 h => h.elim fun x5 h => h.elim fun x6 h => h.elim fun x7 h => k (a5S ne (P := fun t : α1 × α2 × α3 × α4 × α5 × α6 × α7 => P (p1 t) (p2 t) (p3 t) (p4 t) (p5 t) (p6 t) (q6 t)) ⟨(x1, x2, x3, x4, x5, x6, x7), h⟩)
noncomputable def eq8 {α1 α2 α3 α4 α5 α6 α7 α8 : Type} (ne : Nonempty (α1 × α2 × α3 × α4 × α5 × α6 × α7 × α8)) (P : α1 → α2 → α3 → α4 → α5 → α6 → α7 → α8 → Prop) : α1 × α2 × α3 × α4 × α5 × α6 × α7 × α8 := @b9T _ ne fun t => P (p1 t) (p2 t) (p3 t) (p4 t) (p5 t) (p6 t) (p7 t) (q7 t)
theorem ex8 {P : α1 → α2 → α3 → α4 → α5 → α6 → α7 → α8 → Prop} (ne : Nonempty (α1 × α2 × α3 × α4 × α5 × α6 × α7 × α8)) (h : ∃ x1 x2 x3 x4 x5 x6 x7 x8, P x1 x2 x3 x4 x5 x6 x7 x8) {G : Prop} (k : Hd8 (fun x1 x2 x3 x4 x5 x6 x7 x8 => P x1 x2 x3 x4 x5 x6 x7 x8 → G) (p1 (eq8 ne P)) (p2 (eq8 ne P)) (p3 (eq8 ne P)) (p4 (eq8 ne P)) (p5 (eq8 ne P)) (p6 (eq8 ne P)) (p7 (eq8 ne P)) (q7 (eq8 ne P))) : G := h.elim fun x1 h => h.elim fun x2 h => h.elim fun x3 h => h.elim fun x4 h => h.elim fun x5 h => h.elim fun x6 h => h.elim fun x7 h => h.elim fun x8 h => k (a5S ne (P := fun t : α1 × α2 × α3 × α4 × α5 × α6 × α7 × α8 => P (p1 t) (p2 t) (p3 t) (p4 t) (p5 t) (p6 t) (p7 t) (q7 t)) ⟨(x1, x2, x3, x4, x5, x6, x7, x8), h⟩)
abbrev TT := Lean.TSyntax `tactic
abbrev SK := List (Lean.Name × Array b9E)
def b3D (x : b9E) : SK → SK
 | (k, a) :: r => (k, a.push x) :: r
 | [] => []
def b3t : SK → SK
 | (k, a) :: r => b3D (.node .none k a) r
 | [] => []
def kd9 (s : String) : Lean.Name := (s.splitOn ".").foldl (fun n c => if c == "T" then `Lean.Parser.Tactic else if c == "M" then `Lean.Parser.Term else .str n c) .anonymous
def b9f (v : Array b9E) (k : SK) (t : String) : SK :=
 let d := String.ofList (t.toList.drop 1)
 let c := t.toList.headD ' '
 if c == '(' then (kd9 d, #[]) :: k
 else if c == '[' then (`null, #[]) :: k
 else if c == ')' then b3t k
 else if c == ']' then b3t k
 else if c == '{' then (`null, #[]) :: (kd9 "T.tacticSeq1Indented", #[]) :: (kd9 "T.tacticSeq", #[]) :: k
 else if c == '}' then b3t (b3t (b3t k))
 else if c == '$' then b3D (v.getD d.toNat! .missing) k
 else if c == '^' then b3D (.atom .none d) k
 else b3D (.atom .none t) k
def st9 (s : String) (v : Array b9E) : b9E := (((s.splitOn " ").foldl (b9f v) [(`null, #[])]).headD (`null, #[])).2.getD 0 .missing
def b3H (v : Array b9E) : b9E := .node .none `null v
def a7c (n : String) : b9E := (Lean.mkIdent (.str .anonymous n)).raw
def b9b (s : String) : b9E := (Lean.Syntax.mkStrLit s).raw
def nd9 (k : Lean.Name) (a : Array b9E) : b9E := .node .none k a
def sy9 (s : String) : b9E := .atom .none s
def bl9 (a : Array b9E) : b9E := nd9 `Lean.Parser.Tactic.tacticSeq #[nd9 `Lean.Parser.Tactic.tacticSeq1Indented #[nd9 `null a]]
def kx9 (s : String) : TT := ⟨nd9 `PySem.W.tacticK_extra_ #[sy9 "k_extra", b9b s]⟩
def sq9 (a b : TT) : TT := ⟨nd9 `Lean.Parser.Tactic.paren #[sy9 "(", bl9 #[a, sy9 ";", b], sy9 ")"]⟩
def or9 (a b : TT) : TT := ⟨nd9 `Lean.Parser.Tactic.first #[sy9 "first", nd9 `null #[nd9 `group #[sy9 "|", bl9 #[a]], nd9 `group #[sy9 "|", bl9 #[b]]]]⟩
def wr9 (a : TT) : TT := ⟨st9 "(T.withReducible with_reducible { $0 } )" #[a]⟩
def in9 (v : Array b9E) : TT := ⟨st9 "(PySem.W.tacticK_dflt_ k_dflt (T.intros intros $0 ) )" #[b3H v]⟩
def it9 (v : Array b9E) : TT := ⟨st9 "(T.intro intro $0 )" #[b3H v]⟩
def is9 (x : b9E) : TT := ⟨st9 "(T.intros intros [ $0 ] )" #[x]⟩
def rv9 (v : Array b9E) : TT := ⟨st9 "(T.revert revert $0 )" #[b3H v]⟩
def ro9 (n : String) (e : b9E) : TT := ⟨st9 "(T.refine refine (M.app $0 [ $1 (M.syntheticHole ? _ ) ] ) )" #[a7c n, e]⟩
def rf9 (n : String) (e : b9E) : TT := ⟨st9 "(T.refine refine (M.app $0 [ (M.byTactic by { $2 } ) $1 (M.syntheticHole ? _ ) ] ) )" #[a7c n, e, kx9 "g:ne"]⟩
def ck9 (e : b9E) : TT := ⟨st9 "(T.failIfSuccess fail_if_success { (T.failIfSuccess fail_if_success { (T.refine refine (M.app (M.explicit @ $0 ) [ (M.hole _ ) (M.hole _ ) (M.byTactic by { $2 } ) $1 (M.hole _ ) (M.syntheticHole ? _ ) ] ) ) } ) } )" #[a7c "ex_eps", e, kx9 "g:ne1"]⟩
def rc9 (h : String) (m : b9E) : TT := ⟨st9 "(T.paren ^( { (T.tactic_<;>_ (T.obtain obtain [ $1 ] [ ] [ := [ $0 ] ] ) <;> (T.tacticTry_ try { (T.clear clear [ $0 ] ) } ) ) } ^) )" #[a7c h, m]⟩
def tu9 (a : Array b9E) : b9E := st9 "(T.rcasesPatMed [ (T.rcasesPat.tuple ⟨ $0 ⟩ ) ] )" #[b3H (Lean.mkSepArray a (.atom .none ","))]
def rr9 (e : b9E) (a : Array b9E) : TT := ⟨st9 "(T.rcases rcases [ (T.elimTarget [ ] $0 ) ] [ with (T.rcasesPatLo $1 [ ] ) ] )" #[e, tu9 a]⟩
def id9 (x : b9E) : b9E := (x.find? (·.isIdent)).getD .missing
def pl9 (x : b9E) : Bool := (x.find? (·.isAtom)).isNone && x.getHeadInfo?.isSome && (id9 x).getId != `rfl
def nm9 : List b9E → Nat
 | x :: r => if pl9 x && (id9 x).isIdent then nm9 r + 1 else 0
 | [] => 0
def b4E (h : String) (x : b9E) : TT := if pl9 x then is9 (id9 x) else sq9 (is9 (a7c h)) (rc9 h x[0])
def tl9 (r : Array b9E) : TT := if r.size == 1 then b4E "hE9" r[0]! else sq9 (is9 (a7c "hE9")) (rc9 "hE9" (tu9 r))
def b4m (a : Array b9E) : Array b9E := (a.toList.map id9).toArray
def no9 : TT := kx9 "g:none"
def wq9 : List Char → TT
 | [] => kx9 "w:."
 | c :: l => sq9 (kx9 ("w:" ++ c.toString)) (wq9 l)
def b4r (w : Bool) (k : Nat) (e : b9E) (a : Array b9E) : TT :=
 let c := sq9 (rf9 s!"ex{k}" e) (sq9 (kx9 s!"a:{k}") (in9 (b4m (a.extract 0 k))))
 sq9 (if w then wr9 c else c) (tl9 (a.extract k a.size))
def b5c (k : Nat) (e : b9E) (a : Array b9E) : TT := sq9 (sq9 (ro9 s!"exo{k}" e) (in9 (b4m (a.extract 0 k)))) (tl9 (a.extract k a.size))
def b6v (t : TT) : List b9E → TT
 | x :: r => b6v (sq9 t (b4E "hE8" x)) r
 | [] => t
def b5s (k : Nat) (e : b9E) (a : Array b9E) : TT := sq9 (b6v (ro9 s!"ando{k}" e) (a.toList.take (k - 1))) (tl9 (a.extract (k - 1) a.size))
def a8S (f : Nat → TT) (lo : Nat) (z : TT) : Nat → TT
 | 0 => z
 | k + 1 => if k < lo then z else or9 (f (k + 1)) (a8S f lo z k)
def b5a (e : b9E) (a : Array b9E) : TT :=
 let w := a.toList.mapIdx fun j x => if pl9 x then x else st9 "(T.rcasesPatLo (T.rcasesPatMed [ (T.rcasesPat.one $0 ) ] ) [ ] )" #[a7c s!"hF{j}x"]
 a.toList.zipIdx.foldl (fun t p => if pl9 p.1 then t else sq9 t (rc9 s!"hF{p.2}x" p.1[0])) (rr9 e w.toArray)
def ob9 (e : b9E) (a : Array b9E) : TT :=
 let n := min (nm9 a.toList) (a.size - 1)
 let p := a[0]![0][0][0]
 let qs := if p.getKind == kd9 "T.rcasesPat.tuple" then p[1].getSepArgs else #[]
 let t0 := if qs.size == 7 then sq9 (sq9 (ro9 "ex_box" e) (sq9 (kx9 "a:7") (in9 (b4m qs)))) (tl9 (a.extract 1 a.size)) else if qs.size == 0 then b4r false 1 e a else no9
 let t4 := sq9 (ro9 "and_el" e) (sq9 (b4E "hE8" a[0]!) (tl9 (a.extract 1 a.size)))
 let on := or9 (a8S (fun j => b4r true j e a) 1 no9 (min 8 n)) (or9 (sq9 (ck9 e) (a8S (fun j => b4r false j e a) 1 no9 (min 8 n))) (or9 t0 (or9 t4 (b5a e a))))
 let off := a8S (fun j => b5c j e a) 1 (a8S (fun j => b5s j e a) 2 no9 (min a.size 12)) (min 13 n)
 or9 (sq9 (kx9 "g:on") on) (or9 (sq9 (kx9 "g:off9") off) (rr9 e a))
def b6C : List Char → List Char
 | c :: r => if c.isAlpha then c :: b6C r else []
 | [] => []
def b4M (x : b9E) : Bool :=
 let s := x.getId.toString; let l := s.toList; let g := String.ofList (b6C l)
 !x.isIdent || (s.splitOn "off").headD "-" == "" || ("F N B X T Y l e q FG lF ne lt XB TB".splitOn " ").any (· == g) || (l.headD ' ' == 'h' && ((l.drop 1).headD '1').isAlpha)
def b2O : List b9E → Nat
 | x :: r => if b4M x then 0 else b2O r + 1
 | [] => 0
def b3o (cm : Bool) (v : Array b9E) : TT := let b := sq9 (kx9 s!"c:{v.size}") (sq9 (in9 v) (kx9 s!"h:{v.size}")); if cm then sq9 (kx9 "g:on") b else b
def b6N (x : b9E) (z : TT) : TT := or9 (sq9 (kx9 "i:1") (sq9 (in9 #[x]) (kx9 "h:1"))) z
def b8I (v : Array b9E) : TT :=
 let k := min 17 (b2O v.toList); let z := sq9 (it9 (v.extract 0 1)) (it9 (v.extract 1 v.size))
 if k < 2 then z else let c := b3o true (v.extract 0 k); let r := v.extract k v.size; or9 (if r.isEmpty then c else sq9 c (it9 r)) z
def b7D : Nat → Array b9E → TT
 | 0, v => b3o false v
 | f + 1, v => let s := v.size; let n := if 24 ≤ s then 24 else 17; if s ≤ n then b3o false v else sq9 (b3o false (v.extract 0 n)) (b7D f (v.extract n s))
def b8K (xs : Array b9E) : Option TT :=
 let w := xs[0]!.getId; let v := xs.extract 1 xs.size
 if xs.size < 2 then none else if w == `cm9 then some (if v.size < 2 then it9 v else or9 (b3o true v) (it9 v)) else if w == `cl9 then some (sq9 (rv9 v) (b7D 9 v)) else none
def b8F (t : TT) : TT := ⟨nd9 `PySem.W.tacticK_dflt_ #[sy9 "k_dflt", t]⟩
def b7S (s : String) : List String → TT
 | p :: r => or9 (kx9 (p ++ s)) (b7S s r)
 | [] => no9
def b9d (s : String) (l : List String) : TT := let t := b7S s l; if s == "call ref" then b8F t else t
def b4I : List String := "CompSrc;CompSrcT;SrcLP;SrcTwo;assign Tuple;binaryOp Add ref ref;call builtin:Exception.__init__;call builtin:dict.pop;call builtin:len;call builtin:list.append;call builtin:sorted;call builtin:str.join;call builtin:str.split;call ref;call type:list;call type:set;call type:tuple;call type:zip;compareOp Eq ref ref;compareOp In str ref;compareOp NotEq ref ref;compareOp NotIn str ref;eval Call;eval Dict cons cons;eval ListComp;eval Name;exec Assign cons ListComp;exec For Name Call cons nil;exec For Name Name cons nil;exec For Tuple Call cons nil;exec For Tuple Name cons nil;exec If;exec Raise some none;execs nil;getAttr ref;getItem ref str;getMethod ref;getMethod type:Exception;isTrue BoolOp;isTrue Compare;ite;leaving ref;newList;ownRaise ref;pyIter ref;setAttr ref int;setAttr ref str;setItem ref str;spliced;storeName;subscriptTail;subscriptTail Call Name nil nil Call ref int;subscriptTail Name Constant ref int;subscriptTail Name Slice ref ref".splitOn ";"
def b8G (s : String) : Bool := List.any b4I (· == s)
def b5f : List (List String) := ("Zx m:;Zw m:;Zv s: m:;Zu s: m:;Zt m:;Zs s: m:;Zr s: m:;Zq s: m:;Zp s: m:;Zo s: m:;Zn s: m:;Zm m:;Zl m:;Zk m:;Zj s: e: m:;Zh s: m:;Zg s: m:;Zd m:;Zc m:;Zb m:;Yb s: m:;Ya s: m:;Y9 s: m:;Y8 s: m:;Y7 m:;Y6 m:;Y5 m:;Y4 m:;Y3 e: m:;Y2 e: m:;Y1 m:;N9 s: e: m:;N8 s: e: m:;N7 e: m:;N5 s: e: m:;N4 s: e: m:;N3 s: e: m:;N2 s: e: m:;N1 e: m:;E2 e: m:;E1 e: m:;S4 s: e: m:;S3 s: e: m:;S2 s: e: m:;S1 s: e: m:;S0 m:;X5 m:;X3 m:;X2 m:;X1 m:;F2 m:;F1 m:".splitOn ";").map (·.splitOn " ")
def b6O : List (List String) → Lean.MacroM (List String)
 | (p :: e) :: r => do if (← Lean.Macro.resolveGlobalName (.str .anonymous ("era_" ++ p))).isEmpty then b6O r else return (p ++ ":") :: e
 | _ => return []
noncomputable def b0o (env : Env) (m : b9p → Option Value) (k : Nat) : c0J → Option (Value × Nat)
 | .Name x _ => if env.kindOf x = some .local then if (x == ("__debug__" : b9p)) = false then (m x).map fun v => (v, k) else none else none
 | .Constant (.str x) _ _ => some (.str x k, k + 1)
 | .Constant (.int i) _ _ => some (.int i k, k + 1)
 | .Constant (.bool b) _ _ => some (.bool b, k)
 | .Constant .none _ _ => some (.none, k)
 | _ => none
noncomputable def a5q (env : Env) (m : b9p → Option Value) : Nat → List c0J → Option (List Value × Nat)
 | k, [] => some ([], k)
 | k, e :: es => match b0o env m k e with
  | some (v, k1) => match a5q env m k1 es with
   | some (vs, k2) => some (v :: vs, k2)
   | none => none
  | none => none
theorem a1E {v : α} {P : Prop} (h : none = some v) : P := nomatch h
theorem a4H {ex : c0J} {v : Value} (hk : env.scope.kind = .function) (hn : s.heap.Ns env.locals m) (e : b0o env m s.toks ex = some (v, k)) (h : Q v { s with toks := k }) : wpAny M A (eval ex env) Q E s := by
 cases ex with
 | Name x pos =>
  by_cases h1 : env.kindOf x = some .local
  ·by_cases h2 : (x == ("__debug__" : b9p)) = false
   ·obtain ⟨v', hv, e⟩ := c0O.mp (show (m x).map (fun v => (v, s.toks)) = some (v, k) from (if_pos h2).symm.trans ((if_pos h1).symm.trans e))
    obtain ⟨rfl, rfl⟩ := c1l e
    exact wpAny_Name (wpAny_loadName_local hk h1 hn hv h) h2
   ·exact a1E (show none = some (v, k) from (if_neg h2).symm.trans ((if_pos h1).symm.trans e))
  ·exact a1E (show none = some (v, k) from (if_neg h1).symm.trans e)
 | Constant c _ _ => cases c with
  | str => obtain ⟨rfl, rfl⟩ := c1l (b9U e); exact Calls.Constant_str h
  | int => obtain ⟨rfl, rfl⟩ := c1l (b9U e); exact wpAny_Constant_int h
  | bool => obtain ⟨rfl, rfl⟩ := c1l (b9U e); exact wpAny_Constant_bool h
  | none => obtain ⟨rfl, rfl⟩ := c1l (b9U e); exact wpAny_Constant_none h
  | _ => exact a1E e
 | _ => exact a1E e
theorem a8A {ex : c0J} {r : Value × Nat} (e : b0o env m k ex = some r) (rest : List c0J) : starEach (ex :: rest) env = (false, eval ex env) :: starEach rest env := by
 cases ex <;> first | rfl | exact a1E e
theorem a2i {x : c0J} {es : List c0J} (e : a5q env m k (x :: es) = some (vs, k')) : ∃ v k1 vs2, b0o env m k x = some (v, k1) ∧ a5q env m k1 es = some (vs2, k') ∧ vs = v :: vs2 := by
 unfold a5q at e
 cases h1 : b0o env m k x with
 | none => rw [h1] at e; exact a1E e
 | some r =>
  rw [h1] at e
  obtain ⟨v, k1⟩ := r
  dsimp only at e
  cases h2 : a5q env m k1 es with
  | none => rw [h2] at e; exact a1E e
  | some r2 =>
   rw [h2] at e
   obtain ⟨vs2, k2⟩ := r2
   obtain ⟨rfl, rfl⟩ := c1l (b9U e)
   exact ⟨v, k1, vs2, rfl, h2, rfl⟩
theorem a3C (hk : env.scope.kind = .function) {gs : Array GenState} {os : OsState} (hn : h.Ns env.locals m) {es : List c0J} {Q : List Value → Shared → Prop} (e : a5q env m k es = some (vs, k')) (q : Q vs ⟨h, gs, dr, k', os⟩) : wpAny M A (spliced (backTo pos (starEach es env))) Q E ⟨h, gs, dr, k, os⟩ := by
 induction es generalizing k vs Q with
 | nil =>
  obtain ⟨rfl, rfl⟩ := c1l (b9U e)
  exact args_nil q
 | cons x es ih =>
  obtain ⟨v, k1, vs2, e1, e2, rfl⟩ := a2i e
  exact args_cons (a4H hk hn e1 (ih e2 q)) (a8A e1 es)
theorem a8a {a : Addr} {es : List c0J} {Q : List Value → Shared → Prop} (F : Fr h₀ L s.heap m) (e : a5q (envX cn cs L a ccd cl) m s.toks es = some (vs, k)) (h : Q vs { s with toks := k }) (hk : cs.kind = .function) : wpAny M A (spliced (backTo pos (starEach es (envX cn cs L a ccd cl)))) Q E s := a3C hk F.ns e h
theorem b3q {K : Frag} {a g : Addr} {p : Program} {pf : Pos} {es : List c0J} (F : Fr h₀ L s.heap m) (X : K.In h₀) (T : TopRead p loose mg mb h₀) (e : a5q (envX cn cs L a ccd cl) m s.toks es = some (vs, k)) (n : nsIn K mainGlobals f = some (some (.ref g))) (hf : keepIn K (.ref g) = true) (h : wpAny M A (call (.ref g) vs) Q E { s with toks := k }) (hk : cs.kind = .function) (hx : (envX cn cs L a ccd cl).kindOf f = some .globalImplicit) (hd : (f == ("__debug__" : b9p)) = false) : wpAny M A (eval (.Call (.Name f pf) es [] pos) (envX cn cs L a ccd cl)) Q E s := by
 have X' : K.In s.heap := Frag.In.keeps X F.keep
 refine Call_ (nameX_K F X T n ?_ hk hx hd)
 cases es with
 | nil =>
  obtain ⟨rfl, rfl⟩ := c1l (b9U e)
  exact callWith_K0 X' hf h
 | cons x es =>
  obtain ⟨v, k1, vs2, e1, e2, rfl⟩ := a2i e
  refine callWith_K X hf (a3C hk F.ns e ⟨X', h⟩) (a8A e1 es) ?_
  clear e h e1
  induction es generalizing k1 vs2 with
  | nil => rfl
  | cons y ys ih =>
   obtain ⟨v1, k3, vs3, e3, e4, rfl⟩ := a2i e2
   rw [a8A e3 ys]
   exact ih _ _ e4
theorem b2f {p : Program} {a : Addr} {l r : c0J} {k1 k2 : Nat} {a8x : Sem Value} {Q : Bool → Shared → Prop} (F : Fr h₀ L s.heap m) (e1 : b0o (envX cn cs L a ccd cl) m s.toks l = some (.str x t, k1)) (e2 : b0o (envX cn cs L a ccd cl) m k1 r = some (.str y u, k2)) (h : Q (x == y) { s with toks := k2 }) (hk : cs.kind = .function) (hm : behindInMarks .Eq r = false) :
  wpAny (model p w) A (isTrue (.Compare l [.Eq] [r] pos) (envX cn cs L a ccd cl) a8x) Q E s :=
 wpAny_isTrue_Compare1 (a4H hk F.ns e1 (a4H (s := { s with toks := k1 }) hk F.ns e2 (PyProof.Rows.eq_str (wpAny_truthy_bool h)))) hm
theorem b1H {p : Program} {a : Addr} {l r : c0J} {k1 k2 : Nat} {a8x : Sem Value} {Q : Bool → Shared → Prop} (F : Fr h₀ L s.heap m) (e1 : b0o (envX cn cs L a ccd cl) m s.toks l = some (.str x t, k1)) (e2 : b0o (envX cn cs L a ccd cl) m k1 r = some (.str y u, k2)) (h : Q (x != y) { s with toks := k2 }) (hk : cs.kind = .function) (hm : behindInMarks .NotEq r = false) :
  wpAny (model p w) A (isTrue (.Compare l [.NotEq] [r] pos) (envX cn cs L a ccd cl) a8x) Q E s :=
 wpAny_isTrue_Compare1 (a4H hk F.ns e1 (a4H (s := { s with toks := k1 }) hk F.ns e2 (PyProof.Rows.ne_str (wpAny_truthy_bool h)))) hm
noncomputable def a0f (P : Prop) : Prop := P
theorem a0c {P : Prop} (h : a0f P) : P := h
local macro_rules
 | `(tactic| intro $x:ident) => return b6N x (is9 x)
 | `(tactic| intro _) => return b6N (a7c "hH9") ⟨st9 "(T.intros intros [ (M.hole _ ) ] )" #[]⟩
 | `(tactic| intro $x:ident $y $ys*) => return b8I (#[x.raw, y.raw] ++ ys.raw)
 | `(tactic| intro _ $y $ys*) => return sq9 ⟨st9 "(T.intro intro [ (M.hole _ ) ] )" #[]⟩ (it9 (#[y.raw] ++ ys.raw))
local macro_rules | `(tactic| obtain ⟨$ps,*⟩ := $e) => if ps.getElems.size < 2 then c2m else return ob9 e ps.getElems.raw
local macro_rules | `(tactic| revert $xs*) => if let some t := b8K xs.raw then return t else c2m
local macro_rules | `(tactic| walk_at $s:str) => if b8G s.getString then `(tactic| row_timed $s:str (fail)) else c2m
local macro_rules | `(tactic| row_timed $s:str ($t)) => if (t.raw.find? (·.isOfKind `Lean.Parser.Tactic.fail)).isSome then return b9d s.getString (← b6O b5f) else c2m
local macro_rules | `(tactic| walk_say $s:str) => match s.getString.toList with
 | '@' :: l => return wq9 l
 | _ => c2m
local macro_rules | `(tactic| show $t:term) => return st9 "(T.refine refine (M.typeAscription (M.hygienicLParen ^( (hygieneInfo $1 ) ) (M.syntheticHole ? _ ) : [ $0 ] ^) ) )" #[t, a7c "_"]
local macro_rules | `(tactic| k_lt $h) => return st9 "(T.paren ^( { (T.tacticHave__ have (M.letConfig [ ] ) (M.letDecl (M.letIdDecl (M.letId $1 ) [ ] [ ] := $0 ) ) ) ; (T.replace replace (M.letDecl (M.letIdDecl (M.letId $0 ) [ ] [ ] := (M.app $2 [ $0 ] ) ) ) ) ; (T.simp simp (T.optConfig [ ] ) [ ] [ only ] [ ^[ [ (T.simpLemma [ ] [ ] $3 ) , (T.simpLemma [ ] [ ] $4 ) ] ^] ] [ (T.location at (T.locationHyp [ $0 ] ) ) ] ) } ^) )" #[h, a7c "hAll", a7c "allLt_of", a7c "AllLt", a7c "and_true"]
local macro_rules | `(tactic| k_fold) => return kx9 "g:fold"
local macro_rules | `(tactic| dsimp only) => return kx9 "g:ds"
local macro_rules | `(tactic| omega) => return kx9 "g:om"
local macro_rules | `(tactic| ktr_room) => return kx9 "g:room"
local macro_rules | `(tactic| ktr_units) => return kx9 "g:units"
local macro_rules | `(tactic| cell_enter) => return kx9 "g:cell"
local macro_rules | `(tactic| ktr_unf) => return kx9 "g:unf"
local macro_rules | `(tactic| z_head) => return kx9 "g:elim"
local macro_rules | `(tactic| k_mem) => return kx9 "g:mem"
local macro_rules | `(tactic| k_all) => return kx9 "g:all"
theorem b3d : True := by
 k_with "w:." => skip
 k_with "w:p" => with_reducible refine PySem.wpAny_pure ?_
 k_with "w:b" => with_reducible refine PySem.wpAny_bind ?_
 k_with "w:h" => with_reducible refine PySem.wpAny_holding ?_
 k_with "w:e" => with_reducible refine PySem.wpAny_of_eq (by assumption) ?_
 k_with "w:y" => with_reducible refine PySem.wpAny_typeOf (by assumption) ?_
 k_with "w:n" => with_reducible refine PySem.wpAny_specialOf (by assumption) (by assumption) ?_
 k_with "w:i" => with_reducible refine PySem.wpAny_isInstance (by assumption) (by assumption) ?_
 k_with "w:c" => with_reducible refine PySem.wpAny_call ?_
 k_with "w:a" => with_reducible refine PySem.wpAny_alloc' ?_
 k_with "w:l" => ((with_reducible apply PySem.wpAny_load'); focus (heap_get; done))
 k_with "w:L" => ((with_reducible apply PySem.wpAny_loadPart'); focus (heap_get; done))
 k_with "w:F" => ((with_reducible apply PySem.wpAny_ite_false); focus (rfl; done))
 k_with "w:T" => ((with_reducible apply PySem.wpAny_ite_true); focus (rfl; done))
 k_with "w:f" => ((with_reducible apply PySem.wpAny_ite_false); focus (simp [*]; done))
 k_with "w:u" => ((with_reducible apply PySem.wpAny_ite_true); focus (simp [*]; done))
 k_with "w:d" => wp_delta
 k_with "w:P" => with_reducible_and_instances refine PySem.wpAny_pure ?_
 k_with "c:1" => ((with_reducible refine @(cl1 (by k_extra "g:ne") ?_)); k_dflt (refine @((?_ : Ha1 _) _)))
 k_with "h:1" => (first | with_reducible (intros hq9; revert hq9) | refine Hd1.mk ?_)
 k_with "c:2" => ((with_reducible refine @(cl2 (by k_extra "g:ne") ?_)); k_dflt (refine @((?_ : Ha2 _) _ _)))
 k_with "h:2" => (first | with_reducible (intros hq9; revert hq9) | refine Hd2.mk ?_)
 k_with "c:3" => ((with_reducible refine @(cl3 (by k_extra "g:ne") ?_)); k_dflt (refine @((?_ : Ha3 _) _ _ _)))
 k_with "h:3" => (first | with_reducible (intros hq9; revert hq9) | refine Hd3.mk ?_)
 k_with "c:4" => ((with_reducible refine @(cl4 (by k_extra "g:ne") ?_)); k_dflt (refine @((?_ : Ha4 _) _ _ _ _)))
 k_with "h:4" => (first | with_reducible (intros hq9; revert hq9) | refine Hd4.mk ?_)
 k_with "c:5" => ((with_reducible refine @(cl5 (by k_extra "g:ne") ?_)); k_dflt (refine @((?_ : Ha5 _) _ _ _ _ _)))
 k_with "h:5" => (first | with_reducible (intros hq9; revert hq9) | refine Hd5.mk ?_)
 k_with "c:6" => ((with_reducible refine @(cl6 (by k_extra "g:ne") ?_)); k_dflt (refine @((?_ : Ha6 _) _ _ _ _ _ _)))
 k_with "h:6" => (first | with_reducible (intros hq9; revert hq9) | refine Hd6.mk ?_)
 k_with "c:7" => ((with_reducible refine @(cl7 (by k_extra "g:ne") ?_)); k_dflt (refine @((?_ : Ha7 _) _ _ _ _ _ _ _)))
 k_with "h:7" => (first | with_reducible (intros hq9; revert hq9) | refine Hd7.mk ?_)
 k_with "c:8" => ((with_reducible refine @(cl8 (by k_extra "g:ne") ?_)); k_dflt (refine @((?_ : Ha8 _) _ _ _ _ _ _ _ _)))
 k_with "h:8" => (first | with_reducible (intros hq9; revert hq9) | refine Hd8.mk ?_)
 k_with "c:9" => ((with_reducible refine @(cl9 (by k_extra "g:ne") ?_)); k_dflt (refine @((?_ : Ha9 _) _ _ _ _ _ _ _ _ _)))
 k_with "h:9" => (first | with_reducible (intros hq9; revert hq9) | refine Hd9.mk ?_)
 k_with "c:10" => ((with_reducible refine @(cl10 (by k_extra "g:ne") ?_)); k_dflt (refine @((?_ : Ha10 _) _ _ _ _ _ _ _ _ _ _)))
 k_with "h:10" => (first | with_reducible (intros hq9; revert hq9) | refine Hd10.mk ?_)
 k_with "c:11" => ((with_reducible refine @(cl11 (by k_extra "g:ne") ?_)); k_dflt (refine @((?_ : Ha11 _) _ _ _ _ _ _ _ _ _ _ _)))
 k_with "h:11" => (first | with_reducible (intros hq9; revert hq9) | refine Hd11.mk ?_)
 k_with "c:12" => ((with_reducible refine @(cl12 (by k_extra "g:ne") ?_)); k_dflt (refine @((?_ : Ha12 _) _ _ _ _ _ _ _ _ _ _ _ _)))
 k_with "h:12" => (first | with_reducible (intros hq9; revert hq9) | refine Hd12.mk ?_)
 k_with "c:13" => ((with_reducible refine @(cl13 (by k_extra "g:ne") ?_)); k_dflt (refine @((?_ : Ha13 _) _ _ _ _ _ _ _ _ _ _ _ _ _)))
 k_with "h:13" => (first | with_reducible (intros hq9; revert hq9) | refine Hd13.mk ?_)
 k_with "c:14" => ((with_reducible refine @(cl14 (by k_extra "g:ne") ?_)); k_dflt (refine @((?_ : Ha14 _) _ _ _ _ _ _ _ _ _ _ _ _ _ _)))
 k_with "h:14" => (first | with_reducible (intros hq9; revert hq9) | refine Hd14.mk ?_)
 k_with "c:15" => ((with_reducible refine @(cl15 (by k_extra "g:ne") ?_)); k_dflt (refine @((?_ : Ha15 _) _ _ _ _ _ _ _ _ _ _ _ _ _ _ _)))
 k_with "h:15" => (first | with_reducible (intros hq9; revert hq9) | refine Hd15.mk ?_)
 k_with "c:16" => ((with_reducible refine @(cl16 (by k_extra "g:ne") ?_)); k_dflt (refine @((?_ : Ha16 _) _ _ _ _ _ _ _ _ _ _ _ _ _ _ _ _)))
 k_with "h:16" => (first | with_reducible (intros hq9; revert hq9) | refine Hd16.mk ?_)
 k_with "c:17" => ((with_reducible refine @(cl17 (by k_extra "g:ne") ?_)); k_dflt (refine @((?_ : Ha17 _) _ _ _ _ _ _ _ _ _ _ _ _ _ _ _ _ _)))
 k_with "h:17" => (first | with_reducible (intros hq9; revert hq9) | refine Hd17.mk ?_)
 k_with "c:24" => ((with_reducible refine @(cl24 (by k_extra "g:ne") ?_)); k_dflt (refine @((?_ : Ha24 _) _ _ _ _ _ _ _ _ _ _ _ _ _ _ _ _ _ _ _ _ _ _ _ _)))
 k_with "h:24" => (first | with_reducible (intros hq9; revert hq9) | refine Hd24.mk ?_)
 k_with "a:1" => k_dflt (refine @((?_ : Ha1 _) _))
 k_with "a:2" => k_dflt (refine @((?_ : Ha2 _) _ _))
 k_with "a:3" => k_dflt (refine @((?_ : Ha3 _) _ _ _))
 k_with "a:4" => k_dflt (refine @((?_ : Ha4 _) _ _ _ _))
 k_with "a:5" => k_dflt (refine @((?_ : Ha5 _) _ _ _ _ _))
 k_with "a:6" => k_dflt (refine @((?_ : Ha6 _) _ _ _ _ _ _))
 k_with "a:7" => k_dflt (refine @((?_ : Ha7 _) _ _ _ _ _ _ _))
 k_with "a:8" => k_dflt (refine @((?_ : Ha8 _) _ _ _ _ _ _ _ _))
 k_with "i:1" => ((guard_hyp mk9 : a0b); (with_reducible refine @b2h _ _ (by k_extra "g:ne1") ?_); k_dflt (refine @((?_ : Ha1 _) _)))
 k_with "g:on" => (guard_hyp mk9 : a0b)
 k_with "g:off9" => (fail_if_success (guard_hyp mk9 : a0b))
 k_with "g:ds" => (first | (refine' (?k9 : Chg _ _) ?d9 ?_; (case d9 => (intros hx9; dsimp only []; exact hx9)); (case k9 => exact fun _ hx9 => hx9)) | dsimp only [])
 k_with "g:fold" => (guard_hyp mk9 : a0b)
 k_with "m:ite" => (k_closed; k_dflt (first | refine ite_pos (by decide) ?_ | refine ite_neg (by decide) ?_))
 k_with "m:spliced" => (k_here; (with_reducible show wpAny _ _ (spliced (backTo _ (starEach (_ :: _) _))) _ _ _); k_dflt (refine' a8a ?F ?a ?_ ?r; (case r => rfl); (case F => k_asm); (case a => exact rfl); k_whole); (try dsimp only))
 k_with "m:subscriptTail Name Constant ref int" => (k_here; k_dflt (refine' item_tupleT ?t ?a ?b ?c ?d ?_; (case t => exact c0p (by k_asm) (by k_mem)); (case a => decide); (case b => decide); (case c => rfl); (case d => rfl); k_whole))
 k_with "m:eval Call" => (k_here; (with_reducible show wpAny _ _ (eval (Expr.Call (Expr.Name _ _) _ [] _) _) _ _ _); k_dflt (refine' b3q ?F ?X ?T ?a ?n ?f ?_ ?r ?q ?d; (case r => rfl); (case q => rfl); (case d => decide); (case F => k_asm); (case a => exact rfl); (case X => k_asm); (case T => k_asm); (case n => k_is); (case f => k_is); k_whole); (try dsimp only))
 k_with "m:isTrue Compare" => (k_here; k_dflt (first | ((with_reducible show wpAny _ _ (isTrue (.Compare (.Name _ _) [.Eq] [_] _) _ _) _ _ _); refine' b2f ?F ?a ?b ?_ ?r ?q; (case r => rfl); (case q => with_unfolding_all rfl); (case F => k_asm); (case a => exact rfl); (case b => exact rfl); k_whole) | ((with_reducible show wpAny _ _ (isTrue (.Compare (.Name _ _) [.NotEq] [_] _) _ _) _ _ _); refine' b1H ?F ?a ?b ?_ ?r ?q; (case r => rfl); (case q => with_unfolding_all rfl); (case F => k_asm); (case a => exact rfl); (case b => exact rfl); k_whole)); (try dsimp only))
 k_with "g:pk" => (first | with_reducible assumption | with_reducible (refine' pa1 ?zp1; (case zp1 => assumption)) | with_reducible (refine' pa2 ?zp1; (case zp1 => assumption)) | with_reducible (refine' pa3 ?zp1; (case zp1 => assumption)) | with_reducible (refine' pa4 ?zp1; (case zp1 => assumption)) | with_reducible (refine' pa5 ?zp1; (case zp1 => assumption)) | with_reducible (refine' pa6 ?zp1; (case zp1 => assumption)) | with_reducible (refine' pa7 ?zp1; (case zp1 => assumption)) | fail)
 k_with "g:dc" => decide
 k_with "g:lt" => (first | with_reducible (k_extra "g:pk") | ((fail_if_success (with_reducible refine b9l ?_)); with_reducible refine b9N ?_; k_extra "g:lt") | (with_reducible refine' b5v ?zl1 ?zl2; (case zl1 => k_extra "g:pk"); (case zl2 => k_extra "g:lt")))
 k_with "g:b0" => with_reducible (first | k_extra "g:dc" | assumption | (refine' b9W ?zb1 ?zb2; (case zb1 => assumption); (case zb2 => k_extra "g:dc")) | (refine' c0a ?zb1 ?zb2; (case zb1 => assumption); (case zb2 => k_extra "g:dc")) | (refine' b2A ?zb1 ?zb2; (case zb1 => assumption); (case zb2 => k_extra "g:dc")) | (refine' a8y ?zb1 ?zb2; (case zb1 => assumption); (case zb2 => k_extra "g:dc")) | (refine' b9h ?zb1 ?zb2; (case zb1 => assumption); (case zb2 => k_extra "g:dc")))
 k_with "g:b1" => with_reducible (first | (refine' b9W ?zb1 ?zb2; (case zb1 => assumption); (case zb2 => k_extra "g:b0")) | (refine' c0a ?zb1 ?zb2; (case zb1 => assumption); (case zb2 => k_extra "g:b0")) | (refine' b4G ?zb1 ?zb2; (case zb1 => assumption); (case zb2 => k_extra "g:b0")) | (refine' b4f ?zb1 ?zb2; (case zb1 => assumption); (case zb2 => k_extra "g:b0")) | k_extra "g:b0")
 k_with "g:b2" => with_reducible (first | (refine' b9W ?zb1 ?zb2; (case zb1 => assumption); (case zb2 => k_extra "g:b1")) | (refine' c0a ?zb1 ?zb2; (case zb1 => assumption); (case zb2 => k_extra "g:b1")) | (refine' b4G ?zb1 ?zb2; (case zb1 => assumption); (case zb2 => k_extra "g:b1")) | (refine' b4f ?zb1 ?zb2; (case zb1 => assumption); (case zb2 => k_extra "g:b1")) | k_extra "g:b0")
 k_with "g:b3" => with_reducible (first | (refine' b9W ?zb1 ?zb2; (case zb1 => assumption); (case zb2 => k_extra "g:b2")) | (refine' c0a ?zb1 ?zb2; (case zb1 => assumption); (case zb2 => k_extra "g:b2")) | (refine' b4G ?zb1 ?zb2; (case zb1 => assumption); (case zb2 => k_extra "g:b2")) | (refine' b4f ?zb1 ?zb2; (case zb1 => assumption); (case zb2 => k_extra "g:b2")) | k_extra "g:b0")
 k_with "g:om" => (first | with_reducible (first | assumption | (refine b9A ?_; assumption) | (refine b9v ?_; assumption) | (refine b9F ?_; assumption) | (refine b3w ?_; assumption) | (refine b3p ?_; assumption) | (refine b9N ?_; assumption)) | k_extra "g:pk" | (with_reducible refine b9A ?_; k_extra "g:pk") | (with_reducible refine b9v ?_; k_extra "g:pk") | (with_reducible refine b9F ?_; k_extra "g:pk") | (with_reducible refine b3w ?_; k_extra "g:pk") | (with_reducible refine b3p ?_; k_extra "g:pk") | (with_reducible refine b9N ?_; k_extra "g:pk") | with_reducible (first | (refine' b9W ?zo1 ?zo2; (case zo1 => assumption); (case zo2 => k_extra "g:dc")) | (refine' c0a ?zo1 ?zo2; (case zo1 => assumption); (case zo2 => k_extra "g:dc")) | (refine' a8y ?zo1 ?zo2; (case zo1 => assumption); (case zo2 => k_extra "g:dc")) | (refine' b3k ?zo1 ?zo2 ?zo3; (case zo1 => assumption); (case zo2 => assumption); (case zo3 => k_extra "g:dc"))) | ((fail_if_success (fail_if_success (simp only [b3r, b2Q]))); first | with_reducible exact c1m _ _ | with_reducible exact c0a (c1m _ _) (by assumption) | with_reducible exact b9W (c1m _ _) (by assumption)) | with_reducible (first | (refine' b9V ?zo1 ?zo2; (case zo1 => assumption); (case zo2 => assumption)) | (refine' c0t ?zo1 ?zo2; (case zo1 => assumption); (case zo2 => assumption)) | (refine' b9W ?zo1 ?zo2; (case zo1 => assumption); (case zo2 => assumption)) | (refine Nat.le_of_lt ?_; assumption) | (refine Nat.succ_le_of_lt ?_; assumption) | exact c0m _ | (refine' a8R ?zo1 ?zo2; (case zo1 => assumption); (case zo2 => k_extra "g:dc")) | (refine' b2e ?zo1 ?zo2; (case zo1 => assumption); (case zo2 => k_extra "g:dc")) | (refine' b3Q ?zo1 ?zo2; (case zo1 => assumption); (case zo2 => k_extra "g:dc")) | exact b4h (by k_extra "g:dc")) | (with_reducible refine b9v ?_; k_extra "g:lt") | (with_reducible refine b9F ?_; k_extra "g:lt") | k_extra "g:lt" | k_extra "g:b3" | lia | fail)
 k_with "g:room" => (first | first | exact b2e hdp (by k_extra "g:dc") | exact a8R hdp (by k_extra "g:dc") | exact b4H hdp | ((try simp only [depth_under_make, depth_under_kw, depth_in1, depth_deeper, depth_caller] at *); (try dsimp only [a9r] at *); (try simp only [recursionLimit] at *); omega))
 k_with "g:units" => (first | first | exact a8R hun (by k_extra "g:dc") | exact b2e hun (by k_extra "g:dc") | (simp only [units_under_make]; (try dsimp only [a9r]); omega))
 k_with "g:cell" => (first | (refine' code_def ?k1 ?k2 ?k3 ?k4 ?k5 ?kA ?kF ?kK ?k6 ?k7 ?k8 ?k9 ?kB ?_ ?c2 ?c3 ?c4 ?c5; (case kA => exact rfl); (case kF => exact rfl); (case kK => assumption); (case k1 => k_asm); (case k2 => k_asm); (case k3 => k_asm); (case k4 => k_asm); (case k5 => k_asm); (case k6 => k_is); (case k7 => k_is); (case k8 => ktr_room); (case k9 => first | exact c2M rfl | exact binds_K (by k_in) rfl (by k_is) rfl rfl rfl); (case c5 => decide); (case kB => exact locs rfl); (case c2 => exact rfl); (case c3 => exact rfl); (case c4 => exact rfl); k_whole; revert cm9 g' L' h'; intro FG' F' N' B' X' T'; (try dsimp only); (try k_lift B'); (try k_fold)) | (refine' code_defC ?k1 ?k2 ?k3 ?k4 ?k5 ?kA ?kF ?kK ?k6 ?k7 ?k8 ?k9 ?kB ?kD ?_ ?c2 ?c3 ?c4; (case kA => exact rfl); (case kF => exact rfl); (case kK => assumption); (case k1 => k_asm); (case k2 => k_asm); (case k3 => k_asm); (case k4 => k_asm); (case k5 => k_asm); (case k6 => k_is); (case k7 => k_is); (case k8 => ktr_room); (case k9 => first | exact c2M rfl | exact binds_K (by k_in) rfl (by k_is) rfl rfl rfl); (case kB => exact rfl); (case kD => decide); (case c2 => exact rfl); (case c3 => exact rfl); (case c4 => exact rfl); k_whole; revert cm9 g' L' h' tk' cells'; intro FG' F' N' Y' B' X' T' l1; (try k_lt l1); k_cells Y'; (try simp only [c0b, c0c] at N'); (try dsimp only); (try k_lift B'); (try k_fold)))
 k_with "g:unf" => (first
 | (unfold FnX; (with_reducible refine @cl17 _ _ _ _ _ _ _ _ _ _ _ _ _ _ _ _ _ _  b4l ?_); k_dflt (refine @((?_ : Ha17 _) _ _ _ _ _ _ _ _ _ _ _ _ _ _ _ _ _ ); intros dp un gd cn cs a ccd cl outer A₀ base h₀ L m s Q E); intros B F XB N TB hk hdp hun hret hexc; have X := XB.keeps B.stays; have T := TB.keeps B.stays; refine wpAny_call ?_; k_dflt cell_enter; have hx := b2b (E := E) (s := s) (cn := cn) (cs := cs) (ccd := ccd) (cl := cl) (a := a) (by assumption : Fr h₀ L _ m) hexc)
 | (unfold FnD; (with_reducible refine @cl17 _ _ _ _ _ _ _ _ _ _ _ _ _ _ _ _ _ _  b4l ?_); k_dflt (refine @((?_ : Ha17 _) _ _ _ _ _ _ _ _ _ _ _ _ _ _ _ _ _ ); intros dp un gd cn cs a ccd cl outer A₀ base h₀ L m s Q E); intros B F XB N TB hk hdp hun hret; have X := XB.keeps B.stays; have T := TB.keeps B.stays; refine wpAny_call ?_; k_dflt cell_enter)
 | (unfold FnO; (with_reducible refine @cl16 _ _ _ _ _ _ _ _ _ _ _ _ _ _ _ _ _  b8U ?_); k_dflt (refine @((?_ : Ha16 _) _ _ _ _ _ _ _ _ _ _ _ _ _ _ _ _ ); intros dp un gd cn cs a ccd cl A₀ base h₀ L m s Q E); intros B F XB N TB hk hdp hun hret; have X := XB.keeps B.stays; have T := TB.keeps B.stays; refine wpAny_call ?_; k_dflt (refine' a8M ?k1 ?k2 ?k3 ?k4 ?k5 ?kA ?kF ?kK ?k6 ?k7 ?k8 ?k9 ?kB ?_ ?c2 ?c3 ?c4 ?c5; (case kA => exact rfl); (case kF => exact rfl); (case kK => assumption); (case k1 => k_asm); (case k2 => k_asm); (case k3 => k_asm); (case k4 => k_asm); (case k5 => k_asm); (case k6 => k_is); (case k7 => k_is); (case k8 => ktr_room); (case k9 => exact c2M rfl); (case c5 => decide); (case kB => exact locs rfl); (case c2 => exact rfl); (case c3 => exact rfl); (case c4 => exact rfl); k_whole; revert cm9 g' L' h'; intro FG' F' N' B' X' T'; (try dsimp only); (try k_lift B'); (try k_fold)))
 | (unfold Fn; (with_reducible refine @cl17 _ _ _ _ _ _ _ _ _ _ _ _ _ _ _ _ _ _  b4l ?_); k_dflt (refine @((?_ : Ha17 _) _ _ _ _ _ _ _ _ _ _ _ _ _ _ _ _ _ ); intros dp un gd cn cs a ccd cl outer A₀ base h₀ L m s Q E); intros B F XB N TB hk hdp hun hret; have X := XB.keeps B.stays; have T := TB.keeps B.stays; first | (k_dflt (refine' call_cls ?k1 ?k2 ?k3 ?k4 ?k5 ?k6 ?_; (case k1 => k_asm); (case k2 => k_asm); (case k3 => k_asm); (case k4 => k_is); (case k5 => k_is); (case k6 => k_is); k_whole; revert cm9 x' d' h'; intro F' N' l1 l2; (try k_lt2 l2); (try k_sweep)); k_dflt (refine' code_def ?k1 ?k2 ?k3 ?k4 ?k5 ?kA ?kF ?kK ?k6 ?k7 ?k8 ?k9 ?kB ?_ ?c2 ?c3 ?c4 ?c5; (case kA => exact rfl); (case kF => exact rfl); (case kK => assumption); (case k1 => k_asm); (case k2 => k_asm); (case k3 => k_asm); (case k4 => k_asm); (case k5 => k_asm); (case k6 => k_is); (case k7 => k_is); (case k8 => ktr_room); (case k9 => first | exact c2M rfl | exact binds_K (by k_in) rfl (by k_is) rfl rfl rfl); (case c5 => decide); (case kB => exact locs rfl); (case c2 => exact rfl); (case c3 => exact rfl); (case c4 => exact rfl); k_whole; revert cm9 g' L' h'; intro FG' F' N' B' X' T'; (try dsimp only); (try k_lift B'); (try k_fold))) | (refine wpAny_call ?_; k_dflt cell_enter)))
 k_with "g:elim" => (refine @(StR.elim ?_); (with_reducible refine @cl14 _ _ _ _ _ _ _ _ _ _ _ _ _ _ _  b8M ?_); k_dflt (refine @((?_ : Ha14 _) _ _ _ _ _ _ _ _ _ _ _ _ _ _ ); intros S Sd Bx U ob rs subs nxt a1 a2 a3 k1 vs nU); intros O' oD O5 oA; have O3 := O'.lo; have O6 := O'.box; dsimp only at O3 O6; have q1 := oA.1; have q2 := oA.2; have q3 := oA.3; have q4 := oA.4; have q5 := oA.5; have q6 := oA.6; have q7 := oA.7; have q8 := oA.8; have q9 := oA.9; have q10 := oA.10; have O2 := O'; have O := O')
 k_with "g:mem" => (first | with_reducible assumption | with_reducible_and_instances assumption)
 k_with "g:all" => (first | assumption | exact a5c (by assumption) | exact a3Y (by assumption) (by assumption))
 k_with "g:ne1" => (k_whole; first | infer_instance | with_reducible exact a4e | with_reducible exact neObj | with_reducible exact b1x | with_reducible exact neWorld | with_reducible exact b1M | with_reducible exact b0I | with_reducible exact b9m | with_reducible exact b5e | with_reducible exact b2E | with_reducible exact b2Z | with_reducible exact b5O)
 k_with "g:ne" => (k_whole; repeat (first | with_reducible refine ne2 ?_ ?_ | k_extra "g:ne1" | with_reducible exact a4n | with_reducible exact a5G | with_reducible exact a6h))
 k_with "e:exec Raise some none" => ((k_here; refine a8G ?_))
 k_with "e:ownRaise ref" => ((k_here; (refine' a3d ?c1 ?c2 ((by assumption : News _ _ _ _) _ (.head _)).1 (a7D rfl ?_); (case c1 => first | exact .inl rfl | exact .inr rfl); (case c2 => k_in))))
 k_with "e:leaving ref" => ((k_here; first
 | (refine' a9x ?k1 ?k2 ?k3 ?k4 ?k5 ?k6 ?k7 ?_; (case k3 => assumption); (case k1 => assumption); (case k2 => assumption); (case k4 => assumption); (case k5 => assumption); (case k6 => exact rfl); (case k7 => exact rfl); k_whole; intro h' thX'; (try dsimp only))
 | (refine' a4z ?k1 ?k2 ?k3 ?c1 ?c2 ?c3 ?c4 ?c5 ?k4 ?k5 ?k6 ?_; (case k3 => assumption); (case k1 => assumption); (case k2 => assumption); (case c1 => exact rfl); (case c2 => exact rfl); (case c3 => exact rfl); (case c4 => exact rfl); (case c5 => exact rfl); (case k4 => intro p hp; rcases b9r.mp hp with rfl | hp; exact (by assumption); exact b9v (by first | exact (by assumption : ∀ p ∈ _, p.1 < _) p hp)); (case k5 => exact rfl); (case k6 => exact rfl); k_whole; intro h' thX'; (try dsimp only))))
 k_with "s:getMethod ref" => ((k_here; (with_reducible show wpAny _ _ (getMethod (b9t _) (b9q "pop") _) _ _ _); k_dflt (refine' kdl_method PySem.F.slot_dict_pop PySem.F.type_dict_pop ?N ?p (show c1n (kS _) _ _ from ?d) ?_; (case N => k_asm); (case p => k_mem); (case d => assumption))))
 k_with "s:call builtin:dict.pop" => ((k_here; k_dflt (refine' kob_pop (knd := kS _) (more := []) ?F ?N ?U ?d (b9X _ _ _ _) (.inl rfl) (by rfl) (c2N _ _) ?l ?z ?_; (case F => k_asm); (case N => k_asm); (case U => k_updF); (case d => assumption); (case l => assumption); (case z => (rw [b9O]; simp only [a0t, b9z]; omega))); intro h' ob' F' N' hob'; (try dsimp only at N'); (try k_sweep)))
 k_with "s:setItem ref str" => ((k_here; k_dflt (refine' kda_set (knd := kS _) ?F ?N ?U ?d (b9X _ _ _ _) ?z ?_; (case F => k_asm); (case N => k_asm); (case U => k_updF); (case d => assumption); (case z => (rw [b9O]; simp only [a0t, b9z]; omega))); intro h' ob' F' N' hob'; (try dsimp only at N'); (try k_sweep)))
 k_with "s:getItem ref str" => ((k_here; k_dflt (refine' kdt_getItem (knd := kS _) ?k1 ?k2 ?k3 (b9X _ _ _ _) ?k4 ?_; (case k1 => k_asm); (case k2 => k_mem); (case k3 => assumption); (case k4 => assumption))))
 k_with "s:compareOp In str ref" => ((k_here; k_dflt (refine' kda_in (knd := kS _) ?k1 ?k2 ?k3 ?k4 (b9X _ _ _ _) _ b1a ?_; (case k1 => k_asm); (case k2 => k_mem); (case k3 => assumption); (case k4 => assumption))))
 k_with "g:kH" => (first | exact HdIn.none | assumption | exact HdIn.sub (by assumption) (fun p hp => .tail _ hp) | exact HdIn.sub (by assumption) (fun p hp => .tail _ (.tail _ hp)))
 k_with "g:kR" => (intro p hp; (repeat (refine' b9D _ ?_)); exact hRL p hp)
 k_with "g:kB" => (first | assumption | (refine BoxIn.mono (by assumption) ?_; intro p hp; (repeat (refine' b9D _ ?_)); exact hp))
 k_with "g:off" => (first | assumption | (refine a2F ?_ ?_ <;> first | assumption | omega))
 k_with "g:k4" => (first | k_asm | exact fun p hp => (by assumption : News _ _ _ _) p (by first | exact hp | exact .tail _ hp | exact .tail _ (.tail _ hp) | exact .tail _ (.tail _ (.tail _ hp)) | exact .tail _ (.tail _ (.tail _ (.tail _ hp))) | exact .tail _ (.tail _ (.tail _ (.tail _ (.tail _ hp))))))
 k_with "g:c1" => ((case k1 => k_asm); (case k2 => k_asm); (case k3 => k_asm); (case k5 => k_asm); (case k6 => first | exact rfl | assumption); (case k7 => ktr_room); (case k8 => ktr_units))
 k_with "g:c2" => (k_whole; revert cm9 h' tk' C'; intro hC'; revert cm9 v' news'; intro hR'; (try unfold a3x at hR'))
 k_with "g:d2" => (k_whole; revert cm9 h' tk' dr' C'; intro hC'; revert cm9 v' news'; intro hR'; (try unfold a3x at hR'))
 k_with "g:c3" => (subst hC'; intro F' N'; (try (unfold StR.led at N'; dsimp only at N')))
 k_with "g:c4" => ((try k_sweep); (try dsimp only))
 k_with "g:x2" => (revert cm9 e' h' tk' K'; intro hK'; revert cm9 C' D' cx' nx'; intro hX')
 k_with "g:x3" => (subst hK'; intro thX' hNs' N'; (try dsimp only))
 trivial
noncomputable def ChainOk (h : Heap) (e : Addr) : Prop := ∃ o vs, h.get? e = some o ∧ o.data = .fields vs ∧
 (vs[2]? = some .none ∨ ∃ e2 o2 vs2, vs[2]? = some (.ref e2) ∧ e2 ≠ e ∧ h.get? e2 = some o2 ∧ o2.data = .fields vs2 ∧ vs2[2]? = some .none)
noncomputable def HdOk (hd : Option Value) (h : Heap) : Prop := match hd with
 | none => True
 | some v => ∃ e, v = .ref e ∧ ChainOk h e
theorem ChainOk.keeps (x : ChainOk h e) (k : ∀ b o, h.get? b = some o → h'.get? b = some o) : ChainOk h' e := by
 revert cl9 h h' e
 intros x k
 have mk9 : a0b := trivial
 obtain ⟨o, vs, a, b, c⟩ := x
 refine ⟨o, vs, k _ _ a, b, c.imp id ?_⟩
 intro hR9; obtain ⟨e2, o2, vs2, d, n, f, g, i⟩ := hR9
 exact ⟨e2, o2, vs2, d, n, k _ _ f, g, i⟩
theorem HdOk.keeps (x : HdOk hd h) (k : ∀ b o, h.get? b = some o → h'.get? b = some o) : HdOk hd h' := by
 cases hd with
 | none => trivial
 | some v => obtain ⟨e, he, c⟩ := x; exact ⟨e, he, c.keeps k⟩
noncomputable def HdIn (hd : Option Value) (news : Led) : Prop := match hd with
 | none => True
 | some v => ∃ e o vs, v = .ref e ∧ (e, o) ∈ news ∧ o.data = .fields vs ∧
  (vs[2]? = some .none ∨ ∃ e2 o2 vs2, vs[2]? = some (.ref e2) ∧ e2 ≠ e ∧ (e2, o2) ∈ news ∧ o2.data = .fields vs2 ∧ vs2[2]? = some .none)
theorem HdIn.none : HdIn none news := trivial
theorem HdIn.ok (H : HdIn hd news) (N : News h₀ L h news) : HdOk hd h := by
 cases hd with
 | none => trivial
 | some v =>
  obtain ⟨e, o, vs, rfl, a, b, c⟩ := H
  refine ⟨e, rfl, o, vs, (N _ a).1, b, c.imp id ?_⟩
  intros hR9; (obtain ⟨e2, o2, vs2, d, n, f, g, i⟩ := hR9) <;> (try clear hR9)
  exact ⟨e2, o2, vs2, d, n, (N _ f).1, g, i⟩
theorem HdIn.sub (H : HdIn hd news) (k : ∀ p ∈ news, p ∈ news') : HdIn hd news' := by
 revert cl9 hd news news'
 intros H k
 cases hd with
 | none => trivial
 | some v =>
  obtain ⟨e, o, vs, rfl, a, b, c⟩ := H
  refine ⟨e, o, vs, rfl, k _ a, b, c.imp id ?_⟩
  intros hR9; (obtain ⟨e2, o2, vs2, d, n, f, g, i⟩ := hR9) <;> (try clear hR9)
  exact ⟨e2, o2, vs2, d, n, k _ f, g, i⟩
theorem a1S : entryFor table "proto.unchain" = some Builtin.«proto.unchain» := entryFor_of_tree (by kernel_rfl)
section
variable {prog : Program} {w : World} {A : Around} {E : Value → Shared → Prop} {s : Shared}
theorem a5a {x : Addr} (hk : ∀ b o, h.get? b = some o → s.heap.get? b = some o) (c : ChainOk h x) (hnew : h.get? e = none) (hR : R (.ok (.ret .none)) s) :
  codeAny (model prog w) A (.builtin "proto.unchain" ⟨[.ref e, .ref x, .ref x, .bool false], []⟩) R s := by
 revert cl9 R h e prog w A s x
 intros hk c hnew hR
 have mk9 : a0b := trivial
 obtain ⟨o, vs, a, b, c⟩ := c
 refine c1o a1S ?_
 show wpAny _ _ (field (.ref x) 2 >>= _) _ _ _
 rcases c with c | ⟨e2, o2, vs2, d, n, f, g, i⟩
 ·refine wpAny_bind (b9Q (hk _ _ a) b c ?_)
  show wpAny _ _ (if (b9P == b9P) = true then _ else _) _ _ _
  rw [if_pos (by decide)]
  exact wpAny_pure hR
 ·refine wpAny_bind (b9Q (hk _ _ a) b d ?_)
  have n1 : ¬ ((b9t e2 == b9P) = true) := by simp
  have n2 : ¬ ((b9t e2 == b9t e) = true) := by
   intro q
   have q := of_decide_eq_true q
   injection q with q
   rw [q, hnew] at f; cases f
  have n3 : ¬ ((b9t e2 == b9t x) = true) := by
   intro q
   have q := of_decide_eq_true q
   injection q with q
   exact n q
  show wpAny _ _ (if (b9t e2 == b9P) = true then _ else _) _ _ _
  rw [if_neg n1]
  show wpAny _ _ (if (b9t e2 == b9t e) = true then _ else _) _ _ _
  rw [if_neg n2]
  show wpAny _ _ (if (b9t e2 == b9t x) = true then _ else _) _ _ _
  rw [if_neg n3]
  refine wpAny_bind (wpAny_pure ?_)
  refine wpAny_pure (a := Fin.again (.builtin "proto.unchain" ⟨[.ref e, .ref e2, .ref x, .bool true], []⟩)) ⟨c2O _ (by decide +kernel), ?_⟩
  refine c1o a1S ?_
  show wpAny _ _ (field (.ref e2) 2 >>= _) _ _ _
  refine wpAny_bind (b9Q (hk _ _ f) g i ?_)
  show wpAny _ _ (if (b9P == b9P) = true then _ else _) _ _ _
  rw [if_pos (by decide)]
  exact wpAny_pure hR
theorem a2k {Q : α → Shared → Prop} {vs : Array Value} (hk : ∀ b o, h.get? b = some o → s.heap.get? b = some o) (H : HdOk A.handled h) (he : s.heap.get? e = some oe) (hd : oe.data = .fields vs) (hsz : 2 < vs.size) (hnew : h.get? e = none) (hE : ∀ h' oe' vs', (∀ b, b ≠ e → h'.get? b = s.heap.get? b) → h'.get? e = some oe' → oe'.cls = oe.cls → oe'.dict = oe.dict → oe'.data = .fields vs' → vs'.size = vs.size → (∀ i, i ≠ 2 → vs'[i]? = vs[i]?) →
   (vs'[2]? = vs[2]? ∨ ∃ x, A.handled = some (.ref x) ∧ vs'[2]? = some (.ref x)) → s.heap.objs.size ≤ h'.objs.size → E (.ref e) { s with heap := h' }) :
  wpAny (model prog w) A (raiseNew (.ref e) : Sem α) Q E s := by
 unfold raiseNew
 refine wpAny_bind (wpAny_handled ?_)
 cases hA : A.handled with
 | none =>
  refine wpAny_bind (wpAny_pure (wpAny_throw ?_))
  exact hE s.heap oe vs (fun _ _ => rfl) he rfl rfl hd rfl (fun _ _ => rfl) (.inl rfl) (b9K _)
 | some v =>
  rw [hA] at H
  obtain ⟨x, rfl, c⟩ := H
  have hx : x ≠ e := by
   intros hR9; rcases hR9 with rfl
   obtain ⟨o, vs, a, _⟩ := c
   rw [hnew] at a; cases a
  have hxe : (b9t x != b9t e) = true := by
   simp only [bne_iff_ne, ne_eq, Value.ref.injEq]; exact hx
  dsimp only
  rw [if_pos hxe]
  refine wpAny_bind (wpAny_holding (wpAny_runValue (a5a hk c hnew ?_)))
  refine wpAny_bind ?_
  unfold updateField
  refine wpAny_bind (wpAny_load he ?_)
  rw [hd]
  dsimp only
  rw [if_pos hsz]
  have hd' := c0z hd (·.setIfInBounds 2 (b9t x))
  refine wpAny_update he (wpAny_throw ?_)
  refine hE _ _ _ (fun b hb => c0V _ _ (b9A hb)) (c0F _ he (c0W hd')) (c1W _ _) ?_ hd' (by simp) (fun i hi => by rw [c2n (b9A hi)]) (.inr ⟨x, hA, by simp [hsz]⟩) ?_
  ·obtain ⟨c', d', dt, sl⟩ := oe
   cases hd; rfl
  ·rw [Heap.size_update]; exact b9K _
theorem a6D {h : Heap} {it : Addr} {Q : Option Value → Shared → Prop} {s₀ : Shared} (hk : ∀ b o, h.get? b = some o → s.heap.get? b = some o) (H : HdOk A.handled h) (hQ : ∀ h', (∀ b o, s.heap.get? b = some o → h'.get? b = some o) → Q none { s with heap := h' }) :
  wpAny (model prog w) A.in1 (newExc (.type "StopIteration") [] >>= fun e => (raiseNew e : Sem Fin))
   (fun _ _ => False) (fun e s' => wpAny (model prog w) A (do if ← isInstance e (.type "StopIteration") then pure none else throw e) Q E s') s := by
 revert cl9 prog w A E s h it Q s₀
 intros hk H hQ
 refine wpAny_bind ?_
 simp only [newExc, newTuple]
 refine wpAny_bind (c0P ?_ (by size_fits))
 refine wpAny_bind (m := firstArgMember _ _) (wpAny_of_eq (a := b9P) (by first | rfl | (simp only [firstArgMember]; rfl)) ?_)
 refine c0P ?_ (by size_fits)
 have k2 : ∀ (o1 o2 : Obj) b o, s.heap.get? b = some o → ((s.heap.push o1).push o2).get? b = some o := fun o1 o2 b o e => b9B _ (b9B _ e)
 refine a2k (h := h) (fun b o e => k2 _ _ b o (hk b o e)) H (b9R _ rfl) rfl (by simp; omega) ?_ ?_
 ·cases q : h.get? _ with
  | none => rfl
  | some o => exact absurd (c0a (c0o (c0i s.heap { cls := .type "tuple", data := .seq #[] }).symm) (b9x (hk _ _ q))) (by omega)
 ·intro h' oe' vs' h1 h2 h3 h4 h5 h6 h7 h8 h9
  refine wpAny_bind (wpAny_isInstance (T := "StopIteration") (b := true) ⟨_, h2, h3⟩ isSubtype_stop ?_)
  refine wpAny_pure (hQ _ fun b o e => ?_)
  rw [h1 b ?_]
  ·exact k2 _ _ b o e
  ·intro q
   subst q
   exact absurd (c0a (c0o (c0i s.heap { cls := .type "tuple", data := .seq #[] }).symm) (b9x e)) (by omega)
theorem a2r {h : Heap} {it t : Addr} {i : Nat} {items} {Q : Option Value → Shared → Prop} (hk : ∀ b o, h.get? b = some o → s.heap.get? b = some o) (H : HdOk A.handled h) (hI : h.get? it = none)
  (hit : IsTupIter s.heap it t i) (ht : IsTup s.heap t items) (hx : items[i]? = none)
  (hQ : ∀ h', c1E it s.heap h' → Q none { s with heap := h' }) : wpAny (model prog w) A (pyNext (.ref it)) Q E s := by
 obtain ⟨o, ho, hc, hd⟩ := id hit
 obtain ⟨ol, hol, _, nl, hdl⟩ := ht
 unfold pyNext
 refine wpAny_bind (c1F (c1c (name := c2o "__next__") hit.typeIs slot_tupleiter_next
  (c0G slot_tupleiter_next hit.typeIs entry_tupleiter_next ?_ (args_tupleiter_next _))))
 show wpAny _ _ (field (.ref it) 0 >>= _) _ _ s
 refine wpAny_bind (b9Q ho hd (x := .ref t) rfl ?_)
 show wpAny _ _ (if (b9t t == b9P) = true then _ else _) _ _ s
 rw [if_neg (show ¬ ((b9t t == b9P) = true) from c2p)]
 show wpAny _ _ (field (.ref it) 1 >>= _) _ _ s
 refine wpAny_bind (b9Q ho hd (x := .int i 0) rfl ?_)
 show wpAny _ _ (seqItems? (.ref t) >>= _) _ _ s
 refine wpAny_bind (c0Q hol hdl ?_)
 simp only [c2q, hx]
 refine wpAny_bind (c1d (wpAny_bind (c0u ho hd (by simp) ?_)))
 have S := c0n s.heap it (c0v (·.setIfInBounds 0 b9P))
 refine b9L (a6D (A := A) (E := E) (h := h) (it := it) (s₀ := s) (fun b o e => ?_) H (fun h' k => hQ h' (fun b o hb e => k b o ((S.2 b hb).trans e)))) (fun _ _ f => f.elim) (fun e s' z => ?_)
 ·rw [S.2 b (fun q => by rw [q, hI] at e; cases e)]; exact hk b o e
 ·exact z
theorem a1N {t : Addr} {Q : List Value → Shared → Prop} (H : HdOk A.handled s.heap) (ht : IsTup s.heap t items) (hQ : ∀ h', c1E s.heap.objs.size s.heap h' → Q items.toList { s with heap := h' }) : wpAny (model prog w) A (unpackItems (.ref t) items.size none) Q E s := by
 revert cl9 items prog w A E s t Q
 intros H ht hQ
 have mk9 : a0b := trivial
 have hlt : t ≠ s.heap.objs.size := by obtain ⟨o, ho, _⟩ := ht; exact b9v (b9x ho)
 have hI : s.heap.get? s.heap.objs.size = none := by
  cases q : s.heap.get? s.heap.objs.size with
  | none => rfl
  | some o => exact absurd (b9x q) (c0g _)
 unfold unpackItems
 refine wpAny_bind ?_
 ·unfold notIterableAtAll
  refine wpAny_bind (wpAny_specialOf ht.typeIs slot_tuple_iter.lookup ?_)
  refine wpAny_pure ?_
  simp only [c0w, if_false]
  refine wpAny_bind (wpAny_holding (iter_tuple ht ?_))
  refine wpAny_bind (wpAny_holding (draw_tuple hlt items.size 0 _ _ ⟨_, b9R _ rfl, rfl, rfl⟩ (ht.push _) (by omega) fun h₁ hit₁ hs₁ => ?_))
  have hall : c1p items.size (List.drop 0 items.toList) = items.toList := by
   rw [c2r]; exact c0A (by simp)
  rw [hall]
  rw [if_neg (by simp)]
  have ht₁ : IsTup h₁ t items := (ht.push _).extBut hs₁.extBut hlt
  refine wpAny_bind (wpAny_holding (a2r (h := s.heap) (fun b o e => ?_) H hI hit₁ ht₁ (by simp) fun h₂ he₂ => ?_))
  ·exact hs₁.extBut b o (fun q => by rw [q, hI] at e; cases e) (b9B _ e)
  ·simp only [Option.isSome_none, c0w, if_false]
   refine wpAny_pure (hQ h₂ fun b o hb e => he₂ b o hb (hs₁.extBut b o hb (b9B _ e)))
theorem b2r {h₀ : Heap} {L : Addr} {m : b9p → Option Value} {news : Led} {env : Env} {elts : List Expr} {k} {pos : Pos} {t : Addr} {items : Array Value} {Q : Unit → Shared → Prop} (F : Fr h₀ L s.heap m) (N : News h₀ L s.heap news) (ht : IsTup s.heap t items)
  (H : HdOk A.handled s.heap) (hn : (assignEach elts env).length = items.size) (hstar : (assignEach elts env).findIdx? (·.1) = none)
  (h : ∀ h', Fr h₀ L h' m → News h₀ L h' news → (∀ b o, s.heap.get? b = some o → h'.get? b = some o) → wpAny (model prog w) A (assignInOrder ((assignEach elts env).map (·.2)) items.toList) Q E { s with heap := h' }) :
  wpAny (model prog w) A (assign (.Tuple elts k pos) env (.ref t)) Q E s := by
 rw [assign_Tuple]
 refine wpAny_bind (wpAny_standAt ?_)
 unfold unpack
 rw [hn, hstar]
 refine wpAny_bind (wpAny_holding (a1N H ht fun h' he => h h' (F.extBut he (b9K _)) (N.extBut he (b9K _)) fun b o e => he b o (b9v (b9x e)) e))
theorem HdOk.foot (H : HdOk hd h) : ∃ fp : List Addr, (∀ b ∈ fp, ∃ o, h.get? b = some o) ∧ ∀ h', (∀ b ∈ fp, ∀ o, h.get? b = some o → h'.get? b = some o) → HdOk hd h' := by
 revert cl9 hd h
 intros H
 cases hd with
 | none => exact ⟨[], by simp, fun _ _ => trivial⟩
 | some v =>
  obtain ⟨e, rfl, o, vs, a, b, c⟩ := H
  rcases c with c | ⟨e2, o2, vs2, d, n, f, g, i⟩
  ·refine ⟨[e], by simp [a], fun h' k => ⟨e, rfl, o, vs, k e (by simp) _ a, b, .inl c⟩⟩
  ·refine ⟨[e, e2], by simp [a, f], fun h' k => ⟨e, rfl, o, vs, k e (by simp) _ a, b, .inr ⟨e2, o2, vs2, d, n, k e2 (by simp) _ f, g, i⟩⟩⟩
theorem a2t {Q : Option Value → Shared → Prop} (hk : ∀ b o, h.get? b = some o → s.heap.get? b = some o) (H : HdOk A.handled h) (hI : h.get? it = none) (hit : s.heap.IsStrIter it "str_ascii_iterator" x t i) (hx : x.cps[i]? = none) (hQ : ∀ h', c1E it s.heap h' → Q none { s with heap := h' }) : wpAny (model prog w) A (pyNext (.ref it)) Q E s := by
 obtain ⟨o, ho, hc, hd⟩ := id hit
 unfold pyNext
 refine wpAny_bind (c1F (c1c (name := c2o "__next__") hit.typeIs c3O
  (c0G c3O hit.typeIs PySem.F.entry_str_ascii_iterator_next ?_ (PySem.F.args_str_ascii_iterator_next_1 _))))
 show wpAny _ _ (field (.ref it) 0 >>= _) _ _ s
 refine wpAny_bind (b9Q ho hd (x := .str x t) rfl ?_)
 show wpAny _ _ (field (.ref it) 1 >>= _) _ _ s
 refine wpAny_bind (b9Q ho hd (x := .int i 0) rfl ?_)
 simp only [c2q, hx]
 refine wpAny_bind (c1d (wpAny_bind (c0u ho hd (by simp) (wpAny_bind (c2s ?_)))))
 have S := c0n s.heap it (c0v (·.setIfInBounds 0 b9P))
 refine b9L (a6D (A := A) (E := E) (h := h) (it := it) (s₀ := s) (fun b o e => ?_) H (fun h' k => hQ h' (fun b o hb e => k b o ((S.2 b hb).trans e)))) (fun _ _ f => f.elim) (fun e s' z => ?_)
 ·rw [S.2 b (fun q => by rw [q, hI] at e; cases e)]; exact hk b o e
 ·exact z
theorem a2H {Q : Option Value → Shared → Prop} (hk : ∀ b o, h.get? b = some o → s.heap.get? b = some o) (H : HdOk A.handled h) (hI : h.get? it = none) (hit : s.heap.IsStrIter it "str_iterator" x t i) (hx : x.cps[i]? = none) (hQ : ∀ h', c1E it s.heap h' → Q none { s with heap := h' }) : wpAny (model prog w) A (pyNext (.ref it)) Q E s := by
 revert cl9 i x t h it prog w A E s Q
 intros hk H hI hit hx hQ
 have mk9 : a0b := trivial
 obtain ⟨o, ho, hc, hd⟩ := id hit
 unfold pyNext
 refine wpAny_bind (c1F (c1c (name := c2o "__next__") hit.typeIs c3P
  (c0G c3P hit.typeIs PySem.F.entry_str_iterator_next ?_ (PySem.F.args_str_iterator_next_1 _))))
 show wpAny _ _ (field (.ref it) 0 >>= _) _ _ s
 refine wpAny_bind (b9Q ho hd (x := .str x t) rfl ?_)
 show wpAny _ _ (field (.ref it) 1 >>= _) _ _ s
 refine wpAny_bind (b9Q ho hd (x := .int i 0) rfl ?_)
 simp only [c2q, hx]
 refine wpAny_bind (c1d (wpAny_bind (c0u ho hd (by simp) (wpAny_bind (c2s ?_)))))
 have S := c0n s.heap it (c0v (·.setIfInBounds 0 b9P))
 refine b9L (a6D (A := A) (E := E) (h := h) (it := it) (s₀ := s) (fun b o e => ?_) H (fun h' k => hQ h' (fun b o hb e => k b o ((S.2 b hb).trans e)))) (fun _ _ f => f.elim) (fun e s' z => ?_)
 ·rw [S.2 b (fun q => by rw [q, hI] at e; cases e)]; exact hk b o e
 ·exact z
theorem a4V (H : HdOk hd s.heap) (hQ : ∀ (o : Obj) (fp : List Addr) (St : Nat → Heap → Prop), (∀ b ∈ fp, b < (s.heap.push o).objs.size) → (∀ A' : Around, A'.handled = hd → Walks prog w A' s.heap.objs.size fp [s.heap.objs.size] x.cps.size (SignAt x) St) → St 0 (s.heap.push o) →
   Q (.ref s.heap.objs.size) { s with heap := s.heap.push o }) : wpAny (model prog w) A (pyIter (.str x t)) Q E s := by
 revert cl9 x t hd Q prog w A E s
 intros H hQ
 obtain ⟨fp, f1, f2⟩ := H.foot
 have fresh : s.heap.get? s.heap.objs.size = none := by
  cases q : s.heap.get? s.heap.objs.size with
  | none => rfl
  | some o => exact absurd (b9x q) (c0g _)
 have nI : ∀ b ∈ fp, b ≠ s.heap.objs.size := fun b hb q => by
  obtain ⟨o, ho⟩ := f1 b hb
  rw [q, fresh] at ho; cases ho
 have lt : ∀ (o : Obj), ∀ b ∈ s.heap.objs.size :: fp, b < (s.heap.push o).objs.size := fun o b hb => by
  rw [c0i]
  rcases b9r.mp hb with rfl | hb
  ·exact c0K _
  ·obtain ⟨o', ho⟩ := f1 b hb
   exact b9N (b9x ho)
 have walks : ∀ (T : String), (∀ (A' : Around) (s' : Shared) (i : Nat) (Q : Option Value → Shared → Prop) (E : Value → Shared → Prop), s'.heap.IsStrIter s.heap.objs.size T x t i → ∀ c, x.cps[i]? = some c →
    (∀ h', h'.IsStrIter s.heap.objs.size T x t (i + 1) → c1q s.heap.objs.size s'.heap h' → Q (some (.str ⟨#[c]⟩ s'.toks)) { s' with heap := h', toks := s'.toks + 1 }) → wpAny (model prog w) A' (pyNext (.ref s.heap.objs.size)) Q E s') →
   (∀ (A' : Around) (s' : Shared) (i : Nat) (h : Heap) (Q : Option Value → Shared → Prop) (E : Value → Shared → Prop), (∀ b o, h.get? b = some o → s'.heap.get? b = some o) → HdOk A'.handled h → h.get? s.heap.objs.size = none →
    s'.heap.IsStrIter s.heap.objs.size T x t i → x.cps[i]? = none → (∀ h', c1E s.heap.objs.size s'.heap h' → Q none { s' with heap := h' }) → wpAny (model prog w) A' (pyNext (.ref s.heap.objs.size)) Q E s') →
   (∀ (A' : Around) (s' : Shared) (i : Nat) (Q : Value → Shared → Prop) (E : Value → Shared → Prop), s'.heap.IsStrIter s.heap.objs.size T x t i → Q (.ref s.heap.objs.size) s' → wpAny (model prog w) A' (pyIter (.ref s.heap.objs.size)) Q E s') →
   ∀ A' : Around, A'.handled = hd → Walks prog w A' s.heap.objs.size (s.heap.objs.size :: fp) [s.heap.objs.size] x.cps.size (SignAt x)
    (fun i h => h.IsStrIter s.heap.objs.size T x t i ∧ ∀ b ∈ fp, ∀ o, s.heap.get? b = some o → h.get? b = some o) := by
  intro T item done self A' hA
  refine ⟨fun b hb => by simp at hb; simp [hb], ?_, ?_, ?_, ?_⟩
  ·intros i h h' hR9; (obtain ⟨⟨o, ho, r⟩, st⟩ := hR9) <;> (try clear hR9); intros hk
   exact ⟨⟨o, hk _ (by simp) o ho, r⟩, fun b hb o e => hk b (by simp [hb]) o (st b hb o e)⟩
  ·intros i s' Q E hi hR9; (obtain ⟨st, st2⟩ := hR9) <;> (try clear hR9); intros hQ
   refine item A' s' i Q E st x.cps[i] (by simp [hi]) fun h' hit' hs' => ?_
   exact hQ _ h' (s'.toks + 1) ⟨_, _, by simp [hi], rfl⟩ ⟨hit', fun b hb o e => (hs'.2 b (nI b hb)).trans (st2 b hb o e)⟩ fun b o hb e => hs'.extBut b o (fun h => hb (by simp [h])) e
  ·intros s' Q E hR9; (obtain ⟨st, st2⟩ := hR9) <;> (try clear hR9); intros hQ
   refine done A' s' _ (s'.heap.hide s.heap.objs.size) Q E (fun b o e => Heap.of_hide e) ?_ (Heap.hide_self _ _) st (by simp) fun h' he' => hQ h' s'.toks fun b o hb e => he' b o (fun h => hb (by simp [h])) e
   rw [hA]
   exact f2 _ fun b hb o e => (Heap.hide_ne _ (nI b hb)).trans (st2 b hb o e)
  ·intros i s' Q E hR9; (obtain ⟨st, _⟩ := hR9) <;> (try clear hR9); intros hQ
   exact self A' s' i Q E st hQ
 cases ha : x.cps.all (· < 128)
 ·refine wpAny_pyIter_wide ha (hQ _ _ _ (lt _) (walks "str_iterator" ?_ ?_ ?_) ⟨⟨_, b9R _ rfl, rfl, rfl⟩, fun b _ o e => b9B _ e⟩)
  ·intro A' s' i Q E hit c hc hQ; exact wpAny_pyNext_wide_item hit hc hQ
  ·intro A' s' i h Q E hk H' hI hit hx hQ; exact a2H hk H' hI hit hx hQ
  ·intro A' s' i Q E hit h; exact wpAny_pyIter_striter_wide hit h
 ·refine wpAny_pyIter_ascii ha (hQ _ _ _ (lt _) (walks "str_ascii_iterator" ?_ ?_ ?_) ⟨⟨_, b9R _ rfl, rfl, rfl⟩, fun b _ o e => b9B _ e⟩)
  ·intro A' s' i Q E hit c hc hQ; exact wpAny_pyNext_ascii_item hit hc hQ
  ·intro A' s' i h Q E hk H' hI hit hx hQ; exact a2t hk H' hI hit hx hQ
  ·intro A' s' i Q E hit h; exact wpAny_pyIter_striter_ascii hit h
end
theorem b3I : (fun (_ : OpenLaw) (_ : Params → Frag) => True) b9u K := by
 k_fill
 trivial
theorem era_F1 : True := trivial
noncomputable def upC (c : Nat) : Nat := if 97 ≤ c ∧ c ≤ 122 then c - 32 else c
noncomputable def a2M (x : b9p) : b9p := ⟨x.cps.map upC⟩
theorem one_lt {a b : Nat} : ([a] : List Nat) < [b] ↔ a < b := by
 rw [List.cons_lt_cons_iff]
 constructor
 ·rintro (h | ⟨_, h⟩)
  ·exact h
  ·exact absurd h (List.not_lt_nil _)
 ·exact .inl
theorem a8r {v : Value} (gN : s.heap.Ns mainGlobals mg) (bN : s.heap.Ns builtinsNs mb) (e : mg x = none) (hv : mb x = some v) (h : Q v s) (hg : env.globals = mainGlobals) (hb : env.builtins = builtinsNs) (hk : env.scope.kind = .function) (hx : env.kindOf x = some .globalImplicit) (hd : (x == ("__debug__" : b9p)) = false) : wpAny M A (eval (.Name x pos) env) Q E s :=
 Calls.Name_function_global hk hx (Calls.loadGlobal_builtin (env := env) (by rw [hg]; exact gN) e (by rw [hb]; exact bN) hv h) hd
theorem b5t : True := by
 k_with "F1:eval Name" => ((refine a8r (by assumption) (by assumption) (by assumption) (by assumption) ?_ (by rfl) (by rfl) (by rfl) (by rfl) (by decide)))
 trivial
noncomputable def UpF (v y : Value) : Prop := ∃ c u u', v = .str ⟨#[c]⟩ u ∧ y = .str ⟨#[upC c]⟩ u'
theorem a7U {l : List Nat} (q : Paired UpF vs ys) (hP : ∀ (j : Nat) (v : Value), vs[j]? = some v → ∃ (c : Nat) (u : Tok), l[j]? = some c ∧ v = c0E ⟨#[c]⟩ u) (hl : vs.length = l.length) : StrsAre ys (l.map fun c => (⟨#[upC c]⟩ : b9p)) := by
 induction q generalizing l with
 | nil => cases l with
  | nil => exact .nil
  | cons c l => exact nomatch hl
 | cons h r ih => cases l with
  | nil => exact nomatch hl
  | cons c l =>
   obtain ⟨c', u, e, rfl⟩ := hP 0 _ rfl
   obtain ⟨c'', u1, u2, e1, rfl⟩ := h
   obtain rfl := b9U e
   injection e1 with e1 _
   obtain rfl : _ = c'' := congrArg (fun x : b9p => x.cps.getD 0 0) e1
   exact .cons _ _ (ih (fun j v e => hP (j + 1) v e) (Nat.succ.inj hl))
theorem b1t {ys : Array Value} (hlen : vs.length = x.cps.size) (hP : ∀ j v, vs[j]? = some v → SignAt x j v) (hF : Paired UpF vs ys.toList) :
  StrsAre ys.toList (x.cps.toList.map fun c => (⟨#[upC c]⟩ : b9p)) ∧ ((x.cps.toList.map fun c => (⟨#[upC c]⟩ : b9p)).map (·.length)).sum = x.cps.size := by
 refine ⟨a7U hF (fun j v e => ?_) (by simpa using hlen), ?_⟩
 ·obtain ⟨c, u, a, b⟩ := hP j v e
  exact ⟨c, u, by simpa using a, b⟩
 ·rw [c2t]
  have : ∀ l : List Nat, (l.map ((fun x => PySem.Str.length x) ∘ fun c => (⟨#[upC c]⟩ : b9p))).sum = l.length := by
   intro l
   induction l with
   | nil => rfl
   | cons a l ih => rw [c0B, List.sum_cons, ih, c1X]; simp [PySem.Str.length]; omega
  rw [this]; simp
theorem b1F (x : b9p) : c1r (b9q "") (x.cps.toList.map fun c => (⟨#[upC c]⟩ : b9p)) = a2M x := by
 have e0 : (b9q "").cps = #[] := by decide +kernel
 have go : ∀ (l : List Nat) (acc : Array Nat), (l.map fun c => (⟨#[upC c]⟩ : b9p)).foldl (fun acc p => acc ++ (b9q "").cps ++ p.cps) acc = acc ++ (l.map upC).toArray := by
  intro l
  induction l with
  | nil => intro acc; simp
  | cons a l ih => intro acc; rw [c0B, List.foldl_cons, ih, e0]; simp
 unfold c1r Builtin.Str.glued a2M
 obtain ⟨⟨l⟩⟩ := x
 cases l with
 | nil => simp [b9Y]
 | cons a l =>
  simp only [c0B, List.drop_succ_cons, c2r, List.headD_cons]
  rw [go]
  simp
theorem a3P (H : HdIn hd news) (hx : x.length ≤ 100000) :
  Fn w G hd 83 1 8 [.str x t] news (b8C (a2M x) news) := by
 revert cl9 G w x t hd news
 intros H hx
 have mk9 : a0b := trivial
 ktr_unf
 k_steps
 refine a4V (H.ok (by k_asm)) ?_; revert cm9 o fp St; intro hfp hW hst
 refine ⟨fun _ => true, UpF, _, fp, _, _, SignAt x, St, rfl, hW _ rfl, ?_, hst, hfp, ⟨?_, ?_⟩, ?_⟩
 ·rw [b9O]; have : x.cps.size = x.length := rfl; omega
 ·revert cm9 C i v s₃ m₃ E'; intro hP hn hm hk ht
  exact wpAny_pure ⟨rfl, s₃.heap, s₃.toks, rfl, fun _ _ e => e⟩
 ·revert cm9 C i v s₃ m₃ E'; intro hP _ hn hm hk ht
  obtain ⟨c, u, hc, rfl⟩ := hP
  have c1 : G.mg (b9q "chr") = none := mg_none_of (by assumption) (Top.g (by assumption)) (by k_is)
  have c2 : G.mg (b9q "ord") = none := mg_none_of (by assumption) (Top.g (by assumption)) (by k_is)
  have c3 : G.mb (b9q "chr") = some (.builtin "chr") := (TopRead.builtins (by k_asm) (b9q "chr") (by decide)).trans (by boot_fast)
  have c4 : G.mb (b9q "ord") = some (.builtin "ord") := (TopRead.builtins (by k_asm) (b9q "ord") (by decide)).trans (by boot_fast)
  (with_reducible rename Fr _ _ _ _ => kF)
  (with_reducible rename Top _ _ _ _ _ _ => kT)
  have up : ∀ b o', (_ : Heap).get? b = some o' → s₃.heap.get? b = some o' := fun b o' e => hk b o' (by
   intro q
   have := b9C.mp q
   subst this
   exact absurd (b9x (kF.keep _ _ e)) (c0g _)) (b9B _ (kF.keep _ _ e))
  have gN := kT.g.keeps up
  have bN := kT.b.keeps up
  clear up hk ht hW
  have la : (b9q "a").cps.toList = [97] := by decide +kernel
  have lz : (b9q "z").cps.toList = [122] := by decide +kernel
  k_steps
  ·rename_i q
   refine ⟨c, u, u, rfl, ?_⟩
   rw [la] at q
   have q : c < 97 := one_lt.mp q
   rw [upC, if_neg (by omega)]
  ·exact ⟨_, _, rfl, fun _ _ e => e⟩
  ·rename_i q
   refine ⟨c, u, u, rfl, ?_⟩
   rw [lz] at q
   have q : 122 < c := one_lt.mp q
   rw [upC, if_neg (by omega)]
  ·exact ⟨_, _, rfl, fun _ _ e => e⟩
  ·rename_i q1 q2
   rw [la] at q1
   rw [lz] at q2
   have q1 : ¬ c < 97 := fun z => q1 (one_lt.mpr z)
   have q2 : ¬ 122 < c := fun z => q2 (one_lt.mpr z)
   refine chr_of_range (by omega) (by omega) ?_
   have e : ((c : Int) - 32).toNat = upC c := by rw [upC, if_pos (by omega)]; omega
   rw [e]
   exact ⟨⟨c, u, _, rfl, rfl⟩, ⟨_, _, rfl, fun _ _ e => e⟩⟩
 ·revert cm9 D h' tk ys vs; intro hD hl hpl hlen hP hF hk
  (with_reducible rename Fr _ _ _ _ => kF)
  (with_reducible rename News _ _ _ _ => kN)
  have up := fun b o' (e : (_ : Heap).get? b = some o') => hk b o' (fun q => by
   have := b9C.mp q
   subst this
   exact absurd (b9x e) (c0g _)) (b9B _ e)
  have F9 := kF.keeps up
  have N9 := kN.grown up
  clear kF kN
  obtain ⟨hs, hlen2⟩ := b1t hlen hP (by rw [List.filter_eq_self.mpr fun _ _ => rfl] at hF; exact hF)
  have hl9 : x.cps.size = x.length := rfl
  k_steps
  refine join_list hl hs (by rw [hlen2, show (b9q "").length = 0 from by decide +kernel]; omega) ?_; revert cm9 t' k
  rw [show c1r (b9q "") (x.cps.toList.map fun c => (⟨#[upC c]⟩ : b9p)) = a2M x from b1F x]
  k_steps
  exact hret _ _ _ _ ⟨_, rfl, rfl⟩ (by k_asm) (by k_asm)
theorem era_F2 : True := trivial
theorem HdOk.ofN (H : HdIn hd news) (N : News h₀ L h big) (k : ∀ p ∈ news, p ∈ big) : HdOk hd h := HdIn.ok (H.sub k) N
theorem b4C : True := by
 k_with "F2:assign Tuple" => ((k_here; (with_reducible show wpAny _ _ (assign (Expr.Tuple _ _ _) _ (b9t _)) _ _ _); k_dflt (refine' b2r ?F ?N ?T ?H ?k2 ?k3 ?_; (case F => k_asm); (case N => k_asm); (case T => first | with_reducible assumption | (refine c0p (by k_asm) (by k_mem))); (case H => refine HdOk.ofN (by assumption) (by k_asm) ?_; intro p hp; first | exact hp | exact .tail _ hp | exact tl2 hp | exact tl3 hp);  (case k2 => exact rfl); (case k3 => exact rfl)); intro h' F' N' _; (try k_sweep)))
 trivial
theorem a5Q (hx : x.length ≤ 100000) (hy : y.length ≤ 100000) :
  Fn w G hd 125 1 8 [.str x t, .str y u] news (b1Z (c2u x (y ++ b9q "/")) news) := by
 revert cl9 G w x y u t hd news
 intros hx hy
 have mk9 : a0b := trivial
 ktr_unf
 k_steps
 exact hret _ _ _ _ ⟨rfl, rfl⟩ (by k_asm) (by k_asm)
noncomputable def a0P (c : Int) : Bool := decide (c < 32) || decide (127 ≤ c ∧ c ≤ 159) || decide (c = 8232) || decide (c = 8233) || decide (55296 ≤ c ∧ c ≤ 57343)
theorem b8P {c : Int} (h : c < 32) : decide (c < 32) = a0P c := by unfold a0P; rw [decide_eq_true h]; rfl
theorem b8B {c : Int} (h : ¬ c < 32) (h2 : 127 ≤ c) (h3 : c ≤ 159) : decide (c ≤ 159) = a0P c := by unfold a0P; rw [decide_eq_true h3, decide_eq_false h, decide_eq_true (And.intro h2 h3)]; rfl
theorem b9k {c : Int} (h : c = 8232) : (c == 8232) = a0P c := by subst h; decide
theorem b9n {c : Int} (h : c = 8233) : (c == 8233) = a0P c := by subst h; decide
theorem b8O {c : Int} (h : ¬ c < 32) (h3 : ¬ c ≤ 159) (h4 : c ≠ 8232) (h5 : c ≠ 8233) : decide (55296 ≤ c ∧ c ≤ 57343) = a0P c := by unfold a0P; rw [decide_eq_false h, decide_eq_false (show ¬ (127 ≤ c ∧ c ≤ 159) from fun z => h3 z.2), decide_eq_false h4, decide_eq_false h5]; rfl
theorem b8D {c : Int} (h : ¬ c < 32) (h2 : ¬ 127 ≤ c) : decide (55296 ≤ c ∧ c ≤ 57343) = a0P c := by unfold a0P; rw [decide_eq_false h, decide_eq_false (show ¬ (127 ≤ c ∧ c ≤ 159) from fun z => h2 z.1), decide_eq_false (show ¬ c = 8232 from fun z => h2 (by rw [z]; decide)), decide_eq_false (show ¬ c = 8233 from fun z => h2 (by rw [z]; decide))]; rfl
theorem b5n {c : Int} (h : 55296 ≤ c) : decide (c ≤ 57343) = decide (55296 ≤ c ∧ c ≤ 57343) := decide_eq_decide.mpr ⟨fun z => ⟨h, z⟩, fun z => z.2⟩
theorem b5h {c : Int} (h : ¬ 55296 ≤ c) : decide (55296 ≤ c) = decide (55296 ≤ c ∧ c ≤ 57343) := decide_eq_decide.mpr ⟨fun z => absurd z h, fun z => z.1⟩
theorem a7A {c : Int} :
  Fn w G hd 90 1 8 [.int c t] news (b1Z (decide (55296 ≤ c ∧ c ≤ 57343)) news) := by
 revert cl9 G w t hd news c
 have mk9 : a0b := trivial
 ktr_unf
 k_steps
 all_goals exact hret _ _ _ _ ⟨congrArg c1G (by first | exact b5n (by assumption) | exact b5h (by assumption)), rfl⟩ (by k_asm) (by k_asm)
theorem b5V : True := by
 k_with "F2:call ref" => (k_here; ((with_reducible show wpAny _ _ (call (b9t 90) _) _ _ _); k_dflt (refine' Fn.use a7A ?k1 ?k2 ?k3 ?k4 ?k5 ?k6 ?k7 ?k8 ?_); (case k4 => k_extra "g:k4"); k_extra "g:c1"; k_extra "g:c2"; obtain ⟨rfl, rfl⟩ := hR'; (try clear hR'); k_extra "g:c3"; k_extra "g:c4"))
 trivial
theorem a5k {c : Int} :
  Fn w G hd 111 2 16 [.int c t] news (b1Z (a0P c) news) := by
 revert cl9 G w t hd news c
 have mk9 : a0b := trivial
 ktr_unf
 k_steps
 all_goals exact hret _ _ _ _ ⟨congrArg c1G (by first | exact b8P (by assumption) | exact b8B (by assumption) (by assumption) (by assumption) | exact b9k (by assumption) | exact b9n (by assumption) | exact b8O (by assumption) (by assumption) (by assumption) (by assumption) | exact b8D (by assumption) (by assumption)), rfl⟩ (by k_asm) (by k_asm)
noncomputable def a0U (x : b9p) : b9p × b9p := if c1H x (b9q "/") < 0 then (x, b9q "") else (c0d x none (some (c1H x (b9q "/"))), c0d x (some (c1H x (b9q "/"))) none)
theorem a4l (hx : x.length ≤ 100000) :
  Fn w G hd 97 1 8 [.str x t] news (fun v n => ∃ D t₁ t₂, v = .ref D ∧ n = (D, a1f [.str (a0U x).1 t₁, .str (a0U x).2 t₂]) :: news ∧ (a0U x).1.length ≤ x.length ∧ (a0U x).2.length ≤ x.length ∧ ∀ p ∈ news, p.1 < D) := by
 revert cl9 G w x t hd news
 intros hx
 have mk9 : a0b := trivial
 ktr_unf
 k_steps
 ·(with_reducible rename c1H _ _ < 0 => hlt)
  have e : a0U x = (x, b9q "") := if_pos hlt
  refine hret _ _ _ _ ⟨_, _, _, rfl, rfl, ?_, ?_, by assumption⟩ (by k_asm) (by rw [e]; k_asm)
  ·rw [e]; exact b9K _
  ·rw [e, show (b9q "").length = 0 from by decide +kernel]; exact c0m _
 ·(with_reducible rename ¬ c1H _ _ < 0 => hlt)
  have e : a0U x = (c0d x none (some (c1H x (b9q "/"))), c0d x (some (c1H x (b9q "/"))) none) := if_neg hlt
  exact hret _ _ _ _ ⟨_, _, _, rfl, rfl, by rw [e]; assumption, by rw [e]; assumption, by assumption⟩ (by k_asm) (by rw [e]; k_asm)
theorem b5o : True := by
 k_with "F2:call ref" => (k_here; ((with_reducible show wpAny _ _ (call (b9t 97) _) _ _ _); k_dflt (refine' Fn.use (a4l (by omega)) ?k1 ?k2 ?k3 ?k4 ?k5 ?k6 ?k7 ?k8 ?_); (case k4 => k_extra "g:k4"); k_extra "g:c1"; k_extra "g:c2"; obtain ⟨D', t₁', t₂', rfl, rfl, lc1, lc2, l1⟩ := hR'; (try clear hR'); k_extra "g:c3"; k_extra "g:c4"))
 k_with "F2:call ref" => (k_here; ((with_reducible show wpAny _ _ (call (b9t 83) _) _ _ _); k_dflt (refine' Fn.use (a3P ?kH (by omega)) ?k1 ?k2 ?k3 ?k4 ?k5 ?k6 ?k7 ?k8 ?_); (case k4 => k_extra "g:k4"); (case kH => k_extra "g:kH"); k_extra "g:c1"; k_extra "g:c2"; obtain ⟨t', rfl, rfl⟩ := hR'; (try clear hR'); k_extra "g:c3"; k_extra "g:c4"))
 trivial
noncomputable def a0a (x : b9p) : b9p := if a2M (a0U x).1 = b9q "INBOX" then b9q "INBOX" ++ (a0U x).2 else x
theorem a4j : (b9q "INBOX").length = 5 := by decide +kernel
theorem a1r (H : HdIn hd news) (hx : x.length ≤ 90000) :
  Fn w G hd 104 2 16 [.str x t] news (fun v n => ∃ t, v = .str (a0a x) t ∧ n = news ∧ (a0a x).length ≤ x.length + 5) := by
 revert cl9 G w x t hd news
 intros H hx
 have mk9 : a0b := trivial
 have l5 := a4j
 ktr_unf
 k_steps
 ·have e : a0a x = b9q "INBOX" ++ (a0U x).2 := if_pos (c0j (by assumption))
  refine hret _ _ _ _ ⟨_, by rw [e], rfl, ?_⟩ (by k_asm) (by intro p hp; exact (by assumption : News _ _ _ _) p (.tail _ hp))
  rw [e]
  have := c3u (b9q "INBOX") (a0U x).2
  omega
 ·have e : a0a x = x := if_neg (fun q => by have := beq_iff_eq.mpr q; simp_all only [c0w])
  refine hret _ _ _ _ ⟨_, by rw [e], rfl, ?_⟩ (by k_asm) (by intro p hp; exact (by assumption : News _ _ _ _) p (.tail _ hp))
  rw [e]; omega
theorem b5X : True := by
 k_with "F2:call ref" => (k_here; ((with_reducible show wpAny _ _ (call (b9t 104) _) _ _ _); k_dflt (refine' Fn.use (a1r ?kH (by omega)) ?k1 ?k2 ?k3 ?k4 ?k5 ?k6 ?k7 ?k8 ?_); (case k4 => k_extra "g:k4"); (case kH => k_extra "g:kH"); k_extra "g:c1"; k_extra "g:c2"; obtain ⟨t', rfl, rfl, ln⟩ := hR'; (try clear hR'); k_extra "g:c3"; k_extra "g:c4"))
 trivial
noncomputable def a0h (x : b9p) : b9p := if Txt.endswith (a0a x) (b9q "/") then c0d (a0a x) none (some (((a0a x).length : Nat) - 1 : Int)) else a0a x
theorem a9m (H : HdIn hd news) (hx : x.length ≤ 80000) :
  Fn w G hd 179 3 24 [.str x t] news (fun v n => ∃ t, v = .str (a0h x) t ∧ n = news ∧ (a0h x).length ≤ x.length + 5) := by
 revert cl9 G w x t hd news
 intros H hx
 have mk9 : a0b := trivial
 ktr_unf
 k_steps
 ·have e : a0h x = c0d (a0a x) none (some (((a0a x).length : Nat) - 1 : Int)) := if_pos (by assumption)
  have := Txt.slice_le (a0a x) none (some (((a0a x).length : Nat) - 1 : Int))
  exact hret _ _ _ _ ⟨_, by rw [e], rfl, by rw [e]; omega⟩ (by k_asm) (by k_asm)
 ·have e : a0h x = a0a x := if_neg (by rw [c0C]; assumption)
  exact hret _ _ _ _ ⟨_, by rw [e], rfl, by rw [e]; omega⟩ (by k_asm) (by k_asm)
noncomputable abbrev bmE : List Value := [.type "Exception", .type "BaseException", .type "object"]
noncomputable abbrev a0j (C : Addr) (D : Option Addr) (t : Value) (tb cx : Value) : Obj := { cls := .ref C, dict := D, data := .fields #[t, tb, cx, .none, .bool false, .none] }
section
variable {prog : Program} {w : World} {A : Around} {E : Value → Shared → Prop} {h : Heap} {g : Array GenState} {d : Drawn} {t : Nat} {os : OsState}
variable {nm q : b9p} {C N : Addr} {bs bm : List Value} {hdct : Bool} {sn : List b9p} {sub : List Value} {ab : Bool} {col : Option Bool} {dd : Option Addr} {k0 k1 k2 k3 k5 : Option Value}
theorem a4o {rest : List Value} {Q : Unit → Shared → Prop} (hC : h.get? C = some (excClassObj nm q C N bs bm hdct sn sub ab col dd k0 k1 k2 k3 k5 "Exception.__new__")) (hB : bm.contains (.type "Exception") = true) (hq : Q () ⟨h, g, d, t, os⟩) : wpAny M A (checkBuiltinCall "Exception.__new__" ⟨.ref C :: rest, []⟩) Q E ⟨h, g, d, t, os⟩ := by
 revert cl9 M A E h g d t os nm q C N bs bm hdct sn sub ab col dd k0 k1 k2 k3 k5 rest Q
 intros hC hB hq
 have mk9 : a0b := trivial
 have f := c2P
 have hcont : (b9t C :: bm).contains (.type "Exception") = true := by rw [c2v, hB, c2Q]
 have hstar := f.noStar
 simp only [checkBuiltinCall, f.newKind, f.newSplit, f.newRow]
 k_with "w:1" => refine c1e hC ?_
 k_with "w:2" => (refine c1Y hC ?_; rw [hcont])
 k_with "w:3" => refine wpAny_staticBase_exc hC ?_
 k_with "w:4" => refine wpAny_madeBy_exc hC ?_
 k_with "w:5" => simp only [bne_self_eq_false, c0w, if_false]
 walk_say "@Tbdb15pFb2Fb3b45d5bd5Tpbd5TpdP"
 exact hq
theorem a5y {rest : List Value} (hC : h.get? C = some (excClassObj nm q C N bs bm hdct sn sub ab col dd k0 k1 k2 k3 k5 "Exception.__new__")) (hB : bm.contains (.type "Exception") = true) (nA : bm.contains (.type "AttributeError") = false) (nN : bm.contains (.type "NameError") = false) (hq : R (.ok (.ret (.ref (h.objs.size + 1)))) ⟨(h.push (a1f rest)).push (a0j C none (.ref h.objs.size) .none .none), g, d, t, os⟩) (hrest : rest.length ≤ sizeLine) :
  codeAny (model prog w) A (.builtin "Exception.__new__" ⟨.ref C :: rest, []⟩) R ⟨h, g, d, t, os⟩ := by
 revert cl9 R prog w A h g d t os nm q C N bs bm hdct sn sub ab col dd k0 k1 k2 k3 k5 rest
 intros hC hB nA nN hq hrest
 have f := c2P
 have hends := f.ends
 have hcB : (b9t C :: bm).contains (.type "Exception") = true := by rw [c2v, hB, c2Q]
 have hcA : (b9t C :: bm).contains (.type "AttributeError") = false := by rw [c2v, nA]; rfl
 have hcN : (b9t C :: bm).contains (.type "NameError") = false := by rw [c2v, nN]; rfl
 refine codeAny_builtinAt f.entry ?_
 unfold Builtin.«BaseException.__new__»
 refine PySem.wpAt_bind ?_
 show PySem.wpAt _ _ _ (stack >>= _) _ _ _
 refine PySem.wpAt_bind (PySem.wpAt_stack fun p below => PySem.wpAt_of_wpAny ?_)
 walk_say "@up"
 refine PySem.wpAt_of_wpAny ?_
 rw [f.owner]
 k_with "w:1" => with_reducible refine wpAny_madeHere_exc f.canon hC ?_
 k_with "w:2" => with_reducible refine c1e hC ?_
 k_with "w:3" => (with_reducible refine c1Y hC ?_; first | rw [hcB] | rw [hcA] | rw [hcN])
 walk_say "@bdbd2pFb3Fb1bdb3Fb3FpbddfddbapbdFddbabdblpFpdp"
 show R _ _
 rw [c0i]
 exact hq
theorem a3u {rest : List Value} {Q : Unit → Shared → Prop} (hC : h.get? C = some (excClassObj nm q C N bs bm hdct sn sub ab col dd k0 k1 k2 k3 k5 "Exception.__new__")) (hB : bm.contains (.type "Exception") = true) (he : h.get? e = some oe) (hcls : oe.cls = .ref C) (hq : Q () ⟨h, g, d, t, os⟩) :
  wpAny M A (checkBuiltinCall "Exception.__init__" ⟨.ref e :: rest, []⟩) Q E ⟨h, g, d, t, os⟩ := by
 revert cl9 M e oe A E h g d t os nm q C N bs bm hdct sn sub ab col dd k0 k1 k2 k3 k5 rest Q
 intros hC hB he hcls hq
 have f := c2P
 have hcB : (b9t C :: bm).contains (.type "Exception") = true := by rw [c2v, hB, c2Q]
 have hshort := f.noStar
 simp only [checkBuiltinCall, f.initKind, f.initSplit, f.initRow]
 k_with "w:1" => (with_reducible refine c1e he ?_; rw [hcls])
 k_with "w:2" => with_reducible refine c1e hC ?_
 k_with "w:3" => (with_reducible refine c1Y hC ?_; rw [hcB])
 walk_say "@bdbdb1p3FdbdFdbdFdb1pbdbdblpppbdTpd"
 refine wpAny_onRaise ?_
 rw [show ∀ (a b : String) (n : Nat), Bind.check ⟨.positional, "*", "Exception", .self, [⟨"args", .varPos, false⟩]⟩ a b n (List.map (fun x => x.fst) ({ pos := b9t e :: rest } : Args).kw) = pure () from
  fun a b n => check_star_args _ _ _ _ _ _]
 exact wpAny_pure hq
theorem a3I {rest : List Value} {fI : Addr} (hC : h.get? C = some (excClassObj nm q C N bs bm hdct sn sub ab col dd k0 k1 k2 k3 k5 "Exception.__new__")) (hB : bm.contains (.type "Exception") = true) (nA : bm.contains (.type "AttributeError") = false) (nN : bm.contains (.type "NameError") = false) (hi : Looks (model prog w) h (typeLookup (.ref C) "__init__") (some (.ref fI))) (hb : ∀ self, Looks (model prog w) h (bindSpecial (.ref fI) self) (.ref fI, [self])) (hq : codeAny (model prog w) (A.under (.builtin "type.__call__" ⟨.ref C :: rest, []⟩)) (.call (.ref fI) ⟨.ref (h.objs.size + 1) :: rest, []⟩) (InitBack (h.objs.size + 1) R) ⟨(h.push (a1f rest)).push (a0j C none (.ref h.objs.size) .none .none), g, d, t, os⟩) (hrest : rest.length ≤ sizeLine) : codeAny (model prog w) A (.call (.ref C) ⟨rest, []⟩) R ⟨h, g, d, t, os⟩ := by
 revert cl9 R prog w A h g d t os nm q C N bs bm hdct sn sub ab col dd k0 k1 k2 k3 k5 rest fI
 intros hC hB nA nN hi hb hq hrest
 have f := c2P
 have f1 := tc_lookup
 have f2 := tc_bind (.ref C)
 have hT : (⟨h, g, d, t, os⟩ : Shared).TypeIs (.ref C) "type" := ⟨_, hC, rfl⟩
 refine codeAny_of_tree ?_
 show wpAny _ _ (callAny (.ref C) _) _ _ _
 walk_say "@dblddbnbebdpTdp"
 refine ⟨rfl, ?_⟩
 refine codeAny_call_builtin_at (c2O _ (by decide +kernel)) entry_typeCall (wpAny_check_type_call_sub hC ?_)
 k_with "w:1" => with_reducible refine c1e hC ?_
 k_with "w:2" => with_reducible refine wpAny_madeBy_exc hC ?_
 walk_say "@dFbdbdblppFb2bpbhc"
 refine codeAny_call_builtin_code (c2O _ f.quiet) (a4o hC hB ?_)
 refine a5y (rest := rest) hC hB nA nN ?_ hrest
 have k : ∀ b o, h.get? b = some o → ((h.push (a1f rest)).push (a0j C none (.ref h.objs.size) .none .none)).get? b = some o := fun b o e => b9B _ (b9B _ e)
 have hget : ((h.push (a1f rest)).push (a0j C none (.ref h.objs.size) .none .none)).get? (h.objs.size + 1) = some (a0j C none (.ref h.objs.size) .none .none) := by heap_get
 have hC₁ := k _ _ hC
 have hcC : (b9t C :: bm).contains (.ref C) = true := by simp
 have t1 : Looks (model prog w) ((h.push (a1f rest)).push (a0j C none (.ref h.objs.size) .none .none)) (typeOf (.ref (h.objs.size + 1))) (.ref C) := (Looks.ld hget).andThen .now
 have i1 := hi.keeps k
 have b1 := (hb (.ref (h.objs.size + 1))).keeps k
 show wpAny _ _ _ _ _ _
 unfold isInstance callSpecial? specialOf
 k_with "w:1" => with_reducible refine c1e hget ?_
 walk_say "@bbdb1p"
 refine c1Y hC₁ ?_
 rw [hcC]
 repeat (first | with_reducible refine wpAny_call ?_ | lk)
 refine c2w hq fun r s' z => ?_
 rcases r with e | (v | _ | _ | _) <;> first | exact z | exact z.elim | skip
 obtain ⟨rfl, z⟩ := z
 walk_say "@pFddp"
 exact z
end
theorem era_X1 : True := trivial
theorem a0X (X : (K w.params).In h) (hC : C = 52 ∨ C = 64) :
  ∃ nm q N bs hdct sn sub ab col dd k0 k1 k2 k3 k5, h.get? C = some (excClassObj nm q C N bs (.ref 39 :: bmE) hdct sn sub ab col dd k0 k1 k2 k3 k5 "Exception.__new__") := by
 revert cl9 w h C
 intros X hC
 rcases hC with rfl | rfl
 ·exact ⟨_, _, _, _, _, _, _, _, _, _, _, _, _, _, _, X 52 (o52) (by k_is)⟩
 ·exact ⟨_, _, _, _, _, _, _, _, _, _, _, _, _, _, _, X 64 (o64) (by k_is)⟩
theorem a3L (X : (K w.params).In h) (hC : C = 52 ∨ C = 64) : Looks M h (typeLookup (.ref C) "__init__") (some (.ref 29)) := by
 rcases hC with rfl | rfl
 ·exact c2x X (by k_is)
 ·exact c2x X (by k_is)
theorem a3J (X : (K w.params).In h) (self : Value) : Looks M h (bindSpecial (.ref 29) self) (.ref 29, [self]) := bind_fn X self (by k_is)
theorem a7S (X : (K w.params).In h) (hC : C = 52 ∨ C = 64) : Looks M h (mroOf (.ref C)) (.ref C :: .ref 39 :: bmE) := by
 rcases hC with rfl | rfl
 ·exact (looks_clsIn X (show clsIn (K w.params) 52 = some _ by k_is)).andThen .now
 ·exact (looks_clsIn X (show clsIn (K w.params) 64 = some _ by k_is)).andThen .now
theorem a1z : typeOf (.type "Exception") = pure (.type "type") := by kernel_rfl
section
variable {w : World} {A : Around} {E : Value → Shared → Prop} {s : Shared} {h₀ : Heap} {L : Addr} {m : b9p → Option Value} {news : Led}
theorem a4c {D : Option Addr} {t0 : Addr} {rest : List Value} (hC : C = 52 ∨ C = 64) (F : Fr h₀ L s.heap m) (N : News h₀ L s.heap ((e, a0j C D (.ref t0) tb cx) :: news)) (hne : ∀ p ∈ news, p.1 ≠ e) (X₀ : (K w.params).In h₀) (h : ∀ h' t1, Fr h₀ L h' m → News h₀ L h' ((t1, a1f rest) :: (e, a0j C D (.ref t1) tb cx) :: news) → e < t1 → (∀ p ∈ news, p.1 < t1) → Q .none { s with heap := h' }) (hrest : rest.length ≤ sizeLine) :
  wpAny (model prog w) A (call (.builtin "Exception.__init__") (.ref e :: rest)) Q E s := by
 revert cl9 tb cx e C Q prog w A E s h₀ L m news D t0 rest
 intros hC F N hne X₀ h hrest
 have mk9 : a0b := trivial
 have f := PySem.F.excCall_Exception
 have X := X₀.keeps F.keep
 have he := (N _ (.head _)).1
 refine wpAny_call (c2R f.init.plain f.initEntry ?_)
 obtain ⟨nm, q, N', bs, hdct, sn, sub, ab, col, dd, k0, k1, k2, k3, k5, hCo⟩ := a0X X hC
 obtain ⟨hh, g, d, tk, os⟩ := s
 refine a3u hCo (by decide) he rfl ?_
 unfold Builtin.«BaseException.__init__»
 dsimp only
 rw [if_neg (by simp)]
 unfold newTuple Builtin.BaseException.bexcPut
 have he₁ := b9B (h := hh) { cls := .type "tuple", data := .seq rest.toArray } he
 refine wpAny_bind (c0P (wpAny_bind (wpAny_bind (b9Q he₁ rfl (i := 0) (x := .ref t0) rfl (wpAny_bind (c0u he₁ rfl (i := 0) (by show 0 < 6; decide) ?_))))) (by show rest.toArray.size ≤ sizeLine; rw [b9H]; exact hrest))
 show wpAny _ _ (letGo [.ref t0]) _ _ _
 refine c2s ?_
 refine wpAny_pure ?_
 show Q .none _
 have N₁ := N.push F (a1f rest)
 have F₁ := F.push (a1f rest)
 have lt : ∀ p ∈ (e, a0j C D (.ref t0) tb cx) :: news, p.1 < hh.objs.size := fun p hp => b9x (N p hp).1
 obtain ⟨F₂, N₂⟩ := news_upd (pre := [(hh.objs.size, a1f rest)]) (post := news) (d := e) (o := a0j C D (.ref t0) tb cx) (o' := a0j C D (.ref hh.objs.size) tb cx) (f := c0v (·.setIfInBounds 0 (.ref hh.objs.size))) F₁ N₁
  (fun p hp => by cases b9C.mp hp; exact b9F (lt _ (.head _))) hne rfl rfl
 exact h _ _ F₂ N₂ (lt _ (.head _)) (fun p hp => lt p (.tail _ hp))
end
theorem b5W : True := by
 k_with "X1:getMethod type:Exception" => ((k_here; refine' method_type ?F ?X ?m (by decide +kernel) ?e ?hz9 ?_; (case F => k_asm); (case X => k_asm); (case m => exact a1z); (case e => k_dflt k_is); (case hz9 => k_handed)))
 trivial
theorem era_X2 : True := trivial
section
open PySem.Calls PySem.Builtin PySem.Builtin.ObjectAttr
variable {w : World} {A : Around} {s : Shared} {h₀ : Heap} {L : Addr} {m : b9p → Option Value} {R : Result → Shared → Prop}
theorem a1F (hC : C = 52 ∨ C = 64) : ∃ cd, clsIn (K w.params) C = some cd ∧ cd.hasDict = true ∧ cd.mro = .ref C :: .ref 39 :: bmE := by
 rcases hC with rfl | rfl
 ·exact ⟨_, by k_is, rfl, rfl⟩
 ·exact ⟨_, by k_is, rfl, rfl⟩
theorem a6E (hC : C = 52 ∨ C = 64) : findIn (K w.params) (.ref C) "__setattr__" = some (some (.builtin "object.__setattr__")) := by
 rcases hC with rfl | rfl
 ·k_is
 ·k_is
theorem a6s (hC : C = 52 ∨ C = 64) (hn : name = "what" ∨ name = "at") : findIn (K w.params) (.ref C) name = some none := by
 rcases hC with rfl | rfl <;> rcases hn with rfl | rfl
 all_goals k_is
theorem a6A {x : Addr} {od : Option Obj} {tk : Tok} {v : Value} (hC : C = 52 ∨ C = 64) (hn : name = "what" ∨ name = "at") (X : (K w.params).In s.heap) (I : InstAt s.heap x ox C od) (h : ∀ b, wpAny (model prog w) A.in1 (storeInOwnDict (.ref x) (.ref C) (.str name tk) name v b)
   (fun fin s' => match fin with | .done f => R (.ok f) s' | .again c' => c'.quiet = true ∧ codeAny (model prog w) A c' R s') (fun e s' => R (.error e) s') s) :
  codeAny (model prog w) A (.call (.builtin "object.__setattr__") ⟨[.ref x, .str name tk, v], []⟩) R s := by
 revert cl9 name C ox prog w A s R x od tk v
 intros hC hn X I h
 have SF := PySem.F.store_object
 have sub : Looks (model prog w) s.heap (isInstance (.ref x) (.type "object")) true := by
  refine I.type.andThen ?_
  rcases hC with rfl | rfl
  ·exact looks_mroIn X (by k_is)
  ·exact looks_mroIn X (by k_is)
 refine c2R SF.slot.plain SF.entry (@check_slot (model prog w) _ _ s "object.__setattr__" "object" "__setattr__" (.ref x) [.str name tk, v] [] _ SF.kind SF.split sub (SF.args (.ref x) (.str name tk) v) ?_)
 have hm := a7S (M := model prog w) X hC
 rw [osa_eq, refuse_eq]
 refine wpAny_bind (wpAny_bind (I.type.here (wpAny_bind (hm.here ?_))))
 rw [refuseLoop_ref, refuseLoop_ref, PySem.F.store_Exception.passes]
 refine wpAny_pure (wpAny_bind (I.type.here (wpAny_bind ((c2x X (a6s hC hn)).here (wpAny_bind (wpAny_pure ?_))))))
 exact h _
theorem b0k {x : Addr} {f : Value} {tk : Tok} {v : Value} {pre : Led} {od' : Obj} {es : List DictEntry} (hC : C = 52 ∨ C = 64) (hn : name = "what" ∨ name = "at") (F : Fr h₀ L s.heap m) (N : News h₀ L s.heap (pre ++ (x, a0j C none f tb cx) :: post)) (X : (K w.params).In s.heap) (h1 : ∀ p ∈ pre, p.1 ≠ x) (h2 : ∀ p ∈ post, p.1 ≠ x) (e : c1Z name (b9M w.params name) (.str name s.toks) v emptyDict = od') (e' : od'.data = .dict es.toArray n) (hz : es.length ≤ 1000) (h : ∀ h' D, Fr h₀ L h' m → News h₀ L h' ((D, od') :: (pre ++ (x, a0j C (some D) f tb cx) :: post)) → (∀ p ∈ pre ++ (x, a0j C none f tb cx) :: post, p.1 < D) → R (.ok (.ret .none)) { s with heap := h', toks := s.toks + 1 }) :
  codeAny (model prog w) A (.call (.builtin "object.__setattr__") ⟨[.ref x, .str name tk, v], []⟩) R s := by
 revert cl9 n name tb cx C prog post w A s h₀ L m R x f tk v pre od' es
 intros hC hn F N X h1 h2 e e' hz h
 have mk9 : a0b := trivial
 have hx := (N (x, a0j C none f tb cx) (by simp)).1
 have I : InstAt s.heap x (a0j C none f tb cx) C none := ⟨hx, rfl, rfl, trivial⟩
 refine a6A hC hn X I ?_; intro b
 obtain ⟨cd, hc, hd', -⟩ := a1F (w := w) hC
 refine wpAny_bind (wpAny_pure (wpAny_bind (wpAny_bind (c2y hx (wpAny_bind ((looks_clsIn X hc).here ?_))))))
 rw [hd']
 have lt : ∀ p ∈ pre ++ (x, a0j C none f tb cx) :: post, p.1 < s.heap.objs.size := fun p hp => b9x (N p hp).1
 have ltx : x < s.heap.objs.size := lt (x, a0j C none f tb cx) (by simp)
 have N₁ := N.push F emptyDict
 have F₁ := F.push emptyDict
 obtain ⟨F₂, N₂⟩ := news_upd (pre := (s.heap.objs.size, emptyDict) :: pre) (post := post) (d := x) (o := a0j C none f tb cx) (o' := a0j C (some s.heap.objs.size) f tb cx) (f := fun o => { o with dict := some s.heap.objs.size }) F₁ N₁
  (fun p hp => by
   rcases b9r.mp hp with rfl | hp
   ·exact b9F ltx
   ·exact h1 p hp) h2 rfl rfl
 obtain ⟨U1, U2⟩ := news_upd (pre := []) (f := c1Z name (b9M w.params name) (.str name s.toks) v) F₂ N₂ (fun p hp => nomatch hp)
  (fun p hp => by
   rcases b9y.mp hp with hp | hp
   ·exact b9v (lt p (b9G _ hp))
   ·rcases b9r.mp hp with rfl | hp
    ·exact b9v ltx
    ·exact b9v (lt p (b9s _ (.tail _ hp)))) e (by obtain ⟨_, _, dd, _⟩ := od'; cases e'; rfl)
 refine wpAny_bind (wpAny_alloc' ?_)
 refine wpAny_bind (wpAny_update' (b9B _ hx) ?_)
 have D := (N₂ (s.heap.objs.size, emptyDict) (.head _)).1
 have D' := (U2 (s.heap.objs.size, od') (.head _)).1
 refine wpAny_pure (a := some s.heap.objs.size) (wpAny_bind (wpAny_pure (wpAny_bind ?_)))
 unfold nsSet
 refine wpAny_bind (wpAny_bind (c0L (wpAny_pure (wpAny_bind (wpAny_mkText (wpAny_bind (c2y D ?_)))))))
 dsimp only
 rw [aRefKeyMayBeTheName_at, show (!(#[] : Array DictEntry).any (·.key.isStr name) && (#[] : Array DictEntry).any (·.refKey)) = false from by simp]
 refine wpAny_updatePart D ?_
 refine wpAny_bind (wpAny_lookBehind D' (by rw [e']; exact pastItsLine_dict (by rw [b9H, b9O]; omega)) ?_)
 exact wpAny_pure (h _ _ U1 U2 lt)
theorem a9F {x : Addr} {f : Value} {tk : Tok} {v : Value} {od' : Obj} {es es' : List DictEntry} {n' : Nat} (hC : C = 52 ∨ C = 64) (hn : name = "what" ∨ name = "at") (F : Fr h₀ L s.heap m) (N : News h₀ L s.heap ((D, od) :: post)) (hx : (x, a0j C (some D) f tb cx) ∈ post) (X : (K w.params).In s.heap) (h2 : ∀ p ∈ post, p.1 ≠ D) (e0 : od.data = .dict es.toArray n') (e1 : (!es.any (·.key.isStr name) && es.any (·.refKey)) = false) (e : c1Z name (b9M w.params name) (.str name s.toks) v od = od') (e' : od'.data = .dict es'.toArray n) (hz : es'.length ≤ 1000) (h : ∀ h', Fr h₀ L h' m → News h₀ L h' ((D, od') :: post) → R (.ok (.ret .none)) { s with heap := h', toks := s.toks + 1 }) :
  codeAny (model prog w) A (.call (.builtin "object.__setattr__") ⟨[.ref x, .str name tk, v], []⟩) R s := by
 revert cl9 n name tb cx C D od prog post w A s h₀ L m R x f tk v od' es es' n'
 intros hC hn F N hx X h2 e0 e1 e e' hz h
 have mk9 : a0b := trivial
 have hx := (N _ (.tail _ hx)).1
 have D₀ := (N _ (.head _)).1
 have I : InstAt s.heap x (a0j C (some D) f tb cx) C (some od) := ⟨hx, rfl, rfl, D₀⟩
 refine a6A hC hn X I ?_; intro b
 obtain ⟨cd, hc, hd', -⟩ := a1F (w := w) hC
 refine wpAny_bind (wpAny_pure (wpAny_bind (wpAny_bind (c2y hx (wpAny_bind ((looks_clsIn X hc).here ?_))))))
 rw [hd']
 obtain ⟨U1, U2⟩ := news_upd (pre := []) (f := c1Z name (b9M w.params name) (.str name s.toks) v) F N (fun p hp => nomatch hp) h2 e (by obtain ⟨_, _, dd, _⟩ := od'; cases e'; rfl)
 have D' := (U2 (D, od') (.head _)).1
 refine wpAny_pure (a := some D) (wpAny_bind (wpAny_pure (wpAny_bind ?_)))
 unfold nsSet
 refine wpAny_bind (wpAny_bind (c0L (wpAny_pure (wpAny_bind (wpAny_mkText (wpAny_bind (c2y D₀ ?_)))))))
 dsimp only
 rw [e0]
 dsimp only
 rw [aRefKeyMayBeTheName_at, List.any_toArray, List.any_toArray, e1]
 refine wpAny_updatePart D₀ ?_
 refine wpAny_bind (wpAny_lookBehind D' (by rw [e']; exact pastItsLine_dict (by rw [b9H, b9O]; omega)) ?_)
 exact wpAny_pure (h _ U1 U2)
end
noncomputable abbrev a1t (P : Params) (x : b9p) (t : Tok) (k : Int) (u : Tok) (a b : Tok) : Obj := { cls := .type "dict", data := .dict #[⟨b9M P "what", .str "what" a, .str x t⟩, ⟨b9M P "at", .str "at" b, .int k u⟩] 2 }
theorem b9o (P : Params) (v : Value) (a : Tok) : c1Z "what" (b9M P "what") (.str "what" a) v emptyDict = { cls := .type "dict", data := .dict #[⟨b9M P "what", .str "what" a, v⟩] 1 } := by
 rfl
theorem b8Z (P : Params) (x : b9p) (t : Tok) (k : Int) (u : Tok) (a b : Tok) : c1Z "at" (b9M P "at") (.str "at" b) (.int k u) { cls := .type "dict", data := .dict #[⟨b9M P "what", .str "what" a, .str x t⟩] 1 } = a1t P x t k u a b := by
 rfl
theorem a7d {x : Addr} {f : Value} {v : Value} {p0 : Addr × Obj} {Q : Unit → Shared → Prop} (hC : C = 52 ∨ C = 64) (F : Fr h₀ L s.heap m) (N : News h₀ L s.heap (p0 :: (x, a0j C none f tb cx) :: post)) (X₀ : (K w.params).In h₀) (h1 : x < p0.1) (h2 : ∀ p ∈ post, p.1 ≠ x) (h : ∀ h' D tk, Fr h₀ L h' m → News h₀ L h' ((D, { cls := .type "dict", data := .dict #[⟨b9M w.params "what", .str "what" tk, v⟩] 1 }) :: p0 :: (x, a0j C (some D) f tb cx) :: post) → p0.1 < D → x < D → (∀ p ∈ post, p.1 < D) → Q () { s with heap := h', toks := s.toks + 2 }) :
  wpAny (model prog w) A (setAttr (.ref x) "what" v) Q E s := by
 have X := X₀.keeps F.keep
 have hx := (N (x, a0j C none f tb cx) mt1).1
 refine set_plain (od := none) X ⟨hx, rfl, rfl, trivial⟩ (a6E hC) (b0k (s := { s with toks := s.toks + 1 }) (pre := [p0]) hC (.inl rfl) F N X (fun p hp => by cases b9C.mp hp; exact b9F h1) h2 (b9o _ _ _) rfl (c1V rfl) fun h' D F' N' l' => ?_)
 exact h h' D _ F' N' (l' _ (.head _)) (l' _ mt1) (fun p hp => l' p (tl2 hp))
theorem a6b {x : Addr} {f : Value} {a : Tok} {k : Int} {Q : Unit → Shared → Prop} (hC : C = 52 ∨ C = 64) (F : Fr h₀ L s.heap m) (N : News h₀ L s.heap ((D, { cls := .type "dict", data := .dict #[⟨b9M w.params "what", .str "what" a, .str y t⟩] 1 }) :: post)) (hx : (x, a0j C (some D) f tb cx) ∈ post) (X₀ : (K w.params).In h₀) (h2 : ∀ p ∈ post, p.1 ≠ D) (h : ∀ h' b, Fr h₀ L h' m → News h₀ L h' ((D, a1t w.params y t k u a b) :: post) → Q () { s with heap := h', toks := s.toks + 2 }) :
  wpAny (model prog w) A (setAttr (.ref x) "at" (.int k u)) Q E s := by
 have X := X₀.keeps F.keep
 have hx' := (N _ (.tail _ hx)).1
 refine set_plain (od := some _) X ⟨hx', rfl, rfl, (N _ (.head _)).1⟩ (a6E hC) (a9F (s := { s with toks := s.toks + 1 }) (es := [_]) hC (.inr rfl) F N hx X h2 rfl (by rfl) (b8Z _ _ _ _ _ _ _) rfl (c1V rfl) fun h' F' N' => ?_)
 exact h h' _ F' N'
theorem era_X3 : True := trivial
theorem b6c : True := by
 k_with "X3:getMethod type:Exception" => ((k_here; refine' method_type ?F ?X ?m (by decide +kernel) ?e ?hz9 ?_; (case F => k_asm); (case X => k_asm); (case m => exact a1z); (case e => k_dflt k_is); (case hz9 => k_handed)))
 k_with "X3:call builtin:Exception.__init__" => ((k_here; k_dflt (refine' a4c hC ?k1 ?k2 ?k3 ?k4 ?_ (by size_fits); (case k1 => assumption); (case k2 => assumption); (case k3 => assumption); (case k4 => assumption)); intro h' t1 F' N' lt1 lt2; (try k_sweep)))
 k_with "X3:setAttr ref str" => ((k_here; k_dflt (refine' a7d hC ?k1 ?k2 ?k3 ?k4 ?k5 ?_; (case k1 => assumption); (case k2 => assumption); (case k3 => assumption); (case k4 => assumption); (case k5 => assumption)); intro h' D tk' F' N' l1 l2 l3; (try k_sweep)))
 k_with "X3:setAttr ref int" => ((k_here; k_dflt (refine' a6b hC ?k1 ?k2 ?k3 ?k4 ?k5 ?_; (case k1 => assumption); (case k2 => assumption); (case k3 => exact mt1); (case k4 => assumption); (case k5 => intro p hp; rcases b9r.mp hp with rfl | hp; exact b9v (by assumption); rcases b9r.mp hp with rfl | hp; exact b9v (by assumption); exact b9v (by first | exact (by assumption : ∀ p ∈ _, p.1 < _) p hp)); intro h' b F' N'; (try k_sweep))))
 trivial
noncomputable abbrev b1c (w : World) (C : Addr) (x : b9p) (t : Tok) (k : Int) (u : Tok) (news : Led) : Value → Led → Prop := fun v n => ∃ e D t1 a b, v = .ref e ∧ n = (e, a0j C (some D) (.ref t1) .none .none) :: (D, a1t w.params x t k u a b) :: news ∧ (∀ p ∈ news, p.1 < e) ∧ D ≠ e
theorem a6e {k : Int} (hC : C = 52 ∨ C = 64) :
  Fn w G hd C 3 40 [.str x t, .int k u] news (b1c w C x t k u news) := by
 revert cl9 G w x u t hd C news k
 intros hC
 unfold Fn; intro dp un gd cn cs a ccd cl outer A₀ base h₀ L m s Q E B F XB N TB hk hdp hun hret; have X := XB.keeps B.stays; have T := TB.keeps B.stays; refine wpAny_call ?_
 have X' := X.keeps F.keep
 obtain ⟨nm, q, N', bs, hdct, sn, sub, ab, col, dd, k0, k1, k2, k3, k5, hCo⟩ := a0X X' hC
 obtain ⟨hh, g, d, tk, os⟩ := s
 refine a3I (rest := [.str x t, .int k u]) hCo (by decide) (by decide) (by decide) (a3L X' hC) (a3J X') ?_ (by size_fits)
 have N₁ := (N.push F (a1f [.str x t, .int k u])).push (F.push _) (a0j C none (.ref hh.objs.size) .none .none)
 have F₁ := (F.push (a1f [.str x t, .int k u])).push (a0j C none (.ref hh.objs.size) .none .none)
 have ne₁ : ∀ p ∈ (hh.objs.size, a1f [.str x t, .int k u]) :: news, p.1 ≠ hh.objs.size + 1 := by
  intro p hp
  rcases b9r.mp hp with rfl | hp
  ·exact b9v (c0K _)
  ·exact b9v (b9N (b9x (N p hp).1))
 have hlt : ∀ p ∈ news, p.1 < hh.objs.size + 1 := fun p hp => b9N (b9x (N p hp).1)
 dsimp only at hret F₁ N₁
 rw [c0i] at N₁
 generalize hp : (hh.push (a1f [.str x t, .int k u])).push (a0j C none (.ref hh.objs.size) .none .none) = hp at *
 generalize ht : hh.objs.size = te at *
 clear N F hCo X' hp
 k_dflt (refine' code_def ?k1 ?k2 ?k3 ?k4 ?k5 ?kA ?kF ?kK ?k6 ?k7 ?k8 ?k9 ?kB ?_ ?c2 ?c3 ?c4 ?c5; (case kA => exact rfl); (case kF => exact rfl); (case kK => assumption); (case k1 => k_asm); (case k2 => k_asm); (case k3 => k_asm); (case k4 => k_asm); (case k5 => k_asm); (case k6 => k_is); (case k7 => k_is); (case k8 => ktr_room); (case k9 => exact binds_K (by k_in) rfl (by k_is) rfl rfl rfl); (case c5 => decide); (case kB => exact locs rfl); (case c2 => exact rfl); (case c3 => exact rfl); (case c4 => exact rfl); k_whole; intro g' L' h' FG' F' N' B' X' T'; (try dsimp only); (try k_lift B'); (try k_fold))
 k_steps
 refine hret _ _ _ _ ⟨_, D, t1, tk', b, rfl, rfl, ?_, ?_⟩ (by k_asm) ?_
 ·intro p hp
  exact hlt p hp
 ·exact b9A (b9v (by assumption))
 ·intro p hp
  rcases b9r.mp hp with rfl | hp
  ·exact (by assumption : News h₀ L _ _) _ mt2
  rcases b9r.mp hp with rfl | hp
  ·exact (by assumption : News h₀ L _ _) _ (.head _)
  ·exact (by assumption : News h₀ L _ _) _ (tl4 hp)
theorem a1U (hC : C = 52 ∨ C = 64) :
  Fn w G hd C 3 40 [.str x t] news (fun v n => ∃ u, b1c w C x t (-1) u news v n) := by
 revert cl9 G w x t hd C news
 intros hC
 unfold Fn; intro dp un gd cn cs a ccd cl outer A₀ base h₀ L m s Q E B F XB N TB hk hdp hun hret; have X := XB.keeps B.stays; have T := TB.keeps B.stays; refine wpAny_call ?_
 have X' := X.keeps F.keep
 obtain ⟨nm, q, N', bs, hdct, sn, sub, ab, col, dd, k0, k1, k2, k3, k5, hCo⟩ := a0X X' hC
 obtain ⟨hh, g, d, tk, os⟩ := s
 refine a3I (rest := [.str x t]) hCo (by decide) (by decide) (by decide) (a3L X' hC) (a3J X') ?_ (by size_fits)
 have N₁ := (N.push F (a1f [.str x t])).push (F.push _) (a0j C none (.ref hh.objs.size) .none .none)
 have F₁ := (F.push (a1f [.str x t])).push (a0j C none (.ref hh.objs.size) .none .none)
 have ne₁ : ∀ p ∈ (hh.objs.size, a1f [.str x t]) :: news, p.1 ≠ hh.objs.size + 1 := by
  intro p hp
  rcases b9r.mp hp with rfl | hp
  ·exact b9v (c0K _)
  ·exact b9v (b9N (b9x (N p hp).1))
 have hlt : ∀ p ∈ news, p.1 < hh.objs.size + 1 := fun p hp => b9N (b9x (N p hp).1)
 dsimp only at hret F₁ N₁
 rw [c0i] at N₁
 generalize hp : (hh.push (a1f [.str x t])).push (a0j C none (.ref hh.objs.size) .none .none) = hp at *
 generalize ht : hh.objs.size = te at *
 clear N F hCo X' hp
 k_dflt (refine' code_def ?k1 ?k2 ?k3 ?k4 ?k5 ?kA ?kF ?kK ?k6 ?k7 ?k8 ?k9 ?kB ?_ ?c2 ?c3 ?c4 ?c5; (case kA => exact rfl); (case kF => exact rfl); (case kK => assumption); (case k1 => k_asm); (case k2 => k_asm); (case k3 => k_asm); (case k4 => k_asm); (case k5 => k_asm); (case k6 => k_is); (case k7 => k_is); (case k8 => ktr_room); (case k9 => exact binds_K (by k_in) rfl (by k_is) rfl rfl rfl); (case c5 => decide); (case kB => exact locs rfl); (case c2 => exact rfl); (case c3 => exact rfl); (case c4 => exact rfl); k_whole; intro g' L' h' FG' F' N' B' X' T'; (try dsimp only); (try k_lift B'); (try k_fold))
 k_steps
 refine hret _ _ _ _ ⟨202, _, D, t1, tk', b, rfl, rfl, ?_, ?_⟩ (by k_asm) ?_
 ·intro p hp
  exact hlt p hp
 ·exact b9A (b9v (by assumption))
 ·intro p hp
  rcases b9r.mp hp with rfl | hp
  ·exact (by assumption : News h₀ L _ _) _ mt2
  rcases b9r.mp hp with rfl | hp
  ·exact (by assumption : News h₀ L _ _) _ (.head _)
  ·exact (by assumption : News h₀ L _ _) _ (tl4 hp)
noncomputable abbrev frs (l : List Env) : List Addr := l.filterMap (·.frame)
section
variable {M : Model} {A : Around} {E : Value → Shared → Prop} {s : Shared}
theorem a2C {vs : Array Value} {Q : Unit → Shared → Prop} (hfr : A.frames = some (env :: outer)) (hl : s.heap.FunFrames base (env :: outer)) (hf : env.frame = some L) (he : s.heap.get? e = some oe) (hd : oe.data = .fields vs) (h1 : vs[1]? = some tb) (htb : tb = .none ∨ ∃ T oT ts, tb = .ref T ∧ T ≠ e ∧ s.heap.get? T = some oT ∧ oT.data = .fields ts ∧ ts[3]? = some .none) (h : ∀ h' T' oe' oT' ts', (∀ b o, s.heap.get? b = some o → b ∉ frs (env :: outer) → b ≠ e → tb ≠ .ref b → h'.get? b = some o) →
   (∀ b o, s.heap.get? b = some o → b ∈ frs (env :: outer) → ∃ sl, h'.get? b = some { o with slots := sl }) →
   h'.get? e = some oe' → oe'.cls = oe.cls → oe'.dict = oe.dict → oe'.data = .fields (vs.setIfInBounds 1 (.ref T')) → s.heap.get? T' = none → h'.get? T' = some oT' → oT'.data = .fields ts' → ts'[3]? = some (rawInt L) → T' ≠ e →
   Q () { s with heap := h' }) : wpAny M A (noteFrame (.ref e) env) Q E s := by
 revert cl9 tb outer base L e env oe M A E s vs Q
 intros hfr hl hf he hd h1 htb h
 have hsz : 1 < vs.size := (Array.getElem?_eq_some_iff.mp h1).1
 have key : ∀ (g : Heap) (hn : Bool), g.FunFrames base (env :: outer) → g.get? e = some oe → (∀ b o, s.heap.get? b = some o → tb ≠ .ref b → g.get? b = some o) → (∀ b, s.heap.get? b = none ↔ g.get? b = none) → g.objs.size = s.heap.objs.size →
   wpAny M A (do let a ← frameOf env; let pl ← entryPlaceOf L hn; let b ← EntryCells.newEntry tb a .none (rawInt L) .none pl; setField (.ref e) 1 b) Q E { s with heap := g } := by
  intro g hn hl' he hk hnone hsize
  have hene : e ∉ frs (env :: outer) := fun hm => by
   obtain ⟨_, o, ho, hnf⟩ := hl'.mem hm
   rw [he] at ho; cases ho; exact hnf vs hd
  refine wpAny_bind (wpAny_frameOf_fun hfr hl' hf fun h₁ hs₁ => ?_)
  refine wpAny_bind (wpAny_entryPlaceOf fun pl hpl => ?_)
  unfold EntryCells.newEntry newFields
  refine wpAny_bind (c0P ?_ (hpl.sizeOk5 _ _ _ _ _))
  have he₁ : h₁.get? e = some oe := (hs₁.2.1 e hene).trans he
  have he₂ := b9B (h := h₁) { cls := .type "traceback", dict := none, data := .fields ([tb, .ref L, .none, rawInt L, .none] ++ (if pl.isEmpty then List.replicate 6 b9P else pl)).toArray } he₁
  have hTe : h₁.objs.size ≠ e := b9F (b9x he₁)
  have hd₃ := c0z hd (·.setIfInBounds 1 (b9t h₁.objs.size))
  have hTnew : s.heap.get? h₁.objs.size = none := Heap.get?_none_of_le (by rw [hs₁.1, hsize]; exact b9K _)
  have up : ∀ b o, b ≠ e → h₁.get? b = some o → ((h₁.push { cls := .type "traceback", dict := none, data := .fields ([tb, .ref L, .none, rawInt L, .none] ++ (if pl.isEmpty then List.replicate 6 b9P else pl)).toArray }).update e (c0v (·.setIfInBounds 1 (b9t h₁.objs.size)))).get? b = some o := fun b o hbe hb => by
   rw [c0V _ _ (b9A hbe)]
   exact b9B _ hb
  refine c0u he₂ hd hsz (h _ h₁.objs.size _ _ _ (fun b o hb hnf hbe hbt => up b o hbe ((hs₁.2.1 b hnf).trans (hk b o hb hbt))) (fun b o hb hm => ?_)
   (c0F _ he₂ (c0W hd₃)) (c1W _ _) ?_ hd₃ hTnew ((c0V _ _ (b9A hTe)).trans (b9R h₁ rfl)) rfl (by rcases hpl with rfl | ⟨_, _, _, _, _, _, _, rfl⟩ <;> simp) hTe)
  ·have hbt : tb ≠ .ref b := fun q => by
    rcases htb with rfl | ⟨T, oT, ts, rfl, _, hT, hdT, _⟩
    ·cases q
    ·cases q
     obtain ⟨_, o', ho', hnf⟩ := hl.mem hm
     rw [hT] at ho'; cases ho'; exact hnf ts hdT
   obtain ⟨sl, hs⟩ := hs₁.2.2 b o (hk b o hb hbt)
   exact ⟨sl, up b _ (fun q => by rw [q] at hm; exact hene hm) hs⟩
  ·obtain ⟨_, _, od, _⟩ := oe
   cases od <;> rfl
 unfold noteFrame
 simp only [hf]
 refine wpAny_bind (b9Q he hd h1 ?_)
 rcases htb with rfl | ⟨T, oT, ts, rfl, hTe, hT, hdT, h3⟩
 ·rw [if_neg (by decide)]
  exact key s.heap _ hl he (fun _ _ q _ => q) (fun _ => Iff.rfl) rfl
 ·rw [if_pos (show (b9t T != b9P) = true from by simp)]
  refine wpAny_bind (b9Q hT hdT h3 ?_)
  rw [if_neg (show ¬ ((b9P == rawInt L) = true) from by simp [rawInt])]
  refine wpAny_bind (c0u hT hdT (Array.getElem?_eq_some_iff.mp h3).1 ?_)
  have other : ∀ b, b ≠ T → (s.heap.update T (c0v (·.setIfInBounds 3 b9P))).get? b = s.heap.get? b := fun b hb => c0V _ _ (b9A hb)
  have self := c0F (c0v (·.setIfInBounds 3 b9P)) hT (c0W (c0z hdT _))
  refine key _ _ (hl.of_keeps fun b o hb hnf => ⟨o, (other b fun q => by rw [q, hT] at hb; cases hb; exact hnf ts hdT).trans hb, rfl⟩) ((other e (b9A hTe)).trans he) (fun b o hb hbt => (other b fun q => hbt (by rw [q])).trans hb) (fun b => ?_) (by simp [Heap.update])
  by_cases q : b = T
  ·rw [q, self, hT]; simp
  ·rw [other b q]
theorem a6d {oT : Obj} {vs ts : Array Value} {Q : Unit → Shared → Prop} (he : s.heap.get? e = some oe) (hd : oe.data = .fields vs) (h1 : vs[1]? = some (.ref T)) (hT : s.heap.get? T = some oT) (hdT : oT.data = .fields ts) (h3 : 3 < ts.size) (h : ∀ h' oT', (∀ b, b ≠ T → h'.get? b = s.heap.get? b) → h'.get? T = some oT' → oT'.data = .fields (ts.setIfInBounds 3 .none) → Q () { s with heap := h' }) : wpAny M A (setFlight (.ref e) none) Q E s := by
 unfold setFlight
 refine wpAny_bind (b9Q he hd h1 ?_)
 rw [if_pos (show (b9t T != b9P) = true from by simp)]
 exact c0u hT hdT h3 (h _ _ (fun b hb => c0V _ _ (b9A hb)) (c0F _ hT (c0W (c0z hdT _))) (c0z hdT _))
end
structure Thr (l : List Env) (G : Heap) (e C : Addr) (D : Option Addr) (cx : Value) (nx : Led) (fl : Value) (h : Heap) : Prop where
 keep : ∀ b o, G.get? b = some o → b ∉ frs l → h.get? b = some o
 slot : ∀ b o, G.get? b = some o → b ∈ frs l → ∃ sl, h.get? b = some { o with slots := sl }
 new : G.get? e = none
 exc : ∃ oe vs T oT ts, h.get? e = some oe ∧ oe.cls = .ref C ∧ oe.dict = D ∧ oe.data = .fields vs ∧ vs[1]? = some (.ref T) ∧ vs[2]? = some cx ∧ G.get? T = none ∧ T ≠ e ∧ h.get? T = some oT ∧ oT.data = .fields ts ∧ ts[3]? = some fl ∧ ∀ q ∈ nx, q.1 ≠ T
 led : ∀ q ∈ nx, h.get? q.1 = some q.2 ∧ G.get? q.1 = none ∧ q.1 ≠ e
section
variable {M : Model} {A : Around} {E : Value → Shared → Prop} {s : Shared} {base g G h : Heap} {outer : List Env} {L a e C : Addr} {D : Option Addr} {cx fl : Value} {nx news : Led} {m : b9p → Option Value} {name : b9p} {scope : Scope} {cd : Value} {Q : Unit → Shared → Prop}
theorem a5X (x : h.Ns L m) : ∃ o, h.get? L = some o ∧ ∀ vs, o.data ≠ .fields vs := by
 revert cl9 h L m
 intros x
 have mk9 : a0b := trivial
 obtain ⟨o, es, ep, ho, hd, _⟩ := x
 exact ⟨o, ho, fun vs q => by rw [hd] at q; cases q⟩
theorem a7y (B : Below A base outer g) (x : Thr outer g e C D cx nx fl h) (hN : h.Ns L m) (hL : g.get? L = none) (hk : scope.kind = .function) : h.FunFrames base (envOf name scope L a cd :: outer) := by
 obtain ⟨o, ho, hd⟩ := a5X hN
 refine ⟨by show scope.kind ≠ .module; rw [hk]; decide, ⟨L, o, rfl, fresh_of_stays B.stays hL, ho, hd⟩, B.frames.of_keeps fun b o hb hnf => ?_⟩
 by_cases hm : b ∈ frs outer
 ·obtain ⟨sl, hs⟩ := x.slot b o hb hm
  exact ⟨_, hs, rfl⟩
 ·exact ⟨o, x.keep b o hb hm, rfl⟩
theorem b2M (F : Fr g L G m) (N : News g L G news) (x : Thr (envOf name scope L a cd :: outer) G e C D cx nx fl h) (hfr : ∀ p ∈ news, p.1 ∉ frs outer) :
  Thr outer g e C D cx (nx ++ news) fl h ∧ h.Ns L m := by
 revert cl9 g G h outer L a e C D cx fl nx news m name scope cd
 intros F N x hfr
 have mk9 : a0b := trivial
 have gL := c0X F
 have hns : h.Ns L m := by
  obtain ⟨o, es, ep, ho, r⟩ := F.ns
  obtain ⟨sl, hs⟩ := x.slot L o ho (.head _)
  exact ⟨_, es, ep, hs, r⟩
 have ne : ∀ b o, g.get? b = some o → b ≠ L := fun b o q z => by rw [z, gL] at q; cases q
 obtain ⟨ka, kb, kc, ⟨oe, vs, T, oT, ts, d1, d2, d3, d4, d5, d6, d7, d8, d9, d10, d11, d12⟩, kf⟩ := x
 have nt : ∀ p ∈ news, h.get? p.1 = some p.2 := fun p hp => ka _ _ (N p hp).1 fun hm => by
  rcases b9r.mp hm with z | z
  ·exact (N p hp).2.1 z
  ·exact hfr p hp z
 refine ⟨⟨fun b o q hm => ka b o (F.keep b o q) fun z => ?_, fun b o q hm => kb b o (F.keep b o q) (.tail _ hm), kts_none F.keep kc,
  ⟨oe, vs, T, oT, ts, d1, d2, d3, d4, d5, d6, kts_none F.keep d7, d8, d9, d10, d11, fun q hq => ?_⟩, fun q hq => ?_⟩, hns⟩
 ·rcases b9r.mp z with z | z
  ·exact ne b o q z
  ·exact hm z
 ·rcases b9y.mp hq with hq | hq
  ·exact d12 q hq
  ·intro z
   have := (N q hq).1
   rw [z, d7] at this; cases this
 ·rcases b9y.mp hq with hq | hq
  ·exact ⟨(kf q hq).1, kts_none F.keep (kf q hq).2.1, (kf q hq).2.2⟩
  ·refine ⟨nt q hq, (N q hq).2.2, fun z => ?_⟩
   have := (N q hq).1
   rw [z, kc] at this; cases this
theorem b0T (B : Below A base outer g) (hL : g.get? L = none) (hLe : L ≠ e) (hLn : ∀ q ∈ nx, q.1 ≠ L) (x : Thr outer g e C D cx nx .none s.heap) (hN : s.heap.Ns L m) (hk : scope.kind = .function) (h : ∀ h', Thr outer g e C D cx nx (rawInt L) h' → h'.Ns L m → Q () { s with heap := h' }) : wpAny M (A.deeper (envOf name scope L a cd)) (noteFrame (.ref e) (envOf name scope L a cd)) Q E s := by
 revert cl9 M A E s base g outer L a e C D cx nx m name scope cd Q
 intros B hL hLe hLn x hN hk h
 have mk9 : a0b := trivial
 have Fs := a7y (name := name) (a := a) (cd := cd) B x hN hL hk
 obtain ⟨ka, kb, kc, ⟨oe, vs, T, oT, ts, d1, d2, d3, d4, d5, d6, d7, d8, d9, d10, d11, d12⟩, kf⟩ := x
 have nf : ∀ p ∈ nx, p.1 ∉ frs outer := fun p hp hm => by
  obtain ⟨_, o, ho, _⟩ := B.frames.mem hm
  rw [(kf p hp).2.1] at ho; cases ho
 refine a2C (by exact Around.frames_deeper B.stack) Fs rfl d1 d4 d5 (.inr ⟨T, oT, ts, rfl, d8, d9, d10, d11⟩) ?_; revert cm9 h' T' oe' oT' ts' k1 k2; intro e1 e2 e3 e4 e5 e6 e7 e8 e9
 have up : ∀ b o, g.get? b = some o → ∃ o', s.heap.get? b = some o' := fun b o q => by
  by_cases hm : b ∈ frs outer
  ·obtain ⟨sl, hs⟩ := kb b o q hm; exact ⟨_, hs⟩
  ·exact ⟨_, ka b o q hm⟩
 have bL : ∀ b o, g.get? b = some o → b ∉ frs outer → b ∉ frs (envOf name scope L a cd :: outer) := fun b o q hm z => by
  rcases b9r.mp z with z | z
  ·rw [show b = L from z, hL] at q; cases q
  ·exact hm z
 refine h h' ⟨fun b o q hm => k1 b o (ka b o q hm) (bL b o q hm) (fun z => by rw [z, kc] at q; cases q) (fun z => by cases z; rw [d7] at q; cases q), fun b o q hm => ?_, kc,
  ⟨oe', _, T', oT', ts', e1, e2.trans d2, e3.trans d3, e4, by rw [c2z (Array.getElem?_eq_some_iff.mp d5).1], by rw [c2n (by decide)]; exact d6, ?_, e9, e6, e7, e8, fun q hq z => ?_⟩, fun q hq => ⟨?_, (kf q hq).2⟩⟩ ?_
 ·obtain ⟨sl, hs⟩ := kb b o q hm
  obtain ⟨sl', hs'⟩ := k2 b _ hs (.tail _ hm)
  exact ⟨sl', hs'⟩
 ·cases q : g.get? T' with
  | none => rfl
  | some o => obtain ⟨o', ho'⟩ := up _ _ q; rw [e5] at ho'; cases ho'
 ·have := (kf q hq).1
  rw [z, e5] at this; cases this
 ·refine k1 _ _ (kf q hq).1 (fun z => ?_) (kf q hq).2.2 (fun z => d12 q hq (by cases z; rfl))
  rcases b9r.mp z with z | z
  ·exact hLn q hq z
  ·exact nf q hq z
 ·obtain ⟨o, es, ep, ho, r⟩ := hN
  obtain ⟨sl, hs⟩ := k2 L o ho (.head _)
  exact ⟨_, es, ep, hs, r⟩
theorem a1y (x : Thr outer g e C D cx nx (rawInt L) s.heap) (h : Q () s) : wpAny M A (noteFrame (.ref e) (envOf name scope L a cd)) Q E s := by
 revert cl9 M A E s g outer L a e C D cx nx name scope cd Q
 intros x h
 have mk9 : a0b := trivial
 obtain ⟨ka, kb, kc, ⟨oe, vs, T, oT, ts, d1, d2, d3, d4, d5, d6, d7, d8, d9, d10, d11, d12⟩, kf⟩ := x
 unfold noteFrame
 simp only [show (envOf name scope L a cd).frame = some L from rfl]
 refine wpAny_bind (b9Q d1 d4 d5 ?_)
 rw [if_pos (show (b9t T != b9P) = true from by simp)]
 refine wpAny_bind (b9Q d9 d10 d11 ?_)
 rw [if_pos (show (rawInt L == rawInt L) = true from by simp)]
 exact wpAny_pure h
theorem a0N {fr : Option Addr} (hfr : ∀ b ∈ frs outer, ∀ o, g.get? b = some o → ∀ vs, o.data ≠ .fields vs) (x : Thr outer g e C D cx nx fl s.heap) (hN : s.heap.Ns L m) (h : ∀ h', Thr outer g e C D cx nx (fr.elim .none fun f => rawInt f) h' → h'.Ns L m → Q () { s with heap := h' }) : wpAny M A (setFlight (.ref e) fr) Q E s := by
 revert cl9 M A E s g outer L e C D cx fl nx m Q fr
 intros hfr x hN h
 have mk9 : a0b := trivial
 obtain ⟨ka, kb, kc, ⟨oe, vs, T, oT, ts, d1, d2, d3, d4, d5, d6, d7, d8, d9, d10, d11, d12⟩, kf⟩ := x
 unfold setFlight
 refine wpAny_bind (b9Q d1 d4 d5 ?_)
 rw [if_pos (show (b9t T != b9P) = true from by simp)]
 have h3 := (Array.getElem?_eq_some_iff.mp d11).1
 have other : ∀ b, b ≠ T → (s.heap.update T (c0v (·.setIfInBounds 3 (fr.elim .none fun f => rawInt f)))).get? b = s.heap.get? b := fun b hb => c0V _ _ (b9A hb)
 refine c0u d9 d10 h3 (h _ ⟨fun b o q hm => (other b fun z => by rw [z, d7] at q; cases q).trans (ka b o q hm), fun b o q hm => ?_, kc,
  ⟨oe, vs, T, _, _, (other e (b9A d8)).trans d1, d2, d3, d4, d5, d6, d7, d8, c0F _ d9 (c0W (c0z d10 _)), c0z d10 _, by rw [c2z h3], d12⟩, fun q hq => ⟨(other _ (d12 q hq)).trans (kf q hq).1, (kf q hq).2⟩⟩ ?_)
 ·obtain ⟨sl, hs⟩ := kb b o q hm
  exact ⟨sl, (other b fun z => by rw [z, d7] at q; cases q).trans hs⟩
 ·obtain ⟨o, es, ep, ho, hd, r⟩ := hN
  exact ⟨o, es, ep, (other L fun z => by rw [z, d9] at ho; cases ho; rw [d10] at hd; cases hd).trans ho, hd, r⟩
theorem a0m (B : Below A base outer g) : ∀ b ∈ frs outer, ∀ o, g.get? b = some o → ∀ vs, o.data ≠ .fields vs := fun b hm o q => by
 obtain ⟨_, o', ho', hd⟩ := B.frames.mem hm
 rw [q] at ho'; cases ho'; exact hd
theorem a6W (B : Below A base outer g) (x : Thr outer g e C D cx nx fl h) (hN : h.Ns L m) (hab : g.objs.size ≤ L) :
  ∃ g', KtsTurn (frs outer) g g' ∧ Fr g' L h m ∧ Below A base outer g' := by
 obtain ⟨T, S⟩ := kts_turn_at (h := h) (fs := frs outer) (g := g) (fun b hb => by obtain ⟨_, o, ho, _⟩ := B.frames.mem hb; exact ⟨o, ho⟩) x.keep x.slot
 refine ⟨_, T, ⟨hN, S, by rw [T.size]; exact hab⟩, ⟨B.stack, fun b o q => T.other b o (B.stays b o q) (fun hm => by rw [(B.frames.mem hm).1] at q; cases q), B.frames.of_keeps fun b o q _ => ?_⟩⟩
 obtain ⟨sl, hs⟩ := T.up q
 exact ⟨_, hs, rfl⟩
end
theorem era_X5 : True := trivial
noncomputable def FnX (w : World) (G : Gl) (hd : Option Value) (f : Addr) (d u : Nat) (vs : List Value) (news : Led) (R : Value → Led → Prop) (X : Addr → Option Addr → Value → Led → Prop) : Prop :=
 ∀ (dp un : Nat) (gd : Option (List Code)) (cn : b9p) (cs : Scope) (a : Addr) (ccd : Value) (cl : List (b9p × Addr)) (outer : List Env) (A₀ : Around) (base h₀ : Heap) (L : Addr) (m : b9p → Option Value) (s : Shared) (Q E : Value → Shared → Prop),
  Below A₀ base outer h₀ → Fr h₀ L s.heap m → (K w.params).In base → News h₀ L s.heap news → Top G.p G.loose G.mean G.mg G.mb base → cs.kind = .function → dp + d < recursionLimit → un + u < cLine →
  (∀ v news' h' tk', R v news' → Fr h₀ L h' m → News h₀ L h' news' → Q v { s with heap := h', toks := tk' }) →
  (∀ e C D cx nx h' tk', X C D cx nx → Thr outer h₀ e C D cx nx .none h' → h'.Ns L m → News h₀ L h' nx → E (.ref e) { s with heap := h', toks := tk' }) →
  wpAny (model b9u.prog w) (a9r hd dp un gd cn cs L a ccd cl outer) (call (.ref f) vs) Q E s
theorem FnX.use {p : Program} {f : Addr} {d u : Nat} {R : Value → Led → Prop} {X' : Addr → Option Addr → Value → Led → Prop} {a : Addr} (C : FnX w ⟨p, loose, mean, mg, mb⟩ hd f d u vs news R X') (B : Below A₀ base outer h₀) (F : Fr h₀ L s.heap m) (X : (K w.params).In base) (N : News h₀ L s.heap news) (T : Top p loose mean mg mb base) (hk : cs.kind = .function) (hdp : dp + d < recursionLimit) (hun : un + u < cLine) (h : ∀ (h' : Heap) (tk' : Nat) (C' : Value → Led → Prop), (C' = fun v n => Fr h₀ L h' m → News h₀ L h' n → Q v { s with heap := h', toks := tk' }) → ∀ v n, R v n → C' v n) (hx : ∀ (e : Addr) (h' : Heap) (tk' : Nat) (K' : Addr → Option Addr → Value → Led → Prop), (K' = fun C D cx nx => Thr outer h₀ e C D cx nx .none h' → h'.Ns L m → News h₀ L h' nx → E (.ref e) { s with heap := h', toks := tk' }) → ∀ C D cx nx, X' C D cx nx → K' C D cx nx) :
  wpAny (model b9u.prog w) (a9r hd dp un gd cn cs L a ccd cl outer) (call (.ref f) vs) Q E s := C _ _ _ _ _ _ _ _ _ _ _ _ _ _ _ _ _ B F X N T hk hdp hun (fun v n h' tk' r => h h' tk' _ rfl v n r) fun e C D cx nx h' tk' r => hx e h' tk' _ rfl C D cx nx r
noncomputable def ownRaise (v : Value) : Sem Flow := do
 let e ← holding [] (excFromValue v "exceptions must derive from BaseException")
 let e ← if ← isType v then holding [e] (raisedFor v e) else raisedInstance e
 setFlight e none
 raiseNew e
section
variable {w : World} {A : Around} {E : Value → Shared → Prop} {s : Shared} {env : Env}
theorem a8G {e : Expr} {Q : Flow → Shared → Prop} (h : wpAny M A (eval e env) (fun v s₁ => wpAny M A (ownRaise v) Q E s₁) E s) : wpAny M A (exec (.Raise (some e) none pos) env) Q E s := by
 show wpAny M A (do standAt pos; raiseStmt env (some (do let v ← eval e env; standAt pos; pure v)) none) Q E s
 refine wpAny_bind (wpAny_standAt ?_)
 unfold raiseStmt
 dsimp only
 refine wpAny_bind (wpAny_bind (b9L h (fun v s₁ h₁ => wpAny_bind (wpAny_standAt (wpAny_pure ?_))) fun _ _ x => x))
 refine wpAny_bind (wpAny_pure ?_)
 dsimp only
 unfold ownRaise at h₁
 exact h₁
theorem a3K (X : (K w.params).In h) (hC : C = 52 ∨ C = 64) : Looks M h (isSubtype (.ref C) (.type "BaseException")) true := by
 rcases hC with rfl | rfl
 ·exact looks_mroIn X (by k_is)
 ·exact looks_mroIn X (by k_is)
theorem a3d {D : Option Addr} {f : Value} {Q : Flow → Shared → Prop} (hC : C = 52 ∨ C = 64) (X : (K w.params).In s.heap) (he : s.heap.get? e = some (a0j C D f .none .none)) (h : wpAny (model prog w) A (raiseNew (.ref e) : Sem Flow) Q E s) : wpAny (model prog w) A (ownRaise (.ref e)) Q E s := by
 revert cl9 e C prog w A E s D f Q
 intros hC X he h
 have hnt : ∀ {Q' : Bool → Shared → Prop}, Q' false s → wpAny (model prog w) A (isType (.ref e)) Q' E s := by
  intro Q' hq
  simp only [isType, loadHead]
  exact wpAny_bind (c2y he (wpAny_pure hq))
 obtain ⟨cd, hc, hd', -⟩ := a1F (w := w) hC
 unfold ownRaise
 refine wpAny_bind (wpAny_holding ?_)
 unfold excFromValue isExcClass
 refine wpAny_bind (wpAny_bind (hnt ?_))
 simp only [c0w, if_false]
 refine wpAny_pure ?_
 simp only [c0w, if_false]
 have hi : Looks (model prog w) s.heap (isInstance (.ref e) (.type "BaseException")) true := ((Looks.ld he).andThen .now : Looks (model prog w) s.heap (typeOf (.ref e)) (.ref C)).andThen (a3K X hC)
 refine wpAny_bind (hi.here ?_)
 simp only [if_true]
 refine wpAny_pure ?_
 refine wpAny_bind (hnt ?_)
 simp only [c0w, if_false]
 unfold raisedInstance
 have ht : Looks (model prog w) s.heap (typeOf (.ref e)) (.ref C) := (Looks.ld he).andThen .now
 have htt : Looks (model prog w) s.heap (typeOf (.ref C)) (.type "type") := by
  rcases hC with rfl | rfl
  ·exact looks_typeIn X (by k_is)
  ·exact looks_typeIn X (by k_is)
 refine wpAny_bind (wpAny_bind (ht.here (wpAny_bind (htt.here ?_))))
 rw [if_pos (by decide)]
 refine wpAny_pure ?_
 unfold setFlight
 refine wpAny_bind (wpAny_bind (b9Q he rfl (i := 1) (x := .none) rfl ?_))
 rw [if_neg (by decide)]
 exact wpAny_pure h
theorem a7D {Q : α → Shared → Prop} (hA : A.handled = none) (h : E (.ref e) s) : wpAny M A (raiseNew (.ref e) : Sem α) Q E s := wpAny_raiseNew_none hA h
end
section
variable {A : Around} {E : Value → Shared → Prop} {s : Shared} {base g G h h₀ : Heap} {outer : List Env} {L a e C : Addr} {D : Option Addr} {cx fl : Value} {nx news : Led} {m m' : b9p → Option Value} {name : b9p} {scope : Scope} {cd : Value}
theorem Thr.frs_eq {l l' : List Env} (x : Thr l G e C D cx nx fl h) (k : frs l' = frs l) : Thr l' G e C D cx nx fl h := by
 obtain ⟨a, b, c, d, f⟩ := x
 exact ⟨fun b o q hm => a b o q (by rw [← k]; exact hm), fun b' o q hm => b b' o q (by rw [← k]; exact hm), c, d, f⟩
theorem b2b {X' : Addr → Option Addr → Value → Led → Prop} (FG : Fr h₀ L g m) (hexc : ∀ e C D cx nx h' tk', X' C D cx nx → Thr outer h₀ e C D cx nx .none h' → h'.Ns L m → News h₀ L h' nx → E (.ref e) { s with heap := h', toks := tk' }) :
  ∀ e C D cx nx h' tk', X' C D cx nx → Thr (envX cn cs L a ccd cl :: outer) g e C D cx nx .none h' → E (.ref e) { s with heap := h', toks := tk' } := fun e C D cx nx h' tk' hX x => by
 have y : Thr (envOf cn cs L a ccd :: outer) g e C D cx nx .none h' := x.frs_eq rfl
 obtain ⟨z, hN⟩ := b2M FG News.nil y (fun p hp => nomatch hp)
 obtain ⟨o, es, ep, ho, _⟩ := FG.ns
 rw [c0k] at z
 refine hexc e C D cx nx h' tk' hX z hN fun p hp => ⟨(z.led p hp).1, fun q => ?_, (z.led p hp).2.1⟩
 have := (x.led p hp).2.1
 rw [q, ho] at this; cases this
theorem a7e {vs : Array Value} (hN : h.Ns L m) (he : h.get? e = some o) (hd : o.data = .fields vs) : L ≠ e := fun z => by
 obtain ⟨o', es, ep, ho, hd', _⟩ := hN
 rw [z, he] at ho; cases ho; rw [hd] at hd'; cases hd'
end
section
variable {M : Model} {A A' : Around} {E : Value → Shared → Prop} {s : Shared} {base g G h h₀ : Heap} {outer : List Env} {L e C : Addr} {D : Option Addr} {cx fl : Value} {nx news : Led} {m m' : b9p → Option Value} {env : Env}
theorem b2q (hf : env.frame = some L) (hk : env.scope.kind = .function) (B : Below A base outer g) (F : Fr g L h m) : h.FunFrames base (env :: outer) := by
 obtain ⟨o, ho, hd⟩ := a5X F.ns
 exact ⟨by show env.scope.kind ≠ .module; rw [hk]; decide, ⟨L, o, hf, fresh_of_stays B.stays (c0X F), ho, hd⟩, B.frames.of_keeps fun b o hb _ => ⟨o, F.keep b o hb, rfl⟩⟩
theorem b1v (hf : env.frame = some L) (hk : env.scope.kind = .function) (B : Below A base outer g) (x : Thr outer g e C D cx nx fl h) (hN : h.Ns L m) (hL : g.get? L = none) : h.FunFrames base (env :: outer) := by
 obtain ⟨o, ho, hd⟩ := a5X hN
 refine ⟨by show env.scope.kind ≠ .module; rw [hk]; decide, ⟨L, o, hf, fresh_of_stays B.stays hL, ho, hd⟩, B.frames.of_keeps fun b o hb hnf => ?_⟩
 by_cases hm : b ∈ frs outer
 ·obtain ⟨sl, hs⟩ := x.slot b o hb hm
  exact ⟨_, hs, rfl⟩
 ·exact ⟨o, x.keep b o hb hm, rfl⟩
theorem a6J (hf : env.frame = some L) : frs (env :: outer) = L :: frs outer := by
 show List.filterMap _ _ = _
 rw [List.filterMap_cons, hf]
theorem a7i {vs : Array Value} {Q : Unit → Shared → Prop} (hf : env.frame = some L) (hk : env.scope.kind = .function) (hfr : A'.frames = some (env :: outer)) (B : Below A base outer g) (F : Fr g L s.heap m) (N : News g L s.heap ((e, oe) :: nx)) (hc : oe.cls = .ref C) (hD : oe.dict = D) (hd : oe.data = .fields vs) (h1 : vs[1]? = some .none) (h2 : vs[2]? = some cx) (hne : ∀ p ∈ nx, p.1 ≠ e) (h : ∀ h', Thr outer g e C D cx nx (rawInt L) h' → h'.Ns L m → Q () { s with heap := h' }) : wpAny M A' (noteFrame (.ref e) env) Q E s := by
 have gL := c0X F
 obtain ⟨he, heL, hge⟩ := N _ (.head _)
 have nf : ∀ p ∈ (e, oe) :: nx, p.1 ∉ frs outer := fun p hp hm => by
  obtain ⟨_, o, ho, _⟩ := B.frames.mem hm
  rw [(N p hp).2.2] at ho; cases ho
 have fe := a6J (outer := outer) hf
 refine a2C hfr (b2q hf hk B F) hf he hd h1 (.inl rfl) fun h' T' oe' oT' ts' k1 k2 e1 e2 e3 e4 e5 e6 e7 e8 e9 => h h' ⟨fun b o q hm => k1 b o (F.keep b o q) (fun z => ?_) (fun z => ?_) (fun z => by cases z), fun b o q hm => k2 b o (F.keep b o q) (by rw [fe]; exact .tail _ hm), hge,
  ⟨oe', _, T', oT', ts', e1, e2.trans hc, e3.trans hD, e4, by rw [c2z (Array.getElem?_eq_some_iff.mp h1).1], by rw [c2n (by decide)]; exact h2, kts_none F.keep e5, e9, e6, e7, e8, fun q hq z => ?_⟩, fun q hq => ⟨?_, (N q (.tail _ hq)).2.2, hne q hq⟩⟩ ?_
 ·rw [fe] at z
  rcases b9r.mp z with z | z
  ·rw [show b = L from z, gL] at q; cases q
  ·exact hm z
 ·rw [z, hge] at q; cases q
 ·have := (N q (.tail _ hq)).1
  rw [z, e5] at this; cases this
 ·refine k1 _ _ (N q (.tail _ hq)).1 (fun z => ?_) (hne q hq) (fun z => by cases z)
  rw [fe] at z
  rcases b9r.mp z with z | z
  ·exact (N q (.tail _ hq)).2.1 z
  ·exact nf q (.tail _ hq) z
 ·obtain ⟨o, es, ep, ho, r⟩ := F.ns
  obtain ⟨sl, hs⟩ := k2 L o ho (by rw [fe]; exact .head _)
  exact ⟨_, es, ep, hs, r⟩
theorem a7X {Q : Unit → Shared → Prop} (hf : env.frame = some L) (hk : env.scope.kind = .function) (hfr : A'.frames = some (env :: outer)) (B : Below A base outer g) (hL : g.get? L = none) (hLe : L ≠ e) (hLn : ∀ q ∈ nx, q.1 ≠ L) (x : Thr outer g e C D cx nx .none s.heap) (hN : s.heap.Ns L m) (h : ∀ h', Thr outer g e C D cx nx (rawInt L) h' → h'.Ns L m → Q () { s with heap := h' }) : wpAny M A' (noteFrame (.ref e) env) Q E s := by
 revert cl9 M A A' E s base g outer L e C D cx nx m env Q
 intros hf hk hfr B hL hLe hLn x hN h
 have mk9 : a0b := trivial
 have Fs := b1v hf hk B x hN hL
 have fe := a6J (outer := outer) hf
 obtain ⟨ka, kb, kc, ⟨oe, vs, T, oT, ts, d1, d2, d3, d4, d5, d6, d7, d8, d9, d10, d11, d12⟩, kf⟩ := x
 have nf : ∀ p ∈ nx, p.1 ∉ frs outer := fun p hp hm => by
  obtain ⟨_, o, ho, _⟩ := B.frames.mem hm
  rw [(kf p hp).2.1] at ho; cases ho
 refine a2C hfr Fs hf d1 d4 d5 (.inr ⟨T, oT, ts, rfl, d8, d9, d10, d11⟩) ?_; revert cm9 h' T' oe' oT' ts' k1 k2; intro e1 e2 e3 e4 e5 e6 e7 e8 e9
 have up : ∀ b o, g.get? b = some o → ∃ o', s.heap.get? b = some o' := fun b o q => by
  by_cases hm : b ∈ frs outer
  ·obtain ⟨sl, hs⟩ := kb b o q hm; exact ⟨_, hs⟩
  ·exact ⟨_, ka b o q hm⟩
 have bL : ∀ b o, g.get? b = some o → b ∉ frs outer → b ∉ frs (env :: outer) := fun b o q hm z => by
  rw [fe] at z
  rcases b9r.mp z with z | z
  ·rw [show b = L from z, hL] at q; cases q
  ·exact hm z
 refine h h' ⟨fun b o q hm => k1 b o (ka b o q hm) (bL b o q hm) (fun z => by rw [z, kc] at q; cases q) (fun z => by cases z; rw [d7] at q; cases q), fun b o q hm => ?_, kc,
  ⟨oe', _, T', oT', ts', e1, e2.trans d2, e3.trans d3, e4, by rw [c2z (Array.getElem?_eq_some_iff.mp d5).1], by rw [c2n (by decide)]; exact d6, ?_, e9, e6, e7, e8, fun q hq z => ?_⟩, fun q hq => ⟨?_, (kf q hq).2⟩⟩ ?_
 ·obtain ⟨sl, hs⟩ := kb b o q hm
  obtain ⟨sl', hs'⟩ := k2 b _ hs (by rw [fe]; exact .tail _ hm)
  exact ⟨sl', hs'⟩
 ·cases q : g.get? T' with
  | none => rfl
  | some o => obtain ⟨o', ho'⟩ := up _ _ q; rw [e5] at ho'; cases ho'
 ·have := (kf q hq).1
  rw [z, e5] at this; cases this
 ·refine k1 _ _ (kf q hq).1 (fun z => ?_) (kf q hq).2.2 (fun z => d12 q hq (by cases z; rfl))
  rw [fe] at z
  rcases b9r.mp z with z | z
  ·exact hLn q hq z
  ·exact nf q hq z
 ·obtain ⟨o, es, ep, ho, r⟩ := hN
  obtain ⟨sl, hs⟩ := k2 L o ho (by rw [fe]; exact .head _)
  exact ⟨_, es, ep, hs, r⟩
theorem frames_deeper (h : A.frames = some outer) : (A.deeper env).frames = some (env :: outer) := Around.frames_deeper h
theorem a4z {vs : Array Value} {Q : Unit → Shared → Prop} (B : Below A base outer g) (F : Fr g L s.heap m) (N : News g L s.heap ((e, oe) :: nx)) (hc : oe.cls = .ref C) (hD : oe.dict = D) (hd : oe.data = .fields vs) (h1 : vs[1]? = some .none) (h2 : vs[2]? = some cx) (hne : ∀ p ∈ nx, p.1 ≠ e) (hf : env.frame = some L) (hk : env.scope.kind = .function) (h : ∀ h', Thr outer g e C D cx nx .none h' → Q () { s with heap := h' }) : wpAny M (A.deeper env) (leaving env (.ref e)) Q E s := by
 unfold leaving
 exact wpAny_bind (a7i hf hk (frames_deeper B.stack) B F N hc hD hd h1 h2 hne fun h₁ x hN => a0N (fr := none) (s := { s with heap := h₁ }) (a0m B) x hN fun h' x' _ => h h' x')
theorem a9x {Q : Unit → Shared → Prop} (B : Below A base outer g) (F : Fr g L G m') (x : Thr outer g e C D cx nx .none s.heap) (hN : s.heap.Ns L m) (N : News g L s.heap nx) (hf : env.frame = some L) (hk : env.scope.kind = .function) (h : ∀ h', Thr outer g e C D cx nx .none h' → Q () { s with heap := h' }) : wpAny M (A.deeper env) (leaving env (.ref e)) Q E s := by
 revert cl9 M A E s base g G outer L e C D cx nx m m' env Q
 intros B F x hN N hf hk h
 have mk9 : a0b := trivial
 unfold leaving
 have hLe : L ≠ e := by
  obtain ⟨oe, vs, T, oT, ts, d1, d2, d3, d4, _⟩ := x.exc
  exact a7e hN d1 d4
 exact wpAny_bind (a7X hf hk (frames_deeper B.stack) B (c0X F) hLe (fun q hq => (N q hq).2.1) x hN fun h₁ x hN => a0N (fr := none) (s := { s with heap := h₁ }) (a0m B) x hN fun h' x' _ => h h' x')
end
theorem a5c {d : Addr} {l : Led} (h : ∀ p ∈ l, p.1 < d) : ∀ p ∈ l, p.1 ≠ d := fun p hp => b9v (h p hp)
theorem a3Y {d : Addr} {l : Led} (h : ∀ p ∈ l, p.1 < d) (g : @b9w Nat _ d e) : ∀ p ∈ l, p.1 ≠ e := fun p hp => b9v (b9V (h p hp) g)
structure BoxR where
 b : Addr
 d : Addr
 l : Addr
 g : Addr
 od : Obj
 x : b9p
 k : Int
variable {rs ts : List BoxR} {r t' : BoxR}
noncomputable abbrev a3h : Obj := listOf #[] 0
noncomputable def BoxR.led (r : BoxR) : Led := [(r.g, a3h), (r.l, a3h), (r.b, instObj 360 r.d), (r.d, r.od)]
noncomputable def a5N (P : Params) (od : Obj) (x : b9p) (k : Int) (l g : Addr) : Prop := ∃ a1 a2 a3 a4 a5 a6 a7 x1 k1 n1 t1 f1 : Tok,
 od = dictOf [⟨b9M P "name", .str "name" a1, .str x x1⟩, ⟨b9M P "validity", .str "validity" a2, .int k k1⟩, ⟨b9M P "next_uid", .str "next_uid" a3, .int 1 n1⟩,
  ⟨b9M P "top", .str "top" a4, .int 1 t1⟩, ⟨b9M P "floor", .str "floor" a5, .int 0 f1⟩, ⟨b9M P "letters", .str "letters" a6, .ref l⟩, ⟨b9M P "gone", .str "gone" a7, .ref g⟩] 7
noncomputable def BoxR.ok (P : Params) (r : BoxR) : Prop := a5N P r.od r.x r.k r.l r.g
theorem era_S0 : True := trivial
section
theorem a8Y {k : Int} :
  Fn w G hd 360 3 40 [.str x t, .int k u] news (fun v n => ∃ r : BoxR, v = .ref r.b ∧ n = r.led ++ news ∧ r.ok w.params ∧ r.x = x ∧ r.k = k ∧ (∀ p ∈ news, p.1 < r.d) ∧ r.d < r.b ∧ r.b < r.l ∧ r.l < r.g) := by
 revert cl9 G w x u t hd news k
 have mk9 : a0b := trivial
 ktr_unf
 k_steps
 (with_reducible rename News h₀ _ _ _ => N9)
 (with_reducible rename Fr h₀ _ _ _ => F9)
 refine hret _ _ _ _ ⟨⟨x', d', _, _, _, x, k⟩, rfl, rfl, ⟨_, _, _, _, _, _, _, _, _, _, _, _, rfl⟩, rfl, rfl, l1, l2, ?_, ?_⟩ F9 N9
 all_goals (refine ltN ?_; dsimp only; omega)
end
structure StR where
 S : Addr
 Sd : Addr
 B : Addr
 U : Addr
 sd : Obj
 ob : Obj
 ou : Obj
 rs : List BoxR
 subs : List b9p
 nxt : Int
variable {σ σ' : StR}
noncomputable def a0d (rs : List BoxR) (rest : Led) : Led := rs.flatMap BoxR.led ++ rest
noncomputable def StR.led (σ : StR) (rest : Led) : Led := (σ.S, instObj 490 σ.Sd) :: (σ.Sd, σ.sd) :: (σ.B, σ.ob) :: (σ.U, σ.ou) :: a0d σ.rs rest
noncomputable def StR.adr (σ : StR) : List Addr := σ.S :: σ.Sd :: σ.B :: σ.U :: (σ.rs.flatMap BoxR.led).map (·.1)
noncomputable def a0t (rs : List BoxR) : List (b9p × Value) := rs.map fun r => (r.x, b9t r.b)
noncomputable def a0x (P : Params) (sd : Obj) (B U : Addr) (nxt : Int) : Prop := ∃ a1 a2 a3 k1 : Tok,
 sd = dictOf [⟨b9M P "boxes", .str "boxes" a1, .ref B⟩, ⟨b9M P "subscribed", .str "subscribed" a2, .ref U⟩, ⟨b9M P "next_validity", .str "next_validity" a3, .int nxt k1⟩] 3
noncomputable abbrev kS (w : World) := strKind b9u.prog w
structure StR.ok (w : World) (σ : StR) (rest : Led) : Prop where
 sd : a0x w.params σ.sd σ.B σ.U σ.nxt
 ob : σ.ob.IsDictOf (kS w) (a0t σ.rs)
 lo : (σ.B == sysModules) = false
 ou : ∃ vs n, σ.ou = listOf vs n ∧ StrsAre vs.toList σ.subs
 box : ∀ r ∈ σ.rs, r.ok w.params
 nd : σ.adr.Nodup
 ap : ∀ p ∈ rest, p.1 ∉ σ.adr
structure b1d (a b c d : Nat) (tl : Led) : Prop where
 ab : a ≠ b
 ac : a ≠ c
 ad : a ≠ d
 bc : b ≠ c
 bd : b ≠ d
 cd : c ≠ d
 ta : ∀ p ∈ tl, p.1 ≠ a
 tb : ∀ p ∈ tl, p.1 ≠ b
 tc : ∀ p ∈ tl, p.1 ≠ c
 td : ∀ p ∈ tl, p.1 ≠ d
theorem a8L (O : σ.ok w rest) : b1d σ.S σ.Sd σ.B σ.U (a0d σ.rs rest) := by
 have h := O.nd
 have k := O.ap
 simp only [StR.adr, c0Y, b9r, not_or, b9I, not_exists, not_and] at h k
 obtain ⟨⟨h1, h2, h3, h4⟩, ⟨h5, h6, h7⟩, ⟨h8, h9⟩, h10, _⟩ := h
 have go : ∀ a : Addr, (∀ x ∈ σ.rs.flatMap BoxR.led, ¬ x.1 = a) → (∀ p ∈ rest, ¬ p.1 = a) → ∀ p ∈ a0d σ.rs rest, p.1 ≠ a := fun a x y p hp => (b9y.mp hp).elim (x p) (y p)
 exact ⟨h1, h2, h3, h5, h6, h8, go _ h4 fun p hp => (k p hp).1, go _ h7 fun p hp => (k p hp).2.1, go _ h9 fun p hp => (k p hp).2.2.1, go _ h10 fun p hp => (k p hp).2.2.2.1⟩
theorem b5e : Nonempty StR := neObj.elim fun o => ⟨⟨0, 0, 0, 0, o, o, o, [], [], 0⟩⟩
theorem b2E : Nonempty BoxR := neObj.elim fun o => ⟨⟨0, 0, 0, 0, o, default, 0⟩⟩
noncomputable def epB (P : BoxR → Prop) : Addr × Addr × Addr × Addr × Obj × b9p × Int := @b9T _ (ne2 inferInstance (ne2 inferInstance (ne2 inferInstance (ne2 inferInstance (ne2 neObj inferInstance))))) fun t => P ⟨pr1 t, pr1 (pr2 t), pr1 (pr2 (pr2 t)), pr1 (pr2 (pr2 (pr2 t))), pr1 (pr2 (pr2 (pr2 (pr2 t)))), pr1 (pr2 (pr2 (pr2 (pr2 (pr2 t))))), pr2 (pr2 (pr2 (pr2 (pr2 (pr2 t)))))⟩
theorem ex_box {P : BoxR → Prop} (h : ∃ x, P x) {G : Prop} (k : Hd7 (fun b d l g od x k => P ⟨b, d, l, g, od, x, k⟩ → G) (pr1 (epB P)) (pr1 (pr2 (epB P))) (pr1 (pr2 (pr2 (epB P)))) (pr1 (pr2 (pr2 (pr2 (epB P))))) (pr1 (pr2 (pr2 (pr2 (pr2 (epB P)))))) (pr1 (pr2 (pr2 (pr2 (pr2 (pr2 (epB P))))))) (pr2 (pr2 (pr2 (pr2 (pr2 (pr2 (epB P)))))))) : G :=
 k (c2l (p := fun t : Addr × Addr × Addr × Addr × Obj × b9p × Int => P ⟨pr1 t, pr1 (pr2 t), pr1 (pr2 (pr2 t)), pr1 (pr2 (pr2 (pr2 t))), pr1 (pr2 (pr2 (pr2 (pr2 t)))), pr1 (pr2 (pr2 (pr2 (pr2 (pr2 t))))), pr2 (pr2 (pr2 (pr2 (pr2 (pr2 t)))))⟩) (let ⟨r, hr⟩ := h; ⟨(r.b, r.d, r.l, r.g, r.od, r.x, r.k), hr⟩))
theorem a5r {P : BoxR → Prop} (r : BoxR) (k : Hd7 (fun b d l g od x k => P ⟨b, d, l, g, od, x, k⟩) r.b r.d r.l r.g r.od r.x r.k) : P r := k
theorem b6U {P : StR → Prop} (r : StR) (k : Hd10 (fun a b c d e f g h i j => P ⟨a, b, c, d, e, f, g, h, i, j⟩) r.S r.Sd r.B r.U r.sd r.ob r.ou r.rs r.subs r.nxt) : P r := k
theorem b8M : Nonempty (Addr × Addr × Addr × Addr × Obj × List BoxR × List b9p × Int × Tok × Tok × Tok × Tok × Array Value × Nat) :=
 ne2 inferInstance (ne2 inferInstance (ne2 inferInstance (ne2 inferInstance (ne2 neObj inferInstance))))
theorem StR.elim {P : StR → Prop} (h : ∀ S Sd Bx U ob rs subs nxt a1 a2 a3 k1 vs nU, StR.ok w ⟨S, Sd, Bx, U, dictOf [⟨b9M w.params "boxes", .str "boxes" a1, .ref Bx⟩, ⟨b9M w.params "subscribed", .str "subscribed" a2, .ref U⟩, ⟨b9M w.params "next_validity", .str "next_validity" a3, .int nxt k1⟩] 3, ob, listOf vs nU, rs, subs, nxt⟩ rest → c1n (kS w) ob (a0t rs) → StrsAre vs.toList subs → b1d S Sd Bx U (a0d rs rest) → P ⟨S, Sd, Bx, U, dictOf [⟨b9M w.params "boxes", .str "boxes" a1, .ref Bx⟩, ⟨b9M w.params "subscribed", .str "subscribed" a2, .ref U⟩, ⟨b9M w.params "next_validity", .str "next_validity" a3, .int nxt k1⟩] 3, ob, listOf vs nU, rs, subs, nxt⟩) : ∀ σ : StR, σ.ok w rest → P σ := by
 intro σ O
 have ap9 := a8L O
 have O' := O
 obtain ⟨⟨a1, a2, a3, k1, O1⟩, O2, O3, ⟨vs, nU, O4, O5⟩, O6, O7, O8⟩ := O
 obtain ⟨S, Sd, Bx, U, sd, ob, ou, rs, subs, nxt⟩ := σ
 dsimp only at *
 subst O1 O4
 exact h _ _ _ _ _ _ _ _ _ _ _ _ _ _ O' O2 O5 ap9
theorem StR.mem_adr {a : Addr} (h : a ∈ σ.adr) (rest : Led) : ∃ q ∈ σ.led rest, q.1 = a := by
 unfold StR.adr at h
 rcases b9r.mp h with rfl | h
 ·exact ⟨_, .head _, rfl⟩
 rcases b9r.mp h with rfl | h
 ·exact ⟨_, mt1, rfl⟩
 rcases b9r.mp h with rfl | h
 ·exact ⟨_, mt2, rfl⟩
 rcases b9r.mp h with rfl | h
 ·exact ⟨_, mt3, rfl⟩
 obtain ⟨q, hq, e⟩ := b9I.mp h
 exact ⟨q, tl4 (b9G _ hq), e⟩
theorem StR.led_rest (h : p ∈ rest) : p ∈ σ.led rest := tl4 (b9s _ h)
theorem StR.led_mono (h : ∀ q ∈ rest, q ∈ rest') (hp : p ∈ σ.led rest) : p ∈ σ.led rest' := by
 revert cl9 p rest rest' σ
 intros h hp
 unfold StR.led a0d at *
 simp only [b9r, b9y] at hp ⊢
 rcases hp with h1 | h1 | h1 | h1 | h1 | h1
 ·exact .inl h1
 ·exact .inr (.inl h1)
 ·exact .inr (.inr (.inl h1))
 ·exact .inr (.inr (.inr (.inl h1)))
 ·exact .inr (.inr (.inr (.inr (.inl h1))))
 ·exact .inr (.inr (.inr (.inr (.inr (h _ h1)))))
theorem StR.led_app {add : Led} : p ∈ σ.led (add ++ rest) ↔ p ∈ add ++ σ.led rest := by
 revert cl9 p rest σ add
 unfold StR.led a0d
 simp only [b9r, b9y]
 constructor
 ·rintro (h1 | h1 | h1 | h1 | h1 | h1 | h1)
  ·exact .inr (.inl h1)
  ·exact .inr (.inr (.inl h1))
  ·exact .inr (.inr (.inr (.inl h1)))
  ·exact .inr (.inr (.inr (.inr (.inl h1))))
  ·exact .inr (.inr (.inr (.inr (.inr (.inl h1)))))
  ·exact .inl h1
  ·exact .inr (.inr (.inr (.inr (.inr (.inr h1)))))
 ·rintro (h1 | h1 | h1 | h1 | h1 | h1 | h1)
  ·exact .inr (.inr (.inr (.inr (.inr (.inl h1)))))
  ·exact .inl h1
  ·exact .inr (.inl h1)
  ·exact .inr (.inr (.inl h1))
  ·exact .inr (.inr (.inr (.inl h1)))
  ·exact .inr (.inr (.inr (.inr (.inl h1))))
  ·exact .inr (.inr (.inr (.inr (.inr (.inr h1)))))
theorem StR.ok.sub (O : σ.ok w rest) (h : ∀ p ∈ rest', p ∈ rest) : σ.ok w rest' := ⟨O.sd, O.ob, O.lo, O.ou, O.box, O.nd, fun p hp => O.ap p (h p hp)⟩
theorem nc {l : Led} (a : h.get? p.1 = some p.2 ∧ p.1 ≠ L ∧ h₀.get? p.1 = none) (b : News h₀ L h l) : News h₀ L h (p :: l) := fun q hq => by
 rcases b9r.mp hq with rfl | hq
 ·exact a
 ·exact b q hq
theorem a6C {l : Led} {q : Addr × Obj} (h : ∀ p ∈ l, p.1 < D) (hq : q ∈ l) : @b9w Nat _ q.1 D := h q hq
theorem StR.ok.add {add : Led} (O : σ.ok w rest) (h : ∀ p ∈ add, ∀ q ∈ σ.led rest, @b9w Nat _ q.1 p.1) : σ.ok w (add ++ rest) :=
 ⟨O.sd, O.ob, O.lo, O.ou, O.box, O.nd, fun p hp => (b9y.mp hp).elim (fun hp e => by
  obtain ⟨q, hq, e'⟩ := StR.mem_adr e rest
  exact absurd (h p hp q hq) (by rw [e']; exact c0g _)) (O.ap p)⟩
theorem StR.ok.push {add : Led} (O : σ.ok w rest) (N : News h₀ L h (add ++ σ.led rest)) (f : ∀ p ∈ add, ∀ q ∈ σ.led rest, @b9w Nat _ q.1 p.1) :
  σ.ok w (add ++ rest) ∧ News h₀ L h (σ.led (add ++ rest)) ∧ ∀ p ∈ add, p ∈ a0d σ.rs (add ++ rest) :=
 ⟨O.add f, fun p hp => N p (StR.led_app.mp hp), fun p hp => b9s _ (b9G _ hp)⟩
theorem a5b {a : Addr} (h : ∀ q ∈ news, q.1 < a) : ∀ p ∈ [(a, o)], ∀ q ∈ news, @b9w Nat _ q.1 p.1 := fun p hp q hq => by cases b9C.mp hp; exact h q hq
theorem a5p {a b : Addr} (h : ∀ q ∈ news, q.1 < a) (k : @b9w Nat _ a b) : ∀ p ∈ [(b, o)], ∀ q ∈ news, @b9w Nat _ q.1 p.1 := fun p hp q hq => by cases b9C.mp hp; exact b9V (h q hq) k
noncomputable def a0u (rs : List BoxR) (x : b9p) : Bool := rs.any fun r => decide (r.x = x)
theorem b1a : (valueAt (a0t rs) x).isSome = a0u rs x := by
 revert cl9 x rs
 unfold valueAt a0t a0u
 induction rs with
 | nil => rfl
 | cons r rs ih =>
  rw [c0B, c1f, c1I]
  by_cases h : r.x = x
  ·simp [h]
  ·simp only [h, decide_false, c2S]; exact ih
noncomputable abbrev XF (C : Addr) (news : Led) : Addr → Option Addr → Value → Led → Prop := fun C' _ cx nx => C' = C ∧ (∀ p ∈ news, p ∈ nx) ∧ (cx = .none ∨ ∃ e2 o2 vs2, cx = .ref e2 ∧ (e2, o2) ∈ nx ∧ o2.data = .fields vs2 ∧ vs2[2]? = some .none)
theorem era_S1 : True := trivial
theorem b5S : True := by
 k_with "S1:call ref" => (k_here; ((with_reducible show wpAny _ _ (call (b9t 104) _) _ _ _); k_dflt (refine' Fn.use (a1r ?kH (by omega)) ?k1 ?k2 ?k3 ?k4 ?k5 ?k6 ?k7 ?k8 ?_); (case k4 => k_extra "g:k4"); (case kH => k_extra "g:kH"); k_extra "g:c1"; k_extra "g:c2"; obtain ⟨t', rfl, rfl, ln⟩ := hR'; (try clear hR'); k_extra "g:c3"; k_extra "g:c4"))
 k_with "S1:call ref" => (k_here; ((with_reducible show wpAny _ _ (call (b9t 64) _) _ _ _); k_dflt (refine' Fn.use (a1U (.inr rfl)) ?k1 ?k2 ?k3 ?k4 ?k5 ?k6 ?k7 ?k8 ?_); (case k4 => k_extra "g:k4"); k_extra "g:c1"; k_extra "g:c2"; obtain ⟨u', e', D', t1', a', b', rfl, rfl, l1', l2'⟩ := hR'; (try clear hR'); k_extra "g:c3"; k_extra "g:c4"))
 trivial
theorem a1J (O : σ.ok w rest) :
  FnX w G none 553 5 60 [.ref σ.S, .str x t] (σ.led rest) (fun v n => a0u σ.rs x = false ∧ v = .none ∧ n = σ.led rest) (fun C D cx nx => a0u σ.rs x = true ∧ XF 64 (σ.led rest) C D cx nx) := by
 revert O; revert σ; revert cl9 G w x t rest; z_head
 have mk9 : a0b := trivial
 unfold StR.led
 (try unfold StR.led at H)
 dsimp only at *
 ktr_unf
 k_steps
 ·exact hx _ _ _ _ _ _ _ ⟨by assumption, rfl, fun p hp => .tail _ hp, .inl rfl⟩ (by assumption)
 ·exact hret _ _ _ _ ⟨by assumption, rfl, rfl⟩ (by k_asm) (by k_asm)
theorem a1e {v : Int} (O : σ.ok w rest) (h1 : σ.nxt ≤ v) (h2 : v < 4294967295) :
  Fn w G none 560 2 20 [.ref σ.S, .int v t] (σ.led rest) (fun v n => v = .none ∧ n = σ.led rest) := by
 revert h1 h2
 revert O; revert σ; revert cl9 G w t rest v; z_head
 intros h1 h2
 have mk9 : a0b := trivial
 unfold StR.led
 (try unfold StR.led at H)
 dsimp only at *
 ktr_unf
 k_steps
 all_goals first | exact hret _ _ _ _ ⟨rfl, rfl⟩ (by k_asm) (by k_asm) | omega
theorem b2U (H : HdIn hd (σ.led rest)) (O : σ.ok w rest) (hx : x.length ≤ 90000) :
  Fn w G hd 468 4 60 [.ref σ.S, .str x t] (σ.led rest) (fun v n => v = .bool (a0u σ.rs (a0a x)) ∧ n = σ.led rest) := by
 revert H hx
 revert O; revert σ; revert cl9 G w x t hd rest; z_head
 intros H hx
 have mk9 : a0b := trivial
 unfold StR.led
 (try unfold StR.led at H)
 dsimp only at *
 ktr_unf
 k_steps
 exact hret _ _ _ _ ⟨rfl, rfl⟩ (by k_asm) (by k_asm)
theorem era_S2 : True := trivial
theorem b5b : True := by
 k_with "S2:call ref" => (k_here; ((with_reducible show wpAny _ _ (call (b9t 104) _) _ _ _); k_dflt (refine' Fn.use (a1r ?kH (by omega)) ?k1 ?k2 ?k3 ?k4 ?k5 ?k6 ?k7 ?k8 ?_); (case k4 => k_extra "g:k4"); (case kH => k_extra "g:kH"); k_extra "g:c1"; k_extra "g:c2"; obtain ⟨t', rfl, rfl, ln⟩ := hR'; (try clear hR'); k_extra "g:c3"; k_extra "g:c4"))
 k_with "S2:call ref" => (k_here; ((with_reducible show wpAny _ _ (call (b9t 64) _) _ _ _); k_dflt (refine' Fn.use (a1U (.inr rfl)) ?k1 ?k2 ?k3 ?k4 ?k5 ?k6 ?k7 ?k8 ?_); (case k4 => k_extra "g:k4"); k_extra "g:c1"; k_extra "g:c2"; obtain ⟨u', e', D', t1', a', b', rfl, rfl, l1', l2'⟩ := hR'; (try clear hR'); k_extra "g:c3"; k_extra "g:c4"))
 trivial
theorem a8U {d : Addr} (N : News h₀ L s.heap news) (hp : (d, o) ∈ news) (hd : o.IsDictOf (kS w) (a0t rs)) (lo : (d == sysModules) = false) (h : Q (.bool (!a0u rs x)) { s with toks := s.toks + 1 }) : wpAny (model b9u.prog w) A (compareOp .NotIn (.str x t) (.ref d)) Q E s :=
 wpAny_notIn_of (b9X _ _ _ _) lo (kda_dict N hp hd).mapOf (by rw [b1a]; exact h)
theorem b4O : True := by
 k_with "S2:compareOp NotIn str ref" => ((k_here; k_dflt (refine' a8U ?k1 ?k2 ?k3 ?k4 ?_; (case k1 => k_asm); (case k2 => k_mem); (case k3 => assumption); (case k4 => assumption))))
 trivial
theorem a4h (h : a0u rs x = true) : ∃ r ∈ rs, r.x = x ∧ valueAt (a0t rs) x = some (.ref r.b) := by
 revert cl9 x rs
 intros h
 unfold a0u at h
 unfold valueAt a0t
 induction rs with
 | nil => cases h
 | cons r rs ih =>
  rw [c1I] at h
  rw [c0B, c1f]
  by_cases e : r.x = x
  ·exact ⟨r, .head _, e, by simp [e]⟩
  ·simp only [e, decide_false, c2S] at h
   obtain ⟨r', hr, hx, hv⟩ := ih h
   exact ⟨r', .tail _ hr, hx, by simp only [e, decide_false]; exact hv⟩
theorem b0Z (O : σ.ok w rest) (hx : x.length ≤ 90000) :
  FnX w G none 475 5 60 [.ref σ.S, .str x t] (σ.led rest) (fun v n => (∃ r ∈ σ.rs, r.x = a0a x ∧ v = .ref r.b) ∧ n = σ.led rest) (fun C D cx nx => a0u σ.rs (a0a x) = false ∧ XF 64 (σ.led rest) C D cx nx) := by
 revert hx
 revert O; revert σ; revert cl9 G w x t rest; z_head
 intros hx
 have mk9 : a0b := trivial
 unfold StR.led
 (try unfold StR.led at H)
 dsimp only at *
 ktr_unf
 k_steps
 ·obtain ⟨r, hr, hrx, hv⟩ := a4h (by assumption : a0u rs (a0a x) = true)
  k_dflt (refine kdt_getItem (knd := kS _) (by k_asm) (by k_mem) (by assumption) (b9X _ _ _ _) hv ?_)
  k_steps
  exact hret _ _ _ _ ⟨⟨r, hr, hrx, rfl⟩, rfl⟩ (by k_asm) (by k_asm)
 ·exact hx _ _ _ _ _ _ _ ⟨by assumption, rfl, fun p hp => .tail _ hp, .inl rfl⟩ (by assumption)
theorem a3O {l : List b9p} (hl : vs.length = l.length) (h : ∀ (j : Nat) (v : Value), vs[j]? = some v → ∃ k, l[j]? = some k ∧ ∃ t : Tok, v = .str k t) : StrsAre vs l := by
 induction vs generalizing l with
 | nil => cases l with
  | nil => exact .nil
  | cons k l => exact nomatch hl
 | cons v vs ih => cases l with
  | nil => exact nomatch hl
  | cons k l =>
   obtain ⟨k', e, t, rfl⟩ := h 0 v rfl
   obtain rfl := b9U e
   exact .cons _ _ (ih (Nat.succ.inj hl) fun j u e => h (j + 1) u e)
theorem a9t {d : Addr} (hh : A.handled = none) (F : Fr h₀ L s.heap m) (N : News h₀ L s.heap news) (hp : (d, o) ∈ news) (hd : o.IsDictOf (kS w) kvs) (lo : (d == sysModules) = false) (hn : kvs.length ≤ 16777216) (h : ∀ (D : Addr) c vs h' tk, StrsAre vs (kvs.map (·.1)) → Fr h₀ L h' m → News h₀ L h' ((D, listOf vs.toArray c) :: news) → (∀ q ∈ news, q.1 < D) → Q (.ref D) { s with heap := h', toks := tk }) :
  wpAny (model b9u.prog w) A (call (.type "list") [.ref d]) Q E s := by
 obtain ⟨ep, hat⟩ := (kda_dict N hp hd).dictAt
 refine kdl_N (kdl_dict (knd := kS w) (kvs := kvs) (ep := ep) lo) hh F N hat (kdl_size hn) fun D c h' tk vs F' N' l1 hl hv => ?_
 refine h D c vs h' tk (a3O (by simpa using hl) fun j u hu => ?_) F' N' l1
 obtain ⟨k, x, hx, hk⟩ := hv j u hu
 obtain ⟨t, e⟩ := c2T hk
 exact ⟨k, by simp [hx], t, e⟩
noncomputable def Srt (ss' ss : List b9p) : Prop := ss'.Perm ss ∧ sortedS ss' = true
theorem a3S {l : Addr} (F : Fr h₀ L s.heap m) (N : News h₀ L s.heap news) (hl : (l, listOf vs.toArray c) ∈ news) (hS : StrsAre vs ss) (h64 : ss.length < 64) (h : ∀ (h' : Heap) (D : Addr) (vs' : List Value) (ss' : List b9p) (e : Nat), Fr h₀ L h' m → News h₀ L h' ((D, listOf vs'.toArray e) :: news) → (∀ q ∈ news, q.1 < D) → StrsAre vs' ss' → Srt ss' ss → Q (.ref D) { s with heap := h' }) :
  wpAny (model b9u.prog w) A (call (.builtin "sorted") [.ref l]) Q E s :=
 sorted_N_str F N ⟨_, (N _ hl).1, rfl, c, rfl⟩ hS (by rw [hS.length]; exact h64) fun h' vs' ss' e F' N' a b c => h h' _ vs' ss' e F' N' (fun q hq => b9N (b9x (N q hq).1)) a ⟨b, c⟩
theorem b6b : True := by
 k_with "S2:call type:list" => ((k_here; k_dflt (refine' a9t ?k1 ?k2 ?k3 ?k4 ?k5 ?k6 ?k7 ?_; (case k1 => rfl); (case k2 => k_asm); (case k3 => k_asm); (case k4 => k_mem); (case k5 => assumption); (case k6 => assumption); (case k7 => (simp only [a0t, b9z]; omega)));  intro D c vsL h' tk' hSA F' N' l1; (try k_sweep)))
 k_with "S2:call builtin:sorted" => ((k_here; k_dflt (refine' a3S ?k2 ?k3 ?k4 ?k5 ?k6 ?_; (case k2 => k_asm); (case k3 => k_asm); (case k4 => k_mem); (case k5 => assumption); (case k6 => (simp only [a0t, b9z]; omega)));  intro h' D vsS ssS eS F' N' l1 hSS hSrt; (try k_sweep)))
 trivial
theorem a1Y (O : σ.ok w rest) (hn : σ.rs.length ≤ 50) :
  Fn w G none 482 4 60 [.ref σ.S] (σ.led rest) (fun v n => ∃ D vs e ss, v = .ref D ∧ n = (D, listOf vs.toArray e) :: σ.led rest ∧ StrsAre vs ss ∧ Srt ss (σ.rs.map (·.x)) ∧ ∀ p ∈ σ.led rest, p.1 < D) := by
 revert hn
 revert O; revert σ; revert cl9 G w rest; z_head
 intros hn
 have mk9 : a0b := trivial
 unfold StR.led
 (try unfold StR.led at H)
 dsimp only at *
 ktr_unf
 k_steps
 refine hret _ _ _ _ ⟨D, vsS, eS, ssS, rfl, rfl, hSS, ?_, fun p hp => l1 p (.tail _ hp)⟩ (by k_asm) ?_
 ·have e : (a0t rs).map (·.1) = rs.map (·.x) := by unfold a0t; rw [c2t]; rfl
  rw [← e]; assumption
 ·intro p hp
  rcases b9r.mp hp with rfl | hp
  ·exact (by assumption : News h₀ L _ _) _ (.head _)
  ·exact (by assumption : News h₀ L _ _) _ (tl2 hp)
open PyProof.Rows.LCg
section
variable {prog : Program} {w : World} {A : Around} {E : Value → Shared → Prop} {s : Shared} {h₀ : Heap} {L : Addr} {m : b9p → Option Value} {env : Env}
theorem a0v {s₂ : Shared} {oC oD : Obj} {S : Led → Prop} {r r' : Value → Led → Prop} {y : Value} (h : CompEnd h₀ L m s₁ I oI C oC D oD S r y s₂) (k : ∀ n, r y n → r' y n) : CompEnd h₀ L m s₁ I oI C oC D oD S r' y s₂ := by
 revert cl9 C D I s₁ oI h₀ L m s₂ oC oD S r r' y
 intros h k
 have mk9 : a0b := trivial
 obtain ⟨h', tk, n, e, F, N, o, hS, hr⟩ := h
 exact ⟨h', tk, n, e, F, N, o, hS, k _ hr⟩
theorem a1l {elt : Expr} {x : b9p} {scope : Scope} {cl : List (b9p × Addr)} {S : Led → Prop} {P : Nat → Value → Prop} {Fin : List Value → Led → Prop} {n : Nat} (J : Nat → List Value → Led → Prop)
  (step : ∀ i ys news, i < n → J i ys news → ∀ v I oI C oC D m₂ h tk (E' : Value → Shared → Prop), P i v → NsObj oC m₂ → m₂ x = some v → Fr h₀ L h m → News h₀ L h ((I, oI) :: (C, oC) :: (D, lst ys) :: news) → Off3 I C D news → ((@Ne Nat I C) ∧ (@Ne Nat I D) ∧ (@Ne Nat C D)) →
   wpAny (model prog w) A (eval elt (compEnvC scope cl C env)) (CompEnd h₀ L m { s with heap := h, toks := tk } I oI C oC D (lst ys) S (fun y news' => J (i + 1) (ys ++ [y]) news')) E' { s with heap := h, toks := tk })
  (fin : ∀ ys news, J n ys news → Fin ys news) : ∀ k i ys news, i + k = n → J i ys news → CompRest prog w A h₀ L m env elt x scope cl s S P Fin k i ys news
 | 0, i, ys, news, e, j => by
  refine CompRest.zero (fin ys news ?_)
  rw [Nat.add_zero] at e; exact e ▸ j
 | k + 1, i, ys, news, e, j => by
  refine CompRest.succ fun v I oI C oC D m₂ h tk E' a b c d e' f g => ?_
  exact b9L (step i ys news (by omega) j v I oI C oC D m₂ h tk E' a b c d e' f g) (fun y s' z => a0v z fun n' j' => a1l J step fin k (i + 1) _ _ (by omega) j') fun _ _ z => z
theorem a0I {ct elt : Expr} {x : b9p} {scope : Scope} {cl : List (b9p × Addr)} {S : Led → Prop} {P : Nat → Value → Prop} {Fin : List Value → Led → Prop} {n : Nat} (J : Nat → List Value → Led → Prop)
  (step : ∀ i ys news, i < n → J i ys news → ∀ v I oI C oC D m₂ h tk (E' : Value → Shared → Prop), P i v → NsObj oC m₂ → m₂ x = some v → Fr h₀ L h m → News h₀ L h ((I, oI) :: (C, oC) :: (D, lst ys) :: news) → Off3 I C D news → ((@Ne Nat I C) ∧ (@Ne Nat I D) ∧ (@Ne Nat C D)) →
   wpAny (model prog w) A (isTrue ct (compEnvC scope cl C env) (eval ct (compEnvC scope cl C env))) (fun ok s' => if ok = true then
    wpAny (model prog w) A (eval elt (compEnvC scope cl C env)) (CompEnd h₀ L m { s with heap := h, toks := tk } I oI C oC D (lst ys) S (fun y news' => J (i + 1) (ys ++ [y]) news')) E' s'
    else CompEnd h₀ L m { s with heap := h, toks := tk } I oI C oC D (lst ys) S (fun _ news' => J (i + 1) ys news') b9P s') E' { s with heap := h, toks := tk })
  (fin : ∀ ys news, J n ys news → Fin ys news) : ∀ k i ys news, i + k = n → J i ys news → c2U prog w A h₀ L m env ct elt x scope cl s S P Fin k i ys news
 | 0, i, ys, news, e, j => by
  refine PyProof.Rows.LCt.CompRestT.zero (fin ys news ?_)
  rw [Nat.add_zero] at e; exact e ▸ j
 | k + 1, i, ys, news, e, j => by
  refine PyProof.Rows.LCt.CompRestT.succ fun v I oI C oC D m₂ h tk E' a b c d e' f g => ?_
  refine b9L (step i ys news (by omega) j v I oI C oC D m₂ h tk E' a b c d e' f g) (fun ok s' z => ?_) fun _ _ z => z
  cases ok with
  | true =>
   rw [if_pos rfl] at z ⊢
   exact b9L z (fun y s'' z' => a0v z' fun n' j' => a0I J step fin k (i + 1) _ _ (by omega) j') fun _ _ z => z
  | false =>
   rw [if_neg (by decide)] at z ⊢
   exact a0v z fun n' j' => a0I J step fin k (i + 1) _ _ (by omega) j'
noncomputable def a6t (h₀ : Heap) (L : Addr) (m : b9p → Option Value) (s₁ : Shared) (big : Led) (R : Value → Led → Prop) (y : Value) (s₂ : Shared) : Prop :=
 ∃ h' tk add, s₂ = { s₁ with heap := h', toks := tk } ∧ Fr h₀ L h' m ∧ News h₀ L h' (add ++ big) ∧ (∀ p ∈ add, ∀ q ∈ big, @b9w Nat _ q.1 p.1) ∧ R y add
theorem a4u {s₁ : Shared} {big add : Led} {R : Value → Led → Prop} {y : Value} {h' : Heap} {tk : Nat} (F : Fr h₀ L h' m) (N : News h₀ L h' (add ++ big)) (g : ∀ p ∈ add, ∀ q ∈ big, @b9w Nat _ q.1 p.1) (r : R y add) :
  a6t h₀ L m s₁ big R y { s₁ with heap := h', toks := tk } := ⟨h', tk, add, rfl, F, N, g, r⟩
theorem b0t {add small : Led} (N : News h₀ L h (add ++ big)) (k : ∀ p ∈ small, p ∈ big) : News h₀ L h (add ++ small) := fun p hp => N p (by
 rcases b9y.mp hp with hp | hp
 ·exact b9G _ hp
 ·exact b9s _ (k p hp))
theorem a1x {s₁ : Shared} {big big' add : Led} {R : Value → Led → Prop} {y : Value} {h' : Heap} {tk : Nat} (F : Fr h₀ L h' m) (N : News h₀ L h' (add ++ big')) (hs : ∀ p ∈ big, p ∈ big') (g : ∀ p ∈ add, ∀ q ∈ big', @b9w Nat _ q.1 p.1) (r : R y add) :
  a6t h₀ L m s₁ big R y { s₁ with heap := h', toks := tk } := ⟨h', tk, add, rfl, F, b0t N hs, fun p hp q hq => g p hp q (hs q hq), r⟩
theorem a5E {s₂ : Shared} {oC oD : Obj} {S : Led → Prop} {R : Value → Led → Prop} {r : Value → Led → Prop} {y : Value} (h : a6t h₀ L m s₁ ((I, oI) :: (C, oC) :: (D, oD) :: news) R y s₂) (off : Off3 I C D news) (hS : ∀ n, (∀ p ∈ news, p ∈ n) → S n) (hR : ∀ add, (∀ p ∈ add, ∀ q ∈ news, @b9w Nat _ q.1 p.1) → R y add → r y (add ++ news)) : CompEnd h₀ L m s₁ I oI C oC D oD S r y s₂ := by
 revert cl9 C D I s₁ oI news h₀ L m s₂ oC oD S R r y
 intros h off hS hR
 have mk9 : a0b := trivial
 obtain ⟨h', tk, add, rfl, F, N, hadd, hr⟩ := h
 have o3 := off.mem
 refine ⟨h', tk, add ++ news, rfl, F, fun p hp => ?_, Off3.of fun p hp => ?_, hS _ fun p hp => b9s _ hp, hR add (fun p hp q hq => hadd p hp q (tl3 hq)) hr⟩
 ·refine N p ?_
  rcases b9r.mp hp with rfl | hp
  ·exact b9s _ (.head _)
  rcases b9r.mp hp with rfl | hp
  ·exact b9s _ mt1
  rcases b9r.mp hp with rfl | hp
  ·exact b9s _ mt2
  rcases b9y.mp hp with hp | hp
  ·exact b9G _ hp
  ·exact b9s _ (tl3 hp)
 ·rcases b9y.mp hp with hp | hp
  ·exact ⟨b9F (hadd p hp _ (.head _)), b9F (hadd p hp _ mt1), b9F (hadd p hp _ mt2)⟩
  ·exact o3 p hp
theorem a1k {Fin : List Value → Led → Prop} {base : Led} (f : Nat → Dat) (hS : ∀ n, (∀ p ∈ base, p ∈ n) → SrcAt h₀ ax its n) (step : ∀ i news, i < its.size → (∀ p ∈ base, p ∈ news) → ∀ v I oI C oC D ys m₂ h tk (E' : Value → Shared → Prop), its[i]? = some v → NsObj oC m₂ → m₂ x = some v → Fr h₀ L h m → News h₀ L h ((I, oI) :: (C, oC) :: (D, lst ys) :: news) → Off3 I C D news → ((@Ne Nat I C) ∧ (@Ne Nat I D) ∧ (@Ne Nat C D)) →
   wpAny (model prog w) A (eval elt (compEnvC scope cl C env)) (a6t h₀ L m { s with heap := h, toks := tk } ((I, oI) :: (C, oC) :: (D, lst ys) :: news) (fun y add => DatIn add y (f i))) E' { s with heap := h, toks := tk }) (fin : ∀ ys add, (∀ p ∈ add, ∀ q ∈ base, @b9w Nat _ q.1 p.1) → DatAll add ys ((c1s its.size).map f) → Fin ys (add ++ base)) :
  CompRest prog w A h₀ L m env elt x scope cl s (SrcAt h₀ ax its) (fun i v => its[i]? = some v) Fin its.size 0 [] base := by
 refine a1l (fun i ys n => ∃ add, n = add ++ base ∧ (∀ p ∈ add, ∀ q ∈ base, @b9w Nat _ q.1 p.1) ∧ DatAll add ys ((c1s i).map f)) ?_ ?_ its.size 0 [] base (c1J _) ⟨[], rfl, fun _ h => (nomatch h), .nil⟩
 ·intros i ys n hi hR9; (obtain ⟨add, rfl, ha, hd⟩ := hR9) <;> (try clear hR9); intros v I oI C oC D m₂ h tk E' h1 h2 h3 F N off ne
  refine b9L (step i (add ++ base) hi (fun p hp => b9s _ hp) v I oI C oC D ys m₂ h tk E' h1 h2 h3 F N off ne) (fun y s' z => a5E z off (fun n hn => hS n fun p hp => hn p (b9s _ hp)) ?_) fun _ _ z => z
  intro add' ha' hd'
  refine ⟨add' ++ add, by rw [c0M], fun p hp q hq => ?_, ?_⟩
  ·rcases b9y.mp hp with hp | hp
   ·exact ha' p hp q (b9s _ hq)
   ·exact ha p hp q hq
  ·rw [List.range_succ, c0D]
   exact (hd.mono fun p hp => b9s _ hp).append (.one (hd'.mono fun p hp => b9G _ hp))
 ·intros ys n hR9; (obtain ⟨add, rfl, ha, hd⟩ := hR9) <;> (try clear hR9)
  exact fin ys add ha hd
noncomputable def a1L {α : Type} (h₀ : Heap) (L : Addr) (m : b9p → Option Value) (s₁ : Shared) (big : Led) (R : α → Prop) (y : α) (s₂ : Shared) : Prop :=
 ∃ h' tk, s₂ = { s₁ with heap := h', toks := tk } ∧ Fr h₀ L h' m ∧ News h₀ L h' big ∧ R y
theorem a0i {α : Type} {s₁ : Shared} {big n : Led} {R : α → Prop} {y : α} {h' : Heap} {tk : Nat} (F : Fr h₀ L h' m) (N : News h₀ L h' n) (hs : ∀ p ∈ big, p ∈ n) (r : R y) : a1L h₀ L m s₁ big R y { s₁ with heap := h', toks := tk } := ⟨h', tk, rfl, F, fun p hp => N p (hs p hp), r⟩
theorem a1I {Fin : List Value → Led → Prop} {base : Led} (p : b9p → Bool) (hS : StrsAre its.toList ss) (hsrc : SrcAt h₀ ax its base) (test : ∀ y ty I oI C oC D ys m₂ h tk (E' : Value → Shared → Prop), y ∈ ss → NsObj oC m₂ → m₂ x = some (.str y ty) → Fr h₀ L h m → News h₀ L h ((I, oI) :: (C, oC) :: (D, lst ys) :: base) →
   wpAny (model prog w) A (isTrue ct (compEnvC scope cl C env) (eval ct (compEnvC scope cl C env))) (a1L h₀ L m { s with heap := h, toks := tk } ((I, oI) :: (C, oC) :: (D, lst ys) :: base) (fun ok => ok = p y)) E' { s with heap := h, toks := tk }) (el : ∀ y ty I oI C oC D ys m₂ h tk (E' : Value → Shared → Prop), y ∈ ss → NsObj oC m₂ → m₂ x = some (.str y ty) → Fr h₀ L h m → News h₀ L h ((I, oI) :: (C, oC) :: (D, lst ys) :: base) →
   wpAny (model prog w) A (eval elt (compEnvC scope cl C env)) (a1L h₀ L m { s with heap := h, toks := tk } ((I, oI) :: (C, oC) :: (D, lst ys) :: base) (fun v => ∃ t, v = .str y t)) E' { s with heap := h, toks := tk }) (fin : ∀ ys, StrsAre ys (ss.filter p) → Fin ys base) : c2U prog w A h₀ L m env ct elt x scope cl s (SrcAt h₀ ax its) (fun i v => its[i]? = some v) Fin its.size 0 [] base := by
 revert cl9 ss x scope cl ax its elt ct prog w A s h₀ L m env Fin base p
 intros hS hsrc test el fin
 have get : ∀ {vs : List Value} {ss : List b9p} {i : Nat} {v : Value}, StrsAre vs ss → vs[i]? = some v → ∃ x t, v = .str x t ∧ ss[i]? = some x := by
  intro vs ss i v h
  induction h generalizing i with
  | nil => intro q; simp at q
  | cons x t r ih =>
   cases i with
   | zero => intro q; simp at q; exact ⟨x, t, q.symm, rfl⟩
   | succ i => intro q; simpa using ih (by simpa using q)
 have snoc : ∀ {vs : List Value} {ss : List b9p} {x : b9p} {t : Tok}, StrsAre vs ss → StrsAre (vs ++ [.str x t]) (ss ++ [x]) := by
  intro vs ss x t h
  induction h with
  | nil => exact .cons _ _ .nil
  | cons a b r ih => exact .cons a b ih
 have hlen : its.size = ss.length := by rw [← hS.length, c0e]
 refine a0I (fun i ys n => n = base ∧ StrsAre ys ((ss.take i).filter p)) ?_ ?_ its.size 0 [] base (c1J _) ⟨rfl, .nil⟩
 ·intros i ys n hi hR9; (obtain ⟨rfl, hys⟩ := hR9) <;> (try clear hR9); intros v I oI C oC D m₂ h tk E' hv h2 h3 F N off ne
  obtain ⟨y, ty, rfl, hy⟩ := get hS (by simpa using hv)
  have htake : ss.take (i + 1) = ss.take i ++ [y] := by rw [c0H, hy]; rfl
  refine b9L (test y ty I oI C oC D ys m₂ h tk E' (b9Z hy) h2 h3 F N) (fun ok s' z => ?_) fun _ _ z => z
  obtain ⟨h', tk', rfl, F', N', hok⟩ := z
  subst hok
  have fin' : ∀ (ok : Bool) (v' : Value) (ys' : List Value) (h'' : Heap) (tk'' : Nat), Fr h₀ L h'' m → News h₀ L h'' ((I, oI) :: (C, oC) :: (D, lst ys) :: n) → StrsAre ys' ((ss.take (i + 1)).filter p) →
    CompEnd h₀ L m { s with heap := h, toks := tk } I oI C oC D (lst ys) (SrcAt h₀ ax its) (fun _ n' => n' = n ∧ StrsAre ys' ((ss.take (i + 1)).filter p)) v' { s with heap := h'', toks := tk'' } := fun ok v' ys' h'' tk'' F'' N'' hs => ⟨h'', tk'', n, rfl, F'', N'', off, hsrc, rfl, hs⟩
  cases hp : p y with
  | true =>
   rw [if_pos rfl]
   refine b9L (el y ty I oI C oC D ys m₂ h' tk' E' (b9Z hy) h2 h3 F' N') (fun v' s'' z => ?_) fun _ _ z => z
   obtain ⟨h'', tk'', rfl, F'', N'', t, rfl⟩ := z
   refine a0v (fin' true _ (ys ++ [.str y t]) h'' tk'' F'' N'' ?_) fun n' z => z
   rw [htake, c1t, show c1u p [y] = [y] from by simp [hp]]
   exact snoc hys
  | false =>
   rw [if_neg (by decide)]
   refine fin' false _ ys h' tk' F' N' ?_
   rw [htake, c1t, show c1u p [y] = [] from by simp [hp], c0k]
   exact hys
 ·intros ys n hR9; (obtain ⟨rfl, hys⟩ := hR9) <;> (try clear hR9)
  rw [hlen, List.take_length] at hys
  exact fin ys hys
end
theorem b2C {c : Addr × Obj} (h1 : a ∈ big) (h2 : b ∈ big) (h3 : c ∈ big) (h : ∀ p ∈ news, p ∈ big) : ∀ p ∈ a :: b :: c :: news, p ∈ big := fun p hp => by
 rcases b9r.mp hp with rfl | hp
 ·exact h1
 rcases b9r.mp hp with rfl | hp
 ·exact h2
 rcases b9r.mp hp with rfl | hp
 ·exact h3
 exact h p hp
theorem a1G (n : Led) (h : StrsAre vs ss) : DatAll n vs (ss.map .str) := by
 induction h with
 | nil => exact .nil
 | cons y t _ ih => exact .cons (.str _ _) ih
theorem a6X {v : Value} {d : Dat} {n : Led} (h : DatIn n v d) (e : d = .str x) : ∃ t, v = .str x t := by
 revert cl9 x v d n
 intros h e
 cases h <;> first | (injection e with e; subst e; exact ⟨_, rfl⟩) | nomatch e
theorem a5Z {n : Led} (h : DatAll n vs (ss.map .str)) : StrsAre vs ss := by
 induction ss generalizing vs with
 | nil => cases h; exact .nil
 | cons x xs ih =>
  cases h with
  | cons a r =>
   obtain ⟨t, rfl⟩ := a6X a rfl
   exact .cons _ _ (ih r)
theorem era_S3 : True := trivial
noncomputable def b2B (x : b9p) (k : Int) : Dat := .tuple [.str x, .int k, .int 1, .int 1, .int 0, .tuple [], .tuple []]
theorem a5O {b d l g : Addr} {k : Int} (O : a5N w.params od x k l g) (hr : ∀ p ∈ BoxR.led ⟨b, d, l, g, od, x, k⟩, p ∈ news) :
  Fn w G none 357 3 60 [.ref b] news (fun v n => ∃ add, n = add ++ news ∧ (∀ p ∈ add, ∀ q ∈ news, @b9w Nat _ q.1 p.1) ∧ DatIn add v (b2B x k)) := by
 revert cl9 G w x od news b d l g k
 intros O hr
 have mk9 : a0b := trivial
 obtain ⟨a1, a2, a3, a4, a5, a6, a7, x1, k1, n1, t1, f1, O⟩ := O
 subst O
 have hb := hr (b, instObj 360 d) (by simp [BoxR.led])
 have hd := hr (d, _) (by unfold BoxR.led; exact mt3)
 have hl := hr (l, a3h) (by simp [BoxR.led])
 have hg := hr (g, a3h) (by simp [BoxR.led])
 clear hr
 dsimp only at *
 ktr_unf
 have N9 : News _ _ _ ((b, instObj 360 d) :: (d, _) :: (l, a3h) :: (g, a3h) :: news) := fun p hp => by
  rcases b9r.mp hp with rfl | hp
  ·exact (by assumption : News _ _ _ news) _ hb
  rcases b9r.mp hp with rfl | hp
  ·exact (by assumption : News _ _ _ news) _ hd
  rcases b9r.mp hp with rfl | hp
  ·exact (by assumption : News _ _ _ news) _ hl
  rcases b9r.mp hp with rfl | hp
  ·exact (by assumption : News _ _ _ news) _ hg
  exact (by assumption : News _ _ _ news) _ hp
 k_steps
 (with_reducible rename News h₀ _ _ _ => M9)
 have M8 := nc (M9 _ (.head _)) (nc (M9 _ mt1) (nc (M9 _ mt2) (show News h₀ L _ news from fun p hp => M9 p (tl8 hp))))
 refine hret _ _ _ _ ⟨[_, _, _], rfl, ?_, .tuple (.head _) (.cons (.str _ _) (.cons (.int _ _) (.cons (.int _ _) (.cons (.int _ _) (.cons (.int _ _) (.cons (.tuple mt2 .nil) (.cons (.tuple mt1 .nil) .nil)))))))⟩ (by k_asm) M8
 intro p hp q hq
 simp only [b9r, c0f, or_false] at hp
 rcases hp with rfl | rfl | rfl
 all_goals (refine' a6C ?h ?m; (case h => assumption); (case m => k_mem))
theorem era_S4 : True := trivial
theorem b5I : True := by
 k_with "S4:call ref" => (k_here; ((with_reducible show wpAny _ _ (call (b9t 482) _) _ _ _); k_dflt (refine' Fn.use (a1Y O2 (by (try dsimp only); omega)) ?k1 ?k2 ?k3 ?k4 ?k5 ?k6 ?k7 ?k8 ?_); (case k4 => k_extra "g:k4"); k_extra "g:c1"; k_extra "g:c2"; obtain ⟨D', vs', e', ss', rfl, rfl, hS', hSrt', lD'⟩ := hR'; (try clear hR'); k_extra "g:c3"; k_extra "g:c4"))
 k_with "S4:call ref" => (k_here; ((with_reducible show wpAny _ _ (call (b9t 357) _) _ _ _); k_dflt (refine' Fn.use (a5O ?kO ?kR) ?k1 ?k2 ?k3 ?k4 ?k5 ?k6 ?k7 ?k8 ?_); (case k4 => k_extra "g:k4"); (case kO => assumption); (case kR => k_extra "g:kR"); k_extra "g:c1"; k_extra "g:c2"; obtain ⟨add', rfl, lA', hA'⟩ := hR'; (try clear hR'); k_extra "g:c3"; k_extra "g:c4"))
 k_with "S4:eval ListComp" => ((k_here; k_dflt (refine c2A (F₀ := by k_asm) (by with_unfolding_all rfl) (by decide) (by rfl) (by decide) (by rfl) ?_)))
 k_with "S4:call type:tuple" => ((k_here; (with_reducible show wpAny _ _ (call (c1v _) [b9t _]) _ _ _); k_dflt (refine' kde_tupleOf ?k1 ?k2 ?k3 ?k4 ?k5 ?_; (case k1 => k_asm); (case k2 => k_asm); (case k3 => exact News.isList (by k_asm) (by k_mem)); (case k4 => (try simp only [b9H]); omega); (case k5 => exact rfl); k_whole); intro D' h' F' N' l1; (try k_lt l1); (try k_sweep)))
 trivial
noncomputable def a1P (rs : List BoxR) (x : b9p) : Int := ((rs.find? fun r => decide (r.x = x)).map (·.k)).getD 0
theorem a2z (hn : (rs.map (·.x)).Nodup) : ∀ r ∈ rs, a1P rs r.x = r.k := by
 revert cl9 rs
 intros hn
 have mk9 : a0b := trivial
 intro r hr
 unfold a1P
 induction rs with
 | nil => cases hr
 | cons a l ih =>
  rw [c0B, c0Y] at hn
  rw [c1f]
  by_cases e : a.x = r.x
  ·rcases b9r.mp hr with rfl | hr
   ·simp
   ·exact absurd (b9I.mpr ⟨r, hr, rfl⟩) (e ▸ hn.1)
  ·simp only [e, decide_false]
   rcases b9r.mp hr with rfl | hr
   ·exact absurd rfl e
   ·exact ih hn.2 hr
theorem StR.ok.names (O : σ.ok w rest) : (σ.rs.map (·.x)).Nodup := by
 revert cl9 w rest σ
 intros O
 have mk9 : a0b := trivial
 obtain ⟨_, _, _, _, _, _, h⟩ := O.ob
 unfold a0t at h
 rw [c2t] at h
 exact h
theorem a0o {v : Value} (h : StrsAre vs ss) (e : vs[i]? = some v) : ∃ x t, v = .str x t ∧ ss[i]? = some x := by
 induction h generalizing i with
 | nil => exact nomatch (show (none : Option Value) = some v from e)
 | cons x t _ ih => cases i with
  | zero => exact ⟨x, t, (b9U e).symm, rfl⟩
  | succ i => exact ih e
theorem a5s (h : x ∈ rs.map (·.x)) : a0u rs x = true := by
 obtain ⟨r, hr, e⟩ := b9I.mp h
 exact c0R.mpr ⟨r, hr, decide_eq_true e⟩
theorem a1v (g : b9p → α) (ss : List b9p) (n : Nat) (hn : n = ss.length) : (c1s n).map (fun i => g (ss.getD i b9Y)) = ss.map g := by
 subst hn
 refine c2a (by simp) fun i h1 h2 => ?_
 have h3 : i < ss.length := by simpa using h2
 simp [h3]
noncomputable def b1L (rs : List BoxR) (subs : List b9p) (nxt : Int) (ss : List b9p) : Dat := .tuple [.int nxt, .tuple (subs.map .str), .tuple (ss.map fun x => b2B x (a1P rs x))]
theorem b3W : True := by
 k_with "S4:CompSrc" => ((k_here; refine a0c ?_))
 trivial
theorem a7V (O : σ.ok w rest) (hn : σ.rs.length ≤ 50) (hs : σ.subs.length ≤ 50) :
  Fn w G none 487 5 90 [.ref σ.S] (σ.led rest) (fun v n => ∃ add ss, n = add ++ σ.led rest ∧ (∀ p ∈ add, ∀ q ∈ σ.led rest, @b9w Nat _ q.1 p.1) ∧ Srt ss (σ.rs.map (·.x)) ∧ DatIn add v (b1L σ.rs σ.subs σ.nxt ss)) := by
 revert hn hs
 revert O; revert σ; revert cl9 G w rest; z_head
 intros hn hs
 have mk9 : a0b := trivial
 have hnames := O.names
 unfold StR.led
 (try unfold StR.led at H)
 dsimp only at *
 ktr_unf
 (with_reducible rename News g' L' _ _ => N8)
 obtain ⟨O2, N7, hm⟩ := StR.ok.push (add := [_]) O' N8 (a5p hAll (c0K _))
 have hm := hm _ (.head _)
 clear N8
 unfold StR.led at N7
 dsimp only at N7
 k_steps
 unfold a0f
 have hlen : vs'.length = rs.length := by rw [hS'.length, hSrt'.1.length_eq, b9z]
 refine c1K (ax := D') (its := vs'.toArray) rfl (by k_asm) (by k_asm) (.head _) (by rw [b9O, b9H]; omega) ?_; intro g9
 refine a1k (fun i => b2B (ss'.getD i b9Y) (a1P rs (ss'.getD i b9Y))) (fun n hb => .inr ⟨_, hb _ (.head _), rfl, _, rfl⟩) ?_ ?_
 ·revert cm9 i news; intro hi hb v I oI C oC D ys m₂ h tk E' hv hC' hx' F9 N9 off ne
  obtain ⟨x, t, rfl, hx⟩ := a0o hS' (by simpa using hv)
  obtain ⟨r, hr, hrx, hval⟩ := a4h (a5s (hSrt'.1.mem_iff.mp (b9Z hx)))
  have hkv := a2z hnames r hr
  have N6 : News g' L' h ((I, oI) :: (C, oC) :: (D, c0q ys) :: (S, instObj 490 Sd) :: (Sd, _) :: (Bx, ob) :: (L' + 1, _) :: news) := nc (N9 _ (.head _)) (nc (N9 _ mt1) (nc (N9 _ mt2) (nc (N9 _ (tl3 (hb _ (.tail _ (.head _))))) (nc (N9 _ (tl3 (hb _ (.tail _ (.tail _ (.head _)))))) (nc (N9 _ (tl3 (hb _ (.tail _ (.tail _ (.tail _ (.head _))))))) (nc (N9 _ (tl3 (hb _ (.tail _ (.tail _ (.tail _ (.tail _ (.tail _ hm))))))) ) (fun p hp => N9 p (tl3 hp))))))))
  clear N9
  have hRL : ∀ p ∈ r.led, p ∈ news := fun p hp => hb _ (tl5 (b9G _ (List.mem_flatMap.mpr ⟨r, hr, hp⟩)))
  have hRb : (r.b, instObj 360 r.d) ∈ news := hRL _ (by simp [BoxR.led])
  have hRd : (r.d, r.od) ∈ news := hRL _ (by simp [BoxR.led])
  have hRo := O6 r hr
  obtain ⟨b1, b2, b3, b4, b5, b6, b7, b8, b9, b10, b11, b12, hRe⟩ := id hRo
  (revert r; intros r9; apply a5r r9; k_dflt (refine @((?_ : Ha7 _) _ _ _ _ _ _ _); clear r9; intros rb rd rl rg rod rx rk); refine Hd7.mk ?_; set_option tactic.hygienic false in intros)
  dsimp only at *
  subst hRe
  k_steps
  refine a1x (by k_asm) N' (b2C (.head _) mt1 mt2 (fun p hp => tl7 hp)) lA' ?_
  rw [show ss'.getD i b9Y = rx from by rw [c0I, hx, hrx]; rfl, hkv]
  exact hA'
 ·revert cm9 ys add; intro ha hd
  have hys : ys.length = rs.length := by rw [hd.length, b9z, c1L, b9H, hlen]
  have hvs : vs.size = subs.length := by rw [← O5.length, c0e]
  unfold c1w
  revert cm9 D2 h2 tk2; intro F2 N2 off2
  have N3 := nc (N2 _ (.head _)) (nc (N2 _ (.tail _ (b9s _ mt1))) (nc (N2 _ (.tail _ (b9s _ mt2))) (nc (N2 _ (.tail _ (b9s _ mt4))) (nc (N2 _ (.tail _ (b9s _ (tl5 hm)))) (fun p hp => N2 p (.tail _ hp))))))
  clear N2
  (try dsimp only at N3)
  generalize hT : add ++ _ = tl at N3
  k_steps
  (with_reducible rename News h₀ _ _ _ => M9)
  have inT : ∀ p ∈ add ++ StR.led ⟨S, Sd, Bx, U, _, ob, listOf vs nU, rs, subs, nxt⟩ rest, p ∈ tl := fun p hp => by
   rw [← hT]
   rcases b9y.mp hp with hp | hp
   ·exact b9G _ hp
   ·exact b9s _ (.tail _ (StR.led_mono (σ := ⟨S, Sd, Bx, U, _, ob, listOf vs nU, rs, subs, nxt⟩) (fun q hq => b9s _ hq) hp))
  refine hret _ _ _ _ ⟨_ :: _ :: _ :: add, ss', rfl, ?_, hSrt', .tuple (.head _) (.cons (.int _ _) (.cons (.tuple mt1 (a1G _ O5)) (.cons (.tuple mt2 ?_) .nil)))⟩ (by k_asm)
   (nc (M9 _ (.head _)) (nc (M9 _ mt1) (nc (M9 _ mt2) fun p hp => M9 p (tl8 (inT p hp)))))
  ·intro p hp q hq
   have hq9 := inT q (b9s _ hq)
   simp only [b9r] at hp
   rcases hp with rfl | rfl | rfl | hp
   ·refine' a6C ?h ?m; (case h => assumption); (case m => k_mem)
   ·refine' a6C ?h ?m; (case h => assumption); (case m => k_mem)
   ·refine' a6C ?h ?m; (case h => assumption); (case m => k_mem)
   ·exact ha p hp q (.tail _ (StR.led_mono (σ := ⟨S, Sd, Bx, U, _, ob, listOf vs nU, rs, subs, nxt⟩) (fun q hq => b9s _ hq) hq))
  ·rw [a1v (fun x => b2B x (a1P rs x)) ss' _ (by rw [b9H]; exact hS'.length)] at hd
   simp only [c2V]
   exact hd.mono fun p hp => tl3 hp
section
variable {M : Model} {A : Around} {E : Value → Shared → Prop} {s : Shared} {base g G h : Heap} {outer : List Env} {L a e C : Addr} {D : Option Addr} {cx fl : Value} {nx news : Led} {m : b9p → Option Value} {name : b9p} {scope : Scope} {cd : Value}
theorem a4R (x : Thr outer g e C D cx nx fl s.heap) (h : ∀ T, Q (.ref T) s) : wpAny M A (field (.ref e) 1) Q E s := by
 revert cl9 Q M A E s g outer e C D cx fl nx
 intros x h
 have mk9 : a0b := trivial
 obtain ⟨ka, kb, kc, ⟨oe, vs, T, oT, ts, d1, d2, d3, d4, d5, d6, d7, d8, d9, d10, d11, d12⟩, kf⟩ := x
 exact b9Q d1 d4 d5 (h T)
theorem a2P {Q : Unit → Shared → Prop} (B : Below A base outer g) (x : Thr outer g e C D cx nx (rawInt L) s.heap) (hN : s.heap.Ns L m) (h : ∀ h', Thr outer g e C D cx nx .none h' → Q () { s with heap := h' }) : wpAny M (A.deeper (envOf name scope L a cd)) (leaving (envOf name scope L a cd) (.ref e)) Q E s := by
 unfold leaving
 exact wpAny_bind (a1y x (a0N (fr := none) (a0m B) x hN fun h' x' _ => h h' x'))
end
section
variable {prog : Program} {w : World} {A : Around} {s : Shared} {env : Env}
end
section
variable {prog : Program} {w : World} {A : Around} {E : Value → Shared → Prop} {s : Shared} {env : Env} {h₀ : Heap} {x : b9p} {body : List Stmt} {Q : Flow → Shared → Prop}
noncomputable def a5B (h₀ : Heap) (L : Addr) (J : (b9p → Option Value) → Prop) (need : Led) (s₁ s₂ : Shared) : Prop :=
 ∃ h' tk m' news', s₂ = { s₁ with heap := h', toks := tk } ∧ Fr h₀ L h' m' ∧ News h₀ L h' news' ∧ (∀ p ∈ need, p ∈ news') ∧ J m'
theorem a1X {L : Addr} {J : (b9p → Option Value) → Prop} {m' : b9p → Option Value} {need news' : Led} {s₁ : Shared} {h' : Heap} {tk : Nat} (F : Fr h₀ L h' m') (N : News h₀ L h' news') (hn : ∀ p ∈ need, p ∈ news') (hj : J m') :
  a5B h₀ L J need s₁ { s₁ with heap := h', toks := tk } := ⟨h', tk, m', news', rfl, F, N, hn, hj⟩
noncomputable def a4g (h₀ : Heap) (L : Addr) (J : (b9p → Option Value) → Prop) (need : Led) (s₁ : Shared) (Q : Flow → Shared → Prop) (f : Flow) (s₂ : Shared) : Prop :=
 match f with
 | .ret v => Q (.ret v) s₂
 | .brk => Q .next s₂
 | _ => a5B h₀ L J need s₁ s₂
theorem b0f {P : Nat → Value → Prop} {St : Nat → Heap → Prop} (J : Nat → (b9p → Option Value) → Prop) (W : Walks prog w A I fp [I] n P St) (hIL : env.locals ∉ fp) (hI₀ : h₀.get? I = none) (off : ∀ p ∈ news, p.1 ≠ I) (hst : St 0 s.heap) (F : Fr h₀ env.locals s.heap m₀) (N : News h₀ env.locals s.heap news) (hj : J 0 m₀) (turn : ∀ i v m₁ h tk own, i < n → P i v → J i m₁ → Fr h₀ env.locals h (fun y => if y = x then some v else m₁ y) → News h₀ env.locals h (own ++ news) →
   wpAny (model prog w) A (execs body env) (a4g h₀ env.locals (J (i + 1)) (own ++ news) { s with heap := h, toks := tk } Q) E { s with heap := h, toks := tk }) (done : ∀ m₁ h tk, J n m₁ → Fr h₀ env.locals h m₁ → News h₀ env.locals h news → Q .next { s with heap := h, toks := tk }) :
  LoopAtV prog w A h₀ env x body Q E (.ref I) s := by
 revert cl9 n m₀ I fp news prog w A E s env h₀ x body Q P St J
 intros W hIL hI₀ off hst F N hj turn done
 have mk9 : a0b := trivial
 refine ⟨I, fp, [I], n, P, St, m₀, news, (fun i m₁ news₁ => news₁ = news ∧ J i m₁), rfl, W, hIL, ?_, ?_, hst, F, N, ⟨rfl, hj⟩, ?_, ?_⟩
 ·intro b hb; rw [b9C.mp hb]; exact hI₀
 ·intro p hp hI; exact off p hp (b9C.mp hI)
 ·revert cm9 i v m₁ news₁ s₁ own; intro hR9; obtain ⟨hh, tk, rfl⟩ := hR9; intro hi hP hR9; obtain ⟨rfl, hJ⟩ := hR9; intro hoff _ _ _ _ F₁ N₁
  refine b9L (turn i v m₁ hh tk own hi hP hJ F₁ N₁) (fun f s₂ p => ?_) fun _ _ e => e
  have fin : a5B h₀ env.locals (J (i + 1)) (own ++ news₁) { s with heap := hh, toks := tk } s₂ → LoopStepU h₀ env.locals [I] own (fun m' n' => n' = news₁ ∧ J (i + 1) m') { s with heap := hh, toks := tk } .next s₂ := by
   intro hR9; obtain ⟨h', tk', m', news', e, F', N', hn, hm⟩ := hR9
   exact ⟨rfl, h', tk', m', news₁, e, F', fun p hp => N' p (hn p hp), hoff, rfl, hm⟩
  cases f with
  | ret v => exact .ret p
  | brk => exact .brk p
  | next => exact .next (fin p)
  | cont => exact .cont (fin p)
 ·revert cm9 h' tk m' news'; intro F' N' _ hR9; obtain ⟨rfl, hJ⟩ := hR9
  exact done m' h' tk hJ F' N'
noncomputable def a2w (h₀ : Heap) (L : Addr) (J : (b9p → Option Value) → Led → Prop) (I : Addr) (oI : Obj) (s₁ s₂ : Shared) : Prop :=
 ∃ h' tk m' news', s₂ = { s₁ with heap := h', toks := tk } ∧ Fr h₀ L h' m' ∧ News h₀ L h' ((I, oI) :: news') ∧ (∀ p ∈ news', p.1 ≠ I) ∧ J m' news'
theorem a0V {L I : Addr} {oI : Obj} {J : (b9p → Option Value) → Led → Prop} {m' : b9p → Option Value} {news' all : Led} {s₁ : Shared} {h' : Heap} {tk : Nat} (F : Fr h₀ L h' m') (N : News h₀ L h' all) (hs : ∀ p ∈ (I, oI) :: news', p ∈ all) (off : ∀ p ∈ news', p.1 ≠ I) (hj : J m' news') :
  a2w h₀ L J I oI s₁ { s₁ with heap := h', toks := tk } := ⟨h', tk, m', news', rfl, F, fun p hp => N p (hs p hp), off, hj⟩
noncomputable def a4G (h₀ : Heap) (L : Addr) (J : (b9p → Option Value) → Led → Prop) (I : Addr) (oI : Obj) (s₁ : Shared) (Q : Flow → Shared → Prop) (f : Flow) (s₂ : Shared) : Prop :=
 match f with
 | .ret v => Q (.ret v) s₂
 | .brk => Q .next s₂
 | _ => a2w h₀ L J I oI s₁ s₂
theorem a3R (J : Nat → (b9p → Option Value) → Led → Prop) (hJ : ∀ i m n, J i m n → (ax, listOf its nn) ∈ n) (hh : A.handled = none) (F : Fr h₀ env.locals s.heap m₀) (N : News h₀ env.locals s.heap news) (hj : J 0 m₀ news) (turn : ∀ i v m₁ news₁ I oI h tk, i < its.size → its[i]? = some v → J i m₁ news₁ → (∀ p ∈ news₁, p.1 ≠ I) → Fr h₀ env.locals h (fun y => if y = x then some v else m₁ y) → News h₀ env.locals h ((I, oI) :: news₁) →
   wpAny (model prog w) A (execs body env) (a4G h₀ env.locals (J (i + 1)) I oI { s with heap := h, toks := tk } Q) E { s with heap := h, toks := tk }) (done : ∀ m₁ news₁ h tk, J its.size m₁ news₁ → Fr h₀ env.locals h m₁ → News h₀ env.locals h news₁ → Q .next { s with heap := h, toks := tk }) :
  wpAny (model prog w) A (pyIter (.ref ax)) (fun it s₂ => LoopAtV prog w A h₀ env x body Q E it s₂) E s := by
 revert cl9 nn m₀ ax its news prog w A E s env h₀ x body Q J
 intros hJ hh F N hj turn done
 have mk9 : a0b := trivial
 have hax := hJ _ _ _ hj
 have hls : s.heap.IsList ax its := ⟨_, (N _ hax).1, rfl, nn, rfl⟩
 have hax0 := (N _ hax).2
 have hlt : ax < s.heap.objs.size := b9x (N _ hax).1
 refine c2W hls ?_
 have W := Walks.list (prog := prog) (w := w) hh s.heap.objs.size ax (b9v hlt) its
 have up : ∀ (o : Obj) b o', s.heap.get? b = some o' → (s.heap.push o).get? b = some o' := fun o b o' e => b9B _ e
 refine ⟨_, _, [s.heap.objs.size], its.size, _, _, m₀, news, J, rfl, W, ?_, ?_, ?_, ⟨⟨_, b9R _ rfl, rfl, rfl⟩, hls.at fun o e => b9B _ e⟩, F.push _, N.grown (up _), hj, ?_, ?_⟩
 ·intro hm
  rcases b9r.mp hm with e | hm
  ·exact absurd F.ns.lt (e ▸ c0g _)
  ·exact hax0.1 (b9C.mp hm).symm
 ·intro b hb; rw [b9C.mp hb]; exact c1x F
 ·intro p hp hI; exact absurd (b9x (N p hp).1) ((b9C.mp hI) ▸ c0g _)
 ·revert cm9 i v m₁ news₁ s₁ own; intro hR9; obtain ⟨hh', tk, rfl⟩ := hR9; intro hi hP hJi hoff hown hget hall hst F₁ N₁
  obtain ⟨⟨oI, hoI, _⟩, _⟩ := hst
  have hI₀ : h₀.get? s.heap.objs.size = none := c1x F
  have hmI : (s.heap.objs.size, oI) ∈ own := hall _ (.head _) hI₀ _ hoI
  have offI : ∀ p ∈ news₁, p.1 ≠ s.heap.objs.size := fun p hp e => hoff p hp (e ▸ .head _)
  have hLI := (N₁ _ (b9G _ hmI)).2.1
  refine b9L (turn i v m₁ news₁ s.heap.objs.size oI hh' tk hi hP hJi offI F₁ fun p hp => ?_) (fun f s₂ p => ?_) fun _ _ e => e
  ·rcases b9r.mp hp with rfl | hp
   ·exact N₁ _ (b9G _ hmI)
   ·exact N₁ _ (b9s _ hp)
  have fin : a2w h₀ env.locals (J (i + 1)) s.heap.objs.size oI { s with heap := hh', toks := tk } s₂ → LoopStepU h₀ env.locals [s.heap.objs.size] own (J (i + 1)) { s with heap := hh', toks := tk } .next s₂ := by
   intro hR9; obtain ⟨h', tk', m', news', e, F', N', off', hj'⟩ := hR9
   refine ⟨rfl, h', tk', m', news', e, F', fun p hp => ?_, fun p hp hI => off' p hp (b9C.mp hI), hj'⟩
   rcases b9y.mp hp with hp | hp
   ·have hf := hown p hp
    have hg := hget p hp
    rcases b9r.mp hf with e1 | hf
    ·have : p = (s.heap.objs.size, oI) := by
      obtain ⟨a, o⟩ := p
      dsimp only at e1 hg
      subst e1
      have hg' : hh'.get? s.heap.objs.size = some o := hg
      have ho' : hh'.get? s.heap.objs.size = some oI := hoI
      rw [ho'] at hg'
      rw [b9U hg']
     rw [this]; exact N' _ (.head _)
    ·have e1 := b9C.mp hf
     have hx := (N₁ _ (b9s _ (hJ _ _ _ hJi))).1
     have : p = (ax, listOf its nn) := by
      obtain ⟨a, o⟩ := p
      dsimp only at e1 hg hx
      subst e1
      have hg' : hh'.get? a = some o := hg
      have hx' : hh'.get? a = some (listOf its nn) := hx
      rw [hx'] at hg'
      rw [b9U hg']
     rw [this]; exact N' _ (.tail _ (hJ _ _ _ hj'))
   ·exact N' _ (.tail _ hp)
  cases f with
  | ret v => exact .ret p
  | brk => exact .brk p
  | next => exact .next (fin p)
  | cont => exact .cont (fin p)
 ·revert cm9 h' tk m' news'; intro F' N' _ hJ'
  exact done m' news' h' tk hJ' F' N'
theorem a7Z {r : Addr} {b₀ : Int} {t₀ u₀ v₀ : Tok} (J : Nat → (b9p → Option Value) → Prop) (hh : A.handled = none) (hr : IsRange s.heap r 0 b₀ 1 t₀ u₀ v₀) (hsmall : c2B 0 b₀ 1 = true) (hn : c2X 0 b₀ 1 = (n : Int)) (F : Fr h₀ env.locals s.heap m₀) (N : News h₀ env.locals s.heap news) (hj : J 0 m₀) (turn : ∀ i t m₁ h tk own, i < n → J i m₁ → Fr h₀ env.locals h (fun y => if y = x then some (.int (i : Int) t) else m₁ y) → News h₀ env.locals h (own ++ news) →
   wpAny (model prog w) A (execs body env) (a4g h₀ env.locals (J (i + 1)) (own ++ news) { s with heap := h, toks := tk } Q) E { s with heap := h, toks := tk }) (done : ∀ m₁ h tk, J n m₁ → Fr h₀ env.locals h m₁ → News h₀ env.locals h news → Q .next { s with heap := h, toks := tk }) :
  wpAny (model prog w) A (pyIter (.ref r)) (fun it s₂ => LoopAtV prog w A h₀ env x body Q E it s₂) E s := by
 refine wpAny_pyIter_range hr hsmall ?_
 have up : ∀ (o : Obj) b o', s.heap.get? b = some o' → (s.heap.push o).get? b = some o' := fun o b o' e => b9B _ e
 refine b0f (s := { s with heap := s.heap.push _ }) J (c3Q (prog := prog) (w := w) (I := s.heap.objs.size) hh 0 n) ?_ (c1x F) (fun p hp => b9v (b9x (N p hp).1)) (by show IsRangeIter _ _ _ _ _; rw [hn]; simpa using b9R _ rfl) (F.push _) (N.grown (up _)) hj ?_ done
 ·intro hm; exact absurd F.ns.lt ((b9C.mp hm) ▸ c0g _)
 ·intros i v m₁ h tk own hi hR9; (obtain ⟨t, rfl⟩ := hR9) <;> (try clear hR9); intros hJ F₁ N₁
  rw [Int.zero_add] at F₁
  exact turn i t m₁ h tk own hi hJ F₁ N₁
end
theorem a3F : c2X 0 (k : Int) 1 = ((k : Nat) : Int) := by
 rw [rangeSize_one]
 split
 ·omega
 ·omega
theorem a5w (h : k ≤ 100000) : c2B 0 (k : Int) 1 = true := by
 revert cl9 k
 intros h
 have e := a3F (k := k)
 unfold c2B
 rw [e]
 have f : ∀ j : Int, 0 ≤ j → j ≤ 100001 → c3R j = true := fun j h0 h1 => by
  unfold c3R
  first | exact decide_eq_true (by omega) | (rw [c0h]; exact ⟨decide_eq_true (by omega), decide_eq_true (by omega)⟩)
 rw [f 0 (by omega) (by omega), f k (by omega) (by omega), f 1 (by omega) (by omega)]
 rw [if_pos (by decide), f _ (by omega) (by omega)]
 simp
theorem era_E1 : True := trivial
theorem b5C : True := by
 k_with "E1:call ref" => (k_here; ((with_reducible show wpAny _ _ (call (b9t 111) _) _ _ _); k_dflt (refine' Fn.use a5k ?k1 ?k2 ?k3 ?k4 ?k5 ?k6 ?k7 ?k8 ?_); (case k4 => k_extra "g:k4"); k_extra "g:c1"; k_extra "g:c2"; obtain ⟨rfl, rfl⟩ := hR'; (try clear hR'); k_extra "g:c3"; k_extra "g:c4"))
 k_with "E1:call ref" => (k_here; ((with_reducible show wpAny _ _ (call (b9t 52) _) _ _ _); k_dflt (refine' Fn.use (a6e (.inl rfl)) ?k1 ?k2 ?k3 ?k4 ?k5 ?k6 ?k7 ?k8 ?_); (case k4 => k_extra "g:k4"); k_extra "g:c1"; k_extra "g:c2"; obtain ⟨e', D', t1', a', b', rfl, rfl, l1', l2'⟩ := hR'; (try clear hR'); k_extra "g:c3"; k_extra "g:c4"))
 trivial
noncomputable def b3G (x : b9p) (j : Nat) : Prop := ∃ c, x.cps[j]? = some c ∧ c ≠ 37 ∧ c ≠ 42 ∧ a0P c = false ∧ (c = 47 → j ≠ 0 ∧ x.cps[j - 1]? ≠ some 47)
noncomputable def a0Y (x : b9p) (n : Nat) (b : Int) : Prop := 0 ≤ b ∧ b ≤ n ∧ (b = n ↔ n = 0 ∨ x.cps[n - 1]? = some 47) ∧ ∀ j, j < n → b3G x j
noncomputable def a0k (x : b9p) : Prop := (∀ j, j < x.length → b3G x j) ∧ x.length ≠ 0 ∧ x.cps[x.length - 1]? ≠ some 47
theorem a7H : a0Y x 0 0 := ⟨c2C _, c2C _, by simp, fun j h => absurd h (c2b _)⟩
noncomputable def b0w (x : b9p) (m₀ : b9p → Option Value) (i : Nat) (m : b9p → Option Value) : Prop := ∃ b tb, a0Y x i b ∧ ∀ y : b9p, y ≠ "at" → y ≠ "sign" → m y = if y = "begin" then some (.int b tb) else m₀ y
theorem a7M {v : Value} (h : b0w x m₀ i m) : ∃ b tb, a0Y x i b ∧ (fun y : b9p => if y = "at" then some v else m y) = fun y : b9p => if y = "at" then some v else if y = "sign" then m y else if y = "begin" then some (.int b tb) else m₀ y := by
 revert cl9 i m m₀ x v
 intros h
 have mk9 : a0b := trivial
 obtain ⟨b, tb, h1, h2⟩ := h
 refine ⟨b, tb, h1, funext fun y => ?_⟩
 by_cases e1 : y = "at"
 ·simp only [if_pos e1]
 ·by_cases e2 : y = "sign"
  ·simp only [if_neg e1, if_pos e2]
  ·simp only [if_neg e1, if_neg e2]; exact h2 y e1 e2
theorem a2Z (hi : i < x.length) : ∃ c, x.cps[i]? = some c ∧ c1y x (i : Int) = ⟨#[c]⟩ := by
 have h : i < x.cps.size := hi
 exact ⟨x.cps[i], by simp [h], item_meets (Int.natCast_nonneg _) (by simp [h])⟩
theorem a3n : ((⟨#[c]⟩ : b9p) == b9q "/") = decide (c = 47) := by
 have e : b9q "/" = ⟨#[47]⟩ := by decide +kernel
 rw [e, c1b, beq_iff_eq, decide_eq_true_eq]
 simp
theorem a6w : (c3v (b9q "%*") ⟨#[c]⟩ 0 (b9q "%*").length 1).isEmpty = decide (c ≠ 37 ∧ c ≠ 42) := by
 revert cl9 c
 have e : (b9q "%*").cps.toList = [37, 42] := by decide +kernel
 have h := StrLaws.found_one (b9q "%*") c
 rw [e] at h
 rw [← Bool.not_not (List.isEmpty _), h, c1b, c2Y, decide_eq_false_iff_not, decide_eq_true_eq]
 simp
theorem a6O {b : Int} (hs : a0Y x i b) (hi : i < x.length) (h1 : (c1y x (i : Int) == b9q "/") = true) (h2 : ¬ (i : Int) = b) : a0Y x (i + 1) ((i : Int) + 1) := by
 obtain ⟨c, hc, e⟩ := a2Z hi
 rw [e, a3n, decide_eq_true_eq] at h1
 obtain ⟨a1, a2, a3, a4⟩ := hs
 have n3 : ¬ (i = 0 ∨ x.cps[i - 1]? = some 47) := fun h => h2 (a3.mpr h).symm
 refine ⟨by omega, by omega, ⟨fun _ => .inr (by simpa [h1] using hc), fun _ => by omega⟩, fun j hj => ?_⟩
 rcases Nat.lt_or_ge j i with h | h
 ·exact a4 j h
 ·obtain rfl : j = i := by omega
  exact ⟨c, hc, by omega, by omega, by rw [h1]; decide, fun _ => ⟨fun h => n3 (.inl h), fun h => n3 (.inr h)⟩⟩
theorem a7C {b : Int} (hs : a0Y x i b) (hi : i < x.length) (h1 : (c1y x (i : Int) == b9q "/") = false) (h2 : (c3v (b9q "%*") (c1y x (i : Int)) 0 (b9q "%*").length 1).isEmpty = true) (h3 : a0P ((c1y x (i : Int)).cps.getD 0 0 : Nat) = false) : a0Y x (i + 1) b := by
 revert cl9 i x b
 intros hs hi h1 h2 h3
 have mk9 : a0b := trivial
 obtain ⟨c, hc, e⟩ := a2Z hi
 rw [e, a3n, decide_eq_false_iff_not] at h1
 rw [e, a6w, decide_eq_true_eq] at h2
 rw [e] at h3
 obtain ⟨a1, a2, a3, a4⟩ := hs
 refine ⟨a1, by omega, ⟨fun h => by omega, fun h => ?_⟩, fun j hj => ?_⟩
 ·rcases h with h | h
  ·omega
  ·rw [show i + 1 - 1 = i by omega, hc] at h; exact absurd (b9U h) h1
 rcases Nat.lt_or_ge j i with h | h
 ·exact a4 j h
 ·obtain rfl : j = i := by omega
  exact ⟨c, hc, h2.1, h2.2, h3, fun h => absurd h h1⟩
theorem a9s {b : Int} (hs : a0Y x i b) (hi : i < x.length) (h1 : (c1y x (i : Int) == b9q "/") = true) (h2 : (i : Int) = b) : ¬ a0k x := by
 revert cl9 i x b
 intros hs hi h1 h2
 have mk9 : a0b := trivial
 obtain ⟨c, hc, e⟩ := a2Z hi
 rw [e, a3n, decide_eq_true_eq] at h1
 intro hR9; obtain ⟨g, _⟩ := hR9
 obtain ⟨c', hc', _, _, _, k⟩ := g i hi
 rw [hc] at hc'; cases hc'
 obtain ⟨k1, k2⟩ := k h1
 rcases hs.2.2.1.mp h2.symm with h | h
 ·exact k1 h
 ·exact k2 h
theorem b0J (hi : i < x.length) (h2 : (c3v (b9q "%*") (c1y x (i : Int)) 0 (b9q "%*").length 1).isEmpty = false) : ¬ a0k x := by
 revert cl9 i x
 intros hi h2
 have mk9 : a0b := trivial
 obtain ⟨c, hc, e⟩ := a2Z hi
 rw [e, a6w, decide_eq_false_iff_not] at h2
 intro hR9; obtain ⟨g, _⟩ := hR9
 obtain ⟨c', hc', k1, k2, _⟩ := g i hi
 rw [hc] at hc'; cases hc'
 exact h2 ⟨k1, k2⟩
theorem a6Q (hi : i < x.length) (h3 : a0P ((c1y x (i : Int)).cps.getD 0 0 : Nat) = true) : ¬ a0k x := by
 obtain ⟨c, hc, e⟩ := a2Z hi
 rw [e] at h3
 intros hR9; (obtain ⟨g, _⟩ := hR9) <;> (try clear hR9)
 obtain ⟨c', hc', _, _, k, _⟩ := g i hi
 rw [hc] at hc'; cases hc'
 rw [show ((⟨#[c]⟩ : b9p).cps.getD 0 0) = c from rfl, k] at h3
 cases h3
theorem b1T {b : Int} (hs : a0Y x x.length b) (h : b = (x.length : Int)) : ¬ a0k x := by
 intros hR9; (obtain ⟨_, g1, g2⟩ := hR9) <;> (try clear hR9)
 rcases hs.2.2.1.mp h with h | h
 ·exact g1 h
 ·exact g2 h
theorem b0C {b : Int} (hs : a0Y x x.length b) (h : ¬ b = (x.length : Int)) : a0k x :=
 ⟨hs.2.2.2, fun e => h (hs.2.2.1.mpr (.inl e)), fun e => h (hs.2.2.1.mpr (.inr e))⟩
theorem a4N {b : Int} {tb : Tok} (h : a0Y x i b) (k : ∀ y : b9p, y ≠ "at" → y ≠ "sign" → m y = if y = "begin" then some (.int b tb) else m₀ y) : b0w x m₀ i m := ⟨b, tb, h, k⟩
theorem a9L {Q : Flow → Shared → Prop} {r : Addr} {t₀ u₀ v₀ tb : Tok} (hx : x.length ≤ 2000) (hh : A.handled = none) (hr : IsRange s.heap r 0 (x.length : Int) 1 t₀ u₀ v₀) (F : Fr h₀ env.locals s.heap (fun y : b9p => if y = "begin" then some (.int 0 tb) else m₀ y)) (N : News h₀ env.locals s.heap news) (turn : ∀ i t b tb (u : b9p → Option Value) h tk own, i < x.length → a0Y x i b → Fr h₀ env.locals h (fun y : b9p => if y = "at" then some (.int (i : Int) t) else if y = "sign" then u y else if y = "begin" then some (.int b tb) else m₀ y) → News h₀ env.locals h (own ++ news) →
   wpAny (model prog w) A (execs body env) (a4g h₀ env.locals (b0w x m₀ (i + 1)) (own ++ news) { s with heap := h, toks := tk } Q) E { s with heap := h, toks := tk }) (done : ∀ b tb (u : b9p → Option Value) h tk, a0Y x x.length b → Fr h₀ env.locals h (fun y : b9p => if y = "at" then u y else if y = "sign" then u y else if y = "begin" then some (.int b tb) else m₀ y) → News h₀ env.locals h news → Q .next { s with heap := h, toks := tk }) :
  wpAny (model prog w) A (pyIter (.ref r)) (fun it s₂ => LoopAtV prog w A h₀ env "at" body Q E it s₂) E s := by
 refine a7Z (b0w x m₀) hh hr (a5w (by omega)) a3F F N ⟨0, tb, a7H, fun y _ _ => rfl⟩ ?_ ?_
 ·intro i t m₁ h tk own hi hJ F₁ N₁
  obtain ⟨b, tb, h1, h2⟩ := a7M (v := .int (i : Int) t) hJ
  rw [h2] at F₁
  exact turn i t b tb m₁ h tk own hi h1 F₁ N₁
 ·intros m₁ h tk hR9; (obtain ⟨b, tb, h1, h2⟩ := hR9) <;> (try clear hR9); intros F₁ N₁
  refine done b tb m₁ h tk h1 ?_ N₁
  have e : (fun y : b9p => if y = "at" then m₁ y else if y = "sign" then m₁ y else if y = "begin" then some (Value.int b tb) else m₀ y) = m₁ := by
   funext y
   by_cases e1 : y = "at"
   ·simp only [if_pos e1]
   ·by_cases e2 : y = "sign"
    ·simp only [if_neg e1, if_pos e2]
    ·simp only [if_neg e1, if_neg e2]; exact (h2 y e1 e2).symm
  rw [e]; exact F₁
theorem b3L : True := by
 k_with "E1:pyIter ref" => ((k_here; k_dflt (refine' a9L ?k1 ?k2 ?k3 ?k5 ?k6 ?t ?d; (case k3 => assumption); (case k1 => assumption); (case k2 => exact rfl); (case k5 => k_asm); (case k6 => k_asm); (case' t => intro i t' b' tb' u' h' tk' own' hi hsc F' N'); (case' d => intro b' tb' u' h' tk' hsc F' N'))))
 trivial
theorem a1V (hxl : x.length ≤ 2000) :
  FnX w G none 118 5 60 [.str x t] news (fun v n => a0k x ∧ ∃ t, v = .str x t ∧ n = news) (fun C D cx nx => ¬ a0k x ∧ C = 52 ∧ (∀ p ∈ news, p ∈ nx) ∧ cx = .none ∧ ∃ D0 y t k u a b, D = some D0 ∧ (D0, a1t w.params y t k u a b) ∈ nx) := by
 revert cl9 G w x t news
 intros hxl
 have mk9 : a0b := trivial
 ktr_unf
 k_steps
 ·exact hx _ _ _ _ _ _ _ ⟨b1T hsc (by assumption), rfl, fun p hp => .tail _ hp, rfl, _, _, _, _, _, _, _, rfl, .head _⟩ (by assumption)
 ·exact hret _ _ _ _ ⟨b0C hsc (by assumption), _, rfl, rfl⟩ (by k_asm) (by k_asm)
 ·exact hx _ _ _ _ _ _ _ ⟨a9s hsc hi (by assumption) (by assumption), rfl, fun p hp => .tail _ (b9s _ hp), rfl, _, _, _, _, _, _, _, rfl, .head _⟩ (by assumption)
 ·exact a1X (by k_asm) (by k_asm) (fun p hp => hp) (a4N (a6O hsc hi (by assumption) (by assumption)) (fun y h1 h2 => by
   by_cases h3 : y = "begin"
   ·simp only [if_neg h1, if_neg h2, if_pos h3]; rfl
   ·simp only [if_neg h1, if_neg h2, if_neg h3]))
 ·exact hx _ _ _ _ _ _ _ ⟨a6Q hi (by assumption), rfl, fun p hp => .tail _ (b9s _ hp), rfl, _, _, _, _, _, _, _, rfl, .head _⟩ (by assumption)
 ·exact a1X (by k_asm) (by k_asm) (fun p hp => hp) (a4N (a7C hsc hi (by assumption) (by assumption) (by assumption)) (fun y h1 h2 => by simp only [if_neg h1, if_neg h2]; rfl))
 ·exact hx _ _ _ _ _ _ _ ⟨b0J hi (by assumption), rfl, fun p hp => .tail _ (b9s _ hp), rfl, _, _, _, _, _, _, _, rfl, .head _⟩ (by assumption)
section
variable {M : Model} {A : Around} {E : Value → Shared → Prop} {s : Shared} {base g G g' h h' : Heap} {outer : List Env} {L a e C : Addr} {D : Option Addr} {cx fl : Value} {nx news : Led} {m : b9p → Option Value} {name : b9p} {scope : Scope} {cd : Value}
theorem a3X {Q : Shared → Prop} (B : Below A base outer g) (hLg : g.get? L = none) (x : Thr outer g e C D cx nx .none s.heap) (hN : s.heap.Ns L m) (hLn : ∀ q ∈ nx, q.1 ≠ L) (hk : scope.kind = .function) (h : ∀ h₂, Thr outer g e C D cx nx .none h₂ → h₂.Ns L m → Q { s with heap := h₂ }) :
  wpAny M (A.deeper (envOf name scope L a cd)) (noteFrame (.ref e) (envOf name scope L a cd)) (fun _ s₂ => wpAny M (A.deeper (envOf name scope L a cd)) (setFlight (.ref e) none) (fun _ s₃ => Q s₃) E s₂) E s := by
 have hLe : L ≠ e := by
  obtain ⟨oe, vs, T, oT, ts, d1, d2, d3, d4, _⟩ := x.exc
  exact a7e hN d1 d4
 exact b0T B hLg hLe hLn x hN hk fun h₁ x₁ hN₁ => a0N (fr := none) (s := { s with heap := h₁ }) (a0m B) x₁ hN₁ fun h₂ x₂ hN₂ => h h₂ x₂ hN₂
theorem a7o (T : KtsTurn (frs outer) g g') (x : Thr outer g' e C D cx nx fl h) : Thr outer g e C D cx nx fl h := by
 revert cl9 g g' h outer e C D cx fl nx
 intros T x
 have mk9 : a0b := trivial
 obtain ⟨ka, kb, kc, ⟨oe, vs, T1, oT, ts, d1, d2, d3, d4, d5, d6, d7, d8, d9, d10, d11, d12⟩, kf⟩ := x
 have none' : ∀ b, g'.get? b = none → g.get? b = none := fun b q => by
  cases r : g.get? b with
  | none => rfl
  | some o => obtain ⟨sl, hs⟩ := T.up r; rw [q] at hs; cases hs
 refine ⟨fun b o q hm => ka b o (T.other b o q hm) hm, fun b o q hm => ?_, none' _ kc, ⟨oe, vs, T1, oT, ts, d1, d2, d3, d4, d5, d6, none' _ d7, d8, d9, d10, d11, d12⟩, fun q hq => ⟨(kf q hq).1, none' _ (kf q hq).2.1, (kf q hq).2.2⟩⟩
 obtain ⟨sl, hs⟩ := T.frame b o q hm
 obtain ⟨sl', hs'⟩ := kb b _ hs hm
 exact ⟨sl', hs'⟩
theorem b0E (hLg : g.get? L = none) (x : Thr outer g e C D cx nx fl h) (hN : h.Ns L m) (hLn : ∀ q ∈ nx, q.1 ≠ L) (hs : c1q L h h') : Thr outer g e C D cx nx fl h' := by
 revert cl9 g h h' outer L e C D cx fl nx m
 intros hLg x hN hLn hs
 have mk9 : a0b := trivial
 obtain ⟨ka, kb, kc, ⟨oe, vs, T1, oT, ts, d1, d2, d3, d4, d5, d6, d7, d8, d9, d10, d11, d12⟩, kf⟩ := x
 have up : ∀ b o, b ≠ L → h.get? b = some o → h'.get? b = some o := fun b o hb q => (hs.2 b hb).trans q
 have ne : ∀ b o, g.get? b = some o → b ≠ L := fun b o q z => by rw [z, hLg] at q; cases q
 refine ⟨fun b o q hm => up b o (ne b o q) (ka b o q hm), fun b o q hm => ?_, kc, ⟨oe, vs, T1, oT, ts, up e oe (b9A (a7e hN d1 d4)) d1, d2, d3, d4, d5, d6, d7, d8, up T1 oT (b9A (a7e hN d9 d10)) d9, d10, d11, d12⟩, fun q hq => ⟨up _ _ (hLn q hq) (kf q hq).1, (kf q hq).2⟩⟩
 obtain ⟨sl, hs'⟩ := kb b o q hm
 exact ⟨sl, up b _ (ne b o q) hs'⟩
structure b8X (oe : Obj) (C : Addr) (D : Option Addr) (cx : Value) (T : Addr) : Prop where
 cls : oe.cls = .ref C
 dict : oe.dict = D
 fields : ∃ vs, oe.data = .fields vs ∧ vs[1]? = some (.ref T) ∧ vs[2]? = some cx
theorem a2O (B : Below A base outer g) (x : Thr outer g e C D cx nx .none h) (hN : h.Ns L m) (hab : g.objs.size ≤ L) (hLn : ∀ q ∈ nx, q.1 ≠ L) :
  ∃ g' oe T oT, KtsTurn (frs outer) g g' ∧ Fr g' L h m ∧ Below A base outer g' ∧ b8X oe C D cx T ∧ News g' L h ((e, oe) :: (T, oT) :: nx) ∧ (∃ ts, oT.data = .fields ts ∧ 3 < ts.size) ∧ T ≠ e ∧ (∀ q ∈ nx, q.1 ≠ e) ∧ ∀ q ∈ nx, q.1 ≠ T := by
 obtain ⟨g', T, F, B'⟩ := a6W B x hN hab
 obtain ⟨ka, kb, kc, ⟨oe, vs, T1, oT, ts, d1, d2, d3, d4, d5, d6, d7, d8, d9, d10, d11, d12⟩, kf⟩ := x
 refine ⟨g', oe, T1, oT, T, F, B', ⟨d2, d3, vs, d4, d5, d6⟩, fun p hp => ?_, ⟨ts, d10, (Array.getElem?_eq_some_iff.mp d11).1⟩, d8, fun q hq => (kf q hq).2.2, d12⟩
 rcases b9r.mp hp with rfl | hp
 ·exact ⟨d1, b9A (a7e hN d1 d4), T.none_ _ kc⟩
 rcases b9r.mp hp with rfl | hp
 ·exact ⟨d9, b9A (a7e hN d9 d10), T.none_ _ d7⟩
 ·exact ⟨(kf p hp).1, hLn p hp, T.none_ _ (kf p hp).2.1⟩
theorem a6R {A' : Around} {vs : Array Value} {Q : Unit → Shared → Prop} (hfr : A'.frames = some (envOf name scope L a cd :: outer)) (B : Below A base outer g) (F : Fr g L s.heap m) (N : News g L s.heap ((e, oe) :: nx)) (hc : oe.cls = .ref C) (hD : oe.dict = D) (hd : oe.data = .fields vs) (h1 : vs[1]? = some .none) (h2 : vs[2]? = some cx) (hne : ∀ p ∈ nx, p.1 ≠ e) (hk : scope.kind = .function) (h : ∀ h', Thr outer g e C D cx nx (rawInt L) h' → h'.Ns L m → Q () { s with heap := h' }) : wpAny M A' (noteFrame (.ref e) (envOf name scope L a cd)) Q E s := by
 have B' := B.push (name := name) (a := a) (cd := cd) F hk
 have gL := c0X F
 obtain ⟨he, heL, hge⟩ := N _ (.head _)
 have nf : ∀ p ∈ (e, oe) :: nx, p.1 ∉ frs outer := fun p hp hm => by
  obtain ⟨_, o, ho, _⟩ := B.frames.mem hm
  rw [(N p hp).2.2] at ho; cases ho
 refine a2C hfr B'.frames rfl he hd h1 (.inl rfl) fun h' T' oe' oT' ts' k1 k2 e1 e2 e3 e4 e5 e6 e7 e8 e9 => h h' ⟨fun b o q hm => k1 b o (F.keep b o q) (fun z => ?_) (fun z => ?_) (fun z => by cases z), fun b o q hm => k2 b o (F.keep b o q) (.tail _ hm), hge,
  ⟨oe', _, T', oT', ts', e1, e2.trans hc, e3.trans hD, e4, by rw [c2z (Array.getElem?_eq_some_iff.mp h1).1], by rw [c2n (by decide)]; exact h2, kts_none F.keep e5, e9, e6, e7, e8, fun q hq z => ?_⟩, fun q hq => ⟨?_, (N q (.tail _ hq)).2.2, hne q hq⟩⟩ ?_
 ·rcases b9r.mp z with z | z
  ·rw [show b = L from z, gL] at q; cases q
  ·exact hm z
 ·rw [z, hge] at q; cases q
 ·have := (N q (.tail _ hq)).1
  rw [z, e5] at this; cases this
 ·refine k1 _ _ (N q (.tail _ hq)).1 (fun z => ?_) (hne q hq) (fun z => by cases z)
  rcases b9r.mp z with z | z
  ·exact (N q (.tail _ hq)).2.1 z
  ·exact nf q (.tail _ hq) z
 ·obtain ⟨o, es, ep, ho, r⟩ := F.ns
  obtain ⟨sl, hs⟩ := k2 L o ho (.head _)
  exact ⟨_, es, ep, hs, r⟩
theorem a8z {A' : Around} {vs : Array Value} {E' : Value → Value → Shared → Prop} {n : b9p} (hfr : A'.frames = some (envOf name scope L a cd :: outer)) (B : Below A base outer g) (F : Fr g L s.heap m) (N : News g L s.heap ((e, oe) :: nx)) (hc : oe.cls = .ref C) (hD : oe.dict = D) (hd : oe.data = .fields vs) (h1 : vs[1]? = some .none) (h2 : vs[2]? = some cx) (hne : ∀ p ∈ nx, p.1 ≠ e) (hk : scope.kind = .function) (hl : (envOf name scope L a cd).kindOf n = some .local) (hp : ((envOf name scope L a cd).scope.kind == .class || ((envOf name scope L a cd).scope.kind == .module && (envOf name scope L a cd).locals != (envOf name scope L a cd).globals)) = false) (h : ∀ h' tk', Thr outer g e C D cx nx .none h' → Q (.ref e) { s with heap := h', toks := tk' }) :
  AsSuiteRaised M A' (envOf name scope L a cd) n pos (notedBy M A' (envOf name scope L a cd) (cameBackBy M (A.deeper (envOf name scope L a cd)) (envOf name scope L a cd) (fun e s' => wpAny M (A.deeper (envOf name scope L a cd)) (leaving (envOf name scope L a cd) e) (fun _ s'' => Q e s'') (E' e) s'))) (.ref e) s := by
 have hLn : ∀ q ∈ nx, q.1 ≠ L := fun q hq => (N q (.tail _ hq)).2.1
 refine a6R hfr B F N hc hD hd h1 h2 hne hk fun h₁ x hN => ?_
 refine wpAny_nameGoes hl hN hp fun h₂ m₂ hN₂ hs₂ => ?_
 have x₂ := b0E (c0X F) x hN hLn hs₂
 unfold PySem.passOn
 refine wpAny_bind (a4R (s := { s with heap := h₂, toks := s.toks + 1 }) x₂ fun T => ?_)
 rw [if_neg (by simp)]
 refine wpAny_bind (a0N (fr := some L) (s := { s with heap := h₂, toks := s.toks + 1 }) (a0m B) x₂ hN₂ fun h₃ x₃ hN₃ => wpAny_throw ?_)
 unfold notedBy
 refine a1y (s := { s with heap := h₃, toks := s.toks + 1 }) x₃ ?_
 unfold cameBackBy
 refine wpAny_bind (a4R (s := { s with heap := h₃, toks := s.toks + 1 }) x₃ fun T => ?_)
 rw [if_neg (by simp)]
 exact a0N (fr := some L) (s := { s with heap := h₃, toks := s.toks + 1 }) (a0m B) x₃ hN₃ fun h₄ x₄ hN₄ => a2P (s := { s with heap := h₄, toks := s.toks + 1 }) B x₄ hN₄ fun h₅ x₅ => h h₅ _ x₅
theorem a2g {Q : Unit → Shared → Prop} {oT : Obj} {vs ts : Array Value} (F : Fr g L s.heap m) (N : News g L s.heap ((e, oe) :: (T, oT) :: nx)) (hv : oe.data = .fields vs) (h1 : vs[1]? = some (.ref T)) (hT : oT.data = .fields ts) (h3 : 3 < ts.size) (hTe : T ≠ e) (hnT : ∀ q ∈ nx, q.1 ≠ T) (h : ∀ h', Fr g L h' m → News g L h' ((e, oe) :: nx) → Q () { s with heap := h' }) : wpAny M A (setFlight (.ref e) none) Q E s := by
 obtain ⟨e1, e2, e3⟩ := N _ (.head _)
 obtain ⟨t1, t2, t3⟩ := N _ mt1
 refine a6d e1 hv h1 t1 hT h3 fun h' oT' k _ _ => h h' ?_ fun p hp => ?_
 ·obtain ⟨o, es, ep, ho, hd, r⟩ := F.ns
  exact ⟨⟨o, es, ep, (k L (b9A t2)).trans ho, hd, r⟩, fun b o q => (k b fun z => by rw [z, t3] at q; cases q).trans (F.keep b o q), F.above⟩
 ·rcases b9r.mp hp with rfl | hp
  ·exact ⟨(k e (b9A hTe)).trans e1, e2, e3⟩
  ·obtain ⟨a1, a2, a3⟩ := N p (tl2 hp)
   exact ⟨(k _ (hnT p hp)).trans a1, a2, a3⟩
end
theorem a3T {g : Heap} {x : Addr} {D : Option Addr} {f : Value} {nx : Led} {vs : Array Value} {Q : α → Shared → Prop} (F : Fr g L s.heap m) (N : News g L s.heap ((e, a0j C D f .none .none) :: nx)) (hne : ∀ q ∈ nx, q.1 ≠ e) (hA : A.handled = some (.ref x)) (hx : (x, ox) ∈ nx) (hv : ox.data = .fields vs) (h2 : vs[2]? = some .none) (h : ∀ h' oe' vs', Fr g L h' m → News g L h' ((e, oe') :: nx) → oe'.cls = .ref C → oe'.dict = D → oe'.data = .fields vs' → vs'[1]? = some .none → (∃ cx, vs'[2]? = some cx ∧ (cx = .none ∨ cx = .ref x)) → E (.ref e) { s with heap := h' }) :
  wpAny (model prog w) A (raiseNew (.ref e) : Sem α) Q E s := by
 obtain ⟨e1, e2, e3⟩ := N _ (.head _)
 refine a2k (h := s.heap.hide e) (fun b o q => Heap.of_hide q) ?_ e1 rfl (by show 2 < 6; decide) (Heap.hide_self _ _) ?_
 ·rw [hA]
  exact ⟨x, rfl, ox, vs, (Heap.hide_ne _ (hne _ hx)).trans (N _ (.tail _ hx)).1, hv, .inl h2⟩
 ·intro h' oe' vs' k1 k2 k3 k4 k5 k6 k7 k8 k9
  refine h h' oe' vs' ?_ (fun p hp => ?_) k3 k4 k5 (k7 1 (by decide)) ?_
  ·obtain ⟨o, es, ep, ho, hd, r⟩ := F.ns
   exact ⟨⟨o, es, ep, (k1 L (b9A e2)).trans ho, hd, r⟩, fun b o q => (k1 b fun z => by rw [z, e3] at q; cases q).trans (F.keep b o q), F.above⟩
  ·rcases b9r.mp hp with rfl | hp
   ·exact ⟨k2, e2, e3⟩
   ·obtain ⟨a1, a2, a3⟩ := N p (.tail _ hp)
    exact ⟨(k1 _ (hne p hp)).trans a1, a2, a3⟩
  ·rcases k8 with k8 | ⟨y, hy, k8⟩
   ·exact ⟨.none, k8, .inl rfl⟩
   ·rw [hA] at hy; cases hy; exact ⟨_, k8, .inr rfl⟩
theorem era_E2 : True := trivial
theorem b5B : True := by
 k_with "E2:call ref" => (k_here; ((with_reducible show wpAny _ _ (call (b9t 104) _) _ _ _); k_dflt (refine' Fn.use (a1r ?kH (by omega)) ?k1 ?k2 ?k3 ?k4 ?k5 ?k6 ?k7 ?k8 ?_); (case k4 => k_extra "g:k4"); (case kH => k_extra "g:kH"); k_extra "g:c1"; k_extra "g:c2"; obtain ⟨t', rfl, rfl, ln⟩ := hR'; (try clear hR'); k_extra "g:c3"; k_extra "g:c4"))
 k_with "E2:call ref" => (k_here; ((with_reducible show wpAny _ _ (call (b9t 118) _) _ _ _); k_dflt (refine' FnX.use (a1V (by omega)) ?k1 ?k2 ?k3 ?k4 ?k5 ?k6 ?k7 ?k8 ?_ ?_); (case k4 => k_extra "g:k4"); k_extra "g:c1"; k_whole; rotate_left; (k_extra "g:x2"; obtain ⟨hbad, rfl, hsub, rfl, D0, y0, t0, k0, u0, a0, b0, rfl, hD0⟩ := hX'; (try clear hX'); k_extra "g:x3"); rotate_right; (k_extra "g:c2"; obtain ⟨hgood, t', rfl, rfl⟩ := hR'; (try clear hR'); k_extra "g:c3"; k_extra "g:c4")))
 k_with "E2:call ref" => (k_here; ((with_reducible show wpAny _ _ (call (b9t 64) _) _ _ _); k_dflt (refine' Fn.use (a6e (.inr rfl)) ?k1 ?k2 ?k3 ?k4 ?k5 ?k6 ?k7 ?k8 ?_); (case k4 => k_extra "g:k4"); k_extra "g:c1"; k_extra "g:c2"; obtain ⟨e2', D2', t2', a2', b2', rfl, rfl, l2', l3'⟩ := hR'; (try clear hR'); k_extra "g:c3"; k_extra "g:c4"))
 trivial
section
variable {prog : Program} {w : World} {A : Around} {E : Value → Shared → Prop} {s : Shared} {env : Env}
theorem a8Z {t : Expr} {n : b9p} {b₀ : Stmt} {suite : List Stmt} {rest : List ExceptHandler} {Q : Flow → Shared → Prop} (hC : C = 52 ∨ C = 64) (h : wpAny (model prog w) (A.mark (some (.ref e))) (eval t env) (fun c s₁ => c = .ref C ∧ (K w.params).In s₁.heap ∧ (∃ oe, s₁.heap.get? e = some oe ∧ oe.cls = .ref C) ∧
   wpAny (model prog w) (A.mark (some (.ref e))) (setFlight (.ref e) none) (fun _ s₂ =>
     wpAny (model prog w) (A.mark (some (.ref e))) (storeName env n (.ref e)) (fun _ s₃ =>
      wpAny (model prog w) (A.mark (some (.ref e))) (execs (b₀ :: suite) env)
       (fun f s₄ => wpAny (model prog w) A (do bindName env n .none; unbindBehindTheSuite env n pos) (fun _ s₅ => Q f s₅) E s₄)
       (AsSuiteRaised (model prog w) (A.mark (some (.ref e))) env n pos (notedBy (model prog w) (A.mark (some (.ref e))) env (cameBackBy (model prog w) A env E))) s₃) (notedBy (model prog w) (A.mark (some (.ref e))) env (cameBackBy (model prog w) A env E)) s₂) (notedBy (model prog w) (A.mark (some (.ref e))) env (cameBackBy (model prog w) A env E)) s₁) (notedBy (model prog w) (A.mark (some (.ref e))) env (cameBackBy (model prog w) A env E)) s) :
  wpAny (model prog w) A (handleBy (.ref e) env (.ExceptHandler (some t) (some n) (b₀ :: suite) pos :: rest)) Q E s := by
 revert cl9 e C pos prog w A E s env t n b₀ suite rest Q
 intros hC h
 refine wpAny_handleBy_cons (codeAny_handlers_test (b9L h (fun c s₁ h₁ => ?_) fun _ _ y => y)) (by intro q; cases q)
 obtain ⟨rfl, X, ⟨oe, he, hcls⟩, hk⟩ := h₁
 obtain ⟨nm, q, N, bs, hdct, sn, sub, ab, col, dd, k0, k1, k2, k3, k5, hCo⟩ := a0X X hC
 obtain ⟨hh, g, d, tk, os⟩ := s₁
 exact wpAny_excMatches_sub_self hCo he hcls (by decide) (codeAny_handlers_suite_as hk)
theorem b4Q {x dx : Addr} (N : News h₀ L h news) (h1 : (x, ox) ∈ news) (hc : ox.cls = .ref C) (hd : ox.dict = some dx) (hf : notCls ox = true) (h2 : (dx, od) ∈ news) : InstAt h x ox C (some od) :=
 ⟨(N _ h1).1, hc, hf, by rw [hd]; exact (N _ h2).1⟩
end
theorem b8N {x : Addr} {es : List DictEntry} {v : Value} {expr : Bool} (hC : C = 52 ∨ C = 64) (hn : name = "what" ∨ name = "at") (X : (K w.params).In s.heap) (I : InstAt s.heap x ox C (some (dictOf es n))) (hl : getL name es = some (some v)) (hv : handedIn v = true) (h : Q v { s with toks := s.toks + 1 }) : wpAny (model prog w) A (getAttr (.ref x) name expr) Q E s := by
 revert cl9 n w name A C s Q E ox prog x es v expr
 intros hC hn X I hl hv h
 have hga : findIn (K w.params) (.ref C) "__getattribute__" = some (some (.builtin "BaseException.__getattribute__")) := by
  rcases hC with rfl | rfl <;> k_dflt k_is
 obtain ⟨hh, g, d, t, os⟩ := s
 have L0 := I.type (M := model prog w)
 have L1 := c2x (M := model prog w) X hga
 have hgg : findIn (K w.params) (.ref C) "__getattr__" = some none := by
  rcases hC with rfl | rfl <;> k_dflt k_is
 have L2 := c2x (M := model prog w) X hgg
 have f3 := PySem.F.attrBase_Exception.ga.bind (.ref x)
 have hx0 : (expr && onTheHeap (c1M "BaseException.__getattribute__")) = false := by cases expr <;> rfl
 have hx2 : (c1M "BaseException.__getattribute__" == c1M "object.__getattribute__") = false := by decide +kernel
 have hx1 : (onTheHeap (b9t C) && c1M "BaseException.__getattribute__" == c1M "object.__getattribute__") = false := by rw [hx2]; rfl
 unfold getAttr getAttrBy
 refine wpAny_bind (wpAny_mkText (wpAny_holding (wpAny_bind (L0.at (wpAny_bind (L1.at ?_))))))
 dsimp only
 rw [hx1]
 repeat (any_goals (first | assumption | with_reducible refine L0.at ?_ | with_reducible refine L1.at ?_ | with_reducible refine L2.at ?_ | wp_step))
 have hf : findObj (K w.params) C (some (dictOf es n)) name = some (.value v) := findObj_own (attr := none) (by rcases hC with rfl | rfl <;> k_dflt k_is) (a6s hC hn) (by rfl) hl
 have L3 := looks_find (M := model prog w) X I hf
 have sub : Looks (model prog w) hh (isInstance (.ref x) (.type "BaseException")) true := L0.andThen (a3K X hC)
 refine c2R PySem.F.attrBase_Exception.ga.plain PySem.F.entry_bexc_ga (@check_slot (model prog w) _ _ _ "BaseException.__getattribute__" "BaseException" "__getattribute__" (.ref x) [.str name t] [] _ (by decide +kernel) (by decide +kernel) sub (PySem.F.args_bexc_ga _ _) ?_)
 unfold Builtin.«object.__getattribute__»
 refine wpAny_bind (wpAny_pure ?_)
 refine wpAny_bind (wpAny_pure ?_)
 refine wpAny_bind (L0.at ?_)
 refine wpAny_bind (L3.at ?_)
 refine wpAny_pure ?_
 show wpAny _ _ (handedOut v) _ _ _
 rw [handedOut_of hv]
 exact wpAny_pure h
theorem b4i : True := by
 k_with "E2:getAttr ref" => ((k_here; k_dflt (refine' b8N ?c ?n ?X (b4Q ?N ?h1 ?h2 ?h3 ?h4 ?h5) ?l ?v ?_; (case N => k_asm); (case h1 => k_mem); (case h2 => assumption); (case c => first | exact .inl rfl | exact .inr rfl); (case n => first | exact .inl rfl | exact .inr rfl); (case X => k_in); (case h3 => assumption); (case h4 => assumption); (case h5 => k_mem); (case l => k_get); (case v => k_handed); k_whole)))
 trivial
theorem a1u (hxl : x.length ≤ 1900) :
  FnX w G none 532 7 90 [.str x t] news (fun v n => a0k (a0a x) ∧ ∃ t, v = .str (a0a x) t ∧ n = news) (fun C D cx nx => ¬ a0k (a0a x) ∧ XF 64 news C D cx nx) := by
 revert cl9 G w x t news
 intros hxl
 have mk9 : a0b := trivial
 ktr_unf
 k_steps
 ·exact hret _ _ _ _ ⟨by assumption, _, rfl, rfl⟩ (by k_asm) (by k_asm)
 ·refine a3X (by assumption) (c0X (by assumption)) thX' hNs' (fun q hq => (N' q hq).2.1) rfl ?_; revert cm9 h₂ x₂; intro hN₂
  obtain ⟨g₂, oe, T₂, oT, KT, F₂, B₂, XO, N₂, ⟨ts, hT1, hT2⟩, hTe, hne, hnT⟩ := a2O (by assumption) x₂ hN₂ (Fr.above (by assumption)) (fun q hq => (N' q hq).2.1)
  obtain ⟨hc, hd, vsx, hv, hv1, hv2⟩ := XO
  have X₂ := XB.keeps B₂.stays
  have T₂' := TB.keeps B₂.stays
  clear N' hNs' thX' x₂ hN₂
  refine a8Z (C := 52) (.inl rfl) ?_
  have hge := (N₂ _ (.head _)).1
  k_steps
  refine a2g F₂ N₂ hv hv1 hT1 hT2 hTe hnT ?_; revert cm9 h₃ F₃ N₃
  have N₄ : News g₂ _ h₃ ((e', oe) :: (D0, dictOf [⟨b9M w.params "what", .str "what" a0, .str y0 t0⟩, ⟨b9M w.params "at", .str "at" b0, .int k0 u0⟩] 2) :: nx') := nc (N₃ _ (.head _)) (nc (N₃ _ (.tail _ hD0)) fun p hp => N₃ p (.tail _ hp))
  have hnc : notCls oe = true := by unfold notCls; rw [hv]
  clear F₂ N₂ hge N₃
  k_steps
  (with_reducible rename News g₂ _ _ _ => N₅)
  (with_reducible rename Fr g₂ _ _ _ => F₅)
  refine a3d (.inr rfl) (by k_in) (N₅ _ (.head _)).1 ?_
  have hne2 : ∀ q ∈ (D2', a1t w.params y0 t0 k0 u0 a2' b2') :: (e', oe) :: (D0, _) :: nx', q.1 ≠ e2' := fun q hq => by
   rcases b9r.mp hq with rfl | hq
   ·exact l3'
   ·exact b9v (l2' q hq)
  refine a3T F₅ N₅ hne2 rfl mt1 hv hv2 fun h₆ oe₆ vs₆ F₆ N₆ c1 c2 c3 c4 ⟨cx, c5, c6⟩ => ?_
  refine a8z rfl (by assumption) F₆ N₆ c1 c2 c3 c4 c5 hne2 rfl rfl rfl ?_; revert cm9 h₇ tk₇ x₇
  refine hx _ _ _ _ _ _ _ ⟨hbad, rfl, fun p hp => ?_, ?_⟩ (a7o KT x₇)
  ·exact tl3 (hsub p hp)
  ·rcases c6 with rfl | rfl
   ·exact .inl rfl
   ·exact .inr ⟨e', oe, vsx, rfl, mt1, hv, hv2⟩
theorem a6k {a : Addr} {c : String} {its : Led} (h : Objs [(a, c)] its) : ∃ o, its = [(a, o)] := by
 revert cl9 a c its
 intros h
 cases its with
 | nil => exact h.elim
 | cons p r =>
  cases r with
  | nil => obtain ⟨p1, o⟩ := p; exact ⟨o, by rw [show p1 = a from h.1.1]⟩
  | cons q r => exact h.2.elim
section
variable {prog : Program} {w : World} {A : Around} {E : Value → Shared → Prop} {s : Shared} {env : Env} {h₀ : Heap} {target : Expr} {body : List Stmt} {Q : Flow → Shared → Prop}
noncomputable def a6Y (its news : Led) : Prop := ∀ p ∈ news, ∀ q ∈ its, p.1 ≠ q.1
noncomputable def a4p (h₀ : Heap) (L : Addr) (J : (b9p → Option Value) → Led → Prop) (its : Led) (s₁ s₂ : Shared) : Prop :=
 ∃ h' tk m' news', s₂ = { s₁ with heap := h', toks := tk } ∧ Fr h₀ L h' m' ∧ News h₀ L h' (its ++ news') ∧ a6Y its news' ∧ J m' news'
theorem a0l {L : Addr} {J : (b9p → Option Value) → Led → Prop} {m' : b9p → Option Value} {its news' all : Led} {s₁ : Shared} {h' : Heap} {tk : Nat} (F : Fr h₀ L h' m') (N : News h₀ L h' all) (hs : ∀ p ∈ its ++ news', p ∈ all) (off : a6Y its news') (hj : J m' news') :
  a4p h₀ L J its s₁ { s₁ with heap := h', toks := tk } := ⟨h', tk, m', news', rfl, F, fun p hp => N p (hs p hp), off, hj⟩
noncomputable def a1o (h₀ : Heap) (L : Addr) (J : (b9p → Option Value) → Led → Prop) (its : Led) (s₁ : Shared) (Q : Flow → Shared → Prop) (f : Flow) (s₂ : Shared) : Prop :=
 match f with
 | .ret v => Q (.ret v) s₂
 | .brk => Q .next s₂
 | _ => a4p h₀ L J its s₁ s₂
theorem a1R {wr : List Addr} {P Md : Nat → Value → Heap → Prop} {St : Nat → Heap → Prop} {ws : List (Addr × String)} {keep : Led} {hp : Heap} {tk0 : Nat} (J : Nat → (b9p → Option Value) → Led → Prop) (hJ : ∀ i m n, J i m n → ∀ p ∈ keep, p ∈ n) (W : KTurns prog w A target I fp wr n P Md St) (hobj : ∀ i h, St i h → ∃ its, Objs ws its ∧ ∀ p ∈ its, h.get? p.1 = some p.2) (hws : ∀ b ∈ ws.map (·.1), b ∈ fp ∧ h₀.get? b = none) (hwr : ∀ b ∈ wr, b ∈ ws.map (·.1)) (hfp : ∀ b ∈ fp, b ∈ ws.map (·.1) ∨ ∃ o, (b, o) ∈ keep) (hL : env.locals ∉ fp) (hnw : ∀ p ∈ news, p.1 ∉ ws.map (·.1)) (hst : St 0 hp) (F : Fr h₀ env.locals hp m₀) (N : News h₀ env.locals hp news) (hj : J 0 m₀ news) (turn : ∀ i v m₁ news₁ its h tk, i < n → P i v h → J i m₁ news₁ → Objs ws its → a6Y its news₁ → Fr h₀ env.locals h m₁ → News h₀ env.locals h (its ++ news₁) →
   wpAny (model prog w) A (assign target env v) (fun _ s₃ => wpAny (model prog w) A (execs body env) (a1o h₀ env.locals (J (i + 1)) its { s with heap := h, toks := tk } Q) E s₃) E { s with heap := h, toks := tk }) (done : ∀ m₁ news₁ h tk, J n m₁ news₁ → Fr h₀ env.locals h m₁ → News h₀ env.locals h news₁ → Q .next { s with heap := h, toks := tk }) :
  TurnsAt prog w A h₀ env target body Q E (.ref I) { s with heap := hp, toks := tk0 } := by
 revert cl9 n m₀ I fp news prog w A E s env h₀ target body Q wr P Md St ws keep hp tk0 J
 intros hJ W hobj hws hwr hfp hL hnw hst F N hj turn done
 have mk9 : a0b := trivial
 refine ⟨I, fp, wr, n, P, Md, St, m₀, news, fun i m₁ news₁ => J i m₁ news₁ ∧ ∀ p ∈ news₁, p.1 ∉ ws.map (·.1), rfl, W, hL, fun b hb => (hws b (hwr b hb)).2, fun p hp hw => hnw p hp (hwr _ hw), hst, F, N, ⟨hj, hnw⟩, ?_, ?_⟩
 ·revert cm9 i v m₁ news₁ h₁ tk₁ own; intro hin hPi hJ' hoff hown hget hall hst₁ F₁ N₁
  obtain ⟨hJ₁, hof⟩ := hJ'
  obtain ⟨its, hits, hval⟩ := hobj (i + 1) h₁ hst₁
  have hmap := hits.map
  have N₂ : News h₀ env.locals h₁ (its ++ news₁) := fun p hp => by
   rcases b9y.mp hp with hp | hp
   ·have h1 : p.1 ∈ ws.map (·.1) := by rw [← hmap]; exact b9I.mpr ⟨p, hp, rfl⟩
    exact N₁ _ (b9G _ (hall p.1 (hws _ h1).1 (hws _ h1).2 p.2 (hval p hp)))
   ·exact N₁ _ (b9s _ hp)
  have hO : a6Y its news₁ := fun p hp q hq e => hof p hp (by rw [← hmap, e]; exact b9I.mpr ⟨q, hq, rfl⟩)
  have fin : ∀ s₃, a4p h₀ env.locals (J (i + 1)) its { s with heap := h₁, toks := tk₁ } s₃ → LoopStepU h₀ env.locals wr own (fun m₁ news₁ => J (i + 1) m₁ news₁ ∧ ∀ p ∈ news₁, p.1 ∉ ws.map (·.1)) { s with heap := h₁, toks := tk₁ } .next s₃ := by
   intro s₃ hR9; obtain ⟨h', tk, m', news', e, F', N', ho, r⟩ := hR9
   have ho' : ∀ p ∈ news', p.1 ∉ ws.map (·.1) := fun p hp hI => by
    rw [← hmap] at hI
    obtain ⟨q, hq, hqe⟩ := b9I.mp hI
    exact ho p hp q hq hqe.symm
   refine ⟨rfl, h', tk, m', news', e, F', ?_, fun p hp hI => ho' p hp (hwr _ hI), r, ho'⟩
   intro hR9; obtain ⟨pa, po⟩ := hR9; intro hp
   rcases b9y.mp hp with hp | hp
   ·have h2 : h₁.get? pa = some po := hget _ hp
    rcases hfp pa (hown _ hp) with h3 | ⟨o, h3⟩
    ·have h4 : pa ∈ its.map (·.1) := by rw [hmap]; exact h3
     obtain ⟨⟨qa, qo⟩, hq, hqe⟩ := b9I.mp h4
     have hqe' : qa = pa := hqe
     subst hqe'
     have h5 : h₁.get? qa = some qo := hval _ hq
     have h6 : qo = po := b9U (h5.symm.trans h2)
     subst h6
     exact N' _ (b9G _ hq)
    ·have h4 : h₁.get? pa = some o := (N₁ _ (b9s _ (hJ _ _ _ hJ₁ _ h3))).1
     have h6 : o = po := b9U (h4.symm.trans h2)
     subst h6
     exact N' _ (b9s _ (hJ _ _ _ r _ h3))
   ·exact N' _ (b9s _ hp)
  refine b9L (turn i v m₁ news₁ its h₁ tk₁ hin hPi hJ₁ hits hO F₁ N₂) (fun _ s₂ h₂ => b9L h₂ (fun f s₃ p => ?_) fun _ _ e => e) fun _ _ e => e
  cases f with
  | ret v => exact .ret p
  | brk => exact .brk p
  | next => exact .next (fin _ p)
  | cont => exact .cont (fin _ p)
 ·revert cm9 h' tk m' news'; intro F' N' _ hJ'
  exact done m' news' h' tk hJ'.1 F' N'
theorem a1Z (J : Nat → (b9p → Option Value) → Led → Prop) (hJ : ∀ i m n, J i m n → (ax, listOf its nn) ∈ n) (hh : A.handled = none) (F : Fr h₀ env.locals s.heap m₀) (N : News h₀ env.locals s.heap news) (hj : J 0 m₀ news) (turn : ∀ i v m₁ news₁ I oI h tk, i < its.size → its[i]? = some v → J i m₁ news₁ → a6Y [(I, oI)] news₁ → Fr h₀ env.locals h m₁ → News h₀ env.locals h ((I, oI) :: news₁) →
   wpAny (model prog w) A (assign target env v) (fun _ s₃ => wpAny (model prog w) A (execs body env) (a1o h₀ env.locals (J (i + 1)) [(I, oI)] { s with heap := h, toks := tk } Q) E s₃) E { s with heap := h, toks := tk }) (done : ∀ m₁ news₁ h tk, J its.size m₁ news₁ → Fr h₀ env.locals h m₁ → News h₀ env.locals h news₁ → Q .next { s with heap := h, toks := tk }) :
  wpAny (model prog w) A (pyIter (.ref ax)) (fun it s₂ => TurnsAt prog w A h₀ env target body Q E it s₂) E s := by
 have hax := N _ (hJ _ _ _ hj)
 have hl : s.heap.IsList ax its := ⟨_, hax.1, rfl, nn, rfl⟩
 have hlt : ax < s.heap.objs.size := b9x hax.1
 have hne : ax ≠ s.heap.objs.size := b9v hlt
 refine c2W hl ?_
 refine a1R (s := s) (tk0 := s.toks) (ws := [(s.heap.objs.size, "list_iterator")]) (keep := [(ax, listOf its nn)]) J (fun i m n h p hp => by rw [b9C.mp hp]; exact hJ i m n h) (KTurns.ofWalks (Walks.list hh s.heap.objs.size ax hne its) fun i v s Q E st q => letGo_listiter st.1 q) (fun i h st => ?_) (fun b hb => ?_) (fun b hb => by simpa using hb) (fun b hb => ?_) ?_ (fun p hp hI => ?_) ?_ (F.push _) (fun p hp => ⟨b9B _ (N p hp).1, (N p hp).2⟩) hj ?_ done
 ·obtain ⟨it, hit, hic, _⟩ := st.1
  exact ⟨[(s.heap.objs.size, it)], ⟨⟨rfl, hic⟩, trivial⟩, fun p hp => by rw [b9C.mp hp]; exact hit⟩
 ·have hb' : b = s.heap.objs.size := by simpa using hb
  rw [hb']
  exact ⟨c3w .., c1x F⟩
 ·have hb' : b = s.heap.objs.size ∨ b = ax := by simpa using hb
  rcases hb' with e | e
  ·exact .inl (by simp [e])
  ·exact .inr ⟨_, by rw [e]; exact .head _⟩
 ·intro hI
  rcases b9r.mp hI with e | hI
  ·exact absurd F.ns.lt (e ▸ c0g _)
  ·exact hax.2.1 (b9C.mp hI).symm
 ·exact absurd (b9x (N p hp).1) ((b9C.mp hI) ▸ c0g _)
 ·exact ⟨⟨_, b9R _ rfl, rfl, rfl⟩, hl.at fun o e => b9B _ e⟩
 ·intro i v m₁ news₁ is h tk hi hP hJi hits hO F₁ N₁
  obtain ⟨o, rfl⟩ := a6k hits
  exact turn i v m₁ news₁ _ o h tk hi hP hJi hO F₁ N₁
theorem a4Q {elts : List Expr} {l1 l2 : Addr} {xs ys : Array Value} {n2 : Nat} (J : Nat → (b9p → Option Value) → Led → Prop) (hJ1 : ∀ i m n, J i m n → (l1, listOf xs n1) ∈ n) (hJ2 : ∀ i m n, J i m n → (l2, listOf ys n2) ∈ n) (hh : A.handled = none) (F : Fr h₀ env.locals s.heap m₀) (N : News h₀ env.locals s.heap news) (hj : J 0 m₀ news) (turn : ∀ i x y T m₁ news₁ its h tk, xs[i]? = some x → ys[i]? = some y → J i m₁ news₁ → a6Y its news₁ → IsTup h T #[x, y] → Fr h₀ env.locals h m₁ → News h₀ env.locals h (its ++ news₁) →
   wpAny (model prog w) A (assign (.Tuple elts k pos) env (.ref T)) (fun _ s₃ => wpAny (model prog w) A (execs body env) (a1o h₀ env.locals (J (i + 1)) its { s with heap := h, toks := tk } Q) E s₃) E { s with heap := h, toks := tk }) (done : ∀ m₁ news₁ h tk, J (min xs.size ys.size) m₁ news₁ → Fr h₀ env.locals h m₁ → News h₀ env.locals h news₁ → Q .next { s with heap := h, toks := tk }) :
  wpAny (model prog w) A (call (.type "zip") [.ref l1, .ref l2]) (fun xv s₁ => wpAny (model prog w) A (pyIter xv) (fun it s₂ => TurnsAt prog w A h₀ env (.Tuple elts k pos) body Q E it s₂) E s₁) E s := by
 revert cl9 k n1 m₀ pos news prog w A E s env h₀ body Q elts l1 l2 xs ys n2 J
 intros hJ1 hJ2 hh F N hj turn done
 have mk9 : a0b := trivial
 have hax1 := N _ (hJ1 _ _ _ hj)
 have hax2 := N _ (hJ2 _ _ _ hj)
 have hl1 : s.heap.IsList l1 xs := ⟨_, hax1.1, rfl, n1, rfl⟩
 have hl2 : s.heap.IsList l2 ys := ⟨_, hax2.1, rfl, n2, rfl⟩
 have hlt1 : l1 < s.heap.objs.size := b9x hax1.1
 have hlt2 : l2 < s.heap.objs.size := b9x hax2.1
 have hLs : env.locals < s.heap.objs.size := F.ns.lt
 have D : ZipApart (s.heap.objs.size + 4) (s.heap.objs.size + 2) (s.heap.objs.size + 3) s.heap.objs.size (s.heap.objs.size + 1) l1 l2 := ktu_apart _ _ _ hlt1 hlt2
 refine call_zip_2 hl1 hl2 ?_; intro h' hz hTI hTO hi1 hi2 hsz hk
 refine wpAny_pyIter_zip hz ?_
 refine a1R (s := s) (tk0 := s.toks) (ws := [(s.heap.objs.size + 4, "zip"), (s.heap.objs.size + 2, "tuple"), (s.heap.objs.size + 3, "tuple"), (s.heap.objs.size, "list_iterator"), (s.heap.objs.size + 1, "list_iterator")]) (keep := [(l1, listOf xs n1), (l2, listOf ys n2)]) J ?_ (KTurns.ofWalksU (WalksT.zip2 hh _ _ _ _ _ _ _ D xs ys).toU) ?_ ?_ ?_ ?_ ?_ ?_ ?_ (F.keeps hk) (N.grown hk) hj ?_ done
 ·revert cm9 i m n h p; intro hp
  rcases b9r.mp hp with rfl | hp
  ·exact hJ1 _ _ _ h
  ·rw [b9C.mp hp]; exact hJ2 _ _ _ h
 ·revert cm9 i h; intro hR9; obtain ⟨hz, hTI, ⟨a, b, hTO⟩, ⟨o1, ho1, hc1, _⟩, ⟨o2, ho2, hc2, _⟩, _⟩ := hR9
  have e1 : ∃ o : Obj, h.get? (s.heap.objs.size + 4) = some o ∧ o.cls = .type "zip" := ⟨_, hz, rfl⟩
  have e2 : ∃ o : Obj, h.get? (s.heap.objs.size + 2) = some o ∧ o.cls = .type "tuple" := ⟨_, hTI, rfl⟩
  have e3 : ∃ o : Obj, h.get? (s.heap.objs.size + 3) = some o ∧ o.cls = .type "tuple" := ⟨_, hTO, rfl⟩
  obtain ⟨q1, g1, k1⟩ := e1
  obtain ⟨q2, g2, k2⟩ := e2
  obtain ⟨q3, g3, k3⟩ := e3
  refine ⟨[(s.heap.objs.size + 4, q1), (s.heap.objs.size + 2, q2), (s.heap.objs.size + 3, q3), (s.heap.objs.size, o1), (s.heap.objs.size + 1, o2)], ⟨⟨rfl, k1⟩, ⟨rfl, k2⟩, ⟨rfl, k3⟩, ⟨rfl, hc1⟩, ⟨rfl, hc2⟩, trivial⟩, fun p hp => ?_⟩
  exact a0e (P := fun p : Addr × Obj => h.get? p.1 = some p.2) g1 (a0e g2 (a0e g3 (a0e ho1 (a0e ho2 a2e)))) p hp
 ·exact a0e ⟨.head _, c0Z F (c0y _ _)⟩ (a0e ⟨mt1, c0Z F (c0y _ _)⟩ (a0e ⟨mt2, c0Z F (c0y _ _)⟩ (a0e ⟨mt3, c0Z F (b9K _)⟩ (a0e ⟨mt4, c0Z F (c0y _ _)⟩ a2e))))
 ·exact a0e (.head _) (a0e mt2 (a0e mt3 (a0e mt4 a2e)))
 ·exact a0e (.inl (.head _)) (a0e (.inl mt1) (a0e (.inl mt2) (a0e (.inl mt3) (a0e (.inl mt4) (a0e (.inr ⟨_, .head _⟩) (a0e (.inr ⟨_, mt1⟩) a2e))))))
 ·exact fun hI => a0e (P := fun b => env.locals ≠ b) (c0r 4 hLs) (a0e (c0r 2 hLs) (a0e (c0r 3 hLs) (a0e (b9v hLs) (a0e (c0r 1 hLs) (a0e (b9A hax1.2.1) (a0e (b9A hax2.2.1) a2e)))))) _ hI rfl
 ·exact fun p hp hI => a0e (P := fun b => p.1 ≠ b) (c0r 4 (b9x (N p hp).1)) (a0e (c0r 2 (b9x (N p hp).1)) (a0e (c0r 3 (b9x (N p hp).1)) (a0e (b9v (b9x (N p hp).1)) (a0e (c0r 1 (b9x (N p hp).1)) a2e)))) _ hI rfl
 ·exact ⟨hz, hTI, ⟨_, _, hTO⟩, hi1, hi2, hl1.at fun o e => hk l1 o e, hl2.at fun o e => hk l2 o e⟩
 ·revert cm9 i v m₁ news₁ is h tk; intro hi hR9; obtain ⟨T, vals, rfl, ⟨x, y, hx, hy, rfl⟩, hT⟩ := hR9; intro hJi hits hO F₁ N₁
  exact turn i x y T m₁ news₁ is h tk hx hy hJi hO hT F₁ N₁
end
theorem era_N1 : True := trivial
theorem b4p : True := by
 k_with "N1:call ref" => (k_here; ((with_reducible show wpAny _ _ (call (b9t 179) _) _ _ _); k_dflt (refine' Fn.use (a9m ?kH (by omega)) ?k1 ?k2 ?k3 ?k4 ?k5 ?k6 ?k7 ?k8 ?_); (case k4 => k_extra "g:k4"); (case kH => k_extra "g:kH"); k_extra "g:c1"; k_extra "g:c2"; obtain ⟨t', rfl, rfl, lb⟩ := hR'; (try clear hR'); k_extra "g:c3"; k_extra "g:c4"))
 k_with "N1:call ref" => (k_here; ((with_reducible show wpAny _ _ (call (b9t 118) _) _ _ _); k_dflt (refine' FnX.use (a1V (by omega)) ?k1 ?k2 ?k3 ?k4 ?k5 ?k6 ?k7 ?k8 ?_ ?_); (case k4 => k_extra "g:k4"); k_extra "g:c1"; k_whole; rotate_left; (k_extra "g:x2"; obtain ⟨hbad, rfl, hsub, rfl, D0, y0, t0, k0, u0, a0, b0, rfl, hD0⟩ := hX'; (try clear hX'); k_extra "g:x3"); rotate_right; (k_extra "g:c2"; obtain ⟨hgood, t', rfl, rfl⟩ := hR'; (try clear hR'); k_extra "g:c3"; k_extra "g:c4")))
 trivial
noncomputable abbrev XN (w : World) (news : Led) : Addr → Option Addr → Value → Led → Prop := fun C _ cx nx => C = 52 ∧ (∀ p ∈ news, p ∈ nx) ∧ cx = .none
theorem a5T (hxl : x.length ≤ 1900) :
  FnX w G none 186 7 90 [.str x t] news (fun v n => a0k (a0h x) ∧ ∃ t, v = .str (a0h x) t ∧ n = news) (fun C D cx nx => ¬ a0k (a0h x) ∧ XN w news C D cx nx) := by
 revert cl9 G w x t news
 intros hxl
 have mk9 : a0b := trivial
 ktr_unf
 k_steps
 ·exact hret _ _ _ _ ⟨hgood, _, rfl, rfl⟩ (by k_asm) (by k_asm)
 ·exact hx _ _ _ _ _ _ _ ⟨hbad, rfl, hsub, rfl⟩ (by assumption)
theorem era_N2 : True := trivial
theorem b4Z : True := by
 k_with "N2:call ref" => (k_here; ((with_reducible show wpAny _ _ (call (b9t 532) _) _ _ _); k_dflt (refine' FnX.use (a1u (by omega)) ?k1 ?k2 ?k3 ?k4 ?k5 ?k6 ?k7 ?k8 ?_ ?_); (case k4 => k_extra "g:k4"); k_extra "g:c1"; k_whole; rotate_left; (k_extra "g:x2"; obtain ⟨hbad, rfl, hsub, hcx⟩ := hX'; (try clear hX'); k_extra "g:x3"); rotate_right; (k_extra "g:c2"; obtain ⟨hgood, t', rfl, rfl⟩ := hR'; (try clear hR'); k_extra "g:c3"; k_extra "g:c4")))
 k_with "N2:call ref" => (k_here; ((with_reducible show wpAny _ _ (call (b9t 553) _) _ _ _); k_dflt (refine' FnX.use (a1J O2) ?k1 ?k2 ?k3 ?k4 ?k5 ?k6 ?k7 ?k8 ?_ ?_); (case k4 => k_extra "g:k4"); k_extra "g:c1"; k_whole; rotate_left; (k_extra "g:x2"; obtain ⟨hhas, rfl, hsub, hcx⟩ := hX'; (try clear hX'); k_extra "g:x3"); rotate_right; (k_extra "g:c2"; obtain ⟨hhas, rfl, rfl⟩ := hR'; (try clear hR'); k_extra "g:c3"; k_extra "g:c4")))
 k_with "N2:call ref" => (k_here; ((with_reducible show wpAny _ _ (call (b9t 560) _) _ _ _); k_dflt (refine' Fn.use (a1e O2 (by (try dsimp only); omega) (by (try dsimp only); omega)) ?k1 ?k2 ?k3 ?k4 ?k5 ?k6 ?k7 ?k8 ?_); (case k4 => k_extra "g:k4"); k_extra "g:c1"; k_extra "g:c2"; obtain ⟨rfl, rfl⟩ := hR'; (try clear hR'); k_extra "g:c3"; k_extra "g:c4"))
 k_with "N2:call ref" => (k_here; ((with_reducible show wpAny _ _ (call (b9t 360) _) _ _ _); k_dflt (refine' Fn.use a8Y ?k1 ?k2 ?k3 ?k4 ?k5 ?k6 ?k7 ?k8 ?_); (case k4 => k_extra "g:k4"); k_extra "g:c1"; k_extra "g:c2"; obtain ⟨⟨rBb, rBd, rBl, rBg, rBod, rBx, rBk⟩, rfl, rfl, hBo, rfl, rfl, lB1, lB2, lB3, lB4⟩ := hR'; (try clear hR'); k_extra "g:c3"; (try simp only [BoxR.led, StR.led, c0b, c0c] at N' lB1); (try dsimp only at lB1 lB2 lB3 lB4); (try k_lt lB1); (try k_lt2 lB2); (try k_lt2 lB3); (try k_lt2 lB4); k_extra "g:c4"))
 trivial
theorem a2h (h : a0u rs r.x = false) : stored (a0t rs) r.x (.ref r.b) = a0t (rs ++ [r]) := by
 unfold stored a0t
 rw [if_neg, c0D]
 ·rfl
 ·unfold a0u at h
  rw [c0C, List.any_map]
  exact h
theorem a4X {k : Int} (O : σ.ok w rest) (hr : r.ok w.params) (f1 : ∀ p ∈ σ.led rest, @b9w Nat _ p.1 r.d) (f2 : @b9w Nat _ r.d r.b) (f3 : @b9w Nat _ r.b r.l) (f4 : @b9w Nat _ r.l r.g) (hsd : a0x w.params sd' σ.B σ.U k) (hob : ob'.IsDictOf (kS w) (a0t (σ.rs ++ [r]))) : StR.ok w ⟨σ.S, σ.Sd, σ.B, σ.U, sd', ob', σ.ou, σ.rs ++ [r], σ.subs, k⟩ rest := by
 have e : StR.adr ⟨σ.S, σ.Sd, σ.B, σ.U, sd', ob', σ.ou, σ.rs ++ [r], σ.subs, k⟩ = σ.adr ++ [r.g, r.l, r.b, r.d] := by
  unfold StR.adr
  simp [c2c, BoxR.led]
 have lt : ∀ a ∈ σ.adr, @b9w Nat _ a r.d := fun a ha => by
  obtain ⟨q, hq, rfl⟩ := StR.mem_adr ha rest
  exact f1 q hq
 refine ⟨hsd, hob, O.lo, O.ou, fun q hq => ?_, ?_, fun p hp hm => ?_⟩
 ·rcases b9y.mp hq with hq | hq
  ·exact O.box q hq
  ·rw [b9C.mp hq]; exact hr
 ·rw [e]
  refine c1g.mpr ⟨O.nd, ?_, fun a ha b hb => ?_⟩
  ·simp only [c0Y, b9r, c0f, or_false, not_or, List.nodup_nil, and_true, not_false_eq_true]
   refine ⟨⟨?_, ?_, ?_⟩, ⟨?_, ?_⟩, ?_⟩ <;> refine neN ?_ <;> omega
  ·have := lt a ha
   simp only [b9r, c0f, or_false] at hb
   rcases hb with rfl | rfl | rfl | rfl <;> refine neN ?_ <;> omega
 ·rw [e] at hm
  rcases b9y.mp hm with hm | hm
  ·exact O.ap p hp hm
  ·have := f1 p (StR.led_rest hp)
   simp only [b9r, c0f, or_false] at hm
   rcases hm with h | h | h | h <;> exact absurd h (neN (by omega))
theorem a3G {k : Int} (h : p ∈ StR.led ⟨σ.S, σ.Sd, σ.B, σ.U, sd', ob', σ.ou, σ.rs ++ [r], σ.subs, k⟩ rest) :
  p ∈ r.led ∨ p = (σ.S, instObj 490 σ.Sd) ∨ p = (σ.Sd, sd') ∨ p = (σ.B, ob') ∨ p = (σ.U, σ.ou) ∨ p ∈ a0d σ.rs rest := by
 revert cl9 p sd' ob' rest r σ k
 intros h
 have mk9 : a0b := trivial
 unfold StR.led a0d at h
 simp only [b9r, c2c, b9y, c1a, c2Z, c0k] at h
 rcases h with h | h | h | h | (h | h) | h
 ·exact .inr (.inl h)
 ·exact .inr (.inr (.inl h))
 ·exact .inr (.inr (.inr (.inl h)))
 ·exact .inr (.inr (.inr (.inr (.inl h))))
 ·exact .inr (.inr (.inr (.inr (.inr (b9G _ h)))))
 ·exact .inl h
 ·exact .inr (.inr (.inr (.inr (.inr (b9s _ h)))))
theorem a9z {v : Int} (O : σ.ok w rest) (hxl : x.length ≤ 1900) (hn : σ.rs.length ≤ 50) (hv1 : σ.nxt ≤ v) (hv2 : v < 4294967295) :
  FnX w G none 572 9 130 [.ref σ.S, .str x t, .int v u] (σ.led rest)
   (fun _ n => a0k (a0a x) ∧ a0u σ.rs (a0a x) = false ∧ ∃ σ' : StR, n = σ'.led rest ∧ σ'.ok w rest ∧ σ'.S = σ.S ∧ σ'.subs = σ.subs ∧ σ'.nxt = v + 1 ∧ ∃ r, r.x = a0a x ∧ r.k = v ∧ σ'.rs = σ.rs ++ [r])
   (fun C D cx nx => ¬ (a0k (a0a x) ∧ a0u σ.rs (a0a x) = false) ∧ XF 64 (σ.led rest) C D cx nx) := by
 revert hxl hn hv1 hv2
 revert O; revert σ; revert cl9 G w x u t rest v; z_head
 intros hxl hn hv1 hv2
 have mk9 : a0b := trivial
 unfold StR.led
 (try unfold StR.led at H)
 dsimp only at *
 ktr_unf
 k_steps
 ·(with_reducible rename News h₀ _ _ _ => M9)
  have hob2 : c1n (kS w) ob' (a0t (rs ++ [⟨rBb, rBd, rBl, rBg, rBod, a0a x, rBk⟩])) := by rw [← a2h (r := ⟨rBb, rBd, rBl, rBg, rBod, a0a x, rBk⟩) hhas]; exact hob'
  obtain ⟨sd', hsd', M8⟩ : ∃ sd', a0x w.params sd' Bx U (rBk + 1) ∧ News h₀ L _ ((rBg, a3h) :: (rBl, a3h) :: (rBb, instObj 360 rBd) :: (rBd, rBod) :: (S, instObj 490 Sd) :: (Sd, sd') :: (Bx, ob') :: (U, listOf vs nU) :: a0d rs rest) := ⟨_, ⟨_, _, _, _, rfl⟩, M9⟩
  clear M9
  refine hret _ _ _ _ ⟨hgood, hhas, ⟨S, Sd, Bx, U, sd', ob', listOf vs nU, rs ++ [⟨rBb, rBd, rBl, rBg, rBod, a0a x, rBk⟩], subs, rBk + 1⟩, rfl, a4X O2 (r := ⟨rBb, rBd, rBl, rBg, rBod, a0a x, rBk⟩) hBo hAll lB2 lB3 lB4 hsd' hob2, rfl, rfl, rfl, ⟨rBb, rBd, rBl, rBg, rBod, a0a x, rBk⟩, rfl, rfl, rfl⟩ (by k_asm) fun p hp => M8 p ?_
  rcases a3G (σ := ⟨S, Sd, Bx, U, sd', ob, listOf vs nU, rs, subs, nxt⟩) hp with h | h | h | h | h | h
  ·simp only [BoxR.led, b9r, c0f, or_false] at h
   rcases h with h | h | h | h <;> (rw [h]; k_mem)
  ·rw [h]; k_mem
  ·rw [h]; k_mem
  ·rw [h]; k_mem
  ·rw [h]; k_mem
  ·k_mem
 ·exact hx _ _ _ _ _ _ _ ⟨fun z => by rw [hhas] at z; exact absurd z.2 (by simp), rfl, hsub, hcx⟩ (by assumption)
 ·exact hx _ _ _ _ _ _ _ ⟨fun z => hbad z.1, rfl, hsub, hcx⟩ (by assumption)
theorem era_N3 : True := trivial
theorem b4v : True := by
 k_with "N3:call ref" => (k_here; ((with_reducible show wpAny _ _ (call (b9t 64) _) _ _ _); k_dflt (refine' Fn.use (a1U (.inr rfl)) ?k1 ?k2 ?k3 ?k4 ?k5 ?k6 ?k7 ?k8 ?_); (case k4 => k_extra "g:k4"); k_extra "g:c1"; k_extra "g:c2"; obtain ⟨u', e', D', t1', a', b', rfl, rfl, l1', l2'⟩ := hR'; (try clear hR'); k_extra "g:c3"; k_extra "g:c4"))
 k_with "N3:call ref" => (k_here; ((with_reducible show wpAny _ _ (call (b9t 475) _) _ _ _); k_dflt (refine' FnX.use (b0Z O2 (by omega)) ?k1 ?k2 ?k3 ?k4 ?k5 ?k6 ?k7 ?k8 ?_ ?_); (case k4 => k_extra "g:k4"); k_extra "g:c1"; k_whole; rotate_left; (k_extra "g:x2"; obtain ⟨hhas, rfl, hsub, hcx⟩ := hX'; (try clear hX'); k_extra "g:x3"); rotate_right; (k_extra "g:c2"; obtain ⟨⟨⟨rBb, rBd, rBl, rBg, rBod, rBx, rBk⟩, hrB, hrx, rfl⟩, rfl⟩ := hR'; (try clear hR'); k_extra "g:c3"; k_extra "g:c4")))
 trivial
theorem a2S : without (a0t rs) x = a0t (rs.filter fun r => decide (r.x ≠ x)) := by
 unfold without a0t
 rw [List.filter_map]
 rfl
theorem b0U {rs' : List BoxR} (O : σ.ok w rest) (hs : ∀ r ∈ rs', r.ok w.params) (hnd : ((rs'.flatMap BoxR.led).map (·.1)).Nodup) (hsub : ∀ a ∈ (rs'.flatMap BoxR.led).map (·.1), a ∈ (σ.rs.flatMap BoxR.led).map (·.1)) (hob : ob'.IsDictOf (kS w) (a0t rs')) : StR.ok w ⟨σ.S, σ.Sd, σ.B, σ.U, σ.sd, ob', σ.ou, rs', σ.subs, σ.nxt⟩ rest := by
 revert cl9 w ob' rest σ rs'
 intros O hs hnd hsub hob
 have mk9 : a0b := trivial
 have hsub' : ∀ a ∈ StR.adr ⟨σ.S, σ.Sd, σ.B, σ.U, σ.sd, ob', σ.ou, rs', σ.subs, σ.nxt⟩, a ∈ σ.adr := fun a ha => by
  unfold StR.adr at *
  simp only [b9r] at ha ⊢
  rcases ha with h | h | h | h | h
  ·exact .inl h
  ·exact .inr (.inl h)
  ·exact .inr (.inr (.inl h))
  ·exact .inr (.inr (.inr (.inl h)))
  ·exact .inr (.inr (.inr (.inr (hsub a h))))
 refine ⟨O.sd, hob, O.lo, O.ou, hs, ?_, fun p hp hm => O.ap p hp (hsub' _ hm)⟩
 have h := O.nd
 unfold StR.adr at h ⊢
 simp only [c0Y, b9r, not_or] at h ⊢
 obtain ⟨⟨a1, a2, a3, a4⟩, ⟨b1, b2, b3⟩, ⟨c1, c2⟩, d1, _⟩ := h
 exact ⟨⟨a1, a2, a3, fun z => a4 (hsub _ z)⟩, ⟨b1, b2, fun z => b3 (hsub _ z)⟩, ⟨c1, fun z => c2 (hsub _ z)⟩, fun z => d1 (hsub _ z), hnd⟩
theorem a5l {a b : List BoxR} (h : a.Sublist b) : (a.flatMap BoxR.led).Sublist (b.flatMap BoxR.led) := by
 induction h with
 | slnil => exact List.Sublist.refl _
 | cons x _ ih => rw [c1a]; exact ih.trans (List.sublist_append_right _ _)
 | cons_cons x _ ih => rw [c1a, c1a]; exact List.Sublist.append (List.Sublist.refl _) ih
theorem a4s {rs' : List BoxR} (O : σ.ok w rest) (h : rs'.Sublist σ.rs) (hob : ob'.IsDictOf (kS w) (a0t rs')) : StR.ok w ⟨σ.S, σ.Sd, σ.B, σ.U, σ.sd, ob', σ.ou, rs', σ.subs, σ.nxt⟩ rest := by
 have hf := (a5l h).map (·.1)
 refine b0U O (fun r hr => O.box r (h.subset hr)) ?_ (fun a ha => hf.subset ha) hob
 have := O.nd
 unfold StR.adr at this
 simp only [c0Y] at this
 exact this.2.2.2.2.sublist hf
theorem b1W {rs' : List BoxR} (h : ∀ r ∈ rs', r ∈ rs) (hp : p ∈ a0d rs' rest) : p ∈ a0d rs rest := by
 rcases b9y.mp hp with hp | hp
 ·obtain ⟨r, hr, hq⟩ := List.mem_flatMap.mp hp
  exact b9G _ (List.mem_flatMap.mpr ⟨r, h r hr, hq⟩)
 ·exact b9s _ hp
theorem a5j (h : r ∈ rs) (hp : p ∈ r.led) : p ∈ a0d rs rest := b9G _ (List.mem_flatMap.mpr ⟨r, h, hp⟩)
theorem a6v (h : p ∈ σ.led rest) (k : ∀ q ∈ a0d σ.rs rest, q ∈ tl) : p ∈ (σ.S, instObj 490 σ.Sd) :: (σ.Sd, σ.sd) :: (σ.B, σ.ob) :: (σ.U, σ.ou) :: tl := by
 revert cl9 p rest tl σ
 intros h k
 unfold StR.led at h
 rcases b9r.mp h with h | h
 ·exact h ▸ .head _
 rcases b9r.mp h with h | h
 ·exact h ▸ mt1
 rcases b9r.mp h with h | h
 ·exact h ▸ mt2
 rcases b9r.mp h with h | h
 ·exact h ▸ mt3
 ·exact tl4 (k p h)
theorem a5C (hn : (rs.map (·.x)).Nodup) (h : r ∈ rs) : valueAt (a0t rs) r.x = some (.ref r.b) := by
 revert cl9 rs r
 intros hn h
 unfold valueAt a0t
 induction rs with
 | nil => cases h
 | cons q l ih =>
  rw [c0B, c0Y] at hn
  rw [c0B, c1f]
  by_cases e : q.x = r.x
  ·rcases b9r.mp h with rfl | h
   ·simp
   ·exact absurd (b9I.mpr ⟨r, h, rfl⟩) (e ▸ hn.1)
  ·simp only [e, decide_false]
   rcases b9r.mp h with rfl | h
   ·exact absurd rfl e
   ·exact ih hn.2 h
theorem a9n (O : σ.ok w rest) (hxl : x.length ≤ 1900) (hn : σ.rs.length ≤ 50) :
  FnX w G none 579 9 130 [.ref σ.S, .str x t] (σ.led rest)
   (fun _ n => a0u σ.rs (a0a x) = true ∧ a0a x ≠ b9q "INBOX" ∧ ∃ σ' : StR, n = σ'.led rest ∧ σ'.ok w rest ∧ σ'.S = σ.S ∧ σ'.subs = σ.subs ∧ σ'.nxt = σ.nxt ∧ σ'.rs = σ.rs.filter fun r => decide (r.x ≠ a0a x))
   (fun C D cx nx => (a0u σ.rs (a0a x) = false ∨ a0a x = b9q "INBOX") ∧ XF 64 (σ.led rest) C D cx nx) := by
 revert hxl hn
 revert O; revert σ; revert cl9 G w x t rest; z_head
 intros hxl hn
 have mk9 : a0b := trivial
 have hnames := O.names
 unfold StR.led
 (try unfold StR.led at H)
 dsimp only at *
 ktr_unf
 k_steps
 ·have hval := a5C hnames hrB
  have hRo := O6 _ hrB
  obtain ⟨b1, b2, b3, b4, b5, b6, b7, b8, b9, b10, b11, b12, hRe⟩ := id hRo
  dsimp only at hRe hrx hRo
  subst hRe hrx
  have hRb := a5j (rest := rest) hrB (b9D _ (b9D _ (c1z _)))
  have hRd := a5j (rest := rest) hrB (b9D _ (b9D _ (b9D _ (c1z _))))
  dsimp only at hRb hRd
  dsimp only at hval
  k_steps
  ·exact hx _ _ _ _ _ _ _ ⟨.inr (c0j (by assumption)), rfl, fun p hp => .tail _ hp, .inl rfl⟩ (by assumption)
  ·refine hret _ _ _ _ ⟨c0R.mpr ⟨_, hrB, decide_eq_true rfl⟩, by intro e; simp_all, ⟨S, Sd, Bx, U, _, ob', listOf vs nU, rs.filter fun r => decide (r.x ≠ a0a x), subs, nxt⟩, rfl, a4s O2 List.filter_sublist (by rw [← a2S]; exact hob'), rfl, rfl, rfl, rfl⟩ (by k_asm) ?_
   intro p hp
   refine (by assumption : News h₀ L _ _) p ?_
   exact a6v hp fun q hq => b1W (fun r hr => (List.mem_filter.mp hr).1) hq
 ·exact hx _ _ _ _ _ _ _ ⟨.inl hhas, rfl, hsub, hcx⟩ (by assumption)
theorem era_N4 : True := trivial
theorem b3M : True := by
 k_with "N4:call ref" => (k_here; ((with_reducible show wpAny _ _ (call (b9t 104) _) _ _ _); k_dflt (refine' Fn.use (a1r ?kH (by omega)) ?k1 ?k2 ?k3 ?k4 ?k5 ?k6 ?k7 ?k8 ?_); (case k4 => k_extra "g:k4"); (case kH => k_extra "g:kH"); k_extra "g:c1"; k_extra "g:c2"; obtain ⟨t', rfl, rfl, ln⟩ := hR'; (try clear hR'); k_extra "g:c3"; k_extra "g:c4"))
 k_with "N4:call ref" => (k_here; ((with_reducible show wpAny _ _ (call (b9t 64) _) _ _ _); k_dflt (refine' Fn.use (a1U (.inr rfl)) ?k1 ?k2 ?k3 ?k4 ?k5 ?k6 ?k7 ?k8 ?_); (case k4 => k_extra "g:k4"); k_extra "g:c1"; k_extra "g:c2"; obtain ⟨u', e', D', t1', a', b', rfl, rfl, l1', l2'⟩ := hR'; (try clear hR'); k_extra "g:c3"; k_extra "g:c4"))
 k_with "N4:call ref" => (k_here; ((with_reducible show wpAny _ _ (call (b9t 532) _) _ _ _); k_dflt (refine' FnX.use (a1u (by omega)) ?k1 ?k2 ?k3 ?k4 ?k5 ?k6 ?k7 ?k8 ?_ ?_); (case k4 => k_extra "g:k4"); k_extra "g:c1"; k_whole; rotate_left; (k_extra "g:x2"; obtain ⟨hbad, rfl, hsub, hcx⟩ := hX'; (try clear hX'); k_extra "g:x3"); rotate_right; (k_extra "g:c2"; obtain ⟨hgood, t', rfl, rfl⟩ := hR'; (try clear hR'); k_extra "g:c3"; k_extra "g:c4")))
 trivial
theorem a2n (h : StrsAre vs ss) : StrsAre (vs ++ [.str x t]) (ss ++ [x]) := by
 induction h with
 | nil => exact .cons _ _ .nil
 | cons a b _ ih => exact .cons a b ih
theorem a9v {l b : Addr} {v1 v2 : Array Value} {n2 : Nat} (F : Fr h₀ L s.heap m) (N : News h₀ L s.heap news) (hl : (l, listOf v1 n1) ∈ news) (hb : (b, listOf v2 n2) ∈ news) (e : v2.toList = [.str x t]) (hS : StrsAre v1.toList ss) (hz : ss.length ≤ 1000) (h : ∀ h' D vs, StrsAre vs (ss ++ [x]) → Fr h₀ L h' m → News h₀ L h' ((D, listOf vs.toArray 0) :: news) → (∀ q ∈ news, q.1 < D) → Q (.ref D) { s with heap := h' }) : wpAny (model prog w) A (binaryOp .Add (.ref l) (.ref b)) Q E s :=
 add_arrays F N ⟨_, (N _ hl).1, rfl, n1, rfl⟩ ⟨_, (N _ hb).1, rfl, n2, rfl⟩ (fun h' F' N' => h h' _ _ (by rw [e]; exact a2n hS) F' N' fun q hq => b9x (N q hq).1)
  (by rw [b9O, ← c0e, ← c0e, e, hS.length]; simp; omega)
theorem b5E : True := by
 k_with "N4:binaryOp Add ref ref" => ((k_here; k_dflt (refine' a9v ?k1 ?k2 ?k3 ?k4 ?k5 ?k6 ?k7 ?_; (case k1 => k_asm); (case k2 => k_asm); (case k3 => k_mem); (case k4 => k_mem); (case k5 => exact rfl); (case k6 => assumption); (case k7 => omega)); intro h' D' vsA hSA F' N' l1; (try k_lt l1); (try k_sweep)))
 k_with "N4:call builtin:sorted" => ((k_here; k_dflt (refine' a3S ?k2 ?k3 ?k4 ?k5 ?k6 ?_; (case k2 => k_asm); (case k3 => k_asm); (case k4 => k_mem); (case k5 => assumption); (case k6 => ((try simp only [c0l, c1N]); omega)));  intro h' D vsS ssS eS F' N' l1 hSS hSrt; (try k_lt l1); (try k_sweep)))
 trivial
theorem a0T {l : Led} (x : LCg.Off1 D l) : ∀ p ∈ l, p.1 ≠ D := by
 induction l with
 | nil => exact fun _ h => nomatch h
 | cons a l ih => exact List.forall_mem_cons.mpr ⟨x.1, ih x.2⟩
theorem a6M {ou' : Obj} (h : p ∈ StR.led ⟨σ.S, σ.Sd, σ.B, D, sd', σ.ob, ou', σ.rs, ss, σ.nxt⟩ rest) :
  p ∈ (D, ou') :: (σ.S, instObj 490 σ.Sd) :: (σ.Sd, sd') :: (σ.B, σ.ob) :: (σ.U, σ.ou) :: a0d σ.rs rest := by
 revert cl9 p ss D sd' rest σ ou'
 intros h
 unfold StR.led at h
 simp only [b9r] at h ⊢
 rcases h with h | h | h | h | h
 ·exact .inr (.inl h)
 ·exact .inr (.inr (.inl h))
 ·exact .inr (.inr (.inr (.inl h)))
 ·exact .inl h
 ·exact .inr (.inr (.inr (.inr (.inr h))))
theorem a8N {ou' : Obj} (O : σ.ok w rest) (hD : ∀ p ∈ σ.led rest, p.1 ≠ D) (hsd : a0x w.params sd' σ.B D σ.nxt) (hou : ∃ vs n, ou' = listOf vs n ∧ StrsAre vs.toList ss) :
  StR.ok w ⟨σ.S, σ.Sd, σ.B, D, sd', σ.ob, ou', σ.rs, ss, σ.nxt⟩ rest := by
 revert cl9 w ss D sd' rest σ ou'
 intros O hD hsd hou
 have ne : ∀ a ∈ σ.adr, a ≠ D := fun a ha => by
  obtain ⟨q, hq, rfl⟩ := StR.mem_adr ha rest
  exact hD q hq
 have h := O.nd
 refine ⟨hsd, O.ob, O.lo, hou, O.box, ?_, fun p hp hm => ?_⟩
 ·unfold StR.adr at h ne ⊢
  simp only [c0Y, b9r, not_or] at h ⊢
  obtain ⟨⟨a1, a2, a3, a4⟩, ⟨b1, b2, b3⟩, ⟨c1, c2⟩, d1, d2⟩ := h
  exact ⟨⟨a1, a2, ne _ (.head _), a4⟩, ⟨b1, ne _ mt1, b3⟩, ⟨ne _ mt2, c2⟩, fun z => ne _ (tl4 z) rfl, d2⟩
 ·have hp' := O.ap p hp
  have hlt := hD p (StR.led_rest hp)
  unfold StR.adr at hp' hm
  simp only [b9r, not_or] at hp' hm
  rcases hm with z | z | z | z | z
  ·exact hp'.1 z
  ·exact hp'.2.1 z
  ·exact hp'.2.2.1 z
  ·exact absurd z hlt
  ·exact hp'.2.2.2.2 z
theorem a4F (O : σ.ok w rest) (hxl : x.length ≤ 1900) (hn : σ.subs.length ≤ 50) :
  FnX w G none 638 9 130 [.ref σ.S, .str x t] (σ.led rest)
   (fun _ n => a0k (a0a x) ∧ ∃ σ' : StR, n = σ'.led rest ∧ σ'.ok w rest ∧ σ'.S = σ.S ∧ σ'.rs = σ.rs ∧ σ'.nxt = σ.nxt ∧
    if (σ.subs.any fun y => y == a0a x) = true then σ'.subs = σ.subs else Srt σ'.subs (σ.subs ++ [a0a x]))
   (fun C D cx nx => ¬ a0k (a0a x) ∧ XF 64 (σ.led rest) C D cx nx) := by
 revert hxl hn
 revert O; revert σ; revert cl9 G w x t rest; z_head
 intros hxl hn
 have mk9 : a0b := trivial
 unfold StR.led
 (try unfold StR.led at H)
 dsimp only at *
 ktr_unf
 k_steps
 ·exact hret _ _ _ _ ⟨hgood, ⟨S, Sd, Bx, U, _, ob, listOf vs nU, rs, subs, nxt⟩, rfl, O', rfl, rfl, rfl, by rw [if_pos (by assumption)]⟩ (by k_asm) (by k_asm)
 ·(with_reducible rename News h₀ _ _ _ => M9)
  obtain ⟨sd', hsd', M8⟩ : ∃ sd', a0x w.params sd' Bx D nxt ∧ News h₀ L _ ((D, listOf vsS.toArray eS) :: (S, instObj 490 Sd) :: (Sd, sd') :: (Bx, ob) :: (U, listOf vs nU) :: a0d rs rest) := ⟨_, ⟨_, _, _, _, rfl⟩, nc (M9 _ (.head _)) fun p hp => M9 p (tl3 hp)⟩
  refine hret _ _ _ _ ⟨hgood, ⟨S, Sd, Bx, D, sd', ob, listOf vsS.toArray eS, rs, ssS, nxt⟩, rfl, a8N O' (fun p hp => b9v (hAll p (tl2 hp))) hsd' ⟨_, _, rfl, hSS⟩, rfl, rfl, rfl, ?_⟩ (by k_asm) fun p hp => M8 p ?_
  ·have hf : (subs.any fun y => y == a0a x) = false := by assumption
   dsimp only
   rw [if_neg (by rw [hf]; exact c2p)]; exact hSrt
  ·exact a6M (σ := ⟨S, Sd, Bx, U, sd', ob, listOf vs nU, rs, subs, nxt⟩) hp
 ·exact hx _ _ _ _ _ _ _ ⟨hbad, rfl, hsub, hcx⟩ (by assumption)
section
theorem b5N : True := by
 k_with "N4:eval ListComp" => ((k_here; k_dflt (refine c3a (F₀ := by k_asm) (by with_unfolding_all rfl) (by decide) (by rfl) (by decide) (by rfl) ?_)))
 k_with "N4:CompSrcT" => ((k_here; refine a0c ?_))
 k_with "N4:exec Assign cons ListComp" => ((k_here; first | ((with_reducible refine plainObj_wpAny_Assign_Attribute ?_ ?_); rotate_left; with_unfolding_all rfl) | ((with_reducible refine wpAny_Assign_Subscript ?_ ?_); rotate_left; with_unfolding_all rfl)))
 trivial
theorem a3s (O : σ.ok w rest) (hxl : x.length ≤ 1900) (hn : σ.subs.length ≤ 50) :
  FnX w G none 643 9 130 [.ref σ.S, .str x t] (σ.led rest)
   (fun _ n => (σ.subs.any fun y => y == a0a x) = true ∧ ∃ σ' : StR, n = σ'.led rest ∧ σ'.ok w rest ∧ σ'.S = σ.S ∧ σ'.rs = σ.rs ∧ σ'.nxt = σ.nxt ∧ σ'.subs = σ.subs.filter fun y => y != a0a x)
   (fun C D cx nx => (σ.subs.any fun y => y == a0a x) = false ∧ XF 64 (σ.led rest) C D cx nx) := by
 revert hxl hn
 revert O; revert σ; revert cl9 G w x t rest; z_head
 intros hxl hn
 have mk9 : a0b := trivial
 unfold StR.led
 (try unfold StR.led at H)
 dsimp only at *
 ktr_unf
 have hTl : ∀ p ∈ a0d rs rest, p.1 ≠ L' + 1 := fun p hp => b9v (b9N (hAll p (.tail _ (.tail _ (.tail _ (.tail _ hp))))))
 k_steps
 ·unfold a0f
  refine c3b (ax := U) (its := vs) rfl (by k_asm) (by k_asm) (by k_mem) (by rw [b9O, ← c0e, O5.length]; omega) ?_; intro g9
  refine a1I (fun y => y != a0a x) O5 (.inr ⟨_, by k_mem, rfl, _, rfl⟩) ?_ ?_ ?_
  ·revert cm9 y ty I oI C oC D ys m₂ h tk E'; intro hy hC' hx' F9 N9
   k_steps
   exact a0i (by k_asm) (by k_asm) (fun p hp => hp) rfl
  ·revert cm9 y ty I oI C oC D ys m₂ h tk E'; intro hy hC' hx' F9 N9
   k_steps
   exact a0i (by k_asm) (by k_asm) (fun p hp => hp) ⟨_, rfl⟩
  ·intro ys hys
   unfold c1w
   revert cm9 D2 h2 tk2; intro F2 N2 off2
   have off3 := a0T off2
   simp only [LCg.Off1, and_true] at off2
   k_steps
   (with_reducible rename News h₀ _ _ _ => M9)
   obtain ⟨sd', hsd', M8⟩ : ∃ sd', a0x w.params sd' Bx D2 nxt ∧ News h₀ L _ ((D2, c0q ys) :: (S, instObj 490 Sd) :: (Sd, sd') :: (Bx, ob) :: (U, listOf vs nU) :: a0d rs rest) := ⟨_, ⟨_, _, _, _, rfl⟩, nc (M9 _ (.head _)) fun p hp => M9 p (tl2 hp)⟩
   exact hret _ _ _ _ ⟨by assumption, ⟨S, Sd, Bx, D2, sd', ob, c0q ys, rs, subs.filter fun y => y != a0a x, nxt⟩, rfl, a8N O' (fun p hp => off3 p (.tail _ hp)) hsd' ⟨_, _, rfl, hys⟩, rfl, rfl, rfl, rfl⟩ (by k_asm) fun p hp => M8 p (a6M (σ := ⟨S, Sd, Bx, U, sd', ob, listOf vs nU, rs, subs, nxt⟩) hp)
 ·exact hx _ _ _ _ _ _ _ ⟨by assumption, rfl, fun p hp => tl2 hp, .inl rfl⟩ (by assumption)
end
theorem era_N5 : True := trivial
theorem b5F : True := by
 k_with "N5:call ref" => (k_here; ((with_reducible show wpAny _ _ (call (b9t 125) _) _ _ _); k_dflt (refine' Fn.use (a5Q (by omega) (by omega)) ?k1 ?k2 ?k3 ?k4 ?k5 ?k6 ?k7 ?k8 ?_); (case k4 => first | exact a6o (by assumption) (by k_mem) | k_extra "g:k4"); k_extra "g:c1"; k_extra "g:c2"; obtain ⟨rfl, rfl⟩ := hR'; (try clear hR'); k_extra "g:c3"; k_extra "g:c4"))
 k_with "N5:call ref" => (k_here; ((with_reducible show wpAny _ _ (call (b9t 482) _) _ _ _); k_dflt (refine' Fn.use (a1Y O2 (by (try dsimp only); omega)) ?k1 ?k2 ?k3 ?k4 ?k5 ?k6 ?k7 ?k8 ?_); (case k4 => k_extra "g:k4"); k_extra "g:c1"; k_extra "g:c2"; obtain ⟨D', vs', e', ss', rfl, rfl, hS', hSrt', lD'⟩ := hR'; (try clear hR'); k_extra "g:c3"; k_extra "g:c4"))
 k_with "N5:call ref" => (k_here; ((with_reducible show wpAny _ _ (call (b9t 532) _) _ _ _); k_dflt (refine' FnX.use (a1u (by omega)) ?k1 ?k2 ?k3 ?k4 ?k5 ?k6 ?k7 ?k8 ?_ ?_); (case k4 => k_extra "g:k4"); k_extra "g:c1"; k_whole; rotate_left; (k_extra "g:x2"; obtain ⟨hbad, rfl, hsub, hcx⟩ := hX'; (try clear hX'); k_extra "g:x3"); rotate_right; (k_extra "g:c2"; obtain ⟨hgood, t', rfl, rfl⟩ := hR'; (try clear hR'); k_extra "g:c3"; k_extra "g:c4")))
 k_with "N5:call ref" => (k_here; ((with_reducible show wpAny _ _ (call (b9t 553) _) _ _ _); k_dflt (refine' FnX.use (a1J O2) ?k1 ?k2 ?k3 ?k4 ?k5 ?k6 ?k7 ?k8 ?_ ?_); (case k4 => k_extra "g:k4"); k_extra "g:c1"; k_whole; rotate_left; (k_extra "g:x2"; obtain ⟨hhas, rfl, hsub, hcx⟩ := hX'; (try clear hX'); k_extra "g:x3"); rotate_right; (k_extra "g:c2"; obtain ⟨hhas, rfl, rfl⟩ := hR'; (try clear hR'); k_extra "g:c3"; k_extra "g:c4")))
 trivial
theorem a8b (F : Fr h₀ L s.heap m) (N : News h₀ L s.heap news) (hz : vs.length ≤ 1000) (h : ∀ l h', Fr h₀ L h' m → News h₀ L h' ((l, listOf vs.toArray 0) :: news) → (∀ q ∈ news, q.1 < l) → Q (.ref l) { s with heap := h' }) : wpAny M A (newList vs) Q E s :=
 newList_N F N (fun h' F' N' => h _ h' F' N' fun q hq => b9x (N q hq).1) (by rw [b9O]; omega)
theorem b4L : True := by
 k_with "N5:newList" => ((k_here; k_dflt (refine' a8b ?k1 ?k2 ?k3 ?_; (case k1 => k_asm); (case k2 => k_asm); (case k3 => exact c1V rfl)); intro lN h' F' N' l1; (try k_lt l1); (try k_sweep)))
 k_with "N5:call builtin:list.append" => ((k_here; k_dflt (refine' append_K ?k1 ?k2 ?k3 ?_ ?z; (case k1 => k_asm); (case k2 => k_asm); (case k3 => k_upd); (case z => (rw [b9O, b9H]; omega)); k_whole); intro h' F' N'; (try k_sweep)))
 k_with "N5:exec For Tuple Name cons nil" => ((k_here; (rename Fr _ _ _ _ => lF'); (with_unfolding_all refine' c1O lF' ?_; k_whole)))
 k_with "N5:pyIter ref" => ((k_here; refine a0c ?_))
 k_with "N5:isTrue BoolOp" => ((k_here; (fail_if_success (guard_hyp hGo9 : a0b)); refine a0c ?_))
 trivial
noncomputable def b2H (h₀ : Heap) (L : Addr) (m : b9p → Option Value) (n : Led) (s : Shared) (c b : Bool) (s' : Shared) : Prop := b = c ∧ ∃ h' tk, s' = { s with heap := h', toks := tk } ∧ Fr h₀ L h' m ∧ News h₀ L h' n
theorem b2S {h₀ h' : Heap} {L : Addr} {m : b9p → Option Value} {n : Led} {s : Shared} {tk : Nat} {b c : Bool} (e : b = c) (F : Fr h₀ L h' m) (N : News h₀ L h' n) : b2H h₀ L m n s c b { s with heap := h', toks := tk } := ⟨e, h', tk, rfl, F, N⟩
theorem a8h {n : Led} {x : Sem Bool} (c : Bool) {Q : Bool → Shared → Prop} (F : Fr h₀ L s.heap m) (N : News h₀ L s.heap n) (h : wpAny M A x (b2H h₀ L m n s c) E s) (k : ∀ h' tk', Fr h₀ L h' m → News h₀ L h' n → Q c { s with heap := h', toks := tk' }) : wpAny M A x Q E s :=
 b9L h (fun b s' ⟨e, h', tk, e2, F', N'⟩ => by subst e e2; exact k h' tk F' N') fun _ _ h => h
noncomputable def a0g (old new x : b9p) : b9p := new ++ c0d x (some ((old.length : Nat) : Int)) none
noncomputable def a0D (old x : b9p) : Bool := x == old || c2u x (old ++ b9q "/")
noncomputable def a2I (old new x : b9p) : Dat := .tuple [.str x, .str (a0g old new x)]
theorem b3S (h : (x == old) = true) : true = a0D old x := by unfold a0D; rw [h]; rfl
theorem b5K {b : Bool} (h : (x == old) = false) (h2 : c2u x (old ++ b9q "/") = b) : b = a0D old x := by unfold a0D; rw [h, h2]; rfl
noncomputable def b3i (P : Addr) (base : Led) (old new : b9p) (ss : List b9p) (m₀ : b9p → Option Value) (i : Nat) (m : b9p → Option Value) (n : Led) : Prop :=
 ∃ (ys : List Value) (c : Nat) (add : Led), n = (P, listOf ys.toArray c) :: (add ++ base) ∧ (∀ p ∈ add ++ base, p.1 ≠ P) ∧ (∀ p ∈ add, ∀ q ∈ base, @b9w Nat _ q.1 p.1) ∧ DatAll add ys (((ss.take i).filter (a0D old)).map (a2I old new)) ∧ ys.length ≤ i ∧ ∀ y : b9p, y ≠ "name" → m y = m₀ y
theorem a8E {v : Value} (h : ∀ y : b9p, y ≠ x → m y = m₀ y) : (fun y : b9p => if y = x then some v else m y) = fun y : b9p => if y = x then some v else m₀ y := by
 funext y
 by_cases e : y = x
 ·simp only [if_pos e]
 ·simp only [if_neg e]; exact h y e
theorem b1P {old new x : b9p} {ss : List b9p} {i : Nat} {ys : List Value} {add : Led} {T : Addr} {tx tg : Tok} {n : Nat} {g : b9p} (h : DatAll add ys (((ss.take i).filter (a0D old)).map (a2I old new))) (hx : ss[i]? = some x) (hs : a0D old x = true) (hg : g = a0g old new x) :
  DatAll ((T, ({ cls := .type "tuple", data := .seq #[.str x tx, .str g tg] n } : Obj)) :: add) (ys ++ [.ref T]) (((ss.take (i + 1)).filter (a0D old)).map (a2I old new)) := by
 rw [c0H, hx, c0S, c1t, show c1u (a0D old) [x] = [x] from by simp [hs], c0D]
 refine (h.mono fun p hp => .tail _ hp).append (.one ?_)
 subst hg
 exact .tuple (vs := [.str x tx, .str (a0g old new x) tg]) (.head _) (.cons (.str _ _) (.cons (.str _ _) .nil))
theorem b3b {add : Led} (h : DatAll add ys (((ss.take i).filter (a0D old)).map (a2I old new))) (hx : ss[i]? = some x) (hs : a0D old x = false) :
  DatAll add ys (((ss.take (i + 1)).filter (a0D old)).map (a2I old new)) := by
 rw [c0H, hx, c0S, c1t, show c1u (a0D old) [x] = [] from by simp [hs], c0k]
 exact h
theorem a9W {h₀ h' : Heap} {L P I T : Addr} {oI : Obj} {base tl add : Led} {old new x g : b9p} {ss : List b9p} {m₀ m' : b9p → Option Value} {i c n : Nat} {ys : List Value} {tx tg : Tok} {s₁ : Shared} {tk : Nat}
  (F : Fr h₀ L h' m') (N : News h₀ L h' ((T, ({ cls := .type "tuple", data := .seq #[.str x tx, .str g tg] n } : Obj)) :: (I, oI) :: (P, listOf (ys.toArray.push (.ref T)) (c + 1)) :: tl)) (htl : add ++ base = tl) (hP : ∀ p ∈ tl, p.1 ≠ P) (hPI : P ≠ I) (offI : ∀ p ∈ tl, p.1 ≠ I)
  (hadd : ∀ p ∈ add, ∀ q ∈ base, @b9w Nat _ q.1 p.1) (hT : @b9w Nat _ I T ∧ @b9w Nat _ P T ∧ ∀ q ∈ tl, @b9w Nat _ q.1 T) (hdat : DatAll add ys (((ss.take i).filter (a0D old)).map (a2I old new))) (hyl : ys.length ≤ i) (hx : ss[i]? = some x) (hs : a0D old x = true) (hg : g = a0g old new x)
  (hm : ∀ y : b9p, y ≠ "name" → m' y = m₀ y) : a2w h₀ L (b3i P base old new ss m₀ (i + 1)) I oI s₁ { s₁ with heap := h', toks := tk } := by
 subst htl
 refine a0V (news' := (P, listOf (ys ++ [b9t T]).toArray (c + 1)) :: (((T, ({ cls := .type "tuple", data := .seq #[.str x tx, .str g tg] n } : Obj)) :: add) ++ base)) F N ?_ ?_ ⟨ys ++ [.ref T], c + 1, (T, _) :: add, rfl, ?_, ?_, b1P hdat hx hs hg, by simp; omega, hm⟩
 ·rw [← List.push_toArray]
  intro p hp
  simp only [b9r, c0b] at hp ⊢
  rcases hp with h | h | h | h
  ·exact .inr (.inl h)
  ·exact .inr (.inr (.inl h))
  ·exact .inl h
  ·exact .inr (.inr (.inr h))
 ·intro p hp
  simp only [b9r, c0b] at hp
  rcases hp with h | h | h
  ·rw [h]; exact hPI
  ·rw [h]; exact b9F hT.1
  ·exact offI p h
 ·intro p hp
  simp only [b9r, c0b] at hp
  rcases hp with h | h
  ·rw [h]; exact b9F hT.2.1
  ·exact hP p h
 ·intro p hp q hq
  rcases b9r.mp hp with h | h
  ·rw [h]; exact hT.2.2 q (b9s _ hq)
  ·exact hadd p h q hq
theorem StR.ok.push_off {add : Led} (O : σ.ok w rest) (N : News h₀ L h (add ++ σ.led rest)) (f : ∀ p ∈ add, ∀ q ∈ σ.led rest, q.1 ≠ p.1) :
  σ.ok w (add ++ rest) ∧ News h₀ L h (σ.led (add ++ rest)) ∧ ∀ p ∈ add, p ∈ a0d σ.rs (add ++ rest) :=
 ⟨⟨O.sd, O.ob, O.lo, O.ou, O.box, O.nd, fun p hp => (b9y.mp hp).elim (fun hp e => by
  obtain ⟨q, hq, e'⟩ := StR.mem_adr e rest
  exact f p hp q hq e') (O.ap p)⟩, fun p hp => N p (StR.led_app.mp hp), fun p hp => b9s _ (b9G _ hp)⟩
theorem a0Z {n : Led} {v : Value} (h : DatAll n vs ds) (e : vs[i]? = some v) : ∃ d, ds[i]? = some d ∧ DatIn n v d := by
 induction vs generalizing ds i with
 | nil => exact nomatch (show (none : Option Value) = some v from e)
 | cons a vs ih => cases h with
  | cons h1 h2 => cases i with
   | zero => exact ⟨_, rfl, b9U e ▸ h1⟩
   | succ i => have q := ih (i := i) h2 e; exact q
theorem a2c {n : Led} (h : DatAll n vs ds) : vs.length = ds.length := by
 induction vs generalizing ds with
 | nil => cases h; rfl
 | cons a vs ih => cases h with
  | cons _ h => exact congrArg (· + 1) (ih h)
theorem a1s {n : Led} {v : Value} (h : DatIn n v (a2I old new x)) : ∃ T k tx tg, v = .ref T ∧ (T, ({ cls := .type "tuple", data := .seq #[.str x tx, .str (a0g old new x) tg] k } : Obj)) ∈ n := by
 revert cl9 x old new n v
 intros h
 unfold a2I at h
 cases h with
 | tuple hm ha =>
  cases ha with
  | cons h1 ha =>
   cases ha with
   | cons h2 ha =>
    cases ha
    cases h1
    cases h2
    exact ⟨_, _, _, _, rfl, hm⟩
theorem a9K (h : ∀ y : b9p, y ≠ x → m y = m₀ y) : m = fun y : b9p => if y = x then m x else m₀ y := by
 funext y
 by_cases e : y = x
 ·subst e; rw [if_pos rfl]
 ·rw [if_neg e]; exact h y e
noncomputable def a2N (m₀ : b9p → Option Value) (a b : Option Value) : b9p → Option Value := fun y => if y = "goal" then b else if y = "name" then a else m₀ y
noncomputable def a0C (old : b9p) (ss : List b9p) : List b9p := ss.filter (a0D old)
noncomputable def b9c (rs : List BoxR) (old new : b9p) (xs : List b9p) (n₀ : Led) (m₀ : b9p → Option Value) (i : Nat) (m : b9p → Option Value) (n : Led) : Prop :=
 n = n₀ ∧ (∃ a b, m = a2N m₀ a b) ∧ ∀ x ∈ xs.take i, a0u rs (a0g old new x) = false
theorem a8n (h : ∀ x ∈ xs.take i, a0u rs (a0g old new x) = false) (hx : xs[i]? = some x) (hh : a0u rs (a0g old new x) = false) : ∀ x ∈ xs.take (i + 1), a0u rs (a0g old new x) = false := by
 intro z hz
 rw [c0H, hx, c0S] at hz
 rcases b9y.mp hz with hz | hz
 ·exact h z hz
 ·rw [b9C.mp hz]; exact hh
theorem a5o {a : Option Value} : (fun y : b9p => if y = "name" then a else m₀ y) = a2N m₀ a (m₀ "goal") := by
 funext y
 unfold a2N
 by_cases e : y = "goal"
 ·subst e; rw [if_pos rfl, if_neg (by decide)]
 ·rw [if_neg e]
theorem a5H {a b a' : Option Value} : (fun y : b9p => if y = "goal" then b' else if y = "name" then a' else if y = "goal" then b else if y = "name" then a else m₀ y) = a2N m₀ a' b' := by
 funext y
 unfold a2N
 by_cases e : y = "goal"
 ·simp only [if_pos e]
 ·by_cases e2 : y = "name"
  ·simp only [if_neg e, if_pos e2]
  ·simp only [if_neg e, if_neg e2]
theorem a9H {lN D' : Addr} {oL oD : Obj} {add sl : Led} (hP : ∀ p ∈ add ++ ((D', oD) :: sl), p.1 ≠ lN) (hadd : ∀ p ∈ add, ∀ q ∈ (D', oD) :: sl, @b9w Nat _ q.1 p.1) (hD : ∀ q ∈ sl, @b9w Nat _ q.1 D') :
  ∀ p ∈ (lN, oL) :: (add ++ [(D', oD)]), ∀ q ∈ sl, q.1 ≠ p.1 := by
 intro p hp q hq
 rcases b9r.mp hp with h | h
 ·rw [h]; exact hP q (b9s _ (.tail _ hq))
 ·rcases b9y.mp h with h | h
  ·exact b9v (hadd p h q (.tail _ hq))
  ·rw [b9C.mp h]; exact b9v (hD q hq)
theorem a2q (O : σ.ok w rest) (hn : σ.rs.length ≤ 50) (ho : old.length ≤ 800) (hw : new.length ≤ 800) (hl : ∀ r ∈ σ.rs, r.x.length ≤ 800) (hg : ∀ r ∈ σ.rs, a0D old r.x = true → a0k (a0a (a0g old new r.x)) ∧ a0a (a0g old new r.x) = a0g old new r.x) :
  FnX w G none 586 9 130 [.ref σ.S, .str old t, .str new u] (σ.led rest)
   (fun v n => ∃ ss add, Srt ss (σ.rs.map (·.x)) ∧ (∀ x ∈ a0C old ss, a0u σ.rs (a0g old new x) = false) ∧ n = add ++ σ.led rest ∧ (∀ p ∈ add, ∀ q ∈ σ.led rest, q.1 ≠ p.1) ∧ DatIn add v (.list ((a0C old ss).map (a2I old new))))
   (fun C D cx nx => (∃ r ∈ σ.rs, a0D old r.x = true ∧ a0u σ.rs (a0g old new r.x) = true) ∧ XF 64 (σ.led rest) C D cx nx) := by
 revert hn ho hw hl hg
 revert O; revert σ; revert cl9 G w old new u t rest; z_head
 intros hn ho hw hl hg
 have mk9 : a0b := trivial
 unfold StR.led
 (try unfold StR.led at H)
 dsimp only at *
 ktr_unf
 clear O2
 k_steps
 (with_reducible rename News _ _ _ ((_, listOf _ _) :: _) => N8)
 have hAl := hAll
 obtain ⟨O2, N7, hm⟩ := StR.ok.push (add := [_]) O' N8 (a5b hAll)
 have hmN := hm _ (.head _)
 clear N8
 unfold StR.led at N7
 dsimp only at N7
 k_steps
 have N6 : News _ _ _ ((lN, listOf #[] 0) :: ([] ++ ((D', listOf vs'.toArray e') :: StR.led ⟨S, Sd, Bx, U, _, ob, listOf vs nU, rs, subs, nxt⟩ rest))) := nc (N' _ (by k_mem)) (nc (N' _ (.head _)) fun p hp => N' p (.tail _ (StR.led_mono (σ := ⟨S, Sd, Bx, U, _, ob, listOf vs nU, rs, subs, nxt⟩) (fun q hq => b9s _ hq) hp)))
 unfold a0f
 have hlen : vs'.length = rs.length := by rw [hS'.length, hSrt'.1.length_eq, b9z]
 refine a3R (x := "name") (ax := D') (its := vs'.toArray) (nn := e') (b3i lN _ old new ss' _) (fun i m n h => ?_) rfl (by k_asm) N6 ⟨[], 0, [], rfl, ?_, (fun p hp => nomatch hp), .nil, c0m _, fun y hy => rfl⟩ ?_ ?_
 ·obtain ⟨ys, c, add, rfl, _⟩ := h
  exact .tail _ (b9s _ (.head _))
 ·intro p hp
  rw [c0c] at hp
  rcases b9r.mp hp with h | h
  ·rw [h]; exact b9F (show @b9w Nat _ lN D' from lD' (lN, listOf #[] 0) (tl4 hmN))
  ·exact b9v (hAl p h)
 ·revert cm9 i v m₁ news₁ I oI h tk; intro hi hv hR9; obtain ⟨ys, c, add, rfl, hP, hadd, hdat, hyl, hm⟩ := hR9; intro offI F9 N9
  rw [a8E hm] at F9
  obtain ⟨x, tx, rfl, hxs⟩ := a0o hS' (by simpa using hv)
  obtain ⟨r, hr, hrx⟩ := b9I.mp (hSrt'.1.mem_iff.mp (b9Z hxs))
  dsimp only at hr
  have hxl := hl r hr
  have hgr := hg r hr
  rw [hrx] at hxl hgr
  have hsl := Txt.slice_le x (some ((old.length : Nat) : Int)) none
  have hgl := c3u new (c0d x (some ((old.length : Nat) : Int)) none)
  generalize htl : add ++ _ = tl at *
  have hIl := neN (offI _ (.head _))
  dsimp only at hIl
  have hyb : ys.length ≤ 1000 := by rw [b9H] at hi; omega
  have offI' : ∀ p ∈ tl, p.1 ≠ I := fun p hp => offI p (.tail _ hp)
  k_steps
  unfold a0f
  refine a8h (a0D old x) F9 (by assumption) ?_ ?_
  ·have hGo9 : a0b := trivial
   k_steps
   all_goals first | exact b2S (b3S (by assumption)) (by k_asm) (by k_asm) | exact b2S (b5K (by assumption) (by assumption)) (by k_asm) (by k_asm)
  revert cm9 h' tk'; intro F' N'
  (try k_sweep)
  k_steps
  ·exact a9W (by k_asm) (by assumption) htl hP hIl offI' hadd ⟨hAll _ (.head _), hAll _ mt1, fun q hq => hAll q (tl2 hq)⟩ hdat hyl hxs (by assumption) (hgr (by assumption)).2 (fun y hy => by simp only [if_neg hy])
  ·exact absurd (hgr (by assumption)).1 hbad
  ·exact a0V (by k_asm) (by assumption) (fun p hp => hp) offI ⟨ys, c, add, by rw [htl], by rw [htl]; exact hP, hadd, b3b hdat hxs (by assumption), by omega, fun y hy => by simp only [if_neg hy]⟩
 ·revert cm9 m₁ news₁ h tk; intro hR9; obtain ⟨ys, c, add, rfl, hP, hadd, hdat, hyl, hm⟩ := hR9; intro F9 N9
  rw [b9H, hS'.length, List.take_length] at hdat
  rw [a9K hm] at F9
  generalize m₁ "name" = vn at F9
  clear hm
  have hoff2 := a9H (oL := listOf ys.toArray c) (oD := listOf vs'.toArray e') hP hadd fun q hq => lD' q (StR.led_mono (σ := ⟨S, Sd, Bx, U, _, ob, listOf vs nU, rs, subs, nxt⟩) (fun q hq => b9s _ hq) hq)
  obtain ⟨O2, N4, hm⟩ := StR.ok.push_off (add := (lN, listOf ys.toArray c) :: (add ++ [(D', listOf vs'.toArray e')])) O' (fun p hp => N9 p (by simp only [c0b, c0M, c0c, b9r, b9y] at hp ⊢; exact hp)) hoff2
  clear N9
  unfold StR.led at N4
  dsimp only at N4
  k_steps
  rw [a5o] at lF'
  unfold a0f
  refine a1Z (ax := lN) (its := ys.toArray) (nn := c) (b9c rs old new (a0C old ss') _ _) (fun i m n h => h.1 ▸ tl4 (hm _ (.head _))) rfl lF' N4 ⟨rfl, ⟨_, _, rfl⟩, fun x hx => nomatch hx⟩ ?_ ?_
  ·revert cm9 i v m₁ news₁ I oI h tk; intro hi hv hR9; obtain ⟨rfl, ⟨va, vb, rfl⟩, hnew⟩ := hR9; intro offI F7 N7
   obtain ⟨d, hd, hdv⟩ := a0Z hdat (by simpa using hv)
   rw [c0s, c0O] at hd
   obtain ⟨x, hxs, rfl⟩ := hd
   obtain ⟨T, kT, tx, tg, rfl, hT⟩ := a1s hdv
   unfold a2N at F7
   have hTm := hm _ (.tail _ (b9G _ hT))
   have hTt : IsTup h T _ := c0p N7 (tl5 hTm)
   obtain ⟨O2, N6, hmI⟩ := StR.ok.push_off (add := [(I, oI)]) O2 N7 (fun p hp q hq => by rw [b9C.mp hp]; exact offI q hq (I, oI) (.head _))
   unfold StR.led at N6
   dsimp only at N6
   k_steps
   ·exact a0l (by k_asm) (by assumption) (fun p hp => StR.led_app (σ := ⟨S, Sd, Bx, U, _, ob, listOf vs nU, rs, subs, nxt⟩) (add := [(I, oI)]).mpr hp) offI ⟨rfl, ⟨_, _, a5H⟩, a8n hnew hxs hhas⟩
   ·refine hx _ _ _ _ _ _ _ ⟨?_, rfl, fun p hp => hsub p (StR.led_mono (σ := ⟨S, Sd, Bx, U, _, ob, listOf vs nU, rs, subs, nxt⟩) (fun q hq => b9s _ (b9s _ hq)) hp), hcx⟩ (by assumption)
    obtain ⟨hx1, hx2⟩ := List.mem_filter.mp (b9Z hxs)
    obtain ⟨r, hr, hrx⟩ := b9I.mp (hSrt'.1.mem_iff.mp hx1)
    exact ⟨r, hr, by rw [hrx]; exact hx2, by rw [hrx]; exact hhas⟩
  ·revert cm9 m₁ news₁ h tk; intro hR9; obtain ⟨rfl, ⟨va, vb, rfl⟩, hnew⟩ := hR9; intro F7 N7
   unfold a2N at F7
   k_steps
   refine hret _ _ _ _ ⟨ss', _, hSrt', fun x hx => hnew x ?_, rfl, hoff2, .list (.head _) (hdat.mono fun p hp => .tail _ (b9G _ hp))⟩ (by k_asm) fun p hp => (by assumption : News h₀ L _ _) p (StR.led_app (σ := ⟨S, Sd, Bx, U, _, ob, listOf vs nU, rs, subs, nxt⟩).mpr hp)
   rw [c0A (by rw [b9H, a2c hdat, b9z]; exact b9K _)]
   exact hx
noncomputable def a0W (ts : List BoxR) : Led := ts.flatMap BoxR.led
noncomputable def a2y (ts : List BoxR) : List Addr := (a0W ts).map (·.1)
structure Out (w : World) (σ : StR) (ts : List BoxR) (rest : Led) : Prop where
 ok : σ.ok w (a0W ts ++ rest)
 nd : (a2y ts).Nodup
 ap : ∀ p ∈ rest, p.1 ∉ a2y ts
 bk : ∀ r ∈ ts, r.ok w.params
theorem Out.zero (O : σ.ok w rest) : Out w σ [] rest := ⟨O, List.nodup_nil, fun _ _ h => (nomatch h), fun _ h => (nomatch h)⟩
theorem a7T (hn : (rs.map (·.x)).Nodup) (h : r ∈ rs) : rs.Perm (r :: rs.filter fun q => decide (q.x ≠ r.x)) := by
 revert cl9 rs r
 intros hn h
 induction rs with
 | nil => cases h
 | cons q l ih =>
  rw [c0B, c0Y] at hn
  by_cases e : q.x = r.x
  ·rcases b9r.mp h with rfl | h
   ·rw [List.filter_cons_of_neg (by simp), (List.filter_eq_self.mpr fun a ha => decide_eq_true fun e => hn.1 (b9I.mpr ⟨a, ha, e⟩) : l.filter (fun s => decide (s.x ≠ r.x)) = l)]
   ·exact absurd (b9I.mpr ⟨r, h, rfl⟩) (e ▸ hn.1)
  ·rcases b9r.mp h with rfl | h
   ·exact absurd rfl e
   ·rw [List.filter_cons_of_pos (by simp [e])]
    exact ((ih hn.2 h).cons q).trans (List.Perm.swap _ _ _)
theorem a8v {a b : List BoxR} (h : a.Perm b) : (a2y a).Perm (a2y b) := (h.flatMap_right BoxR.led).map _
theorem a3a {l : List BoxR} : a2y (r :: l) = a2y [r] ++ a2y l := by
 unfold a2y a0W
 rw [c1a, c1a, c2Z, c0k, c0D]
theorem a1O {a b : List BoxR} : a2y (a ++ b) = a2y a ++ a2y b := by
 unfold a2y a0W
 rw [c2c, c0D]
theorem a3k (σ : StR) : σ.adr = [σ.S, σ.Sd, σ.B, σ.U] ++ a2y σ.rs := rfl
theorem a2A {a : Addr} (h : a ∈ a2y ts) : ∃ p ∈ a0W ts, p.1 = a := by
 obtain ⟨p, hp, e⟩ := b9I.mp h
 exact ⟨p, hp, e⟩
theorem a3q (h : p ∈ a0W ts) : p.1 ∈ a2y ts := b9I.mpr ⟨p, h, rfl⟩
theorem a4i (h : r ∈ rs) : ∀ a ∈ a2y [r], a ∈ a2y rs := by
 intro a ha
 obtain ⟨p, hp, e⟩ := a2A ha
 have hp' : p ∈ r.led := by simpa [a0W] using hp
 exact e ▸ a3q (List.mem_flatMap.mpr ⟨r, h, hp'⟩)
theorem b0j (O : Out w σ ts rest) (hr : r ∈ σ.rs) (hob : ob'.IsDictOf (kS w) (without (a0t σ.rs) r.x)) :
  Out w ⟨σ.S, σ.Sd, σ.B, σ.U, σ.sd, ob', σ.ou, σ.rs.filter fun q => decide (q.x ≠ r.x), σ.subs, σ.nxt⟩ (ts ++ [r]) rest := by
 revert cl9 w ob' rest ts r σ
 intros O hr hob
 have hnm := O.ok.names
 have P := a8v (a7T hnm hr)
 rw [a3a] at P
 have hnd := O.ok.nd
 rw [a3k, c1g] at hnd
 obtain ⟨_, hn1, hd1⟩ := hnd
 have hn2 := P.nodup_iff.mp hn1
 rw [c1g] at hn2
 obtain ⟨hn3, _, hd2⟩ := hn2
 have K := a4s (rs' := σ.rs.filter fun q => decide (q.x ≠ r.x)) (ob' := ob') O.ok List.filter_sublist (by rw [← a2S]; exact hob)
 refine ⟨⟨K.sd, K.ob, K.lo, K.ou, K.box, K.nd, fun p hp => ?_⟩, ?_, fun p hp => ?_, fun q hq => ?_⟩
 ·have hp' : p ∈ a0W ts ++ rest ∨ p ∈ a0W [r] := by
   unfold a0W at hp ⊢
   rw [c2c] at hp
   simp only [b9y] at hp ⊢
   rcases hp with (h | h) | h
   ·exact .inl (.inl h)
   ·exact .inr h
   ·exact .inl (.inr h)
  rcases hp' with h | h
  ·exact K.ap p h
  ·have ha := a3q h
   rw [a3k]
   intro hm
   rcases b9y.mp hm with hm | hm
   ·exact hd1 _ hm _ (a4i hr _ ha) rfl
   ·exact hd2 _ ha _ hm rfl
 ·rw [a1O]
  refine c1g.mpr ⟨O.nd, hn3, fun a ha b hb e => ?_⟩
  obtain ⟨p, hp, rfl⟩ := a2A ha
  refine O.ok.ap p (b9G _ hp) ?_
  rw [a3k, e]
  exact b9s _ (a4i hr _ hb)
 ·rw [a1O]
  intro hm
  rcases b9y.mp hm with hm | hm
  ·exact O.ap p hp hm
  ·refine O.ok.ap p (b9s _ hp) ?_
   rw [a3k]
   exact b9s _ (a4i hr _ hm)
 ·rcases b9y.mp hq with hq | hq
  ·exact O.bk q hq
  ·rw [b9C.mp hq]; exact O.ok.box r hr
theorem b0A (hr : r ∈ σ.rs) (h : p ∈ StR.led ⟨σ.S, σ.Sd, σ.B, σ.U, σ.sd, ob', σ.ou, σ.rs.filter fun q => decide (q.x ≠ r.x), σ.subs, σ.nxt⟩ (a0W (ts ++ [r]) ++ rest)) :
  p ∈ (σ.S, instObj 490 σ.Sd) :: (σ.Sd, σ.sd) :: (σ.B, ob') :: (σ.U, σ.ou) :: a0d σ.rs (a0W ts ++ rest) := by
 revert cl9 p ob' rest ts r σ
 intros hr h
 have mk9 : a0b := trivial
 refine a6v h ?_; intro q hq
 unfold a0d a0W at hq ⊢
 rw [c2c] at hq
 simp only [b9y, c1a, c2Z, c0k] at hq ⊢
 rcases hq with h | (h | h) | h
 ·obtain ⟨t, ht, hp⟩ := List.mem_flatMap.mp h
  exact .inl (List.mem_flatMap.mpr ⟨t, (List.mem_filter.mp ht).1, hp⟩)
 ·exact .inr (.inl h)
 ·exact .inl (List.mem_flatMap.mpr ⟨r, hr, h⟩)
 ·exact .inr (.inr h)
theorem b2l {t : BoxR} (O : Out w σ (t :: ts) rest) (ht : t'.b = t.b ∧ t'.d = t.d ∧ t'.l = t.l ∧ t'.g = t.g) (hk : t'.ok w.params) (hob : ob'.IsDictOf (kS w) (a0t (σ.rs ++ [t']))) :
  Out w ⟨σ.S, σ.Sd, σ.B, σ.U, σ.sd, ob', σ.ou, σ.rs ++ [t'], σ.subs, σ.nxt⟩ ts rest := by
 revert cl9 w ob' rest ts t' σ t
 intros O ht hk hob
 have ha : a2y [t'] = a2y [t] := by
  obtain ⟨e1, e2, e3, e4⟩ := ht
  simp [a2y, a0W, BoxR.led, e1, e2, e3, e4]
 have hnd := O.nd
 have hap := O.ap
 rw [a3a, ← ha] at hnd hap
 rw [c1g] at hnd
 obtain ⟨hn1, hn2, hd⟩ := hnd
 have off : ∀ a ∈ a2y [t'], a ∉ σ.adr := fun a h => by
  rw [ha] at h
  obtain ⟨p, hp, rfl⟩ := a2A h
  refine O.ok.ap p (b9G _ ?_)
  have hp' : p ∈ t.led := by simpa [a0W] using hp
  exact List.mem_flatMap.mpr ⟨t, .head _, hp'⟩
 have e : StR.adr ⟨σ.S, σ.Sd, σ.B, σ.U, σ.sd, ob', σ.ou, σ.rs ++ [t'], σ.subs, σ.nxt⟩ = σ.adr ++ a2y [t'] := by
  rw [a3k, a3k, c0M, ← a1O]
 refine ⟨⟨O.ok.sd, hob, O.ok.lo, O.ok.ou, fun q hq => ?_, ?_, fun p hp => ?_⟩, hn2, fun p hp hm => hap p hp (b9s _ hm), fun q hq => O.bk q (.tail _ hq)⟩
 ·rcases b9y.mp hq with hq | hq
  ·exact O.ok.box q hq
  ·rw [b9C.mp hq]; exact hk
 ·rw [e]
  exact c1g.mpr ⟨O.ok.nd, hn1, fun a h b hb e => off b hb (e ▸ h)⟩
 ·rw [e]
  intro hm
  rcases b9y.mp hm with hm | hm
  ·refine O.ok.ap p ?_ hm
   rcases b9y.mp hp with hp | hp
   ·exact b9G _ (by unfold a0W at hp ⊢; rw [c1a]; exact b9s _ hp)
   ·exact b9s _ hp
  ·rcases b9y.mp hp with hp | hp
   ·exact hd _ hm _ (a3q hp) rfl
   ·exact hap p hp (b9G _ hm)
theorem b2y {t : BoxR} (O : Out w σ (t :: ts) rest) : ∀ p ∈ (t.g, a3h) :: (t.l, a3h) :: (t.b, instObj 360 t.d) :: σ.led (a0W ts ++ rest), p.1 ≠ t.d := by
 revert cl9 w rest ts σ t
 intros O
 have mk9 : a0b := trivial
 have hnd := O.nd
 have hap := O.ap
 rw [a3a] at hnd hap
 rw [c1g] at hnd
 obtain ⟨hn1, hn2, hd⟩ := hnd
 have hin : t.d ∈ a2y [t] := by simp [a2y, a0W, BoxR.led]
 have hn3 : [t.g, t.l, t.b, t.d].Nodup := hn1
 simp only [c0Y, b9r, c0f, or_false, not_or] at hn3
 have hS : ∀ a ∈ σ.adr, a ≠ t.d := fun a h e => by
  refine O.ok.ap (t.d, t.od) (b9G _ (List.mem_flatMap.mpr ⟨t, .head _, by simp [BoxR.led]⟩)) ?_
  exact e ▸ h
 intro p hp
 rcases b9r.mp hp with rfl | hp
 ·exact hn3.1.2.2
 rcases b9r.mp hp with rfl | hp
 ·exact hn3.2.1.2
 rcases b9r.mp hp with rfl | hp
 ·exact hn3.2.2.1
 unfold StR.led a0d at hp
 simp only [b9r, b9y] at hp
 rcases hp with rfl | rfl | rfl | rfl | h | h | h
 ·exact hS _ (by simp [StR.adr])
 ·exact hS _ (by simp [StR.adr])
 ·exact hS _ (by simp [StR.adr])
 ·exact hS _ (by simp [StR.adr])
 ·exact hS _ (by rw [a3k]; exact b9s _ (a3q h))
 ·exact fun e => hd _ hin _ (a3q h) e.symm
 ·exact fun e => hap p h (b9G _ (e ▸ hin))
theorem era_N7 : True := trivial
noncomputable def BoxIn (P : Params) (r : BoxR) (news : Led) : Prop := r.ok P ∧ ∀ p ∈ r.led, p ∈ news
theorem BoxIn.mono {P : Params} {n n' : Led} (h : BoxIn P r n) (k : ∀ p ∈ n, p ∈ n') : BoxIn P r n' := ⟨h.1, fun p hp => k p (h.2 p hp)⟩
theorem a9p {P : Params} {b d l g : Addr} {k : Int} (B : BoxIn P ⟨b, d, l, g, od, x, k⟩ news) (N : News h₀ L h news) : News h₀ L h ((b, instObj 360 d) :: (d, od) :: (l, a3h) :: news) :=
 nc (N _ (B.2 _ (by simp [BoxR.led]))) (nc (N _ (B.2 _ (by simp [BoxR.led]))) (nc (N _ (B.2 _ (by simp [BoxR.led]))) N))
theorem a8P {b d l g : Addr} {k : Int} (B : BoxIn w.params ⟨b, d, l, g, od, x, k⟩ news) :
  Fn w G none 352 2 30 [.ref b] news (fun v n => ∃ D, v = .ref D ∧ n = (D, a3h) :: news) := by
 revert cl9 G w x od news b d l g k
 intros B
 have mk9 : a0b := trivial
 have B1 := B
 obtain ⟨⟨a1, a2, a3, a4, a5, a6, a7, x1, k1, n1, t1, f1, e⟩, _⟩ := B
 dsimp only at e
 subst e
 ktr_unf
 (with_reducible rename News _ _ _ news => N8)
 have N9 := a9p B1 N8
 clear N8
 k_steps
 (with_reducible rename News h₀ _ _ _ => M9)
 exact hret _ _ _ _ ⟨_, rfl, rfl⟩ (by k_asm) (nc (M9 _ (.head _)) fun p hp => M9 p (tl4 hp))
theorem a3r {b d l g : Addr} {k : Int} (B : BoxIn w.params ⟨b, d, l, g, od, x, k⟩ news) :
  Fn w G none 539 2 30 [.ref b, .int 1 t] news (fun v n => v = .none ∧ n = news) := by
 revert cl9 G w x t od news b d l g k
 intros B
 have mk9 : a0b := trivial
 have B1 := B
 obtain ⟨⟨a1, a2, a3, a4, a5, a6, a7, x1, k1, n1, t1, f1, e⟩, _⟩ := B
 dsimp only at e
 subst e
 ktr_unf
 (with_reducible rename News _ _ _ news => N8)
 have N9 := a9p B1 N8
 clear N8
 k_steps
 (with_reducible rename News h₀ _ _ _ => M9)
 exact hret _ _ _ _ ⟨rfl, rfl⟩ (by k_asm) fun p hp => M9 p (tl3 hp)
theorem b4T : True := by
 k_with "N7:call ref" => (k_here; ((with_reducible show wpAny _ _ (call (b9t 352) _) _ _ _); k_dflt (refine' Fn.use (a8P ?kB) ?k1 ?k2 ?k3 ?k4 ?k5 ?k6 ?k7 ?k8 ?_); (case k4 => k_extra "g:k4"); (case kB => k_extra "g:kB"); k_extra "g:c1"; k_extra "g:c2"; obtain ⟨D', rfl, rfl⟩ := hR'; (try clear hR'); k_extra "g:c3"; k_extra "g:c4"))
 trivial
theorem b0e {l : Addr} (F : Fr h₀ L s.heap m) (N : News h₀ L s.heap news) (hl : (l, listOf #[] c) ∈ news) (h : ∀ h' D e, Fr h₀ L h' m → News h₀ L h' ((D, listOf #[] e) :: news) → (∀ q ∈ news, q.1 < D) → Q (.ref D) { s with heap := h' }) :
  wpAny (model b9u.prog w) A (call (.builtin "sorted") [.ref l]) Q E s := by
 refine a3S (vs := []) (ss := []) F N hl .nil (by decide) ?_
 intro h' D vs' ss' e F' N' l1 hSS hSrt
 have e1 : ss' = [] := hSrt.1.eq_nil
 subst e1
 cases hSS
 exact h h' D e F' N' l1
theorem b3Y : True := by
 k_with "N7:call builtin:sorted" => ((k_here; k_dflt (refine' b0e ?k2 ?k3 ?k4 ?_; (case k2 => k_asm); (case k3 => k_asm); (case k4 => k_mem)); intro h' D eS F' N' l1; (try k_lt l1); (try k_sweep)))
 trivial
theorem a5t {target : Expr} {Q : Flow → Shared → Prop} (hh : A.handled = none) (F : Fr h₀ env.locals s.heap m) (N : News h₀ env.locals s.heap news) (hm : (ax, listOf #[] c) ∈ news) (done : ∀ h tk, Fr h₀ env.locals h m → News h₀ env.locals h news → Q .next { s with heap := h, toks := tk }) :
  wpAny (model b9u.prog w) A (pyIter (.ref ax)) (fun it s₂ => TurnsAt b9u.prog w A h₀ env target body Q E it s₂) E s :=
 a1Z (its := #[]) (fun _ m₁ n => m₁ = m ∧ n = news) (fun i m n h => h.2 ▸ hm) hh F N ⟨rfl, rfl⟩ (fun i v m₁ n₁ I oI h tk hi => absurd hi (c2b i)) fun m₁ n₁ h tk hj F' N' => by
  obtain ⟨rfl, rfl⟩ := hj
  exact done h tk F' N'
theorem a7p {Q : Flow → Shared → Prop} (hh : A.handled = none) (F : Fr h₀ env.locals s.heap m) (N : News h₀ env.locals s.heap news) (hm : (ax, listOf #[] c) ∈ news) (done : ∀ h tk, Fr h₀ env.locals h m → News h₀ env.locals h news → Q .next { s with heap := h, toks := tk }) :
  wpAny (model b9u.prog w) A (pyIter (.ref ax)) (fun it s₂ => LoopAtV b9u.prog w A h₀ env x body Q E it s₂) E s :=
 a3R (its := #[]) (fun _ m₁ n => m₁ = m ∧ n = news) (fun i m n h => h.2 ▸ hm) hh F N ⟨rfl, rfl⟩ (fun i v m₁ n₁ I oI h tk hi => absurd hi (c2b i)) fun m₁ n₁ h tk hj F' N' => by
  obtain ⟨rfl, rfl⟩ := hj
  exact done h tk F' N'
theorem b4A : True := by
 k_with "N7:pyIter ref" => ((k_here; k_dflt (refine' a7p ?k1 ?k2 ?k3 ?k4 ?_; (case k1 => exact rfl); (case k2 => k_asm); (case k3 => k_asm); (case k4 => k_mem)); intro h' tk' F' N'; (try k_sweep)))
 k_with "N7:exec For Name Name cons nil" => ((k_here; (rename Fr _ _ _ _ => lF'); (with_unfolding_all refine' c1O lF' ?_; k_whole)))
 k_with "N7:pyIter ref" => ((k_here; (with_reducible show wpAny _ _ (pyIter (b9t _)) (fun it s₂ => TurnsAt _ _ _ _ _ _ _ _ _ it s₂) _ _); k_dflt (refine' a5t ?k1 ?k2 ?k3 ?k4 ?_; (case k1 => exact rfl); (case k2 => k_asm); (case k3 => k_asm); (case k4 => k_mem)); intro h' tk' F' N'; (try k_sweep)))
 k_with "N7:CompSrc" => ((k_here; k_dflt (refine' c1K (its := #[]) ?k1 ?k2 ?k3 ?k4 ?k5 ?_; (case k1 => exact rfl); (case k2 => k_asm); (case k3 => k_asm); (case k4 => k_mem); (case k5 => decide)); intro g9; k_dflt (refine' LCg.CompRest.zero ?_)))
 k_with "N7:eval ListComp" => ((k_here; k_dflt (refine c2A (F₀ := by k_asm) (by with_unfolding_all rfl) (by decide) (by rfl) (by decide) (by rfl) ?_)))
 trivial
theorem b1R {b g U : Addr} (hU : (U, a3h) ∈ news) :
  Fn w G none 412 2 30 [.ref b, .ref U, .ref g] news (fun v n => ∃ D, v = .ref D ∧ n = (D, a3h) :: news) := by
 revert cl9 G w news b g U
 intros hU
 have mk9 : a0b := trivial
 ktr_unf
 (with_reducible rename News _ _ _ news => N8)
 have N9 := nc (N8 _ hU) N8
 clear N8
 k_steps
 (with_reducible rename News h₀ _ _ _ => M9)
 exact hret _ _ _ _ ⟨_, rfl, rfl⟩ (by k_asm) (nc (M9 _ mt2) fun p hp => M9 p (tl4 hp))
theorem b5Q : True := by
 k_with "N7:exec Assign cons ListComp" => ((k_here; k_dflt (refine LCt.Assign_ListComp_T (F₀ := by k_asm) (by rfl) (by with_unfolding_all rfl) (by with_unfolding_all rfl) (by decide) (by rfl) (by decide) (by rfl) (by rfl) (by rfl) ?_)))
 k_with "N7:eval ListComp" => ((k_here; k_dflt (refine c3a (F₀ := by k_asm) (by with_unfolding_all rfl) (by decide) (by rfl) (by decide) (by rfl) ?_)))
 k_with "N7:CompSrcT" => ((k_here; k_dflt (refine' c3b (its := #[]) ?k1 ?k2 ?k3 ?k4 ?k5 ?_; (case k1 => exact rfl); (case k2 => k_asm); (case k3 => k_asm); (case k4 => k_mem); (case k5 => decide)); intro g9; k_dflt (refine' LCt.CompRestT.zero ?_)))
 trivial
theorem a9R {a b : Addr} {e : Nat} (F : Fr h₀ L s.heap m) (N : News h₀ L s.heap news) (ma : (a, listOf #[] c) ∈ news) (mb : (b, listOf #[] e) ∈ news) (hu : A.units + 64 < cLine) (h : Q (.bool true) s) : wpAny (model prog w) A (compareOp .Eq (.ref a) (.ref b)) Q E s :=
 kqd_eq (n₁ := []) (n₂ := []) (xs := []) (ys := []) (ds := []) (es := []) N ma rfl rfl .nil (fun _ h => nomatch h) mb rfl rfl .nil (fun _ h => nomatch h) (fun _ h => nomatch h) (fun _ h => nomatch h) hu (by simpa using h)
theorem b5i : True := by
 k_with "N7:compareOp Eq ref ref" => ((k_here; k_dflt (refine' a9R ?F ?N ?a ?b ?n ?_; (case F => k_asm); (case N => k_asm); (case a => k_mem); (case b => k_mem); (case n => first | ke_room | ktr_units); k_whole)))
 trivial
theorem a7h {b d l g : Addr} {k : Int} {U : Addr} (B : BoxIn w.params ⟨b, d, l, g, od, x, k⟩ news) (hU : (U, a3h) ∈ news) :
  Fn w G none 407 4 90 [.ref b, .ref U] news (fun v n => n = news) := by
 revert cl9 G w x od news b d l g k U
 intros B hU
 have mk9 : a0b := trivial
 have B1 := B
 obtain ⟨⟨a1, a2, a3, a4, a5, a6, a7, x1, k1, n1, t1, f1, e⟩, B2⟩ := B
 dsimp only at e
 subst e
 have hb := B2 (b, instObj 360 d) (by simp [BoxR.led])
 have hd := B2 (d, _) (by unfold BoxR.led; exact mt3)
 clear B2
 ktr_unf
 have hT1 : ∀ p ∈ news, p.1 ≠ L' + 1 := fun p hp => b9v (b9N (l1 p hp))
 have hT2 : ∀ p ∈ news, p.1 ≠ L' + 1 + 1 := fun p hp => b9v (b9N (b9N (l1 p hp)))
 have hU1 := hT1 _ hU
 have hU2 := hT2 _ hU
 have hb1 := hT1 _ hb
 have hb2 := hT2 _ hb
 have hd1 := hT1 _ hd
 have hd2 := hT2 _ hd
 dsimp only at hU1 hU2 hb1 hb2 hd1 hd2
 have N9 := nc (N' _ (tl2 hU)) (nc (N' _ (tl2 hb)) (nc (N' _ (tl2 hd)) N'))
 clear N'
 k_steps
 (with_reducible rename News h₀ _ _ _ => M9)
 exact hret _ _ _ _ rfl (by k_asm) fun p hp => M9 p (by (repeat (refine' b9D _ ?_)); exact hp)
theorem b4b : True := by
 k_with "N7:call ref" => (k_here; ((with_reducible show wpAny _ _ (call (b9t 412) _) _ _ _); k_dflt (refine' Fn.use (b1R ?kU) ?k1 ?k2 ?k3 ?k4 ?k5 ?k6 ?k7 ?k8 ?_); (case k4 => k_extra "g:k4"); (case kU => k_mem); k_extra "g:c1"; k_extra "g:c2"; obtain ⟨D', rfl, rfl⟩ := hR'; (try clear hR'); k_extra "g:c3"; k_extra "g:c4"))
 k_with "N7:call ref" => (k_here; ((with_reducible show wpAny _ _ (call (b9t 407) _) _ _ _); k_dflt (refine' Fn.use (a7h ?kB ?kU) ?k1 ?k2 ?k3 ?k4 ?k5 ?k6 ?k7 ?k8 ?_); (case k4 => k_extra "g:k4"); (case kB => k_extra "g:kB"); (case kU => k_mem); k_extra "g:c1"; k_extra "g:c2"; obtain rfl := hR'; (try clear hR'); k_extra "g:c3"; k_extra "g:c4"))
 k_with "N7:eval ListComp" => ((k_here; k_dflt (refine c2A (F₀ := by k_asm) (by with_unfolding_all rfl) (by decide) (by rfl) (by decide) (by rfl) ?_)))
 trivial
theorem b1U {b d l g g2 : Addr} {k : Int} {U : Addr} (B : BoxIn w.params ⟨b, d, l, g, od, x, k⟩ news) (hU : (U, a3h) ∈ news) :
  Fn w G none 417 6 120 [.ref b, .ref U, .ref g2] news (fun v n => n = news) := by
 revert cl9 G w x od news b d l g g2 k U
 intros B hU
 have mk9 : a0b := trivial
 ktr_unf
 k_steps
 (with_reducible rename News h₀ _ _ _ => M9)
 exact hret _ _ _ _ rfl (by k_asm) fun p hp => M9 p (by (repeat (refine' b9D _ ?_)); exact hp)
theorem era_N8 : True := trivial
theorem b4S : True := by
 k_with "N8:call ref" => (k_here; ((with_reducible show wpAny _ _ (call (b9t 560) _) _ _ _); k_dflt (refine' Fn.use (a1e O2 (by (try dsimp only); omega) (by (try dsimp only); omega)) ?k1 ?k2 ?k3 ?k4 ?k5 ?k6 ?k7 ?k8 ?_); (case k4 => k_extra "g:k4"); k_extra "g:c1"; k_extra "g:c2"; obtain ⟨rfl, rfl⟩ := hR'; (try clear hR'); k_extra "g:c3"; k_extra "g:c4"))
 k_with "N8:call ref" => (k_here; ((with_reducible show wpAny _ _ (call (b9t 360) _) _ _ _); k_dflt (refine' Fn.use a8Y ?k1 ?k2 ?k3 ?k4 ?k5 ?k6 ?k7 ?k8 ?_); (case k4 => k_extra "g:k4"); k_extra "g:c1"; k_extra "g:c2"; obtain ⟨⟨rBb, rBd, rBl, rBg, rBod, rBx, rBk⟩, rfl, rfl, hBo, rfl, rfl, lB1, lB2, lB3, lB4⟩ := hR'; (try clear hR'); k_extra "g:c3"; (try simp only [BoxR.led, StR.led, c0b, c0c] at N' lB1); (try dsimp only at lB1 lB2 lB3 lB4); (try k_lt lB1); (try k_lt2 lB2); (try k_lt2 lB3); (try k_lt2 lB4); k_extra "g:c4"))
 k_with "N8:call ref" => (k_here; ((with_reducible show wpAny _ _ (call (b9t 352) _) _ _ _); k_dflt (refine' Fn.use (a8P ?kB) ?k1 ?k2 ?k3 ?k4 ?k5 ?k6 ?k7 ?k8 ?_); (case k4 => k_extra "g:k4"); (case kB => k_extra "g:kB"); k_extra "g:c1"; k_extra "g:c2"; obtain ⟨D', rfl, rfl⟩ := hR'; (try clear hR'); k_extra "g:c3"; k_extra "g:c4"))
 k_with "N8:call ref" => (k_here; ((with_reducible show wpAny _ _ (call (b9t 539) _) _ _ _); k_dflt (refine' Fn.use (a3r ?kB) ?k1 ?k2 ?k3 ?k4 ?k5 ?k6 ?k7 ?k8 ?_); (case k4 => k_extra "g:k4"); (case kB => k_extra "g:kB"); k_extra "g:c1"; k_extra "g:c2"; obtain ⟨rfl, rfl⟩ := hR'; (try clear hR'); k_extra "g:c3"; k_extra "g:c4"))
 k_with "N8:call ref" => (k_here; ((with_reducible show wpAny _ _ (call (b9t 417) _) _ _ _); k_dflt (refine' Fn.use (b1U ?kB ?kU) ?k1 ?k2 ?k3 ?k4 ?k5 ?k6 ?k7 ?k8 ?_); (case k4 => k_extra "g:k4"); (case kB => k_extra "g:kB"); (case kU => k_mem); k_extra "g:c1"; k_extra "g:c2"; obtain rfl := hR'; (try clear hR'); k_extra "g:c3"; k_extra "g:c4"))
 trivial
theorem a2J {b : Addr} (O : σ.ok w rest) (hb : ∃ r ∈ σ.rs, r.b = b) (hxn : a0u σ.rs x = false) (hn : σ.rs.length ≤ 50) (hv : σ.nxt < 4294967290) :
  Fn w G none 598 10 200 [.ref σ.S, .ref b, .str x t] (σ.led rest)
   (fun _ n => ∃ σ' : StR, n = σ'.led rest ∧ σ'.ok w rest ∧ σ'.S = σ.S ∧ σ'.subs = σ.subs ∧ σ'.nxt = σ.nxt + 1 ∧ ∃ r, r.x = x ∧ r.k = σ.nxt ∧ σ'.rs = σ.rs ++ [r]) := by
 revert hb hxn hn hv
 revert O; revert σ; revert cl9 G w x t rest b; z_head
 intros hb hxn hn hv
 have mk9 : a0b := trivial
 obtain ⟨r, hr, rfl⟩ := hb
 have hB : BoxIn w.params r (a0d rs rest) := ⟨O.box r hr, fun p hp => a5j hr hp⟩
 (revert r; intros r9; apply a5r r9; k_dflt (refine @((?_ : Ha7 _) _ _ _ _ _ _ _); clear r9; intros ib id il ig iod ix ik); refine Hd7.mk ?_; set_option tactic.hygienic false in intros)
 unfold StR.led
 (try unfold StR.led at H)
 dsimp only at *
 ktr_unf
 have hB2 := hB
 obtain ⟨⟨b1, b2, b3, b4, b5, b6, b7, b8, b9, b10, b11, b12, hRe⟩, hB3⟩ := hB2
 dsimp only at hRe
 subst hRe
 have hRb := hB3 (ib, instObj 360 id) (by simp [BoxR.led])
 have hRd := hB3 (id, _) (by unfold BoxR.led; exact mt3)
 clear hB3
 dsimp only at hRb hRd
 k_steps
 (with_reducible rename News h₀ _ _ _ => M9)
 have hob2 : c1n (kS w) ob' (a0t (rs ++ [⟨rBb, rBd, rBl, rBg, rBod, rBx, rBk⟩])) := by rw [← a2h (r := ⟨rBb, rBd, rBl, rBg, rBod, rBx, rBk⟩) hxn]; exact hob'
 obtain ⟨sd', hsd', M8⟩ : ∃ sd', a0x w.params sd' Bx U (rBk + 1) ∧ News h₀ L _ ((rBg, a3h) :: (rBl, a3h) :: (rBb, instObj 360 rBd) :: (rBd, rBod) :: (S, instObj 490 Sd) :: (Sd, sd') :: (Bx, ob') :: (U, listOf vs nU) :: a0d rs rest) := ⟨_, ⟨_, _, _, _, rfl⟩, fun p hp => M9 p (tl3 hp)⟩
 clear M9
 refine hret _ _ _ _ ⟨⟨S, Sd, Bx, U, sd', ob', listOf vs nU, rs ++ [⟨rBb, rBd, rBl, rBg, rBod, rBx, rBk⟩], subs, rBk + 1⟩, rfl, a4X O2 (r := ⟨rBb, rBd, rBl, rBg, rBod, rBx, rBk⟩) hBo (show ∀ p ∈ (S, instObj 490 Sd) :: (Sd, _) :: (Bx, ob) :: (U, listOf vs nU) :: a0d rs rest, p.1 < rBd from by assumption) lB2 lB3 lB4 hsd' hob2, rfl, rfl, rfl, ⟨rBb, rBd, rBl, rBg, rBod, rBx, rBk⟩, rfl, rfl, rfl⟩ (by k_asm) fun p hp => M8 p ?_
 rcases a3G (σ := ⟨S, Sd, Bx, U, sd', ob, listOf vs nU, rs, subs, rBk⟩) hp with h | h | h | h | h | h
 ·simp only [BoxR.led, b9r, c0f, or_false] at h
  rcases h with h | h | h | h <;> (rw [h]; k_mem)
 ·rw [h]; k_mem
 ·rw [h]; k_mem
 ·rw [h]; k_mem
 ·rw [h]; k_mem
 ·k_mem
theorem a1h (h : x.cps.toList = y.cps.toList) : x = y := by
 cases x; cases y
 exact congrArg PySem.Str.mk (Array.toList_inj.mp h)
theorem a0F (x y : b9p) : (x ++ y).cps.toList = x.cps.toList ++ y.cps.toList := by
 show (x.cps ++ y.cps).toList = _
 exact Array.toList_append
theorem len_list (x : b9p) : x.length = x.cps.toList.length := by
 show x.cps.size = _
 exact c0e.symm
theorem a7t (h : x ++ y = x ++ z) : y = z := by
 have h := congrArg (fun s : b9p => s.cps.toList) h
 simp only [a0F] at h
 exact a1h (List.append_cancel_left h)
theorem a3y (x : b9p) (hn : n ≤ x.length) : (c0d x (some ((n : Nat) : Int)) none).cps.toList = x.cps.toList.drop n := by
 revert cl9 n x
 intros hn
 have e : c2d (some ((n : Nat) : Int)) none 1 x.length = c2d (some ((n : Nat) : Int)) (some ((x.length : Nat) : Int)) 1 x.length := by
  unfold c2d
  have h1 : ¬ ((x.length : Int) < 0) := by omega
  have h2 : max (0 : Int) (x.length : Int) = x.length := by omega
  simp [sliceRange, h1, h2]
 have p := c3S x hn (b9K _)
 unfold c0d
 rw [e]
 have ht : (x.cps.toList.drop n).take (x.length - n) = x.cps.toList.drop n := by
  rw [c0A]
  rw [List.length_drop, len_list]; omega
 split
 ·rename_i hc
  rw [c3T hn (b9K _), b9z, c1L] at hc
  have hc : x.length - n = x.length := by simpa using hc
  rcases Nat.eq_zero_or_pos n with h | h
  ·rw [h, c2r]
  ·have h0 : x.length = 0 := by omega
   rw [len_list] at h0
   rw [List.length_eq_zero_iff.mp h0, List.drop_nil]
 ·rw [c2V, p, ht]
theorem starts_list : c2u x y = true ↔ ∃ z, x.cps.toList = y.cps.toList ++ z := by
 revert cl9 x y
 unfold c2u
 rw [PySem.StrLaws.subAt_eq, c0h, decide_eq_true_eq, beq_iff_eq, c2r, len_list, len_list]
 constructor
 ·intros hR9; (obtain ⟨h1, h2⟩ := hR9) <;> (try clear hR9)
  exact ⟨x.cps.toList.drop y.cps.toList.length, ((c3x y.cps.toList.length x.cps.toList).symm.trans (congrArg (· ++ _) h2))⟩
 ·intros hR9; (obtain ⟨z, h⟩ := hR9) <;> (try clear hR9)
  rw [h]
  exact ⟨by rw [c0l]; omega, List.take_left⟩
theorem a2V (h : a0D old x = true) : x = old ++ c0d x (some ((old.length : Nat) : Int)) none := by
 unfold a0D at h
 have key : ∃ z, x.cps.toList = old.cps.toList ++ z := by
  rcases c2e _ _ |>.mp h with h | h
  ·exact ⟨[], by rw [c0j h, c0k]⟩
  ·obtain ⟨z, hz⟩ := starts_list.mp h
   exact ⟨_, by rw [hz, a0F, c0M]⟩
 obtain ⟨z, hz⟩ := key
 refine a1h ?_
 rw [a0F, a3y x (by rw [len_list, len_list, hz, c0l]; omega), hz, len_list, List.drop_left]
theorem a6r (hx : a0D old x = true) (hy : a0D old y = true) (h : a0g old new x = a0g old new y) : x = y := by
 rw [a2V hx, a2V hy, a7t h]
theorem Out.push (O : Out w σ ts rest) (h : ∀ p ∈ σ.led (a0W ts ++ rest), p.1 ≠ D) : Out w σ ts ((D, o) :: rest) := by
 revert cl9 w D o rest ts σ
 intros O h
 refine ⟨⟨O.ok.sd, O.ok.ob, O.ok.lo, O.ok.ou, O.ok.box, O.ok.nd, fun p hp => ?_⟩, O.nd, fun p hp => ?_, O.bk⟩
 ·rcases b9y.mp hp with hp | hp
  ·exact O.ok.ap p (b9G _ hp)
  ·rcases b9r.mp hp with rfl | hp
   ·intro e
    obtain ⟨q, hq, e'⟩ := StR.mem_adr e (a0W ts ++ rest)
    exact h q hq e'
   ·exact O.ok.ap p (b9s _ hp)
 ·rcases b9r.mp hp with rfl | hp
  ·intro e
   obtain ⟨q, hq, e'⟩ := a2A e
   exact h q (StR.led_rest (b9G _ hq)) e'
  ·exact O.ap p hp
noncomputable def xk (rs : List BoxR) : List (b9p × Int) := rs.map fun r => (r.x, r.k)
noncomputable def a0G (σ : StR) (ob : Obj) (rs : List BoxR) : StR := ⟨σ.S, σ.Sd, σ.B, σ.U, σ.sd, ob, σ.ou, rs, σ.subs, σ.nxt⟩
structure PopJ (w : World) (σ : StR) (rest : Led) (xs : List b9p) (i : Nat) (vs : List Value) (n : Led) (ob : Obj) (rs : List BoxR) (ts : List BoxR) : Prop where
 out : Out w (a0G σ ob rs) ts rest
 led : n = (a0G σ ob rs).led (a0W ts ++ rest)
 vals : vs = ts.map fun r => .ref r.b
 names : ts.map (·.x) = xs.take i
 there : ∀ r ∈ ts, r ∈ σ.rs
 left : rs = σ.rs.filter fun r => decide (r.x ∉ xs.take i)
theorem PopJ.zero (O : σ.ok w rest) : PopJ w σ rest xs 0 [] (σ.led rest) σ.ob σ.rs [] :=
 ⟨Out.zero O, rfl, rfl, rfl, fun _ h => (nomatch h), (List.filter_eq_self.mpr fun r hr => by simp).symm⟩
theorem PopJ.get {n : Led} (J : PopJ w σ rest xs i vs n ob rs ts) (hd : xs.Nodup) (hx : xs[i]? = some x) (hm : x ∈ σ.rs.map (·.x)) : ∃ r ∈ rs, r.x = x ∧ r ∈ σ.rs := by
 obtain ⟨r, hr, e⟩ := b9I.mp hm
 refine ⟨r, ?_, e, hr⟩
 rw [J.left]
 refine List.mem_filter.mpr ⟨hr, decide_eq_true fun h => ?_⟩
 rw [e] at h
 obtain ⟨j, hj, hj'⟩ := List.mem_take_iff_getElem.mp h
 have h1 : j < xs.length := by omega
 obtain ⟨h2, h3⟩ := List.getElem?_eq_some_iff.mp hx
 have := (c1P hd (h₀ := h1) (h₁ := h2)).mp (hj'.trans h3.symm)
 omega
theorem PopJ.next {n : Led} (J : PopJ w σ rest xs i vs n ob rs ts) (hx : xs[i]? = some r.x) (hr : r ∈ rs) (hr' : r ∈ σ.rs) (hob : ob'.IsDictOf (kS w) (without (a0t rs) r.x)) :
  PopJ w σ rest xs (i + 1) (vs ++ [.ref r.b]) ((a0G σ ob' (rs.filter fun q => decide (q.x ≠ r.x))).led (a0W (ts ++ [r]) ++ rest)) ob' (rs.filter fun q => decide (q.x ≠ r.x)) (ts ++ [r]) := by
 have ht : xs.take (i + 1) = xs.take i ++ [r.x] := by rw [c0H, hx, c0S]
 refine ⟨b0j J.out hr hob, rfl, by rw [J.vals, c0D]; rfl, by rw [c0D, J.names, ht]; rfl, fun q hq => ?_, ?_⟩
 ·rcases b9y.mp hq with hq | hq
  ·exact J.there q hq
  ·rw [b9C.mp hq]; exact hr'
 ·rw [ht, J.left, List.filter_filter]
  refine c3c fun q hq => ?_
  simp only [b9y, b9C, not_or, Bool.decide_and]
  exact Bool.and_comm _ _
theorem PopJ.sub {n : Led} (_ : PopJ w σ rest xs i vs n ob rs ts) (hr : r ∈ rs) :
  ∀ p ∈ (a0G σ ob' (rs.filter fun q => decide (q.x ≠ r.x))).led (a0W (ts ++ [r]) ++ rest), p ∈ (σ.S, instObj 490 σ.Sd) :: (σ.Sd, σ.sd) :: (σ.B, ob') :: (σ.U, σ.ou) :: a0d rs (a0W ts ++ rest) := fun p hp =>
 b0A (σ := a0G σ ob rs) hr hp
theorem b0q {a b : Led} {q : Addr × Obj} (h : p ∈ σ.led (a ++ (q :: b))) : p ∈ q :: σ.led (a ++ b) := by
 revert cl9 p σ a b q
 intros h
 unfold StR.led a0d at *
 simp only [b9r, b9y] at h ⊢
 rcases h with h | h | h | h | h | h | h | h
 ·exact .inr (.inl h)
 ·exact .inr (.inr (.inl h))
 ·exact .inr (.inr (.inr (.inl h)))
 ·exact .inr (.inr (.inr (.inr (.inl h))))
 ·exact .inr (.inr (.inr (.inr (.inr (.inl h)))))
 ·exact .inr (.inr (.inr (.inr (.inr (.inr (.inl h))))))
 ·exact .inl h
 ·exact .inr (.inr (.inr (.inr (.inr (.inr (.inr h))))))
theorem a8m {n : Led} {v : Value} (h : DatIn n v (.list ds)) : ∃ P vs k, v = .ref P ∧ (P, listOf (c0x vs) k) ∈ n ∧ DatAll n vs ds := by
 revert cl9 ds n v
 intros h
 cases h with
 | list hm ha => exact ⟨_, _, _, rfl, hm, ha⟩
noncomputable def a3o (m₀ : b9p → Option Value) (a b : Option Value) : b9p → Option Value := fun y => if y = "pair" then b else if y = "one" then a else m₀ y
theorem a4C : m₀ = a3o m₀ (m₀ "one") (m₀ "pair") := by
 funext y
 unfold a3o
 by_cases e : y = "pair"
 ·rw [if_pos e, e]
 ·rw [if_neg e]
  by_cases e2 : y = "one"
  ·rw [if_pos e2, e2]
  ·rw [if_neg e2]
theorem a5Y {a b a' : Option Value} : (fun y : b9p => if y = "pair" then b' else if y = "one" then a' else if y = "pair" then b else if y = "one" then a else m₀ y) = a3o m₀ a' b' := by
 funext y
 unfold a3o
 by_cases e : y = "pair"
 ·simp only [if_pos e]
 ·by_cases e2 : y = "one"
  ·simp only [if_neg e, if_pos e2]
  ·simp only [if_neg e, if_neg e2]
structure PutJ (w : World) (σ : StR) (rest : Led) (rs0 : List BoxR) (ts : List BoxR) (gs : List b9p) (i : Nat) (n : Led) (ob : Obj) (ms : List BoxR) : Prop where
 out : Out w (a0G σ ob (rs0 ++ ms)) (ts.drop i) rest
 led : n = (a0G σ ob (rs0 ++ ms)).led (a0W (ts.drop i) ++ rest)
 names : ms.map (·.x) = gs.take i
 ks : ms.map (·.k) = (ts.take i).map (·.k)
theorem PutJ.zero {rs0 : List BoxR} {gs : List b9p} (O : Out w (a0G σ ob rs0) ts rest) : PutJ w σ rest rs0 ts gs 0 ((a0G σ ob rs0).led (a0W ts ++ rest)) ob [] :=
 ⟨by rw [c0k]; exact O, by rw [c0k]; rfl, rfl, rfl⟩
noncomputable def a4B (its : Led) (t : BoxR) (rs ts : List BoxR) (rest : Led) : Led := its ++ (t.g, a3h) :: (t.l, a3h) :: a0d rs (a0W ts ++ rest)
section
variable {w : World} {σ : StR} {rest its : Led} {rs0 ts : List BoxR} {gs : List b9p} {i : Nat} {n : Led} {ob : Obj} {ms : List BoxR} {t : BoxR}
theorem PutJ.drop (J : PutJ w σ rest rs0 ts gs i n ob ms) (ht : ts[i]? = some t) : Out w (a0G σ ob (rs0 ++ ms)) (t :: ts.drop (i + 1)) rest ∧ n = (a0G σ ob (rs0 ++ ms)).led (a0W (t :: ts.drop (i + 1)) ++ rest) := by
 have e : ts.drop i = t :: ts.drop (i + 1) := by
  obtain ⟨h, h'⟩ := List.getElem?_eq_some_iff.mp ht
  rw [List.drop_eq_getElem_cons h, h']
 have h1 := J.out
 have h2 := J.led
 rw [e] at h1 h2
 exact ⟨h1, h2⟩
theorem a8T {ts' : List BoxR} {od' : Obj} (e : t'.b = t.b ∧ t'.d = t.d ∧ t'.l = t.l ∧ t'.g = t.g) (eo : t'.od = od') (h : p ∈ its ++ (a0G σ ob' (rs ++ [t'])).led (a0W ts' ++ rest)) :
  p ∈ (t.d, od') :: (t.b, instObj 360 t.d) :: (σ.S, instObj 490 σ.Sd) :: (σ.Sd, σ.sd) :: (σ.B, ob') :: (σ.U, σ.ou) :: a4B its t rs ts' rest := by
 revert cl9 p ob' rs t' σ rest its t ts' od'
 intros e eo h
 obtain ⟨e1, e2, e3, e4⟩ := e
 revert p
 unfold a4B StR.led a0d a0G
 refine a2a (fun p h => in6 (b9G _ h)) (a0e mt2 (a0e mt3 (a0e mt4 (a0e mt5 (a2a ?_ fun p h => in6 (b9s _ (tl2 (b9s _ h))))))))
 rw [c2c, List.flatMap_singleton]
 refine a2a (fun p h => in6 (b9s _ (tl2 (b9G _ h)))) ?_
 unfold BoxR.led
 rw [e1, e2, e3, e4, eo]
 exact a0e (in6 (b9s _ (.head _))) (a0e (in6 (b9s _ mt1)) (a0e mt1 (a0e (.head _) a2e)))
theorem a6G (J : PutJ w σ rest rs0 ts gs i n ob ms) (ht : ts[i]? = some t) (h : p ∈ (t.d, t.od) :: (t.b, instObj 360 t.d) :: (σ.S, instObj 490 σ.Sd) :: (σ.Sd, σ.sd) :: (σ.B, ob) :: (σ.U, σ.ou) :: a4B its t (rs0 ++ ms) (ts.drop (i + 1)) rest) : p ∈ its ++ n := by
 revert cl9 p w σ rest its rs0 ts gs i n ob ms t
 intros J ht h
 rw [(J.drop ht).2]
 have k : ∀ {p}, p ∈ BoxR.led t → p ∈ its ++ (a0G σ ob (rs0 ++ ms)).led (a0W (t :: ts.drop (i + 1)) ++ rest) := fun h => b9s _ (StR.led_rest (b9G _ (b9G _ h)))
 revert p
 unfold a4B
 refine a0e (k mt3) (a0e (k mt2) (a0e (b9s _ (.head _)) (a0e (b9s _ mt1) (a0e (b9s _ mt2) (a0e (b9s _ mt3) (a2a (fun p h => b9G _ h) (a0e (k (.head _)) (a0e (k mt1) (a2a (fun p h => b9s _ (tl4 (b9G _ h))) (a2a (fun p h => b9s _ (StR.led_rest (b9G _ (b9s _ h)))) fun p h => b9s _ (StR.led_rest (b9s _ h))))))))))))
structure b8Y (σ : StR) (t : BoxR) (tl : Led) : Prop where
 td : ∀ p ∈ tl, p.1 ≠ t.d
 tB : ∀ p ∈ tl, p.1 ≠ σ.B
 db : t.d ≠ t.b
 dS : t.d ≠ σ.S
 dD : t.d ≠ σ.Sd
 dB : t.d ≠ σ.B
 dU : t.d ≠ σ.U
 Bb : σ.B ≠ t.b
 BS : σ.B ≠ σ.S
 BD : σ.B ≠ σ.Sd
 BU : σ.B ≠ σ.U
theorem b2o (J : PutJ w σ rest rs0 ts gs i n ob ms) (ht : ts[i]? = some t) (off : a6Y its n) : b8Y σ t (a4B its t (rs0 ++ ms) (ts.drop (i + 1)) rest) := by
 revert cl9 w σ rest its rs0 ts gs i n ob ms t
 intros J ht off
 obtain ⟨O, e⟩ := J.drop ht
 have h1 := b2y O
 have h2 := a8L O.ok
 obtain ⟨q1, q2, q3, q4, q5, q6, q7, q8, q9, q10⟩ := h2
 have hin : ∀ p ∈ t.led, p ∈ a0d (rs0 ++ ms) (a0W (t :: ts.drop (i + 1)) ++ rest) := fun p hp => b9s _ (b9G _ (List.mem_flatMap.mpr ⟨t, .head _, hp⟩))
 have hd : (t.d, t.od) ∈ t.led := by simp [BoxR.led]
 have hb : (t.b, instObj 360 t.d) ∈ t.led := by simp [BoxR.led]
 have hall : ∀ p ∈ its ++ n, ∀ q ∈ its, p ∈ n → p.1 ≠ q.1 := fun p _ q hq hp => off p hp q hq
 have hn : ∀ p ∈ a0d (rs0 ++ ms) (a0W (t :: ts.drop (i + 1)) ++ rest), p ∈ n := fun p hp => by rw [e]; unfold StR.led; exact tl4 hp
 have hB : (σ.B, ob) ∈ n := by rw [e]; unfold StR.led a0G; exact mt2
 have sub : ∀ p ∈ a0d (rs0 ++ ms) (a0W (ts.drop (i + 1)) ++ rest), p ∈ a0d (rs0 ++ ms) (a0W (t :: ts.drop (i + 1)) ++ rest) := fun p hp => by
  unfold a0d a0W at hp ⊢
  simp only [b9y, c1a] at hp ⊢
  rcases hp with h | h | h
  all_goals simp only [h, true_or, or_true]
 refine ⟨fun p hp => ?_, fun p hp => ?_, ?_, ?_, ?_, ?_, ?_, ?_, ?_, ?_, ?_⟩
 ·rcases b9y.mp hp with hp | hp
  ·exact fun z => off _ (hn _ (hin _ hd)) p hp z.symm
  ·rcases b9r.mp hp with hp | hp
   ·exact hp ▸ h1 _ (.head _)
   ·rcases b9r.mp hp with hp | hp
    ·exact hp ▸ h1 _ mt1
    ·exact h1 p (tl3 (by unfold StR.led; exact .tail _ (.tail _ (.tail _ (.tail _ hp)))))
 ·rcases b9y.mp hp with hp | hp
  ·exact fun z => off _ hB p hp z.symm
  ·refine q9 p ?_
   rcases b9r.mp hp with hp | hp
   ·exact hp ▸ hin _ (by simp [BoxR.led])
   ·rcases b9r.mp hp with hp | hp
    ·exact hp ▸ hin _ (by simp [BoxR.led])
    ·exact sub p hp
 ·exact fun z => h1 _ mt2 z.symm
 ·exact q7 _ (hin _ hd)
 ·exact q8 _ (hin _ hd)
 ·exact q9 _ (hin _ hd)
 ·exact q10 _ (hin _ hd)
 ·exact fun z => q9 _ (hin _ hb) z.symm
 ·exact fun z => q2 z.symm
 ·exact fun z => q4 z.symm
 ·exact q6
theorem PutJ.next (J : PutJ w σ rest rs0 ts gs i n ob ms) (ht : ts[i]? = some t) (hg : gs[i]? = some g) (e : t'.b = t.b ∧ t'.d = t.d ∧ t'.l = t.l ∧ t'.g = t.g) (ek : t'.k = t.k) (ex : t'.x = g) (hk : t'.ok w.params) (hh : a0u (rs0 ++ ms) g = false) (hob : ob'.IsDictOf (kS w) (stored (a0t (rs0 ++ ms)) g (.ref t.b))) : PutJ w σ rest rs0 ts gs (i + 1) ((a0G σ ob' (rs0 ++ ms ++ [t'])).led (a0W (ts.drop (i + 1)) ++ rest)) ob' (ms ++ [t']) := by
 rw [← ex] at hh
 have h1 := b2l (J.drop ht).1 e hk (ob' := ob') (by rw [← ex, ← e.1, a2h hh] at hob; exact hob)
 rw [c0M]
 refine ⟨by rw [← c0M]; exact h1, rfl, ?_, ?_⟩
 ·rw [c0D, J.names, c0H, hg, c0S, ← ex]; rfl
 ·rw [c0D, J.ks, c0H, ht, c0S, c0D]
  show _ ++ [t'.k] = _ ++ [t.k]
  rw [ek]
theorem b1C (J : PutJ w σ rest rs0 ts (xs.map (a0g old new)) i n ob ms) (hl : rs0 = σ.rs.filter fun r => decide (r.x ∉ xs.take j)) : (rs0 ++ ms).length ≤ σ.rs.length + xs.length := by
 have h1 : rs0.length ≤ σ.rs.length := by rw [hl]; exact c1A _ _
 have h2 := congrArg c0N J.names
 rw [b9z, c3d, b9z] at h2
 rw [c0l]
 omega
theorem b1y (J : PutJ w σ rest rs0 ts ((a0C old ss).map (a0g old new)) i n ob ms) (hl : rs0 = σ.rs.filter fun r => decide (r.x ∉ (a0C old ss).take j)) (hnew : ∀ x ∈ a0C old ss, a0u σ.rs (a0g old new x) = false) (hnd : (a0C old ss).Nodup) (hz : (a0C old ss)[i]? = some z) : a0u (rs0 ++ ms) (a0g old new z) = false := by
 rw [c2D]
 intro hh
 obtain ⟨r, hr, he⟩ := c0R.mp hh
 have he : r.x = a0g old new z := of_decide_eq_true he
 rcases b9y.mp hr with hr | hr
 ·have h1 := hnew z (b9Z hz)
  rw [hl] at hr
  have h2 : a0u σ.rs (a0g old new z) = true := c0R.mpr ⟨r, (List.mem_filter.mp hr).1, decide_eq_true he⟩
  rw [h1] at h2
  cases h2
 ·have h1 : a0g old new z ∈ ms.map (·.x) := b9I.mpr ⟨r, hr, he⟩
  rw [J.names] at h1
  obtain ⟨k, hk, hk'⟩ := List.mem_take_iff_getElem.mp h1
  have hk2 : k < (a0C old ss).length := by rw [b9z] at hk; omega
  rw [c1B] at hk'
  have h3 := a6r (List.mem_filter.mp (c2f hk2)).2 (List.mem_filter.mp (b9Z hz)).2 hk'
  obtain ⟨h4, h5⟩ := List.getElem?_eq_some_iff.mp hz
  have := (c1P hnd (h₀ := hk2) (h₁ := h4)).mp (h3.trans h5.symm)
  omega
theorem b1O {n' : Led} {ob2 : Obj} (J : PopJ w σ rest (a0C old ss) k vs n ob rs0 ts) (J2 : PutJ w σ' rest' rs0 ts ((a0C old ss).map (a0g old new)) k' n' ob2 ms) (hk : (a0C old ss).length ≤ k) (hk' : ts.length ≤ k') (hp : ss.Perm (σ.rs.map (·.x))) (hn : (σ.rs.map (·.x)).Nodup) : rs0 ++ ms = (σ.rs.filter fun r => !a0D old r.x) ++ ms ∧ xk ms = (a0C old ss).map fun z => (a0g old new z, a1P σ.rs z) := by
 revert cl9 k k' ss old new vs rest' σ' w σ rest rs0 ts n ob ms n' ob2
 intros J J2 hk hk' hp hn
 have h1 := J.left
 have h2 := J.names
 have h3 := J2.names
 have h4 := J2.ks
 rw [c0A hk] at h1 h2
 have hl := congrArg c0N h2
 rw [b9z] at hl
 rw [c0A (by rw [b9z]; omega)] at h3
 rw [c0A hk'] at h4
 constructor
 ·rw [h1]
  congr 1
  refine c3c fun r hr => ?_
  have hm : r.x ∈ ss := hp.mem_iff.mpr (b9I.mpr ⟨r, hr, rfl⟩)
  unfold a0C
  rw [c1b]
  simp [hm]
 ·refine c2a ?_ fun j hj1 hj2 => ?_
  ·have := congrArg c0N h3
   rw [b9z, b9z] at this
   unfold xk
   rw [b9z, b9z, this]
  ·unfold xk at hj1 ⊢
   rw [b9z] at hj1 hj2
   have hj3 : j < ts.length := by omega
   have e1 := c3y h3 (i := j) (by rw [b9z]; exact hj1)
   have e2 := c3y h4 (i := j) (by rw [b9z]; exact hj1)
   have e3 := c3y h2 (i := j) (by rw [b9z]; exact hj3)
   rw [c1B, c1B] at e1 e2
   rw [c1B] at e3
   rw [c1B, c1B, e1, e2, ← e3]
   rw [a2z hn _ (J.there _ (c2f hj3))]
theorem a9e {n' : Led} (off : a6Y its n) (h : ∀ p ∈ n', ∃ q ∈ n, q.1 = p.1) : a6Y its n' := fun p hp q hq e => by
 obtain ⟨r, hr, hre⟩ := h p hp
 exact off r hr q hq (hre.trans e)
theorem b0h (J : PutJ w σ rest rs0 ts gs i n ob ms) (ht : ts[i]? = some t) (e : t'.b = t.b ∧ t'.d = t.d ∧ t'.l = t.l ∧ t'.g = t.g) (off : a6Y its n) :
  a6Y its ((a0G σ ob' (rs0 ++ ms ++ [t'])).led (a0W (ts.drop (i + 1)) ++ rest)) := by
 refine a9e off fun p hp => ?_
 have h1 := a8T (its := []) (t := t) (t' := t') (rs := rs0 ++ ms) e rfl (by rw [c0c]; exact hp)
 have h2 : ∀ q, q ∈ (t.d, t.od) :: (t.b, instObj 360 t.d) :: (σ.S, instObj 490 σ.Sd) :: (σ.Sd, σ.sd) :: (σ.B, ob) :: (σ.U, σ.ou) :: a4B [] t (rs0 ++ ms) (ts.drop (i + 1)) rest → q ∈ n := fun q hq => by simpa using a6G J ht hq
 rcases b9r.mp h1 with h | h1
 ·exact ⟨_, h2 _ (.head _), by rw [h]⟩
 rcases b9r.mp h1 with h | h1
 ·exact ⟨_, h2 _ mt1, by rw [h]⟩
 rcases b9r.mp h1 with h | h1
 ·exact ⟨_, h2 _ mt2, by rw [h]⟩
 rcases b9r.mp h1 with h | h1
 ·exact ⟨_, h2 _ mt3, by rw [h]⟩
 rcases b9r.mp h1 with h | h1
 ·exact ⟨_, h2 _ mt4, by rw [h]⟩
 ·exact ⟨p, h2 p (tl5 h1), rfl⟩
end
theorem era_N9 : True := trivial
theorem b3Z : True := by
 k_with "N9:call ref" => (k_here; ((with_reducible show wpAny _ _ (call (b9t 532) _) _ _ _); k_dflt (refine' FnX.use (a1u (by omega)) ?k1 ?k2 ?k3 ?k4 ?k5 ?k6 ?k7 ?k8 ?_ ?_); (case k4 => k_extra "g:k4"); k_extra "g:c1"; k_whole; rotate_left; (k_extra "g:x2"; obtain ⟨hbad, rfl, hsub, hcx⟩ := hX'; (try clear hX'); k_extra "g:x3"); rotate_right; (k_extra "g:c2"; obtain ⟨hgood, t', rfl, rfl⟩ := hR'; (try clear hR'); k_extra "g:c3"; k_extra "g:c4")))
 k_with "N9:call ref" => (k_here; ((with_reducible show wpAny _ _ (call (b9t 553) _) _ _ _); k_dflt (refine' FnX.use (a1J O2) ?k1 ?k2 ?k3 ?k4 ?k5 ?k6 ?k7 ?k8 ?_ ?_); (case k4 => k_extra "g:k4"); k_extra "g:c1"; k_whole; rotate_left; (k_extra "g:x2"; obtain ⟨hhas, rfl, hsub, hcx⟩ := hX'; (try clear hX'); k_extra "g:x3"); rotate_right; (k_extra "g:c2"; obtain ⟨hhas, rfl, rfl⟩ := hR'; (try clear hR'); k_extra "g:c3"; k_extra "g:c4")))
 k_with "N9:call ref" => (k_here; ((with_reducible show wpAny _ _ (call (b9t 475) _) _ _ _); k_dflt (refine' FnX.use (b0Z O2 (by omega)) ?k1 ?k2 ?k3 ?k4 ?k5 ?k6 ?k7 ?k8 ?_ ?_); (case k4 => k_extra "g:k4"); k_extra "g:c1"; k_whole; rotate_left; (k_extra "g:x2"; obtain ⟨hhas, rfl, hsub, hcx⟩ := hX'; (try clear hX'); k_extra "g:x3"); rotate_right; (k_extra "g:c2"; obtain ⟨⟨⟨rBb, rBd, rBl, rBg, rBod, rBx, rBk⟩, hrB, hrx, rfl⟩, rfl⟩ := hR'; (try clear hR'); k_extra "g:c3"; k_extra "g:c4")))
 k_with "N9:call ref" => (k_here; ((with_reducible show wpAny _ _ (call (b9t 598) _) _ _ _); k_dflt (refine' Fn.use (a2J O2 ⟨_, (by k_asm), rfl⟩ (by k_asm) (by (try dsimp only); omega) (by (try dsimp only); omega)) ?k1 ?k2 ?k3 ?k4 ?k5 ?k6 ?k7 ?k8 ?_); (case k4 => k_extra "g:k4"); k_extra "g:c1"; k_extra "g:c2"; obtain ⟨σ1, rfl, O3, eS, esubs, enxt, rN, erx, erk, ers⟩ := hR'; (try clear hR'); k_extra "g:c3"; k_extra "g:c4"))
 k_with "N9:call ref" => (k_here; ((with_reducible show wpAny _ _ (call (b9t 586) _) _ _ _); k_dflt (refine' FnX.use (a2q O2 (by (try dsimp only); omega) (by omega) (by omega) hl (hg hgood)) ?k1 ?k2 ?k3 ?k4 ?k5 ?k6 ?k7 ?k8 ?_ ?_); (case k4 => k_extra "g:k4"); k_extra "g:c1"; k_whole; rotate_left; (k_extra "g:x2"; obtain ⟨hbadP, rfl, hsub, hcx⟩ := hX'; (try clear hX'); k_extra "g:x3"); rotate_right; (k_extra "g:c2"; obtain ⟨ssP, addP, hSrtP, hnewP, rfl, hoffP, hdatP⟩ := hR'; (try clear hR'); k_extra "g:c3"; k_extra "g:c4")))
 k_with "N9:exec Assign cons ListComp" => ((k_here; k_dflt (refine c3z (F₀ := by k_asm) (by rfl) (by with_unfolding_all rfl) (by with_unfolding_all rfl) (by decide) (by rfl) (by decide) (by rfl) (by rfl) (by rfl) ?_)))
 k_with "N9:CompSrc" => ((k_here; refine a0c ?_))
 k_with "N9:exec For Tuple Call cons nil" => ((k_here; (rename Fr _ _ _ _ => lF'); (with_unfolding_all refine' c1O lF' ?_; k_whole)))
 k_with "N9:call type:zip" => ((k_here; refine a0c ?_))
 trivial
theorem a9q {l l' : Led} (h : [a] ++ l = l') : a ∈ l' := h ▸ .head _
theorem a9D (O : σ.ok w rest) (hxl : (a0a x).length ≤ 800 ∧ x.length ≤ 1900) (hyl : (a0a y).length ≤ 800 ∧ y.length ≤ 1900) (hn : σ.rs.length ≤ 50) (hv : σ.nxt < 4294967290) (hl : ∀ r ∈ σ.rs, r.x.length ≤ 800) (hg : a0k (a0a y) → ∀ r ∈ σ.rs, a0D (a0a x) r.x = true → a0k (a0a (a0g (a0a x) (a0a y) r.x)) ∧ a0a (a0g (a0a x) (a0a y) r.x) = a0g (a0a x) (a0a y) r.x) :
  FnX w G none 591 12 330 [.ref σ.S, .str x t, .str y u] (σ.led rest)
   (fun _ n => a0k (a0a y) ∧ a0u σ.rs (a0a x) = true ∧ a0u σ.rs (a0a y) = false ∧ ∃ σ' : StR, n = σ'.led rest ∧ σ'.ok w rest ∧ σ'.S = σ.S ∧ σ'.subs = σ.subs ∧
    ((a0a x = b9q "INBOX" ∧ σ'.nxt = σ.nxt + 1 ∧ ∃ r, r.x = a0a y ∧ r.k = σ.nxt ∧ σ'.rs = σ.rs ++ [r]) ∨
         (a0a x ≠ b9q "INBOX" ∧ σ'.nxt = σ.nxt ∧ ∃ ss ms, Srt ss (σ.rs.map (·.x)) ∧ (∀ z ∈ a0C (a0a x) ss, a0u σ.rs (a0g (a0a x) (a0a y) z) = false) ∧
      σ'.rs = (σ.rs.filter fun r => !a0D (a0a x) r.x) ++ ms ∧ xk ms = (a0C (a0a x) ss).map fun z => (a0g (a0a x) (a0a y) z, a1P σ.rs z))))
   (fun C D cx nx => (a0u σ.rs (a0a x) = false ∨ ¬ a0k (a0a y) ∨ a0u σ.rs (a0a y) = true ∨ (a0a x ≠ b9q "INBOX" ∧ ∃ r ∈ σ.rs, a0D (a0a x) r.x = true ∧ a0u σ.rs (a0g (a0a x) (a0a y) r.x) = true)) ∧ XF 64 (σ.led rest) C D cx nx) := by
 revert hxl hyl hn hv hl hg
 revert O; revert σ; revert cl9 G w x y u t rest; z_head
 intros hxl hyl hn hv hl hg
 have mk9 : a0b := trivial
 have hnames := O.names
 unfold StR.led
 (try unfold StR.led at H)
 dsimp only at *
 ktr_unf
 (with_reducible rename News g' L' _ _ => N8)
 obtain ⟨O2, N7, hm⟩ := StR.ok.push (add := [_]) O' N8 (a5p hAll (c0K _))
 have hm := hm _ (.head _)
 clear N8
 generalize hrest : [_] ++ rest = rest2 at O2 N7 hm
 have hR2 : ∀ p ∈ rest, p ∈ rest2 := fun p hp => hrest ▸ .tail _ hp
 unfold StR.led at N7
 dsimp only at N7
 obtain ⟨hx1, hx2⟩ := hxl
 obtain ⟨hy1, hy2⟩ := hyl
 k_steps
 ·have hval := a5C hnames hrB
  have hRo := O6 _ hrB
  obtain ⟨b1, b2, b3, b4, b5, b6, b7, b8, b9, b10, b11, b12, hRe⟩ := id hRo
  dsimp only at hRe hrx hRo
  subst hRe hrx
  have hRb := a5j (rest := rest2) hrB (b9D _ (b9D _ (c1z _)))
  have hRd := a5j (rest := rest2) hrB (b9D _ (b9D _ (b9D _ (c1z _))))
  dsimp only at hRb hRd
  dsimp only at hval
  have hold : a0u rs (a0a x) = true := c0R.mpr ⟨_, hrB, decide_eq_true rfl⟩
  have hxled : ∀ (σ : StR) (nx : Led), (∀ p ∈ σ.led rest2, p ∈ nx) → ∀ p ∈ σ.led rest, p ∈ nx := fun σ nx h p hp => h p (StR.led_mono hR2 hp)
  k_steps
  ·refine hret _ _ _ _ ⟨hgood, hold, hhas, σ1, rfl, StR.ok.sub O3 hR2, eS, esubs, .inl ⟨c0j (by assumption), enxt, rN, erx, erk, ers⟩⟩ (by k_asm) fun p hp => (by assumption : News h₀ L _ _) p (StR.led_mono hR2 hp)
  ·obtain ⟨lP, ysP, cP, rfl, hPm, hPd⟩ := a8m hdatP
   have hlx : ssP.length = rs.length := by rw [hSrtP.1.length_eq, b9z]
   have hlf : (a0C (a0a x) ssP).length ≤ ssP.length := c1A _ _
   have hly := a2c hPd
   rw [b9z] at hly
   obtain ⟨O5', N5', hm5⟩ := StR.ok.push_off (add := addP) O2 (by assumption) hoffP
   generalize hrest3 : addP ++ rest2 = rest3 at O5' N5' hm5
   have hR3 : ∀ p ∈ rest2, p ∈ rest3 := fun p hp => hrest3 ▸ b9s _ hp
   have hA3 : ∀ p ∈ addP, p ∈ rest3 := fun p hp => hrest3 ▸ b9G _ hp
   have hnd : (a0C (a0a x) ssP).Nodup := (hSrtP.1.nodup_iff.mpr hnames).filter _
   unfold a0f
   refine c1K (ax := lP) (its := ysP.toArray) rfl (by k_asm) N5' (StR.led_rest (hA3 _ hPm)) (by rw [b9O, b9H]; omega) ?_; intro g9
   refine a1l (fun i vs' n => ∃ ob1 rs1 ts, PopJ w _ rest3 (a0C (a0a x) ssP) i vs' n ob1 rs1 ts) ?_ ?_ _ 0 [] _ (c1J _) ⟨_, _, _, PopJ.zero O5'⟩
   ·revert cm9 i ys n; intro hi hR9; obtain ⟨ob1, rs1, ts, J⟩ := hR9; revert cm9 v I oI C oC D m₂ h tk E'; intro hv hC' hx' F9 N9 off ne
    obtain ⟨d, hd, hdv⟩ := a0Z hPd (by simpa using hv)
    rw [c0s, c0O] at hd
    obtain ⟨z, hxs, rfl⟩ := hd
    obtain ⟨T, kT, tx, tg, rfl, hT⟩ := a1s hdv
    obtain ⟨r, hr, hrx, hr'⟩ := J.get hnd hxs (hSrtP.1.mem_iff.mp (List.mem_filter.mp (b9Z hxs)).1)
    subst hrx
    have hO1 := J.out.ok
    have ap9 := a8L hO1
    have hdict := hO1.ob
    have hval := a5C hO1.names hr
    have hlen1 : rs1.length ≤ rs.length := by rw [J.left]; exact c1A _ _
    rw [J.led] at N9 off
    have o3 := off.mem
    obtain ⟨w1, w2, w3, w4, w5, w6, w7, w8, w9, w10⟩ := ap9
    have hmc : ∀ p ∈ rest3, p ∈ a0d rs1 (a0W ts ++ rest3) := fun p hp => b9s _ (b9s _ hp)
    have hTm := hmc _ (hA3 _ hT)
    have hcm := hmc _ (hR3 _ (a9q hrest))
    unfold a0G StR.led at N9 o3
    dsimp only [a0G] at N9 o3 w1 w2 w3 w4 w5 w6 w7 w8 w9 w10 hdict hval hTm hcm
    have oB := o3 (Bx, ob1) mt2
    obtain ⟨oB1, oB2, oB3⟩ := oB
    have oB1 := neN oB1
    have oB2 := neN oB2
    have oB3 := neN oB3
    dsimp only at oB1 oB2 oB3
    have hTt : IsTup h T _ := c0p N9 (tl7 hTm)
    as_aux_lemma =>
     (try clear mk9)
     k_steps
     (with_reducible rename News g' L' _ _ => N8)
     have hlt := J.sub (ob' := ob') hr
     unfold a0G at hlt
     dsimp only at hlt
     refine ⟨_, _, _, rfl, by k_asm, fun p hp => N8 p (b2C (.head _) mt1 mt2 (fun p hp => tl3 (hlt p hp)) p hp), LCg.Off3.of fun p hp => ?_, .inr ⟨_, StR.led_rest (b9s _ (hA3 _ hPm)), rfl, _, rfl⟩, ob', _, _, J.next hxs hr hr' hob'⟩
     rcases b9r.mp (hlt p hp) with h | hp
     ·exact o3 p (h ▸ .head _)
     rcases b9r.mp hp with h | hp
     ·exact o3 p (h ▸ mt1)
     rcases b9r.mp hp with h | hp
     ·rw [h]; exact ⟨oB1, oB2, oB3⟩
     ·exact o3 p (tl3 hp)
   ·revert cm9 ys n; intro hR9; obtain ⟨ob1, rs1, ts, J⟩ := hR9
    unfold LCg.FinA
    revert cm9 D2 h2 tk2; intro F2 N2 off2
    have off3 := a0T off2
    rw [J.led] at N2 off3
    have O6' := J.out.push (o := c0q ys) off3
    have N3 : News g' L' h2 _ := fun p hp => N2 p (b0q (q := (D2, c0q ys)) (a := a0W ts) (b := rest3) hp)
    have hJ := J
    clear N2 off3 off2
    generalize hrest4 : (D2, c0q ys) :: rest3 = rest4 at O6' N3
    have hR4 : ∀ p ∈ rest3, p ∈ rest4 := fun p hp => hrest4 ▸ .tail _ hp
    have hD4 : (D2, c0q ys) ∈ rest4 := hrest4 ▸ .head _
    have hT4 := b9s (rs1.flatMap BoxR.led) (b9s (a0W ts) hD4)
    have hP4 := b9s (rs1.flatMap BoxR.led) (b9s (a0W ts) (hR4 _ (hA3 _ hPm)))
    unfold a0G StR.led a0d at N3
    dsimp only at N3
    generalize htl4 : rs1.flatMap BoxR.led ++ (a0W ts ++ rest4) = tl4 at N3 hT4 hP4
    k_steps
    unfold a0f
    have hzs : ys.length = ts.length := by rw [hJ.vals, b9z]
    have hts : ts.length = ysP.length := by
     have := congrArg c0N hJ.names
     rw [b9z, c3d, b9H] at this
     exact this.trans (Nat.min_eq_left (c0o hly))
    have hN : News g' L' h2 ((a0G ⟨S, Sd, Bx, U, _, ob, listOf vs nU, rs, subs, nxt⟩ ob1 rs1).led (a0W ts ++ rest4)) := fun p hp => N3 p (by rw [← htl4]; exact hp)
    refine a4Q (l1 := D2) (l2 := lP) (xs := ys.toArray) (ys := ysP.toArray) (n1 := ys.length) (n2 := cP) (fun i m n => ∃ a b ob2 ms, m = a3o _ a b ∧ PutJ w _ rest4 rs1 ts ((a0C (a0a x) ssP).map (a0g (a0a x) (a0a y))) i n ob2 ms) ?_ ?_ rfl lF' hN ⟨_, _, _, _, a4C, PutJ.zero O6'⟩ ?_ ?_
    ·revert cm9 i m n; intro hR9; obtain ⟨a, b, ob2, ms, rfl, J2⟩ := hR9
     rw [J2.led]
     exact StR.led_rest (b9s _ hD4)
    ·revert cm9 i m n; intro hR9; obtain ⟨a, b, ob2, ms, rfl, J2⟩ := hR9
     rw [J2.led]
     exact StR.led_rest (b9s _ (hR4 _ (hA3 _ hPm)))
    ·revert cm9 i vx vy; intro T m₁ news₁ its h tk hx1 hy1 hR9; obtain ⟨fa, fb, ob2, ms, rfl, J2⟩ := hR9; intro off hT F1 N1
     obtain ⟨t, ht, hvx⟩ : ∃ t, ts[i]? = some t ∧ vx = .ref t.b := by
      rw [hJ.vals] at hx1
      have hx1 : (ts.map fun r => b9t r.b)[i]? = some vx := by simpa using hx1
      rw [c0s, c0O] at hx1
      obtain ⟨t, h1, h2⟩ := hx1
      exact ⟨t, h1, h2.symm⟩
     obtain ⟨d, hd, hdv⟩ := a0Z hPd (by simpa using hy1)
     rw [c0s, c0O] at hd
     obtain ⟨z, hxs, rfl⟩ := hd
     obtain ⟨T2, kT, tx, tg, rfl, hT2⟩ := a1s hdv
     have hgi : ((a0C (a0a x) ssP).map (a0g (a0a x) (a0a y)))[i]? = some (a0g (a0a x) (a0a y) z) := by rw [c0s, hxs]; rfl
     have PO := b2o J2 ht off
     have hhg := b1y J2 hJ.left hnewP hnd hxs
     have hlp := b1C J2 hJ.left
     have hN6 := fun p hp => N1 p (a6G J2 ht hp)
     have hdict := J2.out.ok.ob
     have hbk := (J2.drop ht).1.bk t (.head _)
     have hRt : ∀ p ∈ rest4, p ∈ a4B its t (rs1 ++ ms) (ts.drop (i + 1)) rest4 := fun p hp => b9s _ (tl2 (b9s _ (b9s _ hp)))
     have hcm := hRt _ (hR4 _ (hR3 _ (a9q hrest)))
     have hTm := hRt _ (hR4 _ (hA3 _ hT2))
     have hDm := hRt _ hD4
     have hPm2 := hRt _ (hR4 _ (hA3 _ hPm))
     have hbk2 := hbk
     obtain ⟨b1, b2, b3, b4, b5, b6, b7, b8, b9, b10, b11, b12, hRe⟩ := hbk2
     (revert t; intros r9; apply a5r r9; k_dflt (refine @((?_ : Ha7 _) _ _ _ _ _ _ _); clear r9; intros tb td tl tG tod tX tk9); refine Hd7.mk ?_; set_option tactic.hygienic false in intros)
     dsimp only at hRe hvx
     subst hRe hvx
     have hPO := PO
     obtain ⟨p1, p2, p3, p4, p5, p6, p7, p8, p9, p10, p11⟩ := PO
     unfold a0G at hdict
     dsimp only at p1 p2 p3 p4 p5 p6 p7 p8 p9 p10 p11 hN6 hcm hTm hDm hPm2 hlp hdict
     generalize htl5 : a4B its _ _ _ _ = tl5 at p1 p2 hN6 hcm hTm hDm hPm2
     have N5 : News g' L' h ((td, _) :: (tb, instObj 360 td) :: (S, instObj 490 Sd) :: (Sd, _) :: (Bx, ob2) :: (U, _) :: tl5) := hN6
     have N6 := nc (N5 _ (tl6 hTm)) N5
     have hT1 := neN (p1 _ hTm)
     have hT3 := neN (p2 _ hTm)
     dsimp only at hT1 hT3
     clear hN6 N5 N1
     replace p3 := neN p3
     replace p4 := neN p4
     replace p5 := neN p5
     replace p6 := neN p6
     replace p7 := neN p7
     replace p8 := neN p8
     replace p9 := neN p9
     replace p10 := neN p10
     replace p11 := neN p11
     have hdictI := hdict
     unfold a3o at F1
     as_aux_lemma =>
      (try clear mk9)
      k_steps
      (with_reducible rename News g' L' _ _ => N8)
      obtain ⟨od9, hod9, N7⟩ : ∃ od9, a5N w.params od9 (a0g (a0a x) (a0a y) z) tk9 tl tG ∧ News g' L' _ ((T2, _) :: (td, od9) :: (tb, instObj 360 td) :: (S, instObj 490 Sd) :: (Sd, _) :: (Bx, ob') :: (U, _) :: tl5) := ⟨_, ⟨_, _, _, _, _, _, _, _, _, _, _, _, rfl⟩, N8⟩
      refine a0l (by k_asm) N7 (fun p hp => .tail _ (by rw [← htl5]; exact a8T (t := ⟨tb, td, tl, tG, a3h, tX, tk9⟩) (t' := ⟨tb, td, tl, tG, od9, a0g (a0a x) (a0a y) z, tk9⟩) ⟨rfl, rfl, rfl, rfl⟩ rfl hp)) (b0h J2 ht (ob' := ob') (t' := ⟨tb, td, tl, tG, od9, a0g (a0a x) (a0a y) z, tk9⟩) ⟨rfl, rfl, rfl, rfl⟩ off) ⟨_, _, ob', _, a5Y, J2.next ht hgi (t' := ⟨tb, td, tl, tG, od9, a0g (a0a x) (a0a y) z, tk9⟩) ⟨rfl, rfl, rfl, rfl⟩ rfl rfl hod9 hhg hob'⟩
    ·revert cm9 m n h tk; intro hR9; obtain ⟨a, b, ob2, ms, rfl, J2⟩ := hR9; intro F1 N1
     have hend := b1O hJ J2 (by rw [b9H]; exact c0o hly.symm) (by rw [b9H, b9H]; exact Nat.le_min.mpr ⟨c0o hzs.symm, c0o hts⟩) hSrtP.1 hnames
     have hO2 := J2.out.ok.sub (rest' := rest) fun p hp => b9s _ (hR4 _ (hR3 _ (hR2 _ hp)))
     have hN2 : News g' L' h _ := fun p hp => N1 p (by rw [J2.led]; exact StR.led_mono (rest := rest) (fun q hq => b9s _ (hR4 _ (hR3 _ (hR2 _ hq)))) hp)
     clear N1
     unfold a0G StR.led at hN2
     dsimp only at hN2
     unfold a3o at F1
     k_steps
     exact hret _ _ _ _ ⟨hgood, hold, hhas, a0G _ ob2 (rs1 ++ ms), rfl, hO2, rfl, rfl, .inr ⟨ne_of_beq_false (by assumption), rfl, ssP, ms, hSrtP, hnewP, hend.1, hend.2⟩⟩ (by k_asm) (by assumption)
  ·exact hx _ _ _ _ _ _ _ ⟨.inr (.inr (.inr ⟨ne_of_beq_false (by assumption), hbadP⟩)), rfl, hxled _ _ hsub, hcx⟩ (by assumption)
 ·exact hx _ _ _ _ _ _ _ ⟨.inr (.inr (.inl hhas)), rfl, fun p hp => hsub p (StR.led_mono (σ := ⟨S, Sd, Bx, U, _, ob, listOf vs nU, rs, subs, nxt⟩) hR2 hp), hcx⟩ (by assumption)
 ·exact hx _ _ _ _ _ _ _ ⟨.inr (.inl hbad), rfl, fun p hp => hsub p (StR.led_mono (σ := ⟨S, Sd, Bx, U, _, ob, listOf vs nU, rs, subs, nxt⟩) hR2 hp), hcx⟩ (by assumption)
 ·exact hx _ _ _ _ _ _ _ ⟨.inl hhas, rfl, fun p hp => hsub p (StR.led_mono (σ := ⟨S, Sd, Bx, U, _, ob, listOf vs nU, rs, subs, nxt⟩) hR2 hp), hcx⟩ (by assumption)
section
variable {prog : Program} {w : World} {A : Around} {E : Value → Shared → Prop} {s : Shared}
theorem a7f {t : Addr} {x : Value} (hit : s.heap.IsTupleIter it t i) (ht : s.heap.IsTuple t items) (hx : items[i]? = some x) (hQ : ∀ h', h'.IsTupleIter it t (i + 1) → c1q it s.heap h' → Q x { s with heap := h' }) : wpAny (model prog w) A (c1Q (.ref it)) Q E s := by
 revert cl9 i it Q items prog w A E s t x
 intros hit ht hx hQ
 have mk9 : a0b := trivial
 obtain ⟨o, ho, hc, hd⟩ := id hit
 obtain ⟨ol, hol, _, nl, hdl⟩ := ht
 unfold c1Q
 refine wpAny_bind (c1c (name := b9q "__next__") hit.typeIs c3e (c0G c3e hit.typeIs c3U ?_ (c3V _)))
 show wpAny _ _ (field (.ref it) 0 >>= _) _ _ s
 refine wpAny_bind (b9Q ho hd (x := .ref t) rfl ?_)
 show wpAny _ _ (if (b9t t == b9P) = true then _ else _) _ _ s
 rw [if_neg (show ¬ ((b9t t == b9P) = true) from c2p)]
 show wpAny _ _ (field (.ref it) 1 >>= _) _ _ s
 refine wpAny_bind (b9Q ho hd (x := .int i 0) rfl ?_)
 show wpAny _ _ (seqItems? (.ref t) >>= _) _ _ s
 refine wpAny_bind (c0Q hol hdl ?_)
 simp only [c2q, hx]
 refine wpAny_bind (c0u ho hd (by simp) (wpAny_pure ⟨x, rfl, wpAny_pure (hQ _ ?_ (c0n ..))⟩))
 exact ⟨_, c0F _ ho (c0W (c0z hd _)), (c1W ..).trans hc, by rw [c0z hd]; simp [rawInt]⟩
theorem a8F {t : Addr} (hh : A.handled = none) (hit : s.heap.IsTupleIter it t i) (ht : s.heap.IsTuple t items) (hx : items[i]? = none) (hE : ∀ h' e, c1E it s.heap h' → (∃ o, h'.get? e = some o ∧ o.cls = .type "StopIteration") → E (.ref e) { s with heap := h' }) : wpAny (model prog w) A (c1Q (.ref it)) Q E s := by
 obtain ⟨o, ho, hc, hd⟩ := id hit
 obtain ⟨ol, hol, _, nl, hdl⟩ := ht
 unfold c1Q
 refine wpAny_bind (c1c (name := b9q "__next__") hit.typeIs c3e (c0G c3e hit.typeIs c3U ?_ (c3V _)))
 show wpAny _ _ (field (.ref it) 0 >>= _) _ _ s
 refine wpAny_bind (b9Q ho hd (x := .ref t) rfl ?_)
 show wpAny _ _ (if (b9t t == b9P) = true then _ else _) _ _ s
 rw [if_neg (show ¬ ((b9t t == b9P) = true) from c2p)]
 show wpAny _ _ (field (.ref it) 1 >>= _) _ _ s
 refine wpAny_bind (b9Q ho hd (x := .int i 0) rfl ?_)
 show wpAny _ _ (seqItems? (.ref t) >>= _) _ _ s
 refine wpAny_bind (c0Q hol hdl ?_)
 simp only [c2q, hx]
 refine wpAny_bind (c1d (wpAny_bind (c0u ho hd (by simp) ?_)))
 show wpAny _ _ (newExc (.type "StopIteration") [] >>= _) _ _ _
 refine wpAny_bind ?_
 simp only [newExc, newTuple]
 refine wpAny_bind (c0P ?_ (by size_fits))
 refine wpAny_bind (m := firstArgMember _ _) (wpAny_of_eq (a := b9P) (by first | rfl | (simp only [firstArgMember]; rfl)) ?_)
 refine c0P ?_ (by size_fits)
 simp only [raiseNew]
 refine wpAny_bind (wpAny_handled ?_)
 first | rw [show A.in1.handled = none from hh] | rw [hh]
 refine wpAny_bind (wpAny_pure (wpAny_throw ?_))
 exact hE _ _ (((c0n ..).extBut.push _).push _) ⟨_, b9R _ rfl, rfl⟩
structure ZipS (n : Nat) (t : Addr) (its : Array Value) (x : b9p) (ux : Tok) (f0 : Value) (i : Nat) (h : Heap) : Prop where
 z : IsZip h (n + 4) (n + 2) (n + 3) f0
 ti : IsPair h (n + 2) (.ref n) (.ref (n + 1))
 to : ∃ a b, IsPair h (n + 3) a b
 i1 : h.IsTupleIter n t i
 i2 : h.IsStrIter (n + 1) "str_ascii_iterator" x ux i
 l1 : h.IsTuple t its
theorem neA {a b : Nat} (h : a < b ∨ b < a) : @Ne Addr a b := by
 intro e
 have e : a = b := e
 omega
theorem ltA {a b : Nat} (h : a < b) : @Ne Addr a b := neA (.inl h)
theorem gtA {a b : Nat} (h : b < a) : @Ne Addr a b := neA (.inr h)
theorem ZipS.frame {t : Addr} {f0 : Value} (Z : ZipS n t its x ux f0 i h) (k : ∀ b ∈ [n + 4, n + 2, n + 3, n, n + 1, t], ∀ o, h.get? b = some o → h'.get? b = some o) : ZipS n t its x ux f0 i h' := by
 revert cl9 i n x ux h h' its t f0
 intros Z k
 have mk9 : a0b := trivial
 obtain ⟨hz, hTI, ⟨a, b, hTO⟩, ⟨o1, h1, r1⟩, ⟨o2, h2, r2⟩, ⟨o3, h3, r3⟩⟩ := Z
 exact ⟨k _ (by simp) _ hz, k _ (by simp) _ hTI, ⟨a, b, k _ (by simp) _ hTO⟩, ⟨o1, k _ (by simp) _ h1, r1⟩, ⟨o2, k _ (by simp) _ h2, r2⟩, ⟨o3, k _ (by simp) _ h3, r3⟩⟩
theorem ZipS.lt {t : Addr} {f0 : Value} (Z : ZipS n t its x ux f0 i h) : n + 4 < h.objs.size := b9x Z.z
theorem a8w {t : Addr} {v : Value} {Q : Option Value → Shared → Prop} (ht : @b9w Nat _ t n) (Z : ZipS n t its x ux .none i s.heap) (hv : its[i]? = some v) (hc : x.cps[i]? = some c) (hQ : ∀ h' u, ZipS n t its x ux (rawInt s.heap.objs.size) (i + 1) h' → IsPair h' s.heap.objs.size v (.str ⟨#[c]⟩ u) → (∀ b o, b ∉ [n + 4, n + 3, n, n + 1] → s.heap.get? b = some o → h'.get? b = some o) → Q (some (.ref s.heap.objs.size)) { s with heap := h', toks := s.toks + 1 }) :
  wpAny (model prog w) A (pyNext (.ref (n + 4))) Q E s := by
 revert cl9 c i n x ux its prog w A E s t v Q
 intros ht Z hv hc hQ
 obtain ⟨hz, hTI, ⟨a, b, hTO⟩, h1, h2, hl1⟩ := Z
 have hT : s.TypeIs (.ref (n + 4)) "zip" := ⟨_, hz, rfl⟩
 unfold pyNext
 refine wpAny_bind (c1F (c1c (name := b9q "__next__") hT c3f (c0G c3f hT PySem.F.entry_zip_next ?_ (PySem.F.args_zip_next_1 _))))
 show wpAny _ _ (field (.ref _) 2 >>= _) _ _ _
 refine wpAny_bind (b9Q hz rfl (x := .bool false) rfl ?_)
 show wpAny _ _ (field (.ref _) 3 >>= _) _ _ _
 refine wpAny_bind (b9Q hz rfl (x := .ref (n + 2)) rfl ?_)
 refine wpAny_bind (c0Q hTI rfl ?_)
 show wpAny _ _ (c3g (.ref _) >>= _) _ _ _
 refine wpAny_bind ?_
 unfold c3g
 refine wpAny_bind (b9Q hz rfl (x := .none) rfl (wpAny_pure ?_))
 simp only [if_true]
 refine wpAny_bind (c1d ?_)
 refine wpAny_bind (b9Q hz rfl (x := .ref (n + 3)) rfl ?_)
 refine wpAny_bind (c2E hz (by simp) fun h₁ hz₁ hs₁ => ?_)
 replace hz₁ : IsZip h₁ (n + 4) (n + 2) (n + 3) .ellipsis := hz₁
 refine wpAny_bind ?_
 simp only [List.zipIdx_cons, List.zipIdx_nil, List.forIn_cons, List.forIn_nil]
 refine wpAny_bind (wpAny_bind (wpAny_onRaise ?_))
 show wpAny _ _ (c1Q (.ref n) >>= _) _ _ _
 have up1 : ∀ b o, @Ne Addr b (n + 4) → s.heap.get? b = some o → h₁.get? b = some o := fun b o e q => hs₁.extBut _ _ e q
 refine wpAny_bind (a7f (h1.extBut hs₁.extBut (ltA (by omega))) (hl1.extBut hs₁.extBut (ltA (by omega))) hv fun h₂ h1₂ hs₂ => wpAny_pure ?_)
 have up2 : ∀ b o, @Ne Addr b (n + 4) → @Ne Addr b n → s.heap.get? b = some o → h₂.get? b = some o := fun b o e e' q => hs₂.extBut _ _ e' (up1 b o e q)
 have hTO₂ : IsPair h₂ (n + 3) a b := up2 _ _ (ltA (by omega)) (gtA (by omega)) hTO
 refine wpAny_bind (c0Q hTO₂ rfl ?_)
 refine wpAny_bind (wpAny_updateSeq_pair hTO₂ fun h₃ hTO₃ hs₃ => ?_)
 replace hTO₃ : IsPair h₃ (n + 3) v b := hTO₃
 refine wpAny_bind (c2s (wpAny_pure ?_))
 refine wpAny_bind (wpAny_bind (wpAny_onRaise ?_))
 show wpAny _ _ (c1Q (.ref (n + 1)) >>= _) _ _ _
 have up3 : ∀ b o, @Ne Addr b (n + 4) → @Ne Addr b n → @Ne Addr b (n + 3) → s.heap.get? b = some o → h₃.get? b = some o := fun b o e e' e'' q => hs₃.extBut _ _ e'' (up2 b o e e' q)
 refine wpAny_bind (wpAny_nextOf_ascii_item (((h2.extBut hs₁.extBut (ltA (by omega))).extBut hs₂.extBut (gtA (by omega))).extBut hs₃.extBut (ltA (by omega))) hc fun h₄ h2₄ hs₄ => wpAny_pure ?_)
 have hTO₄ : IsPair h₄ (n + 3) v b := hs₄.extBut _ _ (gtA (by omega)) hTO₃
 refine wpAny_bind (c0Q hTO₄ rfl ?_)
 refine wpAny_bind (wpAny_updateSeq_pair hTO₄ fun h₅ hTO₅ hs₅ => ?_)
 replace hTO₅ : IsPair h₅ (n + 3) v (.str ⟨#[c]⟩ s.toks) := hTO₅
 refine wpAny_bind (c2s (wpAny_pure (wpAny_pure ?_)))
 refine wpAny_bind (c0Q hTO₅ rfl ?_)
 refine wpAny_bind (wpAny_newTuple ?_)
 have hsz : h₅.objs.size = s.heap.objs.size := by rw [hs₅.1, hs₄.1, hs₃.1, hs₂.1, hs₁.1]
 have up5 : ∀ b o, @Ne Addr b (n + 4) → @Ne Addr b n → @Ne Addr b (n + 3) → @Ne Addr b (n + 1) → s.heap.get? b = some o → h₅.get? b = some o := fun b o e e' e'' e3 q => hs₅.extBut _ _ e'' (hs₄.extBut _ _ e3 (up3 b o e e' e'' q))
 have hz₅ : IsZip h₅ (n + 4) (n + 2) (n + 3) .ellipsis := hs₅.extBut _ _ (gtA (by omega)) (hs₄.extBut _ _ (gtA (by omega)) (hs₃.extBut _ _ (gtA (by omega)) (hs₂.extBut _ _ (gtA (by omega)) hz₁)))
 have h1₅ : h₅.IsTupleIter n t (i + 1) := ((h1₂.extBut hs₃.extBut (ltA (by omega))).extBut hs₄.extBut (ltA (by omega))).extBut hs₅.extBut (ltA (by omega))
 have h2₅ : h₅.IsStrIter (n + 1) "str_ascii_iterator" x ux (i + 1) := h2₄.extBut hs₅.extBut (ltA (by omega))
 have hzlt : @b9w Nat _ (n + 4) h₅.objs.size := b9x hz₅
 show wpAny _ _ (c3W (.ref _) (.ref h₅.objs.size) >>= _) _ _ _
 refine wpAny_bind ?_
 unfold c3W
 have hz₆ : IsZip (h₅.push { cls := .type "tuple", data := .seq #[v, .str ⟨#[c]⟩ s.toks] }) (n + 4) (n + 2) (n + 3) .ellipsis := b9B _ hz₅
 refine wpAny_bind (c2E hz₆ (by simp) fun h₇ hz₇ hs₇ => ?_)
 replace hz₇ : IsZip h₇ (n + 4) (n + 2) (n + 3) (rawInt h₅.objs.size) := hz₇
 refine c2E hz₇ (by simp) fun h₈ hz₈ hs₈ => ?_
 replace hz₈ : IsZip h₈ (n + 4) (n + 2) (n + 3) (rawInt h₅.objs.size) := hz₈
 have up8 : ∀ b o, @Ne Addr b (n + 4) → h₅.get? b = some o → h₈.get? b = some o := fun b o e q => hs₈.extBut _ _ e (hs₇.extBut _ _ e (b9B _ q))
 have hT₈ : IsPair h₈ h₅.objs.size v (.str ⟨#[c]⟩ s.toks) := hs₈.extBut _ _ (gtA hzlt) (hs₇.extBut _ _ (gtA hzlt) (b9R _ rfl))
 rw [hsz] at hz₈ hT₈
 refine wpAny_pure ⟨_, rfl, wpAny_pure ?_⟩
 show Q (some (.ref h₅.objs.size)) _
 rw [hsz]
 refine hQ h₈ s.toks ⟨hz₈, up8 _ _ (ltA (by omega)) (up5 _ _ (ltA (by omega)) (gtA (by omega)) (ltA (by omega)) (gtA (by omega)) hTI), ⟨_, _, up8 _ _ (ltA (by omega)) hTO₅⟩, ?_, ?_, ?_⟩ hT₈ fun b o hb q => ?_
 ·obtain ⟨o, q, r⟩ := h1₅; exact ⟨o, up8 _ _ (ltA (by omega)) q, r⟩
 ·obtain ⟨o, q, r⟩ := h2₅; exact ⟨o, up8 _ _ (ltA (by omega)) q, r⟩
 ·obtain ⟨o, q, r⟩ := hl1; exact ⟨o, up8 _ _ (ltA (by omega)) (up5 _ _ (ltA (by omega)) (ltA ht) (ltA (by omega)) (ltA (by omega)) q), r⟩
 ·simp only [b9r, c0f, or_false, not_or] at hb
  exact up8 b o hb.1 (up5 b o hb.1 hb.2.2.1 hb.2.1 hb.2.2.2 q)
theorem a9u {t : Addr} {Q : Option Value → Shared → Prop} (hh : A.handled = none) (ht : @b9w Nat _ t n) (Z : ZipS n t its x ux .none i s.heap) (hv : its[i]? = none) (hQ : ∀ h', (∀ b o, b ∉ [n + 4, n + 3, n, n + 1] → s.heap.get? b = some o → h'.get? b = some o) → Q none { s with heap := h' }) : wpAny (model prog w) A (pyNext (.ref (n + 4))) Q E s := by
 revert cl9 i n x ux its prog w A E s t Q
 intros hh ht Z hv hQ
 obtain ⟨hz, hTI, ⟨a, b, hTO⟩, h1, h2, hl1⟩ := Z
 have hT : s.TypeIs (.ref (n + 4)) "zip" := ⟨_, hz, rfl⟩
 unfold pyNext
 refine wpAny_bind (c1F (c1c (name := b9q "__next__") hT c3f (c0G c3f hT PySem.F.entry_zip_next ?_ (PySem.F.args_zip_next_1 _))))
 show wpAny _ _ (field (.ref _) 2 >>= _) _ _ _
 refine wpAny_bind (b9Q hz rfl (x := .bool false) rfl ?_)
 show wpAny _ _ (field (.ref _) 3 >>= _) _ _ _
 refine wpAny_bind (b9Q hz rfl (x := .ref (n + 2)) rfl ?_)
 refine wpAny_bind (c0Q hTI rfl ?_)
 show wpAny _ _ (c3g (.ref _) >>= _) _ _ _
 refine wpAny_bind ?_
 unfold c3g
 refine wpAny_bind (b9Q hz rfl (x := .none) rfl (wpAny_pure ?_))
 simp only [if_true]
 refine wpAny_bind (c1d ?_)
 refine wpAny_bind (b9Q hz rfl (x := .ref (n + 3)) rfl ?_)
 refine wpAny_bind (c2E hz (by simp) fun h₁ hz₁ hs₁ => ?_)
 replace hz₁ : IsZip h₁ (n + 4) (n + 2) (n + 3) .ellipsis := hz₁
 refine wpAny_bind ?_
 simp only [List.zipIdx_cons, List.zipIdx_nil, List.forIn_cons, List.forIn_nil]
 refine wpAny_bind (wpAny_bind (wpAny_onRaise ?_))
 show wpAny _ _ (c1Q (.ref n) >>= _) _ _ _
 refine wpAny_bind (a8F hh (h1.extBut hs₁.extBut (ltA (by omega))) (hl1.extBut hs₁.extBut (ltA (by omega))) hv fun h₂ e hs₂ he => ?_)
 obtain ⟨oe, hoe, hce⟩ := he
 have hz₂ : IsZip h₂ (n + 4) (n + 2) (n + 3) .ellipsis := hs₂ _ _ (gtA (by omega)) hz₁
 have hez : @Ne Addr e (n + 4) := fun x => by subst x; rw [hz₂] at hoe; cases hoe; simp at hce
 refine c2E hz₂ (by simp) fun h₃ _ hs₃ => ?_
 refine wpAny_bind (wpAny_isInstance (T := "StopIteration") (b := true) ⟨oe, hs₃.extBut _ _ hez hoe, hce⟩ isSubtype_stop ?_)
 refine wpAny_pure (hQ h₃ fun b o hb q => ?_)
 simp only [b9r, c0f, or_false, not_or] at hb
 exact hs₃.extBut _ _ hb.1 (hs₂ _ _ hb.2.2.1 (hs₁.extBut _ _ hb.1 q))
noncomputable abbrev zs1 (h : Heap) (t : Addr) : Heap := h.push { cls := .type "tuple_iterator", data := .fields #[.ref t, .int 0 0] }
noncomputable abbrev zs2 (h : Heap) (t : Addr) (x : b9p) (ux : Tok) : Heap := (zs1 h t).push { cls := .type "str_ascii_iterator", data := .fields #[.str x ux, .int 0 0] }
noncomputable abbrev zs3 (h : Heap) (t : Addr) (x : b9p) (ux : Tok) : Heap := (zs2 h t x ux).push { cls := .type "tuple", data := .seq #[.ref h.objs.size, .ref (zs1 h t).objs.size] }
noncomputable abbrev zs4 (h : Heap) (t : Addr) (x : b9p) (ux : Tok) : Heap := (zs3 h t x ux).push { cls := .type "tuple", data := .seq #[.none, .none] }
noncomputable abbrev zs5 (h : Heap) (t : Addr) (x : b9p) (ux : Tok) : Heap := (zs4 h t x ux).push { cls := .type "zip", data := .fields #[.none, .bool false, .bool false, .ref (zs2 h t x ux).objs.size, .ref (zs3 h t x ux).objs.size] }
theorem b0n (t : Addr) (its : Array Value) (x : b9p) (ux : Tok) (hx : x.cps.all (· < 128) = true) :
  Meets (PySem.Builtin.«zip.__new__» ⟨[.type "zip", .ref t, .str x ux], []⟩) (fun _ R s => s.heap.IsTuple t its ∧ R (.ok (.ret (.ref (zs4 s.heap t x ux).objs.size))) { s with heap := zs5 s.heap t x ux }) :=
 .of_wp fun prog w A R s h => by
  obtain ⟨hp, g, d, tk, os⟩ := s
  obtain ⟨hl1, h⟩ := h
  have hsub := sub_zip
  have hL1 : Heap.IsTuple (Shared.heap ⟨hp, g, d, tk, os⟩) t its := hl1
  k_with "w:1" => with_reducible apply wpAny_pyIter_tuple hL1
  k_with "w:2" => with_reducible apply wpAny_pyIter_ascii hx
  walk_say "@dbdbdpFbeFpFbdbddddbbh1pddbbh2pddppbddFddbapbddFddbapbddFddbapdp"
  exact ⟨_, rfl, h⟩
theorem a8i {t : Addr} (hx : x.cps.all (· < 128) = true) (hl1 : s.heap.IsTuple t its) (h : ∀ h', ZipS s.heap.objs.size t its x ux .none 0 h' → (∀ c o, s.heap.get? c = some o → h'.get? c = some o) → Q (.ref (s.heap.objs.size + 4)) { s with heap := h' }) :
  wpAny (model prog w) A (call (.type "zip") [.ref t, .str x ux]) Q E s := by
 revert cl9 x ux Q its prog w A E s t
 intros hx hl1 h
 have mk9 : a0b := trivial
 refine callType_new PySem.F.called_zip (by decide) (PySem.F.typeCall_zip_2 _ _) (PySem.F.newCall_zip_2 _ _) (fun obj => PySem.F.args_object_init_3 obj _ _) PySem.F.entry_zip_new (b0n t its x ux hx) ⟨hl1, ?_⟩
 have z1 : (zs1 s.heap t).objs.size = s.heap.objs.size + 1 := c0i ..
 have z2 : (zs2 s.heap t x ux).objs.size = s.heap.objs.size + 2 := by rw [c0i, z1]
 have z3 : (zs3 s.heap t x ux).objs.size = s.heap.objs.size + 3 := by rw [c0i, z2]
 have z4 : (zs4 s.heap t x ux).objs.size = s.heap.objs.size + 4 := by rw [c0i, z3]
 have g5 : (zs5 s.heap t x ux).get? (zs4 s.heap t x ux).objs.size = some _ := b9R _ rfl
 have g4 : (zs5 s.heap t x ux).get? (zs3 s.heap t x ux).objs.size = some _ := b9B _ (b9R _ rfl)
 have g3 : (zs5 s.heap t x ux).get? (zs2 s.heap t x ux).objs.size = some _ := b9B _ (b9B _ (b9R _ rfl))
 have g2 : (zs5 s.heap t x ux).get? (zs1 s.heap t).objs.size = some _ := b9B _ (b9B _ (b9B _ (b9R _ rfl)))
 have g1 : (zs5 s.heap t x ux).get? s.heap.objs.size = some _ := b9B _ (b9B _ (b9B _ (b9B _ (b9R _ rfl))))
 have up : ∀ c o, s.heap.get? c = some o → (zs5 s.heap t x ux).get? c = some o := fun c o q => b9B _ (b9B _ (b9B _ (b9B _ (b9B _ q))))
 show _ ∧ _
 rw [z2, z3, z4] at g5
 rw [z1, z2] at g3
 rw [z3] at g4
 rw [z1] at g2
 rw [z4]
 obtain ⟨o1, q1, r1⟩ := hl1
 exact ⟨⟨_, g5, rfl⟩, h _ ⟨g5, g3, ⟨_, _, g4⟩, ⟨_, g1, rfl, rfl⟩, ⟨_, g2, rfl, rfl⟩, ⟨o1, up _ _ q1, r1⟩⟩ up⟩
theorem a5z {elts : List Expr} {t : Addr} (hh : A.handled = none) (ht : @b9w Nat _ t n) (hx : x.cps.size = its.size) :
  KTurns prog w A (.Tuple elts k pos) (n + 4) [n + 4, n + 2, n + 3, n, n + 1, t] [n + 4, n + 3, n, n + 1] its.size
   (fun i v h => ∃ T a c u, v = .ref T ∧ its[i]? = some a ∧ x.cps[i]? = some c ∧ IsTup h T #[a, .str ⟨#[c]⟩ u])
   (fun i v h => ∃ T a c u, v = .ref T ∧ its[i]? = some a ∧ x.cps[i]? = some c ∧ IsPair h T a (.str ⟨#[c]⟩ u) ∧ ZipS n t its x ux (rawInt T) (i + 1) h ∧ T ∉ [n + 4, n + 3, n, n + 1])
   (fun i h => ZipS n t its x ux .none i h) where
 sub := fun c hc => by simp at hc ⊢; rcases hc with rfl | rfl | rfl | rfl <;> simp
 frame := fun i h h' Z hk => Z.frame hk
 item := fun i s Q E hi Z hQ => by
  have hlt := Z.lt
  refine a8w ht Z (c2g hi) (c2g (hx ▸ hi)) fun h' u Z' hT hk => hQ _ h' _ ⟨_, _, _, u, rfl, c2g hi, c2g (hx ▸ hi), hT, Z', ?_⟩ hk
  simp only [b9r, c0f, or_false, not_or]
  exact ⟨gtA hlt, gtA (by omega), gtA (by omega), gtA (by omega)⟩
 go := fun i v s Q E hm hQ => by
  obtain ⟨T, a, c, u, rfl, ha, hc, hT, Z, hof⟩ := hm
  simp only [b9r, c0f, or_false, not_or] at hof
  obtain ⟨hz, hTI, ⟨p, q, hTO⟩, ⟨o1, h1, r1⟩, ⟨o2, h2, r2⟩, ⟨o3, h3, r3⟩⟩ := Z
  refine wpAny_letOwnedTupleGo_zip hz fun h' hz' hs' => hQ h' ⟨T, a, c, u, rfl, ha, hc, ⟨_, hs'.extBut _ _ hof.1 hT, rfl, _, rfl⟩⟩ ?_ fun b o hb q => hs'.extBut _ _ (fun e => hb (by simp [e])) q
  exact ⟨hz', hs'.extBut _ _ (ltA (by omega)) hTI, ⟨p, q, hs'.extBut _ _ (ltA (by omega)) hTO⟩, ⟨o1, hs'.extBut _ _ (ltA (by omega)) h1, r1⟩, ⟨o2, hs'.extBut _ _ (ltA (by omega)) h2, r2⟩, ⟨o3, hs'.extBut _ _ (ltA (by omega)) h3, r3⟩⟩
 done := fun s Q E Z hQ => a9u hh ht Z (c3h (b9K _)) fun h' hk => hQ h' s.toks hk
variable {env : Env} {h₀ : Heap} {body : List Stmt} {Q : Flow → Shared → Prop}
theorem a7K {elts : List Expr} {t : Addr} {xs : Array Value} (J : Nat → (b9p → Option Value) → Led → Prop) (hJ : ∀ i m n, J i m n → (t, ({ cls := .type "tuple", data := .seq xs n1 } : Obj)) ∈ n) (ha : x.cps.all (· < 128) = true) (hx : x.cps.size = xs.size) (hh : A.handled = none) (F : Fr h₀ env.locals s.heap m₀) (N : News h₀ env.locals s.heap news) (hj : J 0 m₀ news) (turn : ∀ i a c u T m₁ news₁ its h tk, xs[i]? = some a → x.cps[i]? = some c → J i m₁ news₁ → a6Y its news₁ → IsTup h T #[a, .str ⟨#[c]⟩ u] → Fr h₀ env.locals h m₁ → News h₀ env.locals h (its ++ news₁) →
   wpAny (model prog w) A (assign (.Tuple elts k pos) env (.ref T)) (fun _ s₃ => wpAny (model prog w) A (execs body env) (a1o h₀ env.locals (J (i + 1)) its { s with heap := h, toks := tk } Q) E s₃) E { s with heap := h, toks := tk }) (done : ∀ m₁ news₁ h tk, J xs.size m₁ news₁ → Fr h₀ env.locals h m₁ → News h₀ env.locals h news₁ → Q .next { s with heap := h, toks := tk }) :
  wpAny (model prog w) A (call (.type "zip") [.ref t, .str x ux]) (fun xv s₁ => wpAny (model prog w) A (pyIter xv) (fun it s₂ => TurnsAt prog w A h₀ env (.Tuple elts k pos) body Q E it s₂) E s₁) E s := by
 revert cl9 k n1 m₀ x ux pos news prog w A E s env h₀ body Q elts t xs J
 intros hJ ha hx hh F N hj turn done
 have mk9 : a0b := trivial
 have hax := N _ (hJ _ _ _ hj)
 have hl : s.heap.IsTuple t xs := ⟨_, hax.1, rfl, n1, rfl⟩
 have hlt : @b9w Nat _ t s.heap.objs.size := b9x hax.1
 have hLs : @b9w Nat _ env.locals s.heap.objs.size := F.ns.lt
 refine a8i ha hl ?_; revert cm9 h' Z; intro hk
 refine wpAny_pyIter_zip Z.z ?_
 refine a1R (s := s) (tk0 := s.toks) (ws := [(s.heap.objs.size + 4, "zip"), (s.heap.objs.size + 2, "tuple"), (s.heap.objs.size + 3, "tuple"), (s.heap.objs.size, "tuple_iterator"), (s.heap.objs.size + 1, "str_ascii_iterator")]) (keep := [(t, ({ cls := .type "tuple", data := .seq xs n1 } : Obj))]) J ?_ (a5z hh hlt hx) ?_ ?_ ?_ ?_ ?_ ?_ Z (F.keeps hk) (N.grown hk) hj ?_ done
 ·revert cm9 i m n h p; intro hp
  rw [b9C.mp hp]; exact hJ _ _ _ h
 ·revert cm9 i h; intro hR9; obtain ⟨hz, hTI, ⟨a, b, hTO⟩, ⟨o1, ho1, hc1, _⟩, ⟨o2, ho2, hc2, _⟩, _⟩ := hR9
  have e1 : ∃ o : Obj, h.get? (s.heap.objs.size + 4) = some o ∧ o.cls = .type "zip" := ⟨_, hz, rfl⟩
  have e2 : ∃ o : Obj, h.get? (s.heap.objs.size + 2) = some o ∧ o.cls = .type "tuple" := ⟨_, hTI, rfl⟩
  have e3 : ∃ o : Obj, h.get? (s.heap.objs.size + 3) = some o ∧ o.cls = .type "tuple" := ⟨_, hTO, rfl⟩
  obtain ⟨q1, g1, k1⟩ := e1
  obtain ⟨q2, g2, k2⟩ := e2
  obtain ⟨q3, g3, k3⟩ := e3
  refine ⟨[(s.heap.objs.size + 4, q1), (s.heap.objs.size + 2, q2), (s.heap.objs.size + 3, q3), (s.heap.objs.size, o1), (s.heap.objs.size + 1, o2)], ⟨⟨rfl, k1⟩, ⟨rfl, k2⟩, ⟨rfl, k3⟩, ⟨rfl, hc1⟩, ⟨rfl, hc2⟩, trivial⟩, fun p hp => ?_⟩
  exact a0e (P := fun p : Addr × Obj => h.get? p.1 = some p.2) g1 (a0e g2 (a0e g3 (a0e ho1 (a0e ho2 a2e)))) p hp
 ·exact a0e ⟨.head _, c0Z F (c0y _ _)⟩ (a0e ⟨mt1, c0Z F (c0y _ _)⟩ (a0e ⟨mt2, c0Z F (c0y _ _)⟩ (a0e ⟨mt3, c0Z F (b9K _)⟩ (a0e ⟨mt4, c0Z F (c0y _ _)⟩ a2e))))
 ·exact a0e (.head _) (a0e mt2 (a0e mt3 (a0e mt4 a2e)))
 ·exact a0e (.inl (.head _)) (a0e (.inl mt1) (a0e (.inl mt2) (a0e (.inl mt3) (a0e (.inl mt4) (a0e (.inr ⟨_, .head _⟩) a2e)))))
 ·exact fun hI => a0e (P := fun b => env.locals ≠ b) (c0r 4 hLs) (a0e (c0r 2 hLs) (a0e (c0r 3 hLs) (a0e (b9v hLs) (a0e (c0r 1 hLs) (a0e (b9A hax.2.1) a2e))))) _ hI rfl
 ·exact fun p hp hI => a0e (P := fun b => p.1 ≠ b) (c0r 4 (b9x (N p hp).1)) (a0e (c0r 2 (b9x (N p hp).1)) (a0e (c0r 3 (b9x (N p hp).1)) (a0e (b9v (b9x (N p hp).1)) (a0e (c0r 1 (b9x (N p hp).1)) a2e)))) _ hI rfl
 ·revert cm9 i v m₁ news₁ is h tk; intro hi hR9; obtain ⟨T, a, c, u, rfl, hv, hc, hT⟩ := hR9; intro hJi hits hO F₁ N₁
  exact turn i a c u T m₁ news₁ is h tk hv hc hJi hO hT F₁ N₁
end
theorem era_Y1 : True := trivial
theorem a4Y {v : Int} : Fn w G none 501 2 30 [.int v t] news (fun r n => r = .bool true ∧ n = news) := by
 revert cl9 G w t news v
 have mk9 : a0b := trivial
 ktr_unf
 k_steps
 exact hret _ _ _ _ ⟨rfl, rfl⟩ (by k_asm) (by k_asm)
theorem b3K : True := by
 k_with "Y1:call ref" => (k_here; ((with_reducible show wpAny _ _ (call (b9t 501) _) _ _ _); k_dflt (refine' Fn.use a4Y ?k1 ?k2 ?k3 ?k4 ?k5 ?k6 ?k7 ?k8 ?_); (case k4 => k_extra "g:k4"); k_extra "g:c1"; k_extra "g:c2"; obtain ⟨rfl, rfl⟩ := hR'; (try clear hR'); k_extra "g:c3"; k_extra "g:c4"))
 trivial
noncomputable def a4q (a : Value) (c : Nat) : Prop := (∃ s u, a = .str s u ∧ c = 116) ∨ ∃ k u, a = .int k u ∧ c = 110
theorem a9f {s9 : b9p} {v : Tok} : Fn w G none 518 4 50 [.str s9 v, .str ⟨#[116]⟩ u] news (fun r n => r = .bool true ∧ n = news) := by
 revert cl9 G w u news s9 v
 have mk9 : a0b := trivial
 ktr_unf
 k_steps
 exact hret _ _ _ _ ⟨rfl, rfl⟩ (by k_asm) (by k_asm)
theorem a8t {k9 : Int} {v : Tok} : Fn w G none 518 4 50 [.int k9 v, .str ⟨#[110]⟩ u] news (fun r n => r = .bool true ∧ n = news) := by
 revert cl9 G w u news k9 v
 ktr_unf
 k_steps
 exact hret _ _ _ _ ⟨rfl, rfl⟩ (by k_asm) (by k_asm)
theorem b2s {a : Value} (h : a4q a c) : Fn w G none 518 4 50 [a, .str ⟨#[c]⟩ u] news (fun r n => r = .bool true ∧ n = news) := by
 revert cl9 G c w u news a
 intros h
 rcases h with ⟨s, v, rfl, rfl⟩ | ⟨k, v, rfl, rfl⟩
 ·exact a9f
 ·exact a8t
noncomputable def fr3 (x y z : b9p) (m₀ : b9p → Option Value) (a b c : Option Value) : b9p → Option Value := fun n => if n = z then c else if n = y then b else if n = x then a else m₀ n
noncomputable def fr2 (x y : b9p) (m₀ : b9p → Option Value) (a b : Option Value) : b9p → Option Value := fun n => if n = y then b else if n = x then a else m₀ n
theorem a2Y : m₀ = fr2 x y m₀ (m₀ x) (m₀ y) := by
 funext n
 unfold fr2
 by_cases e : n = y
 ·rw [if_pos e, e]
 ·rw [if_neg e]
  by_cases e2 : n = x
  ·rw [if_pos e2, e2]
  ·rw [if_neg e2]
theorem a4d {a b a' : Option Value} : (fun n : b9p => if n = y then b' else if n = x then a' else if n = y then b else if n = x then a else m₀ n) = fr2 x y m₀ a' b' := by
 revert cl9 m₀ x y b' a b a'
 have mk9 : a0b := trivial
 funext n
 unfold fr2
 by_cases e : n = y
 ·simp only [if_pos e]
 ·by_cases e2 : n = x
  ·simp only [if_neg e, if_pos e2]
  ·simp only [if_neg e, if_neg e2]
theorem a8o : m₀ = fr3 x y z m₀ (m₀ x) (m₀ y) (m₀ z) := by
 funext n
 unfold fr3
 by_cases e : n = z
 ·rw [if_pos e, e]
 ·rw [if_neg e]
  by_cases e2 : n = y
  ·rw [if_pos e2, e2]
  ·rw [if_neg e2]
   by_cases e3 : n = x
   ·rw [if_pos e3, e3]
   ·rw [if_neg e3]
theorem b2K {a b c : Option Value} (hxy : x ≠ y) (hxz : x ≠ z) : (fun n : b9p => if n = x then v else fr3 x y z m₀ a b c n) = fr3 x y z m₀ v b c := by
 revert cl9 m₀ x y z v a b c
 intros hxy hxz
 have mk9 : a0b := trivial
 funext n
 unfold fr3
 by_cases e : n = x
 ·subst e; simp only [if_neg hxz, if_neg hxy, if_true]
 ·simp only [if_neg e]
theorem b0i {a b c c' : Option Value} : (fun n : b9p => if n = z then c' else if n = y then b' else if n = z then c else if n = y then b else if n = x then a else m₀ n) = fr3 x y z m₀ a b' c' := by
 funext n
 unfold fr3
 by_cases e : n = z
 ·simp only [if_pos e]
 ·by_cases e2 : n = y
  ·simp only [if_neg e, if_pos e2]
  ·simp only [if_neg e, if_neg e2]
theorem a9a {a b : b9p} (F : Fr h₀ L s.heap m) (N : News h₀ L s.heap news) (e : c1C x y = [a, b]) (hy : (y.length == 0) = false) (hsz : x.length ≤ 1000) (h : ∀ D h' k ta tb, Fr h₀ L h' m → News h₀ L h' ((D, listOf #[.str a ta, .str b tb] 0) :: news) → (∀ p ∈ news, p.1 < D) → Q (.ref D) { s with heap := h', toks := k }) : wpAny (model prog w) A (call (.builtin "str.split") [.str x t, .str y u]) Q E s := by
 revert cl9 w m x y u t A h₀ L s Q E prog news a b
 intros F N e hy hsz h
 refine KSpl.split1 F N hy (fun D l h' k e' _ F' N' l1 => ?_) (by rw [b9O]; omega)
 rw [e] at e'
 obtain ⟨ta, l', rfl, e2⟩ := KSpl.cons_of e'
 obtain ⟨tb, l'', rfl, e3⟩ := KSpl.cons_of e2
 have e4 := KSpl.nil_of e3
 subst e4
 exact h D h' k ta tb F' N' l1
theorem a9J {prog : Program} {w : World} {A : Around} {E : Value → Shared → Prop} {s : Shared} {h₀ : Heap} {L : Addr} {m : b9p → Option Value} {news : Led} {value slice : Expr} {T : Addr} {x : Value} {l : List Value} {n : Nat} {u : Tok} {Q : Value → Shared → Prop}
  (F : Fr h₀ L s.heap m) (N : News h₀ L s.heap news) (hm : (T, ({ cls := .type "tuple", data := .seq (x :: l).toArray n } : Obj)) ∈ news) (hz : l.length ≤ 1000)
  (hs : subscripted slice false (.ref T) (.ref s.heap.objs.size) = operate [.ref s.heap.objs.size, .ref T] (getItem (.ref T) (.ref s.heap.objs.size))) (hg : ∀ r, letTemporaryGo value (.ref T) r = pure ())
  (h : ∀ h' D, Fr h₀ L h' m → News h₀ L h' ((D, ({ cls := .type "tuple", data := .seq l.toArray 0 } : Obj)) :: news) → (∀ p ∈ news, p.1 < D) → Q (.ref D) { s with heap := h' }) :
  wpAny (model prog w) A (subscriptTail value slice (.ref T) (.ref s.heap.objs.size)) Q E { s with heap := s.heap.push { cls := .type "slice", data := .fields #[.int 1 u, .none, .none] } } := by
 refine slice_tuple_from (a := 1) F N (c0p N hm) (b9K _) (by rw [b9H]; simp) (fun h' F' N' => h h' _ F' N' fun p hp => b9N (b9x (N p hp).1)) hs hg (by rw [b9O, b9H]; simp; omega)
theorem b4D : True := by
 k_with "Y1:subscriptTail Name Slice ref ref" => ((k_here; k_dflt (refine' a9J ?k1 ?k2 ?k3 ?k4 ?k5 ?k6 ?_; (case k1 => k_asm); (case k2 => k_asm); (case k3 => k_mem); (case k4 => omega); (case k5 => with_unfolding_all rfl); (case k6 => intro _; with_unfolding_all rfl)); intro h' D' F' N' l1; (try k_lt l1); (try k_sweep)))
 trivial
theorem b8V (n : Nat) : seqIndex? 0 (n + 1) = some 0 := by
 unfold seqIndex?
 simp
theorem b0O {x : Value} {l : List Value} (N : News h₀ L s.heap news) (hm : (T, ({ cls := .type "tuple", data := .seq (x :: l).toArray n } : Obj)) ∈ news) (h : Q x s) (hs : subscripted slice false (.ref T) (.int 0 u) = operate [.ref T, .int 0 u] (getItem (.ref T) (.int 0 u))) (hg : ∀ r, letTemporaryGo value (.ref T) r = pure ()) : wpAny (model prog w) A (subscriptTail value slice (.ref T) (.int 0 u)) Q E s :=
 item_tupleL (c0p N hm) (by decide) (by decide) (b8V _) rfl h hs hg
theorem b2c {x : Value} {l : List Value} (N : News h₀ L s.heap news) (hm : (T, ({ cls := .type "tuple", data := .seq (x :: l).toArray n } : Obj)) ∈ news) (hz : l.length ≤ 1000) (h : ∀ t k, Q (.int ((l.length : Int) + 1) t) { s with toks := k }) : wpAny (model prog w) A (call (.builtin "len") [.ref T]) Q E s :=
 len_tuple (c0p N hm) (by rw [b9H]; simp; omega) (by
  have e : (((x :: l).toArray.size : Nat) : Int) = (l.length : Int) + 1 := by rw [b9H]; simp
  rw [e]; exact h _ _)
theorem b4F : True := by
 k_with "Y1:subscriptTail Name Constant ref int" => ((k_here; k_dflt (refine' b0O ?k1 ?k2 ?_ ?k5 ?k6; (case k1 => k_asm); (case k2 => k_mem); (case k5 => with_unfolding_all rfl); (case k6 => intro _; with_unfolding_all rfl))))
 k_with "Y1:call builtin:len" => ((k_here; (with_reducible show wpAny _ _ (call (c1M _) [b9t _]) _ _ _); k_dflt (refine' b2c ?k1 ?k2 ?k3 ?_; (case k1 => k_asm); (case k2 => k_mem); (case k3 => omega)); intro t' k'))
 k_with "Y1:call type:zip" => ((k_here; refine a0c ?_))
 k_with "Y1:exec For Tuple Call cons nil" => ((k_here; (rename Fr _ _ _ _ => lF'); (with_unfolding_all refine' c1O lF' ?_; k_whole)))
 k_with "Y1:pyIter ref" => ((k_here; refine a0c ?_))
 trivial
noncomputable def shT : List (b9p × b9p × b9p) := [("create:tn", "create", "tn"), ("delete:t", "delete", "t"), ("rename:tt", "rename", "tt"), ("append:tfno", "append", "tfno"), ("flags:tnf", "flags", "tnf"), ("store:tutfn", "store", "tutfn"), ("expunge:tu", "expunge", "tu"), ("copy:tut", "copy", "tut"), ("move:tut", "move", "tut"), ("subscribe:t", "subscribe", "t"), ("unsubscribe:t", "unsubscribe", "t"), ("forget:tn", "forget", "tn"), ("snapshot:nfr", "snapshot", "nfr")].map fun p => (b9q p.1, b9q p.2.1, b9q p.2.2)
theorem b1A : ∀ p ∈ shT, p.1.length ≤ 1000 := by decide +kernel
theorem a8J : ∀ p ∈ shT, c1C p.1 (b9q ":") = [p.2.1, p.2.2] := by decide +kernel
theorem a7a {l : List b9p} (F : Fr h₀ L s.heap m) (N : News h₀ L s.heap news) (e : c1C x y = l) (hy : (y.length == 0) = false) (hsz : x.length ≤ 1000) (h : ∀ D its h' k, StrsAre its l → Fr h₀ L h' m → News h₀ L h' ((D, listOf its.toArray 0) :: news) → (∀ p ∈ news, p.1 < D) → Q (.ref D) { s with heap := h', toks := k }) : wpAny (model prog w) A (call (.builtin "str.split") [.str x t, .str y u]) Q E s :=
 KSpl.split1 F N hy (fun D l h' k e' S F' N' l1 => h D _ h' k (by rw [← e, ← e']; exact S) F' N' l1) (by rw [b9O]; omega)
theorem b5Z : True := by
 k_with "Y1:call ref" => (k_here; ((with_reducible show wpAny _ _ (call (b9t 518) _) _ _ _); k_dflt (refine' Fn.use (b2s (by k_asm)) ?k1 ?k2 ?k3 ?k4 ?k5 ?k6 ?k7 ?k8 ?_); (case k4 => k_extra "g:k4"); k_extra "g:c1"; k_extra "g:c2"; obtain ⟨rfl, rfl⟩ := hR'; (try clear hR'); k_extra "g:c3"; k_extra "g:c4"))
 trivial
section
theorem b4R : True := by
 k_with "Y1:call builtin:str.split" => ((k_here; k_dflt (refine' a7a (l := shT.map (·.1)) ?k1 ?k2 ?k3 ?k4 ?k5 ?_; (case k1 => k_asm); (case k2 => k_asm); (case k3 => decide +kernel); (case k4 => decide); (case k5 => decide +kernel)); intro D' its' h' tk' hS' F' N' l1; (try k_lt l1); (try k_sweep)))
 k_with "Y1:call builtin:str.split" => ((k_here; k_dflt (refine' a9a ?k1 ?k2 ?k3 ?k4 ?k5 ?_; (case k1 => k_asm); (case k2 => k_asm); (case k3 => assumption); (case k4 => decide); (case k5 => assumption)); intro D' h' tk' ta' tb' F' N' l1; (try k_lt l1); (try k_sweep)))
 trivial
theorem a1i {sh : b9p} {l : List Value} (hT : (T, ({ cls := .type "tuple", data := .seq (c0E wd tw :: l).toArray n } : Obj)) ∈ news) (hw : ∃ p ∈ shT, p.2.1 = wd) (hs : ∀ p ∈ shT, p.2.1 = wd → p.2.2 = sh) (hl : l.length = sh.length) (hl2 : l.length ≤ 2) (ha : sh.cps.all (· < 128) = true) (hf : ∀ (i : Nat) (a : Value) (c : Nat), l[i]? = some a → sh.cps[i]? = some c → a4q a c) :
  Fn w G none 525 8 90 [.ref T] news (fun _ m => m = news) := by
 revert cl9 G n w wd tw T news sh l
 intros hT hw hs hl hl2 ha hf
 have mk9 : a0b := trivial
 ktr_unf
 (with_reducible rename News _ _ _ news => N8)
 have N9 := nc (N8 _ hT) N8
 clear N8
 k_steps
 try (exfalso; omega)
 (with_reducible rename News _ _ _ _ => N7)
 rename StrsAre _ _ => hS2
 unfold a0f
 refine a3R (its := its'.toArray) (fun i m n => n = _ ∧ (∃ a b c, m = fr3 "entry" "word" "shape" _ a b c) ∧ ∀ p ∈ shT.take i, p.2.1 ≠ wd) (fun i m n h => by rw [h.1]; exact .head _) rfl (by k_asm) N7 ⟨rfl, ⟨_, _, _, a8o⟩, fun p hp => nomatch hp⟩ ?_ ?_
 ·revert cm9 i v m₁ news₁ I oI h tk; intro hi hv hR9; obtain ⟨rfl, ⟨a, b, c, rfl⟩, hno⟩ := hR9; intro offI F9 N9
  rw [b2K (by decide) (by decide)] at F9
  unfold fr3 at F9
  obtain ⟨x, tx, rfl, hxs⟩ := a0o hS2 (by simpa using hv)
  rw [c0s, c0O] at hxs
  obtain ⟨⟨e1, e2, e3⟩, hp, rfl⟩ := hxs
  have hpm := b9Z hp
  have hsp := a8J _ hpm
  have hle := b1A _ hpm
  have hs1 := hs _ hpm
  dsimp only at hsp hle hs1
  k_steps
  ·have he := hs1 (c0j (by assumption))
   subst he
   exfalso; omega
  ·have he := hs1 (c0j (by assumption))
   subst he
   unfold a0f
   (with_reducible rename News _ _ _ ((D', _) :: _) => N6)
   as_aux_lemma =>
    rename_i i0_ i1_ i2_ i3_ i4_ i5_ i6_ i7_ i8_ i9_ i10_ i11_ i12_ i13_ i14_ i15_ i16_ i17_ i18_ i19_ i20_ i21_ i22_ i23_ i24_
    revert hT hw hl2 B F XB N TB hk hdp hun hret X T FG' B' X' T' hS2 i9_ i10_ hi hR9 hno offI hp hv hpm hsp hle i14_ i15_ i17_ i18_ i22_ i24_ F' N6 hAll l1 hs hl ha hf hs1
    revert cl9 G n w wd tw news i0_ l dp un gd cn cs i1_ ccd cl outer A₀ base h₀ L m s Q E g' L' i2_ hH9 i3_ i4_ i5_ i6_ its' i7_ i8_ i I oI h i11_ a b c tx e1 e2 e3 i12_ i13_ tk' ta' tb' i16_ i19_ i20_ i21_ i23_ t' k' tk h' D'
    set_option tactic.hygienic false in intros
    refine a7K (xs := l.toArray) (n1 := 0) (fun i m n => n = _ ∧ ∃ a b, m = fr2 "value" "letter" _ a b) (fun i m n h => by rw [h.1]; exact .head _) ha (by rw [b9H]; exact hl.symm) rfl (by k_asm) N6 ⟨rfl, _, _, a2Y⟩ ?_ ?_
    ·revert cm9 i a c u T9 m₁ news₁ its9 h tk; intro hx1 hy1 hR9; obtain ⟨rfl, fa, fb, rfl⟩ := hR9; intro off9 hT9 F1 N1
     have hfit := hf i a c (by simpa using hx1) hy1
     unfold fr2 at F1
     k_steps
     exact a0l (by k_asm) (by assumption) (fun p hp => hp) off9 ⟨rfl, _, _, a4d⟩
    ·revert cm9 m n h tk; intro hR9; obtain ⟨rfl, fa, fb, rfl⟩ := hR9; intro F1 N1
     unfold fr2 at F1
     k_steps
     unfold a4G
     dsimp only
     k_steps
     exact hret _ _ _ _ rfl (by k_asm) fun p hp => (by assumption : News h₀ L _ _) p (by (repeat (refine' b9D _ ?_)); exact hp)
  ·have hne := ne_of_beq_false (show (e2 == wd) = false by assumption)
   exact a0V (by k_asm) (by assumption) (fun p hp => .tail _ hp) offI ⟨rfl, ⟨_, _, _, b0i⟩, fun p hp => by
    rw [c0H, ‹shT[i]? = _›, c0S] at hp
    rcases b9y.mp hp with hp | hp
    ·exact hno p hp
    ·rw [b9C.mp hp]; exact hne⟩
 ·revert cm9 m₁ news₁ h tk; intro hR9; obtain ⟨rfl, ⟨a, b, c, rfl⟩, hno⟩ := hR9; intro F9 N9
  obtain ⟨p, hp, hpw⟩ := hw
  exact absurd hpw (hno p (by rw [c0A]; exact hp; rw [b9H, hS2.length, b9z]; exact b9K _))
end
theorem era_Y2 : True := trivial
theorem b4d : True := by
 k_with "Y2:call ref" => (k_here; ((with_reducible show wpAny _ _ (call (b9t 579) _) _ _ _); k_dflt (refine' FnX.use (a9n O2 (by omega) (by (try dsimp only); omega)) ?k1 ?k2 ?k3 ?k4 ?k5 ?k6 ?k7 ?k8 ?_ ?_); (case k4 => k_extra "g:k4"); k_extra "g:c1"; k_whole; rotate_left; (k_extra "g:x2"; obtain ⟨hhas, rfl, hsub, hcx⟩ := hX'; (try clear hX'); k_extra "g:x3"); rotate_right; (k_extra "g:c2"; obtain ⟨hhas, hnin, σ1, rfl, O3, eS, esubs, enxt, ers⟩ := hR'; (try clear hR'); k_extra "g:c3"; k_extra "g:c4")))
 k_with "Y2:call ref" => (k_here; ((with_reducible show wpAny _ _ (call (b9t 572) _) _ _ _); k_dflt (refine' FnX.use (a9z O2 (by omega) (by (try dsimp only); omega) (by (try dsimp only); omega) (by omega)) ?k1 ?k2 ?k3 ?k4 ?k5 ?k6 ?k7 ?k8 ?_ ?_); (case k4 => k_extra "g:k4"); k_extra "g:c1"; k_whole; rotate_left; (k_extra "g:x2"; obtain ⟨hhas, rfl, hsub, hcx⟩ := hX'; (try clear hX'); k_extra "g:x3"); rotate_right; (k_extra "g:c2"; obtain ⟨hgood, hhas, σ1, rfl, O3, eS, esubs, enxt, rN, erx, erk, ers⟩ := hR'; (try clear hR'); k_extra "g:c3"; k_extra "g:c4")))
 k_with "Y2:call ref" => (k_here; ((with_reducible show wpAny _ _ (call (b9t 638) _) _ _ _); k_dflt (refine' FnX.use (a4F O2 (by omega) (by (try dsimp only); omega)) ?k1 ?k2 ?k3 ?k4 ?k5 ?k6 ?k7 ?k8 ?_ ?_); (case k4 => k_extra "g:k4"); k_extra "g:c1"; k_whole; rotate_left; (k_extra "g:x2"; obtain ⟨hbad, rfl, hsub, hcx⟩ := hX'; (try clear hX'); k_extra "g:x3"); rotate_right; (k_extra "g:c2"; obtain ⟨hgood, σ1, rfl, O3, eS, ers, enxt, esubs⟩ := hR'; (try clear hR'); k_extra "g:c3"; k_extra "g:c4")))
 k_with "Y2:call ref" => (k_here; ((with_reducible show wpAny _ _ (call (b9t 643) _) _ _ _); k_dflt (refine' FnX.use (a3s O2 (by omega) (by (try dsimp only); omega)) ?k1 ?k2 ?k3 ?k4 ?k5 ?k6 ?k7 ?k8 ?_ ?_); (case k4 => k_extra "g:k4"); k_extra "g:c1"; k_whole; rotate_left; (k_extra "g:x2"; obtain ⟨hin, rfl, hsub, hcx⟩ := hX'; (try clear hX'); k_extra "g:x3"); rotate_right; (k_extra "g:c2"; obtain ⟨hin, σ1, rfl, O3, eS, ers, enxt, esubs⟩ := hR'; (try clear hR'); k_extra "g:c3"; k_extra "g:c4")))
 k_with "Y2:call ref" => (k_here; ((with_reducible show wpAny _ _ (call (b9t 591) _) _ _ _); k_dflt (refine' FnX.use (a9D O2 (by k_asm) (by k_asm) (by (try dsimp only); omega) (by (try dsimp only); omega) hl hg) ?k1 ?k2 ?k3 ?k4 ?k5 ?k6 ?k7 ?k8 ?_ ?_); (case k4 => k_extra "g:k4"); k_extra "g:c1"; k_whole; rotate_left; (k_extra "g:x2"; obtain ⟨hbadR, rfl, hsub, hcx⟩ := hX'; (try clear hX'); k_extra "g:x3"); rotate_right; (k_extra "g:c2"; obtain ⟨hgood, hhas, hhas2, σ1, rfl, O3, eS, esubs, ecase⟩ := hR'; (try clear hR'); k_extra "g:c3"; k_extra "g:c4")))
 k_with "Y2:call ref" => (k_here; ((with_reducible show wpAny _ _ (call (b9t 525) _) _ _ _); k_dflt (refine' Fn.use (hck ?kU) ?k1 ?k2 ?k3 ?k4 ?k5 ?k6 ?k7 ?k8 ?_); (case k4 => k_extra "g:k4"); (case kU => k_mem); k_extra "g:c1"; k_extra "g:c2"; obtain rfl := hR'; (try clear hR'); k_extra "g:c3"; k_extra "g:c4"))
 trivial
theorem a2u : a4q (.str x t) 116 := .inl ⟨x, t, rfl, rfl⟩
theorem b0G {k : Int} : a4q (.int k t) 110 := .inr ⟨k, t, rfl, rfl⟩
noncomputable def tup (vs : Array Value) (n : Nat) : Obj := { cls := .type "tuple", data := .seq vs n }
theorem b0F {a : Value} (h : a4q a c) : ∀ (i : Nat) (b : Value) (d : Nat), [a][i]? = some b → (⟨#[c]⟩ : b9p).cps[i]? = some d → a4q b d := fun i b d e1 e2 => by
 cases i with
 | zero => exact b9U e1 ▸ b9U e2 ▸ h
 | succ i => exact nomatch (show (none : Option Value) = some b from e1)
theorem a6F {a b : Value} {d : Nat} (h : a4q a c) (h' : a4q b d) : ∀ (i : Nat) (v : Value) (e : Nat), [a, b][i]? = some v → (⟨#[c, d]⟩ : b9p).cps[i]? = some e → a4q v e := fun i v e e1 e2 => by
 cases i with
 | zero => exact b9U e1 ▸ b9U e2 ▸ h
 | succ i => cases i with
  | zero => exact b9U e1 ▸ b9U e2 ▸ h'
  | succ i => exact nomatch (show (none : Option Value) = some v from e1)
theorem a5g {k : Int} {t1 t2 t3 : Tok} (h : (T, tup #[.str (b9q "create") t1, .str x t2, .int k t3] n) ∈ news) : Fn w G none 525 8 90 [.ref T] news (fun _ m => m = news) :=
 a1i (l := [.str x t2, .int k t3]) (sh := b9q "tn") h (by decide +kernel) (by decide +kernel) rfl (b9K _) (by decide +kernel) (a6F a2u b0G)
theorem a4U {t1 t2 t3 : Tok} (h : (T, tup #[.str (b9q "rename") t1, .str x t2, .str y t3] n) ∈ news) : Fn w G none 525 8 90 [.ref T] news (fun _ m => m = news) :=
 a1i (l := [.str x t2, .str y t3]) (sh := b9q "tt") h (by decide +kernel) (by decide +kernel) rfl (b9K _) (by decide +kernel) (a6F a2u a2u)
theorem b2Y : ∀ wd ∈ [b9q "delete", b9q "subscribe", b9q "unsubscribe"], ∃ p ∈ shT, p.2.1 = wd := by decide +kernel
theorem b3y : ∀ wd ∈ [b9q "delete", b9q "subscribe", b9q "unsubscribe"], ∀ p ∈ shT, p.2.1 = wd → p.2.2 = b9q "t" := by decide +kernel
theorem a8k {t1 t2 : Tok} (hw : wd ∈ [b9q "delete", b9q "subscribe", b9q "unsubscribe"]) (h : (T, tup #[.str wd t1, .str x t2] n) ∈ news) : Fn w G none 525 8 90 [.ref T] news (fun _ m => m = news) := by
 refine a1i (l := [.str x t2]) (sh := b9q "t") h (b2Y _ hw) (b3y _ hw) rfl (c2h _) (by decide +kernel) (b0F a2u)
inductive Deed where
 | create (x : b9p)
 | delete (x : b9p)
 | rename (x y : b9p)
 | subscribe (x : b9p)
 | unsubscribe (x : b9p)
theorem b2Z : Nonempty Deed := ⟨.create default⟩
noncomputable def a7O (nxt : Int) : Deed → List Value → Prop
 | .create x, vs => ∃ t1 t2 t3, vs = [.str (b9q "create") t1, .str x t2, .int nxt t3]
 | .delete x, vs => ∃ t1 t2, vs = [.str (b9q "delete") t1, .str x t2]
 | .rename x y, vs => ∃ t1 t2 t3, vs = [.str (b9q "rename") t1, .str x t2, .str y t3]
 | .subscribe x, vs => ∃ t1 t2, vs = [.str (b9q "subscribe") t1, .str x t2]
 | .unsubscribe x, vs => ∃ t1 t2, vs = [.str (b9q "unsubscribe") t1, .str x t2]
noncomputable def a2L (σ : StR) (d : Deed) (σ' : StR) : Prop := match d with
 | .create x => a0k (a0a x) ∧ a0u σ.rs (a0a x) = false ∧ σ'.subs = σ.subs ∧ σ'.nxt = σ.nxt + 1 ∧ ∃ r, r.x = a0a x ∧ r.k = σ.nxt ∧ σ'.rs = σ.rs ++ [r]
 | .delete x => a0u σ.rs (a0a x) = true ∧ a0a x ≠ b9q "INBOX" ∧ σ'.subs = σ.subs ∧ σ'.nxt = σ.nxt ∧ σ'.rs = σ.rs.filter fun r => decide (r.x ≠ a0a x)
 | .rename x y => a0k (a0a y) ∧ a0u σ.rs (a0a x) = true ∧ a0u σ.rs (a0a y) = false ∧ σ'.subs = σ.subs ∧
    ((a0a x = b9q "INBOX" ∧ σ'.nxt = σ.nxt + 1 ∧ ∃ r, r.x = a0a y ∧ r.k = σ.nxt ∧ σ'.rs = σ.rs ++ [r]) ∨
         (a0a x ≠ b9q "INBOX" ∧ σ'.nxt = σ.nxt ∧ ∃ ss ms, Srt ss (σ.rs.map (·.x)) ∧ (∀ z ∈ a0C (a0a x) ss, a0u σ.rs (a0g (a0a x) (a0a y) z) = false) ∧
      σ'.rs = (σ.rs.filter fun r => !a0D (a0a x) r.x) ++ ms ∧ xk ms = (a0C (a0a x) ss).map fun z => (a0g (a0a x) (a0a y) z, a1P σ.rs z)))
 | .subscribe x => a0k (a0a x) ∧ σ'.rs = σ.rs ∧ σ'.nxt = σ.nxt ∧ if (σ.subs.any fun y => y == a0a x) = true then σ'.subs = σ.subs else Srt σ'.subs (σ.subs ++ [a0a x])
 | .unsubscribe x => (σ.subs.any fun y => y == a0a x) = true ∧ σ'.rs = σ.rs ∧ σ'.nxt = σ.nxt ∧ σ'.subs = σ.subs.filter fun y => y != a0a x
noncomputable def a3c (σ : StR) (d : Deed) : Prop := match d with
 | .create x => ¬ (a0k (a0a x) ∧ a0u σ.rs (a0a x) = false)
 | .delete x => a0u σ.rs (a0a x) = false ∨ a0a x = b9q "INBOX"
 | .rename x y => a0u σ.rs (a0a x) = false ∨ ¬ a0k (a0a y) ∨ a0u σ.rs (a0a y) = true ∨ (a0a x ≠ b9q "INBOX" ∧ ∃ r ∈ σ.rs, a0D (a0a x) r.x = true ∧ a0u σ.rs (a0g (a0a x) (a0a y) r.x) = true)
 | .subscribe x => ¬ a0k (a0a x)
 | .unsubscribe x => (σ.subs.any fun y => y == a0a x) = false
noncomputable def a3N (σ : StR) (d : Deed) : Prop := match d with
 | .create x => x.length ≤ 1900
 | .delete x => x.length ≤ 1900
 | .rename x y => ((a0a x).length ≤ 800 ∧ x.length ≤ 1900) ∧ ((a0a y).length ≤ 800 ∧ y.length ≤ 1900) ∧ (a0k (a0a y) → ∀ r ∈ σ.rs, a0D (a0a x) r.x = true → a0k (a0a (a0g (a0a x) (a0a y) r.x)) ∧ a0a (a0g (a0a x) (a0a y) r.x) = a0g (a0a x) (a0a y) r.x)
 | .subscribe x => x.length ≤ 1900
 | .unsubscribe x => x.length ≤ 1900
structure Bd (σ : StR) : Prop where
 rs : σ.rs.length ≤ 50
 subs : σ.subs.length ≤ 50
 nxt : σ.nxt < 4294967290
 xl : ∀ r ∈ σ.rs, r.x.length ≤ 800
theorem a4I {t1 t2 t3 : Tok} (O : σ.ok w rest) (hT : (T, tup #[.str (b9q "create") t1, .str x t2, .int σ.nxt t3] n) ∈ rest) (hb : Bd σ) (hd : a3N σ (.create x)) :
  FnX w G none 674 14 420 [.ref σ.S, .ref T] (σ.led rest) (fun _ n => ∃ σ' : StR, n = σ'.led rest ∧ σ'.ok w rest ∧ σ'.S = σ.S ∧ a2L σ (.create x) σ') (fun C D cx nx => a3c σ (.create x) ∧ XF 64 (σ.led rest) C D cx nx) := by
 revert hT hb hd
 revert O; revert σ; revert cl9 G n w x T rest t1 t2 t3; z_head
 intros hT hb hd
 have mk9 : a0b := trivial
 have hTm := b9s (rs.flatMap BoxR.led) hT
 obtain ⟨hn, hsb, hv, hl⟩ := hb
 have hd : x.length ≤ 1900 := hd
 have hck : ∀ {G : Gl} {news : Led}, (T, tup #[.str (b9q "create") t1, .str x t2, .int nxt t3] n) ∈ news → Fn w G none 525 8 90 [.ref T] news (fun _ m => m = news) := fun h => a5g h
 unfold StR.led
 (try unfold StR.led at H)
 dsimp only at *
 ktr_unf
 unfold tup at hck hTm
 (with_reducible rename News _ _ _ _ => N8)
 have N7 := nc (N8 _ (tl4 hTm)) N8
 clear N8
 k_steps
 ·exact hret _ _ _ _ ⟨σ1, rfl, O3, eS, hgood, hhas, esubs, enxt, rN, erx, erk, ers⟩ (by k_asm) (by k_asm)
 ·exact hx _ _ _ _ _ _ _ ⟨hhas, rfl, fun p hp => hsub p hp, hcx⟩ (by assumption)
theorem a4P {t1 t2 t3 : Tok} (O : σ.ok w rest) (hT : (T, tup #[.str (b9q "rename") t1, .str x t2, .str y t3] n) ∈ rest) (hb : Bd σ) (hd : a3N σ (.rename x y)) :
  FnX w G none 674 14 420 [.ref σ.S, .ref T] (σ.led rest) (fun _ n => ∃ σ' : StR, n = σ'.led rest ∧ σ'.ok w rest ∧ σ'.S = σ.S ∧ a2L σ (.rename x y) σ') (fun C D cx nx => a3c σ (.rename x y) ∧ XF 64 (σ.led rest) C D cx nx) := by
 revert hT hb hd
 revert O; revert σ; revert cl9 G n w x y T rest t1 t2 t3; z_head
 intros hT hb hd
 have mk9 : a0b := trivial
 have hTm := b9s (rs.flatMap BoxR.led) hT
 obtain ⟨hn, hsb, hv, hl⟩ := hb
 obtain ⟨hx1, hx2, hg⟩ := hd
 have hck : ∀ {G : Gl} {news : Led}, (T, tup #[.str (b9q "rename") t1, .str x t2, .str y t3] n) ∈ news → Fn w G none 525 8 90 [.ref T] news (fun _ m => m = news) := fun h => a4U h
 unfold StR.led
 (try unfold StR.led at H)
 dsimp only at *
 ktr_unf
 unfold tup at hck hTm
 (with_reducible rename News _ _ _ _ => N8)
 have N7 := nc (N8 _ (tl4 hTm)) N8
 clear N8
 k_steps
 ·exact hret _ _ _ _ ⟨σ1, rfl, O3, eS, hgood, hhas, hhas2, esubs, ecase⟩ (by k_asm) (by k_asm)
 ·exact hx _ _ _ _ _ _ _ ⟨hbadR, rfl, fun p hp => hsub p hp, hcx⟩ (by assumption)
noncomputable def b3F (σ : StR) (x W : b9p) (σ' : StR) : Prop := (W = b9q "delete" ∧ a2L σ (.delete x) σ') ∨ (W = b9q "subscribe" ∧ a2L σ (.subscribe x) σ') ∨ (W = b9q "unsubscribe" ∧ a2L σ (.unsubscribe x) σ')
noncomputable def b3E (σ : StR) (x W : b9p) : Prop := (W = b9q "delete" ∧ a3c σ (.delete x)) ∨ (W = b9q "subscribe" ∧ a3c σ (.subscribe x)) ∨ (W = b9q "unsubscribe" ∧ a3c σ (.unsubscribe x))
theorem b3l : ∀ W ∈ [b9q "delete", b9q "subscribe", b9q "unsubscribe"], ((W == b9q "create") = false ∧ (W == b9q "rename") = false ∧ (W == b9q "append") = false ∧ (W == b9q "flags") = false ∧ (W == b9q "store") = false ∧ (W == b9q "expunge") = false ∧ (W == b9q "copy") = false ∧ (W == b9q "move") = false ∧ (W == b9q "forget") = false) ∧ ((W == b9q "delete") = true ∨ (W == b9q "subscribe") = true ∨ (W == b9q "unsubscribe") = true) := by decide +kernel
theorem a6H {W a b c : b9p} (h : (W == a) = true ∨ (W == b) = true ∨ (W == c) = true) (h1 : (W == a) = false) (h2 : (W == b) = false) : W = c := by
 rcases h with h | h | h
 ·rw [h1] at h; cases h
 ·rw [h2] at h; cases h
 ·exact c0j h
theorem a3g {W : b9p} {t1 t2 : Tok} (O : σ.ok w rest) (hT : (T, tup #[.str W t1, .str x t2] n) ∈ rest) (hb : Bd σ) (hd : x.length ≤ 1900) (hW : W ∈ [b9q "delete", b9q "subscribe", b9q "unsubscribe"]) :
  FnX w G none 674 14 420 [.ref σ.S, .ref T] (σ.led rest) (fun _ n => ∃ σ' : StR, n = σ'.led rest ∧ σ'.ok w rest ∧ σ'.S = σ.S ∧ b3F σ x W σ') (fun C D cx nx => b3E σ x W ∧ XF 64 (σ.led rest) C D cx nx) := by
 revert hT hb hd hW
 revert O; revert σ; revert cl9 G n w x T rest W t1 t2; z_head
 intros hT hb hd hW
 have mk9 : a0b := trivial
 have hTm := b9s (rs.flatMap BoxR.led) hT
 obtain ⟨hn, hsb, hv, hl⟩ := hb
 obtain ⟨⟨w1, w2, w3, w4, w5, w6, w7, w8, w9⟩, wA⟩ := b3l W hW
 have hck : ∀ {G : Gl} {news : Led}, (T, tup #[.str W t1, .str x t2] n) ∈ news → Fn w G none 525 8 90 [.ref T] news (fun _ m => m = news) := fun h => a8k hW h
 unfold StR.led
 (try unfold StR.led at H)
 dsimp only at *
 ktr_unf
 unfold tup at hck hTm
 (with_reducible rename News _ _ _ _ => N8)
 have N7 := nc (N8 _ (tl4 hTm)) N8
 clear N8
 k_steps
 ·exact hret _ _ _ _ ⟨σ1, rfl, O3, eS, .inl ⟨c0j (by assumption), hhas, hnin, esubs, enxt, ers⟩⟩ (by k_asm) (by k_asm)
 ·exact hx _ _ _ _ _ _ _ ⟨.inl ⟨c0j (by assumption), hhas⟩, rfl, fun p hp => hsub p hp, hcx⟩ (by assumption)
 ·exact hret _ _ _ _ ⟨σ1, rfl, O3, eS, .inr (.inl ⟨c0j (by assumption), hgood, ers, enxt, esubs⟩)⟩ (by k_asm) (by k_asm)
 ·exact hx _ _ _ _ _ _ _ ⟨.inr (.inl ⟨c0j (by assumption), hbad⟩), rfl, fun p hp => hsub p hp, hcx⟩ (by assumption)
 ·exact hret _ _ _ _ ⟨σ1, rfl, O3, eS, .inr (.inr ⟨a6H wA (by assumption) (by assumption), hin, ers, enxt, esubs⟩)⟩ (by k_asm) (by k_asm)
 ·exact hx _ _ _ _ _ _ _ ⟨.inr (.inr ⟨a6H wA (by assumption) (by assumption), hin⟩), rfl, fun p hp => hsub p hp, hcx⟩ (by assumption)
theorem FnX.mono {f : Addr} {d u : Nat} {R R' : Value → Led → Prop} {X X' : Addr → Option Addr → Value → Led → Prop} (h : FnX w G hd f d u vs news R X) (hR : ∀ v n, R v n → R' v n) (hX : ∀ C D cx nx, X C D cx nx → X' C D cx nx) : FnX w G hd f d u vs news R' X' :=
 fun _ _ _ _ _ _ _ _ _ _ _ _ _ _ _ _ _ B F X N T hk hdp hun hret hx => h _ _ _ _ _ _ _ _ _ _ _ _ _ _ _ _ _ B F X N T hk hdp hun (fun v n h' tk' r => hret v n h' tk' (hR v n r)) fun e C D cx nx h' tk' r => hx e C D cx nx h' tk' (hX C D cx nx r)
theorem b2W (q : b3F σ x (b9q "delete") σ') : a2L σ (.delete x) σ' := q.elim c2i fun q => q.elim (fun h => absurd h.1 (by decide)) (fun h => absurd h.1 (by decide))
theorem b3j (q : b3E σ x (b9q "delete")) : a3c σ (.delete x) := q.elim c2i fun q => q.elim (fun h => absurd h.1 (by decide)) (fun h => absurd h.1 (by decide))
theorem b3f (q : b3F σ x (b9q "subscribe") σ') : a2L σ (.subscribe x) σ' := q.elim (fun h => absurd h.1 (by decide)) fun q => q.elim c2i (fun h => absurd h.1 (by decide))
theorem b3e (q : b3E σ x (b9q "subscribe")) : a3c σ (.subscribe x) := q.elim (fun h => absurd h.1 (by decide)) fun q => q.elim c2i (fun h => absurd h.1 (by decide))
theorem b3m (q : b3F σ x (b9q "unsubscribe") σ') : a2L σ (.unsubscribe x) σ' := q.elim (fun h => absurd h.1 (by decide)) fun q => q.elim (fun h => absurd h.1 (by decide)) c2i
theorem b3B (q : b3E σ x (b9q "unsubscribe")) : a3c σ (.unsubscribe x) := q.elim (fun h => absurd h.1 (by decide)) fun q => q.elim (fun h => absurd h.1 (by decide)) c2i
theorem b0l {d : Deed} {vs9 : List Value} (O : σ.ok w rest) (hT : (T, tup vs9.toArray n) ∈ rest) (hrow : a7O σ.nxt d vs9) (hb : Bd σ) (hd : a3N σ d) :
  FnX w G none 674 14 420 [.ref σ.S, .ref T] (σ.led rest) (fun _ n => ∃ σ' : StR, n = σ'.led rest ∧ σ'.ok w rest ∧ σ'.S = σ.S ∧ a2L σ d σ') (fun C D cx nx => a3c σ d ∧ XF 64 (σ.led rest) C D cx nx) := by
 revert cl9 G n w T rest σ d vs9
 intros O hT hrow hb hd
 cases d with
 | create x =>
  obtain ⟨t1, t2, t3, rfl⟩ := hrow
  exact a4I O hT hb hd
 | delete x =>
  obtain ⟨t1, t2, rfl⟩ := hrow
  exact (a3g O hT hb hd (by decide)).mono (fun _ _ h => h.imp fun _ h => ⟨h.1, h.2.1, h.2.2.1, b2W h.2.2.2⟩) (fun _ _ _ _ h => ⟨b3j h.1, h.2⟩)
 | rename x y =>
  obtain ⟨t1, t2, t3, rfl⟩ := hrow
  exact a4P O hT hb hd
 | subscribe x =>
  obtain ⟨t1, t2, rfl⟩ := hrow
  exact (a3g O hT hb hd (by decide)).mono (fun _ _ h => h.imp fun _ h => ⟨h.1, h.2.1, h.2.2.1, b3f h.2.2.2⟩) (fun _ _ _ _ h => ⟨b3e h.1, h.2⟩)
 | unsubscribe x =>
  obtain ⟨t1, t2, rfl⟩ := hrow
  exact (a3g O hT hb hd (by decide)).mono (fun _ _ h => h.imp fun _ h => ⟨h.1, h.2.1, h.2.2.1, b3m h.2.2.2⟩) (fun _ _ _ _ h => ⟨b3B h.1, h.2⟩)
theorem era_Y3 : True := trivial
theorem b4w : True := by
 k_with "Y3:call ref" => (k_here; ((with_reducible show wpAny _ _ (call (b9t 186) _) _ _ _); k_dflt (refine' FnX.use (a5T (by omega)) ?k1 ?k2 ?k3 ?k4 ?k5 ?k6 ?k7 ?k8 ?_ ?_); (case k4 => k_extra "g:k4"); k_extra "g:c1"; k_whole; rotate_left; (k_extra "g:x2"; obtain ⟨hbad, rfl, hsub, rfl⟩ := hX'; (try clear hX'); k_extra "g:x3"); rotate_right; (k_extra "g:c2"; obtain ⟨hgood, t', rfl, rfl⟩ := hR'; (try clear hR'); k_extra "g:c3"; k_extra "g:c4")))
 trivial
noncomputable def Deed.word : Deed → b9p
 | .create _ => "CREATE"
 | .delete _ => "DELETE"
 | .rename _ _ => "RENAME"
 | .subscribe _ => "SUBSCRIBE"
 | .unsubscribe _ => "UNSUBSCRIBE"
noncomputable def a2j : Deed → List Value → Prop
 | .create x, vs => ∃ t, vs = [.str x t]
 | .delete x, vs => ∃ t, vs = [.str x t]
 | .rename x y, vs => ∃ t u, vs = [.str x t, .str y u]
 | .subscribe x, vs => ∃ t, vs = [.str x t]
 | .unsubscribe x, vs => ∃ t, vs = [.str x t]
noncomputable def Deed.row : Deed → Deed
 | .create x => .create (a0h x)
 | .rename x y => .rename x (a0h y)
 | d => d
noncomputable def Deed.good : Deed → Prop
 | .create x => a0k (a0h x)
 | .rename _ y => a0k (a0h y)
 | _ => True
noncomputable def Deed.short : Deed → Prop
 | .create x => x.length ≤ 1800
 | .delete x => x.length ≤ 1800
 | .rename x y => x.length ≤ 1800 ∧ y.length ≤ 1800
 | .subscribe x => x.length ≤ 1800
 | .unsubscribe x => x.length ≤ 1800
structure b9g (P : Params) (d : Deed) (c cd A : Addr) (od : Obj) (vs : List Value) : Prop where
 dict : ∃ a1 a2 a3 t1 t2 : Tok, od = dictOf [⟨b9M P "tag", .str "tag" a1, .str "t" t1⟩, ⟨b9M P "word", .str "word" a2, .str d.word t2⟩, ⟨b9M P "args", .str "args" a3, .ref A⟩] 3
 args : a2j d vs
noncomputable def CmdIn (P : Params) (d : Deed) (c : Addr) (rest : Led) : Prop := ∃ cd A od vs n, (c, instObj 254 cd) ∈ rest ∧ (cd, od) ∈ rest ∧ (A, tup vs.toArray n) ∈ rest ∧ b9g P d c cd A od vs
theorem a7v {c : Addr} (O : σ.ok w rest) (hC : CmdIn w.params (.create x) c rest) (hb : Bd σ) (hd : (Deed.create x).short) :
  FnX w G none 193 9 130 [.ref σ.S, .ref c] (σ.led rest) (fun v n => (Deed.create x).good ∧ ∃ T k vs, v = .ref T ∧ n = (T, tup vs.toArray k) :: σ.led rest ∧ (∀ p ∈ σ.led rest, p.1 < T) ∧ a7O σ.nxt (Deed.create x).row vs) (fun C D cx nx => ¬ (Deed.create x).good ∧ XF 52 (σ.led rest) C D cx nx) := by
 revert hC hb hd
 revert O; revert σ; revert cl9 G w x rest c; z_head
 intros hC hb hd
 have mk9 : a0b := trivial
 obtain ⟨cd, A, od, vsA, nA, m1, m2, m3, ⟨ca1, ca2, ca3, ct1, ct2, rfl⟩, hA⟩ := hC
 have m1 := b9s (rs.flatMap BoxR.led) m1
 have m2 := b9s (rs.flatMap BoxR.led) m2
 have m3 := b9s (rs.flatMap BoxR.led) m3
 obtain ⟨hn, hsb, hv, hl⟩ := hb
 obtain ⟨u1, rfl⟩ := hA
 have hd : x.length ≤ 1800 := hd
 unfold StR.led
 (try unfold StR.led at H)
 dsimp only at *
 ktr_unf
 unfold tup at m3
 (with_reducible rename News _ _ _ _ => N8)
 have N7 := nc (N8 _ (tl4 m1)) (nc (N8 _ (tl4 m2)) (nc (N8 _ (tl4 m3)) N8))
 clear N8
 unfold Deed.word at N7
 dsimp only at N7
 have hTt := c0p N7 mt2
 k_steps
 ·(with_reducible rename News h₀ _ _ _ => M9)
  exact hret _ _ _ _ ⟨hgood, _, _, _, rfl, rfl, fun p hp => hAll p (tl3 hp), _, _, _, rfl⟩ (by k_asm) (nc (M9 _ (.head _)) fun p hp => M9 p (tl4 hp))
 ·exact hx _ _ _ _ _ _ _ ⟨hbad, rfl, fun p hp => hsub p (tl3 hp), .inl rfl⟩ (by assumption)
theorem a3l {d : Deed} {W lW : b9p} {c : Addr} (O : σ.ok w rest) (hC : CmdIn w.params d c rest) (hA9 : ∀ vs, a2j d vs → ∃ t, vs = [.str x t]) (hW : d.word = W) (h1 : (W == b9q "CREATE") = false) (h2 : (W == b9q "RENAME") = false) (h3 : Txt.lower W = lW) (h4 : W.length ≤ 1000) (hg : d.good) (hR : ∀ b1 b2, a7O σ.nxt d.row [.str lW b1, .str x b2]) (hb : Bd σ) :
  FnX w G none 193 9 130 [.ref σ.S, .ref c] (σ.led rest) (fun v n => d.good ∧ ∃ T k vs, v = .ref T ∧ n = (T, tup vs.toArray k) :: σ.led rest ∧ (∀ p ∈ σ.led rest, p.1 < T) ∧ a7O σ.nxt d.row vs) (fun C D cx nx => ¬ d.good ∧ XF 52 (σ.led rest) C D cx nx) := by
 revert hC hA9 hW h1 h2 h3 h4 hg hR hb
 revert O; revert σ; revert cl9 G w x rest d W lW c; z_head
 intros hC hA9 hW h1 h2 h3 h4 hg hR hb
 have mk9 : a0b := trivial
 obtain ⟨cd, A, od, vsA, nA, m1, m2, m3, ⟨ca1, ca2, ca3, ct1, ct2, rfl⟩, hA⟩ := hC
 have m1 := b9s (rs.flatMap BoxR.led) m1
 have m2 := b9s (rs.flatMap BoxR.led) m2
 have m3 := b9s (rs.flatMap BoxR.led) m3
 obtain ⟨hn, hsb, hv, hl⟩ := hb
 obtain ⟨u1, rfl⟩ := hA9 _ hA
 rw [hW] at m2
 unfold StR.led
 (try unfold StR.led at H)
 dsimp only at *
 ktr_unf
 unfold tup at m3
 (with_reducible rename News _ _ _ _ => N8)
 have N7 := nc (N8 _ (tl4 m1)) (nc (N8 _ (tl4 m2)) (nc (N8 _ (tl4 m3)) N8))
 clear N8
 have hTt := c0p N7 mt2
 k_steps
 ·(with_reducible rename News h₀ _ _ _ => M9)
  subst h3
  exact hret _ _ _ _ ⟨hg, _, _, _, rfl, rfl, fun p hp => hAll p (tl3 hp), hR _ _⟩ (by k_asm) (nc (M9 _ (.head _)) fun p hp => M9 p (tl4 hp))
theorem a6Z {c : Addr} (O : σ.ok w rest) (hC : CmdIn w.params (.rename x y) c rest) (hb : Bd σ) (hd : (Deed.rename x y).short) :
  FnX w G none 193 9 130 [.ref σ.S, .ref c] (σ.led rest) (fun v n => (Deed.rename x y).good ∧ ∃ T k vs, v = .ref T ∧ n = (T, tup vs.toArray k) :: σ.led rest ∧ (∀ p ∈ σ.led rest, p.1 < T) ∧ a7O σ.nxt (Deed.rename x y).row vs) (fun C D cx nx => ¬ (Deed.rename x y).good ∧ XF 52 (σ.led rest) C D cx nx) := by
 revert hC hb hd
 revert O; revert σ; revert cl9 G w x y rest c; z_head
 intros hC hb hd
 have mk9 : a0b := trivial
 obtain ⟨cd, A, od, vsA, nA, m1, m2, m3, ⟨ca1, ca2, ca3, ct1, ct2, rfl⟩, hA⟩ := hC
 have m1 := b9s (rs.flatMap BoxR.led) m1
 have m2 := b9s (rs.flatMap BoxR.led) m2
 have m3 := b9s (rs.flatMap BoxR.led) m3
 obtain ⟨hn, hsb, hv, hl⟩ := hb
 obtain ⟨u1, u2, rfl⟩ := hA
 obtain ⟨hx1, hy1⟩ : x.length ≤ 1800 ∧ y.length ≤ 1800 := hd
 unfold StR.led
 (try unfold StR.led at H)
 dsimp only at *
 ktr_unf
 unfold tup at m3
 (with_reducible rename News _ _ _ _ => N8)
 have N7 := nc (N8 _ (tl4 m1)) (nc (N8 _ (tl4 m2)) (nc (N8 _ (tl4 m3)) N8))
 clear N8
 unfold Deed.word at N7
 dsimp only at N7
 have hTt := c0p N7 mt2
 k_steps
 ·(with_reducible rename News h₀ _ _ _ => M9)
  exact hret _ _ _ _ ⟨hgood, _, _, _, rfl, rfl, fun p hp => hAll p (tl3 hp), _, _, _, rfl⟩ (by k_asm) (nc (M9 _ (.head _)) fun p hp => M9 p (tl4 hp))
 ·exact hx _ _ _ _ _ _ _ ⟨hbad, rfl, fun p hp => hsub p (tl3 hp), .inl rfl⟩ (by assumption)
theorem a6c {d : Deed} {c : Addr} (O : σ.ok w rest) (hC : CmdIn w.params d c rest) (hb : Bd σ) (hd : d.short) :
  FnX w G none 193 9 130 [.ref σ.S, .ref c] (σ.led rest) (fun v n => d.good ∧ ∃ T k vs, v = .ref T ∧ n = (T, tup vs.toArray k) :: σ.led rest ∧ (∀ p ∈ σ.led rest, p.1 < T) ∧ a7O σ.nxt d.row vs) (fun C D cx nx => ¬ d.good ∧ XF 52 (σ.led rest) C D cx nx) := by
 revert cl9 G w rest σ d c
 intros O hC hb hd
 cases d with
 | create x => exact a7v O hC hb hd
 | delete x => exact a3l (W := "DELETE") (lW := "delete") O hC (fun _ h => h) rfl (by decide) (by decide) (by decide +kernel) (by decide) trivial (fun _ _ => ⟨_, _, rfl⟩) hb
 | rename x y => exact a6Z O hC hb hd
 | subscribe x => exact a3l (W := "SUBSCRIBE") (lW := "subscribe") O hC (fun _ h => h) rfl (by decide) (by decide) (by decide +kernel) (by decide) trivial (fun _ _ => ⟨_, _, rfl⟩) hb
 | unsubscribe x => exact a3l (W := "UNSUBSCRIBE") (lW := "unsubscribe") O hC (fun _ h => h) rfl (by decide) (by decide) (by decide +kernel) (by decide) trivial (fun _ _ => ⟨_, _, rfl⟩) hb
theorem era_Y4 : True := trivial
noncomputable def b1J (P : Params) (x : b9p) (a1 t : Tok) : Obj := dictOf [⟨b9M P "text", .str "text" a1, .str x t⟩] 1
section
theorem b1B :
  Fn w G hd 149 3 40 [.str x t] news (fun v n => ∃ b d a1 t1, v = .ref b ∧ n = (b, instObj 149 d) :: (d, b1J w.params x a1 t1) :: news ∧ (∀ p ∈ news, p.1 < d) ∧ d < b) := by
 revert cl9 G w x t hd news
 have mk9 : a0b := trivial
 ktr_unf
 k_steps
 exact hret _ _ _ _ ⟨_, _, _, _, rfl, rfl, by assumption, by assumption⟩ (by k_asm) (by k_asm)
theorem b4W : True := by
 k_with "Y4:call type:tuple" => ((k_here; (with_reducible show wpAny _ _ (call (c1v _) [b9t _]) _ _ _); k_dflt (refine' call_tuple_tup (items := vs) ?k1 ?_; (case k1 => exact c0p (by k_asm) (by k_mem)))))
 trivial
theorem a3B {A : Addr} {vs : Array Value} (hA : (A, tup vs n) ∈ news) :
  Fn w G none 254 3 40 [.str (b9q "t") t, .str wd u, .ref A] news (fun v m => ∃ c cd, v = .ref c ∧ (∃ a1 a2 a3 t1 t2 : Tok, m = (c, instObj 254 cd) :: (cd, dictOf [⟨b9M w.params "tag", .str "tag" a1, .str "t" t1⟩, ⟨b9M w.params "word", .str "word" a2, .str wd t2⟩, ⟨b9M w.params "args", .str "args" a3, .ref A⟩] 3) :: news) ∧ (∀ p ∈ news, p.1 < cd) ∧ cd < c) := by
 revert cl9 G n w wd u t news A vs
 intros hA
 have mk9 : a0b := trivial
 unfold tup at hA
 ktr_unf
 k_steps
 exact hret _ _ _ _ ⟨_, _, rfl, ⟨_, _, _, _, _, rfl⟩, by assumption, by assumption⟩ (by k_asm) (by k_asm)
theorem a1H {a b : Nat} {l : List Nat} (h : a < b) (P : (b :: l).Pairwise fun a b : Nat => a < b) : (a :: b :: l).Pairwise fun a b : Nat => a < b := List.pairwise_cons.mpr ⟨fun x hx => (b9r.mp hx).elim (fun e => e ▸ h) fun hx => b9V h ((List.pairwise_cons.mp P).1 x hx), P⟩
theorem a8q {x' d' dN lU rb rd rl rg : Addr} {sd rod : Obj} {k : Int} (h1 : ∀ p ∈ news, @b9w Nat _ p.1 d') (h2 : @b9w Nat _ d' x') (h3 : @b9w Nat _ x' dN) (h4 : @b9w Nat _ dN rd) (h5 : @b9w Nat _ rd rb) (h6 : @b9w Nat _ rb rl) (h7 : @b9w Nat _ rl rg) (h8 : @b9w Nat _ rg lU) (lo : (dN == sysModules) = false) (hB : BoxR.ok w.params ⟨rb, rd, rl, rg, rod, x, k⟩) (hob : ob.IsDictOf (kS w) [(x, .ref rb)]) (hsd : a0x w.params sd dN lU 2) : StR.ok w ⟨x', d', dN, lU, sd, ob, listOf #[] 0, [⟨rb, rd, rl, rg, rod, x, k⟩], [], 2⟩ news := by
 have e : StR.adr ⟨x', d', dN, lU, sd, ob, listOf #[] 0, [⟨rb, rd, rl, rg, rod, x, k⟩], [], 2⟩ = [x', d', dN, lU, rg, rl, rb, rd] := rfl
 have P : List.Pairwise (fun a b : Nat => a < b) ([d', x', dN, rd, rb, rl, rg, lU] : List Nat) := a1H h2 (a1H h3 (a1H h4 (a1H h5 (a1H h6 (a1H h7 (a1H h8 (List.pairwise_singleton _ _)))))))
 have q : List.Perm ([x', d', dN, lU, rg, rl, rb, rd] : List Nat) [d', x', dN, rd, rb, rl, rg, lU] := (List.Perm.swap d' x' _).trans (.cons _ (.cons _ (.cons _ (List.reverse_perm [rd, rb, rl, rg, lU]))))
 refine ⟨hsd, hob, lo, ⟨#[], 0, rfl, .nil⟩, fun r hr => by rw [b9C.mp hr]; exact hB, ?_, fun p hp hm => ?_⟩
 ·rw [e]
  exact q.nodup_iff.mpr (P.imp b9v)
 ·rw [e] at hm
  rcases b9r.mp (q.mem_iff.mp hm) with h | h
  ·exact absurd (h1 p hp) (h ▸ c0g _)
  ·exact c2F (h1 p hp) ((List.pairwise_cons.mp P).1 _ h)
theorem b5q : True := by
 k_with "Y4:call ref" => (k_here; ((with_reducible show wpAny _ _ (call (b9t 360) _) _ _ _); k_dflt (refine' Fn.use a8Y ?k1 ?k2 ?k3 ?k4 ?k5 ?k6 ?k7 ?k8 ?_); (case k4 => k_extra "g:k4"); k_extra "g:c1"; k_extra "g:c2"; obtain ⟨⟨rBb, rBd, rBl, rBg, rBod, rBx, rBk⟩, rfl, rfl, hBo, rfl, rfl, lB1, lB2, lB3, lB4⟩ := hR'; (try clear hR'); k_extra "g:c3"; (try simp only [BoxR.led, StR.led, c0b, c0c] at N' lB1); (try dsimp only at lB1 lB2 lB3 lB4); (try k_lt lB1); (try k_lt2 lB2); (try k_lt2 lB3); (try k_lt2 lB4); k_extra "g:c4"))
 k_with "Y4:eval Dict cons cons" => ((k_here; k_dflt (refine' kdn_eval (knd := kS _) ?F ?N ?b ?a ?l ?e ?n ?_; (case F => k_asm); (case N => k_asm); (case b => exact Top.nolimit (by k_asm)); (case a => rfl); (case l => rfl); (case e => exact List.cons_ne_nil _ _); (case n => exact c1V rfl)); intro dN' h' oN' F' N' l1 lo' hdN'; (try k_lt l1)))
 trivial
theorem a9Z :
  Fn w G none 490 6 90 [] news (fun v n => ∃ σ : StR, v = .ref σ.S ∧ n = σ.led news ∧ σ.ok w news ∧ σ.subs = [] ∧ σ.nxt = 2 ∧ ∃ r, r.x = b9q "INBOX" ∧ r.k = 1 ∧ σ.rs = [r]) := by
 revert cl9 G w news
 have mk9 : a0b := trivial
 ktr_unf
 k_steps
 (with_reducible rename News h₀ _ _ _ => M9)
 (with_reducible rename c1n _ _ (strPairs _) => hdS)
 obtain ⟨sd, hsd, M8⟩ : ∃ sd, a0x w.params sd dN' _ 2 ∧ News h₀ L _ ((_, listOf #[] 0) :: (rBg, a3h) :: (rBl, a3h) :: (rBb, instObj 360 rBd) :: (rBd, rBod) :: (dN', _) :: (x', instObj 490 d') :: (d', sd) :: news) := ⟨_, ⟨_, _, _, _, rfl⟩, M9⟩
 refine hret _ _ _ _ ⟨⟨x', d', dN', _, sd, _, listOf #[] 0, [⟨rBb, rBd, rBl, rBg, rBod, _, _⟩], [], 2⟩, rfl, rfl, a8q (by assumption) l2 (by omega) (by omega) lB2 lB3 lB4 (by omega) lo' hBo hdS hsd, rfl, rfl, _, rfl, rfl, rfl⟩ (by k_asm) fun p hp => M8 p ?_
 unfold StR.led a0d BoxR.led at hp
 simp only [c1a, c2Z, c0k, c0b, c0c, b9r] at hp ⊢
 rcases hp with h | h | h | h | h | h | h | h | h
 all_goals simp only [h, true_or, or_true]
end
theorem era_Y5 : True := trivial
noncomputable def b1p (P : Params) (x : b9p) (v : Value) (n news : Led) : Prop := ∃ D k b d a1 t1, v = .ref D ∧ n = (D, listOf #[.ref b] k) :: (b, instObj 149 d) :: (d, b1J P x a1 t1) :: news ∧ (∀ p ∈ news, p.1 < d) ∧ d < b ∧ b < D
theorem b4N : True := by
 k_with "Y5:call ref" => (k_here; ((with_reducible show wpAny _ _ (call (b9t 149) _) _ _ _); k_dflt (refine' Fn.use b1B ?k1 ?k2 ?k3 ?k4 ?k5 ?k6 ?k7 ?k8 ?_); (case k4 => k_extra "g:k4"); k_extra "g:c1"; k_extra "g:c2"; obtain ⟨bA, dA, a1A, t1A, rfl, rfl, lA1, lA2⟩ := hR'; (try clear hR'); k_extra "g:c3"; (try k_lt lA1); (try k_lt2 lA2); k_extra "g:c4"))
 trivial
section
theorem a7I (H : HdIn hd news) : Fn w G hd 165 5 70 [.str x t] news (fun v n => b1p w.params x v n news) := by
 revert cl9 G w x t hd news
 intros H
 have mk9 : a0b := trivial
 ktr_unf
 k_steps
 exact hret _ _ _ _ ⟨_, _, _, _, _, _, rfl, rfl, by assumption, by assumption, hAll _ (.head _)⟩ (by k_asm) (by k_asm)
end
theorem a0n {c : Addr × Obj} {l l' : Led} (N : News h₀ L h (a :: b :: c :: l')) (k : ∀ p ∈ l, p ∈ l') : News h₀ L h (a :: b :: c :: l) := fun p hp => N p (b2C (.head _) mt1 mt2 (fun p hp => tl3 (k p hp)) p hp)
theorem a1T {c : Addr × Obj} {l : Led} (_ : News h₀ L h (a :: b :: c :: l)) (H : HdIn hd l) : HdIn hd (a :: b :: c :: l) := HdIn.sub H fun _ hp => tl3 hp
theorem b4g : True := by
 k_with "Y5:call ref" => (k_here; ((with_reducible show wpAny _ _ (call (b9t 179) _) _ _ _); k_dflt (refine' Fn.use (a9m ?kH (by omega)) ?k1 ?k2 ?k3 ?k4 ?k5 ?k6 ?k7 ?k8 ?_); (case k4 => k_extra "g:k4"); (case kH => k_extra "g:kH"); k_extra "g:c1"; k_extra "g:c2"; obtain ⟨t', rfl, rfl, lb⟩ := hR'; (try clear hR'); k_extra "g:c3"; k_extra "g:c4"))
 k_with "Y5:call ref" => (k_here; ((with_reducible show wpAny _ _ (call (b9t 468) _) _ _ _); k_dflt (refine' Fn.use (b2U ?kH O2 (by omega)) ?k1 ?k2 ?k3 ?k4 ?k5 ?k6 ?k7 ?k8 ?_); (case k4 => k_extra "g:k4"); (case kH => k_extra "g:kH"); k_extra "g:c1"; k_extra "g:c2"; obtain ⟨rfl, rfl⟩ := hR'; (try clear hR'); k_extra "g:c3"; k_extra "g:c4"))
 k_with "Y5:call ref" => (k_here; ((with_reducible show wpAny _ _ (call (b9t 165) _) _ _ _); k_dflt (refine' Fn.use (a7I ?kH) ?k1 ?k2 ?k3 ?k4 ?k5 ?k6 ?k7 ?k8 ?_); (case k4 => k_extra "g:k4"); (case kH => k_extra "g:kH"); k_extra "g:c1"; k_extra "g:c2"; obtain ⟨DcO, kcO, bcO, dcO, a1c, t1c, rfl, rfl, lc1, lc2, lc3⟩ := hR'; (try clear hR'); k_extra "g:c3"; k_extra "g:c4"))
 trivial
noncomputable def a0B (rs : List BoxR) : Deed → Option b9p
 | .create x => some (if a0u rs (a0a (a0h x)) then "ALREADYEXISTS" else "CANNOT")
 | .delete x => some (if a0u rs (a0a x) then "CANNOT" else "NONEXISTENT")
 | .rename x y => some (if a0u rs (a0a x) then (if a0u rs (a0a (a0h y)) then "ALREADYEXISTS" else "CANNOT") else "NONEXISTENT")
 | .subscribe _ => none
 | .unsubscribe _ => none
noncomputable def a7B (P : Params) (c : Option b9p) (v : Value) (n news : Led) : Prop := match c with
 | none => v = .none ∧ n = news
 | some x => b1p P x v n news
theorem a7E {c : Addr} (H : HdIn hd (σ.led rest)) (O : σ.ok w rest) (hC : CmdIn w.params (.create x) c rest) (hb : Bd σ) (hd9 : (Deed.create x).short) :
  Fn w G hd 200 9 130 [.ref σ.S, .ref c] (σ.led rest) (fun v n => a7B w.params (a0B σ.rs (.create x)) v n (σ.led rest)) := by
 revert H hC hb hd9
 revert O; revert σ; revert cl9 G w x hd rest c; z_head
 intros H hC hb hd9
 have mk9 : a0b := trivial
 obtain ⟨cd, A, od, vsA, nA, m1, m2, m3, ⟨ca1, ca2, ca3, ct1, ct2, rfl⟩, hA⟩ := hC
 have m1 : _ ∈ a0d rs rest := b9s (rs.flatMap BoxR.led) m1
 have m2 : _ ∈ a0d rs rest := b9s (rs.flatMap BoxR.led) m2
 have m3 : _ ∈ a0d rs rest := b9s (rs.flatMap BoxR.led) m3
 obtain ⟨hn, hsb, hv, hl⟩ := hb
 obtain ⟨u1, rfl⟩ := hA
 unfold Deed.word at m2
 dsimp only at m2
 have hd9 : x.length ≤ 1800 := hd9
 unfold StR.led
 (try unfold StR.led at H)
 dsimp only at *
 ktr_unf
 unfold tup at m3
 (with_reducible rename News _ _ _ _ => N8)
 have N7 := nc (N8 _ (tl4 m1)) (nc (N8 _ (tl4 m2)) (nc (N8 _ (tl4 m3)) N8))
 clear N8
 have H3 := a1T N7 H
 have hTt := c0p N7 mt2
 k_steps
 ·exact hret _ _ _ _ (show a7B w.params (a0B _ _) _ _ _ by unfold a0B; simp only [‹a0u rs (a0a (a0h x)) = true›, if_true]; exact ⟨DcO, kcO, bcO, dcO, a1c, t1c, rfl, rfl, by first | exact lc1 | exact fun p hp => lc1 p (.tail _ hp) | exact fun p hp => lc1 p (tl2 hp), lc2, lc3⟩) (by k_asm) (by first | k_asm | exact a0n (by assumption) (fun p hp => .tail _ hp) | exact a0n (by assumption) (fun p hp => tl2 hp))
 ·exact hret _ _ _ _ (show a7B w.params (a0B _ _) _ _ _ by unfold a0B; simp only [‹a0u rs (a0a (a0h x)) = false›, c0w, if_false]; exact ⟨DcO, kcO, bcO, dcO, a1c, t1c, rfl, rfl, by first | exact lc1 | exact fun p hp => lc1 p (.tail _ hp) | exact fun p hp => lc1 p (tl2 hp), lc2, lc3⟩) (by k_asm) (by first | k_asm | exact a0n (by assumption) (fun p hp => .tail _ hp) | exact a0n (by assumption) (fun p hp => tl2 hp))
theorem a7x {c : Addr} (H : HdIn hd (σ.led rest)) (O : σ.ok w rest) (hC : CmdIn w.params (.delete x) c rest) (hb : Bd σ) (hd9 : (Deed.delete x).short) :
  Fn w G hd 200 9 130 [.ref σ.S, .ref c] (σ.led rest) (fun v n => a7B w.params (a0B σ.rs (.delete x)) v n (σ.led rest)) := by
 revert H hC hb hd9
 revert O; revert σ; revert cl9 G w x hd rest c; z_head
 intros H hC hb hd9
 have mk9 : a0b := trivial
 obtain ⟨cd, A, od, vsA, nA, m1, m2, m3, ⟨ca1, ca2, ca3, ct1, ct2, rfl⟩, hA⟩ := hC
 have m1 : _ ∈ a0d rs rest := b9s (rs.flatMap BoxR.led) m1
 have m2 : _ ∈ a0d rs rest := b9s (rs.flatMap BoxR.led) m2
 have m3 : _ ∈ a0d rs rest := b9s (rs.flatMap BoxR.led) m3
 obtain ⟨hn, hsb, hv, hl⟩ := hb
 obtain ⟨u1, rfl⟩ := hA
 unfold Deed.word at m2
 dsimp only at m2
 have hd9 : x.length ≤ 1800 := hd9
 unfold StR.led
 (try unfold StR.led at H)
 dsimp only at *
 ktr_unf
 unfold tup at m3
 (with_reducible rename News _ _ _ _ => N8)
 have N7 := nc (N8 _ (tl4 m1)) (nc (N8 _ (tl4 m2)) (nc (N8 _ (tl4 m3)) N8))
 clear N8
 have H3 := a1T N7 H
 have hTt := c0p N7 mt2
 k_steps
 ·exact hret _ _ _ _ (show a7B w.params (a0B _ _) _ _ _ by unfold a0B; simp only [‹a0u rs (a0a x) = true›, if_true]; exact ⟨DcO, kcO, bcO, dcO, a1c, t1c, rfl, rfl, by first | exact lc1 | exact fun p hp => lc1 p (.tail _ hp) | exact fun p hp => lc1 p (tl2 hp), lc2, lc3⟩) (by k_asm) (by first | k_asm | exact a0n (by assumption) (fun p hp => .tail _ hp) | exact a0n (by assumption) (fun p hp => tl2 hp))
 ·exact hret _ _ _ _ (show a7B w.params (a0B _ _) _ _ _ by unfold a0B; simp only [‹a0u rs (a0a x) = false›, c0w, if_false]; exact ⟨DcO, kcO, bcO, dcO, a1c, t1c, rfl, rfl, by first | exact lc1 | exact fun p hp => lc1 p (.tail _ hp) | exact fun p hp => lc1 p (tl2 hp), lc2, lc3⟩) (by k_asm) (by first | k_asm | exact a0n (by assumption) (fun p hp => .tail _ hp) | exact a0n (by assumption) (fun p hp => tl2 hp))
theorem a7b {c : Addr} (H : HdIn hd (σ.led rest)) (O : σ.ok w rest) (hC : CmdIn w.params (.rename x y) c rest) (hb : Bd σ) (hd9 : (Deed.rename x y).short) :
  Fn w G hd 200 9 130 [.ref σ.S, .ref c] (σ.led rest) (fun v n => a7B w.params (a0B σ.rs (.rename x y)) v n (σ.led rest)) := by
 revert H hC hb hd9
 revert O; revert σ; revert cl9 G w x y hd rest c; z_head
 intros H hC hb hd9
 have mk9 : a0b := trivial
 obtain ⟨cd, A, od, vsA, nA, m1, m2, m3, ⟨ca1, ca2, ca3, ct1, ct2, rfl⟩, hA⟩ := hC
 have m1 : _ ∈ a0d rs rest := b9s (rs.flatMap BoxR.led) m1
 have m2 : _ ∈ a0d rs rest := b9s (rs.flatMap BoxR.led) m2
 have m3 : _ ∈ a0d rs rest := b9s (rs.flatMap BoxR.led) m3
 obtain ⟨hn, hsb, hv, hl⟩ := hb
 obtain ⟨u1, u2, rfl⟩ := hA
 unfold Deed.word at m2
 dsimp only at m2
 obtain ⟨hx1, hy1⟩ : x.length ≤ 1800 ∧ y.length ≤ 1800 := hd9
 unfold StR.led
 (try unfold StR.led at H)
 dsimp only at *
 ktr_unf
 unfold tup at m3
 (with_reducible rename News _ _ _ _ => N8)
 have N7 := nc (N8 _ (tl4 m1)) (nc (N8 _ (tl4 m2)) (nc (N8 _ (tl4 m3)) N8))
 clear N8
 have H3 := a1T N7 H
 have hTt := c0p N7 mt2
 k_steps
 ·exact hret _ _ _ _ (show a7B w.params (a0B _ _) _ _ _ by unfold a0B; simp only [‹a0u rs (a0a x) = true›, ‹a0u rs (a0a (a0h y)) = true›, if_true]; exact ⟨DcO, kcO, bcO, dcO, a1c, t1c, rfl, rfl, by first | exact lc1 | exact fun p hp => lc1 p (.tail _ hp) | exact fun p hp => lc1 p (tl2 hp), lc2, lc3⟩) (by k_asm) (by first | k_asm | exact a0n (by assumption) (fun p hp => .tail _ hp) | exact a0n (by assumption) (fun p hp => tl2 hp))
 ·exact hret _ _ _ _ (show a7B w.params (a0B _ _) _ _ _ by unfold a0B; simp only [‹a0u rs (a0a x) = true›, ‹a0u rs (a0a (a0h y)) = false›, c0w, if_true, if_false]; exact ⟨DcO, kcO, bcO, dcO, a1c, t1c, rfl, rfl, by first | exact lc1 | exact fun p hp => lc1 p (.tail _ hp) | exact fun p hp => lc1 p (tl2 hp), lc2, lc3⟩) (by k_asm) (by first | k_asm | exact a0n (by assumption) (fun p hp => .tail _ hp) | exact a0n (by assumption) (fun p hp => tl2 hp))
 ·exact hret _ _ _ _ (show a7B w.params (a0B _ _) _ _ _ by unfold a0B; simp only [‹a0u rs (a0a x) = false›, c0w, if_false]; exact ⟨DcO, kcO, bcO, dcO, a1c, t1c, rfl, rfl, by first | exact lc1 | exact fun p hp => lc1 p (.tail _ hp) | exact fun p hp => lc1 p (tl2 hp), lc2, lc3⟩) (by k_asm) (by first | k_asm | exact a0n (by assumption) (fun p hp => .tail _ hp) | exact a0n (by assumption) (fun p hp => tl2 hp))
theorem a3W {c : Addr} (H : HdIn hd (σ.led rest)) (O : σ.ok w rest) (hC : CmdIn w.params (.subscribe x) c rest) (hb : Bd σ) (hd9 : (Deed.subscribe x).short) :
  Fn w G hd 200 9 130 [.ref σ.S, .ref c] (σ.led rest) (fun v n => a7B w.params (a0B σ.rs (.subscribe x)) v n (σ.led rest)) := by
 revert H hC hb hd9
 revert O; revert σ; revert cl9 G w x hd rest c; z_head
 intros H hC hb hd9
 have mk9 : a0b := trivial
 obtain ⟨cd, A, od, vsA, nA, m1, m2, m3, ⟨ca1, ca2, ca3, ct1, ct2, rfl⟩, hA⟩ := hC
 have m1 : _ ∈ a0d rs rest := b9s (rs.flatMap BoxR.led) m1
 have m2 : _ ∈ a0d rs rest := b9s (rs.flatMap BoxR.led) m2
 have m3 : _ ∈ a0d rs rest := b9s (rs.flatMap BoxR.led) m3
 obtain ⟨hn, hsb, hv, hl⟩ := hb
 obtain ⟨u1, rfl⟩ := hA
 unfold Deed.word at m2
 dsimp only at m2
 have hd9 : x.length ≤ 1800 := hd9
 unfold StR.led
 (try unfold StR.led at H)
 dsimp only at *
 ktr_unf
 unfold tup at m3
 (with_reducible rename News _ _ _ _ => N8)
 have N7 := nc (N8 _ (tl4 m1)) (nc (N8 _ (tl4 m2)) (nc (N8 _ (tl4 m3)) N8))
 clear N8
 have H3 := a1T N7 H
 have hTt := c0p N7 mt2
 k_steps
 exact hret _ _ _ _ ⟨rfl, rfl⟩ (by k_asm) fun p hp => (by assumption : News h₀ L _ _) p (by first | exact tl3 hp | exact tl4 hp | exact tl5 hp | exact tl6 hp | exact tl7 hp | exact tl8 hp)
theorem a2U {c : Addr} (H : HdIn hd (σ.led rest)) (O : σ.ok w rest) (hC : CmdIn w.params (.unsubscribe x) c rest) (hb : Bd σ) (hd9 : (Deed.unsubscribe x).short) :
  Fn w G hd 200 9 130 [.ref σ.S, .ref c] (σ.led rest) (fun v n => a7B w.params (a0B σ.rs (.unsubscribe x)) v n (σ.led rest)) := by
 revert H hC hb hd9
 revert O; revert σ; revert cl9 G w x hd rest c; z_head
 intros H hC hb hd9
 have mk9 : a0b := trivial
 obtain ⟨cd, A, od, vsA, nA, m1, m2, m3, ⟨ca1, ca2, ca3, ct1, ct2, rfl⟩, hA⟩ := hC
 have m1 : _ ∈ a0d rs rest := b9s (rs.flatMap BoxR.led) m1
 have m2 : _ ∈ a0d rs rest := b9s (rs.flatMap BoxR.led) m2
 have m3 : _ ∈ a0d rs rest := b9s (rs.flatMap BoxR.led) m3
 obtain ⟨hn, hsb, hv, hl⟩ := hb
 obtain ⟨u1, rfl⟩ := hA
 unfold Deed.word at m2
 dsimp only at m2
 have hd9 : x.length ≤ 1800 := hd9
 unfold StR.led
 (try unfold StR.led at H)
 dsimp only at *
 ktr_unf
 unfold tup at m3
 (with_reducible rename News _ _ _ _ => N8)
 have N7 := nc (N8 _ (tl4 m1)) (nc (N8 _ (tl4 m2)) (nc (N8 _ (tl4 m3)) N8))
 clear N8
 have H3 := a1T N7 H
 have hTt := c0p N7 mt2
 k_steps
 exact hret _ _ _ _ ⟨rfl, rfl⟩ (by k_asm) fun p hp => (by assumption : News h₀ L _ _) p (by first | exact tl3 hp | exact tl4 hp | exact tl5 hp | exact tl6 hp | exact tl7 hp | exact tl8 hp)
theorem a3z (H : HdIn hd (σ.led rest)) (O : σ.ok w rest) {d : Deed} {c : Addr} (hC : CmdIn w.params d c rest) (hb : Bd σ) (hd9 : d.short) :
  Fn w G hd 200 9 130 [.ref σ.S, .ref c] (σ.led rest) (fun v n => a7B w.params (a0B σ.rs d) v n (σ.led rest)) := by
 cases d with
 | create x => exact a7E H O hC hb hd9
 | delete x => exact a7x H O hC hb hd9
 | rename x y => exact a7b H O hC hb hd9
 | subscribe x => exact a3W H O hC hb hd9
 | unsubscribe x => exact a2U H O hC hb hd9
theorem era_Y6 : True := trivial
structure PenOk (P C : Addr) (po co : Obj) (m : Nat) : Prop where
 po : ∃ (g s k : Int) (t1 t2 t3 : Tok) (c : Nat), po = listOf #[.ref C, .int g t1, .int s t2, .int k t3] c ∧ 0 ≤ g ∧ 0 ≤ s ∧ s < 2147483647 ∧ 0 ≤ k ∧ k ≤ m
 co : ∃ (vs : List Value) (ns : List Int) (c : Nat), co = listOf vs.toArray c ∧ IntsAre vs ns ∧ vs.length < 1000000
 ne : C ≠ P
theorem b0B {a : Addr} (N : News h₀ L s.heap news) (hm : (a, listOf vs.toArray n) ∈ news) (hz : vs.length < 1000000) (h : ∀ t k, Q (.int (vs.length : Int) t) { s with toks := k }) : wpAny (model prog w) A (call (.builtin "len") [.ref a]) Q E s :=
 PyProof.Rows.len_list ⟨_, (N _ hm).1, rfl, n, rfl⟩ (by rw [b9H]; omega) (by rw [b9H]; exact h _ _)
theorem b5L : True := by
 k_with "Y6:call builtin:len" => ((k_here; (with_reducible show wpAny _ _ (call (c1M _) [b9t _]) _ _ _); k_dflt (refine' b0B ?k1 ?k2 ?k3 ?_; (case k1 => k_asm); (case k2 => k_mem); (case k3 => omega)); intro t' k'))
 trivial
theorem fm0 {x l : Int} (h : 1 ≤ l) : 0 ≤ x.fmod l := Int.fmod_nonneg_of_pos x (by omega)
theorem fm1 {x l : Int} (h : 1 ≤ l) : x.fmod l < l := Int.fmod_lt_of_pos x (by omega)
theorem fd0 {x l : Int} (h : 1 ≤ l) (hx : 0 ≤ x) : 0 ≤ x.fdiv l := Int.fdiv_nonneg hx (by omega)
theorem a3j {lim : Int} (hp : PenOk P C po co m9) (hm9 : m9 ≤ 60) (hoff : ∀ q ∈ news, q.1 ≠ P) (hl : 1 ≤ lim) (hl2 : lim ≤ 100) :
  Fn w G none 686 2 40 [.ref P, .int lim t] ((P, po) :: (C, co) :: news) (fun v n => ∃ k u po', v = .int k u ∧ 0 ≤ k ∧ k < lim ∧ n = (P, po') :: (C, co) :: news ∧ PenOk P C po' co (m9 + 1)) := by
 revert cl9 G m9 w t C P po co news lim
 intros hp hm9 hoff hl hl2
 have mk9 : a0b := trivial
 obtain ⟨⟨g, s9, k, t1, t2, t3, c, hpo, hg, hs, hs2, hk9, hk8⟩, ⟨vs, ns, c2, hco, hI, hvl⟩, hne⟩ := hp
 subst hpo hco
 ktr_unf
 k_steps
 ·(with_reducible rename News h₀ _ _ _ => M9)
  obtain ⟨po', hpo', M8⟩ : ∃ po', (∃ (g s k : Int) (t1 t2 t3 : Tok) (c : Nat), po' = listOf #[.ref C, .int g t1, .int s t2, .int k t3] c ∧ 0 ≤ g ∧ 0 ≤ s ∧ s < 2147483647 ∧ 0 ≤ k ∧ k ≤ ((m9 + 1 : Nat) : Int)) ∧ News h₀ L _ ((P, po') :: (C, listOf vs.toArray c2) :: news) := ⟨_, ⟨_, _, _, _, _, _, _, rfl, fd0 hl hg, hs, hs2, by omega, by omega⟩, M9⟩
  exact hret _ _ _ _ ⟨_, _, po', rfl, fm0 hl, fm1 hl, rfl, ⟨hpo', ⟨vs, ns, c2, rfl, hI, hvl⟩, hne⟩⟩ (by k_asm) M8
 ·(with_reducible rename News h₀ _ _ _ => M9)
  obtain ⟨po', hpo', M8⟩ : ∃ po', (∃ (g s k : Int) (t1 t2 t3 : Tok) (c : Nat), po' = listOf #[.ref C, .int g t1, .int s t2, .int k t3] c ∧ 0 ≤ g ∧ 0 ≤ s ∧ s < 2147483647 ∧ 0 ≤ k ∧ k ≤ ((m9 + 1 : Nat) : Int)) ∧ News h₀ L _ ((P, po') :: (C, listOf vs.toArray c2) :: news) := ⟨_, ⟨_, _, _, _, _, _, _, rfl, hg, fm0 (by decide), fm1 (by decide), by omega, by omega⟩, M9⟩
  exact hret _ _ _ _ ⟨_, _, po', rfl, fm0 hl, fm1 hl, rfl, ⟨hpo', ⟨vs, ns, c2, rfl, hI, hvl⟩, hne⟩⟩ (by k_asm) M8
 ·(with_reducible rename News h₀ _ _ _ => M9)
  obtain ⟨po', hpo', M8⟩ : ∃ po', (∃ (g s k : Int) (t1 t2 t3 : Tok) (c : Nat), po' = listOf #[.ref C, .int g t1, .int s t2, .int k t3] c ∧ 0 ≤ g ∧ 0 ≤ s ∧ s < 2147483647 ∧ 0 ≤ k ∧ k ≤ ((m9 + 1 : Nat) : Int)) ∧ News h₀ L _ ((P, po') :: (C, listOf vs.toArray c2) :: news) := ⟨_, ⟨_, _, _, _, _, _, _, rfl, hg, fm0 (by decide), fm1 (by decide), by omega, by omega⟩, M9⟩
  exact hret _ _ _ _ ⟨_, _, po', rfl, fm0 hl, fm1 hl, rfl, ⟨hpo', ⟨vs, ns, c2, rfl, hI, hvl⟩, hne⟩⟩ (by k_asm) M8
theorem a2F {l : Led} (h : @b9w Nat _ P a.1) (k : ∀ q ∈ l, q.1 ≠ P) : ∀ q ∈ a :: l, q.1 ≠ P := fun q hq => by
 rcases b9r.mp hq with rfl | hq
 ·exact b9F h
 ·exact k q hq
theorem a8D {l : Led} (N : News h₀ L h (d :: a :: b :: l)) : News h₀ L h (a :: b :: d :: l) := fun p hp => N p (by
 simp only [b9r] at hp ⊢
 rcases hp with h | h | h | h
 ·exact .inr (.inl h)
 ·exact .inr (.inr (.inl h))
 ·exact .inl h
 ·exact .inr (.inr (.inr h)))
theorem a4W {l : Led} (N : News h₀ L h (a :: b :: d :: l)) : News h₀ L h (a :: b :: l) := nc (N _ (.head _)) (nc (N _ mt1) fun p hp => N p (tl3 hp))
noncomputable def a6L : List b9p := ["a", "a/b", "b", "a/b/c", "INBOX", "c", "inbox/x"]
noncomputable def b1h : List b9p := ["a/", "inbox", "", "a//b", "x*", "Inbox/y/", "/a"]
noncomputable def a4f : List b9p := ["CREATE", "DELETE", "RENAME", "SUBSCRIBE", "UNSUBSCRIBE"]
noncomputable def a3x (ss : List b9p) (v : Value) (n news : Led) : Prop := ∃ D vs c, v = .ref D ∧ n = (D, listOf (c0x vs) c) :: news ∧ (∀ p ∈ news, p.1 < D) ∧ StrsAre vs ss
theorem a2o : Fn w G none 693 1 20 [] news (fun v n => a3x a6L v n news) := by
 revert cl9 G w news
 ktr_unf
 k_steps
 exact hret _ _ _ _ ⟨_, _, _, rfl, rfl, by assumption, .cons _ _ (.cons _ _ (.cons _ _ (.cons _ _ (.cons _ _ (.cons _ _ (.cons _ _ (.nil)))))))⟩ (by k_asm) (by k_asm)
theorem a7z : Fn w G none 700 1 20 [] news (fun v n => a3x b1h v n news) := by
 revert cl9 G w news
 ktr_unf
 k_steps
 exact hret _ _ _ _ ⟨_, _, _, rfl, rfl, by assumption, .cons _ _ (.cons _ _ (.cons _ _ (.cons _ _ (.cons _ _ (.cons _ _ (.cons _ _ (.nil)))))))⟩ (by k_asm) (by k_asm)
theorem a4M : Fn w G none 707 1 20 [] news (fun v n => a3x a4f v n news) := by
 revert cl9 G w news
 have mk9 : a0b := trivial
 ktr_unf
 k_steps
 exact hret _ _ _ _ ⟨_, _, _, rfl, rfl, by assumption, .cons _ _ (.cons _ _ (.cons _ _ (.cons _ _ (.cons _ _ (.nil)))))⟩ (by k_asm) (by k_asm)
theorem a3b {a : Addr} {k : Int} (N : News h₀ L s.heap news) (hm : (a, listOf vs.toArray n) ∈ news) (hS : StrsAre vs ss) (hk : 0 ≤ k) (hk2 : k < (ss.length : Int)) (hk3 : k < 1000000) (hs : subscripted slice false (.ref a) (.int k u) = operate [.ref a, .int k u] (getItem (.ref a) (.int k u))) (h : ∀ x t, x ∈ ss → Q (.str x t) s) :
  wpAny (model prog w) A (subscriptTail value slice (.ref a) (.int k u)) Q E s :=
 PySem.W.KTb.item_list ⟨_, (N _ hm).1, rfl, n, rfl⟩ hS hk hk2 (by omega) (fun t' hlt => h _ t' (by rw [c0I, c2G hlt]; exact c2f hlt)) hs
theorem b5g : True := by
 k_with "Y6:subscriptTail Call Name nil nil Call ref int" => ((k_here; k_dflt (refine' a3b ?k1 ?k2 ?k3 ?k4 ?k5 ?k6 ?k7 ?_; (case k1 => k_asm); (case k2 => k_mem); (case k3 => assumption); (case k4 => assumption); (case k5 => assumption); (case k6 => omega); (case k7 => with_unfolding_all rfl)); intro xI uI hxI))
 k_with "Y6:call ref" => (k_here; ((with_reducible show wpAny _ _ (call (b9t 693) _) _ _ _); k_dflt (refine' Fn.use a2o ?k1 ?k2 ?k3 ?k4 ?k5 ?k6 ?k7 ?k8 ?_); (case k4 => k_extra "g:k4"); k_extra "g:c1"; k_extra "g:c2"; obtain ⟨DnN, vsN, cN, rfl, rfl, lN1, hSN⟩ := hR'; (try clear hR'); k_extra "g:c3"; (try k_lt lN1); k_extra "g:c4"))
 k_with "Y6:call ref" => (k_here; ((with_reducible show wpAny _ _ (call (b9t 700) _) _ _ _); k_dflt (refine' Fn.use a7z ?k1 ?k2 ?k3 ?k4 ?k5 ?k6 ?k7 ?k8 ?_); (case k4 => k_extra "g:k4"); k_extra "g:c1"; k_extra "g:c2"; obtain ⟨DnN, vsN, cN, rfl, rfl, lN1, hSN⟩ := hR'; (try clear hR'); k_extra "g:c3"; (try k_lt lN1); k_extra "g:c4"))
 k_with "Y6:call ref" => (k_here; ((with_reducible show wpAny _ _ (call (b9t 686) _) _ _ _); k_dflt (refine' Fn.use (a3j (by k_asm) (by omega) ?off (by decide) (by decide)) ?k1 ?k2 ?k3 ?k4 ?k5 ?k6 ?k7 ?k8 ?_); (case k4 => first | exact a8D (by assumption) | k_extra "g:k4"); (case off => k_extra "g:off"); k_extra "g:c1"; k_extra "g:c2"; obtain ⟨kD, uD, poD, rfl, hkD1, hkD2, rfl, hPD⟩ := hR'; (try clear hR'); k_extra "g:c3"; k_extra "g:c4"))
 trivial
noncomputable def allNames : List b9p := a6L ++ b1h
theorem a1B (hp : PenOk P C po co m9) (hm9 : m9 ≤ 50) (hoff : ∀ q ∈ news, q.1 ≠ P) :
  Fn w G none 714 4 70 [.ref P] ((P, po) :: (C, co) :: news) (fun v n => ∃ x u po', v = .str x u ∧ x ∈ allNames ∧ n = (P, po') :: (C, co) :: news ∧ PenOk P C po' co (m9 + 2)) := by
 revert cl9 G m9 w C P po co news
 intros hp hm9 hoff
 have mk9 : a0b := trivial
 ktr_unf
 k_steps
 ·exact hret _ _ _ _ ⟨xI, uI, poD, rfl, b9s _ hxI, rfl, hPD⟩ (by k_asm) (a4W (by assumption))
 ·exact hret _ _ _ _ ⟨xI, uI, poD, rfl, b9G _ hxI, rfl, hPD⟩ (by k_asm) (a4W (by assumption))
theorem era_Y7 : True := trivial
theorem a6S {a : b9p} {r : List b9p} (F : Fr h₀ L s.heap m) (N : News h₀ L s.heap news) (e : c1C x y = a :: r) (hy : (y.length == 0) = false) (hsz : x.length ≤ 1000) (h : ∀ D h' k ta vs, StrsAre vs r → Fr h₀ L h' m → News h₀ L h' ((D, listOf (c0E a ta :: vs).toArray 0) :: news) → (∀ p ∈ news, p.1 < D) → Q (.ref D) { s with heap := h', toks := k }) : wpAny (model prog w) A (call (.builtin "str.split") [.str x t, .str y u]) Q E s := by
 refine KSpl.split1 F N hy (fun D l h' k e' _ F' N' l1 => ?_) (by rw [b9O]; omega)
 rw [e] at e'
 obtain ⟨ta, l', rfl, e2⟩ := KSpl.cons_of e'
 exact h D h' k ta (strValues l') (e2 ▸ strsAre_of_values l') F' N' l1
noncomputable def a8e (x : b9p) : Bool := match c1C x (b9q "/") with
 | [] => false
 | a :: r => decide (a.length ≤ 20) && decide (r.length ≤ 10) && decide ((r.map (·.length)).sum ≤ 100) && (!(Txt.upper a == b9q "INBOX") || c1r (b9q "/") (b9q "INBOX" :: r) == a0a x) && ((Txt.upper a == b9q "INBOX") || c1r (b9q "/") (a :: r) == a0a x)
theorem b0y : ∀ x ∈ allNames, a8e x = true := by decide +kernel
theorem a5M : ∀ x ∈ allNames, ∃ a r, c1C x (b9q "/") = a :: r ∧ a.length ≤ 20 ∧ r.length ≤ 10 ∧ (r.map (·.length)).sum ≤ 100 ∧ ((Txt.upper a == b9q "INBOX") = true → c1r (b9q "/") (b9q "INBOX" :: r) = a0a x) ∧ ((Txt.upper a == b9q "INBOX") = false → c1r (b9q "/") (a :: r) = a0a x) := fun x hx => by
 have h := b0y x hx
 unfold a8e at h
 cases e : c1C x (b9q "/") with
 | nil => rw [e] at h; cases h
 | cons a r =>
  rw [e] at h
  simp only [c0h, decide_eq_true_eq, c2e, c2Y, beq_iff_eq] at h
  obtain ⟨⟨⟨⟨h1, h2⟩, h3⟩, h4⟩, h5⟩ := h
  refine ⟨a, r, rfl, h1, h2, h3, fun q => ?_, fun q => ?_⟩
  ·rcases h4 with z | z
   ·rw [q] at z; cases z
   ·exact z
  ·rcases h5 with z | z
   ·rw [z, beq_self_eq_true] at q; cases q
   ·exact z
theorem a9E : ∀ x ∈ allNames, x.length ≤ 20 := by decide +kernel
theorem a7r {x : Value} {l : List Value} (N : News h₀ L s.heap news) (hm : (T, listOf (x :: l).toArray n) ∈ news) (h : Q x s) (hs : subscripted slice false (.ref T) (.int 0 u) = operate [.ref T, .int 0 u] (getItem (.ref T) (.int 0 u))) (hg : ∀ r, letTemporaryGo value (.ref T) r = pure ()) : wpAny (model prog w) A (subscriptTail value slice (.ref T) (.int 0 u)) Q E s :=
 PyProof.Rows.item_list ⟨_, (N _ hm).1, rfl, n, rfl⟩ (by decide) (by decide) rfl h hs hg
theorem b4t : True := by
 k_with "Y7:call builtin:str.split" => ((k_here; k_dflt (refine' a6S ?k1 ?k2 ?k3 ?k4 ?k5 ?_; (case k1 => k_asm); (case k2 => k_asm); (case k3 => assumption); (case k4 => decide); (case k5 => omega)); intro D' h' tk' ta' vs' hS' F' N' l1; (have hvl' := hrl _ hS'); (try k_lt l1); (try k_sweep)))
 k_with "Y7:subscriptTail Name Constant ref int" => ((k_here; k_dflt (refine' a7r ?k1 ?k2 ?_ ?k5 ?k6; (case k1 => k_asm); (case k2 => k_mem); (case k5 => with_unfolding_all rfl); (case k6 => intro _; with_unfolding_all rfl))))
 trivial
theorem a5F {prog : Program} {w : World} {A : Around} {E : Value → Shared → Prop} {s : Shared} {h₀ : Heap} {L : Addr} {m : b9p → Option Value} {news : Led} {value slice : Expr} {T : Addr} {x : Value} {l : List Value} {n : Nat} {u : Tok} {Q : Value → Shared → Prop}
  (F : Fr h₀ L s.heap m) (N : News h₀ L s.heap news) (hm : (T, listOf (x :: l).toArray n) ∈ news) (hz : l.length ≤ 1000)
  (hs : subscripted slice false (.ref T) (.ref s.heap.objs.size) = operate [.ref s.heap.objs.size, .ref T] (getItem (.ref T) (.ref s.heap.objs.size))) (hg : ∀ r, letTemporaryGo value (.ref T) r = pure ())
  (h : ∀ h' D, Fr h₀ L h' m → News h₀ L h' ((D, listOf l.toArray 0) :: news) → (∀ p ∈ news, p.1 < D) → Q (.ref D) { s with heap := h' }) :
  wpAny (model prog w) A (subscriptTail value slice (.ref T) (.ref s.heap.objs.size)) Q E { s with heap := s.heap.push { cls := .type "slice", data := .fields #[.int 1 u, .none, .none] } } := by
 refine slice_list F N ⟨_, (N _ hm).1, rfl, n, rfl⟩ (.int 1 u) .none (fun h' F' N' => ?_) hs hg (by rw [b9O, b9H]; simp; omega)
 have e : slicePick (x :: l).toArray (some 1) none none = l.toArray := slicePick_from (x :: l).toArray 1 (by rw [b9H]; simp)
 rw [e] at N'
 exact h h' _ F' N' fun p hp => b9N (b9x (N p hp).1)
theorem a7q {prog : Program} {w : World} {A : Around} {E : Value → Shared → Prop} {s : Shared} {h₀ : Heap} {L : Addr} {m : b9p → Option Value} {news : Led} {value slice : Expr} {T : Addr} {x : Value} {l : List Value} {n : Nat} {u : Tok} {Q : Value → Shared → Prop}
  (F : Fr h₀ L s.heap m) (N : News h₀ L s.heap news) (hm : (T, listOf (x :: l).toArray n) ∈ news) (hz : l.length ≤ 1000)
  (hs : subscripted slice false (.ref T) (.ref s.heap.objs.size) = operate [.ref s.heap.objs.size, .ref T] (getItem (.ref T) (.ref s.heap.objs.size))) (hg : ∀ r, letTemporaryGo value (.ref T) r = pure ())
  (h : ∀ h' D, Fr h₀ L h' m → News h₀ L h' ((D, listOf [x].toArray 0) :: news) → (∀ p ∈ news, p.1 < D) → Q (.ref D) { s with heap := h' }) :
  wpAny (model prog w) A (subscriptTail value slice (.ref T) (.ref s.heap.objs.size)) Q E { s with heap := s.heap.push { cls := .type "slice", data := .fields #[.none, .int 1 u, .none] } } := by
 refine slice_list F N ⟨_, (N _ hm).1, rfl, n, rfl⟩ .none (.int 1 u) (fun h' F' N' => ?_) hs hg (by rw [b9O, b9H]; simp; omega)
 have e : slicePick (x :: l).toArray none (some 1) none = [x].toArray := by
  rw [show (some (1 : Int)) = some (((1 : Nat)) : Int) from rfl, slicePick_upto (x :: l).toArray 1 (by rw [b9H]; simp)]
  simp
 rw [e] at N'
 exact h h' _ F' N' fun p hp => b9N (b9x (N p hp).1)
theorem b5D {a b : Addr} {ws : List Value} {n2 : Nat} (F : Fr h₀ L s.heap m) (N : News h₀ L s.heap news) (ha : (a, listOf vs.toArray n1) ∈ news) (hb : (b, listOf ws.toArray n2) ∈ news) (hz : vs.length + ws.length ≤ 2000) (h : ∀ h' D, Fr h₀ L h' m → News h₀ L h' ((D, listOf (vs ++ ws).toArray 0) :: news) → (∀ q ∈ news, q.1 < D) → Q (.ref D) { s with heap := h' }) : wpAny (model prog w) A (binaryOp .Add (.ref a) (.ref b)) Q E s :=
 add_arrays F N ⟨_, (N _ ha).1, rfl, n1, rfl⟩ ⟨_, (N _ hb).1, rfl, n2, rfl⟩ (fun h' F' N' => h h' _ F' N' fun q hq => b9x (N q hq).1) (by rw [b9O]; simp; omega)
theorem b2P {a : Addr} (N : News h₀ L s.heap news) (ha : (a, listOf vs.toArray n1) ∈ news) (hS : StrsAre vs ss) (hx : x.length ≤ 16) (hw : (ss.map (·.length)).sum + ss.length ≤ 1048576) (h : ∀ t' k, Q (.str (c1r x ss) t') { s with toks := k }) : wpAny (model prog w) A (call (.builtin "str.join") [.str x t, .ref a]) Q E s :=
 join_listW ⟨_, (N _ ha).1, rfl, n1, rfl⟩ hS hx hw h
theorem b3J : True := by
 k_with "Y7:subscriptTail Name Slice ref ref" => ((k_here; k_dflt (first | (refine' a5F ?k1 ?k2 ?k3 ?k4 ?k5 ?k6 ?_; (case k1 => k_asm); (case k2 => k_asm); (case k3 => k_mem); (case k4 => omega); (case k5 => with_unfolding_all rfl); (case k6 => intro _; with_unfolding_all rfl)) | (refine' a7q ?k1 ?k2 ?k3 ?k4 ?k5 ?k6 ?_; (case k1 => k_asm); (case k2 => k_asm); (case k3 => k_mem); (case k4 => omega); (case k5 => with_unfolding_all rfl); (case k6 => intro _; with_unfolding_all rfl))); intro h' D' F' N' l1; (try k_lt l1); (try k_sweep)))
 k_with "Y7:binaryOp Add ref ref" => ((k_here; k_dflt (refine' b5D ?k1 ?k2 ?k3 ?k4 ?k5 ?_; (case k1 => k_asm); (case k2 => k_asm); (case k3 => k_mem); (case k4 => k_mem); (case k5 => (simp only [c1X, List.length_nil]; omega))); intro h' D' F' N' l1; (try k_lt l1); (try k_sweep)))
 k_with "Y7:call builtin:str.join" => ((k_here; k_dflt (refine' b2P ?k1 ?k2 ?k3 ?k4 ?k5 ?_; (case k1 => k_asm); (case k2 => k_mem); (case k3 => exact .cons _ _ (by assumption)); (case k4 => decide); (case k5 => (simp only [c0B, List.sum_cons, c1X]; omega))); intro t' k'))
 trivial
theorem a0J (hx : x ∈ allNames) : Fn w G none 721 2 60 [.str x t] news (fun v n => ∃ u, v = .str (a0a x) u ∧ n = news) := by
 revert cl9 G w x t news
 intros hx
 have mk9 : a0b := trivial
 obtain ⟨a, r, hsp, hn1, hn2, hn3, hup, hno⟩ := a5M x hx
 have hln := a9E x hx
 have hrl : ∀ vs : List Value, StrsAre vs r → vs.length ≤ 10 := fun vs h => by rw [h.length]; exact hn2
 have hI5 : (b9q "INBOX").length ≤ 5 := by decide +kernel
 ktr_unf
 k_steps
 ·exact hret _ _ _ _ ⟨_, by rw [hup (by assumption)], rfl⟩ (by k_asm) fun p hp => (by assumption : News h₀ L _ _) p (by first | exact tl4 hp)
 ·exact hret _ _ _ _ ⟨_, by rw [hno (by assumption)], rfl⟩ (by k_asm) fun p hp => (by assumption : News h₀ L _ _) p (by first | exact tl4 hp)
theorem b5u : True := by
 k_with "Y7:call ref" => (k_here; ((with_reducible show wpAny _ _ (call (b9t 721) _) _ _ _); k_dflt (refine' Fn.use (a0J (by k_asm)) ?k1 ?k2 ?k3 ?k4 ?k5 ?k6 ?k7 ?k8 ?_); (case k4 => k_extra "g:k4"); k_extra "g:c1"; k_extra "g:c2"; obtain ⟨uN, rfl, rfl⟩ := hR'; (try clear hR'); k_extra "g:c3"; k_extra "g:c4"))
 trivial
noncomputable def b1m (x : b9p) : Bool := decide ((a0a x).length ≤ 20) && (if c0d (a0a x) (some (-1)) none == b9q "/" then c0d (a0a x) none (some (-1)) == a0h x else a0a x == a0h x)
theorem b2i : ∀ x ∈ allNames, b1m x = true := by decide +kernel
theorem a2Q (hx : x ∈ allNames) : Fn w G none 735 4 90 [.str x t] news (fun v n => ∃ u, v = .str (a0h x) u ∧ n = news) := by
 revert cl9 G w x t news
 intros hx
 have mk9 : a0b := trivial
 have hm := b2i x hx
 unfold b1m at hm
 rw [c0h, decide_eq_true_eq] at hm
 obtain ⟨hl, hm⟩ := hm
 ktr_unf
 k_steps
 ·rw [if_pos (by assumption)] at hm
  exact hret _ _ _ _ ⟨_, by rw [c0j hm], rfl⟩ (by k_asm) (by k_asm)
 ·rw [if_neg (by rw [‹(c0d (a0a x) (some (-1)) none == b9q "/") = false›]; exact c2p)] at hm
  exact hret _ _ _ _ ⟨_, by rw [c0j hm], rfl⟩ (by k_asm) (by k_asm)
noncomputable def okB (x : b9p) (j : Nat) : Bool := match x.cps[j]? with
 | none => false
 | some c => decide (c ≠ 37) && (decide (c ≠ 42) && ((!a0P c) && (decide (c ≠ 47) || (decide (j ≠ 0) && decide (x.cps[j - 1]? ≠ some 47)))))
noncomputable def a1m (x : b9p) : Bool := ((c1s x.length).all fun j => okB x j) && (decide (x.length ≠ 0) && decide (x.cps[x.length - 1]? ≠ some 47))
theorem b2k : okB x j = true ↔ b3G x j := by
 revert cl9 j x
 have mk9 : a0b := trivial
 unfold okB b3G
 cases h : x.cps[j]? with
 | none => simp
 | some c =>
  simp only [c0h, c2e, decide_eq_true_eq, c2Y, Option.some.injEq, exists_eq_left']
  constructor
  ·intro hR9; obtain ⟨h1, h2, h3, h4⟩ := hR9
   exact ⟨h1, h2, h3, fun e => h4.elim (fun z => absurd e z) id⟩
  ·intro hR9; obtain ⟨h1, h2, h3, h4⟩ := hR9
   exact ⟨h1, h2, h3, (Decidable.em (c = 47)).elim (fun z => .inr (h4 z)) .inl⟩
theorem goodB_iff : a1m x = true ↔ a0k x := by
 unfold a1m a0k
 simp only [c0h, decide_eq_true_eq, c2H, c3i, b2k]
theorem b9a {p q r : Bool} (h : p = true) : (!p) = ((!p) && ((!!q) && (!!r))) := by rw [h]; rfl
theorem b8S {p q r : Bool} (h : p = false) (h' : q = true) : (!!r) = ((!p) && ((!!q) && (!!r))) := by rw [h, h']; simp
theorem b8E {p q r : Bool} (h : p = false) (h' : q = false) : (!!q) = ((!p) && ((!!q) && (!!r))) := by rw [h, h']; rfl
noncomputable def a3V : List b9p := allNames.map a0a ++ allNames.map a0h
noncomputable def b2T (x : b9p) : Bool := !((c1C x (b9q "/")).any fun y => y == b9q "") && (!Txt.contains x (b9q "*") && !Txt.contains x (b9q "%"))
theorem a8f : ∀ x ∈ a3V, b2T x = a1m x ∧ x.length ≤ 20 := by decide +kernel
section
theorem b4J : True := by
 k_with "Y7:call builtin:str.split" => ((k_here; k_dflt (refine' KSpl.split1 ?k1 ?k2 ?k3 ?_ ?k5; (case k1 => k_asm); (case k2 => k_asm); (case k3 => decide); (case k5 => (rw [b9O]; omega))); intro D' l' h' tk' hE' hS' F' N' l1; (rw [hE'] at hS'); (try k_lt l1); (try k_sweep)))
 trivial
theorem a0E (hx : x ∈ a3V) : Fn w G none 728 2 60 [.str x t] news (fun v n => v = .bool (a1m x) ∧ n = news) := by
 revert cl9 G w x t news
 intros hx
 have mk9 : a0b := trivial
 obtain ⟨h1, h2⟩ := a8f x hx
 unfold b2T at h1
 ktr_unf
 k_steps
 all_goals exact hret _ _ _ _ ⟨congrArg c1G (by rw [← h1]; unfold Txt.contains; first | exact b9a (by assumption) | exact b8S (by assumption) (by assumption) | exact b8E (by assumption) (by assumption)), rfl⟩ (by k_asm) (by first | k_asm | exact fun p hp => (by assumption : News h₀ L _ _) p (.tail _ hp))
end
theorem era_Y8 : True := trivial
theorem b4U : True := by
 k_with "Y8:call ref" => (k_here; ((with_reducible show wpAny _ _ (call (b9t 735) _) _ _ _); k_dflt (refine' Fn.use (a2Q (by k_asm)) ?k1 ?k2 ?k3 ?k4 ?k5 ?k6 ?k7 ?k8 ?_); (case k4 => k_extra "g:k4"); k_extra "g:c1"; k_extra "g:c2"; obtain ⟨uN, rfl, rfl⟩ := hR'; (try clear hR'); k_extra "g:c3"; k_extra "g:c4"))
 k_with "Y8:call ref" => (k_here; ((with_reducible show wpAny _ _ (call (b9t 728) _) _ _ _); k_dflt (refine' Fn.use (a0E (by k_asm)) ?k1 ?k2 ?k3 ?k4 ?k5 ?k6 ?k7 ?k8 ?_); (case k4 => k_extra "g:k4"); k_extra "g:c1"; k_extra "g:c2"; obtain ⟨rfl, rfl⟩ := hR'; (try clear hR'); k_extra "g:c3"; k_extra "g:c4"))
 trivial
inductive StrInts : List (b9p × Value) → List (b9p × Int) → Prop where
 | nil : StrInts [] []
 | cons (x : b9p) (v : Int) (t : Tok) {l : List (b9p × Value)} {m : List (b9p × Int)} (h : StrInts l m) : StrInts ((x, .int v t) :: l) ((x, v) :: m)
theorem StrInts.snoc {m : List (b9p × Int)} {v : Int} (h : StrInts l m) : StrInts (l ++ [(x, .int v t)]) (m ++ [(x, v)]) := by
 induction h with
 | nil => exact .cons _ _ _ .nil
 | cons a b c _ ih => exact .cons a b c ih
theorem StrInts.keys {m : List (b9p × Int)} (h : StrInts l m) : l.map (·.1) = m.map (·.1) := by
 induction h with
 | nil => rfl
 | cons a b c _ ih => rw [c0B, c0B, ih]
noncomputable def a0q (bs : List (b9p × Int)) (x : b9p) : Bool := bs.any fun p => decide (p.1 = x)
theorem a1b {m : List (b9p × Int)} (h : StrInts l m) : (valueAt l x).isSome = a0q m x := by
 revert cl9 x l m
 intros h
 unfold valueAt a0q
 induction h with
 | nil => rfl
 | cons a b c _ ih =>
  rw [c1f, c1I]
  by_cases e : a = x
  ·simp [e]
  ·simp only [e, decide_false, c2S]; exact ih
theorem a1C {m : List (b9p × Int)} (h : StrInts l m) {v : Int} (hn : a0q m x = false) : StrInts (stored l x (.int v t)) (m ++ [(x, v)]) := by
 have e : stored l x (.int v t) = l ++ [(x, .int v t)] := by
  unfold stored
  rw [if_neg]
  have h1 := a1b h (x := x)
  rw [hn] at h1
  unfold valueAt at h1
  simp only [Option.isSome_map, List.find?_isSome, c2D, ne_eq, not_exists, not_and] at h1
  simp only [c0R, not_exists, not_and]
  exact h1
 rw [e]
 exact h.snoc
noncomputable def a7R (SB SU : Addr) (nxt : Int) (t : Tok) : List (b9p × Value) := [(b9q "boxes", .ref SB), (b9q "subscribed", .ref SU), (b9q "next", .int nxt t)]
structure a6P (w : World) (ST SB SU : Addr) (so bo uo : Obj) (bs : List (b9p × Int)) (subs : List b9p) (nxt : Int) : Prop where
 st : ∃ t, so.IsDictOf (kS w) (a7R SB SU nxt t)
 bx : ∃ kvs, bo.IsDictOf (kS w) kvs ∧ StrInts kvs bs
 sb : ∃ vs c, uo = listOf (c0x vs) c ∧ StrsAre vs subs
 n1 : @Ne Nat ST SB
 n2 : @Ne Nat ST SU
 n3 : @Ne Nat SB SU
 lo : (SB == sysModules) = false
theorem a2B : valueAt (a7R SB SU nxt t) (b9q "boxes") = some (.ref SB) := rfl
theorem a5D : valueAt (a7R SB SU nxt t) (b9q "subscribed") = some (.ref SU) := rfl
theorem a5U : valueAt (a7R SB SU nxt t) (b9q "next") = some (.int nxt t) := rfl
noncomputable def a0p (bs : List (b9p × Int)) (nxt : Int) (f : b9p) : List (b9p × Int) × Int × b9p :=
 if a1m f && !a0q bs f then (bs ++ [(f, nxt)], nxt + 1, "") else (bs, nxt, if a0q bs f then "ALREADYEXISTS" else "CANNOT")
theorem lc1 (h : a0q bs f = true) : a0p bs nxt f = (bs, nxt, b9q "ALREADYEXISTS") := by
 unfold a0p
 rw [h]
 simp
theorem lc2 (h : a0q bs f = false) (h' : a1m f = false) : a0p bs nxt f = (bs, nxt, b9q "CANNOT") := by
 unfold a0p
 rw [h, h']
 simp
theorem lc3 (h : a0q bs f = false) (h' : a1m f = true) : a0p bs nxt f = (bs ++ [(f, nxt)], nxt + 1, b9q "") := by
 unfold a0p
 rw [h, h']
 simp
theorem a6N (h : x ∈ allNames) : a0h x ∈ a3V := b9s _ (b9I.mpr ⟨x, h, rfl⟩)
theorem a6g (h : x ∈ allNames) : a0a x ∈ a3V := b9G _ (b9I.mpr ⟨x, h, rfl⟩)
theorem a2x {prog : Program} {w : World} {K : Type} [DecidableEq K] {knd : KeyKind prog w K} {A : Around} {E : Value → Shared → Prop} {s : Shared} {h₀ : Heap} {L d : Addr} {news : Led} {o : Obj} {kvs : List (K × Value)} {k : K} {key : Value} {Q : Value → Shared → Prop} (N : News h₀ L s.heap news) (hp : (d, o) ∈ news) (hd : o.IsDictOf knd kvs) (lo : (d == sysModules) = false) (hkey : knd.is k key = true) (b : Bool) (hb : (valueAt kvs k).isSome = b) (h : Q (.bool (!b)) { s with toks := s.toks + 1 }) :
  wpAny (model prog w) A (compareOp .NotIn key (.ref d)) Q E s := wpAny_notIn_of hkey lo (kda_dict N hp hd).mapOf (by rw [hb]; exact h)
theorem b4o : True := by
 k_with "Y8:compareOp In str ref" => ((k_here; k_dflt (refine' kda_in (knd := kS _) ?k1 ?k2 ?k3 ?k4 (b9X _ _ _ _) _ (a1b ?k5) ?_; (case k1 => k_asm); (case k2 => k_mem); (case k3 => assumption); (case k4 => assumption); (case k5 => assumption))))
 k_with "Y8:compareOp NotIn str ref" => ((k_here; k_dflt (refine' a2x (knd := kS _) ?k1 ?k2 ?k3 ?k4 (b9X _ _ _ _) _ (a1b ?k5) ?_; (case k1 => k_asm); (case k2 => k_mem); (case k3 => assumption); (case k4 => assumption); (case k5 => assumption))))
 k_with "Y8:setItem ref str" => ((k_here; k_dflt (refine' kda_set (knd := kS _) ?F ?N ?U ?d (b9X _ _ _ _) ?z ?_; (case F => k_asm); (case N => k_asm); (case U => k_updF); (case d => assumption); (case z => (rw [b9O]; omega))); intro h' ob' F' N' hob'; (try dsimp only at N'); (try k_sweep)))
 k_with "Y8:subscriptTail" => ((k_here; (with_reducible show wpAny _ _ (subscriptTail _ _ (b9t _) (c0E _ _)) _ _ _); k_dflt (refine' kdt_tail (knd := kS _) ?k1 ?k2 ?k3 ?_; (case k1 => k_asm); (case k2 => k_mem); (case k3 => assumption))))
 trivial
theorem a4a (hk : a6P w ST SB SU so bo uo bs subs nxt) (hoff : ∀ q ∈ news, q.1 ≠ ST) (hoff2 : ∀ q ∈ news, q.1 ≠ SB) (hx : x ∈ allNames) (hz : bs.length ≤ 50) :
  Fn w G none 747 6 130 [.ref ST, .str x t] ((ST, so) :: (SB, bo) :: (SU, uo) :: news) (fun v n => ∃ u so' bo', v = .str (a0p bs nxt (a0h x)).2.2 u ∧ n = (ST, so') :: (SB, bo') :: (SU, uo) :: news ∧ a6P w ST SB SU so' bo' uo (a0p bs nxt (a0h x)).1 subs (a0p bs nxt (a0h x)).2.1) := by
 revert cl9 G w subs x t SB SU ST so bo uo nxt bs news
 intros hk hoff hoff2 hx hz
 have mk9 : a0b := trivial
 have hk9 := hk
 obtain ⟨⟨t1, hst⟩, ⟨kvs, hbx, hI⟩, ⟨vs, c, hsb, hS⟩, n1, n2, n3, lo⟩ := hk
 have hv1 := a2B (SB := SB) (SU := SU) (nxt := nxt) (t := t1)
 have hv2 := a5U (SB := SB) (SU := SU) (nxt := nxt) (t := t1)
 have hset := a6N hx
 have hkl : kvs.length = bs.length := by have := congrArg c0N hI.keys; rwa [b9z, b9z] at this
 have hsl : ∀ a b c d, (a7R a b c d).length ≤ 3 := fun _ _ _ _ => b9K _
 have hsl := hsl SB SU nxt t1
 subst hsb
 ktr_unf
 k_steps
 ·exact hret _ _ _ _ (by rw [lc1 (by assumption)]; exact ⟨_, _, _, rfl, rfl, hk9⟩) (by k_asm) (by k_asm)
 ·exact hret _ _ _ _ (by rw [lc3 (by assumption) (by assumption)]; exact ⟨_, _, _, rfl, rfl, ⟨⟨_, by assumption⟩, ⟨_, by assumption, a1C hI (by assumption)⟩, ⟨_, _, rfl, hS⟩, n1, n2, n3, lo⟩⟩) (by k_asm) (by k_asm)
 ·exact hret _ _ _ _ (by rw [lc1 (by assumption)]; exact ⟨_, _, _, rfl, rfl, hk9⟩) (by k_asm) (by k_asm)
 ·exact hret _ _ _ _ (by rw [lc2 (by assumption) (by assumption)]; exact ⟨_, _, _, rfl, rfl, hk9⟩) (by k_asm) (by k_asm)
theorem era_Y9 : True := trivial
section
variable {w : World} {A : Around} {E : Value → Shared → Prop} {s : Shared} {h₀ : Heap} {L D : Addr} {m : b9p → Option Value} {news : Led} {n : Nat} {vs : List Value} {ss : List b9p} {Q : Value → Shared → Prop}
theorem a5n (F : Fr h₀ L s.heap m) (N : News h₀ L s.heap ((D, listOf vs.toArray n) :: news)) (hn : ∀ q ∈ news, q.1 ≠ D) (hS : StrsAre vs ss) (h64 : vs.length < 64) (h : ∀ vs' ss' c h', Fr h₀ L h' m → News h₀ L h' ((D, listOf (c0x vs') c) :: news) → StrsAre vs' ss' → Srt ss' ss → Q .none { s with heap := h' }) :
  wpAny (model b9u.prog w) A (call (.builtin "list.sort") [.ref D]) Q E s := by
 have z := N _ (.head _)
 have ho : s.heap.get? D = some (seqObj "list" vs.toArray n) := z.1
 refine c0G c3X ⟨_, z.1, rfl⟩ c3Y (list_sort_treeK (n := n) (vs := vs) strKind_oneLt ho hS.keysOf (fun v₁ v₂ rest e => keyKind_strs (by rw [← e]; exact hS)) h64 fun st' hp hs => ⟨.none, rfl, ?_⟩) (c3Z _)
 obtain ⟨ss', h1, h2, h3⟩ := sorted_out_str hS hp hs
 obtain ⟨c, hc⟩ := sortedHeap_at (vs := vs) (out := (arrOf st').map (·.2)) ho
 have F4 : Fr h₀ L (sortedHeap s.heap D vs ((arrOf st').map (·.2))) m :=
  ksk_fr (((ksk_fr F (c0n s.heap D (c0T fun _ => #[])) z.2.1 z.2.2).push (seqObj "tuple" vs.toArray 0)).push (seqObj "list" #[] 0)) (c0n _ D (c0T fun _ => (arrOf st').map (·.2))) z.2.1 z.2.2
 refine h ((arrOf st').map (·.2)).toList ss' c _ F4 (fun p hp => ?_) h1 ⟨h2, h3⟩
 rcases b9r.mp hp with rfl | hp
 ·exact ⟨by rw [Array.toArray_toList]; exact hc, z.2⟩
 ·have y := N p (.tail _ hp)
  exact ⟨(sortedHeap_old (hn p hp) (b9x y.1)).trans y.1, y.2⟩
theorem a6a {d : Addr} (hh : A.handled = none) (F : Fr h₀ L s.heap m) (N : News h₀ L s.heap news) (hp : (d, o) ∈ news) (hd : o.IsDictOf (kS w) kvs) (lo : (d == sysModules) = false) (hn : kvs.length ≤ 60) (h : ∀ (D : Addr) c vs ss h' tk, StrsAre vs ss → Srt ss (kvs.map (·.1)) → Fr h₀ L h' m → News h₀ L h' ((D, listOf (c0x vs) c) :: news) → (∀ q ∈ news, q.1 < D) → Q (.ref D) { s with heap := h', toks := tk }) :
  wpAny (model b9u.prog w) A (call (.builtin "sorted") [.ref d]) Q E s := by
 obtain ⟨ep, hat⟩ := (kda_dict N hp hd).dictAt
 refine kdu_sorted (kdl_dict (knd := kS w) (kvs := kvs) (ep := ep) lo) hh F N hat (kdl_size (b9W hn (by decide))) fun B h' tk vs F' N' l1 hl hv => ?_
 have hS : StrsAre vs (kvs.map (·.1)) := a3O (by simpa using hl) fun j u hu => by
  obtain ⟨k, x, hx, hk⟩ := hv j u hu
  obtain ⟨t, e⟩ := c2T hk
  exact ⟨k, by simp [hx], t, e⟩
 exact a5n F' N' (fun q hq => b9v (l1 q hq)) hS (by rw [hl]; omega) fun vs' ss' c h'' F'' N'' a b => h B c vs' ss' h'' tk a b F'' N'' l1
end
theorem era_Ya : True := trivial
theorem a2d (x : b9p) (n : Nat) : (c0d x none (some ((n : Nat) : Int))).cps.toList = x.cps.toList.take n := by
 revert cl9 x n
 have h0 : ¬ ((n : Int) < 0) := by omega
 have hm : min (n : Int) (x.length : Int) = ((min n x.length : Nat) : Int) := by omega
 have e : c2d none (some ((n : Nat) : Int)) 1 x.length = c2d (some ((0 : Nat) : Int)) (some ((min n x.length : Nat) : Int)) 1 x.length := by
  unfold c2d
  have h1 : ¬ (((min n x.length : Nat) : Int) < 0) := by omega
  have h2 : max (0 : Int) ((min n x.length : Nat) : Int) = ((min n x.length : Nat) : Int) := by omega
  have h3 : min ((min n x.length : Nat) : Int) (x.length : Int) = ((min n x.length : Nat) : Int) := by omega
  have h4 : max (0 : Int) (min (0 : Int) (x.length : Int)) = 0 := by omega
  simp only [h0, h1, hm, h2, h3, if_false]
  simp [h4]
 have p := c3S x (c0m (min n x.length)) (Nat.min_le_right n x.length)
 have ht : (x.cps.toList.drop 0).take (min n x.length - 0) = x.cps.toList.take n := by
  rw [c2r, Nat.sub_zero]
  rcases Nat.le_total n x.length with h | h
  ·rw [Nat.min_eq_left h]
  ·rw [Nat.min_eq_right h, c0A (by rw [len_list]; exact b9K _), c0A (by rw [← len_list]; exact h)]
 unfold c0d
 rw [e]
 split
 ·rename_i hc
  rw [c3T (c0m _) (Nat.min_le_right n x.length), b9z, c1L] at hc
  have hc : min n x.length - 0 = x.length := by simpa using hc
  rw [c0A]
  rw [← len_list]; omega
 ·rw [c2V, p, ht]
theorem a5u : (y == x || c0d y none (some ((x.length : Int) + 1)) == x ++ b9q "/") = a0D x y := by
 revert cl9 x y
 unfold a0D
 congr 1
 rw [c1b, beq_iff_eq, starts_list]
 have e1 : (x ++ b9q "/").cps.toList = x.cps.toList ++ [47] := by rw [a0F]; rfl
 have e2 : (x.length : Int) + 1 = (((x.length + 1 : Nat)) : Int) := rfl
 constructor
 ·intro h
  have h := congrArg (fun s : b9p => s.cps.toList) h
  rw [e2, a2d] at h
  exact ⟨y.cps.toList.drop (x.length + 1), by rw [← h, c3x]⟩
 ·intros hR9; (obtain ⟨z, hz⟩ := hR9) <;> (try clear hR9)
  refine a1h ?_
  rw [e2, a2d, hz, e1, len_list, List.take_left' (by simp)]
theorem sl1 (h : (y == x) = true) : true = a0D x y := by rw [← a5u, h]; rfl
theorem sl2 (h : (c0d y none (some ((x.length : Int) + 1)) == x ++ b9q "/") = true) : true = a0D x y := by rw [← a5u, h, c2Q]
theorem sl3 (h : (y == x) = false) (h' : (c0d y none (some ((x.length : Int) + 1)) == x ++ b9q "/") = false) : false = a0D x y := by rw [← a5u, h, h']; rfl
section
theorem b3V : True := by
 k_with "Ya:eval ListComp" => ((k_here; k_dflt (refine c3a (F₀ := by k_asm) (by with_unfolding_all rfl) (by decide) (by rfl) (by decide) (by rfl) ?_)))
 k_with "Ya:call builtin:sorted" => ((k_here; k_dflt (refine' a6a ?k1 ?k2 ?k3 ?k4 ?k5 ?k6 ?k7 ?_; (case k1 => exact rfl); (case k2 => k_asm); (case k3 => k_asm); (case k4 => k_mem); (case k5 => assumption); (case k6 => assumption); (case k7 => omega)); intro D c vsD ssD h' tk' hSD hSrt F' N' l1; (try k_lt l1); (try k_sweep)))
 k_with "Ya:CompSrcT" => ((k_here; refine a0c ?_))
 trivial
theorem a5f (hd : bo.IsDictOf (kS w) kvs) (lo : (SB == sysModules) = false) (hz : kvs.length ≤ 50) (hxl : x.length ≤ 800) (hl : ∀ k ∈ kvs.map (·.1), k.length ≤ 800) :
  Fn w G none 740 3 90 [.ref SB, .str x t] ((SB, bo) :: news) (fun v n => ∃ D vs ss c, v = .ref D ∧ n = (D, listOf (c0x vs) c) :: (SB, bo) :: news ∧ (∀ q ∈ (SB, bo) :: news, q.1 ≠ D) ∧ StrsAre vs (a0C x ss) ∧ Srt ss (kvs.map (·.1))) := by
 revert cl9 G w x t SB bo kvs news
 intros hd lo hz hxl hl
 have mk9 : a0b := trivial
 ktr_unf
 k_steps
 unfold a0f
 refine c3b (ax := D) (its := vsD.toArray) rfl (by k_asm) (by k_asm) (by k_mem) (by rw [b9O, b9H, hSD.length, hSrt.1.length_eq, b9z]; omega) ?_; intro g9
 refine a1I (a0D x) hSD (.inr ⟨_, by k_mem, rfl, _, rfl⟩) ?_ ?_ ?_
 ·revert cm9 y ty I oI C oC D9 ys m₂ h tk E'; intro hy hC' hx' F9 N9
  have hyl := hl y (hSrt.1.mem_iff.mp hy)
  k_steps
  ·exact a0i (by k_asm) (by assumption) (fun p hp => by first | exact hp | exact .tail _ hp | exact tl2 hp) (sl1 (by assumption))
  ·exact a0i (by k_asm) (by assumption) (fun p hp => by first | exact hp | exact .tail _ hp | exact tl2 hp) (sl2 (by assumption))
  ·exact a0i (by k_asm) (by assumption) (fun p hp => by first | exact hp | exact .tail _ hp | exact tl2 hp) (sl3 (by assumption) (by assumption))
 ·revert cm9 y ty I oI C oC D9 ys m₂ h tk E'; intro hy hC' hx' F9 N9
  k_steps
  exact a0i (by k_asm) (by k_asm) (fun p hp => hp) ⟨_, rfl⟩
 ·intro ys hys
  unfold c1w
  revert cm9 D2 h2 tk2; intro F2 N2 off2
  have off3 := a0T off2
  k_steps
  (with_reducible rename News h₀ _ _ _ => M9)
  exact hret _ _ _ _ ⟨D2, _, ssD, _, rfl, rfl, fun q hq => off3 q (tl2 hq), hys, hSrt⟩ (by k_asm) (nc (M9 _ (.head _)) fun p hp => M9 p (tl3 hp))
end
open PyProof.Rows.LCg
section
variable {prog : Program} {w : World} {A : Around} {E : Value → Shared → Prop} {s : Shared} {h₀ : Heap} {L : Addr} {m : b9p → Option Value} {env : Env}
noncomputable def a3Z (prog : Program) (w : World) (A : Around) (h₀ : Heap) (L : Addr) (m : b9p → Option Value) (env : Env) (ct elt : Expr) (x x₂ : b9p) (scope : Scope) (cl : List (b9p × Addr)) (s : Shared) (ax : Addr) (its : Array Value) (J : Nat → List Value → Led → Prop) : Prop :=
 ∀ i ys news v, its[i]? = some v → J i ys news → ∃ (t : Addr) (v₁ v₂ : Value) (nt : Nat), v = .ref t ∧ (t, ({ cls := .type "tuple", data := .seq #[v₁, v₂] nt } : Obj)) ∈ news ∧
  ∀ I oI C oC D m₂ h tk (E' : Value → Shared → Prop), NsObj oC m₂ → m₂ x = some v₁ → m₂ x₂ = some v₂ → Fr h₀ L h m → News h₀ L h ((I, oI) :: (C, oC) :: (D, lst ys) :: news) → Off3 I C D news → ((@Ne Nat I C) ∧ (@Ne Nat I D) ∧ (@Ne Nat C D)) →
   wpAny (model prog w) A (isTrue ct (compEnvC scope cl C env) (eval ct (compEnvC scope cl C env))) (fun ok s' => if ok = true then
    wpAny (model prog w) A (eval elt (compEnvC scope cl C env)) (CompEnd h₀ L m { s with heap := h, toks := tk } I oI C oC D (lst ys) (SrcAt h₀ ax its) (fun y news' => J (i + 1) (ys ++ [y]) news')) E' s'
    else CompEnd h₀ L m { s with heap := h, toks := tk } I oI C oC D (lst ys) (SrcAt h₀ ax its) (fun _ news' => J (i + 1) ys news') b9P s') E' { s with heap := h, toks := tk }
theorem b0d {target : Expr} {it acc : Value} (I : Nat → Shared → Prop) (turn : ∀ n s, I n s → wpAny (model prog w) A (pyNext it) (fun r s₁ => match r with
   | none => R (.ok .next) s₁
   | some v => wpAny (model prog w) A (letOwnedTupleGo target it v) (fun _ s₀ => wpAny (model prog w) A (assign target env v) (fun _ s₂ =>
     wpAny (model prog w) A (isTrue ct env (eval ct env)) (fun ok s₃ =>
      if ok = true then wpAny (model prog w) A (eval elt env) (fun x s₄ =>
       wpAny (model prog w) A (call (.builtin "list.append") [acc, x]) (fun _ s₅ => ∃ m, m < n ∧ I m s₅) (notedBy (model prog w) A env fun e s' => R (.error e) s') s₄) (notedBy (model prog w) A env fun e s' => R (.error e) s') s₃
      else ∃ m, m < n ∧ I m s₃) (notedBy (model prog w) A env fun e s' => R (.error e) s') s₂) (notedBy (model prog w) A env fun e s' => R (.error e) s') s₀) (notedBy (model prog w) A env fun e s' => R (.error e) s') s₁) (notedBy (model prog w) A env fun e s' => R (.error e) s') s) (n : Nat) (h : I n s) : codeAny (model prog w) A (.compLoop (.ListComp elt [⟨target, iter, [ct], 0⟩] scope pos) 0 it acc env) R s := by
 refine codeAny_loop rfl I (fun n s hI => ?_) n h
 show wpAny _ A ((compTurn (.ListComp elt [⟨target, iter, [ct], 0⟩] scope pos) 0 it acc env).onRaise (fun x => do noteFrame x env; theTreesLotGoes x)) _ _ s
 refine wpAny_noted ?_
 rw [compTurn_list]
 refine wpAny_bind (wpAny_standAt (wpAny_bind (b9L (turn n s hI) (fun r s₁ h₁ => ?_) fun _ _ h' => h')))
 cases r with
 | none => exact wpAny_pure h₁
 | some v =>
  refine wpAny_bind (b9L h₁ (fun _ s₀ h₀ => ?_) fun _ _ h' => h')
  refine wpAny_bind (b9L h₀ (fun _ s₂ h₂ => wpAny_bind (b9L (wpAny_tests_one h₂) (fun ok s₃ h₃ => ?_) fun _ _ h' => h')) fun _ _ h' => h')
  cases ok with
  | false => exact wpAny_pure ⟨rfl, by simpa using h₃⟩
  | true =>
   rw [if_pos rfl] at h₃
   exact wpAny_bind (wpAny_bind (b9L h₃ (fun x s₄ h₄ => wpAny_bind (b9L h₄ (fun _ s₅ h₅ => wpAny_pure (wpAny_pure ⟨rfl, h₅⟩)) fun _ _ h' => h')) fun _ _ h' => h'))
theorem a9w {px₂ tp : Pos} {tk9 : Nat} {s₂ : Shared} {RR : Value → Addr → Result → Shared → Prop} (J : Nat → List Value → Led → Prop) (hJ : ∀ i ys n, J i ys n → (ax, listOf its nn) ∈ n) (hsz : its.size ≤ sizeLine) (hcell : ∀ y ∈ scope.names, y.2 ≠ .cell) (hkind : scope.kind = .function) (hx : scope.names.lookup x = some .local) (hx₂ : scope.names.lookup x₂ = some .local) (hxx : x ≠ x₂) (hh : A.handled = none) (hit : s₂.heap.IsListIter I ax 0) (F : Fr h₀ L s₂.heap m) (N : News h₀ L s₂.heap news) (hIL : L ≠ I) (hI₀ : h₀.get? I = none) (off : ∀ p ∈ news, p.1 ≠ I) (hj : J 0 [] news) (turn : a3Z prog w A h₀ L m env ct elt x x₂ scope cl s₂ ax its J) (hRR : ∀ D C h tk m' ys news', Fr h₀ L h m → News h₀ L h ((D, lst ys) :: news') → Off1 D news' → h.Ns C m' → h₀.get? C = none → h₀.get? D = none → C ≠ L → D ≠ L → C ≠ D → (∀ p ∈ news', p.1 ≠ C) → J its.size ys news' → RR (.ref D) C (.ok .next) { s₂ with heap := h, toks := tk }) :
  wpAny (model prog w) A (newList []) (fun acc s₃ => wpAny (model prog w) A (newFunctionEnv scope env.globals cl [] env.qual none .none (some env)) (fun cenv s₄ =>
   codeAny (model prog w) A (.compStart (.ListComp elt [⟨.Tuple [.Name x px, .Name x₂ px₂] tk9 tp, iter, [ct], 0⟩] scope pos) 0 (.ref I) acc { cenv with scope := relabel scope env }) (RR acc cenv.locals) s₄) E s₃) E s₂ := by
 revert cl9 nn x x₂ scope cl I ax pos px its elt ct iter news prog w A E h₀ L m env px₂ tp tk9 s₂ RR J
 intros hJ hsz hcell hkind hx hx₂ hxx hh hit F N hIL hI₀ off hj turn hRR
 refine c0P (wpAny_newFunctionEnv hcell (by intro y hy; simp at hy) (fun h₁ hns₁ hsb₁ => ?_) hkind)
 dsimp only at hns₁ hsb₁ ⊢
 generalize hD : s₂.heap.objs.size = D at hns₁ hsb₁ ⊢
 generalize hH2 : s₂.heap.push { cls := .type "list", dict := none, data := .seq ([] : List Value).toArray } = H2 at hns₁ hsb₁ ⊢
 have hC9 : H2.objs.size = D + 1 := by rw [← hH2, c0i, hD]
 rw [hC9] at hns₁ hsb₁ ⊢
 have hIlt : @b9w Nat _ I D := by
  obtain ⟨o, e, _⟩ := hit
  rw [← hD]; exact b9x e
 have hLlt : @b9w Nat _ L D := by rw [← hD]; exact F.ns.lt
 have hnl : ∀ p ∈ news, @b9w Nat _ p.1 D := fun p hp => by rw [← hD]; exact b9x (N p hp).1
 have up : ∀ b o, s₂.heap.get? b = some o → h₁.get? b = some o := fun b o e => hsb₁.extBut b o (fun z => absurd (b9x e) (by rw [hD, z]; exact Nat.not_lt.mpr (c2h D))) (b9B _ (hH2 ▸ b9B _ e))
 have hacc : h₁.get? D = some (lst []) := hsb₁.extBut _ _ (b9v (c0K D)) (b9B _ (hH2 ▸ hD ▸ b9R _ rfl))
 have new₀ : ∀ a, @LE.le Nat _ D a → h₀.get? a = none := fun a ha => by
  cases e : h₀.get? a with
  | none => rfl
  | some o' => exact absurd (b9x (F.keep a o' e)) (by rw [hD]; exact Nat.not_lt.mpr ha)
 have hD₀ := new₀ D (b9K _)
 have hC₀ := new₀ (D + 1) (c2h D)
 have hDL : @Ne Addr D L := b9F hLlt
 have hCL : @Ne Addr (D + 1) L := b9F (b9N hLlt)
 have hIC : @Ne Addr I (D + 1) := b9v (b9N hIlt)
 have hID : @Ne Addr I D := b9v hIlt
 have hCD : @Ne Addr (D + 1) D := b9F (c0K D)
 have loop : ∀ s₃ : Shared, s₃ = { s₂ with heap := h₁, toks := s₂.toks + ([] : List (b9p × Value)).length } →
   codeAny (model prog w) A (.compLoop (.ListComp elt [⟨.Tuple [.Name x px, .Name x₂ px₂] tk9 tp, iter, [ct], 0⟩] scope pos) 0 (.ref I) (.ref D) (compEnvC scope cl (D + 1) env)) (RR (.ref D) (D + 1)) s₃ := by
  intros s₃ hR9; rcases hR9 with rfl
  refine b0d (fun k s' => ∃ h' tk i ys m' news', s' = { s₂ with heap := h', toks := tk } ∧ i ≤ its.size ∧ k = its.size + 1 - i ∧ ys.length ≤ i ∧ h'.IsListIter I ax i ∧ Fr h₀ L h' m ∧ h'.Ns (D + 1) m' ∧ News h₀ L h' ((D, lst ys) :: news') ∧ Off3 I (D + 1) D news' ∧ J i ys news') ?_ (its.size + 1)
   ⟨h₁, _, 0, [], _, news, rfl, c0m _, rfl, b9K _, hit.at fun o e => up _ o e, F.keeps up, hns₁, fun p hp => ?_, Off3.of fun p hp => ⟨off p hp, b9v (b9N (hnl p hp)), b9v (hnl p hp)⟩, hj⟩
  ·intros k s' hR9; (obtain ⟨h', tk, i, ys, m', news', rfl, hi, rfl, hyl, hit', F', hn', N', off', hj'⟩ := hR9) <;> (try clear hR9)
   have off3 := off'.mem
   have hal := N' _ (.tail _ (hJ _ _ _ hj'))
   have hl : h'.IsList ax its := ⟨_, hal.1, rfl, nn, rfl⟩
   by_cases hlt : i < its.size
   ·refine wpAny_pyNext_list_item hit' hl (c2g hlt) fun h₂ hit₂ hs₂ => ?_
    obtain ⟨t, v₁, v₂, nt, hv, hmt, T⟩ := turn i ys news' its[i] (c2g hlt) hj'
    rw [hv]
    have hIo : ∀ p ∈ (D, lst ys) :: news', p.1 ≠ I := fun p hp => by
     rcases b9r.mp hp with rfl | hp
     ·exact b9A hID
     ·exact (off3 p hp).1
    have N₂ : News h₀ L h₂ ((D, lst ys) :: news') := fun p hp => ⟨hs₂.extBut _ _ (hIo p hp) (N' p hp).1, (N' p hp).2⟩
    have F₂ : Fr h₀ L h₂ m := F'.change hs₂ (b9A hIL) hI₀
    have ht : h₂.IsTuple t #[v₁, v₂] := ⟨_, (N₂ _ (.tail _ hmt)).1, rfl, nt, rfl⟩
    refine wpAny_letOwnedTupleGo_listiter hit₂ ?_
    refine kcp_assign hh ht (lookup_relabel_local hx) (lookup_relabel_local hx₂) (by simp [compEnvC, relabel, hkind]) ((hn'.at' fun o e => hs₂.extBut _ o (b9A hIC) e)) fun h₃ tk₃ hn₃ k₃ => ?_
    have k₃ : ∀ c o, @Ne Addr c (D + 1) → h₂.get? c = some o → h₃.get? c = some o := k₃
    obtain ⟨oC, heC, hoC⟩ := ns_obj hn₃
    obtain ⟨oI, heI, rI⟩ := id hit₂
    have heI₃ := k₃ _ _ hIC heI
    have F₃ : Fr h₀ L h₃ m := ⟨F₂.ns.at' fun o e => k₃ _ o (b9A hCL) e, fun b o e => k₃ b o (fun z => by rw [z, hC₀] at e; cases e) (F₂.keep b o e), F₂.above⟩
    have N₃ : News h₀ L h₃ ((I, oI) :: (D + 1, oC) :: (D, lst ys) :: news') := fun p hp => by
     rcases b9r.mp hp with rfl | hp
     ·exact ⟨heI₃, b9A hIL, hI₀⟩
     rcases b9r.mp hp with rfl | hp
     ·exact ⟨heC, hCL, hC₀⟩
     ·refine ⟨k₃ _ _ ?_ (N₂ p hp).1, (N₂ p hp).2⟩
      rcases b9r.mp hp with rfl | hp
      ·exact b9A hCD
      ·exact (off3 p hp).2.1
    have stI : ∀ {h₄ : Heap}, h₄.get? I = some oI → h₄.IsListIter I ax (i + 1) := fun e => ⟨oI, e, rI⟩
    refine b9L (T I oI (D + 1) oC D _ h₃ _ _ hoC (by simp [hxx]) (by simp) F₃ N₃ off' ⟨hIC, hID, hCD⟩) (fun ok s₄ h₄ => ?_) fun _ _ e => e
    cases ok with
    | true =>
     rw [if_pos rfl] at h₄ ⊢
     refine b9L h₄ (fun y s₅ h₅ => ?_) fun _ _ e => e
     obtain ⟨h₄, tk₄, news₄, rfl, F₄, N₄, off₄, _, R₄⟩ := h₅
     have zI := (N₄ _ (.head _)).1
     have zC := (N₄ _ mt1).1
     have zD := (N₄ _ mt2).1
     refine append_at (hsz := by show ys.toArray.size ≤ sizeLine; rw [b9H]; exact b9W (b9W hyl hi) hsz) zD fun h₅ hs₅ hD₅ => ?_
     have off4 := off₄.mem
     refine ⟨its.size + 1 - (i + 1), by omega, h₅, tk₄, i + 1, ys ++ [y], _, news₄, rfl, hlt, rfl, by rw [c0l, c1N]; exact Nat.succ_le_succ hyl, stI (hs₅.extBut _ _ hID zI), F₄.change hs₅ hDL hD₀, (hoC.ns zC).sameBut hs₅ hCD, fun p hp => ?_, off₄, R₄⟩
     rcases b9r.mp hp with rfl | hp
     ·exact ⟨hD₅.trans (congrArg some (lst_snoc ys y)), hDL, hD₀⟩
     ·have z := N₄ p (tl3 hp)
      exact ⟨hs₅.extBut _ _ (off4 p hp).2.2 z.1, z.2⟩
    | false =>
     rw [if_neg (by decide)] at h₄ ⊢
     obtain ⟨h₅, tk₄, news₄, rfl, F₄, N₄, off₄, _, R₄⟩ := h₄
     have zI := (N₄ _ (.head _)).1
     have zC := (N₄ _ mt1).1
     exact ⟨its.size + 1 - (i + 1), by omega, h₅, tk₄, i + 1, ys, _, news₄, rfl, hlt, rfl, c3A hyl, stI zI, F₄, hoC.ns zC, fun p hp => N₄ p (tl2 hp), off₄, R₄⟩
   ·obtain rfl : i = its.size := c1D hi (Nat.not_lt.mp hlt)
    refine wpAny_pyNext_list_end hh hit' hl (c3h (b9K _)) fun h₂ he₂ => ?_
    have hIo : ∀ p ∈ (D, lst ys) :: news', p.1 ≠ I := fun p hp => by
     rcases b9r.mp hp with rfl | hp
     ·exact b9A hID
     ·exact (off3 p hp).1
    exact hRR _ _ h₂ _ _ ys news' ⟨F'.ns.at' fun o e => he₂ _ o hIL e, fun b o e => he₂ b o (fun z => by rw [z, hI₀] at e; cases e) (F'.keep b o e), F'.above⟩ (fun p hp => ⟨he₂ _ _ (hIo p hp) (N' p hp).1, (N' p hp).2⟩) off'.one (hn'.at' fun o e => he₂ _ o (b9A hIC) e) hC₀ hD₀ hCL hDL hCD (fun p hp => (off3 p hp).2.1) hj'
  ·rcases b9r.mp hp with rfl | hp
   ·exact ⟨hacc, hDL, hD₀⟩
   ·exact ⟨up _ _ (N p hp).1, (N p hp).2⟩
 exact codeAny_compStart_list (loop _ rfl) (wpAny_pyIter_listiter (hit.at fun o e => up _ o e) (loop _ rfl))
noncomputable def SrcTwo (prog : Program) (w : World) (A : Around) (h₀ : Heap) (L : Addr) (m : b9p → Option Value) (env : Env) (ct elt : Expr) (x x₂ : b9p) (scope : Scope) (cl : List (b9p × Addr)) (Q : Value → Shared → Prop) (xv : Value) (s₁ : Shared) : Prop :=
 ∃ ax its nn news J, xv = .ref ax ∧ A.handled = none ∧ Fr h₀ L s₁.heap m ∧ News h₀ L s₁.heap news ∧ its.size ≤ sizeLine ∧ (∀ i ys n, J i ys n → (ax, listOf its nn) ∈ n) ∧ J 0 [] news ∧
  ∀ s₂ : Shared, (∃ h, s₂ = { s₁ with heap := h }) → a3Z prog w A h₀ L m env ct elt x x₂ scope cl s₂ ax its J ∧ ∀ ys n, J its.size ys n → FinE h₀ L m s₂ Q ys n
theorem a4Z {px₂ tp : Pos} {tk9 : Nat} (F₀ : Fr h₀ L s.heap m) (hclos : closureFor scope env = pure cl) (hcell : ∀ y ∈ scope.names, y.2 ≠ .cell) (hkind : scope.kind = .function) (hnames : ∀ y ∈ scope.names, y.2 = .local → scope.names.lookup y.1 = some .local) (hx : scope.names.lookup x = some .local) (hx₂ : scope.names.lookup x₂ = some .local) (hxx : x ≠ x₂) (h : wpAny (model prog w) A (eval iter env) (SrcTwo prog w A h₀ L m env ct elt x x₂ scope cl Q) E s) (hs : ∀ x, foldedSetIterable iter env x = pure x) :
  wpAny (model prog w) A (eval (.ListComp elt [⟨.Tuple [.Name x px, .Name x₂ px₂] tk9 tp, iter, [ct], 0⟩] scope pos) env) Q E s := by
 revert cl9 x x₂ scope cl Q pos px elt ct iter prog w A E s h₀ L m env px₂ tp tk9
 intros F₀ hclos hcell hkind hnames hx hx₂ hxx h hs
 rw [eval_ListComp]
 refine wpAny_comprehension_free (use := none) rfl hs hclos hkind hnames (b9L h (fun xv s₁ h₁ => ?_) fun _ _ e => e)
 obtain ⟨ax, its, nn, news, J, rfl, hh, F, N, hsz, hJ, hj, R⟩ := h₁
 have hm := N _ (hJ _ _ _ hj)
 have hl : s₁.heap.IsList ax its := ⟨_, hm.1, rfl, nn, rfl⟩
 refine c2W hl ?_
 have up : ∀ b o, s₁.heap.get? b = some o → (s₁.heap.push { cls := .type "list_iterator", data := .fields #[.ref ax, .int 0 0] }).get? b = some o := fun b o e => b9B _ e
 obtain ⟨T, fin⟩ := R { s₁ with heap := s₁.heap.push { cls := .type "list_iterator", data := .fields #[.ref ax, .int 0 0] } } ⟨_, rfl⟩
 refine a9w J hJ hsz hcell hkind hx hx₂ hxx hh ⟨_, b9R _ rfl, rfl, rfl⟩ (F.keeps up) (N.grown up) (b9v F.ns.lt) (c1x F) (fun p hp => b9v (b9x (N p hp).1)) hj T ?_
 intro D C h' tk m' ys news' F' N' o1 hn hC₀ hD₀ hCL hDL hCD offC hfin
 refine ⟨m', hn, fun h'' hs'' => fin ys news' hfin D h'' tk (F'.change hs'' hCL hC₀) (fun p hp => ?_) o1⟩
 refine ⟨hs''.extBut _ _ ?_ (N' p hp).1, (N' p hp).2⟩
 rcases b9r.mp hp with rfl | hp
 ·exact b9A hCD
 ·exact offC p hp
theorem SrcTwo.intro (J : Nat → List Value → Led → Prop) (hh : A.handled = none) (F : Fr h₀ L s₁.heap m) (N : News h₀ L s₁.heap news) (hsz : its.size ≤ sizeLine) (hJ : ∀ i ys n, J i ys n → (ax, listOf its nn) ∈ n) (hj : J 0 [] news) (h : ∀ g, a3Z prog w A h₀ L m env ct elt x x₂ scope cl { s₁ with heap := g } ax its J) (hf : ∀ g ys n, J its.size ys n → FinE h₀ L m { s₁ with heap := g } Q ys n) : SrcTwo prog w A h₀ L m env ct elt x x₂ scope cl Q (.ref ax) s₁ :=
 ⟨ax, its, nn, news, J, rfl, hh, F, N, hsz, hJ, hj, fun _ ⟨g, e⟩ => e ▸ ⟨h g, fun ys n hj => hf g ys n hj⟩⟩
theorem b0L {n : Led} {v : Value} {a b : b9p} (h : DatIn n v (.tuple [.str a, .str b])) : ∃ T k ta tb, v = .ref T ∧ (T, ({ cls := .type "tuple", data := .seq #[.str a ta, .str b tb] k } : Obj)) ∈ n := by
 revert cl9 n v a b
 intros h
 cases h with
 | tuple hm ha =>
  cases ha with
  | cons h1 ha =>
   cases ha with
   | cons h2 ha =>
    cases ha
    cases h1
    cases h2
    exact ⟨_, _, _, _, rfl, hm⟩
theorem a7m {base : Led} {zs : List b9p} (g : b9p → b9p) (p : b9p → Bool) (hd : DatAll base its.toList (zs.map fun z => .tuple [.str z, .str (g z)])) (hsrc : (ax, listOf its nn) ∈ base) (test : ∀ z tz tg I oI C oC D ys m₂ h tk (E' : Value → Shared → Prop), z ∈ zs → NsObj oC m₂ → m₂ x = some (.str z tz) → m₂ x₂ = some (.str (g z) tg) → Fr h₀ L h m → News h₀ L h ((I, oI) :: (C, oC) :: (D, lst ys) :: base) →
   wpAny (model prog w) A (isTrue ct (compEnvC scope cl C env) (eval ct (compEnvC scope cl C env))) (a1L h₀ L m { s with heap := h, toks := tk } ((I, oI) :: (C, oC) :: (D, lst ys) :: base) (fun ok => ok = p (g z))) E' { s with heap := h, toks := tk }) (el : ∀ z tz tg I oI C oC D ys m₂ h tk (E' : Value → Shared → Prop), z ∈ zs → NsObj oC m₂ → m₂ x = some (.str z tz) → m₂ x₂ = some (.str (g z) tg) → Fr h₀ L h m → News h₀ L h ((I, oI) :: (C, oC) :: (D, lst ys) :: base) →
   wpAny (model prog w) A (eval elt (compEnvC scope cl C env)) (a1L h₀ L m { s with heap := h, toks := tk } ((I, oI) :: (C, oC) :: (D, lst ys) :: base) (fun v => ∃ t, v = .str (g z) t)) E' { s with heap := h, toks := tk }) :
  a3Z prog w A h₀ L m env ct elt x x₂ scope cl s ax its (fun i ys n => n = base ∧ StrsAre ys (((zs.take i).map g).filter p)) := by
 revert cl9 nn x x₂ scope cl ax its elt ct prog w A s h₀ L m env base zs g p
 intros hd hsrc test el
 have get : ∀ {n : Led} {vs : List Value} {ds : List Dat} {i : Nat} {v : Value}, DatAll n vs ds → vs[i]? = some v → ∃ d, ds[i]? = some d ∧ DatIn n v d := by
  intro n vs ds i v h
  induction i generalizing vs ds with
  | zero =>
   cases h with
   | nil => intro q; simp at q
   | cons a b => intro q; simp at q; exact ⟨_, rfl, q ▸ a⟩
  | succ i ih =>
   cases h with
   | nil => intro q; simp at q
   | cons a b => intro q; exact ih b (by simpa using q)
 have snoc : ∀ {vs : List Value} {ss : List b9p} {x : b9p} {t : Tok}, StrsAre vs ss → StrsAre (vs ++ [.str x t]) (ss ++ [x]) := by
  intro vs ss x t h
  induction h with
  | nil => exact .cons _ _ .nil
  | cons a b r ih => exact .cons a b ih
 intros i ys n v hv hR9; (obtain ⟨rfl, hys⟩ := hR9) <;> (try clear hR9)
 obtain ⟨d, hdi, hdv⟩ := get hd (by simpa using hv)
 rw [c0s, c0O] at hdi
 obtain ⟨z, hz, rfl⟩ := hdi
 obtain ⟨T, k, ta, tb, rfl, hT⟩ := b0L hdv
 have htake : (zs.take (i + 1)).map g = (zs.take i).map g ++ [g z] := by rw [c0H, hz, c0S, c0D]; rfl
 refine ⟨T, _, _, k, rfl, hT, fun I oI C oC D m₂ h tk E' h1 h2 h3 F N off ne => ?_⟩
 refine b9L (test z ta tb I oI C oC D ys m₂ h tk E' (b9Z hz) h1 h2 h3 F N) (fun ok s' q => ?_) fun _ _ q => q
 obtain ⟨h', tk', rfl, F', N', hok⟩ := q
 subst hok
 cases hp : p (g z) with
 | true =>
  rw [if_pos rfl]
  refine b9L (el z ta tb I oI C oC D ys m₂ h' tk' E' (b9Z hz) h1 h2 h3 F' N') (fun v' s'' q => ?_) fun _ _ q => q
  obtain ⟨h'', tk'', rfl, F'', N'', t, rfl⟩ := q
  refine ⟨h'', tk'', n, rfl, F'', N'', off, .inr ⟨_, hsrc, rfl, _, rfl⟩, rfl, ?_⟩
  rw [htake, c1t, show c1u p [g z] = [g z] from by simp [hp]]
  exact snoc hys
 | false =>
  rw [if_neg (by decide)]
  refine ⟨h', tk', n, rfl, F', N', off, .inr ⟨_, hsrc, rfl, _, rfl⟩, rfl, ?_⟩
  rw [htake, c1t, show c1u p [g z] = [] from by simp [hp], c0k]
  exact hys
end
open PyProof.Rows.LCg
section
variable {prog : Program} {w : World} {A : Around} {E : Value → Shared → Prop} {s : Shared} {h₀ : Heap} {L : Addr} {m : b9p → Option Value} {env : Env}
theorem a4L {elt : Expr} {x x₂ : b9p} {scope : Scope} {cl : List (b9p × Addr)} {S : Led → Prop} {P : Nat → Value → Prop} {Fin : List Value → Led → Prop} {n : Nat} (J : Nat → List Value → Led → Prop)
  (step : ∀ i ys news v, i < n → J i ys news → P i v → ∃ (t : Addr) (ot : Obj) (v₁ v₂ : Value) (nt : Nat), v = .ref t ∧ (t, ot) ∈ news ∧ ot.cls = .type "tuple" ∧ ot.data = .seq #[v₁, v₂] nt ∧
   ∀ I oI C oC D m₂ h tk (E' : Value → Shared → Prop), NsObj oC m₂ → m₂ x = some v₁ → m₂ x₂ = some v₂ → Fr h₀ L h m → News h₀ L h ((I, oI) :: (C, oC) :: (D, lst ys) :: news) → Off3 I C D news → ((@Ne Nat I C) ∧ (@Ne Nat I D) ∧ (@Ne Nat C D)) →
   wpAny (model prog w) A (eval elt (compEnvC scope cl C env)) (CompEnd h₀ L m { s with heap := h, toks := tk } I oI C oC D (lst ys) S (fun y news' => J (i + 1) (ys ++ [y]) news')) E' { s with heap := h, toks := tk })
  (fin : ∀ ys news, J n ys news → Fin ys news) : ∀ k i ys news, i + k = n → J i ys news → PyProof.Rows.LCp.CompRestP prog w A h₀ L m env elt x x₂ scope cl s S P Fin k i ys news
 | 0, i, ys, news, e, j => by
  refine PyProof.Rows.LCp.CompRestP.zero (fin ys news ?_)
  rw [Nat.add_zero] at e; exact e ▸ j
 | k + 1, i, ys, news, e, j => by
  refine PyProof.Rows.LCp.CompRestP.succ fun v hv => ?_
  obtain ⟨t, ot, v₁, v₂, nt, h1, h2, h3, h4, h5⟩ := step i ys news v (by omega) j hv
  refine ⟨t, ot, v₁, v₂, nt, h1, h2, h3, h4, fun I oI C oC D m₂ h tk E' a b c d e' f g => ?_⟩
  exact b9L (h5 I oI C oC D m₂ h tk E' a b c d e' f g) (fun y s' z => a0v z fun n' j' => a4L J step fin k (i + 1) _ _ (by omega) j') fun _ _ z => z
end
noncomputable def a4r (bs : List (b9p × Int)) (z : b9p) : Int := ((bs.find? fun p => decide (p.1 = z)).map (·.2)).getD 0
theorem StrInts.get {m : List (b9p × Int)} (h : StrInts l m) (hz : a0q m z = true) : ∃ t, valueAt l z = some (.int (a4r m z) t) := by
 revert cl9 z l m
 intros h hz
 unfold a0q at hz
 unfold valueAt a4r
 induction h with
 | nil => cases hz
 | cons a b c _ ih =>
  rw [c1f, c1f]
  rw [c1I] at hz
  by_cases e : a = z
  ·exact ⟨c, by simp [e]⟩
  ·simp only [e, decide_false, c2S] at hz ⊢
   exact ih hz
theorem StrInts.filter {m : List (b9p × Int)} (h : StrInts l m) (p : b9p → Bool) : StrInts (l.filter fun q => p q.1) (m.filter fun q => p q.1) := by
 induction h with
 | nil => exact .nil
 | cons a b c _ ih =>
  rw [c2I, c2I]
  cases hp : p a with
  | true => simp only [if_true]; exact .cons _ _ _ ih
  | false => simp only [c0w, if_false]; exact ih
theorem a2l {m : List (b9p × Int)} (h : StrInts l m) (z : b9p) : StrInts (without l z) (m.filter fun q => decide (q.1 ≠ z)) := h.filter fun x => decide (x ≠ z)
theorem a5J {m : List (b9p × Int)} {p : b9p → Bool} (hp : p z = true) : a4r (m.filter fun q => p q.1) z = a4r m z := by
 unfold a4r
 congr 2
 induction m with
 | nil => rfl
 | cons q l ih =>
  rw [c2I, c1f]
  by_cases e : q.1 = z
  ·rw [e, hp]; simp [e]
  ·simp only [e, decide_false]
   cases h : p q.1 with
   | true => simp only [if_true]; rw [c1f]; simp only [e, decide_false]; exact ih
   | false => simp only [c0w, if_false]; exact ih
theorem a1M {m : List (b9p × Int)} {p : b9p → Bool} (hp : p z = true) : a0q (m.filter fun q => p q.1) z = a0q m z := by
 unfold a0q
 rw [List.any_filter]
 induction m with
 | nil => rfl
 | cons q l ih =>
  rw [c1I, c1I, ih]
  by_cases e : q.1 = z
  ·simp [e, hp]
  ·simp [e]
theorem hasB_mem {m : List (b9p × Int)} : a0q m z = true ↔ z ∈ m.map (·.1) := by
 unfold a0q
 simp [c0R]
theorem a7G (hn : xs.Nodup) (hz : xs[i]? = some z) : z ∉ xs.take i := fun h => by
 obtain ⟨j, hj, hj'⟩ := List.mem_take_iff_getElem.mp h
 have h1 : j < xs.length := by omega
 obtain ⟨h2, h3⟩ := List.getElem?_eq_some_iff.mp hz
 have := (c1P hn (h₀ := h1) (h₁ := h2)).mp (hj'.trans h3.symm)
 omega
structure PopB (w : World) (bs : List (b9p × Int)) (xs : List b9p) (i : Nat) (ws : List Value) (bo : Obj) (kvs : List (b9p × Value)) : Prop where
 isd : bo.IsDictOf (kS w) kvs
 si : StrInts kvs (bs.filter fun p => decide (p.1 ∉ xs.take i))
 vals : IntsAre ws ((xs.take i).map (a4r bs))
theorem PopB.zero (h : bo.IsDictOf (kS w) kvs) (hI : StrInts kvs bs) : PopB w bs xs 0 [] bo kvs :=
 ⟨h, by rw [List.filter_eq_self.mpr fun p _ => by simp]; exact hI, .nil⟩
theorem a4w {n : Int} (h : IntsAre vs ns) : IntsAre (vs ++ [.int n t]) (ns ++ [n]) := by
 induction h with
 | nil => exact .cons _ _ .nil
 | cons a b _ ih => exact .cons a b ih
theorem PopB.get {ws : List Value} (J : PopB w bs xs i ws bo kvs) (hn : xs.Nodup) (hz : xs[i]? = some z) (hm : a0q bs z = true) : ∃ t, valueAt kvs z = some (.int (a4r bs z) t) := by
 have hp : decide (z ∉ xs.take i) = true := decide_eq_true (a7G hn hz)
 have h := J.si.get (z := z) (by rw [a1M (p := fun x => decide (x ∉ xs.take i)) hp]; exact hm)
 rwa [a5J (p := fun x => decide (x ∉ xs.take i)) hp] at h
theorem PopB.next {ws : List Value} {bo' : Obj} (J : PopB w bs xs i ws bo kvs) (hz : xs[i]? = some z) (hb : bo'.IsDictOf (kS w) (without kvs z)) : PopB w bs xs (i + 1) (ws ++ [.int (a4r bs z) t]) bo' (without kvs z) := by
 have ht : xs.take (i + 1) = xs.take i ++ [z] := by rw [c0H, hz, c0S]
 refine ⟨hb, ?_, by rw [ht, c0D]; exact a4w J.vals⟩
 have h := a2l J.si z
 rw [List.filter_filter] at h
 rw [ht]
 have e : (bs.filter fun q => decide (q.1 ≠ z) && decide (q.1 ∉ xs.take i)) = bs.filter fun p => decide (p.1 ∉ xs.take i ++ [z]) := by
  refine c3c fun q _ => ?_
  rw [c1b]
  simp only [c0h, decide_eq_true_eq, b9y, b9C, not_or, ne_eq]
  exact And.comm
 rwa [e] at h
structure PutB (w : World) (b0 : List (b9p × Int)) (gs : List b9p) (ns : List Int) (i : Nat) (bo : Obj) (kvs : List (b9p × Value)) : Prop where
 isd : bo.IsDictOf (kS w) kvs
 si : StrInts kvs (b0 ++ (gs.zip ns).take i)
theorem PutB.next {b0 : List (b9p × Int)} {gs : List b9p} {bo' : Obj} {n : Int} (J : PutB w b0 gs ns i bo kvs) (hg : gs[i]? = some g) (hn : ns[i]? = some n) (hh : a0q (b0 ++ (gs.zip ns).take i) g = false) (hb : bo'.IsDictOf (kS w) (stored kvs g (.int n t))) :
  PutB w b0 gs ns (i + 1) bo' (stored kvs g (.int n t)) := by
 refine ⟨hb, ?_⟩
 have hz : (gs.zip ns)[i]? = some (g, n) := by rw [List.getElem?_zip_eq_some]; exact ⟨hg, hn⟩
 rw [c0H, hz, c0S, ← c0M]
 exact a1C J.si hh
theorem a9C {P : Addr → Prop} {c e : Addr × Obj} {x : Addr} {o' : Obj} {l : Led} (h : ∀ p ∈ a :: b :: c :: d :: e :: (x, o) :: l, P p.1) : ∀ p ∈ a :: b :: c :: d :: e :: (x, o') :: l, P p.1 := fun p hp => by
 rcases b9r.mp hp with z | hp
 ·exact h p (z ▸ .head _)
 rcases b9r.mp hp with z | hp
 ·exact h p (z ▸ mt1)
 rcases b9r.mp hp with z | hp
 ·exact h p (z ▸ mt2)
 rcases b9r.mp hp with z | hp
 ·exact h p (z ▸ mt3)
 rcases b9r.mp hp with z | hp
 ·exact h p (z ▸ mt4)
 rcases b9r.mp hp with z | hp
 ·rw [z]; exact h (x, o) mt5
 ·exact h p (tl6 hp)
theorem b0K {b0 : List (b9p × Int)} (hb : ∀ p ∈ b0, p ∈ bs) (hsel : ∀ z ∈ xs, a0D old z = true) (hnew : ∀ z ∈ xs, a0q bs (a0g old new z) = false) (hn : xs.Nodup) (hz : xs[i]? = some z) : a0q (b0 ++ ((xs.map (a0g old new)).zip ns).take i) (a0g old new z) = false := by
 rw [c2D]
 intro hh
 obtain ⟨p, hp, he⟩ := c0R.mp hh
 have he : p.1 = a0g old new z := of_decide_eq_true he
 rcases b9y.mp hp with hp | hp
 ·have h1 := hnew z (b9Z hz)
  have h2 : a0q bs (a0g old new z) = true := c0R.mpr ⟨p, hb p hp, decide_eq_true he⟩
  rw [h1] at h2; cases h2
 ·obtain ⟨k, hk, hk'⟩ := List.mem_take_iff_getElem.mp hp
  have hk2 : k < xs.length := by rw [List.length_zip, b9z] at hk; omega
  rw [List.getElem_zip] at hk'
  have h1 : a0g old new xs[k] = a0g old new z := by rw [← he, ← hk']; simp
  have h3 := a6r (hsel _ (c2f hk2)) (hsel _ (b9Z hz)) h1
  obtain ⟨h4, h5⟩ := List.getElem?_eq_some_iff.mp hz
  have := (c1P hn (h₀ := hk2) (h₁ := h4)).mp (h3.trans h5.symm)
  omega
theorem b0P (hk : (a0C old ss).length ≤ k) (hk' : (a0C old ss).length ≤ k') (hp : ss.Perm (bs.map (·.1))) :
  (bs.filter fun p => decide (p.1 ∉ (a0C old ss).take k)) ++ (((a0C old ss).map (a0g old new)).zip ((a0C old ss).map (a4r bs))).take k' = (bs.filter fun p => !a0D old p.1) ++ (a0C old ss).map fun z => (a0g old new z, a4r bs z) := by
 rw [c0A hk, c0A (by rw [List.length_zip, b9z, b9z]; omega)]
 congr 1
 ·refine c3c fun p hp' => ?_
  have hm : p.1 ∈ ss := hp.mem_iff.mpr (b9I.mpr ⟨p, hp', rfl⟩)
  unfold a0C
  rw [c1b]
  simp [hm]
 ·rw [List.zip_map']
noncomputable def a9c (bs : List (b9p × Int)) (nxt : Int) (x y : b9p) (bs' : List (b9p × Int)) (nxt' : Int) (code : b9p) : Prop :=
 (a0q bs (a0a x) = false ∧ bs' = bs ∧ nxt' = nxt ∧ code = "NONEXISTENT") ∨
 (a0q bs (a0a x) = true ∧ a0q bs (a0h y) = true ∧ bs' = bs ∧ nxt' = nxt ∧ code = "ALREADYEXISTS") ∨
 (a0q bs (a0a x) = true ∧ a0q bs (a0h y) = false ∧ a1m (a0h y) = false ∧ bs' = bs ∧ nxt' = nxt ∧ code = "CANNOT") ∨
 (a0q bs (a0a x) = true ∧ a0q bs (a0h y) = false ∧ a1m (a0h y) = true ∧ a0a x = b9q "INBOX" ∧ bs' = bs ++ [(a0h y, nxt)] ∧ nxt' = nxt + 1 ∧ code = "") ∨
 (a0q bs (a0a x) = true ∧ a0q bs (a0h y) = false ∧ a1m (a0h y) = true ∧ a0a x ≠ b9q "INBOX" ∧ ∃ ss, Srt ss (bs.map (·.1)) ∧
  ((∃ z ∈ a0C (a0a x) ss, a0q bs (a0g (a0a x) (a0h y) z) = true) ∧ bs' = bs ∧ nxt' = nxt ∧ code = "CANNOT" ∨
     (∀ z ∈ a0C (a0a x) ss, a0q bs (a0g (a0a x) (a0h y) z) = false) ∧ bs' = ((bs.filter fun p => !a0D (a0a x) p.1) ++ (a0C (a0a x) ss).map fun z => (a0g (a0a x) (a0h y) z, a4r bs z)) ∧ nxt' = nxt ∧ code = ""))
theorem a7j {g : b9p → b9p} (h : (((xs.take k).map g).filter (a0q bs)).isEmpty = false) : ∃ z ∈ xs, a0q bs (g z) = true := by
 revert cl9 k xs bs g
 intros h
 cases e : ((xs.take k).map g).filter (a0q bs) with
 | nil => rw [e] at h; cases h
 | cons a r =>
  have hm : a ∈ ((xs.take k).map g).filter (a0q bs) := by rw [e]; exact .head _
  obtain ⟨h1, h2⟩ := List.mem_filter.mp hm
  obtain ⟨z, hz, rfl⟩ := b9I.mp h1
  exact ⟨z, List.mem_of_mem_take hz, h2⟩
theorem a7P {g : b9p → b9p} (hk : xs.length ≤ k) (h : (((xs.take k).map g).filter (a0q bs)).isEmpty = true) : ∀ z ∈ xs, a0q bs (g z) = false := by
 revert cl9 k xs bs g
 intros hk h
 have mk9 : a0b := trivial
 intro z hz
 rw [c0A hk] at h
 cases e : (xs.map g).filter (a0q bs) with
 | nil =>
  rw [c2D]
  intro hh
  have : g z ∈ (xs.map g).filter (a0q bs) := List.mem_filter.mpr ⟨b9I.mpr ⟨z, hz, rfl⟩, hh⟩
  rw [e] at this; cases this
 | cons a r => rw [e] at h; cases h
theorem a2f {v : Value} (h : IntsAre vs ns) (e : vs[i]? = some v) : ∃ n t, v = .int n t ∧ ns[i]? = some n := by
 induction h generalizing i with
 | nil => exact nomatch (show (none : Option Value) = some v from e)
 | cons x t _ ih => cases i with
  | zero => exact ⟨x, t, (b9U e).symm, rfl⟩
  | succ i => exact ih e
theorem b1V {n : Int} (h : ((xs.take k).map (a4r bs))[i]? = some n) (hz : xs[i]? = some z) : n = a4r bs z := by
 revert cl9 k i xs z bs n
 intros h hz
 rw [c0s, List.getElem?_take] at h
 split at h
 ·rw [hz] at h; simpa using h.symm
 ·cases h
theorem b3C {its : Led} {c e f g : Addr × Obj} (h : p ∈ a :: b :: c :: d :: e :: f :: g :: (its ++ tl)) : p ∈ its ++ a :: b :: c :: d :: e :: f :: g :: tl := by
 revert cl9 a b p d tl its c e f g
 intros h
 simp only [b9r, b9y] at h ⊢
 rcases h with h | h | h | h | h | h | h | h | h
 all_goals simp only [h, true_or, or_true]
theorem b1D {its : Led} {c e f g : Addr × Obj} (h : p ∈ its ++ a :: b :: c :: d :: e :: f :: g :: tl) : p ∈ a :: b :: c :: d :: e :: f :: g :: (its ++ tl) := by
 simp only [b9r, b9y] at h ⊢
 rcases h with h | h | h | h | h | h | h | h | h
 all_goals simp only [h, true_or, or_true]
theorem a8c {P : Addr → Prop} {pre : Led} {x : Addr} {o' : Obj} (h : ∀ p ∈ pre ++ (x, o) :: post, P p.1) : ∀ p ∈ pre ++ (x, o') :: post, P p.1 := fun p hp => by
 rcases b9y.mp hp with hp | hp
 ·exact h p (b9G _ hp)
 rcases b9r.mp hp with z | hp
 ·rw [z]; exact h (x, o) (b9s _ (.head _))
 ·exact h p (b9s _ (.tail _ hp))
theorem a2G {pre n : Led} (N : News h₀ L h (pre ++ a :: b :: tl)) (k : ∀ p ∈ n, p ∈ tl) : News h₀ L h (a :: b :: n) :=
 nc (N _ (b9s _ (.head _))) (nc (N _ (b9s _ mt1)) fun p hp => N p (b9s _ (tl2 (k p hp))))
theorem era_Yb : True := trivial
theorem b5P : True := by
 k_with "Yb:call ref" => (k_here; ((with_reducible show wpAny _ _ (call (b9t 735) _) _ _ _); k_dflt (refine' Fn.use (a2Q (by k_asm)) ?k1 ?k2 ?k3 ?k4 ?k5 ?k6 ?k7 ?k8 ?_); (case k4 => k_extra "g:k4"); k_extra "g:c1"; k_extra "g:c2"; obtain ⟨uN, rfl, rfl⟩ := hR'; (try clear hR'); k_extra "g:c3"; k_extra "g:c4"))
 k_with "Yb:call ref" => (k_here; ((with_reducible show wpAny _ _ (call (b9t 728) _) _ _ _); k_dflt (refine' Fn.use (a0E (by k_asm)) ?k1 ?k2 ?k3 ?k4 ?k5 ?k6 ?k7 ?k8 ?_); (case k4 => k_extra "g:k4"); k_extra "g:c1"; k_extra "g:c2"; obtain ⟨rfl, rfl⟩ := hR'; (try clear hR'); k_extra "g:c3"; k_extra "g:c4"))
 trivial
theorem a6o {n : Led} (N : News h₀ L h n) (hm : p ∈ n) : News h₀ L h (p :: n) := nc (N p hm) N
theorem b4j : True := by
 k_with "Yb:exec Assign cons ListComp" => ((k_here; (with_reducible show wpAny _ _ (exec (c1R _ (Expr.ListComp _ [⟨Expr.Name _ _, _, _, _⟩] _ _) _) _) _ _ _); k_dflt (refine c3z (F₀ := by k_asm) (by rfl) (by with_unfolding_all rfl) (by with_unfolding_all rfl) (by decide) (by rfl) (by decide) (by rfl) (by rfl) (by rfl) ?_)))
 k_with "Yb:exec Assign cons ListComp" => ((k_here; (with_reducible show wpAny _ _ (exec (c1R _ (Expr.ListComp _ [⟨Expr.Tuple _ _ _, _, _, _⟩] _ _) _) _) _ _ _); k_dflt (refine LCp.Assign_ListComp_P (F₀ := by k_asm) (by rfl) (by with_unfolding_all rfl) (by with_unfolding_all rfl) (by decide) (by rfl) (by decide) (by rfl) (by rfl) (by decide) (by rfl) (by rfl) ?_)))
 k_with "Yb:SrcLP" => ((k_here; refine a0c ?_))
 k_with "Yb:CompSrc" => ((k_here; refine a0c ?_))
 k_with "Yb:call ref" => (k_here; ((with_reducible show wpAny _ _ (call (b9t 740) _) _ _ _); k_dflt (refine' Fn.use (a5f (by k_asm) (by k_asm) (by omega) (by omega) (by k_asm)) ?k1 ?k2 ?k3 ?k4 ?k5 ?k6 ?k7 ?k8 ?_); (case k4 => first | exact a6o (by assumption) (by k_mem) | k_extra "g:k4"); k_extra "g:c1"; k_extra "g:c2"; obtain ⟨DbW, vsW, ssW, cW, rfl, rfl, hDW, hSW, hSrtW⟩ := hR'; (try clear hR'); k_extra "g:c3"; k_extra "g:c4"))
 k_with "Yb:eval ListComp" => ((k_here; k_dflt (refine a4Z (F₀ := by k_asm) (by with_unfolding_all rfl) (by decide) (by rfl) (by decide) (by rfl) (by rfl) (by decide) ?_ (by intro _; rfl))))
 trivial
theorem b0S {a b : Addr} {e : Nat} (N : News h₀ L s.heap news) (ma : (a, listOf vs.toArray c) ∈ news) (hS : StrsAre vs ss) (hok : ∀ x ∈ ss, b9S x = true) (mb : (b, listOf #[] e) ∈ news) (hu : A.units + 64 < cLine) (h : Q (.bool (!ss.isEmpty)) s) : wpAny (model prog w) A (compareOp .NotEq (.ref a) (.ref b)) Q E s :=
 kqd_ne (n₁ := []) (n₂ := []) (xs := vs) (ys := []) (ds := ss.map .str) (es := []) N ma rfl rfl (a1G [] hS) (fun _ h => nomatch h) mb rfl rfl .nil (fun _ h => nomatch h) (fun d hd => by
  obtain ⟨x, hx, rfl⟩ := b9I.mp hd
  exact hok x hx) (fun _ h => nomatch h) hu (by
  rw [show (!decide (ss.map Dat.str = [])) = !ss.isEmpty from by cases ss <;> simp]
  exact h)
theorem b5k : True := by
 k_with "Yb:compareOp NotEq ref ref" => ((k_here; refine a0c ?_))
 k_with "Yb:call builtin:dict.pop" => ((k_here; k_dflt (refine' kob_pop (knd := kS _) (more := []) ?F ?N ?U ?d (b9X _ _ _ _) (.inl rfl) (by rfl) (c2N _ _) ?l ?z ?_; (case F => k_asm); (case N => k_asm); (case U => k_updF); (case d => assumption); (case l => assumption); (case z => (rw [b9O]; omega))); intro h' ob' F' N' hob'; (try dsimp only at N'); (try k_sweep)))
 k_with "Yb:exec For Tuple Call cons nil" => ((k_here; (rename Fr _ _ _ _ => lF'); (with_unfolding_all refine' c1O lF' ?_; k_whole)))
 k_with "Yb:call type:zip" => ((k_here; refine a0c ?_))
 k_with "Yb:SrcTwo" => ((k_here; refine a0c ?_))
 k_with "Yb:call ref" => (k_here; ((with_reducible show wpAny _ _ (call (b9t 721) _) _ _ _); k_dflt (refine' Fn.use (a0J (by k_asm)) ?k1 ?k2 ?k3 ?k4 ?k5 ?k6 ?k7 ?k8 ?_); (case k4 => k_extra "g:k4"); k_extra "g:c1"; k_extra "g:c2"; obtain ⟨uE, rfl, rfl⟩ := hR'; (try clear hR'); k_extra "g:c3"; k_extra "g:c4"))
 k_with "Yb:compareOp In str ref" => ((k_here; k_dflt (refine' kda_in (knd := kS _) ?k1 ?k2 ?k3 ?k4 (b9X _ _ _ _) _ (a1b ?k5) ?_; (case k1 => k_asm); (case k2 => k_mem); (case k3 => assumption); (case k4 => assumption); (case k5 => assumption))))
 k_with "Yb:compareOp NotIn str ref" => ((k_here; k_dflt (refine' a2x (knd := kS _) ?k1 ?k2 ?k3 ?k4 (b9X _ _ _ _) _ (a1b ?k5) ?_; (case k1 => k_asm); (case k2 => k_mem); (case k3 => assumption); (case k4 => assumption); (case k5 => assumption))))
 k_with "Yb:setItem ref str" => ((k_here; k_dflt (refine' kda_set (knd := kS _) ?F ?N ?U ?d (b9X _ _ _ _) ?z ?_; (case F => k_asm); (case N => k_asm); (case U => k_updF); (case d => assumption); (case z => (rw [b9O]; omega))); intro h' ob' F' N' hob'; (try dsimp only at N'); (try k_sweep)))
 k_with "Yb:subscriptTail" => ((k_here; (with_reducible show wpAny _ _ (subscriptTail _ _ (b9t _) (c0E _ _)) _ _ _); k_dflt (refine' kdt_tail (knd := kS _) ?k1 ?k2 ?k3 ?_; (case k1 => k_asm); (case k2 => k_mem); (case k3 => assumption))))
 trivial
theorem a4k (hk : a6P w ST SB SU so bo uo bs subs nxt) (hoff : ∀ q ∈ news, q.1 ≠ ST) (hoff2 : ∀ q ∈ news, q.1 ≠ SB) (hx : x ∈ allNames) (hy : y ∈ allNames) (hz : bs.length ≤ 50) (hbl : ∀ p ∈ bs, p.1.length ≤ 800) (hbo : ∀ p ∈ bs, b9S p.1 = true) :
  Fn w G none 752 8 260 [.ref ST, .str x t, .str y t9] ((ST, so) :: (SB, bo) :: (SU, uo) :: news) (fun v n => ∃ u so' bo' bs' nxt' code, v = .str code u ∧ n = (ST, so') :: (SB, bo') :: (SU, uo) :: news ∧ a6P w ST SB SU so' bo' uo bs' subs nxt' ∧ a9c bs nxt x y bs' nxt' code) := by
 revert cl9 G w subs x y t t9 SB SU ST so bo uo nxt bs news
 intros hk hoff hoff2 hx hy hz hbl hbo
 have mk9 : a0b := trivial
 have hk9 := hk
 obtain ⟨⟨t1, hst⟩, ⟨kvs, hbx, hI⟩, ⟨vs, c, hsb, hS⟩, n1, n2, n3, lo⟩ := hk
 have hv1 := a2B (SB := SB) (SU := SU) (nxt := nxt) (t := t1)
 have hv2 := a5U (SB := SB) (SU := SU) (nxt := nxt) (t := t1)
 have hset := a6N hy
 have hkl : kvs.length = bs.length := by have := congrArg c0N hI.keys; rwa [b9z, b9z] at this
 have hkn : ∀ k ∈ kvs.map (·.1), k.length ≤ 800 := fun k hk => by
  rw [hI.keys] at hk
  obtain ⟨p, hp, rfl⟩ := b9I.mp hk
  exact hbl p hp
 have hxn := (a8f _ (a6g hx)).2
 have hyn := (a8f _ hset).2
 have hsl : ∀ a b c d, (a7R a b c d).length ≤ 3 := fun _ _ _ _ => b9K _
 have hsl := hsl SB SU nxt t1
 subst hsb
 ktr_unf
 have hlN : ∀ p ∈ news, @b9w Nat _ p.1 L' := fun p hp => hAll p (tl3 hp)
 have hT1 : ∀ p ∈ news, p.1 ≠ L' + 1 := fun p hp => b9v (b9N (hlN p hp))
 have hT2 : ∀ p ∈ news, p.1 ≠ L' + 1 + 1 := fun p hp => b9v (b9N (b9N (hlN p hp)))
 have hT3 : ∀ p ∈ news, p.1 ≠ L' + 1 + 1 + 1 := fun p hp => b9v (b9N (b9N (b9N (hlN p hp))))
 clear hlN
 k_steps
 ·exact hret _ _ _ _ ⟨_, so, bo, bs, nxt, _, rfl, rfl, hk9, .inr (.inl ⟨by assumption, by assumption, rfl, rfl, rfl⟩)⟩ (by k_asm) fun p hp => (by assumption : News h₀ L _ _) p (tl3 hp)
 ·exact hret _ _ _ _ ⟨_, _, _, _, _, _, rfl, rfl, ⟨⟨_, by assumption⟩, ⟨_, by assumption, a1C hI (by assumption)⟩, ⟨_, _, rfl, hS⟩, n1, n2, n3, lo⟩, .inr (.inr (.inr (.inl ⟨by assumption, by assumption, by assumption, c0j (by assumption), rfl, rfl, rfl⟩)))⟩ (by k_asm) fun p hp => (by assumption : News h₀ L _ _) p (tl3 hp)
 ·(with_reducible rename News _ _ _ ((DbW, _) :: (SB, bo) :: _) => N8)
  have N5 := nc (N8 _ (.head _)) fun p hp => N8 p (tl2 hp)
  have hD5 := fun q hq => hDW q (b9D _ hq)
  clear N8 hDW
  as_aux_lemma =>
   (try clear mk9)
   unfold a0f
   have hzl : (a0C (a0a x) ssW).length ≤ ssW.length := c1A _ _
   have hsl2 : ssW.length = kvs.length := by rw [hSrtW.1.length_eq, b9z]
   have hvw := hSW.length
   refine c1K (ax := DbW) (its := vsW.toArray) rfl (by k_asm) N5 (.head _) (by rw [b9O, b9H]; omega) ?_; intro g9
   refine a1k (fun i => a2I (a0a x) (a0h y) ((a0C (a0a x) ssW).getD i b9Y)) (fun n hb => .inr ⟨_, hb _ (.head _), rfl, _, rfl⟩) ?_ ?_
   ·revert cm9 i news9; intro hi hb v I oI C oC D ys m₂ h tk E' hv hC' hx' F9 N9 off ne
    obtain ⟨z, tz, rfl, hz⟩ := a0o hSW (by simpa using hv)
    have hzk := hkn z (hSrtW.1.mem_iff.mp (List.mem_filter.mp (b9Z hz)).1)
    have hs9 := Txt.slice_le z (some (((a0a x).length : Nat) : Int)) none
    have ha9 := c3u (a0h y) (c0d z (some (((a0a x).length : Nat) : Int)) none)
    have N6 := nc (N9 _ (.head _)) (nc (N9 _ mt1) (nc (N9 _ mt2) (nc (N9 _ (tl3 (hb _ (.tail _ (.head _))))) (nc (N9 _ (tl3 (hb _ (.tail _ (.tail _ (.head _)))))) fun p hp => N9 p (tl3 hp)))))
    clear N9
    as_aux_lemma =>
     (try clear mk9)
     k_steps
     (with_reducible rename News g' L' _ _ => M9)
     refine a1x (add := [_]) (by k_asm) M9 (b2C (.head _) mt1 mt2 (fun p hp => tl5 hp)) (fun p hp q hq => by rw [b9C.mp hp]; exact hAll q hq) ?_
     rw [show (a0C (a0a x) ssW).getD i b9Y = z from by rw [c0I, hz]; rfl]
     exact .tuple (vs := [_, _]) (.head _) (.cons (.str _ _) (.cons (.str _ _) .nil))
   ·revert cm9 ys add; intro ha hd
    rw [a1v (fun z => a2I (a0a x) (a0h y) z) (a0C (a0a x) ssW) _ (by rw [b9H]; exact hvw)] at hd
    have hyl := a2c hd
    rw [b9z] at hyl
    unfold LCg.FinA
    revert cm9 D2 h2 tk2; intro F2 N2 off2
    have off3 := a0T off2
    have hSBn : ∀ p ∈ add ++ (DbW, listOf vsW.toArray cW) :: (SU, listOf vs.toArray c) :: news, p.1 ≠ SB := fun p hp => by
     rcases b9y.mp hp with hp | hp
     ·exact b9F (show @b9w Nat _ SB p.1 from ha p hp (SB, bo) mt5)
     rcases b9r.mp hp with rfl | hp
     ·exact fun z => hD5 (SB, bo) mt4 z.symm
     rcases b9r.mp hp with rfl | hp
     ·exact fun z => n3 z.symm
     ·exact hoff2 p hp
    have hD2B : @Ne Nat D2 SB := fun z => off3 (SB, bo) (b9s _ mt5) z.symm
    have N3 := nc (N2 _ (.head _)) (nc (N2 _ (.tail _ (b9s _ mt1))) (nc (N2 _ (.tail _ (b9s _ mt2))) (nc (N2 _ (.tail _ (b9s _ mt3))) (nc (N2 _ (.tail _ (b9s _ mt4))) (nc (N2 _ (.tail _ (b9s _ mt5))) (fun p (hp : p ∈ add ++ (DbW, listOf vsW.toArray cW) :: (SU, listOf vs.toArray c) :: news) => N2 p (.tail _ (by
     rcases b9y.mp hp with hp | hp
     ·exact b9G _ hp
     rcases b9r.mp hp with rfl | hp
     ·exact b9s _ (.head _)
     rcases b9r.mp hp with rfl | hp
     ·exact b9s _ mt6
     ·exact b9s _ (tl7 hp)))))))))
    have hadd2 : ∀ p ∈ add, p ∈ add ++ (DbW, listOf vsW.toArray cW) :: (SU, listOf vs.toArray c) :: news := fun p hp => b9G _ hp
    have hend2 : ∀ p ∈ (SU, listOf vs.toArray c) :: news, p ∈ add ++ (DbW, listOf vsW.toArray cW) :: (SU, listOf vs.toArray c) :: news := fun p hp => b9s _ (.tail _ hp)
    clear N2 off3 off2 hD5 ha
    generalize htl : add ++ _ = tl at N3 hSBn hadd2 hend2
    as_aux_lemma =>
     (try clear mk9)
     k_steps
     unfold a0f
     (with_reducible rename News g' L' _ _ => N9)
     obtain ⟨c3, c2, c1, u3, u2, hc3, hc2, hc1, N4⟩ : ∃ (c3 c2 c1 : Obj) (u3 u2 : Tok), c3.data = .cell (some (.str (a0a x) u3)) ∧ c2.data = .cell (some (.str (a0h y) u2)) ∧ c1.data = .cell (some (.ref SB)) ∧ News g' L' _ ((D2, c0q ys) :: (L' + 1 + 1 + 1, c3) :: (L' + 1 + 1, c2) :: (L' + 1, c1) :: (ST, so) :: (SB, bo) :: tl) := ⟨_, _, _, _, _, by assumption, by assumption, by assumption, N9⟩
     clear N9
     refine SrcTwo.intro (its := ys.toArray) (nn := ys.length) (fun i zs n => n = _ ∧ StrsAre zs ((((a0C (a0a x) ssW).take i).map (a0g (a0a x) (a0h y))).filter (a0q bs))) rfl (by k_asm) N4 (by rw [b9O, b9H]; omega) (fun i zs n h => by rw [h.1]; exact .head _) ⟨rfl, .nil⟩ (fun g => a7m (a0g (a0a x) (a0h y)) (a0q bs) (zs := a0C (a0a x) ssW) (hd.mono fun p hp => tl6 (hadd2 p hp)) (.head _) ?_ ?_) ?_
     ·revert cm9 z tz tg I oI C oC D9 ys9 m₂ h tk E'; intro hz hC' hx1 hx2 F9 N9
      k_steps
      exact a0i (by k_asm) (by k_asm) (fun p hp => hp) rfl
     ·revert cm9 z tz tg I oI C oC D9 ys9 m₂ h tk E'; intro hz hC' hx1 hx2 F9 N9
      k_steps
      exact a0i (by k_asm) (by k_asm) (fun p hp => hp) ⟨_, rfl⟩
     ·revert cm9 g zs n; intro hR9; obtain ⟨rfl, hzs⟩ := hR9
      unfold c1w
      revert cm9 D3 h3 tk3; intro F3 N6 off6
      have hzok : ∀ z ∈ (((a0C (a0a x) ssW).take ys.toArray.size).map (a0g (a0a x) (a0h y))).filter (a0q bs), b9S z = true := fun z hz => by
       obtain ⟨p, hp, rfl⟩ := b9I.mp (hasB_mem.mp (List.mem_filter.mp hz).2)
       exact hbo p hp
      as_aux_lemma =>
       (try clear mk9)
       k_steps
       unfold a0f
       (with_reducible rename News _ _ _ _ => N7)
       refine b0S (ss := ((((a0C (a0a x) ssW).take ys.toArray.size).map (a0g (a0a x) (a0h y))).filter (a0q bs))) N7 mt1 hzs hzok (.head _) (by ktr_units) ?_
       k_steps
       ·(with_reducible rename News g' L' _ _ => N8)
        have N9 : News g' L' _ _ := fun p hp => N8 p (b9D _ (b9D _ hp))
        clear N8
        have hkd : (kvs.map (·.1)).Nodup := by obtain ⟨_, _, _, _, _, _, h⟩ := hbx; exact h
        have hnd : (a0C (a0a x) ssW).Nodup := (hSrtW.1.nodup_iff.mpr hkd).filter _
        have hhb : ∀ z ∈ a0C (a0a x) ssW, a0q bs z = true := fun z hz => hasB_mem.mpr (by rw [← hI.keys]; exact hSrtW.1.mem_iff.mp (List.mem_filter.mp hz).1)
        as_aux_lemma =>
         (try clear mk9)
         unfold a0f
         refine LCp.SrcLP.ledger (its := ys.toArray) (k := ys.length) rfl (by k_asm) N9 (.head _) (by rw [b9O, b9H]; omega) ?_; intro g
         refine a4L (fun i ws n => ∃ bo1 kvs1, n = (D2, c0q ys) :: (L' + 1 + 1 + 1, c3) :: (L' + 1 + 1, c2) :: (L' + 1, c1) :: (ST, so) :: (SB, bo1) :: tl ∧ PopB w bs (a0C (a0a x) ssW) i ws bo1 kvs1) ?_ ?_ _ 0 [] _ (c1J _) ⟨_, _, rfl, PopB.zero hbx hI⟩
         ·revert cm9 i ws n v; intro hi hR9; obtain ⟨bo1, kvs1, rfl, J⟩ := hR9; intro hv
          obtain ⟨d, hdi, hdv⟩ := a0Z hd (by simpa using hv)
          rw [c0s, c0O] at hdi
          obtain ⟨z, hz, rfl⟩ := hdi
          obtain ⟨T9, kT, ta, tb, rfl, hT9⟩ := a1s hdv
          have hTm := hadd2 _ hT9
          obtain ⟨tv, hval⟩ := J.get hnd hz (hhb z (b9Z hz))
          refine ⟨T9, _, _, _, kT, rfl, tl6 hTm, rfl, rfl, fun I oI C oC D9 m₂ h tk E' hC' hx1 hx2 F9 N9 off ne => ?_⟩
          have o3 := off.mem
          have oB := o3 (SB, bo1) mt5
          obtain ⟨oB1, oB2, oB3⟩ := oB
          have oB1 := neN oB1
          have oB2 := neN oB2
          have oB3 := neN oB3
          have hD2N := neN hD2B
          dsimp only at oB1 oB2 oB3 hD2N
          have hdict := J.isd
          have hkl1 : kvs1.length ≤ bs.length := by
           have := congrArg c0N J.si.keys
           rw [b9z, b9z] at this
           exact this ▸ c1A (fun p => decide (p.1 ∉ (a0C (a0a x) ssW).take i)) bs
          as_aux_lemma =>
           (try clear mk9)
           k_steps
           (with_reducible rename News g' L' _ ((I, _) :: _) => M9)
           exact ⟨_, _, _, rfl, by k_asm, M9, LCg.Off3.of (a9C (P := fun a => a ≠ I ∧ a ≠ C ∧ a ≠ D9) (o := bo1) o3), .inr ⟨_, .head _, rfl, _, rfl⟩, ob', _, rfl, J.next hz hob'⟩
         ·revert cm9 ws n; intro hR9; obtain ⟨bo1, kvs1, rfl, J⟩ := hR9
          unfold LCg.FinA
          revert cm9 D4 h4 tk4; intro F4 N10 off10
          have hws := J.vals
          have hwl := IntsAre.length hws
          rw [b9z, c3d, b9H] at hwl
          have off11 := a0T off10
          as_aux_lemma =>
           (try clear mk9)
           k_steps
           unfold a0f
           (with_reducible rename News g' L' _ ((D4, _) :: _) => N11)
           have hall : ∀ z ∈ a0C (a0a x) ssW, a0D (a0a x) z = true := fun z hz => (List.mem_filter.mp hz).2
           have hnew := a7P (bs := bs) (xs := a0C (a0a x) ssW) (g := a0g (a0a x) (a0h y)) (k := ys.toArray.size) (by rw [b9H]; exact c0o hyl.symm) (by assumption)
           have hsb0 : ∀ p ∈ bs.filter (fun p => decide (p.1 ∉ (a0C (a0a x) ssW).take ys.toArray.size)), p ∈ bs := fun p hp => (List.mem_filter.mp hp).1
           refine a4Q (l1 := D2) (l2 := D4) (xs := ys.toArray) (ys := ws.toArray) (n1 := ys.length) (n2 := ws.length) (fun i m n => ∃ a b bo2 kvs2, m = fr2 "pair" "worth" _ a b ∧ n = (D4, c0q ws) :: (D2, c0q ys) :: (L' + 1 + 1 + 1, c3) :: (L' + 1 + 1, c2) :: (L' + 1, c1) :: (ST, so) :: (SB, bo2) :: tl ∧ PutB w (bs.filter fun p => decide (p.1 ∉ (a0C (a0a x) ssW).take ys.toArray.size)) ((a0C (a0a x) ssW).map (a0g (a0a x) (a0h y))) ((a0C (a0a x) ssW).map (a4r bs)) i bo2 kvs2) ?_ ?_ rfl (by k_asm) N11 ⟨_, _, _, _, a2Y, rfl, J.isd, by rw [List.take_zero, c0k]; exact J.si⟩ ?_ ?_
           ·revert cm9 i m n; intro hR9; obtain ⟨a, b, bo2, kvs2, rfl, rfl, J2⟩ := hR9
            exact mt1
           ·revert cm9 i m n; intro hR9; obtain ⟨a, b, bo2, kvs2, rfl, rfl, J2⟩ := hR9
            exact .head _
           ·revert cm9 i vx vy; intro T m₁ news₁ its h tk hx1 hy1 hR9; obtain ⟨fa, fb, bo2, kvs2, rfl, rfl, J2⟩ := hR9; intro off hT F1 N1
            obtain ⟨d, hdi, hdv⟩ := a0Z hd (by simpa using hx1)
            rw [c0s, c0O] at hdi
            obtain ⟨z, hz, rfl⟩ := hdi
            obtain ⟨T9, kT, ta, tb, rfl, hT9⟩ := a1s hdv
            have hTm := hadd2 _ hT9
            obtain ⟨nv, tv, rfl, hnv⟩ := a2f hws (by simpa using hy1)
            have hnv := b1V hnv hz
            subst hnv
            have hTt : IsTup h T _ := hT
            have hIt : ∀ p ∈ its ++ tl, p.1 ≠ SB := fun p hp => by
             rcases b9y.mp hp with hp | hp
             ·exact fun e => off (SB, bo2) mt6 p hp e.symm
             ·exact hSBn p hp
            have hTm2 := b9s its hTm
            have N6 : News g' L' h ((D4, c0q ws) :: (D2, c0q ys) :: (L' + 1 + 1 + 1, c3) :: (L' + 1 + 1, c2) :: (L' + 1, c1) :: (ST, so) :: (SB, bo2) :: (its ++ tl)) := fun p hp => N1 p (b3C hp)
            generalize hit9 : its ++ tl = tl9 at hIt hTm2 N6
            clear N1
            have hdict := J2.isd
            have hD2N := neN hD2B
            have hD4N := neN (off11 (SB, bo1) mt5)
            dsimp only at hD2N hD4N
            have hkl2 : kvs2.length ≤ bs.length + ssW.length := by
             have h1 := congrArg c0N J2.si.keys
             rw [b9z, b9z, c0l, c3d, List.length_zip, b9z, b9z] at h1
             exact h1 ▸ Nat.add_le_add (c1A _ bs) (b9W (Nat.min_le_right _ _) (b9W (Nat.min_le_left _ _) hzl))
            unfold fr2 at F1
            as_aux_lemma =>
             (try clear mk9)
             k_steps
             (with_reducible rename News g' L' _ ((D4, _) :: _) => M9)
             exact a0l (by k_asm) M9 (fun p hp => by rw [← hit9]; exact b1D hp) (a8c (P := fun a => ∀ q ∈ its, a ≠ q.1) (pre := [_, _, _, _, _, _]) (o := bo2) off) ⟨_, _, ob', _, a4d, rfl, J2.next (by rw [c0s, hz]; rfl) (by rw [c0s, hz]; rfl) (b0K hsb0 hall hnew hnd hz) hob'⟩
           ·revert cm9 m n h tk; intro hR9; obtain ⟨fa, fb, bo2, kvs2, rfl, rfl, J2⟩ := hR9; intro F1 N1
            have hend := b0P (bs := bs) (ss := ssW) (old := a0a x) (new := a0h y) (k := ys.toArray.size) (k' := min ys.toArray.size ws.toArray.size) (by rw [b9H]; exact c0o hyl.symm) (by rw [b9H, b9H, hwl]; exact Nat.le_min.mpr ⟨c0o hyl.symm, Nat.le_min.mpr ⟨c0o hyl.symm, b9K _⟩⟩) (by rw [← hI.keys]; exact hSrtW.1)
            have hsi := J2.si
            rw [hend] at hsi
            unfold fr2 at F1
            as_aux_lemma =>
             (try clear mk9)
             k_steps
             (with_reducible rename News h₀ _ _ _ => M9)
             exact hret _ _ _ _ ⟨_, so, bo2, _, nxt, _, rfl, rfl, ⟨⟨_, hst⟩, ⟨kvs2, J2.isd, hsi⟩, ⟨_, _, rfl, hS⟩, n1, n2, n3, lo⟩, .inr (.inr (.inr (.inr ⟨by assumption, by assumption, by assumption, ne_of_beq_false (by assumption), ssW, hI.keys ▸ hSrtW, .inr ⟨hnew, rfl, rfl, rfl⟩⟩)))⟩ (by k_asm)
              (by first | exact a2G (pre := [_, _, _, _, _]) M9 hend2 | exact a2G (pre := [_, _, _, _, _, _]) M9 hend2)
       ·(with_reducible rename News h₀ _ _ _ => M9)
        exact hret _ _ _ _ ⟨_, so, bo, bs, nxt, _, rfl, rfl, hk9, .inr (.inr (.inr (.inr ⟨by assumption, by assumption, by assumption, ne_of_beq_false (by assumption), ssW, hI.keys ▸ hSrtW, .inl ⟨a7j (by assumption), rfl, rfl, rfl⟩⟩)))⟩ (by k_asm)
         (by first | exact a2G (pre := [_, _, _, _, _, _]) M9 hend2 | exact a2G (pre := [_, _, _, _, _, _, _]) M9 hend2 | exact a2G (pre := [_, _, _, _, _]) M9 hend2)
 ·exact hret _ _ _ _ ⟨_, so, bo, bs, nxt, _, rfl, rfl, hk9, .inr (.inr (.inl ⟨by assumption, by assumption, by assumption, rfl, rfl, rfl⟩))⟩ (by k_asm) fun p hp => (by assumption : News h₀ L _ _) p (tl3 hp)
 ·exact hret _ _ _ _ ⟨_, so, bo, bs, nxt, _, rfl, rfl, hk9, .inl ⟨by assumption, rfl, rfl, rfl⟩⟩ (by k_asm) fun p hp => (by assumption : News h₀ L _ _) p (tl3 hp)
theorem era_Zb : True := trivial
structure a6u (w : World) (o : Obj) (us : List b9p) (led : Bool) : Prop where
 ex : o.ExactSet
 data : ∃ es ep t, o.data = .set es ep t ∧ StrsAre (es.toList.map (·.2)) us ∧ ElemsOf (kS w) es.toList ∧ es.size < scanBound ∧ t.fits es.size = true ∧ t.led = led ∧ (es.size ≠ 0 → t.plain = false)
 nd : us.Nodup
theorem a7u (led : Bool) : a6u w { cls := .type "set", dict := none, data := .set #[] 0 (.fresh 0 0 led) } [] led :=
 ⟨⟨rfl, rfl, rfl⟩, ⟨#[], 0, _, rfl, .nil, fun e he => by simp at he, by show 0 < scanBound; decide, by rfl, rfl, fun h => absurd rfl h⟩, .nil⟩
theorem a3e {vs' : List Value} (p : vs.Perm vs') : ∀ {us : List b9p}, StrsAre vs us → ∃ us', StrsAre vs' us' ∧ us'.Perm us := by
 induction p with
 | nil => intro us h; exact ⟨us, h, .refl _⟩
 | cons x _ ih =>
  intro us h
  cases h with
  | cons y t h =>
   obtain ⟨us', a, b⟩ := ih h
   exact ⟨_, .cons y t a, b.cons y⟩
 | swap x y l =>
  intro us h
  cases h with
  | cons a t h =>
   cases h with
   | cons b t' h => exact ⟨_, .cons _ _ (.cons _ _ h), .swap _ _ _⟩
 | trans _ _ ih1 ih2 =>
  intro us h
  obtain ⟨u1, a, b⟩ := ih1 h
  obtain ⟨u2, c, d⟩ := ih2 a
  exact ⟨u2, c, d.trans b⟩
theorem a9P (h : StrsAre vs us) : (∃ v ∈ vs, (kS w).is x v = true) ↔ x ∈ us := by
 revert cl9 w us x vs
 intros h
 induction h with
 | nil => simp
 | cons y t r ih =>
  rw [b9r, ← ih]
  constructor
  ·intros hR9; (obtain ⟨v, hv, hk⟩ := hR9) <;> (try clear hR9)
   rcases b9r.mp hv with rfl | hv
   ·obtain ⟨t', e⟩ := c2T (show Value.isStrOf x (.str y t) = true from hk)
    injection e with e _
    exact .inl e.symm
   ·exact .inr ⟨v, hv, hk⟩
  ·rintro (rfl | ⟨v, hv, hk⟩)
   ·exact ⟨_, .head _, b9X _ _ _ _⟩
   ·exact ⟨v, .tail _ hv, hk⟩
theorem a7w (t : SetTable) (es : Array (Int × Value)) (h : Int) (x : Value) : (layNew t es h x).2.1.led = t.led := by
 unfold layNew
 split
 ·show (SetTable.orStandIn _ _).led = _
  unfold SetTable.orStandIn
  split <;> rfl
 ·rfl
theorem a9A (t : SetTable) (es : Array (Int × Value)) (n : Nat) : (relayAll t es n).2.1.led = t.led ∧ (t.plain = false → (relayAll t es n).2.1.plain = false) := by
 unfold relayAll
 split
 ·rename_i t' order hr
  have e : t'.led = t.led ∧ t'.plain = t.plain := by
   unfold SetTable.relaid SetTable.laid at hr
   simp only [Option.bind_eq_bind, Option.bind_eq_some_iff] at hr
   obtain ⟨_, _, h⟩ := hr
   injection h with h
   injection h with h1 h2
   rw [← h1]
   exact ⟨rfl, rfl⟩
  dsimp only
  split
  ·exact ⟨e.1, fun h => e.2.trans h⟩
  ·exact ⟨rfl, fun _ => rfl⟩
 ·exact ⟨rfl, fun _ => rfl⟩
section
variable {w : World} {A : Around} {E : Value → Shared → Prop} {s : Shared}
theorem a3A {h : Heap} {a : Addr} {o : Obj} {us us' : List b9p} {led : Bool} {es : Array (Int × Value)} {ep : Nat} {t : SetTable} (ho : h.get? a = some o) (hex : o.ExactSet) (hd : o.data = .set es ep t)
  {es' : Array (Int × Value)} {t' : SetTable} (h1 : StrsAre (es'.toList.map (·.2)) us') (h2 : ElemsOf (kS w) es'.toList) (h3 : es'.size < scanBound) (h4 : t'.fits es'.size = true) (h5 : t'.led = led) (h6 : t'.plain = false) (h7 : us'.Nodup) :
  (h.update a (Obj.putSet es' t')).get? a = some { o with data := .set es' (ep + 1) t' } ∧ a6u w { o with data := .set es' (ep + 1) t' } us' led := by
 have hg : (h.update a (Obj.putSet es' t')).get? a = some { o with data := .set es' (ep + 1) t' } := by
  have := c0F (Obj.putSet es' t') ho (by rw [putSet_of es' t' hd]; rfl)
  rw [putSet_of es' t' hd] at this; exact this
 exact ⟨hg, ⟨hex, ⟨es', ep + 1, t', rfl, h1, h2, h3, h4, h5, fun _ => h6⟩, h7⟩⟩
theorem b1z {a : Addr} {led : Bool} {tk : Tok} {Q : Bool → Shared → Prop} (ho : s.heap.get? a = some o) (hS : a6u w o us led) (hb1 : us.length + 1 < scanBound) (h : ∀ b h' o' us', c1q a s.heap h' → h'.get? a = some o' → a6u w o' us' led → us'.Perm (if x ∈ us then us else us ++ [x]) → Q b { s with heap := h', toks := s.toks + 1 }) :
  wpAny (model b9u.prog w) A (setAdd a (.str x tk)) Q E s := by
 revert cl9 us x o w A E s a led tk Q
 intros ho hS hb1 h
 obtain ⟨hex, ⟨es, ep, t, hd, hss, hel, hb, hf, hled, hpl⟩, hnd⟩ := hS
 have hkey : (kS w).is x (.str x tk) = true := b9X _ _ _ _
 have hlen : es.size = us.length := by have := hss.length; rw [b9z, c0e] at this; exact this
 unfold setAdd
 refine wpAny_holding ?_
 refine wpAny_bind ((kS w).pyHash hkey ?_)
 unfold setAddHashed setAddHashedIn
 refine wpAny_holding (wpAny_bind (c1h (s := { s with toks := s.toks + 1 }) ho hd hf ?_))
 dsimp only
 rw [byScan_of rfl hb hel]
 simp only [↓reduceIte]
 unfold setAddByScan
 refine wpAny_bind ?_
 refine wpAny_bind (c1d ?_)
 refine wpAny_bind (wpAny_setScan_of (s := { s with toks := s.toks + 1 }) hkey ho hd hf hel ?_)
 have hmem : (∃ e ∈ es.toList, (kS w).is x e.2 = true) ↔ x ∈ us := by
  rw [← a9P (w := w) hss]
  constructor
  ·rintro ⟨e, he, hp⟩; exact ⟨_, b9I.mpr ⟨e, he, rfl⟩, hp⟩
  ·intros hR9; (obtain ⟨v, hv, hp⟩ := hR9) <;> (try clear hR9)
   obtain ⟨e, he, rfl⟩ := b9I.mp hv
   exact ⟨e, he, hp⟩
 cases hr : List.findIdx? (fun e => (kS w).is x e.2) es.toList with
 | some j =>
  dsimp only
  obtain ⟨hj, hpj, _⟩ := List.findIdx?_eq_some_iff_getElem.mp hr
  have hx : x ∈ us := hmem.mp ⟨es.toList[j], c2f hj, hpj⟩
  refine wpAny_pure (wpAny_pure ?_)
  exact h _ s.heap o us (c3j a s.heap) ho ⟨hex, ⟨es, ep, t, hd, hss, hel, hb, hf, hled, hpl⟩, hnd⟩ (by rw [if_pos hx])
 | none =>
  dsimp only
  have hx : x ∉ us := fun hx => by
   obtain ⟨e, he, hp⟩ := hmem.mpr hx
   have := List.findIdx?_eq_none_iff.mp hr e he
   rw [hp] at this; exact Bool.noConfusion this
  rw [if_neg hx] at h
  have hgw : ∀ (b : Bool) {s₁ : Shared} {Q' : Unit → Shared → Prop}, Q' () s₁ → wpAny (model b9u.prog w) A (match b with | true => rule "set.scan.the-table-gave-way" | false => pure ()) Q' E s₁ :=
   fun b s₁ Q' hq => by cases b <;> first | exact wpAny_pure hq | exact c1d hq
  have hperm := layNew_perm t es ((kS w).hash x) (.str x tk)
  have hfits := layNew_fits t es ((kS w).hash x) (.str x tk)
  have hled1 := a7w t es ((kS w).hash x) (.str x tk)
  generalize hL : layNew t es ((kS w).hash x) (.str x tk) = L at hperm hfits hled1 ⊢
  obtain ⟨es1, t1, wasDummy, gave⟩ := L
  dsimp only at hperm hfits hled1 ⊢
  rw [Array.toList_push] at hperm
  have hel1 : ElemsOf (kS w) es1.toList := (hel.push hkey rfl).perm hperm
  obtain ⟨us1, hss1, hp1⟩ : ∃ us1, StrsAre (es1.toList.map (·.2)) us1 ∧ us1.Perm (us ++ [x]) := by
   refine a3e (hperm.symm.map (·.2)) ?_
   rw [c0D]
   exact a2n hss
  have hnd1 : us1.Nodup := hp1.nodup_iff.mpr (by
   rw [c1g]
   exact ⟨hnd, by simp, fun a ha b hb => by rw [b9C.mp hb]; exact fun e => hx (e ▸ ha)⟩)
  have hsz1 : es1.size = us.length + 1 := by rw [← c0e, hperm.length_eq, c0l, c0e, hlen]; rfl
  have hb1' : es1.size < scanBound := by rw [hsz1]; exact hb1
  refine wpAny_bind (hgw _ ?_)
  have tail : ∀ t2 : SetTable, t2.fits es1.size = true → t2.led = led → t2.plain = false → ∀ {R : Option Bool → Shared → Prop}, (∀ h' o' us', c1q a s.heap h' → h'.get? a = some o' → a6u w o' us' led → us'.Perm (us ++ [x]) → R (some true) { s with heap := h', toks := s.toks + 1 }) →
    wpAny (model b9u.prog w) A (do
     storeSet a es1 t2
     if (!wasDummy && t2.tooFull) = true then do
       (match (relayAll t2 es1 (c1S es1.size)).2.2 with | true => rule "set.scan.the-table-gave-way" | false => pure () : Sem Unit)
       storeSet a (relayAll t2 es1 (c1S es1.size)).1 (relayAll t2 es1 (c1S es1.size)).2.1
       pure (some true)
      else pure (some true)) R E { s with toks := s.toks + 1 } := by
   intro t2 hf2 hl2 hp2 R hR
   refine wpAny_bind (wpAny_storeSet_of (s := { s with toks := s.toks + 1 }) ho hd ?_ (c3k hb1'))
   obtain ⟨ho1, hS1⟩ := a3A (w := w) (us := us) ho hex hd hss1 hel1 hb1' hf2 hl2 hp2 hnd1
   have hsb1 := c0n s.heap a (Obj.putSet es1 t2)
   split
   ·have hp := relayAll_perm t2 es1 (c1S es1.size)
    have hfr := relayAll_fits t2 es1 (c1S es1.size)
    obtain ⟨hlr, hpr⟩ := a9A t2 es1 (c1S es1.size)
    have hpr := hpr hp2
    generalize hRl : relayAll t2 es1 (c1S es1.size) = Rl at hp hfr hlr hpr ⊢
    obtain ⟨es2, t3, gave2⟩ := Rl
    dsimp only at hp hfr hlr hpr ⊢
    have hel2 : ElemsOf (kS w) es2.toList := hel1.perm hp
    obtain ⟨us2, hss2, hp2'⟩ := a3e (hp.symm.map (·.2)) hss1
    have hsz : es2.size = es1.size := by rw [← c0e, hp.length_eq, c0e]
    have hb2 : es2.size < scanBound := by rw [hsz]; exact hb1'
    refine wpAny_bind (hgw _ ?_)
    refine wpAny_bind (wpAny_storeSet_of ho1 rfl ?_ (c3k hb2))
    obtain ⟨ho2, hS2⟩ := a3A (w := w) (us := us1) ho1 hex rfl hss2 hel2 hb2 hfr (hlr.trans hl2) hpr (hp2'.nodup_iff.mpr hnd1)
    exact wpAny_pure (hR _ _ us2 (hsb1.trans (c0n _ a _)) ho2 hS2 (hp2'.trans hp1))
   ·exact wpAny_pure (hR _ _ us1 hsb1 ho1 hS1 hp1)
  split
  ·refine wpAny_bind ?_
   rw [hashByValue_scannable 8 rfl]
   refine wpAny_pure ?_
   refine tail _ ?_ ?_ ?_ fun h' o' us' a1 a2 a3 a4 => ?_
   ·exact SetTable.fits_plain_off hfits
   ·exact hled1.trans hled
   ·rfl
   ·dsimp only; exact wpAny_pure (h _ h' o' us' a1 a2 a3 a4)
  ·rename_i hpl1
   refine wpAny_bind (wpAny_pure ?_)
   simp only [↓reduceIte]
   refine tail _ hfits (hled1.trans hled) (by simpa using hpl1) fun h' o' us' a1 a2 a3 a4 => ?_
   dsimp only; exact wpAny_pure (h _ h' o' us' a1 a2 a3 a4)
theorem a9S {wr : List Addr} {G : Array GenState → Array GenState → Prop} {P : Nat → Value → Prop} {St : Nat → Shared → Prop} {led : Bool} (W : WalksS b9u.prog w A.in1 I fp wr G n P St) (S : Addr) (hSf : S ∉ fp) (hval : ∀ i v, P i v → ∃ x t, ss[i]? = some x ∧ v = .str x t) (hb : n + 1 < scanBound) (hln : ss.length = n) :
  ∀ (k i : Nat) (s : Shared) (o : Obj) (us : List b9p), n - i = k → i ≤ n → St i s → s.heap.get? S = some o → a6u w o us led → us.length ≤ i → (∀ x, x ∈ us ↔ x ∈ ss.take i) →
   (∀ s' o' us', Moved (S :: wr) G s s' → s'.heap.get? S = some o' → a6u w o' us' led → (∀ x, x ∈ us' ↔ x ∈ ss) → R (.ok (.ret .none)) s') →
   codeAny (model b9u.prog w) A (.builtin "set.update.loop" ⟨[.ref S, .ref I], []⟩) R s := by
 have hSw : S ∉ wr := fun h => hSf (W.sub _ h)
 have hsub : ∀ b ∈ wr, b ∈ S :: wr := fun b hb => List.mem_cons_of_mem _ hb
 intro k
 induction k with
 | zero =>
  intro i s o us hk hi hst ho hS hl hm hR
  have hin : i = n := by omega
  subst hin
  refine c1o c4a ?_
  rw [c2J c3B _]
  show wpAny _ A.in1 (pyNext (.ref I) >>= _) _ _ s
  refine wpAny_bind (W.done s _ _ hst fun s' hmv => ?_)
  show wpAny _ A.in1 (ret b9P) _ _ s'
  exact wpAny_pure (hR s' o us (hmv.mono hsub) (hmv.heap S _ hSw ho) hS fun x => by rw [hm, c0A (by omega)])
 | succ k ih =>
  intro i s o us hk hi hst ho hS hl hm hR
  have hlt : i < n := by omega
  refine c1o c4a ?_
  rw [c2J c3B _]
  show wpAny _ A.in1 (pyNext (.ref I) >>= _) _ _ s
  refine wpAny_bind (W.item i s _ _ hlt hst fun v s' hP hst' hmv => ?_)
  obtain ⟨x, t, hx, rfl⟩ := hval i v hP
  show wpAny _ A.in1 (holding [c0E x t] (setAdd S (.str x t)) >>= _) _ _ s'
  refine wpAny_bind (wpAny_holding ?_)
  refine b1z (w := w) (hmv.heap S _ hSw ho) hS (by omega) fun b h' o' us' hsb ho' hS' hp => ?_
  refine wpAny_pure ⟨c2K c3B _, ih (i + 1) _ o' us' (by omega) hlt (W.frame _ s' _ _ hst' (c2h _) fun b hb o e => ?_) ho' hS' ?_ (fun y => ?_) fun s'' o'' us'' hm'' ho'' hS'' hx'' => ?_⟩
  ·rw [hsb.2 b (fun h : b = S => hSf (by rw [← h]; exact hb))]; exact e
  ·rw [hp.length_eq]
   split
   ·omega
   ·rw [c0l, c1N]; omega
  ·rw [hp.mem_iff, c0H, hx, c0S, b9y, ← hm, b9C]
   split
   ·rename_i hxm
    exact ⟨.inl, fun h => h.elim id fun e => e ▸ hxm⟩
   ·rw [b9y, b9C]
  ·refine hR s'' o'' us'' (Moved.trans W.gtrans ((hmv.mono hsub).then_heap (c2h _) fun b o hb e => ?_) hm'') ho'' hS'' hx''
   rw [hsb.2 b (fun h : b = S => hb (by rw [h]; exact c3w))]; exact e
theorem b2d {Q₁ : Value → Shared → Prop} (a : Value) (h : Q₁ (.ref s.heap.objs.size) { s with heap := s.heap.push { cls := .type "set", dict := none, data := .set #[] 0 (.fresh 0 0 (!w.params.followText "set-order")) } }) :
  codeAny (model b9u.prog w) A (.call (.builtin "set.__new__") ⟨[.type "set", a], []⟩) (wants Q₁ E) s := by
 revert cl9 w A E s Q₁ a
 intros h
 refine codeAny_of_tree ?_
 show wpAny _ A.in1 (do checkBuiltinCall "set.__new__" ⟨[.type "set", a], []⟩; again (.builtin "set.__new__" ⟨[.type "set", a], []⟩)) _ _ s
 refine wpAny_bind (wpAny_of_eq (PySem.F.newCall_set_1 a) (wpAny_pure ⟨c2K PySem.F.plain_set_new _, c1o PySem.F.entry_set_new ?_⟩))
 rw [c2J PySem.F.plain_set_new _]
 unfold Builtin.«set.__new__» Builtin.Frozenset.newClass
 have hsub := sub_set_self
 obtain ⟨hp, g, d, tk, os⟩ := s
 dsimp only
 walk_say "@bbdpFbeFpbdbdb"
 refine c0L (wpAny_pure ?_)
 dsimp only
 simp only [newObj]
 refine wpAny_bind (wpAny_alloc (wpAny_pure ?_))
 exact wpAny_pure h
theorem a4O {l : Addr} (hh : A.handled = none) (hl : s.heap.IsList l items) (hi : StrsAre items.toList ss) (hb : items.size + 1 < scanBound) (h : ∀ (h' : Heap) (tk : Nat) o us, h'.get? s.heap.objs.size = some o → a6u w o us (!w.params.followText "set-order") → (∀ x, x ∈ us ↔ x ∈ ss) → (∀ b o, b < s.heap.objs.size → s.heap.get? b = some o → h'.get? b = some o) → Q (.ref s.heap.objs.size) { s with heap := h', toks := tk }) :
  wpAny (model b9u.prog w) A (call (.type "set") [.ref l]) Q E s := by
 revert cl9 ss Q items w A E s l
 intros hh hl hi hb h
 obtain ⟨c, tl, hmro⟩ := PySem.F.called_set.mro
 have hmade := PySem.F.called_set.made
 have hsub := PySem.F.called_set.sub
 generalize hled : (!w.params.followText "set-order") = led at h
 refine wpAny_call (codeAny_of_tree ?_)
 show wpAny _ _ (callAny (.type "set") _) _ _ _
 refine wpAny_pure ⟨c2O _ (by decide +kernel), c1o PySem.F.entry_type_call ?_⟩
 rw [Around.under_plain (weight_type_call_type "set" [.ref l] []) rfl]
 have h1 := PySem.F.called_set.notType
 have h2 := PySem.F.called_set.canCreate
 have hct := PySem.F.typeCall_set_1 (.ref l)
 walk_say "@dFFbebeFbebpbhc"
 refine c2w (b2d (.ref l) (E := E) (Q₁ := fun obj s₁ => obj = .ref s.heap.objs.size ∧ s₁ = { s with heap := s.heap.push { cls := .type "set", dict := none, data := .set #[] 0 (.fresh 0 0 led) } }) ⟨rfl, by rw [hled]⟩) fun r s₁ hr => ?_
 cases r with
 | error e => exact hr
 | ok fl =>
  cases fl with
  | ret obj =>
   obtain ⟨rfl, rfl⟩ := hr
   have hS : (s.heap.push { cls := .type "set", dict := none, data := .set #[] 0 (.fresh 0 0 led) }).get? s.heap.objs.size = some { cls := .type "set", dict := none, data := .set #[] 0 (.fresh 0 0 led) } := b9R _ rfl
   have hT : Shared.TypeIs { s with heap := s.heap.push { cls := .type "set", dict := none, data := .set #[] 0 (.fresh 0 0 led) } } (.ref s.heap.objs.size) "set" := ⟨_, hS, rfl⟩
   have hli := PySem.F.called_set.init.lookup
   have hbi := PySem.F.called_set.init.bind (.ref s.heap.objs.size)
   walk_say "@biFbhdbnhbebc"
   refine c2w (c2R (R := wants (fun r s₂ => r = .none ∧ ∃ h' tk o us, s₂ = { s with heap := h', toks := tk } ∧ h'.get? s.heap.objs.size = some o ∧ a6u w o us led ∧ (∀ x, x ∈ us ↔ x ∈ ss) ∧
     (∀ b o, b < s.heap.objs.size → s.heap.get? b = some o → h'.get? b = some o)) E) PySem.F.called_set.init.plain PySem.F.entry_set_init (check_set_init_1 hT ?_)) fun r₂ s₂ hr₂ => ?_
   ·obtain ⟨ol, hol, hcl, nl, hdl⟩ := hl
    obtain ⟨ocls, odict, odata, oslots⟩ := ol
    simp only at hcl hdl
    subst hcl; subst hdl
    have hol' : (s.heap.push { cls := .type "set", dict := none, data := .set #[] 0 (.fresh 0 0 led) }).get? l = some { cls := .type "list", dict := odict, data := .seq items nl, slots := oslots } := b9B _ hol
    have hsls := PySem.F.sub_list_set
    have hslf := PySem.F.sub_list_frozenset
    have hne : (c1v "list" == c1v "dict") = false := by decide
    have hl1 : (s.heap.push { cls := .type "set", dict := none, data := .set #[] 0 (.fresh 0 0 led) }).IsList l items := ⟨_, hol', rfl, nl, rfl⟩
    unfold Builtin.«set.__init__» noKeywords Builtin.Frozenset.updateFrom
    generalize hPI : pyIter = PI
    walk_say "@bTpdbdbdbyFpddpbdFFFpbdpbdbdblFppFdbbddbdbdbLpeddbdbLpeFbdbLpFb"
    subst hPI
    refine c2W hl1 ?_
    refine wpAny_bind (wpAny_runValue ?_)
    have hlS : l < s.heap.objs.size := b9x hol
    have hh3 : A.in1.in1.in1.handled = none := by simp [hh]
    have hneI : l ≠ (s.heap.push { cls := .type "set", dict := none, data := .set #[] 0 (.fresh 0 0 led) }).objs.size := by
     rw [c0i]; exact b9v (b9N hlS)
    have hSf : s.heap.objs.size ∉ [(s.heap.push { cls := .type "set", dict := none, data := .set #[] 0 (.fresh 0 0 led) }).objs.size, l] := by
     rw [c0i]; simp only [b9r, b9C, c0f, or_false, not_or]
     exact ⟨b9v (c0K _), b9F hlS⟩
    have hln : ss.length = items.size := by rw [← hi.length, c0e]
    refine a9S (w := w) (led := led) ((Walks.list hh3 _ l hneI items).toS) s.heap.objs.size hSf (ss := ss) (fun i v hv => by
      obtain ⟨x, t, e, hx⟩ := a0o hi (by rw [c3l]; exact hv)
      exact ⟨x, t, hx, e⟩) hb hln (items.size - 0) 0 _ _ [] (by omega) (c0m _)
     ⟨⟨_, b9R _ rfl, rfl, rfl⟩, (hl1.push _)⟩ (b9B _ hS) (a7u led) (b9K 0) (fun x => by simp) fun s' o' us' hm ho' hS' hx' => ?_
    obtain ⟨h', g', d', tk', os'⟩ := s'
    have eg : g' = s.gens := hm.gens
    have ed : d' = s.drawn := hm.drawn
    have eo : os' = s.os := hm.os
    subst eg; subst ed; subst eo
    show wpAny _ _ _ _ _ _
    refine wpAny_pure ?_
    show wpAny _ _ (ret b9P) _ _ _
    refine wpAny_pure ⟨rfl, h', tk', o', us', rfl, ho', hS', hx', fun b o hb e => ?_⟩
    have hb1 : b ≠ s.heap.objs.size := b9v hb
    have hb2 : b ≠ (s.heap.push { cls := .type "set", dict := none, data := .set #[] 0 (.fresh 0 0 led) }).objs.size := by
     rw [c0i]; exact b9v (b9N hb)
    exact hm.heap b o (by simp only [b9r, b9C, c0f, or_false, not_or]; exact ⟨hb1, hb2⟩) (b9B _ (b9B _ e))
   ·cases r₂ with
    | error e => exact hr₂
    | ok fl₂ =>
     cases fl₂ with
     | ret r =>
      obtain ⟨rfl, h', tk, o', us', rfl, ho', hS', hx', hk'⟩ := hr₂
      walk_say "@pFddp"
      exact h _ _ _ _ ho' hS' hx' hk'
     | _ => exact hr₂.elim
  | _ => exact hr.elim
end
theorem era_Zc : True := trivial
theorem slot_setit_next : Slot "set_iterator" "__next__" "set_iterator.__next__" :=
 .of (owner := "set_iterator") (n := "__next__") (by rw [typeLookup_type, builtinLookup_eq_fast]; kernel_rfl) (by decide +kernel) (by decide +kernel) (by decide +kernel)
  (by first | exact .inl (by decide +kernel) | exact .inr (by decide +kernel)) (by rw [c3m]; kernel_rfl)
theorem a1d : entryFor table "set_iterator.__next__" = some Builtin.«set_iterator.__next__» := entryFor_of_tree (by kernel_rfl)
theorem a3i : Manifest.owners.lookup (String.ofList ['r', 'o', 't', 'a', 'r', 'e', 't', 'i', '_', 't', 'e', 's'].reverse) = some Manifest.sig_set_iterator := by kernel_rfl
theorem a1j (a : Value) : argsOk "set_iterator.__next__" ⟨[a], []⟩ := by
 unfold argsOk; rw [signature?_of (id := "set_iterator.__next__") (n := ['_', '_', 't', 'x', 'e', 'n', '_', '_']) (o := ['r', 'o', 't', 'a', 'r', 'e', 't', 'i', '_', 't', 'e', 's']) (by kernel_rfl) a3i]; kernel_rfl
theorem a2T : entryFor table "set.__iter__" = some Builtin.«frozenset.__iter__» :=
 entryFor_alias (id' := "frozenset.__iter__") (by rw [c3n]; kernel_rfl) rfl (by decide +kernel) (by rw [c3n]; kernel_rfl)
theorem a3w {l : List α} (h : i < l.length) : (l[i] :: l.eraseIdx i).Perm l := by
 rw [List.eraseIdx_eq_take_drop_succ]
 refine List.perm_middle.symm.trans ?_
 rw [List.getElem_cons_drop, c3x]
theorem a8s (next : Nat → Nat) : ∀ (f k : Nat) (left : List α) (out : Array α), left.length = f → (pickOrder.go next f k left out).toList.Perm (out.toList ++ left) := by
 intro f; induction f with
 | zero => intro k left out h; (rw [List.length_eq_zero_iff.mp h, c0k]; exact .refl _)
 | succ f ih =>
  intro k left out h
  have hl : next k % left.length < left.length := Nat.mod_lt _ (by omega)
  unfold pickOrder.go
  rw [c2G hl]
  dsimp only
  refine (ih (k + 1) _ _ (by rw [List.length_eraseIdx, if_pos hl, h]; rfl)).trans ?_
  rw [Array.toList_push, c0M]
  exact (a3w hl).append_left _
theorem a1p : Slot "set_iterator" "__iter__" "set_iterator.__iter__" :=
 .of (owner := "set_iterator") (n := "__iter__") (by rw [typeLookup_type, builtinLookup_eq_fast]; kernel_rfl) (by decide +kernel) (by decide +kernel) (by decide +kernel)
  (by first | exact .inl (by decide +kernel) | exact .inr (by decide +kernel)) (by rw [c3m]; kernel_rfl)
theorem a2p : entryFor table "set_iterator.__iter__" = some Builtin.«dict_keyiterator.__iter__» :=
 entryFor_alias (id' := "dict_keyiterator.__iter__") (by rw [c3n]; kernel_rfl) rfl (by decide +kernel) (by rw [c3n]; kernel_rfl)
theorem a2K (a : Value) : argsOk "set_iterator.__iter__" ⟨[a], []⟩ := by
 unfold argsOk; rw [signature?_of (id := "set_iterator.__iter__") (n := ['_', '_', 'r', 'e', 't', 'i', '_', '_']) (o := ['r', 'o', 't', 'a', 'r', 'e', 't', 'i', '_', 't', 'e', 's']) (by kernel_rfl) a3i]; kernel_rfl
section
variable {w : World} {A : Around} {E : Value → Shared → Prop} {s : Shared}
theorem a7L {src : Source} {Q : Nat → Shared → Prop} (hn : n ≠ 0) (h : ∀ i d, i < n → Q i { s with drawn := d }) : wpAny M A (choose src n) Q E s :=
 fun Γ p _ => by
  show Sem.wp M Γ (.choose src n .pure) _ _ p s
  rw [Sem.wp_choose]
  exact ⟨hn, h _ _ (Nat.mod_lt _ (Nat.pos_of_ne_zero hn))⟩
theorem a1Q {α : Type} {M : Model} : ∀ (n : Nat) (xs : List α) (s : Shared) {Q : List α → Shared → Prop}, xs.length = n → (∀ ys d, ys.Perm xs → Q ys { s with drawn := d }) → wpAny M A (drawOrder n xs) Q E s
 | 0, xs, s, Q, h, k => by
  unfold drawOrder
  exact wpAny_pure (k [] s.drawn (by rw [List.length_eq_zero_iff.mp h]))
 | n + 1, [], s, Q, h, k => by simp at h
 | n + 1, x :: xs, s, Q, h, k => by
  unfold drawOrder
  refine wpAny_bind (a7L (by simp) fun i d hi => ?_)
  rw [c2G hi]
  dsimp only
  refine wpAny_bind (a1Q n _ _ (by rw [List.length_eraseIdx, if_pos hi, h]; rfl) fun ys d2 hp => ?_)
  exact wpAny_pure (k _ d2 ((hp.cons _).trans (a3w hi)))
noncomputable def a8V (w : World) (h : Heap) (first : Value) (i : Nat) (S : Addr) (es : Array (Int × Value)) (ep : Nat) (t : SetTable) (ord : List Value) : Prop :=
 (∃ T places nt ot, first = .ref T ∧ h.get? T = some ot ∧ ot.data = .seq (c0x (List.map (fun p : Nat => rawInt p) places)) nt ∧ places.Perm (c1s es.size) ∧ ord = places.map fun p => ((es[p]?).map (·.2)).getD .none) ∨
 (w.params.followText "set-order" = true ∧ first = .int 0 0 ∧ ord = (pickOrder (w.params.setOrder S ep) es).toList.map (·.2)) ∨
 (w.params.followText "set-order" = false ∧ es.size ≤ 1 ∧ t.led = true ∧ (t.plain = true ∨ es.size ≤ 1) ∧ ord = es.toList.map (·.2) ∧ (first = .int 0 0 ∧ i = 0 ∨ ∃ j, t.place = #[j] ∧ first = .int ((j + 1 : Nat) : Int) 0 ∧ i = 1))
noncomputable def SetIt (w : World) (h : Heap) (I S : Addr) (i n : Nat) (o : Obj) (es : Array (Int × Value)) (ep : Nat) (t : SetTable) (ord : List Value) (fp : List Addr) : Prop :=
 ∃ oI first, h.get? I = some oI ∧ oI.cls = .type "set_iterator" ∧ oI.data = .fields #[first, .int i 0, .ref S, .int n 0, .int ep 0] ∧ a8V w h first i S es ep t ord ∧ h.get? S = some o ∧ (∀ T, first = .ref T → T ≠ I ∧ T ∈ fp)
theorem a6T {ep : Nat} {t : SetTable} {v : Value} {Q : Option Value → Shared → Prop} (hIS : S ≠ I) (hit : SetIt w s.heap I S i es.size o es ep t ord fp) (hd : o.data = .set es ep t) (hf : t.fits es.size = true) (hv : ord[i]? = some v) (hQ : ∀ h', SetIt w h' I S (i + 1) es.size o es ep t ord fp → c1q I s.heap h' → Q (some v) { s with heap := h' }) : wpAny (model b9u.prog w) A (pyNext (.ref I)) Q E s := by
 revert cl9 i ord I S es o fp w A E s ep t v Q
 intros hIS hit hd hf hv hQ
 have mk9 : a0b := trivial
 obtain ⟨oI, first, hI, hc, hdI, hm, hS, hT⟩ := hit
 have hTI : s.TypeIs (.ref I) "set_iterator" := ⟨_, hI, hc⟩
 unfold pyNext
 refine wpAny_bind (c1F (c1c (name := c2o "__next__") hTI slot_setit_next (c0G slot_setit_next hTI a1d ?_ (a1j _))))
 unfold Builtin.«set_iterator.__next__»
 refine wpAny_bind (wpAny_pure ?_)
 refine wpAny_bind (wpAny_fieldsOf hI hdI ?_)
 dsimp only
 refine wpAny_bind (c3C hS hd hf ?_)
 rw [if_neg (by simp)]
 have fin : ∀ {first' : Value} {oI' : Obj} {h1 : Heap}, h1.get? I = some oI' → oI'.cls = .type "set_iterator" → oI'.data = .fields #[first', .int i 0, .ref S, .int es.size 0, .int ep 0] → (∀ h2, h2.get? S = some o → (∀ b, b ≠ I → h2.get? b = s.heap.get? b) → a8V w h2 first' (i + 1) S es ep t ord) → c1q I s.heap h1 → (∀ T, first' = .ref T → T ≠ I ∧ T ∈ fp) →
   wpAny (model b9u.prog w) A.in1 (setField (.ref I) 1 (rawInt (i + 1)) >>= fun _ => ret v) (fun fin s' => ∃ r, fin = .done (.ret r) ∧ wpAny (model b9u.prog w) A (pure (some r)) Q E s')
    (fun e s' => wpAny (model b9u.prog w) A (do if ← isInstance e (.type "StopIteration") then pure none else throw e) Q E s') { s with heap := h1 } := by
  revert cm9 first' oI' h1; intro hI1 hc1 hd1 hm1 hsb hT1
  have S2 := c0n h1 I (c0v (·.setIfInBounds 1 (rawInt (i + 1))))
  have hSB := hsb.trans S2
  have hS2 : (h1.update I (c0v (·.setIfInBounds 1 (rawInt (i + 1))))).get? S = some o := (hSB.2 S hIS).trans hS
  refine wpAny_bind (c0u hI1 hd1 (by simp) (wpAny_pure ⟨v, rfl, wpAny_pure (hQ _ ⟨_, first', c0F _ hI1 (c0W (c0z hd1 _)), (c1W ..).trans hc1, by
   rw [c0z hd1]; simp [rawInt], hm1 _ hS2 hSB.2, hS2, hT1⟩ hSB)⟩))
 rcases hm with ⟨T, places, nt, ot, rfl, hT1, hT2, hp, ho⟩ | ⟨hb, rfl, ho⟩ | ⟨hb, hz, hl, hpl, ho, hw⟩
 ·subst ho
  rw [c0s, c0O] at hv
  obtain ⟨p, hpi, rfl⟩ := hv
  have hpz : p < es.size := c3i.mp (hp.mem_iff.mp (b9Z hpi))
  dsimp only
  refine wpAny_bind (c0Q hT1 hT2 ?_)
  have e : (c0x (List.map (fun p : Nat => rawInt p) places))[((i : Nat) : Int).toNat]? = some (rawInt p) := by simp [hpi]
  dsimp only
  rw [e]
  dsimp only [rawInt]
  refine wpAny_bind ?_
  unfold setNextDrawn
  refine wpAny_bind (c1h hS hd hf ?_)
  dsimp only
  rw [if_neg (by simp)]
  have e2 : es[((p : Nat) : Int).toNat]? = some es[p] := by simp [hpz]
  rw [e2]
  refine wpAny_pure ?_
  have e3 : es[p]? = some es[p] := by simp [hpz]
  rw [e3] at fin
  refine fin hI hc hdI (fun h2 _ hk => .inl ⟨T, places, nt, ot, rfl, (hk T (hT T rfl).1).trans hT1, hT2, hp, rfl⟩) (c3j I s.heap) hT
 ·dsimp only
  refine wpAny_bind ?_
  unfold setNext
  refine wpAny_bind (c1h hS hd hf ?_)
  dsimp only
  unfold setsByText
  refine wpAny_bind (wpAny_bind (c0L (wpAny_pure ?_)))
  dsimp only
  rw [if_pos (show (model b9u.prog w).w.params.followText "set-order" = true from hb), if_neg (by simp)]
  unfold setWalk
  refine wpAny_bind (wpAny_bind (c1h hS hd hf ?_))
  dsimp only
  unfold setsByText
  refine wpAny_bind (wpAny_bind (c0L (wpAny_pure ?_)))
  dsimp only
  rw [if_pos (show (model b9u.prog w).w.params.followText "set-order" = true from hb)]
  refine wpAny_bind (c0L (wpAny_pure ?_))
  refine wpAny_pure ?_
  subst ho
  rw [c0s, c3l] at hv
  have e : ((i : Nat) : Int).toNat = i := by simp
  dsimp only
  rw [e]
  obtain ⟨q, hq, rfl⟩ := c0O.mp hv
  rw [show (pickOrder ((model b9u.prog w).w.params.setOrder S ep) es)[i]? = some q from hq]
  dsimp only [Option.map]
  have hd1 := c0z (f := fun vs : Array Value => vs.setIfInBounds 0 (rawInt ((0 : Int).toNat : Nat))) hdI
  have hI1 : (s.heap.update I (c0v fun vs : Array Value => vs.setIfInBounds 0 (rawInt ((0 : Int).toNat : Nat)))).get? I = some _ := c0F _ hI (c0W hd1)
  refine wpAny_bind (c0u hI hdI (by simp) ?_)
  exact fin hI1 ((c1W ..).trans hc) (hd1.trans (by simp [rawInt])) (fun h2 _ hk => .inr (.inl ⟨hb, rfl, rfl⟩)) (c0n ..) (fun T h => by cases h)
 ·subst ho
  have hi : i < es.size := by
   have := (List.getElem?_eq_some_iff.mp hv).1
   rwa [b9z, c0e] at this
  obtain ⟨rfl, rfl⟩ : first = .int 0 0 ∧ i = 0 := by
   rcases hw with h | ⟨j, _, _, h⟩
   ·exact h
   ·omega
  have hp : ∃ j, t.place = #[j] := by
   have h1 : t.place.size = es.size := by
    simp only [SetTable.fits, c0h, beq_iff_eq] at hf
    exact hf.1
   have h2 : t.place.size = 1 := by omega
   exact Array.size_eq_one_iff.mp h2
  obtain ⟨j, hj⟩ := hp
  dsimp only
  refine wpAny_bind ?_
  unfold setNext
  refine wpAny_bind (c1h hS hd hf ?_)
  dsimp only
  unfold setsByText
  refine wpAny_bind (wpAny_bind (c0L (wpAny_pure ?_)))
  dsimp only
  rw [if_neg (show ¬ (model b9u.prog w).w.params.followText "set-order" = true from fun z => by rw [show (model b9u.prog w).w.params.followText "set-order" = false from hb] at z; cases z)]
  show wpAny _ _ (if (!t.plain && decide (es.size > 1)) = true then _ else _) _ _ _
  rw [if_neg (by simp; omega)]
  show wpAny _ _ ((if (!t.led && !es.isEmpty) = true then unsupported "set:maker-not-led" else pure PUnit.unit) >>= _) _ _ _
  rw [if_neg (by rw [hl]; simp)]
  refine wpAny_bind (wpAny_pure ?_)
  have hb0 : c3o t.place (0 : Int).toNat = 0 := by rw [hj]; rfl
  rw [hb0, hj]
  have e1 : es[0]? = some es[0] := by simp [hi]
  have e2 : es.toList.map (·.2) = [es[0].2] := by
   obtain ⟨l⟩ := es
   obtain ⟨q, hq⟩ : ∃ q, l = [q] := List.length_eq_one_iff.mp (c1D hz hi)
   subst hq
   rfl
  rw [e1]
  (try dsimp only)
  have hv' : v = es[0].2 := by
   rw [e2] at hv
   simpa using hv.symm
  subst hv'
  refine wpAny_pure ?_
  have hd1 := c0z (f := fun vs : Array Value => vs.setIfInBounds 0 (rawInt ((j + 1 : Nat) : Int))) hdI
  have hI1 : (s.heap.update I (c0v fun vs : Array Value => vs.setIfInBounds 0 (rawInt ((j + 1 : Nat) : Int)))).get? I = some _ := c0F _ hI (c0W hd1)
  refine wpAny_bind (c0u hI hdI (by simp) ?_)
  exact fin hI1 ((c1W ..).trans hc) (hd1.trans (by simp [rawInt])) (fun h2 _ hk => .inr (.inr ⟨hb, hz, hl, hpl, rfl, .inr ⟨j, hj, rfl, rfl⟩⟩)) (c0n ..) (fun T h => by cases h)
theorem a8d {ep : Nat} {t : SetTable} {Q : Option Value → Shared → Prop} (hh : A.handled = none) (hit : SetIt w s.heap I S es.size es.size o es ep t ord fp) (hd : o.data = .set es ep t) (hf : t.fits es.size = true) (hl : ord.length = es.size) (hQ : ∀ h', c1E I s.heap h' → Q none { s with heap := h' }) : wpAny (model b9u.prog w) A (pyNext (.ref I)) Q E s := by
 revert cl9 ord I S es o fp w A E s ep t Q
 intros hh hit hd hf hl hQ
 have mk9 : a0b := trivial
 obtain ⟨oI, first, hI, hc, hdI, hm, hS, hT⟩ := hit
 have hTI : s.TypeIs (.ref I) "set_iterator" := ⟨_, hI, hc⟩
 unfold pyNext
 refine wpAny_bind (c1F (c1c (name := c2o "__next__") hTI slot_setit_next (c0G slot_setit_next hTI a1d ?_ (a1j _))))
 unfold Builtin.«set_iterator.__next__»
 refine wpAny_bind (wpAny_pure ?_)
 refine wpAny_bind (wpAny_fieldsOf hI hdI ?_)
 dsimp only
 refine wpAny_bind (c3C hS hd hf ?_)
 rw [if_neg (by simp)]
 have fin : ∀ {first' : Value} {oI' : Obj} {h1 : Heap}, h1.get? I = some oI' → oI'.data = .fields #[first', .int es.size 0, .ref S, .int es.size 0, .int ep 0] → c1q I s.heap h1 →
   wpAny (model b9u.prog w) A.in1 (setField (.ref I) 2 .none >>= fun _ => newExc (.type "StopIteration") [] >>= fun e => (raiseNew e : Sem Fin)) (fun fin s' => ∃ r, fin = .done (.ret r) ∧ wpAny (model b9u.prog w) A (pure (some r)) Q E s')
    (fun e s' => wpAny (model b9u.prog w) A (do if ← isInstance e (.type "StopIteration") then pure none else throw e) Q E s') { s with heap := h1 } := by
  revert cm9 first' oI' h1; intro hI1 hd1 hsb
  have S2 := c0n h1 I (c0v (·.setIfInBounds 2 b9P))
  refine wpAny_bind (c0u hI1 hd1 (by simp) ?_)
  refine b9L (a6D (A := A) (E := E) (h := h1.update I (c0v (·.setIfInBounds 2 b9P))) (it := I) (s₀ := s) (fun b o e => e) (by rw [hh]; trivial) (fun h' k => hQ h' (fun b o hb e => k b o (((hsb.trans S2).2 b hb).trans e)))) (fun _ _ f => f.elim) (fun e s' z => z)
 rcases hm with ⟨T, places, nt, ot, rfl, hT1, hT2, hp, ho⟩ | ⟨hb, rfl, ho⟩ | ⟨hb, hz, hled, hpl, ho, hw⟩
 ·dsimp only
  refine wpAny_bind (c0Q hT1 hT2 ?_)
  have e : (c0x (List.map (fun p : Nat => rawInt p) places))[((es.size : Nat) : Int).toNat]? = none := by
   have := hp.length_eq
   rw [c1L] at this
   simp [this]
  dsimp only
  rw [e]
  dsimp only
  have hd1 := c0z (f := fun vs : Array Value => vs.setIfInBounds 0 (rawInt 0)) hdI
  have hI1 : (s.heap.update I (c0v fun vs : Array Value => vs.setIfInBounds 0 (rawInt 0))).get? I = some _ := c0F _ hI (c0W hd1)
  refine wpAny_bind (c0u hI hdI (by simp) ?_)
  exact fin (first' := .int 0 0) hI1 (hd1.trans (by simp [rawInt])) (c0n ..)
 ·dsimp only
  refine wpAny_bind ?_
  unfold setNext
  refine wpAny_bind (c1h hS hd hf ?_)
  dsimp only
  unfold setsByText
  refine wpAny_bind (wpAny_bind (c0L (wpAny_pure ?_)))
  dsimp only
  rw [if_pos (show (model b9u.prog w).w.params.followText "set-order" = true from hb), if_neg (by simp)]
  unfold setWalk
  refine wpAny_bind (wpAny_bind (c1h hS hd hf ?_))
  dsimp only
  unfold setsByText
  refine wpAny_bind (wpAny_bind (c0L (wpAny_pure ?_)))
  dsimp only
  rw [if_pos (show (model b9u.prog w).w.params.followText "set-order" = true from hb)]
  refine wpAny_bind (c0L (wpAny_pure ?_))
  refine wpAny_pure ?_
  subst ho
  rw [b9z, c0e] at hl
  have hq : (pickOrder ((model b9u.prog w).w.params.setOrder S ep) es)[((es.size : Nat) : Int).toNat]? = none := by
   refine c3h ?_
   rw [show (pickOrder ((model b9u.prog w).w.params.setOrder S ep) es).size = es.size from hl]
   simp
  dsimp only
  rw [hq]
  dsimp only [Option.map]
  exact fin hI hdI (c3j I s.heap)
 ·obtain ⟨slot, hf1, hbe⟩ : ∃ slot : Nat, first = .int (slot : Int) 0 ∧ es[c3o t.place slot]? = none := by
   have h1 : t.place.size = es.size := by
    simp only [SetTable.fits, c0h, beq_iff_eq] at hf
    exact hf.1
   rcases hw with ⟨h, h0⟩ | ⟨j, hj, h, h0⟩
   ·refine ⟨0, h, ?_⟩
    rw [Array.size_eq_zero_iff.mp h0]
    rfl
   ·refine ⟨j + 1, h, ?_⟩
    have hb : c3o t.place (j + 1) = 1 := by
     rw [hj]
     unfold c3o SetTable.below.go
     simp [SetTable.below.go]
    rw [hb]
    exact c3h (by omega)
  subst hf1
  dsimp only
  refine wpAny_bind ?_
  unfold setNext
  refine wpAny_bind (c1h hS hd hf ?_)
  dsimp only
  unfold setsByText
  refine wpAny_bind (wpAny_bind (c0L (wpAny_pure ?_)))
  dsimp only
  rw [if_neg (show ¬ (model b9u.prog w).w.params.followText "set-order" = true from fun z => by rw [show (model b9u.prog w).w.params.followText "set-order" = false from hb] at z; cases z)]
  show wpAny _ _ (if (!t.plain && decide (es.size > 1)) = true then _ else _) _ _ _
  rw [if_neg (by simp; omega)]
  show wpAny _ _ ((if (!t.led && !es.isEmpty) = true then unsupported "set:maker-not-led" else pure PUnit.unit) >>= _) _ _ _
  rw [if_neg (by rw [hled]; simp)]
  refine wpAny_bind (wpAny_pure ?_)
  rw [show ((slot : Int)).toNat = slot from by simp, hbe]
  exact wpAny_pure (fin hI hdI (c3j I s.heap))
theorem SetIt.at {ep : Nat} {t : SetTable} (x : SetIt w h I S i n o es ep t ord fp) (k : ∀ b, b = I ∨ b = S ∨ b ∈ fp → ∀ o, h.get? b = some o → h'.get? b = some o) : SetIt w h' I S i n o es ep t ord fp := by
 revert cl9 i n ord h h' I S es o fp w ep t
 intros x k
 have mk9 : a0b := trivial
 obtain ⟨oI, first, hI, hc, hdI, hm, hS, hT⟩ := x
 refine ⟨oI, first, k _ (.inl rfl) _ hI, hc, hdI, ?_, k _ (.inr (.inl rfl)) _ hS, hT⟩
 rcases hm with ⟨T, places, nt, ot, rfl, hT1, r⟩ | r | r
 ·exact .inl ⟨T, places, nt, ot, rfl, k _ (.inr (.inr (hT T rfl).2)) _ hT1, r⟩
 ·exact .inr (.inl r)
 ·exact .inr (.inr r)
theorem Walks.setTxt {ep : Nat} {t : SetTable} (hh : A.handled = none) (hIS : S ≠ I) (hd : o.data = .set es ep t) (hf : t.fits es.size = true) (hl : ord.length = es.size) :
  Walks b9u.prog w A I (I :: S :: fp) [I] es.size (fun i v => ord[i]? = some v) (fun i h => SetIt w h I S i es.size o es ep t ord fp) where
 sub := fun b hb => by simp at hb; simp [hb]
 frame := fun _ _ _ st hk => st.at fun b hb o e => hk b (by simp; exact hb) o e
 item := fun i s Q E hi st hQ => by
  refine a6T hIS st hd hf (v := ord[i]) (by simp) fun h' hit' hs' => ?_
  exact hQ _ h' s.toks (by simp) hit' fun b o hb e => hs'.extBut b o (fun h => hb (by simp [h])) e
 done := fun s Q E st hQ => a8d hh st hd hf hl fun h' he' => hQ h' s.toks fun b o hb e => he' b o (fun h => hb (by simp [h])) e
 self := fun _ s Q E st hQ => by
  obtain ⟨oI, first, hI, hc, _⟩ := st
  have hTI : s.TypeIs (.ref I) "set_iterator" := ⟨_, hI, hc⟩
  refine wpAny_pyIter_slot hTI a1p (c0G a1p hTI a2p ?_ (a2K _))
  show wpAny _ _ (ret (.ref I)) _ _ s
  exact wpAny_pure ⟨_, rfl, "set_iterator", _, hTI, slot_setit_next.lookup, hQ⟩
end
theorem era_Zd : True := trivial
section
variable {w : World} {A : Around} {E : Value → Shared → Prop} {s : Shared}
theorem b0H (ho : s.heap.get? S = some o) (hS : a6u w o us (!w.params.followText "set-order")) (hQ : ∀ I h' d es ep t ord fp, o.data = .set es ep t → t.fits es.size = true → SetIt w h' I S 0 es.size o es ep t ord fp → ord.Perm (es.toList.map (·.2)) → StrsAre (es.toList.map (·.2)) us → s.heap.objs.size ≤ I → (∀ T ∈ fp, s.heap.objs.size ≤ T) → (∀ b o, s.heap.get? b = some o → h'.get? b = some o) →
   Q (.ref I) { s with heap := h', drawn := d }) : wpAny (model b9u.prog w) A (pyIter (.ref S)) Q E s := by
 revert cl9 us S Q o w A E s
 intros ho hS hQ
 have mk9 : a0b := trivial
 obtain ⟨hex, ⟨es, ep, t, hd, hss, hel, hb, hf, hled, hpl⟩, hnd⟩ := hS
 have hTI : s.TypeIs (.ref S) "set" := ⟨_, ho, hex.1⟩
 refine wpAny_pyIter_slot hTI PySem.F.slot_set_iter (c0G PySem.F.slot_set_iter hTI a2T ?_ (PySem.F.args_set_iter_1 _))
 unfold Builtin.«frozenset.__iter__» Builtin.Frozenset.slot0
 refine wpAny_bind (wpAny_pure ?_)
 unfold Builtin.Frozenset.sizeOf
 refine wpAny_bind (wpAny_bind (c3C ho hd hf (wpAny_pure ?_)))
 unfold setDrawn
 refine wpAny_bind (wpAny_bind (c1h ho hd hf ?_))
 dsimp only
 unfold setsByText
 refine wpAny_bind (wpAny_bind (c0L (wpAny_pure ?_)))
 refine wpAny_pure ?_
 have hlt : S < s.heap.objs.size := b9x ho
 show wpAny _ _ (if (!w.params.followText "set-order" && (!t.plain && decide (es.size > 1))) = true then _ else _) _ _ _
 cases hbt : w.params.followText "set-order" with
 | true =>
  rw [if_neg (by simp)]
  refine wpAny_bind (wpAny_pure ?_)
  refine wpAny_bind (wpAny_setEpoch_of ho hd hf ?_)
  unfold newFields
  refine wpAny_bind (c0P (wpAny_pure ⟨_, rfl, "set_iterator", _, ⟨_, b9R _ rfl, rfl⟩, slot_setit_next.lookup, ?_⟩))
  refine hQ s.heap.objs.size _ s.drawn es ep t ((pickOrder (w.params.setOrder S ep) es).toList.map (·.2)) [] hd hf ⟨_, .int 0 0, b9R _ rfl, rfl, rfl, .inr (.inl ⟨hbt, rfl, rfl⟩), b9B _ ho, fun T h => by cases h⟩ ((a8s _ _ _ _ _ (by simp)).map _) hss (b9K _) (fun _ h => nomatch h) (fun b o e => b9B _ e)
 | false =>
  by_cases hz : es.size > 1
  ·rw [if_pos (by rw [hpl (by omega)]; simp [hz])]
   refine wpAny_bind (a1Q es.size (c1s es.size) _ c1L fun ys d hp => ?_)
   refine wpAny_bind (wpAny_newTuple ?_ (by rw [b9z, hp.length_eq, c1L]; exact c3k hb))
   have ho1 := fun ob => b9B ob ho
   refine wpAny_bind (wpAny_setEpoch_of (ho1 _) hd hf ?_)
   unfold newFields
   refine wpAny_bind (c0P (wpAny_pure ⟨_, rfl, "set_iterator", _, ⟨_, b9R _ rfl, rfl⟩, slot_setit_next.lookup, ?_⟩))
   have hsz : ∀ ob, (s.heap.push ob).objs.size = s.heap.objs.size + 1 := fun ob => by rw [c0i]
   refine hQ _ _ d es ep t (ys.map fun p => ((es[p]?).map (·.2)).getD .none) [s.heap.objs.size] hd hf ⟨_, .ref s.heap.objs.size, b9R _ rfl, rfl, rfl, .inl ⟨_, ys, 0, _, rfl, b9B _ (b9R _ rfl), rfl, hp, rfl⟩, b9B _ (b9B _ ho), fun T h => by cases h; exact ⟨by rw [c0i]; exact b9v (c0K _), .head _⟩⟩ ?_ hss (by rw [c0i]; exact c2h _) (fun T h => by rw [b9C.mp h]; exact b9K _) (fun b o e => b9B _ (b9B _ e))
   refine (hp.map _).trans (List.Perm.of_eq ?_)
   refine c2a (by simp) ?_; revert cm9 i h1 h2
   have h3 : i < es.size := by simpa using h1
   simp [h3]
  ·rw [if_neg (by simp [hz])]
   refine wpAny_bind (wpAny_pure ?_)
   refine wpAny_bind (wpAny_setEpoch_of ho hd hf ?_)
   unfold newFields
   refine wpAny_bind (c0P (wpAny_pure ⟨_, rfl, "set_iterator", _, ⟨_, b9R _ rfl, rfl⟩, slot_setit_next.lookup, ?_⟩))
   refine hQ s.heap.objs.size _ s.drawn es ep t (es.toList.map (·.2)) [] hd hf ⟨_, .int 0 0, b9R _ rfl, rfl, rfl, .inr (.inr ⟨hbt, by omega, by rw [hled, hbt]; rfl, .inr (by omega), rfl, .inl ⟨rfl, rfl⟩⟩), b9B _ ho, fun T h => by cases h⟩ (.refl _) hss (b9K _) (fun _ h => nomatch h) (fun b o e => b9B _ e)
theorem b0x {r : Addr} {Q : Bool → Shared → Prop} (hT : s.TypeIs (.ref r) "set") (h : Q false s) : wpAny (model b9u.prog w) A (c4b (.ref r)) Q E s := by
 revert cl9 w A E s r Q
 intros hT h
 unfold c4b
 refine wpAny_bind (wpAny_specialOf hT PySem.F.slot_set_len.lookup ?_)
 generalize hid : ("set.__len__" : String) = id0
 wp_delta
 rw [show splitId id0 = some ("set", "__len__") from by subst hid; decide +kernel]
 subst hid
 refine wpAny_bind (wpAny_isInstance (T := "set") (b := true) hT (by rw [c3m]; kernel_rfl) ?_)
 refine wpAny_ite_split (fun hab => absurd hab (by decide)) (fun _ => ?_)
 refine wpAny_ite_split (fun _ => ?_) (fun hab => absurd (by decide +kernel) hab)
 refine wpAny_bind (wpAny_typeOf hT ?_)
 exact wpAny_pure h
theorem a8H {acc : Array Value} (h : ItemsOf (fun i v => ord[i]? = some v) acc n) (hl : ord.length = n) : acc.toList = ord := by
 refine c2a (by rw [c0e, h.1, hl]) fun i h1 h2 => ?_
 have h3 : i < acc.size := by rwa [c0e] at h1
 have := show ord[i]? = some acc[i] from h.2 i acc[i] (by simp [h3])
 rw [c2G h2] at this
 rw [Array.getElem_toList]
 exact (b9U this).symm
theorem b1S {B : Addr} (hh : A.handled = none) (ho : s.heap.get? S = some o) (hS : a6u w o us (!w.params.followText "set-order")) (hBS : B ≠ S) (res : Value) (c₀ : Nat) (hB : s.heap.get? B = some { cls := .type "list", data := .seq #[] c₀ }) (hR : ∀ h' tk d acc' c' us', (∀ b o, b ≠ B → s.heap.get? b = some o → h'.get? b = some o) → h'.get? B = some { cls := .type "list", dict := none, data := .seq acc' c', slots := #[] } → StrsAre acc'.toList us' → us'.Perm us → R (.ok (.ret res)) { s with heap := h', toks := tk, drawn := d }) :
  wpAny (model b9u.prog w) A.in1 (c3D (.ref B) (.ref S) res)
   (fun fin s' => match fin with | .done f => R (.ok f) s' | .again c' => c'.quiet = true ∧ codeAny (model b9u.prog w) A c' R s') (fun e s' => R (.error e) s') s := by
 have hT1 : s.TypeIs (.ref S) "set" := ⟨_, ho, hS.ex.1⟩
 unfold c3D
 refine wpAny_bind (wpAny_typeOf (T := "set") hT1 ?_)
 have h1 : c4c (.ref B) (.ref S) = false := by simp [c4c, hBS]
 have n1 : (c1v "set" == c1v "list") = false := by decide
 have n2 : (c1v "set" == c1v "tuple") = false := by decide
 simp only [h1, n1, n2, Bool.or_false, c0w, if_false]
 refine wpAny_bind (b0H (w := w) ho hS fun I h2 d es ep t ord fp hd hf hit hp hss hI hfp k2 => ?_)
 have hSl : S < s.heap.objs.size := b9x ho
 have hBl : B < s.heap.objs.size := b9x hB
 have hBI : B ≠ I := b9v (c0t hBl hI)
 have hB2 := k2 _ _ hB
 have hSI : S ≠ I := b9v (c0t hSl hI)
 have hBf : B ∉ I :: S :: fp := by
  simp only [b9r, not_or]
  exact ⟨hBI, hBS, fun hm => c0g _ (c0t hBl (hfp _ hm))⟩
 have hl : ord.length = es.size := by rw [hp.length_eq, b9z, c0e]
 have hbs : es.size < scanBound := by
  obtain ⟨es2, ep2, t2, hd2, _, _, hb2, _⟩ := hS.data
  rw [hd] at hd2
  injection hd2 with e1 _ _
  rw [e1]; exact hb2
 obtain ⟨us', hss', hpu⟩ := a3e hp.symm hss
 have fin : ∀ (h3 : Heap) (c tk : Nat), SetIt w h3 I S 0 es.size o es ep t ord fp → h3.get? B = some { cls := .type "list", data := .seq #[] c } → (∀ b o, b ≠ B → s.heap.get? b = some o → h3.get? b = some o) →
   codeAny (model b9u.prog w) A (.builtin "list.extend.loop" ⟨[.ref B, .ref I, res], []⟩) R { s with heap := h3, toks := tk, drawn := d } := by
  intro h3 c tk hit3 hB3 k3
  refine codeAny_extend_loopS (Walks.setTxt (A := A.in1) hh hSI hd hf hl).toS (c3k hbs) B hBf res (es.size - 0) 0 _ #[] c rfl (c0m _) hit3 hB3 (ItemsOf.nil _) fun s' acc' c' hm hB' hacc => ?_
  rw [Moved.eq_with hm]
  refine hR s'.heap s'.toks d acc' c' us' (fun b o hb e => hm.heap b o (fun hmem => ?_) (k3 b o hb e)) hB' (by rw [a8H hacc hl]; exact hss') hpu
  rcases b9r.mp hmem with e' | hmem
  ·exact hb e'
  ·exact absurd (b9x e) (by rw [b9C.mp hmem]; exact Nat.not_lt.mpr hI)
 refine wpAny_bind (wpAny_holding (b0x (w := w) ⟨_, k2 _ _ ho, hS.ex.1⟩ ?_))
 refine wpAny_ite_split (fun _ => ?_) (fun _ => wpAny_pure ⟨c2K PySem.F.plain_extend_loop _, fin h2 c₀ s.toks hit hB2 (fun b o _ e => k2 b o e)⟩)
 refine wpAny_bind (c1d ?_)
 refine wpAny_bind ?_
 show wpAny _ _ (updateSeq B (·.push .none) >>= fun _ => updateSeq B (·.pop)) _ _ _
 refine wpAny_bind (wpAny_updateSeq hB2 rfl ?_)
 have hS₂ := c0F (c0T (·.push b9P)) hB2 rfl
 refine wpAny_updateSeq (hz := by seq_fits) hS₂ rfl ?_
 have hS₃ := c0F (c0T (·.pop)) hS₂ rfl
 refine wpAny_pure ⟨c2K PySem.F.plain_extend_loop _, fin _ _ s.toks ?_ hS₃ (fun b o hb e => ?_)⟩
 ·refine hit.at fun b hb o e => ?_
  have hbS : b ≠ B := fun h => hBf (by
   rw [← h]
   simp only [b9r]; exact hb)
  exact (c0V _ _ (b9A hbS)).trans ((c0V _ _ (b9A hbS)).trans e)
 ·exact (c0V _ _ (b9A hb)).trans ((c0V _ _ (b9A hb)).trans (k2 b o e))
theorem a5x {R : List Value → Shared → Prop} (hh : A.handled = none) (ho : s.heap.get? S = some o) (hS : a6u w o us (!w.params.followText "set-order")) (h : ∀ h' tk d vs us', (∀ b o, s.heap.get? b = some o → h'.get? b = some o) → StrsAre vs us' → us'.Perm us → R vs { s with heap := h', toks := tk, drawn := d }) :
  wpAny (model b9u.prog w) A (collect (.ref S)) R E s := by
 revert cl9 us S o w A E s R
 intros hh ho hS h
 have hSl : S < s.heap.objs.size := b9x ho
 unfold collect
 refine wpAny_bind (wpAny_runValue (c1o entry_proto_collect' ?_))
 rw [c2J PySem.F.plain_proto_collect _]
 show wpAny _ A.in1 (newList [] >>= fun l => again (.builtin "list.__iadd__" ⟨[l, .ref S], []⟩)) _ _ s
 refine wpAny_bind (c0P ?_)
 refine wpAny_pure ⟨c2K PySem.F.plain_list_iadd _, c1o entry_list_iadd' ?_⟩
 rw [c2J PySem.F.plain_list_iadd _]
 have hB : (s.heap.push { cls := .type "list", data := .seq ([] : List Value).toArray }).get? s.heap.objs.size = some { cls := .type "list", data := .seq #[] } := b9R _ rfl
 show wpAny _ A.in1 (c3D (.ref s.heap.objs.size) (.ref S) (.ref s.heap.objs.size)) _ _ _
 have key := b1S (A := A) (w := w) (s := { s with heap := s.heap.push { cls := .type "list", data := .seq ([] : List Value).toArray } })
  (R := fun (q : Result) (s' : Shared) => ∃ (h' : Heap) (tk : Nat) (d : Drawn) (acc' : Array Value) (c' : Nat) (us' : List b9p), q = .ok (.ret (.ref s.heap.objs.size)) ∧ s' = { s with heap := h', toks := tk, drawn := d } ∧
   (∀ b o, s.heap.get? b = some o → h'.get? b = some o) ∧ h'.get? s.heap.objs.size = some { cls := .type "list", dict := none, data := .seq acc' c', slots := #[] } ∧ StrsAre acc'.toList us' ∧ us'.Perm us)
  hh (b9B _ ho) hS (b9F hSl) (.ref s.heap.objs.size) 0 hB
  (fun h' tk d acc' c' us' hk hS' hss hp => ⟨h', tk, d, acc', c', us', rfl, rfl, fun b o e => hk b o (b9v (b9x e)) (b9B _ e), hS', hss, hp⟩)
 refine b9L key (fun fin s' x => ?_) fun e s' x => ?_
 ·cases fin with
  | done f =>
   obtain ⟨h', tk, d, acc', c', us', e, rfl, hk, hS', hss, hp⟩ := x
   cases e
   show wpAny _ A (load s.heap.objs.size >>= _) _ _ _
   refine wpAny_bind (wpAny_load hS' ?_)
   exact wpAny_pure (h h' tk d _ us' hk hss hp)
  | again c₁ =>
   refine ⟨x.1, c2w x.2 fun q s₂ y => ?_⟩
   obtain ⟨h', tk, d, acc', c', us', rfl, rfl, hk, hS', hss, hp⟩ := y
   show wpAny _ A (load s.heap.objs.size >>= _) _ _ _
   refine wpAny_bind (wpAny_load hS' ?_)
   exact wpAny_pure (h h' tk d _ us' hk hss hp)
 ·obtain ⟨_, _, _, _, _, _, e', _⟩ := x
  cases e'
theorem a6V (hh : A.handled = none) (F : Fr h₀ L s.heap m) (N : News h₀ L s.heap news) (hp : (S, o) ∈ news) (hS : a6u w o us (!w.params.followText "set-order")) (hn : us.length ≤ 60) (h : ∀ (D : Addr) c vs ss h' tk d, StrsAre vs ss → Srt ss us → Fr h₀ L h' m → News h₀ L h' ((D, listOf (c0x vs) c) :: news) → (∀ q ∈ news, q.1 < D) → Q (.ref D) { s with heap := h', toks := tk, drawn := d }) :
  wpAny (model b9u.prog w) A (call (.builtin "sorted") [.ref S]) Q E s := by
 refine Calls.call_function_entry kind_sorted plain_sorted entry_sorted (args_sorted1 _) ?_
 unfold Builtin.«sorted»
 refine wpAny_bind (m := checkCount "sorted" 1 1 _) (wpAny_pure ?_)
 refine wpAny_bind (a5x (A := A.in1) (w := w) hh (N _ hp).1 hS fun h' tk d vs us' hk hss hpu => ?_)
 have hlv : vs.length = us.length := by rw [hss.length, hpu.length_eq]
 refine wpAny_bind (wpAny_newList ?_ (by rw [hlv, b9O]; omega))
 have l1 : ∀ q ∈ news, q.1 < h'.objs.size := fun q hq => b9x (hk _ _ (N q hq).1)
 have hg := a5n (w := w) (A := A.in1) (E := E) (s := { s with heap := h'.push { cls := .type "list", data := .seq vs.toArray }, toks := tk, drawn := d }) (n := 0) (Q := fun _ s' => Q (.ref h'.objs.size) s') ((F.keeps hk).push _) (News.push (F.keeps hk) (fun p hp => ⟨hk _ _ (N p hp).1, (N p hp).2⟩) _ rfl) (fun q hq => b9v (l1 q hq)) hss (by omega)
  fun vs' ss' c h'' F'' N'' a b => h h'.objs.size c vs' ss' h'' tk d a ⟨b.1.trans hpu, b.2⟩ F'' N'' l1
 refine wpAny_bind (wpAny_holding (b9L hg (fun _ s' x => ?_) fun _ _ e => e))
 exact wpAny_pure ⟨_, rfl, x⟩
end
section
variable {lt : Nat → Nat → Bool} {N : Nat} {cmp : Nat → Nat → (Bool → Shared → Prop) → Shared → Prop} {s : Shared}
noncomputable abbrev pk (p : Array Nat) (i : Nat) : Nat := p.getD i 0
noncomputable def PermN (N : Nat) (p : Array Nat) : Prop := p.toList.Perm (c1s N)
theorem PermN.size {p : Array Nat} (h : PermN N p) : p.size = N := by have := h.length_eq; rwa [c0e, c1L] at this
theorem PermN.get {p : Array Nat} (h : PermN N p) (hi : i < N) : p[i]? = some (pk p i) := by
 have : i < p.size := by rw [h.size]; exact hi
 simp [pk, Array.getD, this]
theorem PermN.ltN {p : Array Nat} (h : PermN N p) (hi : i < N) : pk p i < N := by
 have h1 := h.get hi
 rw [← c3l] at h1
 exact c3i.mp (h.mem_iff.mp (b9Z h1))
theorem PermN.inj {p : Array Nat} (h : PermN N p) (hi : i < N) (hj : j < N) (hn : i ≠ j) : pk p i ≠ pk p j := fun e => by
 have h1 := h.get hi
 have h2 := h.get hj
 rw [← c3l] at h1 h2
 obtain ⟨a, b⟩ := List.getElem?_eq_some_iff.mp h1
 obtain ⟨c, d⟩ := List.getElem?_eq_some_iff.mp h2
 exact hn ((c1P (h.nodup_iff.mpr List.nodup_range)).mp (b.trans (e.trans d.symm)))
theorem b0Y {p q : Array Nat} (h : p[i]? = q[j]?) : pk p i = pk q j := by
 unfold pk
 rw [Array.getD_eq_getD_getElem?, Array.getD_eq_getD_getElem?, h]
noncomputable def Up (lt : Nat → Nat → Bool) (p : Array Nat) (m : Nat) : Prop := ∀ i j, i < j → j < m → lt (pk p i) (pk p j) = true
noncomputable def Dn (lt : Nat → Nat → Bool) (p : Array Nat) (m : Nat) : Prop := ∀ i j, i < j → j < m → lt (pk p j) (pk p i) = true
theorem na1 {a b : Nat} (h : a + (b + 1) ≤ c) : a < c := c0t (Nat.lt_add_of_pos_right (Nat.succ_pos b)) h
theorem na2 {a b : Nat} (h : a + (b + 1) ≤ c) : a + 1 + b ≤ c := by rw [c1k, Nat.add_comm 1]; exact h
theorem na3 {N : Nat} (h : n < N) : n - 1 < N := c0a (c1m _ _) h
theorem na4 (h : 1 ≤ n) : n ≠ n - 1 := b9F (Nat.sub_lt h Nat.one_pos)
theorem na5 {m f : Nat} (h : m ≤ n + 1 + f) : m ≤ n + (f + 1) := by rw [Nat.add_comm f, ← c1k]; exact h
theorem na7 (h : i < j) (e : i ≠ j - 1) : i < j - 1 := c3p (c3q h) e
theorem na8 (h : i < j) : j - 1 < j := Nat.sub_lt (c0a (c0m _) h) Nat.one_pos
theorem b1N {l r : Nat} (h : ¬ l ≥ r) : l ≤ (l + r) / 2 := (Nat.le_div_iff_mul_le (by decide)).mpr (by rw [Nat.mul_two]; exact Nat.add_le_add_left (Nat.le_of_lt (Nat.lt_of_not_ge h)) l)
theorem b1r {l r : Nat} (h : ¬ l ≥ r) : (l + r) / 2 < r := (Nat.div_lt_iff_lt_mul (by decide)).mpr (by rw [Nat.mul_two]; exact Nat.add_lt_add_right (Nat.lt_of_not_ge h) r)
theorem b4n {l r f : Nat} (h : ¬ l ≥ r) (k : r - l ≤ f + 1) : (l + r) / 2 - l ≤ f := c1T (c0t (Nat.sub_lt_sub_right (b1N h) (b1r h)) k)
theorem b4Y {l r f : Nat} (h : ¬ l ≥ r) (k : r - l ≤ f + 1) : r - ((l + r) / 2 + 1) ≤ f := b9W (Nat.sub_le_sub_left (Nat.succ_le_succ (b1N h)) r) (by rw [Nat.succ_eq_add_one, Nat.sub_add_eq]; exact Nat.sub_le_of_le_add k)
theorem b0D {l r : Nat} (h : l ≤ r) (k : r - l ≤ 0) : l = r := c1D h (Nat.sub_eq_zero_iff_le.mp (Nat.le_zero.mp k))
structure Tot (lt : Nat → Nat → Bool) (N : Nat) : Prop where
 tr : ∀ a b c, a < N → b < N → c < N → lt a b = true → lt b c = true → lt a c = true
 tot : ∀ a b, a < N → b < N → a ≠ b → lt a b = false → lt b a = true
theorem Up.snoc {p : Array Nat} {m : Nat} (T : Tot lt N) (hp : PermN N p) (h : Up lt p m) (hm : m < N) (hl : 1 ≤ m → lt (pk p (m - 1)) (pk p m) = true) : Up lt p (m + 1) := by
 intro i j hij hj
 by_cases e : j < m
 ·exact h i j hij e
 obtain rfl : j = m := c1D (c1T hj) (c3r e)
 have h1 := c0a (c0m i) hij
 by_cases e2 : i = j - 1
 ·rw [e2]; exact hl h1
 ·exact T.tr _ (pk p (j - 1)) _ (hp.ltN (b9V hij hm)) (hp.ltN (na3 hm)) (hp.ltN hm) (h i (j - 1) (na7 hij e2) (na8 hij)) (hl h1)
theorem Dn.snoc {p : Array Nat} {m : Nat} (T : Tot lt N) (hp : PermN N p) (h : Dn lt p m) (hm : m < N) (hl : 1 ≤ m → lt (pk p m) (pk p (m - 1)) = true) : Dn lt p (m + 1) := by
 intro i j hij hj
 by_cases e : j < m
 ·exact h i j hij e
 obtain rfl : j = m := c1D (c1T hj) (c3r e)
 have h1 := c0a (c0m i) hij
 by_cases e2 : i = j - 1
 ·rw [e2]; exact hl h1
 ·exact T.tr _ (pk p (j - 1)) _ (hp.ltN hm) (hp.ltN (na3 hm)) (hp.ltN (b9V hij hm)) (hl h1) (h i (j - 1) (na7 hij e2) (na8 hij))
theorem b1b (T : Tot lt N) (hc : ∀ i j (C : Bool → Shared → Prop), i < N → j < N → i ≠ j → C (lt i j) s → cmp i j C s) {p : Array Nat} (hp : PermN N p) {Q : Nat → Shared → Prop} : ∀ (f n : Nat), 1 ≤ n → n + f ≤ N → Up lt p n → (∀ m, n ≤ m → m ≤ n + f → Up lt p m → (m < n + f → lt (pk p m) (pk p (m - 1)) = true) → Q m s) → (kas_asc p f n).kasWp cmp Q s := by
 intro f; induction f with
 | zero => intro n h1 hf hu k; exact k n (b9K _) (b9K _) hu fun h => absurd h (c0g _)
 | succ f ih =>
  intro n h1 hf hu k
  have b1 := na1 hf
  have b2 := na3 b1
  have b3 := na4 h1
  refine hc _ _ _ (hp.ltN b1) (hp.ltN b2) (hp.inj b1 b2 b3) ?_
  cases e : lt (pk p n) (pk p (n - 1)) with
  | true =>
   dsimp only
   (try rw [if_pos rfl])
   exact k n (b9K _) (c0y _ _) hu fun _ => e
  | false =>
   dsimp only
   (try rw [if_neg (by simp)])
   have hl := T.tot _ _ (hp.ltN b1) (hp.ltN b2) (hp.inj b1 b2 b3) e
   exact ih (n + 1) (c3A h1) (na2 hf) (hu.snoc T hp b1 fun _ => hl) fun m a b c d => k m (c3E a) (na5 b) c fun h => d (by rw [c1k, Nat.add_comm 1]; exact h)
theorem b1K (T : Tot lt N) (hc : ∀ i j (C : Bool → Shared → Prop), i < N → j < N → i ≠ j → C (lt i j) s → cmp i j C s) {p : Array Nat} (hp : PermN N p) {Q : Array Nat × Nat × Nat → Shared → Prop} : ∀ (f n : Nat), 1 ≤ n → n + f ≤ N → Dn lt p n → (∀ m, n ≤ m → m ≤ n + f → Dn lt p m → Q (p, m, 0) s) → (kas_desc f p n 0).kasWp cmp Q s := by
 intro f; induction f with
 | zero => intro n h1 hf hu k; exact k n (b9K _) (b9K _) hu
 | succ f ih =>
  intro n h1 hf hu k
  have b1 := na1 hf
  have b2 := na3 b1
  have b3 := na4 h1
  refine hc _ _ _ (hp.ltN b1) (hp.ltN b2) (hp.inj b1 b2 b3) ?_
  cases e : lt (pk p n) (pk p (n - 1)) with
  | true =>
   dsimp only
   (try rw [if_pos rfl])
   rw [if_neg (c2b _)]
   exact ih (n + 1) (c3A h1) (na2 hf) (hu.snoc T hp b1 fun _ => e) fun m a b c => k m (c3E a) (na5 b) c
  | false =>
   dsimp only
   (try rw [if_neg (by simp)])
   have hl := T.tot _ _ (hp.ltN b1) (hp.ltN b2) (hp.inj b1 b2 b3) e
   refine hc _ _ _ (hp.ltN b2) (hp.ltN b1) (hp.inj b2 b1 b3.symm) ?_
   rw [hl]
   dsimp only
   (try rw [if_pos rfl])
   exact k n (b9K _) (c0y _ _) hu
theorem a6z {p : Array Nat} (hp : PermN N p) (i j : Nat) : PermN N (kas_rev p i j) := (Array.perm_iff_toList_perm.mp (mirror_perm _ _ _ _)).trans hp
theorem b3s {p : Array Nat} (hp : PermN N p) (hn : n ≤ N) (h : Dn lt p n) : Up lt (kas_rev p 0 n) n := by
 have e : ∀ k, k < n → pk (kas_rev p 0 n) k = pk p (n - 1 - k) := fun k hk => by
  refine b0Y ?_
  have := getElem?_mirror_all (xs := p) (i := 0) (j := n) (by rw [hp.size]; exact hn) k
  rw [if_pos ⟨c0m _, hk⟩, c1J] at this
  exact this
 intro i j hij hj
 have h1 : n - 1 < n := na8 hj
 rw [e i (b9V hij hj), e j hj]
 exact h _ _ (Nat.sub_lt_sub_left (c0t hij (c3q hj)) hij) (c0a (c1m _ _) h1)
theorem b0u (T : Tot lt N) (hc : ∀ i j (C : Bool → Shared → Prop), i < N → j < N → i ≠ j → C (lt i j) s → cmp i j C s) {p : Array Nat} (hp : PermN N p) (h1 : 1 ≤ n) (hn : n ≤ N) (hd : Dn lt p n) {Q : Nat × Array Nat → Shared → Prop} (k : ∀ m p', 1 ≤ m → m ≤ N → PermN N p' → Up lt p' m → Q (m, p') s) : (kas_tail3 n N p).kasWp cmp Q s := by
 unfold kas_tail3
 rw [c2L]
 have e : n + (N - n) = N := c3F hn
 exact b1b T hc (a6z hp 0 n) _ _ h1 (c0o e) (b3s hp hn hd) fun m a b c _ => k m _ (b9W h1 a) (e ▸ b) (a6z hp 0 n) c
theorem b0g (T : Tot lt N) (hc : ∀ i j (C : Bool → Shared → Prop), i < N → j < N → i ≠ j → C (lt i j) s → cmp i j C s) {p : Array Nat} (hp : PermN N p) (hN : 1 ≤ N) {Q : Nat × Array Nat → Shared → Prop} (k : ∀ m p', 1 ≤ m → m ≤ N → PermN N p' → Up lt p' m → Q (m, p') s) : (kas_count N p).kasWp cmp Q s := by
 unfold kas_count
 rw [c2L]
 have e1N : 1 + (N - 1) = N := c3F hN
 refine b1b T hc hp _ _ (b9K _) (c0o e1N) (fun i j a b => absurd (c0t a (c1T b)) (c2b _)) fun m a b c d => ?_
 rw [e1N] at b d
 by_cases e : (m == N) = true
 ·rw [if_pos e]
  exact k m p a b hp c
 rw [if_neg e]
 have hmN : m < N := c3p b fun q => e (by rw [q]; exact beq_self_eq_true _)
 by_cases e2 : m > 1
 ·rw [if_pos e2]
  have h1 := c0t Nat.zero_lt_one hN
  refine hc _ _ _ (hp.ltN h1) (hp.ltN (na3 hmN)) (hp.inj h1 (na3 hmN) (b9v (c3G e2))) ?_
  rw [show lt (pk p 0) (pk p (m - 1)) = true from c 0 (m - 1) (c3G e2) (na8 e2)]
  dsimp only
  (try rw [if_pos rfl])
  exact k m p a b hp c
 ·rw [if_neg e2]
  obtain rfl : m = 1 := c1D (c3r e2) a
  unfold kas_descPart
  rw [c2L]
  have e2N : 1 + 1 + (N - (1 + 1)) = N := c3F hmN
  refine b1K T hc hp _ _ (by decide) (c0o e2N) (fun i j a b => ?_) fun m2 a2 b2 c2 => ?_
  ·obtain rfl : j = 1 := c1D (c1T b) (c0a (c0m i) a)
   obtain rfl : i = 0 := Nat.lt_one_iff.mp a
   exact d hmN
  ·dsimp only
   rw [if_neg (c0g 0)]
   exact b0u T hc hp (c3E a2) (e2N ▸ b2) c2 k
theorem b0R (T : Tot lt N) (hc : ∀ i j (C : Bool → Shared → Prop), i < N → j < N → i ≠ j → C (lt i j) s → cmp i j C s) {p : Array Nat} (hp : PermN N p) {x : Nat} (hx : x < N) (hu : Up lt p x) {Q : Nat → Shared → Prop} : ∀ (f l r : Nat), l ≤ r → r ≤ x → r - l ≤ f → (∀ i, i < l → lt (pk p i) (pk p x) = true) → (∀ i, r ≤ i → i < x → lt (pk p x) (pk p i) = true) →
  (∀ l, l ≤ x → (∀ i, i < l → lt (pk p i) (pk p x) = true) → (∀ i, l ≤ i → i < x → lt (pk p x) (pk p i) = true) → Q l s) → (kas_place p x f l r).kasWp cmp Q s := by
 intro f; induction f with
 | zero => intro l r h1 h2 h3 a b k; exact k l (b9W h1 h2) a fun i hi => b i (b0D h1 h3 ▸ hi)
 | succ f ih =>
  intro l r h1 h2 h3 a b k
  unfold kas_place
  by_cases e : l ≥ r
  ·rw [if_pos e]
   exact k l (b9W h1 h2) a fun i hi => b i (b9W e hi)
  ·rw [if_neg e]
   have mx := c0t (b1r e) h2
   have mN := b9V mx hx
   have mn := b9F mx
   refine hc _ _ _ (hp.ltN hx) (hp.ltN mN) (hp.inj hx mN mn) ?_
   cases e2 : lt (pk p x) (pk p ((l + r) / 2)) with
   | true =>
    dsimp only
    (try rw [if_pos rfl])
    refine ih _ _ (b1N e) (Nat.le_of_lt mx) (b4n e h3) a (fun i hi hi2 => ?_) k
    by_cases e3 : i = (l + r) / 2
    ·rw [e3]; exact e2
    ·exact T.tr _ (pk p ((l + r) / 2)) _ (hp.ltN hx) (hp.ltN mN) (hp.ltN (b9V hi2 hx)) e2 (hu _ _ (c3p hi (b9A e3)) hi2)
   | false =>
    dsimp only
    (try rw [if_neg (by simp)])
    have hl := T.tot _ _ (hp.ltN hx) (hp.ltN mN) (hp.inj hx mN mn) e2
    refine ih _ _ (b1r e) h2 (b4Y e h3) (fun i hi => ?_) b k
    by_cases e3 : i = (l + r) / 2
    ·rw [e3]; exact hl
    ·have q := c3p (c1T hi) e3
     exact T.tr _ (pk p ((l + r) / 2)) _ (hp.ltN (b9V q mN)) (hp.ltN mN) (hp.ltN hx) (hu _ _ q mx) hl
theorem b3g (T : Tot lt N) (hc : ∀ i j (C : Bool → Shared → Prop), i < N → j < N → i ≠ j → C (lt i j) s → cmp i j C s) {Q : Array Nat → Shared → Prop} (k : ∀ p', PermN N p' → Up lt p' N → Q p' s) : ∀ (f : Nat) (p : Array Nat) (x : Nat), f + x = N → PermN N p → Up lt p x → (kas_bin f p x).kasWp cmp Q s := by
 intro f; induction f with
 | zero => intro p x h hp hu; exact k p hp (by rw [← h, c1J]; exact hu)
 | succ f ih =>
  intro p x h hp hu
  show ((kas_place p x x 0 x).bind fun l => kas_bin f (bubble p x (x - l)) (x + 1)).kasWp cmp Q s
  rw [c2L]
  have hx : x < N := h ▸ Nat.lt_add_of_pos_left (Nat.succ_pos f)
  refine b0R T hc hp hx hu _ _ _ (c0m _) (b9K _) (c1m _ _) (fun i hi => absurd hi (c2b _)) (fun i hi hi2 => absurd hi2 (Nat.not_lt_of_le hi)) fun l hl a b => ?_
  have hb : PermN N (bubble p x (x - l)) := (Array.perm_iff_toList_perm.mp (bubble_perm _ _ _)).trans hp
  have hg : ∀ i, pk (bubble p x (x - l)) i = if i = l then pk p x else if l < i ∧ i ≤ x then pk p (i - 1) else pk p i := fun i => by
   have e := getElem?_bubble (xs := p) (src := x) (by rw [hp.size]; exact hx) (x - l) (c1m _ _) i
   rw [Nat.sub_sub_self hl] at e
   by_cases e1 : i = l
   ·rw [if_pos e1] at e ⊢; exact b0Y e
   ·rw [if_neg e1] at e ⊢
    by_cases e2 : l < i ∧ i ≤ x
    ·rw [if_pos e2] at e ⊢; exact b0Y e
    ·rw [if_neg e2] at e ⊢; exact b0Y e
  refine ih _ (x + 1) (by rw [Nat.add_comm x, ← c1k]; exact h) hb fun i j hij hj => ?_
  rw [hg i, hg j]
  rcases Nat.lt_trichotomy j l with q | q | q
  ·have qi := b9V hij q
   rw [if_neg (b9v qi), if_neg (fun z => c2F qi z.1), if_neg (b9v q), if_neg (fun z => c2F q z.1)]
   exact hu _ _ hij (c0t q hl)
  ·have qi : i < l := q ▸ hij
   rw [if_neg (b9v qi), if_neg (fun z => c2F qi z.1), if_pos q]
   exact a _ qi
  ·have qx := c1T hj
   have j1 := c0t (na8 q) qx
   have l1 := c3q q
   rw [if_neg (b9F q), if_pos (And.intro q qx)]
   rcases Nat.lt_trichotomy i l with r | r | r
   ·rw [if_neg (b9v r), if_neg (fun z => c2F r z.1)]
    exact hu _ _ (c0t r l1) j1
   ·rw [if_pos r]
    exact b _ l1 j1
   ·rw [if_neg (b9F r), if_pos (And.intro r (b9W (Nat.le_of_lt hij) qx))]
    exact hu _ _ (Nat.sub_lt_sub_right (c0a (c0m l) r) hij) j1
theorem b1q (T : Tot lt N) (hc : ∀ i j (C : Bool → Shared → Prop), i < N → j < N → i ≠ j → C (lt i j) s → cmp i j C s) (hN : 1 ≤ N) {Q : Array Nat → Shared → Prop} (k : ∀ p', PermN N p' → Up lt p' N → Q p' s) : (kas_sort N).kasWp cmp Q s := by
 unfold kas_sort
 rw [c2L]
 refine b0g T hc (show PermN N _ by unfold PermN; rw [c2V]) hN fun m p' a b c d => ?_
 dsimp only
 by_cases e : m < N
 ·rw [if_pos e]
  rw [Nat.max_eq_left a]
  exact b3g T hc k _ _ _ (Nat.sub_add_cancel b) c d
 ·rw [if_neg e]
  obtain rfl : m = N := c1D b (c3r e)
  exact k p' c d
end
section
inductive TupIs (news : Led) : List Value → List (b9p × Int) → Prop
 | nil : TupIs news [] []
 | cons {a : Addr} {x : b9p} {n : Int} {t t' : Tok} {vs : List Value} {ps : List (b9p × Int)} (h : (a, ({ cls := .type "tuple", data := .seq #[.str x t, .int n t'] } : Obj)) ∈ news) (r : TupIs news vs ps) : TupIs news (.ref a :: vs) ((x, n) :: ps)
theorem TupIs.mono (k : ∀ p ∈ news, p ∈ news') (h : TupIs news vs ps) : TupIs news' vs ps := by
 induction h with
 | nil => exact .nil
 | cons h _ ih => exact .cons (k _ h) ih
theorem TupIs.length (h : TupIs news vs ps) : vs.length = ps.length := by
 induction h with
 | nil => rfl
 | cons _ _ ih => rw [c1X, c1X, ih]
theorem TupIs.snoc (h : TupIs news vs ps) {a : Addr} {n : Int} {t' : Tok} (hm : (a, ({ cls := .type "tuple", data := .seq #[.str x t, .int n t'] } : Obj)) ∈ news) : TupIs news (vs ++ [.ref a]) (ps ++ [(x, n)]) := by
 induction h with
 | nil => exact .cons hm .nil
 | cons h _ ih => exact .cons h ih
theorem TupIs.get (h : TupIs news vs ps) : ∀ {i : Nat}, i < vs.length → ∃ a x n t t', vs.getD i .none = .ref a ∧ ps[i]? = some (x, n) ∧ (a, ({ cls := .type "tuple", data := .seq #[.str x t, .int n t'] } : Obj)) ∈ news := by
 induction h with
 | nil => intro i hi; simp at hi
 | cons h r ih =>
  intro i hi
  cases i with
  | zero => exact ⟨_, _, _, _, _, rfl, rfl, h⟩
  | succ i => simpa using ih (by simpa using hi)
theorem TupIs.dat (h : TupIs news vs ps) : DatAll news vs (ps.map fun p => .tuple [.str p.1, .int p.2]) := by
 induction h with
 | nil => exact .nil
 | cons h _ ih => exact .cons (.tuple (vs := [_, _]) h (.cons (.str _ _) (.cons (.int _ _) .nil))) ih
theorem TupIs.pick (h : TupIs news vs ps) {l : List Nat} (k : ∀ i ∈ l, i < vs.length) : TupIs news (l.map fun i => vs.getD i .none) (l.map fun i => ps.getD i (b9Y, 0)) := by
 induction l with
 | nil => exact .nil
 | cons i l ih =>
  obtain ⟨a, x, n, t, t', e, e2, hm⟩ := h.get (k i (.head _))
  rw [c0B, c0B, e, c0I, e2]
  exact .cons hm (ih fun j hj => k j (.tail _ hj))
theorem TupIs.firsts (N : News h₀ L h news) (x : TupIs news vs ps) : ∃ fs, KatTups h vs fs ∧ StrsAre fs (ps.map (·.1)) := by
 induction x with
 | nil => exact ⟨[], KatTups.nil, .nil⟩
 | cons m _ ih =>
  obtain ⟨fs, a, b⟩ := ih
  exact ⟨_, KatTups.cons (N _ m).1 rfl rfl rfl a, .cons _ _ b⟩
variable {w : World} {A : Around} {E : Value → Shared → Prop} {s : Shared} {h₀ : Heap} {L D : Addr} {m : b9p → Option Value} {news : Led} {n : Nat} {vs : List Value} {ps : List (b9p × Int)} {Q : Value → Shared → Prop}
noncomputable abbrev a5P (ps : List (b9p × Int)) (i j : Nat) : Bool := decide ((ps.getD i (b9Y, 0)).1.cps.toList < (ps.getD j (b9Y, 0)).1.cps.toList)
theorem a9Y (hd : (ps.map (·.1)).Nodup) : Tot (a5P ps) ps.length := by
 revert cl9 ps
 intros hd
 have mk9 : a0b := trivial
 refine ⟨fun a b c _ _ _ h1 h2 => ?_, fun a b ha hb hn h => ?_⟩
 ·simp only [a5P, decide_eq_true_eq] at *
  exact List.lt_trans h1 h2
 ·simp only [a5P, decide_eq_true_eq, decide_eq_false_iff_not] at *
  refine c3N fun h2 => hn ?_
  have e := List.le_antisymm (List.not_lt.mp h2) (List.not_lt.mp h)
  have e1 : (ps.getD a (b9Y, 0)).1 = (ps.getD b (b9Y, 0)).1 := a1h e
  have ga : (ps.map (·.1))[a]'(by rw [b9z]; exact ha) = (ps.getD a (b9Y, 0)).1 := by simp [c0I, ha]
  have gb : (ps.map (·.1))[b]'(by rw [b9z]; exact hb) = (ps.getD b (b9Y, 0)).1 := by simp [c0I, hb]
  exact (c1P hd).mp (ga.trans (e1.trans gb.symm))
theorem a8C (F : Fr h₀ L s.heap m) (N : News h₀ L s.heap ((D, listOf vs.toArray n) :: news)) (hn : ∀ q ∈ news, q.1 ≠ D) (hT : TupIs news vs ps) (hd : (ps.map (·.1)).Nodup) (h64 : vs.length < 64) (h1 : 1 ≤ vs.length) (h : ∀ vs' ps' c h', Fr h₀ L h' m → News h₀ L h' ((D, listOf (c0x vs') c) :: news) → TupIs news vs' ps' → ps'.Perm ps → sortedS (ps'.map (·.1)) = true → Q .none { s with heap := h' }) :
  wpAny (model b9u.prog w) A (call (.builtin "list.sort") [.ref D]) Q E s := by
 revert cl9 w A E s h₀ L D m news n vs ps Q
 intros F N hn hT hd h64 h1 h
 have hlp := hT.length
 by_cases h2 : 2 ≤ vs.length
 ·refine kat_lsort (its := vs.toArray) (n := n) F N (.head hn) rfl h2 h64 fun e1 h' F' N' => ?_
  have N2 : News h₀ L h' news := fun p hp => N' p (.tail _ hp)
  obtain ⟨fs, hK, hF⟩ := hT.firsts N2
  refine kat_kind (s := { s with heap := h' }) (T := .type "str") hK (by have := hF.length; rw [b9z] at this; omega) (fun v hv => ?_) rfl ?_
  ·obtain ⟨x, t, rfl⟩ := hF.all v hv
   exact Looks.of_pure rfl
  ·rw [hlp]
   refine b1q (lt := a5P ps) (a9Y hd) (fun i j C hi hj hij hC => ?_) (by omega) fun p' hp hu => ?_
   ·obtain ⟨a, x, nx, t1, t2, e1, e2, m1⟩ := hT.get (by omega : i < vs.length)
    obtain ⟨b, y, ny, t3, t4, e3, e4, m2⟩ := hT.get (by omega : j < vs.length)
    have hxy : x ≠ y := fun e => by
     have ga : (ps.map (·.1))[i]? = some x := by rw [c0s, e2]; rfl
     have gb : (ps.map (·.1))[j]? = some y := by rw [c0s, e4]; rfl
     obtain ⟨g1, g2⟩ := List.getElem?_eq_some_iff.mp ga
     obtain ⟨g3, g4⟩ := List.getElem?_eq_some_iff.mp gb
     exact hij ((c1P hd).mp (g2.trans (e.trans g4.symm)))
    have hl : a5P ps i j = decide (x.cps.toList < y.cps.toList) := by
     unfold a5P
     rw [c0I, c0I, e2, e4]
     rfl
    rw [hl] at hC
    unfold kas_ask
    rw [e1, e3]
    refine kat_lt (N2 _ m1).1 rfl (N2 _ m2).1 rfl ?_
    refine kat_cons (eqBool_str ?_)
    rw [show (x == y) = false from by simp [hxy]]
    refine kat_no ?_
    exact oneLt_str hC
   ·have hval : ∀ i ∈ p'.toList, i < vs.length := fun i hi => by rw [hlp]; exact c3i.mp (hp.mem_iff.mp hi)
    refine KasFin.intro F' N' (.head hn) fun h'' c F'' N'' => ?_
    refine h _ (p'.toList.map fun i => ps.getD i (b9Y, 0)) c h'' F'' N'' (hT.pick hval) ((hp.map _).trans (List.Perm.of_eq ?_)) ?_
    ·refine c2a (by simp) fun i g1 g2 => ?_
     simp [c0I, g2]
    ·refine sortedS_of_pairwise _ ?_
     rw [List.pairwise_iff_getElem]
     intro i j hi hj hij
     rw [b9z, b9z, c0e, hp.size] at hi hj
     have hu2 := hu i j hij hj
     have g : ∀ k (hk : k < ((p'.toList.map fun i => ps.getD i (b9Y, 0)).map (·.1)).length), ((p'.toList.map fun i => ps.getD i (b9Y, 0)).map (·.1))[k] = (ps.getD (pk p' k) (b9Y, 0)).1 := fun k hk => by
      rw [c1B, c1B]
      have hk2 : k < p'.size := by simpa using hk
      congr 2
      simp [pk, Array.getD, hk2]
     rw [g, g]
     simp only [a5P, decide_eq_true_eq] at hu2
     simp only [ltCps_eq, decide_eq_false_iff_not]
     exact fun z => List.lt_irrefl _ (List.lt_trans hu2 z)
 ·obtain ⟨v, rfl⟩ : ∃ v, vs = [v] := by
   match vs, h1, h2 with
   | [v], _, _ => exact ⟨v, rfl⟩
   | _ :: _ :: _, _, h2 => simp at h2
  have z := N _ (.head _)
  have ho : s.heap.get? D = some (seqObj "list" #[v] n) := z.1
  have ha : D < s.heap.objs.size := b9x ho
  refine c0G c3X ⟨_, z.1, rfl⟩ c3Y ?_ (c3Z _)
  rw [list_sort_plain]
  refine wpAny_bind (listItems_at ho rfl ?_)
  refine wpAny_bind (listUpdate_at ho rfl ?_)
  obtain ⟨e1, ho1⟩ : ∃ e1, (s.heap.update D (c0T fun _ => #[])).get? D = some (seqObj "list" #[] e1) := ⟨_, get?_update_seq ho (fun _ => #[])⟩
  refine wpAny_bind (seqEpoch_at ho1 rfl ?_)
  refine wpAny_bind (wpAny_newTuple ?_)
  refine wpAny_bind (wpAny_newList ?_)
  refine wpAny_holding ?_
  have ho6 : (((s.heap.update D (c0T fun _ => #[])).push (seqObj "tuple" #[v] 0)).push (seqObj "list" #[] 0)).get? D = some (seqObj "list" #[] e1) := by
   rw [Heap.get?_push_ne _ _ _ (by rw [size_push', Heap.size_update]; exact b9v (b9N ha)), Heap.get?_push_ne _ _ _ (by rw [Heap.size_update]; exact b9v ha)]
   exact ho1
  show wpAny (model b9u.prog w) A.in1 _ _ E { s with heap := ((s.heap.update D (c0T fun _ => #[])).push (seqObj "tuple" #[v] 0)).push (seqObj "list" #[] 0) }
  dsimp only
  have h3 : (c0x [v]).size < 2 := by simp
  rw [if_pos h3, if_pos h3]
  refine wpAny_bind (wpAny_pure ?_)
  rw [StateT.run_pure]
  refine wpAny_bind (wpAny_pure ?_)
  dsimp only
  have hsnd : (arrOf (SortSt.mk' general' (#[v].zip #[v]) #[] 7 none)).map (·.2) = #[v] := by
   show (#[v].zip #[v]).map (·.2) = #[v]
   simp
  rw [hsnd]
  refine wpAny_bind (seqEpoch_at ho6 rfl ?_)
  refine wpAny_bind (listUpdate_at ho6 rfl ?_)
  simp only [bne_self_eq_false, c0w, if_false]
  have S2 := c0n (((s.heap.update D (c0T fun _ => #[])).push (seqObj "tuple" #[v] 0)).push (seqObj "list" #[] 0)) D (c0T fun _ => #[v])
  obtain ⟨c, hc⟩ := sortedHeap_at (vs := [v]) (out := #[v]) ho
  have F4 : Fr h₀ L (sortedHeap s.heap D [v] #[v]) m :=
   ksk_fr (((ksk_fr F (c0n s.heap D (c0T fun _ => #[])) z.2.1 z.2.2).push (seqObj "tuple" #[v] 0)).push (seqObj "list" #[] 0)) (c0n _ D (c0T fun _ => #[v])) z.2.1 z.2.2
  refine wpAny_pure ⟨.none, rfl, h [v] ps c _ F4 (fun p hp => ?_) hT (.refl _) ?_⟩
  ·rcases b9r.mp hp with rfl | hp
   ·exact ⟨hc, z.2⟩
   ·have y := N p (.tail _ hp)
    exact ⟨(sortedHeap_old (hn p hp) (b9x y.1)).trans y.1, y.2⟩
  ·cases hT with
   | cons _ r =>
    cases r
    rfl
theorem a7Q {lo : Addr} {C : List Value → Led → Prop} (hI : StrInts kvs bs) : ∀ {vs : List Value} {tups : Led} {done : List (b9p × Int)}, TupIs tups vs done → (∀ p ∈ tups, ∀ q ∈ news, @b9w Nat _ q.1 p.1) →
  (∀ vs' tups', TupIs tups' vs' (done ++ bs) → (∀ p ∈ tups', ∀ q ∈ news, @b9w Nat _ q.1 p.1) → C vs' tups') → KdxOpen lo news (kvs.map fun p => (kyVal (.str p.1), p.2)) vs tups C := by
 induction hI with
 | nil => intro vs tups done hT hl k; exact KdxOpen.nil (k vs tups (by rw [c0k]; exact hT) hl)
 | cons x v t _ ih =>
  intro vs tups done hT hl k
  refine KdxOpen.cons fun a t' h1 h2 h3 => ?_
  refine ih (done := done ++ [(x, v)]) ((hT.mono fun p hp => .tail _ hp).snoc (.head _)) (fun p hp q hq => ?_) (fun vs' tups' hT' hl' => k vs' tups' (by rw [c0M] at hT'; exact hT') hl')
  rcases b9r.mp hp with rfl | hp
  ·exact h2 q hq
  ·exact hl p hp q hq
theorem a4T {v d : Addr} (hh : A.handled = none) (F : Fr h₀ L s.heap m) (N : News h₀ L s.heap news) (hvw : (v, ({ cls := .type "dict_items", data := .fields #[.ref d] } : Obj)) ∈ news) (hmd : (d, od) ∈ news) (hod : od.IsDictOf (kS w) kvs) (hI : StrInts kvs bs) (hn : bs.length ≤ 60) (h1 : 1 ≤ bs.length) (h : ∀ (D : Addr) c vs ps add h' tk, TupIs (add ++ news) vs ps → ps.Perm bs → sortedS (ps.map (·.1)) = true → (∀ p ∈ add, ∀ q ∈ news, @b9w Nat _ q.1 p.1) → Fr h₀ L h' m → News h₀ L h' ((D, listOf (c0x vs) c) :: (add ++ news)) → (∀ q ∈ add ++ news, q.1 < D) → Q (.ref D) { s with heap := h', toks := tk }) :
  wpAny (model b9u.prog w) A (call (.builtin "sorted") [.ref v]) Q E s := by
 have hnd : (bs.map (·.1)).Nodup := by
  rw [← hI.keys]
  obtain ⟨_, _, _, _, _, _, h⟩ := hod
  exact h
 have hlk : kvs.length = bs.length := by have := congrArg c0N hI.keys; rwa [b9z, b9z] at this
 refine kdx_sortedN (knd := kS w) (enc := fun x => .str x) hh F N hvw hmd hod (by omega) (fun k v hk => c2T (show Value.isStrOf k v = true from hk)) rfl fun lo hlo => ?_
 refine a7Q (done := []) hI .nil (fun _ h => nomatch h) fun vs tups hT hlt B h' tk hB F' N' => ?_
 rw [c0c] at hT
 have hl := hT.length
 refine a8C F' N' (fun q hq => b9v (hB q hq)) (hT.mono fun p hp => b9G _ hp) hnd (by omega) (by omega) fun vs' ps' c h'' F'' N'' hT' hp hs => ?_
 exact h B c vs' ps' tups h'' tk hT' hp hs hlt F'' N'' hB
end
theorem era_Zg : True := trivial
noncomputable def FnD (w : World) (G : Gl) (hd : Option Value) (f : Addr) (d u : Nat) (vs : List Value) (news : Led) (R : Value → Led → Prop) : Prop :=
 ∀ (dp un : Nat) (gd : Option (List Code)) (cn : b9p) (cs : Scope) (a : Addr) (ccd : Value) (cl : List (b9p × Addr)) (outer : List Env) (A₀ : Around) (base h₀ : Heap) (L : Addr) (m : b9p → Option Value) (s : Shared) (Q E : Value → Shared → Prop),
  Below A₀ base outer h₀ → Fr h₀ L s.heap m → (K w.params).In base → News h₀ L s.heap news → Top G.p G.loose G.mean G.mg G.mb base → cs.kind = .function → dp + d < recursionLimit → un + u < cLine →
  (∀ v news' h' tk' dr', R v news' → Fr h₀ L h' m → News h₀ L h' news' → Q v { s with heap := h', toks := tk', drawn := dr' }) →
  wpAny (model b9u.prog w) (a9r hd dp un gd cn cs L a ccd cl outer) (call (.ref f) vs) Q E s
theorem FnD.use {p : Program} {f : Addr} {d u : Nat} {R : Value → Led → Prop} {a : Addr} (C : FnD w ⟨p, loose, mean, mg, mb⟩ hd f d u vs news R) (B : Below A₀ base outer h₀) (F : Fr h₀ L s.heap m) (X : (K w.params).In base) (N : News h₀ L s.heap news) (T : Top p loose mean mg mb base) (hk : cs.kind = .function) (hdp : dp + d < recursionLimit) (hun : un + u < cLine) (h : ∀ (h' : Heap) (tk' : Nat) (dr' : Drawn) (C' : Value → Led → Prop), (C' = fun v n => Fr h₀ L h' m → News h₀ L h' n → Q v { s with heap := h', toks := tk', drawn := dr' }) → ∀ v n, R v n → C' v n) :
  wpAny (model b9u.prog w) (a9r hd dp un gd cn cs L a ccd cl outer) (call (.ref f) vs) Q E s := C _ _ _ _ _ _ _ _ _ _ _ _ _ _ _ _ _ B F X N T hk hdp hun fun v n h' tk' dr' r => h h' tk' dr' _ rfl v n r
theorem b4e : True := by
 k_with "Zg:call ref" => (k_here; ((with_reducible show wpAny _ _ (call (b9t 721) _) _ _ _); k_dflt (refine' Fn.use (a0J (by k_asm)) ?k1 ?k2 ?k3 ?k4 ?k5 ?k6 ?k7 ?k8 ?_); (case k4 => k_extra "g:k4"); k_extra "g:c1"; k_extra "g:c2"; obtain ⟨uE, rfl, rfl⟩ := hR'; (try clear hR'); k_extra "g:c3"; k_extra "g:c4"))
 k_with "Zg:call ref" => (k_here; ((with_reducible show wpAny _ _ (call (b9t 728) _) _ _ _); k_dflt (refine' Fn.use (a0E (by k_asm)) ?k1 ?k2 ?k3 ?k4 ?k5 ?k6 ?k7 ?k8 ?_); (case k4 => k_extra "g:k4"); k_extra "g:c1"; k_extra "g:c2"; obtain ⟨rfl, rfl⟩ := hR'; (try clear hR'); k_extra "g:c3"; k_extra "g:c4"))
 k_with "Zg:call ref" => (k_here; ((with_reducible show wpAny _ _ (call (b9t 747) _) _ _ _); k_dflt (refine' Fn.use (a4a (by k_asm) ?off ?off2 (by k_asm) (by k_asm)) ?k1 ?k2 ?k3 ?k4 ?k5 ?k6 ?k7 ?k8 ?_); (case k4 => first | exact a6q (by assumption) | k_extra "g:k4"); (case off => k_extra "g:off"); (case off2 => k_extra "g:off"); k_extra "g:c1"; k_extra "g:c2"; obtain ⟨uC, soC, boC, rfl, rfl, hLC⟩ := hR'; (try clear hR'); k_extra "g:c3"; k_extra "g:c4"))
 trivial
theorem a6q {c : Addr × Obj} {l : Led} (N : News h₀ L h (d :: a :: b :: c :: l)) : News h₀ L h (a :: b :: c :: d :: l) := fun p hp => N p (by
 simp only [b9r] at hp ⊢
 rcases hp with h | h | h | h | h
 ·exact .inr (.inl h)
 ·exact .inr (.inr (.inl h))
 ·exact .inr (.inr (.inr (.inl h)))
 ·exact .inl h
 ·exact .inr (.inr (.inr (.inr h))))
theorem a4t {c : Addr × Obj} {l : Led} (N : News h₀ L h (a :: b :: c :: d :: l)) : News h₀ L h (a :: b :: c :: l) := nc (N _ (.head _)) (nc (N _ mt1) (nc (N _ mt2) fun p hp => N p (tl4 hp)))
noncomputable def b2D (w : World) (ST SB SU : Addr) (news : Led) (R : List (b9p × Int) → Int → List b9p → b9p → Prop) (v : Value) (n : Led) : Prop :=
 ∃ u so' bo' SU' uo' bs' nxt' subs' code, v = .str code u ∧ n = (ST, so') :: (SB, bo') :: (SU', uo') :: news ∧ (SU' = SU ∨ ∀ q ∈ news, q.1 ≠ SU') ∧ a6P w ST SB SU' so' bo' uo' bs' subs' nxt' ∧ R bs' nxt' subs' code
theorem a8p {A : Addr} (hk : a6P w ST SB SU so bo uo bs subs nxt) (hoff : ∀ q ∈ news, q.1 ≠ ST) (hoff2 : ∀ q ∈ news, q.1 ≠ SB) (hx : x ∈ allNames) (hz : bs.length ≤ 50) (hA : (A, tup #[.str x t9] n9) ∈ news) :
  FnD w G none 757 9 300 [.ref ST, .str (b9q "CREATE") t, .ref A] ((ST, so) :: (SB, bo) :: (SU, uo) :: news) (b2D w ST SB SU news fun bs' nxt' subs' code => subs' = subs ∧ (bs', nxt', code) = a0p bs nxt (a0h x)) := by
 revert cl9 G n9 w subs x t t9 SB SU ST so bo uo nxt bs news A
 intros hk hoff hoff2 hx hz hA
 have mk9 : a0b := trivial
 unfold tup at hA
 ktr_unf
 have hlN : ∀ p ∈ news, @b9w Nat _ p.1 L' := fun p hp => hAll p (tl3 hp)
 have hT1 : ∀ p ∈ news, p.1 ≠ L' + 1 := fun p hp => b9v (b9N (hlN p hp))
 clear hlN
 k_steps
 exact hret _ _ _ _ _ ⟨_, _, _, _, _, _, _, _, _, rfl, rfl, .inl rfl, hLC, rfl, rfl⟩ (by k_asm) (a4t (by assumption))
theorem b3R : True := by
 k_with "Zg:call ref" => (k_here; ((with_reducible show wpAny _ _ (call (b9t 752) _) _ _ _); k_dflt (refine' Fn.use (a4k (by k_asm) ?off ?off2 (by k_asm) (by k_asm) (by k_asm) (by k_asm) (by k_asm)) ?k1 ?k2 ?k3 ?k4 ?k5 ?k6 ?k7 ?k8 ?_); (case k4 => first | exact a6q (by assumption) | k_extra "g:k4"); (case off => k_extra "g:off"); (case off2 => k_extra "g:off"); k_extra "g:c1"; k_extra "g:c2"; obtain ⟨uC, soC, boC, bsC, nxC, cdC, rfl, rfl, hLC, hRC⟩ := hR'; (try clear hR'); k_extra "g:c3"; k_extra "g:c4"))
 trivial
theorem a9j {A : Addr} {t8 : Tok} (hk : a6P w ST SB SU so bo uo bs subs nxt) (hoff : ∀ q ∈ news, q.1 ≠ ST) (hoff2 : ∀ q ∈ news, q.1 ≠ SB) (hx : x ∈ allNames) (hy : y ∈ allNames) (hz : bs.length ≤ 50) (hbl : ∀ p ∈ bs, p.1.length ≤ 800) (hbo : ∀ p ∈ bs, b9S p.1 = true) (hA : (A, tup #[.str x t9, .str y t8] n9) ∈ news) :
  FnD w G none 757 9 330 [.ref ST, .str (b9q "RENAME") t, .ref A] ((ST, so) :: (SB, bo) :: (SU, uo) :: news) (b2D w ST SB SU news fun bs' nxt' subs' code => subs' = subs ∧ a9c bs nxt x y bs' nxt' code) := by
 revert cl9 G n9 w subs x y t t9 SB SU ST so bo uo nxt bs news A t8
 intros hk hoff hoff2 hx hy hz hbl hbo hA
 have mk9 : a0b := trivial
 unfold tup at hA
 ktr_unf
 have hlN : ∀ p ∈ news, @b9w Nat _ p.1 L' := fun p hp => hAll p (tl3 hp)
 have hT1 : ∀ p ∈ news, p.1 ≠ L' + 1 := fun p hp => b9v (b9N (hlN p hp))
 clear hlN
 k_steps
 exact hret _ _ _ _ _ ⟨_, _, _, _, _, _, _, _, _, rfl, rfl, .inl rfl, hLC, rfl, hRC⟩ (by k_asm) (a4t (by assumption))
theorem b5z : True := by
 k_with "Zg:compareOp In str ref" => ((k_here; k_dflt (refine' kda_in (knd := kS _) ?k1 ?k2 ?k3 ?k4 (b9X _ _ _ _) _ (a1b ?k5) ?_; (case k1 => k_asm); (case k2 => k_mem); (case k3 => assumption); (case k4 => assumption); (case k5 => assumption))))
 k_with "Zg:compareOp NotIn str ref" => ((k_here; k_dflt (refine' a2x (knd := kS _) ?k1 ?k2 ?k3 ?k4 (b9X _ _ _ _) _ (a1b ?k5) ?_; (case k1 => k_asm); (case k2 => k_mem); (case k3 => assumption); (case k4 => assumption); (case k5 => assumption))))
 k_with "Zg:setItem ref str" => ((k_here; k_dflt (refine' kda_set (knd := kS _) ?F ?N ?U ?d (b9X _ _ _ _) ?z ?_; (case F => k_asm); (case N => k_asm); (case U => k_updF); (case d => assumption); (case z => (rw [b9O]; omega))); intro h' ob' F' N' hob'; (try dsimp only at N'); (try k_sweep)))
 k_with "Zg:subscriptTail" => ((k_here; (with_reducible show wpAny _ _ (subscriptTail _ _ (b9t _) (c0E _ _)) _ _ _); k_dflt (refine' kdt_tail (knd := kS _) ?k1 ?k2 ?k3 ?_; (case k1 => k_asm); (case k2 => k_mem); (case k3 => assumption))))
 k_with "Zg:call builtin:dict.pop" => ((k_here; k_dflt (refine' kob_pop (knd := kS _) (more := []) ?F ?N ?U ?d (b9X _ _ _ _) (.inl rfl) (by rfl) (c2N _ _) ?l ?z ?_; (case F => k_asm); (case N => k_asm); (case U => k_updF); (case d => assumption); (case l => assumption); (case z => (rw [b9O]; omega))); intro h' ob' F' N' hob'; (try dsimp only at N'); (try k_sweep)))
 trivial
theorem a9o {A : Addr} (hk : a6P w ST SB SU so bo uo bs subs nxt) (hoff : ∀ q ∈ news, q.1 ≠ ST) (hoff2 : ∀ q ∈ news, q.1 ≠ SB) (hx : x ∈ allNames) (hz : bs.length ≤ 50) (hA : (A, tup #[.str x t9] n9) ∈ news) :
  FnD w G none 757 9 300 [.ref ST, .str (b9q "DELETE") t, .ref A] ((ST, so) :: (SB, bo) :: (SU, uo) :: news) (b2D w ST SB SU news fun bs' nxt' subs' code => subs' = subs ∧ nxt' = nxt ∧
   ((a0q bs (a0a x) = false ∧ bs' = bs ∧ code = "NONEXISTENT") ∨ (a0q bs (a0a x) = true ∧ a0a x = b9q "INBOX" ∧ bs' = bs ∧ code = "CANNOT") ∨ (a0q bs (a0a x) = true ∧ a0a x ≠ b9q "INBOX" ∧ (bs' = bs.filter fun q => decide (q.1 ≠ a0a x)) ∧ code = ""))) := by
 revert cl9 G n9 w subs x t t9 SB SU ST so bo uo nxt bs news A
 intros hk hoff hoff2 hx hz hA
 have mk9 : a0b := trivial
 have hk9 := hk
 unfold tup at hA
 obtain ⟨⟨t1, hst⟩, ⟨kvs, hbx, hI⟩, ⟨vs, c, hsb, hS⟩, n1, n2, n3, lo⟩ := hk
 have hv1 := a2B (SB := SB) (SU := SU) (nxt := nxt) (t := t1)
 have hkl : kvs.length = bs.length := by have := congrArg c0N hI.keys; rwa [b9z, b9z] at this
 have hsl : ∀ a b c d, (a7R a b c d).length ≤ 3 := fun _ _ _ _ => b9K _
 have hsl := hsl SB SU nxt t1
 have hget : ∃ v, a0q bs (a0a x) = true → ∃ t, v = .int (a4r bs (a0a x)) t ∧ valueAt kvs (a0a x) = some v := by
  cases hh : a0q bs (a0a x) with
  | false => exact ⟨.none, fun z => by cases z⟩
  | true =>
   obtain ⟨t, ht⟩ := hI.get hh
   exact ⟨_, fun _ => ⟨t, rfl, ht⟩⟩
 obtain ⟨vG, hvG⟩ := hget
 subst hsb
 ktr_unf
 have hlN : ∀ p ∈ news, @b9w Nat _ p.1 L' := fun p hp => hAll p (tl3 hp)
 have hT1 : ∀ p ∈ news, p.1 ≠ L' + 1 := fun p hp => b9v (b9N (hlN p hp))
 clear hlN
 k_steps
 ·exact hret _ _ _ _ _ ⟨_, _, _, _, _, _, _, _, _, rfl, rfl, .inl rfl, hk9, rfl, rfl, .inr (.inl ⟨by assumption, c0j (by assumption), rfl, rfl⟩)⟩ (by k_asm) fun p hp => (by assumption : News h₀ L _ _) p (.tail _ hp)
 ·obtain ⟨tG, rfl, hvG⟩ := hvG (by assumption)
  k_steps
  exact hret _ _ _ _ _ ⟨_, _, _, _, _, _, _, _, _, rfl, rfl, .inl rfl, ⟨⟨_, hst⟩, ⟨_, by assumption, a2l hI _⟩, ⟨_, _, rfl, hS⟩, n1, n2, n3, lo⟩, rfl, rfl, .inr (.inr ⟨by assumption, by simpa using (by assumption : (a0a x == _) = false), rfl, rfl⟩)⟩ (by k_asm) fun p hp => (by assumption : News h₀ L _ _) p (.tail _ hp)
 ·exact hret _ _ _ _ _ ⟨_, _, _, _, _, _, _, _, _, rfl, rfl, .inl rfl, hk9, rfl, rfl, .inl ⟨by assumption, rfl, rfl⟩⟩ (by k_asm) fun p hp => (by assumption : News h₀ L _ _) p (.tail _ hp)
theorem era_Zh : True := trivial
theorem b4a : True := by
 k_with "Zh:call ref" => (k_here; ((with_reducible show wpAny _ _ (call (b9t 721) _) _ _ _); k_dflt (refine' Fn.use (a0J (by k_asm)) ?k1 ?k2 ?k3 ?k4 ?k5 ?k6 ?k7 ?k8 ?_); (case k4 => k_extra "g:k4"); k_extra "g:c1"; k_extra "g:c2"; obtain ⟨uE, rfl, rfl⟩ := hR'; (try clear hR'); k_extra "g:c3"; k_extra "g:c4"))
 k_with "Zh:call ref" => (k_here; ((with_reducible show wpAny _ _ (call (b9t 728) _) _ _ _); k_dflt (refine' Fn.use (a0E (by k_asm)) ?k1 ?k2 ?k3 ?k4 ?k5 ?k6 ?k7 ?k8 ?_); (case k4 => k_extra "g:k4"); k_extra "g:c1"; k_extra "g:c2"; obtain ⟨rfl, rfl⟩ := hR'; (try clear hR'); k_extra "g:c3"; k_extra "g:c4"))
 k_with "Zh:compareOp In str ref" => ((k_here; k_dflt (refine' kda_in (knd := kS _) ?k1 ?k2 ?k3 ?k4 (b9X _ _ _ _) _ (a1b ?k5) ?_; (case k1 => k_asm); (case k2 => k_mem); (case k3 => assumption); (case k4 => assumption); (case k5 => assumption))))
 k_with "Zh:compareOp NotIn str ref" => ((k_here; k_dflt (refine' a2x (knd := kS _) ?k1 ?k2 ?k3 ?k4 (b9X _ _ _ _) _ (a1b ?k5) ?_; (case k1 => k_asm); (case k2 => k_mem); (case k3 => assumption); (case k4 => assumption); (case k5 => assumption))))
 k_with "Zh:setItem ref str" => ((k_here; k_dflt (refine' kda_set (knd := kS _) ?F ?N ?U ?d (b9X _ _ _ _) ?z ?_; (case F => k_asm); (case N => k_asm); (case U => k_updF); (case d => assumption); (case z => (rw [b9O]; omega))); intro h' ob' F' N' hob'; (try dsimp only at N'); (try k_sweep)))
 k_with "Zh:subscriptTail" => ((k_here; (with_reducible show wpAny _ _ (subscriptTail _ _ (b9t _) (c0E _ _)) _ _ _); k_dflt (refine' kdt_tail (knd := kS _) ?k1 ?k2 ?k3 ?_; (case k1 => k_asm); (case k2 => k_mem); (case k3 => assumption))))
 k_with "Zh:call builtin:dict.pop" => ((k_here; k_dflt (refine' kob_pop (knd := kS _) (more := []) ?F ?N ?U ?d (b9X _ _ _ _) (.inl rfl) (by rfl) (c2N _ _) ?l ?z ?_; (case F => k_asm); (case N => k_asm); (case U => k_updF); (case d => assumption); (case l => assumption); (case z => (rw [b9O]; omega))); intro h' ob' F' N' hob'; (try dsimp only at N'); (try k_sweep)))
 k_with "Zh:binaryOp Add ref ref" => ((k_here; k_dflt (refine' a9v ?k1 ?k2 ?k3 ?k4 ?k5 ?k6 ?k7 ?_; (case k1 => k_asm); (case k2 => k_asm); (case k3 => k_mem); (case k4 => k_mem); (case k5 => exact rfl); (case k6 => assumption); (case k7 => omega)); intro h' D' vsA hSA F' N' l1; (try k_lt l1); (try k_sweep)))
 trivial
theorem a9b {l : Addr} (hh : A.handled = none) (F : Fr h₀ L s.heap m) (N : News h₀ L s.heap news) (hl : (l, listOf vs.toArray c) ∈ news) (hi : StrsAre vs ss) (hb : ss.length ≤ 1000) (h : ∀ (D : Addr) h' tk o us, Fr h₀ L h' m → News h₀ L h' ((D, o) :: news) → (∀ q ∈ news, q.1 < D) → a6u w o us (!w.params.followText "set-order") → (∀ x, x ∈ us ↔ x ∈ ss) → Q (.ref D) { s with heap := h', toks := tk }) :
  wpAny (model b9u.prog w) A (call (.type "set") [.ref l]) Q E s := by
 have hlen := hi.length
 refine a4O (w := w) (items := vs.toArray) hh ⟨_, (N _ hl).1, rfl, c, rfl⟩ (by simpa using hi) (by rw [b9H]; unfold scanBound; omega) fun h' tk o us ho hS hm hk => ?_
 obtain ⟨oL, _, _, hL, _⟩ := F.ns
 have hLlt : L < s.heap.objs.size := b9x hL
 refine h _ h' tk o us ⟨F.ns.at' fun o' e => hk L o' hLlt e, fun b o' e => hk b o' (b9x (F.keep b o' e)) (F.keep b o' e), F.above⟩ (fun p hp => ?_) (fun q hq => b9x (N q hq).1) hS hm
 rcases b9r.mp hp with rfl | hp
 ·refine ⟨ho, b9F hLlt, ?_⟩
  cases hq : h₀.get? s.heap.objs.size with
  | none => rfl
  | some o' => exact absurd (b9x (F.keep _ _ hq)) (c0g _)
 ·exact ⟨hk _ _ (b9x (N p hp).1) (N p hp).1, (N p hp).2.1, (N p hp).2.2⟩
theorem a9g (hn : us.Nodup) (h : ∀ x ∈ us, x ∈ ss) : us.length ≤ ss.length := by
 induction us generalizing ss with
 | nil => exact c0m _
 | cons x us ih =>
  have hx := h x (.head _)
  obtain ⟨h1, h2⟩ := c0Y.mp hn
  have h3 := ih (ss := ss.erase x) h2 fun y hy => (List.mem_erase_of_ne (show y ≠ x from fun e => h1 (e ▸ hy))).mpr (h y (.tail _ hy))
  rw [List.length_erase_of_mem hx] at h3
  have : 0 < ss.length := List.length_pos_of_mem hx
  rw [c1X]; exact Nat.add_le_of_le_sub this h3
theorem b2m (hn : us.Nodup) (h : ∀ x, x ∈ us ↔ x ∈ ss) : us.length ≤ ss.length := a9g hn fun x hx => (h x).mp hx
theorem b5U : True := by
 k_with "Zh:call type:set" => ((k_here; k_dflt (refine' a9b ?k0 ?k1 ?k2 ?k3 ?k4 ?k5 ?_; (case k0 => exact rfl); (case k1 => k_asm); (case k2 => k_asm); (case k3 => k_mem); (case k4 => assumption); (case k5 => (simp only [c0l, c1N]; omega))); intro DS h' tkS oS usS F' N' l1 hST hSm; (try k_lt l1); (try k_sweep)))
 k_with "Zh:call builtin:sorted" => ((k_here; k_dflt (refine' a6V (us := usS) ?k0 ?k1 ?k2 ?k3 ?k4 ?k5 ?_; (case k0 => exact rfl); (case k1 => k_asm); (case k2 => k_asm); (case k3 => k_mem); (case k4 => assumption); (case k5 => (have := b2m hST.nd hSm; simp only [c0l, c1N] at this; omega))); intro D c9 vsD ssD h' tk' dr' hSD hSrt F' N' l1; (try k_lt l1); (try k_sweep)))
 trivial
theorem a4E {A : Addr} (hk : a6P w ST SB SU so bo uo bs subs nxt) (hoff : ∀ q ∈ news, q.1 ≠ ST) (hoff2 : ∀ q ∈ news, q.1 ≠ SB) (hx : x ∈ allNames) (hz : subs.length ≤ 40) (hA : (A, tup #[.str x t9] n9) ∈ news) :
  FnD w G none 757 9 300 [.ref ST, .str (b9q "SUBSCRIBE") t, .ref A] ((ST, so) :: (SB, bo) :: (SU, uo) :: news) (b2D w ST SB SU news fun bs' nxt' subs' code => bs' = bs ∧ nxt' = nxt ∧
   ((a1m (a0a x) = false ∧ subs' = subs ∧ code = "none") ∨ (a1m (a0a x) = true ∧ code = "" ∧ ∃ us, us.Nodup ∧ (∀ z, z ∈ us ↔ z ∈ subs ++ [a0a x]) ∧ Srt subs' us))) := by
 revert cl9 G n9 w subs x t t9 SB SU ST so bo uo nxt bs news A
 intros hk hoff hoff2 hx hz hA
 have mk9 : a0b := trivial
 have hk9 := hk
 have hset := a6g hx
 unfold tup at hA
 obtain ⟨⟨t1, hst⟩, ⟨kvs, hbx, hI⟩, ⟨vs, c, hsb, hS⟩, n1, n2, n3, lo⟩ := hk
 have hv1 := a5D (SB := SB) (SU := SU) (nxt := nxt) (t := t1)
 have hsl : ∀ a b c d, (a7R a b c d).length ≤ 3 := fun _ _ _ _ => b9K _
 have hsl := hsl SB SU nxt t1
 subst hsb
 ktr_unf
 have hlN : ∀ p ∈ news, @b9w Nat _ p.1 L' := fun p hp => hAll p (tl3 hp)
 have hT1 : ∀ p ∈ news, p.1 ≠ L' + 1 := fun p hp => b9v (b9N (hlN p hp))
 clear hlN
 k_steps
 ·(with_reducible rename News h₀ L _ _ => M9)
  have t5 : ∀ {p a b c d e : Addr × Obj} {l : Led}, p ∈ l → p ∈ a :: b :: c :: d :: e :: l := fun hp => tl5 hp
  refine hret _ _ _ _ _ ⟨_, _, _, D, _, _, _, _, _, rfl, rfl, .inr fun q hq => b9v (hAll q (tl7 hq)), ⟨⟨_, hob'⟩, ⟨_, hbx, hI⟩, ⟨_, _, rfl, hSD⟩, n1, b9v (hAll _ mt4), b9v (hAll _ mt5), lo⟩, rfl, rfl, .inr ⟨by assumption, rfl, usS, hST.nd, hSm, hSrt⟩⟩ (by k_asm) (nc (M9 _ (t5 (.head _))) (nc (M9 _ (t5 mt1)) (nc (M9 _ (.head _)) fun p hp => M9 p (t5 (tl3 hp)))))
 ·exact hret _ _ _ _ _ ⟨_, _, _, _, _, _, _, _, _, rfl, rfl, .inl rfl, hk9, rfl, rfl, .inl ⟨by assumption, rfl, rfl⟩⟩ (by k_asm) fun p hp => (by assumption : News h₀ L _ _) p (.tail _ hp)
theorem b6a : True := by
 k_with "Zh:eval ListComp" => ((k_here; k_dflt (refine c3a (F₀ := by k_asm) (by with_unfolding_all rfl) (by decide) (by rfl) (by decide) (by rfl) ?_)))
 k_with "Zh:exec Assign cons ListComp" => ((k_here; first | ((with_reducible refine plainObj_wpAny_Assign_Attribute ?_ ?_); rotate_left; with_unfolding_all rfl) | ((with_reducible refine wpAny_Assign_Subscript ?_ ?_); rotate_left; with_unfolding_all rfl)))
 trivial
theorem a3t {A : Addr} (hk : a6P w ST SB SU so bo uo bs subs nxt) (hoff : ∀ q ∈ news, q.1 ≠ ST) (hoff2 : ∀ q ∈ news, q.1 ≠ SB) (hx : x ∈ allNames) (hz : subs.length ≤ 40) (hA : (A, tup #[.str x t9] n9) ∈ news) :
  FnD w G none 757 9 300 [.ref ST, .str (b9q "UNSUBSCRIBE") t, .ref A] ((ST, so) :: (SB, bo) :: (SU, uo) :: news) (b2D w ST SB SU news fun bs' nxt' subs' code => bs' = bs ∧ nxt' = nxt ∧
   (((subs.any fun y => y == a0a x) = false ∧ subs' = subs ∧ code = "none") ∨ ((subs.any fun y => y == a0a x) = true ∧ code = "" ∧ subs' = subs.filter fun y => y != a0a x))) := by
 revert cl9 G n9 w subs x t t9 SB SU ST so bo uo nxt bs news A
 intros hk hoff hoff2 hx hz hA
 have mk9 : a0b := trivial
 have hk9 := hk
 unfold tup at hA
 obtain ⟨⟨t1, hst⟩, ⟨kvs, hbx, hI⟩, ⟨vs, c, hsb, hS⟩, n1, n2, n3, lo⟩ := hk
 have hv1 := a5D (SB := SB) (SU := SU) (nxt := nxt) (t := t1)
 have hsl : ∀ a b c d, (a7R a b c d).length ≤ 3 := fun _ _ _ _ => b9K _
 have hsl := hsl SB SU nxt t1
 have hvl := hS.length
 subst hsb
 ktr_unf
 have hlN : ∀ p ∈ news, @b9w Nat _ p.1 L' := fun p hp => hAll p (tl3 hp)
 have hT1 : ∀ p ∈ news, p.1 ≠ L' + 1 := fun p hp => b9v (b9N (hlN p hp))
 clear hlN
 k_steps
 ·refine c3b (ax := SU) (its := vs.toArray) rfl (by k_asm) (by k_asm) (by k_mem) (by rw [b9O, b9H]; omega) ?_; intro g9
  refine a1I (fun y => y != a0a x) hS (.inr ⟨_, by k_mem, rfl, _, rfl⟩) ?_ ?_ ?_
  ·revert cm9 y ty I oI C oC D ys m₂ h tk E'; intro hy hC' hx' F9 N9
   k_steps
   exact a0i (by k_asm) (by k_asm) (fun p hp => hp) rfl
  ·revert cm9 y ty I oI C oC D ys m₂ h tk E'; intro hy hC' hx' F9 N9
   k_steps
   exact a0i (by k_asm) (by k_asm) (fun p hp => hp) ⟨_, rfl⟩
  ·intro ys hys
   unfold c1w
   revert cm9 D2 h2 tk2; intro F2 N2 off2
   have off3 := a0T off2
   simp only [LCg.Off1, and_true] at off2
   k_steps
   (with_reducible rename News h₀ L _ _ => M9)
   (with_reducible rename c1n _ _ (stored _ _ _) => hob)
   refine hret _ _ _ _ _ ⟨_, _, _, D2, _, _, _, _, _, rfl, rfl, .inr fun q hq => off3 q (tl4 hq), ⟨⟨_, hob⟩, ⟨_, hbx, hI⟩, ⟨_, _, rfl, hys⟩, n1, off3 _ mt1, off3 _ mt2, lo⟩, rfl, rfl, .inr ⟨by assumption, rfl, rfl⟩⟩ (by k_asm) (nc (M9 _ mt2) (nc (M9 _ mt3) (nc (M9 _ (.head _)) fun p hp => M9 p (tl5 hp))))
 ·exact hret _ _ _ _ _ ⟨_, _, _, _, _, _, _, _, _, rfl, rfl, .inl rfl, hk9, rfl, rfl, .inl ⟨by assumption, rfl, rfl⟩⟩ (by k_asm) fun p hp => (by assumption : News h₀ L _ _) p (.tail _ hp)
section
variable {prog : Program} {w : World} {A : Around} {E : Value → Shared → Prop} {s : Shared} {env : Env} {h₀ : Heap} {x : b9p} {px : Pos} {body : List Stmt} {Q : Flow → Shared → Prop}
noncomputable def b2R (h₀ : Heap) (L : Addr) (J : (b9p → Option Value) → Led → Prop) (I : Addr) (oI : Obj) (s : Shared) (Q : Flow → Shared → Prop) (f : Flow) (s₂ : Shared) : Prop :=
 match f with
 | .ret v => Q (.ret v) s₂
 | .brk => Q .next s₂
 | _ => ∃ h' tk dr m' news', s₂ = { s with heap := h', toks := tk, drawn := dr } ∧ Fr h₀ L h' m' ∧ News h₀ L h' ((I, oI) :: news') ∧ (∀ p ∈ news', p.1 ≠ I) ∧ J m' news'
theorem a5h {L : Addr} {J : (b9p → Option Value) → Led → Prop} {I : Addr} {oI : Obj} {h' : Heap} {tk : Nat} {dr : Drawn} {m' : b9p → Option Value} {all news' : Led} (F : Fr h₀ L h' m') (N : News h₀ L h' all) (hI : (I, oI) ∈ all) (hs : ∀ p ∈ news', p ∈ all) (off : ∀ p ∈ news', p.1 ≠ I) (hj : J m' news') :
  b2R h₀ L J I oI s Q .next { s with heap := h', toks := tk, drawn := dr } := ⟨h', tk, dr, m', news', rfl, F, nc (N _ hI) fun p hp => N p (hs p hp), off, hj⟩
noncomputable def b3u (prog : Program) (w : World) (A : Around) (h₀ : Heap) (env : Env) (x : b9p) (body : List Stmt) (Q : Flow → Shared → Prop) (E : Value → Shared → Prop) (xv : Value) (s : Shared) : Prop :=
 ∃ (r : Addr) (b₀ : Int) (t₀ u₀ v₀ : Tok) (n : Nat) (m₀ : b9p → Option Value) (news : Led) (J : Nat → (b9p → Option Value) → Led → Prop), xv = .ref r ∧ IsRange s.heap r 0 b₀ 1 t₀ u₀ v₀ ∧ c2B 0 b₀ 1 = true ∧ c2X 0 b₀ 1 = (n : Int) ∧ A.handled = none ∧ Fr h₀ env.locals s.heap m₀ ∧ News h₀ env.locals s.heap news ∧ J 0 m₀ news ∧
  (∀ i t m₁ news₁ I oI h tk dr, i < n → J i m₁ news₁ → (∀ p ∈ news₁, p.1 ≠ I) → (∀ p ∈ news, p.1 < I) → Fr h₀ env.locals h (fun y => if y = x then some (.int (i : Int) t) else m₁ y) → News h₀ env.locals h ((I, oI) :: news₁) →
   wpAny (model prog w) A (execs body env) (b2R h₀ env.locals (J (i + 1)) I oI s Q) E { s with heap := h, toks := tk, drawn := dr }) ∧
  ∀ m₁ news₁ h tk dr, J n m₁ news₁ → Fr h₀ env.locals h m₁ → News h₀ env.locals h news₁ → Q .next { s with heap := h, toks := tk, drawn := dr }
theorem b2G (hx : env.kindOf x = some .local) (hp : (env.scope.kind == .class || (env.scope.kind == .module && env.locals != env.globals)) = false) (h : wpAny (model prog w) A (eval iter env) (b3u prog w A h₀ env x body Q E) E s) (hs : ∀ x, foldedSetIterable iter env x = pure x) (hE : PassesOwn (model prog w) A env E) :
  wpAny (model prog w) A (exec (.For (.Name x px) iter body [] pos) env) Q E s := by
 revert cl9 pos iter prog w A E s env h₀ x px body Q
 intros hx hp h hs hE
 refine wpAny_For (b9L h (fun xv s₁ h₁ => ?_) fun _ _ e => e) hs
 obtain ⟨r, b₀, t₀, u₀, v₀, n, m₀, news, J, rfl, hr, hsmall, hn, hh, F, N, hj, turn, done⟩ := h₁
 refine wpAny_pyIter_range hr hsmall ?_
 have W := c3Q (prog := prog) (w := w) (A := A) (I := s₁.heap.objs.size) hh 0 n
 have hLI : env.locals ≠ s₁.heap.objs.size := b9v F.ns.lt
 have hI0 : h₀.get? s₁.heap.objs.size = none := c1x F
 refine codeAny_forLoop (R := fun r s' => match r with | .ok f => Q f s' | .error e => cameBackBy (model prog w) A env E e s')
  (fun k s' => ∃ h' tk dr m' news' i, s' = { s₁ with heap := h', toks := tk, drawn := dr } ∧ IsRangeIter h' s₁.heap.objs.size (0 + (i : Nat) * 1) ((n : Int) - (i : Nat)) 1 ∧ Fr h₀ env.locals h' m' ∧ News h₀ env.locals h' news' ∧ (∀ p ∈ news', p.1 ≠ s₁.heap.objs.size) ∧ J i m' news' ∧ i ≤ n ∧ k = n + 1 - i) ?_ (n + 1)
  ⟨_, s₁.toks, s₁.drawn, m₀, news, 0, rfl, (by show IsRangeIter _ _ _ _ _; rw [hn]; simpa using b9R _ rfl), F.push _, N.grown (fun b o' e => b9B _ e), (fun p hp => b9v (b9x (N p hp).1)), hj, c0m _, rfl⟩
 intros k s' hR9; (obtain ⟨h', tk, dr, m', news', i, rfl, hst', F', N', hnw', hJ, hi, rfl⟩ := hR9) <;> (try clear hR9)
 have old : ∀ b o, h₀.get? b = some o → b ≠ s₁.heap.objs.size := fun b o e hb => by rw [hb, hI0] at e; cases e
 have next : ∀ h₁ : Heap, (∀ b o, b ∉ [s₁.heap.objs.size] → h'.get? b = some o → h₁.get? b = some o) → Fr h₀ env.locals h₁ m' ∧ News h₀ env.locals h₁ news' := fun h₁ hk₁ =>
  ⟨⟨F'.ns.at' fun o e => hk₁ _ o (fun z => hLI (b9C.mp z)) e, fun b o e => hk₁ b o (fun z => old b o e (b9C.mp z)) (F'.keep b o e), F'.above⟩, fun p hp => ⟨hk₁ _ _ (fun z => hnw' p hp (b9C.mp z)) (N' p hp).1, (N' p hp).2⟩⟩
 by_cases hlt : i < n
 ·refine W.item i _ _ _ hlt hst' fun v h₁ tk₁ hP hst₁ hk₁ => ?_
  obtain ⟨t, rfl⟩ := hP
  rw [Int.zero_add]
  obtain ⟨F₁, N₁⟩ := next h₁ hk₁
  refine wpAny_assign_Name (wpAny_storeName_local hx F₁.ns (fun h₂ hn₂ hs₂ => ?_) hp)
  have F₂ := F₁.set hn₂ hs₂
  have hst₂ : IsRangeIter h₂ s₁.heap.objs.size (0 + ((i + 1 : Nat) : Int) * 1) ((n : Int) - ((i + 1 : Nat) : Int)) 1 := W.frame _ _ _ hst₁ fun b hb o e => (hs₂.2 b fun q => hLI (q ▸ b9C.mp hb)).trans e
  obtain ⟨oI, hoI⟩ : ∃ o, h₂.get? s₁.heap.objs.size = some o := ⟨_, hst₂⟩
  show wpAny _ _ _ _ _ { s₁ with heap := h₂, toks := tk₁ + 1, drawn := dr }
  have tt := (turn i t m' news' s₁.heap.objs.size oI h₂ (tk₁ + 1) dr hlt hJ hnw' (fun p hp => b9x (N p hp).1) F₂ (nc ⟨hoI, hLI.symm, hI0⟩ (N₁.set hs₂)))
  refine b9L tt (fun f s₃ h₃ => ?_) hE
  have fin : (∃ h' tk dr m' news', s₃ = { s₁ with heap := h', toks := tk, drawn := dr } ∧ Fr h₀ env.locals h' m' ∧ News h₀ env.locals h' ((s₁.heap.objs.size, oI) :: news') ∧ (∀ p ∈ news', p.1 ≠ s₁.heap.objs.size) ∧ J (i + 1) m' news') → ∃ m, m < n + 1 - i ∧ ∃ h' tk dr m' news' i, s₃ = { s₁ with heap := h', toks := tk, drawn := dr } ∧ IsRangeIter h' s₁.heap.objs.size (0 + (i : Nat) * 1) ((n : Int) - (i : Nat)) 1 ∧ Fr h₀ env.locals h' m' ∧ News h₀ env.locals h' news' ∧ (∀ p ∈ news', p.1 ≠ s₁.heap.objs.size) ∧ J i m' news' ∧ i ≤ n ∧ m = n + 1 - i := by
   intros hR9; (obtain ⟨h₃', tk₃, dr₃, m₂, news₂, rfl, F₃, N₃, ha₃, hJ₃⟩ := hR9) <;> (try clear hR9)
   refine ⟨n + 1 - (i + 1), by omega, h₃', tk₃, dr₃, m₂, news₂, i + 1, rfl, ?_, F₃, fun p hp => N₃ p (.tail _ hp), ha₃, hJ₃, hlt, rfl⟩
   refine W.frame _ _ _ hst₂ fun b hb o e => ?_
   rw [b9C.mp hb] at e ⊢
   rw [hoI] at e
   rw [← b9U e]
   exact (N₃ _ (.head _)).1
  cases f with
  | ret v => exact h₃
  | brk => exact h₃
  | cont => exact fin h₃
  | next => exact fin h₃
 ·have hin : i = n := by omega
  subst hin
  refine W.done _ _ _ hst' fun h₁ tk₁ hk₁ => wpAny_execs_nil ?_
  obtain ⟨F₁, N₁⟩ := next h₁ hk₁
  exact done m' news' h₁ tk₁ dr hJ F₁ N₁
end
theorem era_Zj : True := trivial
theorem b3T : True := by
 k_with "Zj:subscriptTail Name Constant ref int" => ((k_here; (with_unfolding_all refine' item_litK ?k1 ?k2 ?k3 ?k4 ?_ ?k6; (case k1 => is_list); (case k2 => decide); (case k3 => decide); (case k4 => rfl); (case k6 => with_unfolding_all rfl); k_whole)))
 trivial
section
variable {prog : Program} {w : World} {A : Around} {E : Value → Shared → Prop} {s : Shared} {env : Env}
theorem a7W {g : Array GenState} {d : Drawn} {os : OsState} {e C T : Nat} {Q : Bool → Shared → Prop} (X : (K w.params).In h) (hC : C = 52 ∨ C = 64) (he : h.get? e = some oe) (hcls : oe.cls = .ref C) (hT : h.get? T = some { cls := .type "tuple", data := .seq #[.ref 64, .ref 52] n }) (hq : Q true ⟨h, g, d, tk, os⟩) : wpAny (model prog w) A (excMatches (.ref e) (.ref T)) Q E ⟨h, g, d, tk, os⟩ := by
 revert cl9 tk n h oe prog w A E g d os e C T Q
 intros X hC he hcls hT hq
 have mk9 : a0b := trivial
 obtain ⟨nm1, q1, N1, bs1, hdct1, sn1, sub1, ab1, col1, dd1, k01, k11, k21, k31, k51, h64⟩ := a0X X (.inr rfl : (64 : Addr) = 52 ∨ (64 : Addr) = 64)
 obtain ⟨nm2, q2, N2, bs2, hdct2, sn2, sub2, ab2, col2, dd2, k02, k12, k22, k32, k52, h52⟩ := a0X X (.inl rfl : (52 : Addr) = 52 ∨ (52 : Addr) = 64)
 have b1 : ((b9t 64 :: b9t 39 :: bmE).contains (.type "BaseException")) = true := by decide +kernel
 have b2 : ((b9t 52 :: b9t 39 :: bmE).contains (.type "BaseException")) = true := by decide +kernel
 have c1 : ((b9t 64 :: b9t 39 :: bmE).contains (.ref 64)) = true := by decide +kernel
 have c2 : ((b9t 52 :: b9t 39 :: bmE).contains (.ref 64)) = false := by decide +kernel
 have c3 : ((b9t 52 :: b9t 39 :: bmE).contains (.ref 52)) = true := by decide +kernel
 have f := tc_notTuple
 unfold excMatches
 refine wpAny_bind (wpAny_isInstance ⟨_, hT, rfl⟩ (show isSubtype (.type "tuple") (.type "tuple") = pure true from by rw [c3m]; kernel_rfl) ?_)
 dsimp only
 rw [if_pos rfl]
 refine wpAny_bind (c0Q hT rfl ?_)
 dsimp only [Option.getD_some, Option.getD]
 k_with "w:1" => (with_reducible refine c1e he ?_; rw [hcls])
 k_with "w:2" => with_reducible refine c1e h64 ?_
 k_with "w:3" => with_reducible refine c1e h52 ?_
 k_with "w:4" => (with_reducible refine c1Y h64 ?_; first | rw [b1] | rw [c1])
 k_with "w:5" => (with_reducible refine c1Y h52 ?_; first | rw [b2] | rw [c2] | rw [c3])
 rcases hC with rfl | rfl
 ·walk_say "@bpbddddbbdbdbd2pT4Fpddbbdbdbd3pT5Fpddpbdb1pbddddbb5Fpddbb5Tppp"
  exact hq
 ·walk_say "@bpbddddbbdbdbd2pT4Fpddbbdbdbd3pT5Fpddpbdb1pbddddbb4Tppp"
  exact hq
noncomputable def b1I (prog : Program) (w : World) (A : Around) (E : Value → Shared → Prop) (env : Env) (e C : Addr) (b₀ : Stmt) (suite : List Stmt) (Q : Flow → Shared → Prop) (c : Value) (s₁ : Shared) : Prop :=
 (∃ T n, c = .ref T ∧ s₁.heap.get? T = some { cls := .type "tuple", data := .seq #[.ref 64, .ref 52] n }) ∧ (K w.params).In s₁.heap ∧ (∃ oe, s₁.heap.get? e = some oe ∧ oe.cls = .ref C) ∧
   wpAny (model prog w) (A.mark (some (.ref e))) (setFlight (.ref e) none) (fun _ s₂ =>
      wpAny (model prog w) (A.mark (some (.ref e))) (execs (b₀ :: suite) env) (fun f s₄ => Q f s₄) (notedBy (model prog w) (A.mark (some (.ref e))) env (cameBackBy (model prog w) A env E)) s₂) (notedBy (model prog w) (A.mark (some (.ref e))) env (cameBackBy (model prog w) A env E)) s₁
theorem a3M {t : Expr} {b₀ : Stmt} {suite : List Stmt} {rest : List ExceptHandler} {Q : Flow → Shared → Prop} (hC : C = 52 ∨ C = 64) (h : wpAny (model prog w) (A.mark (some (.ref e))) (eval t env) (b1I prog w A E env e C b₀ suite Q) (notedBy (model prog w) (A.mark (some (.ref e))) env (cameBackBy (model prog w) A env E)) s) :
  wpAny (model prog w) A (handleBy (.ref e) env (.ExceptHandler (some t) none (b₀ :: suite) pos :: rest)) Q E s := by
 revert cl9 e C pos prog w A E s env t b₀ suite rest Q
 intros hC h
 refine wpAny_handleBy_cons (codeAny_handlers_test (b9L h (fun c s₁ h₁ => ?_) fun _ _ y => y)) (by intro q; cases q)
 obtain ⟨⟨T, n, rfl, hT⟩, X, ⟨oe, he, hcls⟩, hk⟩ := h₁
 obtain ⟨hh, g, d, tk, os⟩ := s₁
 exact a7W X hC he hcls hT (codeAny_handlers_suite hk)
end
theorem a3f {g g₂ : Heap} {L' : Addr} (hl : frs [env] = [L]) (FG : Fr h₀ L g m) (KT : KtsTurn (frs [env]) g g₂) (F₂ : Fr g₂ L' h' m') : Fr h₀ L h' m := by
 rw [hl] at KT
 have hL0 := c0X FG
 have k : ∀ b o, g.get? b = some o → b ≠ L → h'.get? b = some o := fun b o e hb => F₂.keep b o (KT.other b o e (by simp [hb]))
 refine ⟨?_, fun b o e => k b o (FG.keep b o e) (fun z => by rw [z, hL0] at e; cases e), FG.above⟩
 obtain ⟨o, es, ep, ho, r⟩ := FG.ns
 obtain ⟨sl, hs⟩ := KT.frame L o ho (.head _)
 exact ⟨_, es, ep, F₂.keep _ _ hs, r⟩
theorem a1n {g g₂ : Heap} {L' : Addr} {n : Led} (FG : Fr h₀ L g m) (KT : KtsTurn (frs [env]) g g₂) (N : News g₂ L' h' n) : News h₀ L h' n := fun p hp => by
 obtain ⟨a, b, c⟩ := N p hp
 have none' : ∀ b, g₂.get? b = none → g.get? b = none := fun b q => by
  cases r : g.get? b with
  | none => rfl
  | some o => obtain ⟨sl, hs⟩ := KT.up r; rw [q] at hs; cases hs
 have c' := none' _ c
 refine ⟨a, fun z => ?_, kts_none FG.keep c'⟩
 obtain ⟨o, es, ep, ho, r⟩ := FG.ns
 rw [z, ho] at c'; cases c'
theorem a4v (O : σ.ok w rest) : ∀ q ∈ σ.led [], ∀ vs, q.2.data ≠ .fields vs := by
 revert cl9 w rest σ
 intros O
 intro q hq vs
 obtain ⟨⟨_, _, _, _, h1⟩, h2, _, ⟨us, nU, h3, _⟩, h4, _, _⟩ := O
 unfold StR.led a0d at hq
 rcases b9r.mp hq with rfl | hq
 ·intro z; cases z
 rcases b9r.mp hq with rfl | hq
 ·intro z; dsimp only at z; rw [h1] at z; cases z
 rcases b9r.mp hq with rfl | hq
 ·intro z
  obtain ⟨_, _, _, _, _, _⟩ := h2
  simp_all
 rcases b9r.mp hq with rfl | hq
 ·intro z; dsimp only at z; rw [h3] at z; cases z
 rw [c0k] at hq
 obtain ⟨r, hr, hq⟩ := List.mem_flatMap.mp hq
 obtain ⟨_, _, _, _, _, _, _, _, _, _, _, _, h5⟩ := h4 r hr
 unfold BoxR.led at hq
 simp only [b9r, c0f, or_false] at hq
 rcases hq with rfl | rfl | rfl | rfl
 ·intro z; cases z
 ·intro z; cases z
 ·intro z; cases z
 ·intro z; dsimp only at z; rw [h5] at z; cases z
theorem a3E {nx : Led} {g : Heap} {vs : Array Value} (O : σ.ok w rest) (N : News g L h ((e, oe) :: nx)) (hsub : ∀ p ∈ σ.led rest, p ∈ nx) (hne : ∀ q ∈ nx, q.1 ≠ e) (hv : oe.data = .fields vs) (h2 : vs[2]? = some cx) (hcx : cx = .none ∨ ∃ e2 o2 vs2, cx = .ref e2 ∧ (e2, o2) ∈ nx ∧ o2.data = .fields vs2 ∧ vs2[2]? = some .none) :
  ∃ xs : Led, σ.ok w (xs ++ rest) ∧ News g L h (σ.led (xs ++ rest)) ∧ HdIn (some (.ref e)) (σ.led (xs ++ rest)) := by
 revert cl9 w cx h L e oe rest σ nx g vs
 intros O N hsub hne hv h2 hcx
 have he : e ∉ σ.adr := fun hm => by
  obtain ⟨q, hq, z⟩ := StR.mem_adr hm rest
  exact hne q (hsub q hq) z
 have hN : ∀ p ∈ σ.led rest, h.get? p.1 = some p.2 ∧ p.1 ≠ L ∧ g.get? p.1 = none := fun p hp => N p (.tail _ (hsub p hp))
 rcases hcx with rfl | ⟨e2, o2, vs2, rfl, m2, hv2, h22⟩
 ·refine ⟨[(e, oe)], ⟨O.sd, O.ob, O.lo, O.ou, O.box, O.nd, fun p hp => ?_⟩, fun p hp => ?_, ⟨e, oe, vs, rfl, StR.led_app.mpr (.head _), hv, .inl h2⟩⟩
  ·rcases b9r.mp hp with rfl | hp
   ·exact he
   ·exact O.ap p hp
  ·rcases b9r.mp (StR.led_app.mp hp) with rfl | hp
   ·exact N _ (.head _)
   ·exact hN p hp
 ·have he2 : e2 ∉ σ.adr := fun hm => by
   obtain ⟨q, hq, z⟩ := StR.mem_adr hm []
   have hq' := StR.led_mono (rest := []) (rest' := rest) (fun q hq => by cases hq) hq
   have a1 := (hN q hq').1
   have a2 := (N _ (.tail _ m2)).1
   rw [z, a2] at a1
   have a3 := b9U a1
   exact a4v O q hq vs2 (by rw [← a3]; exact hv2)
  refine ⟨[(e, oe), (e2, o2)], ⟨O.sd, O.ob, O.lo, O.ou, O.box, O.nd, fun p hp => ?_⟩, fun p hp => ?_, ⟨e, oe, vs, rfl, StR.led_app.mpr (.head _), hv, .inr ⟨e2, o2, vs2, h2, hne _ m2, StR.led_app.mpr mt1, hv2, h22⟩⟩⟩
  ·rcases b9r.mp hp with rfl | hp
   ·exact he
   rcases b9r.mp hp with rfl | hp
   ·exact he2
   ·exact O.ap p hp
  ·rcases b9r.mp (StR.led_app.mp hp) with rfl | hp
   ·exact N _ (.head _)
   rcases b9r.mp hp with rfl | hp
   ·exact N _ (.tail _ m2)
   ·exact hN p hp
theorem CmdIn.mono {P : Params} {d : Deed} {c : Addr} (h : CmdIn P d c rest) (k : ∀ p ∈ rest, p ∈ rest') : CmdIn P d c rest' := by
 revert cl9 rest rest' P d c
 intros h k
 have mk9 : a0b := trivial
 obtain ⟨cd, A, od, vs, n, a, b, c, e⟩ := h
 exact ⟨cd, A, od, vs, n, k _ a, k _ b, k _ c, e⟩
noncomputable def FnO (w : World) (G : Gl) (hd : Option Value) (f : Addr) (d u : Nat) (vs : List Value) (news : Led) (R : Value → Led → Prop) : Prop :=
 ∀ (dp un : Nat) (gd : Option (List Code)) (cn : b9p) (cs : Scope) (a : Addr) (ccd : Value) (cl : List (b9p × Addr)) (A₀ : Around) (base h₀ : Heap) (L : Addr) (m : b9p → Option Value) (s : Shared) (Q E : Value → Shared → Prop),
  Below A₀ base [] h₀ → Fr h₀ L s.heap m → (K w.params).In base → News h₀ L s.heap news → Top G.p G.loose G.mean G.mg G.mb base → cs.kind = .function → dp + d < recursionLimit → un + u < cLine →
  (∀ v news' h' tk', R v news' → Fr h₀ L h' m → News h₀ L h' news' → Q v { s with heap := h', toks := tk' }) →
  wpAny (model b9u.prog w) (a9r hd dp un gd cn cs L a ccd cl []) (call (.ref f) vs) Q E s
theorem FnO.use {p : Program} {f : Addr} {d u : Nat} {R : Value → Led → Prop} {a : Addr} (C : FnO w ⟨p, loose, mean, mg, mb⟩ hd f d u vs news R) (B : Below A₀ base [] h₀) (F : Fr h₀ L s.heap m) (X : (K w.params).In base) (N : News h₀ L s.heap news) (T : Top p loose mean mg mb base) (hk : cs.kind = .function) (hdp : dp + d < recursionLimit) (hun : un + u < cLine) (h : ∀ (h' : Heap) (tk' : Nat) (C' : Value → Led → Prop), (C' = fun v n => Fr h₀ L h' m → News h₀ L h' n → Q v { s with heap := h', toks := tk' }) → ∀ v n, R v n → C' v n) :
  wpAny (model b9u.prog w) (a9r hd dp un gd cn cs L a ccd cl []) (call (.ref f) vs) Q E s := C _ _ _ _ _ _ _ _ _ _ _ _ _ _ _ _ B F X N T hk hdp hun fun v n h' tk' r => h h' tk' _ rfl v n r
section
variable {prog : Program} {w : World} {A₀ A : Around} {s : Shared} {base h₀ : Heap} {L : Addr} {m : b9p → Option Value} {news : Led} {K : Frag} {p : Program} {loose : List b9p} {mean : ExcName → Option Value} {mg mb : b9p → Option Value}
theorem a8M {qual : b9p} {params : Arguments} {dV kV doc pm cdv ct oc : Value} {an od : Option Addr} {osl : Array (Option Value)} {f : Addr} {args : Args} {binds : List (b9p × Value)} (B : Below A₀ base outer h₀) (F : Fr h₀ L s.heap m) (X₀ : K.In h₀) (N : News h₀ L s.heap news) (T : Top p loose mean mg mb h₀) (hA : A.frames = some (env :: outer)) (hf : env.frame = some L) (hke : env.scope.kind = .function) (ho : K.lookup f = some ⟨oc, od, .func (fnOf name qual params body scope dV kV doc pm an cdv ct), osl⟩) (hcd : codeIn K cdv qual = true) (hroom : A.depth < recursionLimit) (hbind : BindsTo s (fnOf name qual params body scope dV kV doc pm an cdv ct) args binds) (hloc : ∀ y ∈ binds, scope.names.lookup y.1 = some .local) (h : ∀ g L' h₁, Fr h₀ L g m → Fr g L' h₁ (fun y => binds.reverse.lookup y) → News g L' h₁ news → Below A base (env :: outer) g → K.In g → Top p loose mean mg mb g →
   wpAny (model prog w) (A.deeper (envOf qual scope L' f cdv)) (execs body (envOf qual scope L' f cdv))
    (fun fl s' => R (.ok (.ret (match fl with | .ret v => v | _ => .none))) s')
    (fun e s' => wpAny (model prog w) (A.deeper (envOf qual scope L' f cdv)) (leaving (envOf qual scope L' f cdv) e) (fun _ s'' => R (.error e) s'') (fun e' s'' => R (.error e') s'') s')
    { s with heap := h₁, toks := s.toks + binds.length }) (hco : scope.isCoroutine = false) (hgen : scope.isGenerator = false) (hk : scope.kind = .function) (hcell : ∀ x ∈ scope.names, x.2 ≠ .cell) : codeAny (model prog w) A (.call (.ref f) args) R s := by
 obtain ⟨FG, BG, st, lv⟩ := groundX (R := R) B F N hA hf hke
 refine codeAny_call_def (fd := fnOf name qual params body scope dV kV doc pm an cdv ct) (body := body) (binds := binds) hroom ((X₀.keeps F.keep) _ _ ho) rfl (T.nolimit.keeps F.keep) (codeRec_of (X₀.keeps F.keep) hcd) rfl hbind hcell hloc (fun h₁ hns hk₁ => ?_) hco hgen hk
 exact h _ s.heap.objs.size h₁ FG ⟨hns, fun b o e => hk₁ b o (of_hideAll _ e), c0o (hideAll_size _ _)⟩
  (fun p hp => ⟨hk₁ _ _ (N p hp).1, b9v (b9x (N p hp).1), hideAll_none _ (List.mem_map_of_mem hp)⟩) BG (X₀.keeps st) (T.keeps st)
end
theorem b5j : True := by
 k_with "Zj:call ref" => (k_here; ((with_reducible show wpAny _ _ (call (b9t 200) _) _ _ _); k_dflt (refine' Fn.use hFn ?k1 ?k2 ?k3 ?k4 ?k5 ?k6 ?k7 ?k8 ?_); (case k4 => k_extra "g:k4"); k_extra "g:c1"; k_extra "g:c2"; obtain ⟨rfl, rfl⟩ := hR'; (try clear hR'); k_extra "g:c3"; k_extra "g:c4"))
 k_with "Zj:call ref" => (k_here; ((with_reducible show wpAny _ _ (call (b9t 200) _) _ _ _); k_dflt (refine' Fn.use hFs ?k1 ?k2 ?k3 ?k4 ?k5 ?k6 ?k7 ?k8 ?_); (case k4 => k_extra "g:k4"); k_extra "g:c1"; k_extra "g:c2"; obtain ⟨DcO, kcO, bcO, dcO, a1c, t1c, rfl, rfl, lc1, lc2, lc3⟩ := hR'; (try clear hR'); k_extra "g:c3"; (try unfold b1J at N'); (try k_lt lc1); (try k_lt2 lc2); (try k_lt2 lc3); k_extra "g:c4"))
 k_with "Zj:call ref" => (k_here; ((with_reducible show wpAny _ _ (call (b9t 193) _) _ _ _); k_dflt (refine' FnX.use (a6c (by k_asm) (by k_asm) (by k_asm) (by k_asm)) ?k1 ?k2 ?k3 ?k4 ?k5 ?k6 ?k7 ?k8 ?_ ?_); (case k4 => k_extra "g:k4"); k_extra "g:c1"; k_whole; rotate_left; (k_extra "g:x2"; obtain ⟨hngd, rfl, hsub, hcx⟩ := hX'; (try clear hX'); k_extra "g:x3"); rotate_right; (k_extra "g:c2"; obtain ⟨hgd, TR, kR, vsR, rfl, rfl, hTR, hRow⟩ := hR'; (try clear hR'); k_extra "g:c3"; k_extra "g:c4")))
 k_with "Zj:call ref" => (k_here; ((with_reducible show wpAny _ _ (call (b9t 674) _) _ _ _); k_dflt (refine' FnX.use (b0l O2 hTm hRow hb hok) ?k1 ?k2 ?k3 ?k4 ?k5 ?k6 ?k7 ?k8 ?_ ?_); (case k4 => k_extra "g:k4"); k_extra "g:c1"; k_whole; rotate_left; (k_extra "g:x2"; obtain ⟨hDX, rfl, hsub2, hcx⟩ := hX'; (try clear hX'); k_extra "g:x3"); rotate_right; (k_extra "g:c2"; obtain ⟨σ1, rfl, O3, eS, hDR⟩ := hR'; (try clear hR'); k_extra "g:c3"; k_extra "g:c4")))
 trivial
theorem b0p {d : Deed} {c : Addr} (O : σ.ok w rest) (hC : CmdIn w.params d c rest) (hb : Bd σ) (hds : d.short) (hok : a3N σ d.row) :
  FnO w G none 764 16 460 [.ref σ.S, .ref c] (σ.led rest) (fun v n => ∃ code u, v = .str code u ∧ ((code = "" ∧ d.good ∧ ∃ σ' : StR, n = σ'.led rest ∧ σ'.ok w rest ∧ σ'.S = σ.S ∧ a2L σ d.row σ') ∨ (n = σ.led rest ∧ (¬ d.good ∨ a3c σ d.row) ∧ code = (a0B σ.rs d).getD "none"))) := by
 revert cl9 G w rest σ d c
 intros O hC hb hds hok
 ktr_unf
 k_steps
 ·(with_reducible rename News _ _ _ ((TR, _) :: _) => N8)
  obtain ⟨O2, N7, hm⟩ := O.push (add := [(TR, tup vsR.toArray kR)]) N8 (a5b hTR)
  have hTm : (TR, tup vsR.toArray kR) ∈ [(TR, tup vsR.toArray kR)] ++ rest := .head _
  clear N8
  k_steps
  ·(with_reducible rename News _ _ _ (StR.led σ1 _) => N8)
   dsimp only
   (try dsimp only [qk])
   exact hret _ _ _ _ ⟨b9q "", _, rfl, .inl ⟨rfl, hgd, σ1, rfl, ⟨O3.sd, O3.ob, O3.lo, O3.ou, O3.box, O3.nd, fun p hp => O3.ap p (b9s _ hp)⟩, eS, hDR⟩⟩ (a3f (env := envX cn cs L a ccd cl) (g := g') (g₂ := g') (L' := L') rfl (by assumption) KtsTurn.refl (by assumption)) (a1n (env := envX cn cs L a ccd cl) (g := g') (g₂ := g') (L' := L') (by assumption) KtsTurn.refl fun p hp => N8 p (StR.led_mono (fun q hq => b9s _ hq) hp))
  ·refine a3X (by assumption) (c0X (by assumption)) thX' hNs' (fun q hq => (N' q hq).2.1) rfl fun h₂ x₂ hN₂ => ?_
   obtain ⟨g₂, oe, T₂, oT, KT, F₂, B₂, XO, N₂, ⟨ts, hT1, hT2⟩, hTe, hne, hnT⟩ := a2O (by assumption) x₂ hN₂ (Fr.above (by assumption)) (fun q hq => (N' q hq).2.1)
   obtain ⟨hc, hd, vsx, hv, hv1, hv2⟩ := XO
   have X₂ := XB.keeps B₂.stays
   have T₂' := TB.keeps B₂.stays
   clear N' hNs' thX' x₂ hN₂
   refine a3M (C := 64) (.inr rfl) ?_
   have hge := (N₂ _ (.head _)).1
   k_steps
   (with_reducible rename News g₂ _ _ _ => N₃)
   (with_reducible rename Fr g₂ _ _ _ => F₃)
   refine ⟨⟨_, 0, rfl, (N₃ _ (.head _)).1⟩, by k_in, ⟨oe, (N₃ _ mt1).1, hc⟩, ?_⟩
   refine a2g F₃ (nc (N₃ _ mt1) (nc (N₃ _ mt2) fun p hp => N₃ p (tl3 hp))) hv hv1 hT1 hT2 hTe hnT fun h₃ F₄ N₄ => ?_
   obtain ⟨xs, O4, N₅, H4⟩ := a3E O N₄ (fun p hp => hsub2 p (StR.led_mono (fun q hq => b9s _ hq) hp)) hne hv hv2 hcx
   have hF := a3z (w := w) (G := G) H4 O4 (hC.mono fun p hp => b9s xs hp) hb hds
   have hsubs : ∀ p ∈ σ.led rest, p ∈ σ.led (xs ++ rest) := fun p hp => StR.led_mono (fun q hq => b9s _ hq) hp
   (try clear F₂); (try clear N₂); (try clear hge); clear N₃ N₄ F₃
   cases hcd : a0B σ.rs d with
   | none =>
    rw [hcd] at hF
    have hFn := hF
    clear hF
    k_steps
    (with_reducible rename News g₂ _ _ _ => N₆)
    dsimp only
    (try dsimp only [qk])
    exact hret _ _ _ _ ⟨b9q "none", _, rfl, .inr ⟨rfl, .inr hDX, by rw [hcd]; first | done | rfl⟩⟩ (a3f rfl (by assumption) KT (by assumption)) (a1n (by assumption) KT fun p hp => N₆ p (hsubs p hp))
   | some x =>
    rw [hcd] at hF
    have hFs := hF
    clear hF
    k_steps
    (with_reducible rename News g₂ _ _ _ => N₆)
    dsimp only
    (try dsimp only [qk])
    exact hret _ _ _ _ ⟨x, _, rfl, .inr ⟨rfl, .inr hDX, by rw [hcd]; first | done | rfl⟩⟩ (a3f rfl (by assumption) KT (by assumption)) (a1n (by assumption) KT fun p hp => N₆ p (tl3 (hsubs p hp)))
 ·refine a3X (by assumption) (c0X (by assumption)) thX' hNs' (fun q hq => (N' q hq).2.1) rfl fun h₂ x₂ hN₂ => ?_
  obtain ⟨g₂, oe, T₂, oT, KT, F₂, B₂, XO, N₂, ⟨ts, hT1, hT2⟩, hTe, hne, hnT⟩ := a2O (by assumption) x₂ hN₂ (Fr.above (by assumption)) (fun q hq => (N' q hq).2.1)
  obtain ⟨hc, hd, vsx, hv, hv1, hv2⟩ := XO
  have X₂ := XB.keeps B₂.stays
  have T₂' := TB.keeps B₂.stays
  clear N' hNs' thX' x₂ hN₂
  refine a3M (C := 52) (.inl rfl) ?_
  have hge := (N₂ _ (.head _)).1
  k_steps
  (with_reducible rename News g₂ _ _ _ => N₃)
  (with_reducible rename Fr g₂ _ _ _ => F₃)
  refine ⟨⟨_, 0, rfl, (N₃ _ (.head _)).1⟩, by k_in, ⟨oe, (N₃ _ mt1).1, hc⟩, ?_⟩
  refine a2g F₃ (nc (N₃ _ mt1) (nc (N₃ _ mt2) fun p hp => N₃ p (tl3 hp))) hv hv1 hT1 hT2 hTe hnT fun h₃ F₄ N₄ => ?_
  obtain ⟨xs, O4, N₅, H4⟩ := a3E O N₄ hsub hne hv hv2 hcx
  have hF := a3z (w := w) (G := G) H4 O4 (hC.mono fun p hp => b9s xs hp) hb hds
  have hsubs : ∀ p ∈ σ.led rest, p ∈ σ.led (xs ++ rest) := fun p hp => StR.led_mono (fun q hq => b9s _ hq) hp
  (try clear F₂); (try clear N₂); (try clear hge); clear N₃ N₄ F₃
  cases hcd : a0B σ.rs d with
  | none =>
   rw [hcd] at hF
   have hFn := hF
   clear hF
   k_steps
   (with_reducible rename News g₂ _ _ _ => N₆)
   dsimp only
   (try dsimp only [qk])
   exact hret _ _ _ _ ⟨b9q "none", _, rfl, .inr ⟨rfl, .inl hngd, by rw [hcd]; first | done | rfl⟩⟩ (a3f rfl (by assumption) KT (by assumption)) (a1n (by assumption) KT fun p hp => N₆ p (hsubs p hp))
  | some x =>
   rw [hcd] at hF
   have hFs := hF
   clear hF
   k_steps
   (with_reducible rename News g₂ _ _ _ => N₆)
   dsimp only
   (try dsimp only [qk])
   exact hret _ _ _ _ ⟨x, _, rfl, .inr ⟨rfl, .inl hngd, by rw [hcd]; first | done | rfl⟩⟩ (a3f rfl (by assumption) KT (by assumption)) (a1n (by assumption) KT fun p hp => N₆ p (tl3 (hsubs p hp)))
theorem era_Zk : True := trivial
noncomputable def everyW : List b9p := ["CAPABILITY", "NOOP", "LOGOUT", "ID"]
noncomputable def userW : List b9p := ["CREATE", "DELETE", "RENAME", "SUBSCRIBE", "UNSUBSCRIBE", "ENABLE", "SELECT", "EXAMINE", "LIST", "LSUB", "STATUS", "APPEND", "NAMESPACE", "IDLE"]
noncomputable def a3m (wd st : b9p) : Bool := if everyW.any (· == wd) then !(st == b9q "over") else if wd == b9q "LOGIN" then st == b9q "out" else if userW.any (· == wd) then (st == b9q "in" || st == b9q "selected") else st == b9q "selected"
theorem b0r (X : (K w.params).In s.heap) (h : Q (.bool (everyW.any (· == x))) s) : wpAny (model prog w) A (compareOp .In (.str x u) (.ref 154)) Q E s :=
 in_tuple_strs (ys := everyW) ⟨_, X 154 (b4s) (by k_is), rfl, _, rfl⟩ (.cons _ _ (.cons _ _ (.cons _ _ (.cons _ _ .nil)))) h
theorem b2j (X : (K w.params).In s.heap) (h : Q (.bool (userW.any (· == x))) s) : wpAny (model prog w) A (compareOp .In (.str x u) (.ref 157)) Q E s :=
 in_tuple_strs (ys := userW) ⟨_, X 157 (b5m) (by k_is), rfl, _, rfl⟩ (.cons _ _ (.cons _ _ (.cons _ _ (.cons _ _ (.cons _ _ (.cons _ _ (.cons _ _ (.cons _ _ (.cons _ _ (.cons _ _ (.cons _ _ (.cons _ _ (.cons _ _ (.cons _ _ .nil)))))))))))))) h
theorem b4z : True := by
 k_with "Zk:compareOp In str ref" => ((k_here; (with_reducible show wpAny _ _ (compareOp CmpOp.In (c0E _ _) (b9t 154)) _ _ _); k_dflt (refine b0r (by k_in) ?_)))
 k_with "Zk:compareOp In str ref" => ((k_here; (with_reducible show wpAny _ _ (compareOp CmpOp.In (c0E _ _) (b9t 157)) _ _ _); k_dflt (refine b2j (by k_in) ?_)))
 trivial
theorem a8O {st : b9p} : Fn w G none 172 2 60 [.str wd t, .str st u] news (fun v n => v = .bool (a3m wd st) ∧ n = news) := by
 revert cl9 G w wd u t news st
 have mk9 : a0b := trivial
 ktr_unf
 k_steps
 ·exact hret _ _ _ _ ⟨congrArg c1G (by unfold a3m; rw [if_pos (by assumption)]; rfl), rfl⟩ (by k_asm) (by k_asm)
 ·exact hret _ _ _ _ ⟨congrArg c1G (by unfold a3m; rw [if_neg (by rw [c0C]; assumption), if_pos (by assumption)]), rfl⟩ (by k_asm) (by k_asm)
 ·exact hret _ _ _ _ ⟨congrArg c1G (by unfold a3m; rw [if_neg (by rw [c0C]; assumption), if_neg (by rw [c0C]; assumption), if_pos (by assumption)]; rw [c1b]; simp only [c1I, List.any_nil, Bool.or_false, c2e, beq_iff_eq]; exact ⟨fun h => h.imp Eq.symm Eq.symm, fun h => h.imp Eq.symm Eq.symm⟩), rfl⟩ (by k_asm) (fun p hp => (by assumption : News _ _ _ _) p (.tail _ hp))
 ·exact hret _ _ _ _ ⟨congrArg c1G (by unfold a3m; rw [if_neg (by rw [c0C]; assumption), if_neg (by rw [c0C]; assumption), if_neg (by rw [c0C]; assumption)]), rfl⟩ (by k_asm) (by k_asm)
noncomputable def anyW : List b9p := ["NOOP", "LOGOUT", "CAPABILITY", "ID"]
noncomputable def selW : List b9p := ["FETCH", "UID STORE", "CLOSE", "EXPUNGE", "SEARCH"]
noncomputable def a0R (wd : b9p) : List b9p := if anyW.any (· == wd) then ["out", "in", "selected"] else if wd == b9q "LOGIN" then ["out"] else if selW.any (· == wd) then ["selected"] else ["in", "selected"]
theorem a3U : Fn w G none 771 2 60 [.str wd t] news (fun v n => a3x (a0R wd) v n news) := by
 revert cl9 G w wd t news
 have mk9 : a0b := trivial
 ktr_unf
 k_steps
 ·(with_reducible rename News h₀ L _ (_ :: _) => N8)
  have M := nc (N8 _ (.head _)) fun p (hp : p ∈ news) => N8 p (tl2 hp)
  refine hret _ _ _ _ ⟨_, _, _, rfl, rfl, fun p hp => hAll p (.tail _ hp), ?_⟩ (by k_asm) M
  unfold a0R
  rw [if_pos (by assumption)]
  exact (.cons _ _ (.cons _ _ (.cons _ _ .nil)))
 ·(with_reducible rename News h₀ L _ (_ :: _) => N8)
  have M := nc (N8 _ (.head _)) fun p (hp : p ∈ news) => N8 p (tl2 hp)
  refine hret _ _ _ _ ⟨_, _, _, rfl, rfl, fun p hp => hAll p (.tail _ hp), ?_⟩ (by k_asm) M
  unfold a0R
  rw [if_neg (by rw [c0C]; assumption), if_pos (by assumption)]
  exact (.cons _ _ .nil)
 ·(with_reducible rename News h₀ L _ (_ :: _) => N8)
  have M := nc (N8 _ (.head _)) fun p (hp : p ∈ news) => N8 p (tl3 hp)
  refine hret _ _ _ _ ⟨_, _, _, rfl, rfl, fun p hp => hAll p (tl2 hp), ?_⟩ (by k_asm) M
  unfold a0R
  rw [if_neg (by rw [c0C]; assumption), if_neg (by rw [c0C]; assumption), if_pos (by assumption)]
  exact (.cons _ _ .nil)
 ·(with_reducible rename News h₀ L _ (_ :: _) => N8)
  have M := nc (N8 _ (.head _)) fun p (hp : p ∈ news) => N8 p (tl3 hp)
  refine hret _ _ _ _ ⟨_, _, _, rfl, rfl, fun p hp => hAll p (tl2 hp), ?_⟩ (by k_asm) M
  unfold a0R
  rw [if_neg (by rw [c0C]; assumption), if_neg (by rw [c0C]; assumption), if_neg (by rw [c0C]; assumption)]
  exact (.cons _ _ (.cons _ _ .nil))
noncomputable def a3D : List b9p := ["NOOP", "LOGIN", "FETCH", "LIST", "CREATE", "UID STORE", "ID", "APPEND", "SELECT", "IDLE", "CLOSE"]
noncomputable def fourSt : List b9p := ["out", "in", "selected", "over"]
theorem a4b : ∀ wd ∈ a3D, fourSt.filter (a3m wd) = a0R wd := by decide +kernel
/- the plain law: names -/
theorem b2p {l : List Nat} (h : ∀ i : Nat, l[i]? ≠ some 47) : l.takeWhile (· != 47) = l ∧ l.dropWhile (· != 47) = [] := by
 induction l with
 | nil => exact ⟨rfl, rfl⟩
 | cons a l ih =>
  have h0 : a ≠ 47 := fun e => h 0 (congrArg some e)
  obtain ⟨h1, h2⟩ := ih fun i => h (i + 1)
  simp [h0, h1, h2]
theorem b2w {l : List Nat} (h : l[i]? = some 47) (k : ∀ k < i, l[k]? ≠ some 47) : l.takeWhile (· != 47) = l.take i ∧ l.dropWhile (· != 47) = l.drop i := by
 induction l generalizing i with
 | nil => exact nomatch (show (none : Option Nat) = some 47 from h)
 | cons a l ih => cases i with
  | zero =>
   have h0 : a = 47 := b9U h
   simp [h0]
  | succ i =>
   have h0 : a ≠ 47 := fun e => k 0 (Nat.succ_pos _) (congrArg some e)
   obtain ⟨h1, h2⟩ := ih (i := i) h fun j hj => k (j + 1) (Nat.succ_lt_succ hj)
   simp [h0, h1, h2]
theorem a3Q (x : b9p) : (a0U x).1.cps.toList = x.cps.toList.takeWhile (· != 47) ∧ (a0U x).2.cps.toList = x.cps.toList.dropWhile (· != 47) := by
 revert cl9 x
 have mk9 : a0b := trivial
 have es : b9q "/" = ⟨#[47]⟩ := by decide +kernel
 have ee : (b9q "").cps.toList = [] := by decide +kernel
 have at_ : ∀ i, PySem.StrLaws.At x ⟨#[47]⟩ x.length i ↔ x.cps.toList[i]? = some 47 := fun i => PySem.StrLaws.subAt_one x 47 i
 unfold a0U
 rw [es]
 rcases PyProof.Rows.find_whole x ⟨#[47]⟩ with ⟨h1, h2⟩ | ⟨i, h1, h2, h3⟩
 ·rw [h1, if_pos (by decide)]
  obtain ⟨a, b⟩ := b2p fun i e => h2 i ((at_ i).mpr e)
  exact ⟨a.symm, ee.trans b.symm⟩
 ·rw [h1, if_neg (by omega)]
  have h4 := (at_ i).mp h2
  obtain ⟨a, b⟩ := b2w h4 fun k hk e => h3 k hk ((at_ k).mpr e)
  have hi : i ≤ x.length := by
   obtain ⟨hlt, _⟩ := List.getElem?_eq_some_iff.mp h4
   rw [len_list]; omega
  exact ⟨(a2d x i).trans a.symm, (a3y x hi).trans b.symm⟩
theorem a8K (x : b9p) : (a0U x).1 ++ (a0U x).2 = x := by
 obtain ⟨a, b⟩ := a3Q x
 refine a1h ?_
 rw [a0F, a, b, List.takeWhile_append_dropWhile]
theorem a7s (h : a2M (a0U x).1 = b9q "INBOX" → (a0U x).1 = b9q "INBOX") : a0a x = x := by
 unfold a0a
 split
 ·rename_i hc
  rw [← h hc, a8K]
 ·rfl
theorem a5I (h : a0a x = x) (h' : a2M (a0U x).1 = b9q "INBOX") : (a0U x).1 = b9q "INBOX" := by
 unfold a0a at h
 rw [if_pos h'] at h
 have h2 := a8K x
 have h3 := congrArg (fun z : b9p => z.cps.toList) (h.trans h2.symm)
 rw [a0F, a0F] at h3
 exact (a1h (List.append_cancel_right h3)).symm
theorem a2v (h : a0D old z = true) : ∃ t : List Nat, z.cps.toList = old.cps.toList ++ t ∧ (t = [] ∨ ∃ r, t = 47 :: r) ∧ ∀ new, (a0g old new z).cps.toList = new.cps.toList ++ t := by
 revert cl9 old z
 intros h
 have es : (b9q "/").cps.toList = [47] := by decide +kernel
 have e := a2V h
 have hl := congrArg (fun z : b9p => z.cps.toList) e
 rw [a0F] at hl
 refine ⟨_, hl, ?_, fun new => by unfold a0g; rw [a0F]⟩
 unfold a0D at h
 rcases c2e _ _ |>.mp h with h | h
 ·left
  have h := c0j h
  rw [h] at hl
  have h3 := congrArg c0N hl
  rw [c0l, h] at *
  exact List.length_eq_zero_iff.mp (by omega)
 ·right
  obtain ⟨r, hr⟩ := starts_list.mp h
  rw [a0F, es, hl, c0M] at hr
  exact ⟨r, List.append_cancel_left hr⟩
theorem a9O {t : List Nat} (e : y.cps.toList = x.cps.toList ++ t) (ht : t = [] ∨ ∃ r, t = 47 :: r) : (a0U y).1 = (a0U x).1 := by
 refine a1h ?_
 rw [(a3Q y).1, (a3Q x).1, e, List.takeWhile_append]
 split
 ·rename_i hl
  have h1 : x.cps.toList.takeWhile (· != 47) = x.cps.toList := (List.takeWhile_prefix _).eq_of_length hl
  rw [h1]
  rcases ht with rfl | ⟨r, rfl⟩
  ·simp
  ·simp
 ·rfl
theorem a2D (x : b9p) (i : Nat) : x.cps[i]? = x.cps.toList[i]? := by simp
theorem a4K (hs : a0D old z = true) (hn : a0k new) (hz : a0k z) : a0k (a0g old new z) := by
 revert cl9 old new z
 intros hs hn hz
 obtain ⟨t, h1, h2, h3⟩ := a2v hs
 have h3 := h3 new
 obtain ⟨n1, n2, n3⟩ := hn
 obtain ⟨z1, z2, z3⟩ := hz
 have hlen : (a0g old new z).length = new.length + t.length := by rw [len_list, h3, c0l, ← len_list]
 have zlen : z.length = old.length + t.length := by rw [len_list, h1, c0l, ← len_list]
 have inN : ∀ j, j < new.length → (a0g old new z).cps[j]? = new.cps[j]? := fun j hj => by
  rw [a2D, a2D, h3, List.getElem?_append_left (by rw [← len_list]; exact hj)]
 have inT : ∀ j, new.length ≤ j → (a0g old new z).cps[j]? = z.cps[old.length + (j - new.length)]? := fun j hj => by
  rw [a2D, a2D, h3, h1, List.getElem?_append_right (by rw [← len_list]; exact hj), List.getElem?_append_right (by rw [← len_list]; exact c0y _ _), ← len_list, ← len_list, Nat.add_sub_cancel_left]
 have n0 := Nat.pos_of_ne_zero n2
 refine ⟨fun j hj => ?_, hlen ▸ b9F (c0t n0 (c0y _ _)), ?_⟩
 ·rcases Nat.lt_or_ge j new.length with h | h
  ·obtain ⟨c, a, b, d, e, f⟩ := n1 j h
   refine ⟨c, (inN j h).trans a, b, d, e, fun g => ⟨(f g).1, ?_⟩⟩
   rw [inN _ (c0a (c1m _ _) h)]
   exact (f g).2
  ·have hk : j - new.length < t.length := Nat.sub_lt_left_of_lt_add h (hlen ▸ hj)
   obtain ⟨c, a, b, d, e, f⟩ := z1 (old.length + (j - new.length)) (zlen ▸ Nat.add_lt_add_left hk _)
   refine ⟨c, (inT j h).trans a, b, d, e, fun g => ⟨b9F (c0t n0 h), ?_⟩⟩
   rcases Nat.eq_or_lt_of_le h with q | q
   ·rw [inN _ (by rw [← q]; exact Nat.sub_lt n0 Nat.one_pos), ← q]
    exact n3
   ·rw [inT _ (c3q q), Nat.sub_right_comm, ← c3H (c3G q)]
    exact (f g).2
 ·rcases Nat.eq_zero_or_pos t.length with q | q
  ·rw [hlen, q, Nat.add_zero, inN _ (Nat.sub_lt n0 Nat.one_pos)]
   exact n3
  ·rw [hlen, c3H q, inT _ (c0y _ _), Nat.add_sub_cancel_left, ← c3H q, ← zlen]
   exact z3
theorem a2R (hs : a0D old z = true) (hn : a0a new = new) : a0a (a0g old new z) = a0g old new z := by
 obtain ⟨t, h1, h2, h3⟩ := a2v hs
 have e := a9O (h3 new) h2
 refine a7s fun h => ?_
 rw [e] at h ⊢
 exact a5I hn h
theorem a7F (hs : a0D old z = true) (hn : b9S new = true) (hz : b9S z = true) : b9S (a0g old new z) = true := by
 revert cl9 old new z
 intros hs hn hz
 have mk9 : a0b := trivial
 obtain ⟨t, h1, h2, h3⟩ := a2v hs
 have h3 := h3 new
 unfold b9S at *
 rw [← Array.all_toList, c2H] at *
 intro c hc
 rw [h3] at hc
 rcases b9y.mp hc with hc | hc
 ·exact hn c hc
 ·exact hz c (by rw [h1]; exact b9s _ hc)
theorem b0N (hs : a0D old z = true) : (a0g old new z).length ≤ new.length + z.length := by
 obtain ⟨t, h1, h2, h3⟩ := a2v hs
 have h3 := h3 new
 rw [len_list, h3, c0l, len_list, len_list, h1, c0l]
 omega
/- sorted lists -/
theorem a7g (p : b9p) (l : List b9p) (h : risingS p l = true) : (p :: l).Pairwise fun a b => ¬ b.cps.toList < a.cps.toList := by
 induction l generalizing p with
 | nil => exact List.pairwise_singleton _ _
 | cons x r ih =>
  have h : (!PySem.Spec.ltCps x.cps.toList p.cps.toList && risingS x r) = true := h
  rw [c0h, ltCps_eq, c2Y, decide_eq_false_iff_not] at h
  have h2 := ih x h.2
  refine List.pairwise_cons.mpr ⟨fun y hy => ?_, h2⟩
  rcases b9r.mp hy with rfl | hy
  ·exact h.1
  ·exact fun q => List.rel_of_pairwise_cons h2 hy (Std.lt_of_lt_of_le q (List.not_lt.mp h.1))
theorem a2X {l : List b9p} (h : sortedS l = true) : l.Pairwise fun a b => ¬ b.cps.toList < a.cps.toList := by
 cases l with
 | nil => exact .nil
 | cons x r => exact a7g x r h
theorem a0K {l a b : List b9p} (h1 : Srt a l) (h2 : Srt b l) : a = b := by
 refine List.Perm.eq_of_pairwise (le := fun a b => ¬ b.cps.toList < a.cps.toList) (fun x y _ _ h h' => ?_) (a2X h1.2) (a2X h2.2) (h1.1.trans h2.1.symm)
 exact a1h (List.le_antisymm (List.not_lt.mp h) (List.not_lt.mp h'))
/- the plain law: deeds -/
theorem a0w : a0u rs x = a0q (xk rs) x := by
 unfold a0u a0q xk
 rw [List.any_map]; rfl
theorem a9U : a1P rs x = a4r (xk rs) x := by
 revert cl9 x rs
 unfold a1P a4r xk
 rw [List.find?_map]
 cases h : rs.find? fun r => decide (r.x = x) with
 | none => rw [show ((fun p : b9p × Int => decide (p.1 = x)) ∘ fun r : BoxR => (r.x, r.k)) = fun r : BoxR => decide (r.x = x) from rfl, h]; rfl
 | some r => rw [show ((fun p : b9p × Int => decide (p.1 = x)) ∘ fun r : BoxR => (r.x, r.k)) = fun r : BoxR => decide (r.x = x) from rfl, h]; rfl
theorem a2E : (xk rs).map (·.1) = rs.map (·.x) := by
 unfold xk; rw [c2t]; rfl
theorem a4S (p : b9p → Bool) : xk (rs.filter fun r => p r.x) = (xk rs).filter fun q => p q.1 := by
 unfold xk
 rw [List.filter_map]; rfl
theorem a6f {a b : List BoxR} : xk (a ++ b) = xk a ++ xk b := c0D
theorem a6j : (xk rs).length = rs.length := b9z _
noncomputable def b2n (bs : List (b9p × Int)) (nxt : Int) (subs : List b9p) (d : Deed) (bs' : List (b9p × Int)) (nxt' : Int) (subs' : List b9p) (code : b9p) : Prop := match d with
 | .create x => subs' = subs ∧ (bs', nxt', code) = a0p bs nxt (a0h x)
 | .rename x y => subs' = subs ∧ a9c bs nxt x y bs' nxt' code
 | .delete x => subs' = subs ∧ nxt' = nxt ∧
   ((a0q bs (a0a x) = false ∧ bs' = bs ∧ code = "NONEXISTENT") ∨ (a0q bs (a0a x) = true ∧ a0a x = b9q "INBOX" ∧ bs' = bs ∧ code = "CANNOT") ∨ (a0q bs (a0a x) = true ∧ a0a x ≠ b9q "INBOX" ∧ (bs' = bs.filter fun q => decide (q.1 ≠ a0a x)) ∧ code = ""))
 | .subscribe x => bs' = bs ∧ nxt' = nxt ∧
   ((a1m (a0a x) = false ∧ subs' = subs ∧ code = "none") ∨ (a1m (a0a x) = true ∧ code = "" ∧ ∃ us, us.Nodup ∧ (∀ z, z ∈ us ↔ z ∈ subs ++ [a0a x]) ∧ Srt subs' us))
 | .unsubscribe x => bs' = bs ∧ nxt' = nxt ∧
   (((subs.any fun y => y == a0a x) = false ∧ subs' = subs ∧ code = "none") ∨ ((subs.any fun y => y == a0a x) = true ∧ code = "" ∧ subs' = subs.filter fun y => y != a0a x))
noncomputable def Deed.drawn : Deed → Prop
 | .create x => x ∈ allNames
 | .delete x => x ∈ allNames
 | .rename x y => x ∈ allNames ∧ y ∈ allNames
 | .subscribe x => x ∈ allNames
 | .unsubscribe x => x ∈ allNames
structure NameOk (k : Nat) (x : b9p) : Prop where
 good : a0k x
 norm : a0a x = x
 len : x.length ≤ 20 * (k + 1)
 ok : b9S x = true
structure Inv (k : Nat) (σ : StR) : Prop where
 names : ∀ p ∈ xk σ.rs, NameOk k p.1
 count : σ.rs.length ≤ k + 1
 inbox : a0q (xk σ.rs) (b9q "INBOX") = true
 scount : σ.subs.length ≤ k
 sok : ∀ z ∈ σ.subs, b9S z = true
 ssrt : sortedS σ.subs = true
 snd : σ.subs.Nodup
 nxt : σ.nxt ≤ 2 + k
noncomputable def a5d (x : b9p) : Bool := decide (x.length ≤ 20) && (decide ((a0a x).length ≤ 20) && (b9S (a0a x) && (decide (a0a (a0h x) = a0h x) && (decide ((a0h x).length ≤ 20) && (b9S (a0h x) && (decide (a0a x = b9q "INBOX") || !a0D (a0a x) (b9q "INBOX")))))))
theorem a7J : ∀ x ∈ allNames, a5d x = true := by decide +kernel
structure NF (x : b9p) : Prop where
 l : x.length ≤ 20
 nl : (a0a x).length ≤ 20
 nok : b9S (a0a x) = true
 bn : a0a (a0h x) = a0h x
 bl : (a0h x).length ≤ 20
 bok : b9S (a0h x) = true
 inb : a0a x ≠ b9q "INBOX" → a0D (a0a x) (b9q "INBOX") = false
theorem nf (h : x ∈ allNames) : NF x := by
 revert cl9 x
 intros h
 have mk9 : a0b := trivial
 have h := a7J x h
 unfold a5d at h
 rw [c0h, c0h, c0h, c0h, c0h, c0h, decide_eq_true_eq, decide_eq_true_eq, decide_eq_true_eq, decide_eq_true_eq] at h
 exact ⟨h.1, h.2.1, h.2.2.1, h.2.2.2.1, h.2.2.2.2.1, h.2.2.2.2.2.1, fun q => by
  rcases (c2e _ _).mp h.2.2.2.2.2.2 with z | z
  ·exact absurd (of_decide_eq_true z) q
  ·simpa using z⟩
theorem NameOk.up {k : Nat} {x : b9p} (h : NameOk k x) : NameOk (k + 1) x := ⟨h.good, h.norm, by have := h.len; omega, h.ok⟩
theorem NameOk.bare (k : Nat) (h : x ∈ allNames) (g : a0k (a0h x)) : NameOk k (a0h x) := ⟨g, (nf h).bn, by have := (nf h).bl; omega, (nf h).bok⟩
theorem Inv.bd (I : Inv k σ) (hk : k ≤ 8) : Bd σ := by
 have h1 := I.count
 have h2 := I.scount
 have h3 := I.nxt
 refine ⟨by omega, by omega, by omega, fun r hr => ?_⟩
 have := (I.names (r.x, r.k) (b9I.mpr ⟨r, hr, rfl⟩)).len
 dsimp only at this
 omega
theorem Inv.short {d : Deed} (h : d.drawn) : d.short := by
 cases d with
 | create x => have := (nf (show x ∈ allNames from h)).l; show x.length ≤ 1800; omega
 | delete x => have := (nf (show x ∈ allNames from h)).l; show x.length ≤ 1800; omega
 | rename x y => have h1 := (nf (show x ∈ allNames from h.1)).l; have h2 := (nf (show y ∈ allNames from h.2)).l; exact ⟨by omega, by omega⟩
 | subscribe x => have := (nf (show x ∈ allNames from h)).l; show x.length ≤ 1800; omega
 | unsubscribe x => have := (nf (show x ∈ allNames from h)).l; show x.length ≤ 1800; omega
theorem Inv.deedOk (I : Inv k σ) {d : Deed} (h : d.drawn) : a3N σ d.row := by
 cases d with
 | create x => have := (nf (show x ∈ allNames from h)).bl; show (a0h x).length ≤ 1900; omega
 | delete x => have := (nf (show x ∈ allNames from h)).l; show x.length ≤ 1900; omega
 | rename x y =>
  have h1 := nf (show x ∈ allNames from h.1)
  have h2 := nf (show y ∈ allNames from h.2)
  have a1 := h1.l
  have a2 := h1.nl
  have a3 := h2.bl
  have a4 := h2.bn
  refine ⟨⟨by omega, by omega⟩, ⟨by rw [a4]; omega, by omega⟩, ?_⟩
  show a0k (a0a (a0h y)) → ∀ r ∈ σ.rs, a0D (a0a x) r.x = true → a0k (a0a (a0g (a0a x) (a0a (a0h y)) r.x)) ∧ a0a (a0g (a0a x) (a0a (a0h y)) r.x) = a0g (a0a x) (a0a (a0h y)) r.x
  rw [a4]
  intro hg r hr hs
  have e := a2R (new := a0h y) hs a4
  rw [e]
  exact ⟨a4K hs hg (I.names (r.x, r.k) (b9I.mpr ⟨r, hr, rfl⟩)).good, rfl⟩
 | subscribe x => have := (nf (show x ∈ allNames from h)).l; show x.length ≤ 1900; omega
 | unsubscribe x => have := (nf (show x ∈ allNames from h)).l; show x.length ≤ 1900; omega
theorem a6U (p : α → Bool) (l : List α) : (l.filter fun x => !p x).length + (l.filter p).length = l.length := by
 induction l with
 | nil => rfl
 | cons a l ih =>
  rw [c2I, c2I]
  cases p a
  ·exact (Nat.add_right_comm _ 1 _).trans (congrArg (· + 1) ih)
  ·exact congrArg (· + 1) ih
theorem hasB_true : a0q bs x = true ↔ ∃ p ∈ bs, p.1 = x := by
 unfold a0q
 simp
structure b2u (k : Nat) (σ σ' : StR) (bs' : List (b9p × Int)) (nxt' : Int) (subs' : List b9p) (code code' : b9p) : Prop where
 code : code = code'
 bs : xk σ'.rs = bs'
 nxt : σ'.nxt = nxt'
 subs : σ'.subs = subs'
 inv : Inv (k + 1) σ'
theorem Inv.up {k : Nat} {σ : StR} (I : Inv k σ) : Inv (k + 1) σ := by
 obtain ⟨a, c, c1, d, e, f, g, h⟩ := I
 exact ⟨fun p hp => (a p hp).up, by omega, c1, by omega, e, f, g, by omega⟩
theorem a9M {code code' : b9p} {bs' : List (b9p × Int)} {nxt' : Int} {subs' : List b9p} (I : Inv k σ) (h : code = code') (h1 : bs' = xk σ.rs) (h2 : nxt' = σ.nxt) (h3 : subs' = σ.subs) : b2u k σ σ bs' nxt' subs' code code' := ⟨h, h1.symm, h2.symm, h3.symm, I.up⟩
theorem a6i {a b : List (b9p × Int)} : a0q (a ++ b) x = (a0q a x || a0q b x) := List.any_append
theorem Inv.more (I : Inv k σ) (hx : NameOk (k + 1) x) (h1 : σ'.subs = σ.subs) (h2 : σ'.nxt = σ.nxt + 1) (hr : r.x = x) (h3 : σ'.rs = σ.rs ++ [r]) : Inv (k + 1) σ' := by
 obtain ⟨a, c, c1, d, e, f, g, h⟩ := I
 have hx3 : xk σ'.rs = xk σ.rs ++ [(r.x, r.k)] := by rw [h3, a6f]; rfl
 refine ⟨fun p hp => ?_, by rw [h3, c0l, c1N]; omega, by rw [hx3, a6i, c1]; rfl, by rw [h1]; omega, by rw [h1]; exact e, by rw [h1]; exact f, by rw [h1]; exact g, by omega⟩
 rw [hx3] at hp
 rcases b9y.mp hp with hp | hp
 ·exact (a p hp).up
 ·rw [b9C.mp hp, hr]; exact hx
theorem Inv.same (I : Inv k σ) (h1 : σ'.rs = σ.rs) (h2 : σ'.nxt = σ.nxt) (a : σ'.subs.length ≤ k + 1) (b : ∀ z ∈ σ'.subs, b9S z = true) (c : sortedS σ'.subs = true) (d : σ'.subs.Nodup) : Inv (k + 1) σ' := by
 have J := I.up
 exact ⟨by rw [h1]; exact J.names, by rw [h1]; exact J.count, by rw [h1]; exact J.inbox, a, b, c, d, by rw [h2]; exact J.nxt⟩
theorem a5m {l : List b9p} (h : l.Pairwise fun a b => ¬ b.cps.toList < a.cps.toList) : sortedS l = true := sortedS_of_pairwise l (h.imp fun {a b} q => by rw [ltCps_eq, decide_eq_false_iff_not]; exact q)
noncomputable def HeardR (σ : StR) (d : Deed) (σ' : StR) (code : b9p) : Prop :=
 (code = "" ∧ d.good ∧ a2L σ d.row σ') ∨ (σ = σ' ∧ (¬ d.good ∨ a3c σ d.row) ∧ code = (a0B σ.rs d).getD "none")
section
variable {k : Nat} {σ σ' : StR} {bs' : List (b9p × Int)} {nxt' : Int} {subs' : List b9p} {code code' x y : b9p}
theorem a5A (I : Inv k σ) (hx : x ∈ allNames) (H : HeardR σ (.create x) σ' code) (Lw : b2n (xk σ.rs) σ.nxt σ.subs (.create x) bs' nxt' subs' code') : b2u k σ σ' bs' nxt' subs' code code' := by
 revert cl9 k σ σ' bs' nxt' subs' code code' x
 intros I hx H Lw
 obtain ⟨rfl, hl⟩ := Lw
 have F := nf hx
 rcases H with ⟨rfl, hg, hr⟩ | ⟨rfl, hx', rfl⟩
 ·obtain ⟨g, hn, e1, e2, r, er, ek, e3⟩ := hr
  rw [F.bn] at g hn er
  rw [a0w] at hn
  rw [lc3 hn (goodB_iff.mpr g)] at hl
  cases hl
  refine ⟨rfl, ?_, e2, e1, I.more (NameOk.bare _ hx g) e1 e2 er e3⟩
  rw [e3, a6f]
  show xk σ.rs ++ [(r.x, r.k)] = _
  rw [er, ek]
 ·cases hb : a0q (xk σ.rs) (a0h x) with
  | true =>
   rw [lc1 hb] at hl
   cases hl
   refine a9M I ?_ rfl rfl rfl
   unfold a0B
   dsimp only [Option.getD]
   rw [F.bn, a0w, hb]; rfl
  | false =>
   have hng : a1m (a0h x) = false := by
    rw [c2D]
    intro hg
    have hg := goodB_iff.mp hg
    rcases hx' with h | h
    ·exact h hg
    ·refine h ⟨?_, ?_⟩
     ·rw [F.bn]; exact hg
     ·rw [F.bn, a0w]; exact hb
   rw [lc2 hb hng] at hl
   cases hl
   refine a9M I ?_ rfl rfl rfl
   unfold a0B
   dsimp only [Option.getD]
   rw [F.bn, a0w, hb]; rfl
theorem a5v (I : Inv k σ) (hx : x ∈ allNames) (H : HeardR σ (.delete x) σ' code) (Lw : b2n (xk σ.rs) σ.nxt σ.subs (.delete x) bs' nxt' subs' code') : b2u k σ σ' bs' nxt' subs' code code' := by
 revert cl9 k σ σ' bs' nxt' subs' code code' x
 intros I hx H Lw
 obtain ⟨rfl, rfl, hl⟩ := Lw
 rcases H with ⟨rfl, hg, hr⟩ | ⟨rfl, hx', rfl⟩
 ·obtain ⟨h1, h2, e1, e2, e3⟩ := hr
  rw [a0w] at h1
  rcases hl with ⟨a, _, _⟩ | ⟨_, a, _⟩ | ⟨_, _, rfl, rfl⟩
  ·exact absurd (h1.symm.trans a) (by decide)
  ·exact absurd a h2
  ·have hx3 : xk σ'.rs = (xk σ.rs).filter fun q => decide (q.1 ≠ a0a x) := by rw [e3, a4S (fun z => decide (z ≠ a0a x))]
   refine ⟨rfl, hx3, e2, e1, ?_⟩
   obtain ⟨a, c, c1, d, e, f, g, h⟩ := I.up
   refine ⟨fun p hp => ?_, ?_, ?_, by rw [e1]; exact d, by rw [e1]; exact e, by rw [e1]; exact f, by rw [e1]; exact g, by rw [e2]; exact h⟩
   ·rw [hx3] at hp
    exact a p (List.mem_filter.mp hp).1
   ·rw [e3]
    exact b9W (c1A _ _) c
   ·rw [hx3, a1M (p := fun z => decide (z ≠ a0a x)) (decide_eq_true (b9A h2))]
    exact c1
 ·have hc : (a0B σ.rs (.delete x)).getD "none" = if a0q (xk σ.rs) (a0a x) then b9q "CANNOT" else b9q "NONEXISTENT" := by
   show (if a0u σ.rs (a0a x) = true then _ else _) = _
   rw [a0w]
  rcases hl with ⟨a, rfl, rfl⟩ | ⟨a, _, rfl, rfl⟩ | ⟨a, b, _, _⟩
  ·exact a9M I (by rw [hc, a]; rfl) rfl rfl rfl
  ·exact a9M I (by rw [hc, a]; rfl) rfl rfl rfl
  ·exfalso
   rcases hx' with h | h
   ·exact h trivial
   ·rcases h with h | h
    ·rw [a0w, a] at h; cases h
    ·exact b h
theorem b0z (h : ss.Perm (rs.map (·.x))) : (a0C old ss).length = (rs.filter fun r => a0D old r.x).length := by
 unfold a0C
 rw [(h.filter _).length_eq, List.filter_map, b9z]; rfl
theorem a5K (I : Inv k σ) (hx : x ∈ allNames) (hy : y ∈ allNames) (H : HeardR σ (.rename x y) σ' code) (Lw : b2n (xk σ.rs) σ.nxt σ.subs (.rename x y) bs' nxt' subs' code') : b2u k σ σ' bs' nxt' subs' code code' := by
 revert cl9 k σ σ' bs' nxt' subs' code code' x y
 intros I hx hy H Lw
 obtain ⟨rfl, hl⟩ := Lw
 have F := nf hx
 have F2 := nf hy
 rcases H with ⟨rfl, hg, hr⟩ | ⟨rfl, hx', rfl⟩
 ·obtain ⟨g, h1, h2, e1, hc⟩ := hr
  rw [F2.bn] at g h2 hc
  rw [a0w] at h1 h2
  rcases hl with ⟨a, _⟩ | ⟨_, a, _⟩ | ⟨_, _, a, _⟩ | ⟨_, _, _, a, rfl, rfl, rfl⟩ | ⟨_, _, _, a, ss, hs, hl⟩
  ·exact absurd (h1.symm.trans a) (by decide)
  ·exact absurd (a.symm.trans h2) (by decide)
  ·exact absurd ((goodB_iff.mpr g).symm.trans a) (by decide)
  ·rcases hc with ⟨_, e2, r, er, ek, e3⟩ | ⟨hn, _⟩
   ·refine ⟨rfl, ?_, e2, e1, I.more (NameOk.bare _ hy g) e1 e2 er e3⟩
    rw [e3, a6f]
    show xk σ.rs ++ [(r.x, r.k)] = _
    rw [er, ek]
   ·exact absurd a hn
  ·rcases hc with ⟨hn, _⟩ | ⟨_, e2, ss2, ms, hs2, hno, e3, ems⟩
   ·exact absurd hn a
   rw [a2E] at hs
   have es := a0K hs hs2
   subst es
   rcases hl with ⟨⟨z, hz, hz2⟩, _⟩ | ⟨_, rfl, rfl, rfl⟩
   ·have := hno z hz
    rw [a0w] at this
    exact absurd (hz2.symm.trans this) (by decide)
   have hx3 : xk σ'.rs = ((xk σ.rs).filter fun p => !a0D (a0a x) p.1) ++ (a0C (a0a x) ss).map fun z => (a0g (a0a x) (a0h y) z, a4r (xk σ.rs) z) := by
    rw [e3, a6f, a4S (fun z => !a0D (a0a x) z), ems]
    congr 1
    refine List.map_congr_left fun z _ => ?_
    rw [a9U]
   refine ⟨rfl, hx3, e2, e1, ?_⟩
   have hlen : σ'.rs.length = σ.rs.length := by
    have h3 := a6U (fun r : BoxR => a0D (a0a x) r.x) σ.rs
    have h4 := congrArg c0N ems
    rw [a6j, b9z, b0z hs.1] at h4
    rw [e3, c0l]
    omega
   obtain ⟨a1, c, c1, d, e, f, g1, h⟩ := I.up
   refine ⟨fun p hp => ?_, by rw [hlen]; exact c, ?_, by rw [e1]; exact d, by rw [e1]; exact e, by rw [e1]; exact f, by rw [e1]; exact g1, by rw [e2]; exact h⟩
   ·rw [hx3] at hp
    rcases b9y.mp hp with hp | hp
    ·exact a1 p (List.mem_filter.mp hp).1
    ·obtain ⟨z, hz, rfl⟩ := b9I.mp hp
     obtain ⟨hz1, hz2⟩ := List.mem_filter.mp hz
     have hz3 : z ∈ (xk σ.rs).map (·.1) := by rw [a2E]; exact hs.1.mem_iff.mp hz1
     obtain ⟨q, hq, rfl⟩ := b9I.mp hz3
     have hp := I.names q hq
     have l1 := b0N (new := a0h y) hz2
     have l2 := hp.len
     have l3 := F2.bl
     exact ⟨a4K hz2 g hp.good, a2R hz2 F2.bn, by dsimp only; omega, a7F hz2 F2.bok hp.ok⟩
   ·rw [hx3, a6i, a1M (p := fun z => !a0D (a0a x) z) (by rw [F.inb a]; rfl), c1]; rfl
 ·have hc : (a0B σ.rs (.rename x y)).getD "none" = if a0q (xk σ.rs) (a0a x) then (if a0q (xk σ.rs) (a0h y) then b9q "ALREADYEXISTS" else b9q "CANNOT") else b9q "NONEXISTENT" := by
   show (if a0u σ.rs (a0a x) = true then (if a0u σ.rs (a0a (a0h y)) = true then _ else _) else _) = _
   rw [a0w, a0w, F2.bn]
  have bad : ∀ {p : Prop}, a0q (xk σ.rs) (a0a x) = true → a0q (xk σ.rs) (a0h y) = false → a1m (a0h y) = true → (a0a x ≠ b9q "INBOX" → (∃ r ∈ σ.rs, a0D (a0a x) r.x = true ∧ a0q (xk σ.rs) (a0g (a0a x) (a0h y) r.x) = true) → p) → a0a x ≠ b9q "INBOX" ∨ a0a x = b9q "INBOX" → p := by
   intro p a1 a2 a3 a4 _
   rcases hx' with h | h
   ·exact absurd (goodB_iff.mp a3) h
   ·rcases h with h | h | h | ⟨h, r, hr, h5, h6⟩
    ·rw [a0w, a1] at h; cases h
    ·rw [F2.bn] at h; exact absurd (goodB_iff.mp a3) h
    ·rw [F2.bn, a0w, a2] at h; cases h
    ·rw [F2.bn, a0w] at h6
     exact a4 h ⟨r, hr, h5, h6⟩
  rcases hl with ⟨a, rfl, rfl, rfl⟩ | ⟨a, b, rfl, rfl, rfl⟩ | ⟨a, b, c, rfl, rfl, rfl⟩ | ⟨a, b, c, d, _⟩ | ⟨a, b, c, d, ss, hs, hl⟩
  ·exact a9M I (by rw [hc, a]; rfl) rfl rfl rfl
  ·exact a9M I (by rw [hc, a, b]; rfl) rfl rfl rfl
  ·exact a9M I (by rw [hc, a, b]; rfl) rfl rfl rfl
  ·exact bad a b c (fun h => absurd d h) (.inr d)
  ·rcases hl with ⟨_, rfl, rfl, rfl⟩ | ⟨hno, _⟩
   ·exact a9M I (by rw [hc, a, b]; rfl) rfl rfl rfl
   ·refine bad a b c (fun _ ⟨r, hr, h5, h6⟩ => ?_) (.inl d)
    rw [a2E] at hs
    have hz : r.x ∈ a0C (a0a x) ss := List.mem_filter.mpr ⟨hs.1.mem_iff.mpr (b9I.mpr ⟨r, hr, rfl⟩), h5⟩
    exact absurd (h6.symm.trans (hno _ hz)) (by decide)
theorem a3v (I : Inv k σ) (hx : x ∈ allNames) (H : HeardR σ (.subscribe x) σ' code) (Lw : b2n (xk σ.rs) σ.nxt σ.subs (.subscribe x) bs' nxt' subs' code') : b2u k σ σ' bs' nxt' subs' code code' := by
 revert cl9 k σ σ' bs' nxt' subs' code code' x
 intros I hx H Lw
 obtain ⟨rfl, rfl, hl⟩ := Lw
 have F := nf hx
 rcases H with ⟨rfl, hg, hr⟩ | ⟨rfl, hx', rfl⟩
 ·obtain ⟨g, e1, e2, e3⟩ := hr
  rcases hl with ⟨a, _⟩ | ⟨_, rfl, us, hu, hus, hs⟩
  ·exact absurd ((goodB_iff.mpr g).symm.trans a) (by decide)
  have hss := I.snd
  have hsl := I.scount
  split at e3
  ·rename_i hany
   obtain ⟨z, hz, ez⟩ := c0R.mp hany
   have ez := c0j ez
   have hp : us.Perm σ.subs := (List.perm_ext_iff_of_nodup hu hss).mpr fun z' => by
    rw [hus]
    simp only [b9y, b9C]
    exact ⟨fun h => h.elim id fun h => h ▸ ez ▸ hz, .inl⟩
   have e4 : σ.subs = subs' := a0K (l := us) ⟨hp.symm, I.ssrt⟩ hs
   exact ⟨rfl, by rw [e1], e2, e3.trans e4, I.same e1 e2 (by rw [e3]; omega) (by rw [e3]; exact I.sok) (by rw [e3]; exact I.ssrt) (by rw [e3]; exact hss)⟩
  ·rename_i hany
   have hnin : a0a x ∉ σ.subs := fun h => hany (c0R.mpr ⟨_, h, beq_self_eq_true _⟩)
   have hnd : (σ.subs ++ [a0a x]).Nodup := by
    rw [c1g]
    refine ⟨hss, by simp, fun y hy z hz => ?_⟩
    intros hR9; rcases hR9 with rfl
    rw [b9C.mp hz] at hy
    exact hnin hy
   have hp : us.Perm (σ.subs ++ [a0a x]) := (List.perm_ext_iff_of_nodup hu hnd).mpr hus
   have e4 : σ'.subs = subs' := a0K (l := σ.subs ++ [a0a x]) e3 ⟨hs.1.trans hp, hs.2⟩
   refine ⟨rfl, by rw [e1], e2, e4, I.same e1 e2 ?_ ?_ e3.2 (e3.1.nodup_iff.mpr hnd)⟩
   ·rw [e3.1.length_eq, c0l, c1N]; omega
   ·intro z hz
    have := e3.1.mem_iff.mp hz
    simp only [b9y, b9C] at this
    rcases this with h | h
    ·exact I.sok z h
    ·rw [h]; exact F.nok
 ·rcases hl with ⟨a, rfl, rfl⟩ | ⟨a, _⟩
  ·exact a9M I rfl rfl rfl rfl
  ·exfalso
   rcases hx' with h | h
   ·exact h trivial
   ·exact h (goodB_iff.mp a)
theorem a2s (I : Inv k σ) (H : HeardR σ (.unsubscribe x) σ' code) (Lw : b2n (xk σ.rs) σ.nxt σ.subs (.unsubscribe x) bs' nxt' subs' code') : b2u k σ σ' bs' nxt' subs' code code' := by
 revert cl9 k σ σ' bs' nxt' subs' code code' x
 intros I H Lw
 obtain ⟨rfl, rfl, hl⟩ := Lw
 rcases H with ⟨rfl, hg, hr⟩ | ⟨rfl, hx', rfl⟩
 ·obtain ⟨g, e1, e2, e3⟩ := hr
  rcases hl with ⟨a, _⟩ | ⟨_, rfl, rfl⟩
  ·exact absurd (g.symm.trans a) (by decide)
  refine ⟨rfl, by rw [e1], e2, e3, I.same e1 e2 ?_ ?_ ?_ ?_⟩
  ·rw [e3]
   have := c1A (fun y => y != a0a x) σ.subs
   have := I.scount
   omega
  ·rw [e3]
   exact fun z hz => I.sok z (List.mem_filter.mp hz).1
  ·rw [e3]
   exact a5m ((a2X I.ssrt).filter _)
  ·rw [e3]
   exact I.snd.filter _
 ·rcases hl with ⟨a, rfl, rfl⟩ | ⟨a, _⟩
  ·exact a9M I rfl rfl rfl rfl
  ·exfalso
   rcases hx' with h | h
   ·exact h trivial
   ·exact absurd (a.symm.trans h) (by decide)
theorem a4A (I : Inv k σ) {d : Deed} (hd : d.drawn) (H : HeardR σ d σ' code) (Lw : b2n (xk σ.rs) σ.nxt σ.subs d bs' nxt' subs' code') : b2u k σ σ' bs' nxt' subs' code code' := by
 cases d with
 | create x => exact a5A I hd H Lw
 | delete x => exact a5v I hd H Lw
 | rename x y => exact a5K I hd.1 hd.2 H Lw
 | subscribe x => exact a3v I hd H Lw
 | unsubscribe x => exact a2s I H Lw
theorem HeardR.refused {d : Deed} (H : HeardR σ d σ' code) (h : code ≠ "") : σ = σ' := by
 rcases H with ⟨rfl, _⟩ | ⟨rfl, _⟩
 ·exact absurd rfl h
 ·rfl
end
theorem era_Zl : True := trivial
theorem b3X : True := by
 k_with "Zl:exec Assign cons ListComp" => ((k_here; k_dflt (refine c3z (F₀ := by k_asm) (by rfl) (by with_unfolding_all rfl) (by with_unfolding_all rfl) (by decide) (by rfl) (by decide) (by rfl) (by rfl) (by rfl) ?_)))
 k_with "Zl:CompSrc" => ((k_here; refine a0c ?_))
 k_with "Zl:exec If" => ((k_here; (fail_if_success (guard_hyp hGo9 : a0b)); refine a0c ?_))
 k_with "Zl:exec For Name Name cons nil" => ((k_here; (rename Fr _ _ _ _ => lF'); (with_unfolding_all refine' c1O lF' ?_; k_whole)))
 k_with "Zl:pyIter ref" => ((k_here; refine a0c ?_))
 k_with "Zl:execs nil" => ((k_here; refine wpAny_execs_nil ?_))
 trivial
theorem a5R {n : Led} (h : DatAll n vs (ns.map .int)) : IntsAre vs ns := by
 induction ns generalizing vs with
 | nil => cases h; exact .nil
 | cons k ns ih => cases h with
  | cons a b => cases a; exact .cons _ _ (ih b)
theorem b2x (n : Nat) : 1 ≤ (10 : Int) ^ n := Int.pow_pos (by decide)
noncomputable def b0V (h₀ : Heap) (L : Addr) (m : b9p → Option Value) (n : Led) (s : Shared) (f : Flow) (s' : Shared) : Prop := f = .next ∧ ∃ h' tk g t, s' = { s with heap := h', toks := tk } ∧ 0 ≤ g ∧ Fr h₀ L h' (fun y => if y = "great" then some (.int g t) else m y) ∧ News h₀ L h' n
theorem b1s {h₀ : Heap} {L : Addr} {m : b9p → Option Value} {n : Led} {s : Shared} {h' : Heap} {tk : Nat} {t : Tok} (hm : m "great" = some (.int 0 t)) (F : Fr h₀ L h' m) (N : News h₀ L h' n) : b0V h₀ L m n s .next { s with heap := h', toks := tk } :=
 ⟨rfl, h', tk, 0, t, rfl, c2C _, by rwa [show (fun y : b9p => if y = "great" then some (.int 0 t) else m y) = m from funext fun y => by by_cases e : y = "great"; rw [if_pos e, e, hm]; rw [if_neg e]], N⟩
theorem b1Q {n : Led} {x : Sem Flow} {Q : Flow → Shared → Prop} (F : Fr h₀ L s.heap m) (N : News h₀ L s.heap n) (h : wpAny M A x (b0V h₀ L m n s) E s) (k : ∀ f s', b0V h₀ L m n s f s' → Q f s') : wpAny M A x Q E s := b9L h k fun _ _ h => h
theorem b2t {h₀ : Heap} {L : Addr} {m : b9p → Option Value} {n : Led} {s : Shared} {h' : Heap} {tk : Nat} {t : Tok} {g : Int} {v : Option Value} (hg : 0 ≤ g) (F : Fr h₀ L h' (fun y => if y = "great" then some (.int g t) else if y = "great" then v else m y)) (N : News h₀ L h' n) : b0V h₀ L (fun y => if y = "great" then v else m y) n s .next { s with heap := h', toks := tk } :=
 ⟨rfl, h', tk, g, t, rfl, hg, F, N⟩
noncomputable def b8H (m₀ : b9p → Option Value) (n₀ : Led) (m : b9p → Option Value) (n : Led) : Prop := n = n₀ ∧ ∃ a t c, m = fr2 "cell" "state" m₀ c (some (.int a t)) ∧ 0 ≤ a ∧ a < 2147483647
theorem b3c {l : List Int} {r1 r2 : Int} {t1 t2 t3 : Tok} (h1 : 0 ≤ r1) (h2 : 0 ≤ r2) (h3 : r2 < 2147483647) (hI : IntsAre ys l) (hl : ys.length < 1000000) (hne : @b9w Nat _ C P) : PenOk P C (listOf #[.ref C, .int r1 t1, .int r2 t2, .int 0 t3] c) (listOf ys.toArray ys.length) 0 :=
 ⟨⟨_, _, _, _, _, _, _, rfl, h1, h2, h3, c2C _, c2C _⟩, ⟨_, _, _, rfl, hI, hl⟩, b9v hne⟩
theorem a7n {a : Addr} (B : Below A₀ base [] h₀) (F : Fr h₀ L s.heap m) (XB : (K w.params).In base) (N : News h₀ L s.heap news) (TB : Top G.p G.loose G.mean G.mg G.mb base) (hk : cs.kind = .function) (hdp : dp + 3 < recursionLimit) (hun : un + 90 < cLine) (hS : base.IsList S vs.toArray) (hI : IntsAre vs ns) (hn : ns.length ≤ 63) (hret : ∀ v news' h' tk', (∃ P C po co, v = .ref P ∧ news' = (P, po) :: (C, co) :: news ∧ PenOk P C po co 0 ∧ (∀ q ∈ news, q.1 ≠ C) ∧ ∀ q ∈ (C, co) :: news, q.1 < P) → Fr h₀ L h' m → News h₀ L h' news' → Q v { s with heap := h', toks := tk' }) :
  wpAny (model b9u.prog w) (a9r none dp un gd cn cs L a ccd cl []) (call (.ref 679) [.ref S]) Q E s := by
 revert cl9 G dp un w m cn vs gd cs ccd cl A₀ base h₀ L S s Q E ns news a
 intros B F XB N TB hk hdp hun hS hI hn hret
 have mk9 : a0b := trivial
 have X := XB.keeps B.stays
 have T := TB.keeps B.stays
 have hL0 : h₀.IsList S vs.toArray := hS.at fun o e => B.stays _ _ e
 refine wpAny_call ?_
 k_dflt cell_enter
 have hL1 : g'.IsList S vs.toArray := hL0.at fun o e => FG'.keep _ _ e
 k_steps
 (with_reducible rename IntsAre _ (c1p 48 ns) => hI9)
 (with_reducible rename News g' L' _ ((_, _) :: news) => N9)
 (with_reducible rename Fr g' L' _ _ => F9)
 have hl9 := hI9.length
 have hl48 : (c1p 48 ns).length ≤ 48 := List.length_take_le _ _
 unfold a0f
 refine c1K (its := c0x _) rfl F9 N9 (.head _) (by rw [b9O, b9H]; omega) ?_; intro g9
 refine a1k (fun i => .int ((c1p 48 ns).getD i 0)) (fun n hb => .inr ⟨_, hb _ (.head _), rfl, _, rfl⟩) ?_ ?_
 ·revert cm9 i news9; intro hi hb v I oI C oC D ys m₂ h tk E' hv hC' hx' F9 N9 off ne
  obtain ⟨z, tz, rfl, hz⟩ := a2f hI9 (by simpa using hv)
  as_aux_lemma =>
   (try clear mk9)
   k_steps
   refine a4u (add := []) F9 N9 (fun _ h => nomatch h) ?_
   rw [show (c1p 48 ns).getD i 0 = z from by rw [c0I, hz]; rfl]
   exact .int _ _
 ·revert cm9 ys add; intro ha hd
  rw [show (c1s (c0x _).size).map (fun i => Dat.int ((c1p 48 ns).getD i 0)) = (c1p 48 ns).map .int from by
   rw [b9H, hl9]
   generalize c1p 48 ns = l9
   refine c2a (by simp) ?_; revert cm9 i h1 h2
   have h3 : i < l9.length := by simpa using h2
   simp [h3]] at hd
  have hI8 := a5R hd
  have hl8 := hI8.length
  unfold LCg.FinA
  revert cm9 D2 h2 tk2; intro F2 N2 off2
  have off3 := a0T off2
  have N3 : News g' L' h2 ((D2, listOf ys.toArray ys.length) :: news) := nc (N2 _ (.head _)) fun p hp => N2 p (.tail _ (b9s _ (.tail _ hp)))
  clear N2
  k_steps
  (with_reducible rename Fr g' L' _ _ => F8)
  (with_reducible rename News g' L' _ _ => N8)
  unfold a0f
  refine b1Q F8 N8 ?_ ?_
  ·have hGo9 : a0b := trivial
   k_steps
   all_goals first | exact b2t (fm0 (b2x _)) (by k_asm) (by k_asm) | exact b1s rfl (by k_asm) (by k_asm)
  ·revert cm9 f s'; intro hR9; obtain ⟨rfl, h3, tk3, g9, t9, rfl, hg9, F7, N7⟩ := hR9
   k_steps
   unfold a0f
   (with_reducible rename Fr g' L' _ _ => F6)
   (with_reducible rename News g' L' _ _ => N6)
   refine a1Z (ax := D2) (its := ys.toArray) (nn := ys.length) (fun i m n => b8H _ ((D2, listOf ys.toArray ys.length) :: news) m n) (fun i m n h => h.1 ▸ .head _) rfl F6 N6 ⟨rfl, _, _, _, a2Y, by decide, by decide⟩ ?_ ?_
   ·revert cm9 i v m₁ news₁ I oI h tk; intro hi hv hR9; obtain ⟨rfl, a9, ta9, c9, rfl, ha1, ha2⟩ := hR9; intro offI F5 N5
    obtain ⟨z, tz, rfl, hz⟩ := a2f hI8 (by simpa using hv)
    unfold fr2 at F5
    k_steps
    exact a0l (by k_asm) (by assumption) (fun p hp => hp) offI ⟨rfl, _, _, _, a4d, fm0 (by decide), fm1 (by decide)⟩
   ·revert cm9 m₁ news₁ h tk; intro hR9; obtain ⟨rfl, a9, ta9, c9, rfl, ha1, ha2⟩ := hR9; intro F5 N5
    unfold fr2 at F5
    k_steps
    (with_reducible rename News h₀ _ _ _ => M9)
    exact hret _ _ _ _ ⟨_, D2, _, _, rfl, rfl, b3c hg9 ha1 ha2 (by assumption) (by omega) (hAll _ (.head _)), fun q hq => off3 q (b9s _ (.tail _ hq)), hAll⟩ (by k_asm) M9
theorem era_Zm : True := trivial
noncomputable def a1W (n : Nat) : List Stmt := match f110.1.2.1[n]? with
 | some (.For _ _ b _ _) => b
 | _ => []
noncomputable def a1a (S P ST : Addr) (vt vn va vb vd : Option Value) : b9p → Option Value := fun y => if y = "due" then vd else if y = "before" then vb else if y = "args" then va else if y = "name" then vn else if y = "turn" then vt else if y = "state" then some (.ref ST) else if y = "pen" then some (.ref P) else if y = "script" then some (.ref S) else none
noncomputable def a1w (x : b9p) (v : Option Value) (m : b9p → Option Value) : b9p → Option Value := fun y => if y = x then v else m y
theorem a1g {v' : Option Value} : a1w x v (a1w x v' m) = a1w x v m := funext fun y => by
 unfold a1w; by_cases h : y = x <;> simp [h]
theorem a0s (hxy : x ≠ y) {v' : Option Value} : a1w x v (a1w y v' m) = a1w y v' (a1w x v m) := funext fun z => by
 unfold a1w
 by_cases h : z = x
 ·have h2 : z ≠ y := fun e => hxy (h.symm.trans e)
  simp [h, hxy]
 ·simp [h]
noncomputable abbrev b7Y (S P ST : Addr) : b9p → Option Value := a1w "state" (some (.ref ST)) (a1w "pen" (some (.ref P)) (a1w "script" (some (.ref S)) fun _ => none))
theorem a0Q : a1a S P ST vt vn va vb vd = a1w "due" vd (a1w "before" vb (a1w "args" va (a1w "name" vn (a1w "turn" vt (b7Y S P ST))))) := rfl
theorem a2W : a1w "turn" v (a1a S P ST vt vn va vb vd) = a1a S P ST v vn va vb vd := by
 rw [a0Q, a0Q, a0s (x := "turn") (y := "due") (by decide), a0s (x := "turn") (y := "before") (by decide), a0s (x := "turn") (y := "args") (by decide), a0s (x := "turn") (y := "name") (by decide), a1g]
theorem a8W : a1w "name" v (a1a S P ST vt vn va vb vd) = a1a S P ST vt v va vb vd := by
 rw [a0Q, a0Q, a0s (x := "name") (y := "due") (by decide), a0s (x := "name") (y := "before") (by decide), a0s (x := "name") (y := "args") (by decide), a1g]
theorem a4x : a1w "args" v (a1a S P ST vt vn va vb vd) = a1a S P ST vt vn v vb vd := by
 rw [a0Q, a0Q, a0s (x := "args") (y := "due") (by decide), a0s (x := "args") (y := "before") (by decide), a1g]
theorem a3p : a1w "before" v (a1a S P ST vt vn va vb vd) = a1a S P ST vt vn va v vd := by
 rw [a0Q, a0Q, a0s (x := "before") (y := "due") (by decide), a1g]
theorem a6p : a1w "due" v (a1a S P ST vt vn va vb vd) = a1a S P ST vt vn va vb v := by
 rw [a0Q, a0Q, a1g]
noncomputable abbrev a0O (P C ST SB SU L : Addr) (po co so bo uo oS oW : Obj) (tl : Led) : Led := (P, po) :: (C, co) :: (ST, so) :: (SB, bo) :: (SU, uo) :: (L + 1, oS) :: (L + 1 + 1, oW) :: tl
structure b4u (P C ST SB SU L : Addr) : Prop where
 a1 : C ≠ P
 a2 : ST ≠ P
 a3 : SB ≠ P
 a4 : SU ≠ P
 a5 : L + 1 ≠ P
 a6 : L + 1 + 1 ≠ P
 b1 : SB ≠ ST
 b2 : SU ≠ ST
 b3 : L + 1 ≠ ST
 b4 : L + 1 + 1 ≠ ST
 c1 : SU ≠ SB
 c2 : L + 1 ≠ SB
 c3 : L + 1 + 1 ≠ SB
 d1 : C ≠ ST
 d2 : C ≠ SB
structure LawS (w : World) (L : Addr) (k m : Nat) (σ : StR) (P C ST SB SU : Addr) (po co so bo uo oS oW : Obj) : Prop where
 ok : σ.ok w (a0O P C ST SB SU L po co so bo uo oS oW [])
 pen : PenOk P C po co m
 lw : a6P w ST SB SU so bo uo (xk σ.rs) σ.subs σ.nxt
 inv : Inv k σ
 cS : oS.data = .cell (some (.ref σ.S))
 cW : ∃ v, oW.data = .cell v
 ap : b4u P C ST SB SU L
theorem LawS.next {m m' : Nat} {SU' : Addr} {po' so' bo' uo' : Obj} (LS : LawS w L k m σ P C ST SB SU po co so bo uo oS oW) (O' : σ'.ok w rest) (nP : P ∉ σ'.adr) (nC : C ∉ σ'.adr) (nT : ST ∉ σ'.adr) (nB : SB ∉ σ'.adr) (n1 : L + 1 ∉ σ'.adr) (n2 : L + 1 + 1 ∉ σ'.adr) (hU : SU' ∉ σ'.adr ∧ SU' ≠ P) (hp : PenOk P C po' co m') (hl : a6P w ST SB SU' so' bo' uo' (xk σ'.rs) σ'.subs σ'.nxt) (hi : Inv (k + 1) σ') (eS : σ'.S = σ.S) :
  LawS w L (k + 1) m' σ' P C ST SB SU' po' co so' bo' uo' oS oW := by
 have ap := LS.ap
 refine ⟨⟨O'.sd, O'.ob, O'.lo, O'.ou, O'.box, O'.nd, ?_⟩, hp, hl, hi, by rw [eS]; exact LS.cS, LS.cW, ⟨ap.a1, ap.a2, ap.a3, hU.2, ap.a5, ap.a6, ap.b1, b9A hl.n2, ap.b3, ap.b4, b9A hl.n3, ap.c2, ap.c3, ap.d1, ap.d2⟩⟩
 exact List.forall_mem_cons.mpr ⟨nP, List.forall_mem_cons.mpr ⟨nC, List.forall_mem_cons.mpr ⟨nT, List.forall_mem_cons.mpr ⟨nB, List.forall_mem_cons.mpr ⟨hU.1, List.forall_mem_cons.mpr ⟨n1, List.forall_mem_cons.mpr ⟨n2, fun _ h => nomatch h⟩⟩⟩⟩⟩⟩⟩
theorem a4D {c : Addr × Obj} {l1 l2 : Led} (N : News h₀ L h (l1 ++ a :: b :: c :: l2)) : News h₀ L h (a :: b :: c :: (l1 ++ l2)) := fun p hp => N p (by
 simp only [b9r, b9y] at hp ⊢
 rcases hp with h | h | h | h | h
 ·exact .inr (.inl h)
 ·exact .inr (.inr (.inl h))
 ·exact .inr (.inr (.inr (.inl h)))
 ·exact .inl h
 ·exact .inr (.inr (.inr (.inr h))))
noncomputable def a7k (w : World) (L S P ST : Addr) (k m : Nat) (mm : b9p → Option Value) (news : Led) : Prop :=
 ∃ σ C SB SU po co so bo uo oS oW vt vn va vb vd, mm = a1a S P ST vt vn va vb vd ∧ news = a0O P C ST SB SU L po co so bo uo oS oW (σ.led []) ∧ LawS w L k m σ P C ST SB SU po co so bo uo oS oW
theorem b1f (O : σ.ok w rest) {d : Deed} {c : Addr} (hC : CmdIn w.params d c rest) (hb : Bd σ) (hds : d.short) (hok : a3N σ d.row) :
  FnO w G none 764 16 460 [.ref σ.S, .ref c] (σ.led rest) (fun v n => ∃ code u σ', v = .str code u ∧ n = StR.led σ' rest ∧ σ'.ok w rest ∧ σ'.S = σ.S ∧ HeardR σ d σ' code) := by
 intro dp un gd cn cs a ccd cl A₀ base h₀ L m s Q E B F X N T hk hdp hun hret
 refine b0p O hC hb hds hok dp un gd cn cs a ccd cl A₀ base h₀ L m s Q E B F X N T hk hdp hun fun v n h' tk' hR F' N' => hret v n h' tk' ?_ F' N'
 obtain ⟨code, u, rfl, ⟨h1, h2, σ', h3, h4, h5, h6⟩ | ⟨h1, h2, h3⟩⟩ := hR
 ·exact ⟨code, u, σ', rfl, h3, h4, h5, .inl ⟨h1, h2, h6⟩⟩
 ·exact ⟨code, u, σ, rfl, h1, O, rfl, .inr ⟨rfl, h2, h3⟩⟩
theorem a9i {A : Addr} {d : Deed} (hk : a6P w ST SB SU so bo uo bs subs nxt) (hoff : ∀ q ∈ news, q.1 ≠ ST) (hoff2 : ∀ q ∈ news, q.1 ≠ SB) (hd : d.drawn) (hz : bs.length ≤ 30) (hz2 : subs.length ≤ 40) (hbl : ∀ p ∈ bs, p.1.length ≤ 800) (hbo : ∀ p ∈ bs, b9S p.1 = true) (hA : (A, tup vs.toArray n9) ∈ news) (ha : a2j d vs) :
  FnD w G none 757 9 330 [.ref ST, .str d.word t, .ref A] ((ST, so) :: (SB, bo) :: (SU, uo) :: news) (b2D w ST SB SU news (b2n bs nxt subs d)) := by
 have up : ∀ {R : Value → Led → Prop} {x}, FnD w G none 757 9 300 x ((ST, so) :: (SB, bo) :: (SU, uo) :: news) R → FnD w G none 757 9 330 x ((ST, so) :: (SB, bo) :: (SU, uo) :: news) R := fun h dp un gd cn cs a ccd cl outer A₀ base h₀ L m s Q E B F X N T hk hdp hun hret => h dp un gd cn cs a ccd cl outer A₀ base h₀ L m s Q E B F X N T hk hdp (by omega) hret
 cases d with
 | create x => obtain ⟨u, rfl⟩ := ha; exact up (a8p hk hoff hoff2 hd (by omega) hA)
 | delete x => obtain ⟨u, rfl⟩ := ha; exact up (a9o hk hoff hoff2 hd (by omega) hA)
 | rename x y => obtain ⟨u, u2, rfl⟩ := ha; exact a9j hk hoff hoff2 hd.1 hd.2 (by omega) hbl hbo hA
 | subscribe x => obtain ⟨u, rfl⟩ := ha; exact up (a4E hk hoff hoff2 hd hz2 hA)
 | unsubscribe x => obtain ⟨u, rfl⟩ := ha; exact up (a3t hk hoff hoff2 hd hz2 hA)
theorem a0S {r : Led} {c : Addr} (h1 : c ∉ σ.adr) (h2 : ∀ p ∈ r, p.1 ≠ c) : ∀ p ∈ σ.led r, p.1 ≠ c := fun p hp e => by
 unfold StR.led a0d at hp
 unfold StR.adr at h1
 simp only [b9r, b9I, b9y, not_or, not_exists, not_and] at h1 hp
 obtain ⟨a1, a2, a3, a4, a5⟩ := h1
 rcases hp with rfl | rfl | rfl | rfl | hp | hp
 ·exact a1 e.symm
 ·exact a2 e.symm
 ·exact a3 e.symm
 ·exact a4 e.symm
 ·exact a5 p hp e
 ·exact h2 p hp e
theorem a3H {r : Led} (N : News h₀ L h (r ++ σ.led [])) : News h₀ L h (σ.led r) := fun p hp => N p (StR.led_app.mp (by rw [c0k]; exact hp))
theorem a2b {r : Led} (N : News h₀ L h (σ.led r)) : News h₀ L h (r ++ σ.led []) := fun p hp => N p (by have := StR.led_app.mpr hp; rwa [c0k] at this)
theorem a0r {l : Led} (h : ∀ p ∈ l, p.1 < D) (hl : ∀ p ∈ σ.led [], p ∈ l) : D ∉ σ.adr := fun e => by
 obtain ⟨q, hq, z⟩ := StR.mem_adr e []
 exact absurd (h q (hl q hq)) (by rw [z]; exact c0g _)
theorem StR.ok.re (O : σ.ok w rest) (h : ∀ p ∈ rest', p.1 ∉ σ.adr) : σ.ok w rest' := ⟨O.sd, O.ob, O.lo, O.ou, O.box, O.nd, h⟩
theorem a0A {P : Addr → Prop} {l : Led} (h : P a.1) (k : ∀ p ∈ l, P p.1) : ∀ p ∈ a :: l, P p.1 := List.forall_mem_cons.mpr ⟨h, k⟩
theorem a1D {l : Led} (h : ∀ p ∈ l, p.1 ≠ I) (hl : ∀ p ∈ σ.led [], p ∈ l) : I ∉ σ.adr := fun e => by
 obtain ⟨q, hq, z⟩ := StR.mem_adr e []
 exact h q (hl q hq) z
theorem era_Zn : True := trivial
theorem b1l : True := by
 k_with "Zn:call ref" => ((with_reducible show wpAny _ _ (call (b9t 764) _) _ _ _); refine a0c ?_)
 k_with "Zn:call ref" => ((with_reducible show wpAny _ _ (call (b9t 757) _) _ _ _); refine a0c ?_)
 k_with "Zn:call ref" => ((with_reducible show wpAny _ _ (call (b9t 686) _) _ _ _); refine a0c ?_)
 k_with "Zn:call ref" => ((with_reducible show wpAny _ _ (call (b9t 254) _) _ _ _); refine a0c ?_)
 trivial
theorem b4V : True := by
 k_with "Zn:call ref" => (k_here; ((with_reducible show wpAny _ _ (call (b9t 693) _) _ _ _); k_dflt (refine' Fn.use a2o ?k1 ?k2 ?k3 ?k4 ?k5 ?k6 ?k7 ?k8 ?_); (case k4 => k_extra "g:k4"); k_extra "g:c1"; k_extra "g:c2"; obtain ⟨DnN, vsN, cN, rfl, rfl, lN1, hSN⟩ := hR'; (try clear hR'); k_extra "g:c3"; (try k_lt lN1); k_extra "g:c4"))
 k_with "Zn:subscriptTail Call Name nil nil Call ref int" => ((k_here; k_dflt (refine' a3b ?k1 ?k2 ?k3 ?k4 ?k5 ?k6 ?k7 ?_; (case k1 => k_asm); (case k2 => k_mem); (case k3 => assumption); (case k4 => assumption); (case k5 => assumption); (case k6 => omega); (case k7 => with_unfolding_all rfl)); intro xI uI hxI))
 trivial
theorem a8I {w : World} {G : Gl} {S P ST I : Addr} {base h : Heap} {L fa : Addr} {cd : Value} {s : Shared} {Q : Flow → Shared → Prop} {E : Value → Shared → Prop} {k m9 : Nat} {oI : Obj} {tk : Nat} {dr : Drawn} {i : Int} {ti : Tok} {m₁ : b9p → Option Value} {news : Led} (K0 : Below callerA base [] base) (X : (K w.params).In base) (T : Top G.p G.loose G.mean G.mg G.mb base) (hk8 : k ≤ 7) (hm9 : m9 ≤ 40) (J : a7k w L S P ST k m9 m₁ news) (hI : ∀ p ∈ news, p.1 ≠ I) (F : Fr base L h (fun y => if y = "turn" then some (.int i ti) else m₁ y)) (N : News base L h ((I, oI) :: news)) :
  wpAny (model b9u.prog w) (callerA.deeper (envOfC "law" f110.1.2.2 L fa cd)) (execs (a1W 3) (envOfC "law" f110.1.2.2 L fa cd)) (b2R base L (a7k w L S P ST (k + 1) (m9 + 1)) I oI s Q) E { s with heap := h, toks := tk, drawn := dr } := by
 revert cl9 w G S P ST I base h L fa cd s Q E k m9 oI tk dr i ti m₁ news
 intros K0 X T hk8 hm9 J hI F N
 have mk9 : a0b := trivial
 obtain ⟨σ, C, SB, SU, po, co, so, bo, uo, oS, oW, vt, vn, va, vb, vd, rfl, rfl, LS⟩ := J
 have N1 : News base L h (a0O P C ST SB SU L po co so bo uo oS oW ((I, oI) :: σ.led [])) := by
  repeat (refine nc (N _ (by k_mem)) ?_)
  exact fun p hp => N p (by repeat (first | exact hp | refine b9D _ ?_))
 clear N
 have hcS := LS.cS
 unfold a0O at N1
 have ap := LS.ap
 have hI' : I ∉ σ.adr := a1D hI (fun p hp => by repeat (first | exact hp | refine b9D _ ?_))
 have hIP : I ≠ P := fun z => hI (P, po) (.head _) z.symm
 have hIT : I ≠ ST := fun z => hI (ST, so) mt2 z.symm
 have hIB : I ≠ SB := fun z => hI (SB, bo) mt3 z.symm
 obtain ⟨nP, nC, nT, nB, nU, n1, n2⟩ : P ∉ σ.adr ∧ C ∉ σ.adr ∧ ST ∉ σ.adr ∧ SB ∉ σ.adr ∧ SU ∉ σ.adr ∧ L + 1 ∉ σ.adr ∧ L + 1 + 1 ∉ σ.adr := by
  have := LS.ok.ap
  unfold a0O at this
  simpa only [b9r, c0f, or_false, forall_eq_or_imp, forall_eq] using this
 have hoffP : ∀ q ∈ (ST, so) :: (SB, bo) :: (SU, uo) :: (L + 1, oS) :: (L + 1 + 1, oW) :: (I, oI) :: σ.led [], q.1 ≠ P :=
  a0A (P := (· ≠ P)) ap.a2 (a0A (P := (· ≠ P)) ap.a3 (a0A (P := (· ≠ P)) ap.a4 (a0A (P := (· ≠ P)) ap.a5 (a0A (P := (· ≠ P)) ap.a6 (a0A (P := (· ≠ P)) hIP (a0S nP (fun _ h => nomatch h)))))))
 k_steps
 unfold a0f
 (with_reducible rename News base L _ ((DnN, _) :: _) => N2)
 refine Fn.use (a3j LS.pen (by omega) (a2F (hAll (P, po) (.head _)) hoffP) (by decide) (by decide)) K0 (by k_asm) X (a8D N2) T rfl (by decide) (by decide) ?_
 revert cm9 h' tk' C9; intro hC9
 revert cm9 v news'; intro hR9; obtain ⟨kD, uD, poD, rfl, hkD1, hkD2, rfl, hPD⟩ := hR9
 subst hC9
 intro F' N'
 clear N2
 (try dsimp only)
 k_steps
 unfold a0f
 (with_reducible rename News base L _ _ => N2)
 (with_reducible rename ∀ (p : Addr × Obj), p ∈ _ → p.fst < _ => hA2)
 refine Fn.use (a3B (.head _)) K0 (by k_asm) X N2 T rfl (by decide) (by decide) ?_
 revert cm9 h' tk' C9; intro hC9
 revert cm9 v news'; intro hR9; obtain ⟨cC, cdC, rfl, ⟨ca1, ca2, ca3, ct1, ct2, rfl⟩, lC1, lC2⟩ := hR9
 subst hC9
 intro F' N'
 clear N2
 (try dsimp only)
 k_steps
 unfold a0f
 (with_reducible rename News base L _ _ => N2)
 have hlt9 : ∀ p ∈ σ.led [], @b9w Nat _ p.1 cC := fun p hp => b9V (lC1 p (by repeat (first | exact hp | refine b9D _ ?_))) lC2
 have hx : xI ∈ allNames := b9G _ hxI
 refine FnO.use (b1f (d := .create xI) (LS.ok.re ?ap) ⟨cdC, _, _, _, _, .head _, mt1, mt2, ⟨⟨_, _, _, _, _, rfl⟩, ⟨_, rfl⟩⟩⟩ (LS.inv.bd (by omega)) (Inv.short hx) (LS.inv.deedOk hx)) K0 (by k_asm) X (a3H (r := _ :: _ :: _ :: _ :: _ :: _ :: _ :: _ :: _ :: _ :: _ :: [_]) N2) T rfl (by decide) (by decide) ?_
 case ap =>
  refine a0A (P := (· ∉ σ.adr)) (a0r hlt9 fun _ h => h) (a0A (P := (· ∉ σ.adr)) (a0r lC1 fun p hp => ?_) (a0A (P := (· ∉ σ.adr)) (a0r hA2 fun p hp => ?_) (a0A (P := (· ∉ σ.adr)) nP (a0A (P := (· ∉ σ.adr)) nC (a0A (P := (· ∉ σ.adr)) (a0r hAll fun p hp => ?_) (a0A (P := (· ∉ σ.adr)) nT (a0A (P := (· ∉ σ.adr)) nB (a0A (P := (· ∉ σ.adr)) nU (a0A (P := (· ∉ σ.adr)) n1 (a0A (P := (· ∉ σ.adr)) n2 (a0A (P := (· ∉ σ.adr)) hI' (fun _ h => nomatch h))))))))))))
  all_goals (repeat (first | exact hp | refine b9D _ ?_))
 revert cm9 h' tk' C9; intro hC9
 revert cm9 v news'; intro hR9; obtain ⟨code, uc, σ', rfl, rfl, O', eS, HR⟩ := hR9
 subst hC9
 intro F' N'
 clear N2
 have N2 := a2b N'
 clear N'
 simp only [c0b, c0c] at N2
 (try dsimp only)
 k_steps
 unfold a0f
 (with_reducible rename News base L _ _ => N2)
 (with_reducible rename ∀ (p : Addr × Obj), p ∈ _ → p.fst < _ => hA3)
 have N3 := a4D (l1 := [_, _, _, _, _, _, _]) N2
 clear N2
 simp only [c0b, c0c] at N3
 have hnm : ∀ p ∈ xk σ.rs, NameOk k p.1 := LS.inv.names
 have hct := LS.inv.count
 have hsc := LS.inv.scount
 refine FnD.use (a9i (d := .create xI) LS.lw ?off ?off2 hx (by rw [a6j]; omega) (by omega) (fun p hp => by have := (hnm p hp).len; omega) (fun p hp => (hnm p hp).ok) (.head _) ⟨_, rfl⟩) K0 (by k_asm) X N3 T rfl (by decide) (by decide) ?_
 case off =>
  refine a0A (P := (· ≠ ST)) (b9F (hA3 (ST, so) (by k_mem))) (a0A (P := (· ≠ ST)) (b9F (b9V (lC1 (ST, so) (by k_mem)) lC2)) (a0A (P := (· ≠ ST)) (b9F (lC1 (ST, so) (by k_mem))) (a0A (P := (· ≠ ST)) (b9F (hA2 (ST, so) (by k_mem))) (a0A (P := (· ≠ ST)) (b9A ap.a2) (a0A (P := (· ≠ ST)) ap.d1 (a0A (P := (· ≠ ST)) (b9F (hAll (ST, so) (by k_mem))) (a0A (P := (· ≠ ST)) ap.b3 (a0A (P := (· ≠ ST)) ap.b4 (a0A (P := (· ≠ ST)) hIT (a0S (O'.ap (ST, so) (by k_mem)) (fun _ h => nomatch h)))))))))))
 case off2 =>
  refine a0A (P := (· ≠ SB)) (b9F (hA3 (SB, bo) (by k_mem))) (a0A (P := (· ≠ SB)) (b9F (b9V (lC1 (SB, bo) (by k_mem)) lC2)) (a0A (P := (· ≠ SB)) (b9F (lC1 (SB, bo) (by k_mem))) (a0A (P := (· ≠ SB)) (b9F (hA2 (SB, bo) (by k_mem))) (a0A (P := (· ≠ SB)) (b9A ap.a3) (a0A (P := (· ≠ SB)) ap.d2 (a0A (P := (· ≠ SB)) (b9F (hAll (SB, bo) (by k_mem))) (a0A (P := (· ≠ SB)) ap.c2 (a0A (P := (· ≠ SB)) ap.c3 (a0A (P := (· ≠ SB)) hIB (a0S (O'.ap (SB, bo) (by k_mem)) (fun _ h => nomatch h)))))))))))
 revert cm9 h' tk' dr' C9; intro hC9
 revert cm9 v news'; intro hR9; obtain ⟨ud, so', bo', SU', uo', bs', nxt', subs', code', rfl, rfl, hSU, hLw, hLD⟩ := hR9
 subst hC9
 intro F' N'
 obtain ⟨rfl, rfl, rfl, rfl, hinv⟩ := a4A LS.inv (d := .create xI) hx HR hLD
 clear N3
 (try dsimp only)
 k_steps
 ·rename_i hne
  exact absurd (by simpa using hne : False) id
 ·(with_reducible rename News base L _ _ => N2)
  have nI' : I ∉ σ'.adr := O'.ap (I, oI) (by k_mem)
  have hSU' : SU' = SU ∨ (SU' ∉ σ'.adr ∧ SU' ≠ P ∧ SU' ≠ I) := hSU.imp id fun h => ⟨a1D h (fun p hp => by repeat (first | exact hp | refine b9D _ ?_)), b9A (h (P, poD) (by k_mem)), b9A (h (I, oI) (by k_mem))⟩
  have LS' := LS.next O' (O'.ap (P, poD) (by k_mem)) (O'.ap (C, co) (by k_mem)) (O'.ap (ST, so) (by k_mem)) (O'.ap (SB, bo) (by k_mem)) (O'.ap (L + 1, oS) (by k_mem)) (O'.ap (L + 1 + 1, oW) (by k_mem)) (hSU'.elim (fun h => h ▸ ⟨O'.ap (SU, uo) (by k_mem), ap.a4⟩) fun h => ⟨h.1, h.2.1⟩) hPD hLw hinv eS
  refine a5h (news' := a0O P C ST SB SU' L poD co so' bo' uo' oS oW (σ'.led [])) (by k_asm) N2 (by k_mem) ?_ ?_ ⟨σ', C, SB, SU', poD, co, so', bo', uo', oS, oW, some (.int i ti), some (.str xI uI), va, vb, vd, ?_, rfl, LS'⟩
  ·refine List.forall_mem_cons.mpr ⟨by k_mem, List.forall_mem_cons.mpr ⟨by k_mem, List.forall_mem_cons.mpr ⟨by k_mem, List.forall_mem_cons.mpr ⟨by k_mem, List.forall_mem_cons.mpr ⟨by k_mem, List.forall_mem_cons.mpr ⟨by k_mem, List.forall_mem_cons.mpr ⟨by k_mem, fun p hp => ?_⟩⟩⟩⟩⟩⟩⟩
   repeat (first | exact hp | refine b9D _ ?_)
  ·have hIU : SU' ≠ I := hSU'.elim (fun h => h ▸ hI (SU, uo) (by k_mem)) (fun h => h.2.2)
   exact a0A (P := (· ≠ I)) (b9A hIP) (a0A (P := (· ≠ I)) (hI (C, co) (by k_mem)) (a0A (P := (· ≠ I)) (b9A hIT) (a0A (P := (· ≠ I)) (b9A hIB) (a0A (P := (· ≠ I)) hIU (a0A (P := (· ≠ I)) (hI (L + 1, oS) (by k_mem)) (a0A (P := (· ≠ I)) (hI (L + 1 + 1, oW) (by k_mem)) (a0S nI' (fun _ h => nomatch h))))))))
  ·show a1w "name" _ (a1w "turn" _ (a1a S P ST vt vn va vb vd)) = _
   rw [a2W, a8W]
theorem era_Zo : True := trivial
theorem b1e : True := by
 k_with "Zo:call ref" => ((with_reducible show wpAny _ _ (call (b9t 482) _) _ _ _); refine a0c ?_)
 k_with "Zo:call ref" => ((with_reducible show wpAny _ _ (call (b9t 487) _) _ _ _); refine a0c ?_)
 k_with "Zo:call ref" => ((with_reducible show wpAny _ _ (call (b9t 764) _) _ _ _); refine a0c ?_)
 k_with "Zo:call ref" => ((with_reducible show wpAny _ _ (call (b9t 757) _) _ _ _); refine a0c ?_)
 trivial
noncomputable def a1K (n : Nat) : Stmt := (a1W 4).getD n (.Pass ⟨0, 0, 0, 0⟩)
noncomputable def a0z (w : World) (L fa : Addr) (cd : Value) (base : Heap) (m : b9p → Option Value) (led : Led) (st : Stmt) : Prop :=
 ∀ (s : Shared) (h : Heap) (tk : Nat) (dr : Drawn) (Q : Flow → Shared → Prop) (E : Value → Shared → Prop), Fr base L h m → News base L h led →
  (∀ h' tk' dr', Fr base L h' m → News base L h' led → Q .next { s with heap := h', toks := tk', drawn := dr' }) →
  wpAny (model b9u.prog w) (callerA.deeper (envOfC "law" f110.1.2.2 L fa cd)) (exec st (envOfC "law" f110.1.2.2 L fa cd)) Q E { s with heap := h, toks := tk, drawn := dr }
theorem b4y : True := by
 k_with "Zo:eval ListComp" => ((k_here; k_dflt (refine c2A (F₀ := by k_asm) (by with_unfolding_all rfl) (by decide) (by rfl) (by decide) (by rfl) ?_)))
 k_with "Zo:CompSrc" => ((k_here; refine a0c ?_))
 k_with "Zo:compareOp NotEq ref ref" => ((k_here; refine a0c ?_))
 trivial
theorem a4J {n₁ n₂ : Led} {a b : Value} {d : Dat} (N : News h₀ L s.heap news) (Da : DatIn n₁ a d) (sa : ∀ p ∈ n₁, p ∈ news) (Db : DatIn n₂ b d) (sb : ∀ p ∈ n₂, p ∈ news) (ok : kqdOk 9 d = true) (hu : A.units + 64 < cLine) (h : Q (.bool false) s) :
  wpAny (model prog w) A (compareOp .NotEq a b) Q E s := by
 obtain ⟨as, ra⟩ := kqd_in N 9 (Da.mono sa) ok
 obtain ⟨bs, rb⟩ := kqd_in N 9 (Db.mono sb) ok
 have la := kqd_lay 9 d ok
 have e : PyData.eqv (kqdP d) (kqdP d) = true := (kqd_eqv 9 d d 9 ok ok).mpr rfl
 have sh : SeqAt.shaped (kqdP d) = true := by
  unfold SeqAt.shaped; rw [la.1, Bool.true_and]; exact decide_eq_true (b9W la.2 (by decide))
 exact PyProof.Rows.ne_dataH ra rb sh sh hu (by rw [e]; exact h)
theorem a0L {n : Led} {a : Addr} (hm : (a, listOf vs.toArray c) ∈ n) (hS : StrsAre vs ss) : DatIn n (.ref a) (.list (ss.map .str)) := .list hm (a1G _ hS)
theorem a5W (h : ∀ x ∈ ss, b9S x = true) : kqdOk 9 (.list (ss.map .str)) = true := by
 simp only [kqdOk, List.all_map, c2H]
 exact fun x hx => h x hx
theorem a9h (LS : LawS w L k m9 σ P C ST SB SU po co so bo uo oS oW) (hI : ∀ p ∈ a0O P C ST SB SU L po co so bo uo oS oW (σ.led []), p.1 ≠ I) :
  ∀ p ∈ a0O P C ST SB SU L po co so bo uo oS oW [(I, oI)], p.1 ∉ σ.adr := by
 have hI' : I ∉ σ.adr := a1D hI (fun p hp => by repeat (first | exact hp | refine b9D _ ?_))
 have := LS.ok.ap
 unfold a0O at this ⊢
 simp only [b9r, c0f, or_false, forall_eq_or_imp, forall_eq] at this ⊢
 obtain ⟨a, b, c, d, e, f, g⟩ := this
 exact ⟨a, b, c, d, e, f, g, hI'⟩
theorem b2z {S0 : Addr} (O : σ.ok w (a0O P C ST SB SU L po co so bo uo oS oW [(I, oI)])) (K0 : Below callerA base [] base) (X : (K w.params).In base) (T : Top G.p G.loose G.mean G.mg G.mb base) (hcS : oS.data = .cell (some (.ref σ.S))) (hn : σ.rs.length ≤ 50) (hnok : ∀ p ∈ xk σ.rs, b9S p.1 = true) :
  a0z w L fa cd base (a1a S0 P ST vt vn va vb vd) (a0O P C ST SB SU L po co so bo uo oS oW ((I, oI) :: σ.led [])) (a1K 6) := by
 revert K0 X T hcS hn hnok
 revert O; revert σ; revert cl9 G w vt vn va vb vd cd base L C I P SB SU ST fa oI po co so bo uo oS oW S0; z_head
 intros K0 X T hcS hn hnok
 have mk9 : a0b := trivial
 have hap := O.ap
 unfold a0z
 revert cm9 s h tk dr Q E; intro F N hret
 have N1 := N
 unfold StR.led a0O at N
 dsimp only at *
 unfold a1a at F
 show wpAny _ _ (exec (Stmt.If _ _ _ _) _) _ _ _
 k_steps
 unfold a0f
 refine Fn.use (a1Y O' hn) K0 (by k_asm) X (a3H (σ := ⟨S, Sd, Bx, U, _, ob, _, rs, subs, nxt⟩) (r := [_, _, _, _, _, _, _, _]) N1) T rfl (by decide) (by decide) ?_
 revert cm9 h' tk' C9; intro hC9
 revert cm9 v news'; intro hR9; obtain ⟨D1, vs1, e1, ss1, rfl, rfl, hS1, hSrt1, lD1⟩ := hR9
 subst hC9
 intro F' N'
 (with_reducible rename News base L _ ((D1, _) :: _) => N2)
 have N3 := nc (N2 _ (.head _)) (a2b (fun p hp => N2 p (.tail _ hp)))
 clear N2
 simp only [c0b, c0c] at N3
 unfold StR.led at N3
 dsimp only at N3
 (try dsimp only)
 k_steps
 unfold a0f
 have hlen : vs1.length = rs.length := by rw [hS1.length, hSrt1.1.length_eq, b9z]
 refine c1K (ax := D1) (its := vs1.toArray) rfl (by k_asm) N3 (.head _) (by rw [b9O, b9H]; omega) ?_; intro g9
 refine a1k (fun i => .str (ss1.getD i b9Y)) (fun n hb => .inr ⟨_, hb _ (.head _), rfl, _, rfl⟩) ?_ ?_
 ·revert cm9 i news9; intro hi hb v I9 oI9 C9 oC9 D9 ys m₂ h2 tk2 E' hv hC' hx' F9 N9 off ne
  obtain ⟨x, t, rfl, hx⟩ := a0o hS1 (by simpa using hv)
  obtain ⟨r, hr, hrx, hval⟩ := a4h (a5s (hSrt1.1.mem_iff.mp (b9Z hx)))
  have hRL : ∀ p ∈ r.led, p ∈ news9 := fun p hp => hb _ (by repeat (first | exact b9G _ (List.mem_flatMap.mpr ⟨r, hr, hp⟩) | refine b9D _ ?_))
  have hRb : (r.b, instObj 360 r.d) ∈ news9 := hRL _ (by simp [BoxR.led])
  have hRd : (r.d, r.od) ∈ news9 := hRL _ (by simp [BoxR.led])
  have hRo := O6 r hr
  obtain ⟨b1, b2, b3, b4, b5, b6, b7, b8, b9, b10, b11, b12, hRe⟩ := id hRo
  (revert r; intros r9; apply a5r r9; k_dflt (refine @((?_ : Ha7 _) _ _ _ _ _ _ _); clear r9; intros rb rd rl rg rod rx rk); refine Hd7.mk ?_; set_option tactic.hygienic false in intros)
  dsimp only at *
  subst hRe hrx
  have N6 : News base L h2 ((I9, oI9) :: (C9, oC9) :: (D9, c0q ys) :: (L + 1, oS) :: (S, instObj 490 Sd) :: (Sd, _) :: (Bx, ob) :: (rb, instObj 360 rd) :: (rd, _) :: news9) := nc (N9 _ (.head _)) (nc (N9 _ mt1) (nc (N9 _ mt2) (nc (N9 _ (tl3 (hb _ (by k_mem)))) (nc (N9 _ (tl3 (hb (S, instObj 490 Sd) (by k_mem)))) (nc (N9 _ (tl3 (hb (Sd, _) (by k_mem)))) (nc (N9 _ (tl3 (hb (Bx, ob) (by k_mem)))) (nc (N9 _ (tl3 hRb)) (nc (N9 _ (tl3 hRd)) (fun p hp => N9 p (tl3 hp))))))))))
  clear N9
  k_steps
  refine a1x (add := []) F9 N6 (b2C (.head _) mt1 mt2 (fun p hp => by repeat (first | exact hp | refine b9D _ ?_))) (fun _ h => nomatch h) ?_
  rw [show ss1.getD i b9Y = rx from by rw [c0I, hx]; rfl]
  exact .str _ _
 ·revert cm9 ys add; intro ha hd
  rw [a1v (fun z => Dat.str z) ss1 _ (by rw [b9H]; exact hS1.length)] at hd
  have hY := a5Z hd
  have hyl := hY.length
  unfold c1w
  revert cm9 D2 h2 tk2; intro F2 N2 off2
  have off3 := a0T off2
  have N4 := nc (N2 _ (.head _)) fun p hp => N2 p (.tail _ (b9s _ (.tail _ hp)))
  have hD2 : D2 ∉ StR.adr _ := a1D (σ := ⟨S, Sd, Bx, U, _, ob, _, rs, subs, nxt⟩) off3 (fun p hp => b9s _ (by repeat (first | exact hp | refine b9D _ ?_)))
  clear N2 off2 off3 N3
  k_steps
  unfold a0f
  refine Fn.use (a1Y (O'.re (List.forall_mem_cons.mpr ⟨hD2, hap⟩)) hn) K0 (by k_asm) X (a3H (σ := ⟨S, Sd, Bx, U, _, ob, _, rs, subs, nxt⟩) (r := [_, _, _, _, _, _, _, _, _]) N4) T rfl (by decide) (by decide) ?_
  revert cm9 h' tk' C9; intro hC9
  revert cm9 v news'; intro hR9; obtain ⟨D3, vs3, e3, ss3, rfl, rfl, hS3, hSrt3, lD3⟩ := hR9
  subst hC9
  intro F' N'
  have es := a0K hSrt1 hSrt3
  subst es
  (with_reducible rename News base L _ ((D3, _) :: _) => N5)
  have N6 := nc (N5 _ (.head _)) (a2b (fun p hp => N5 p (.tail _ hp)))
  clear N5
  simp only [c0b, c0c] at N6
  (try dsimp only)
  k_steps
  unfold a0f
  have hok : ∀ x ∈ ss1, b9S x = true := fun x hx => by
   obtain ⟨r, hr, rfl⟩ := b9I.mp (hSrt1.1.mem_iff.mp hx)
   exact hnok (r.x, r.k) (b9I.mpr ⟨r, hr, rfl⟩)
  refine a4J N6 (a0L mt1 hY) (fun _ h => h) (a0L (.head _) hS3) (fun _ h => h) (a5W hok) (by ktr_units) ?_
  k_steps
  (with_reducible rename News base L _ _ => N7)
  exact hret _ _ _ (by k_asm) fun p hp => N7 p (tl2 hp)
theorem b2V (K0 : Below callerA base [] base) (X : (K w.params).In base) (T : Top G.p G.loose G.mean G.mg G.mb base) (hk8 : k ≤ 8) (LS : LawS w L k m9 σ P C ST SB SU po co so bo uo oS oW) (hI : ∀ p ∈ a0O P C ST SB SU L po co so bo uo oS oW (σ.led []), p.1 ≠ I) :
  a0z w L fa cd base (a1a S P ST vt vn va vb vd) (a0O P C ST SB SU L po co so bo uo oS oW ((I, oI) :: σ.led [])) (a1K 6) := 
 b2z (LS.ok.re (a9h LS hI)) K0 X T LS.cS (LS.inv.bd hk8).1 fun p hp => (LS.inv.names p hp).ok
theorem era_Zp : True := trivial
theorem b1o : True := by
 k_with "Zp:call ref" => ((with_reducible show wpAny _ _ (call (b9t 482) _) _ _ _); refine a0c ?_)
 trivial
theorem b5w : True := by
 k_with "Zp:eval ListComp" => ((k_here; k_dflt (refine c2A (F₀ := by k_asm) (by with_unfolding_all rfl) (by decide) (by rfl) (by decide) (by rfl) ?_)))
 k_with "Zp:CompSrc" => ((k_here; refine a0c ?_))
 k_with "Zp:compareOp NotEq ref ref" => ((k_here; refine a0c ?_))
 k_with "Zp:call builtin:sorted" => ((k_here; refine a0c ?_))
 k_with "Zp:subscriptTail" => ((k_here; (with_reducible show wpAny _ _ (subscriptTail _ _ (b9t _) (c0E _ _)) _ _ _); k_dflt (refine' kdt_tail (knd := kS _) ?k1 ?k2 ?k3 ?_; (case k1 => k_asm); (case k2 => k_mem); (case k3 => assumption))))
 trivial
theorem b0s (hn : (rs.map (·.x)).Nodup) (hp : ps.Perm (xk rs)) (hs : sortedS (ps.map (·.1)) = true) (hS : Srt ss (rs.map (·.x))) : (ps.map fun p => c2j [.str p.1, .int p.2]) = ss.map fun x => c2j [.str x, .int (a1P rs x)] := by
 have e : ps.map (·.1) = ss := a0K (l := rs.map (·.x)) ⟨by rw [← a2E]; exact hp.map _, hs⟩ hS
 rw [← e, c2t]
 refine List.map_congr_left fun p hm => ?_
 obtain ⟨r, hr, rfl⟩ := b9I.mp (hp.mem_iff.mp hm)
 show c2j [.str r.x, .int r.k] = c2j [.str r.x, .int (a1P rs r.x)]
 rw [a2z hn r hr]
theorem a9X {f : b9p → Int} (h : ∀ x ∈ ss, b9S x = true) : kqdOk 9 (.list (ss.map fun x => c2j [.str x, .int (f x)])) = true := by
 simp only [kqdOk, List.all_map, c2H]
 exact fun x hx => by
  show (b9S x && (true && true)) = true
  rw [h x hx]; rfl
theorem b3A {l a b : Led} (h : ∀ p ∈ a, p ∈ b) (hp : p ∈ l ++ a) : p ∈ l ++ b := (b9y.mp hp).elim (b9G _) fun z => b9s _ (h p z)
theorem b1Y {S0 : Addr} (O : σ.ok w (a0O P C ST SB SU L po co so bo uo oS oW [(I, oI)])) (K0 : Below callerA base [] base) (X : (K w.params).In base) (T : Top G.p G.loose G.mean G.mg G.mb base) (hcS : oS.data = .cell (some (.ref σ.S))) (hn : σ.rs.length ≤ 50) (hnok : ∀ p ∈ xk σ.rs, b9S p.1 = true) (hbx9 : a0q (xk σ.rs) (b9q "INBOX") = true) (hst : so.IsDictOf (kS w) (a7R SB SU σ.nxt t9)) (hbx : bo.IsDictOf (kS w) kvs) (hkI : StrInts kvs (xk σ.rs)) (lo9 : (SB == sysModules) = false) :
  a0z w L fa cd base (a1a S0 P ST vt vn va vb vd) (a0O P C ST SB SU L po co so bo uo oS oW ((I, oI) :: σ.led [])) (a1K 5) := by
 revert K0 X T hcS hn hnok hbx9 hst hbx hkI lo9
 revert O; revert σ; revert cl9 G w t9 vt vn va vb vd cd base L C I P SB SU ST fa oI po co so bo uo oS oW kvs S0; z_head
 intros K0 X T hcS hn hnok hbx9 hst hbx hkI lo9
 have mk9 : a0b := trivial
 have hap := O.ap
 have hnames := O.names
 have hvB := a2B (SB := SB) (SU := SU) (nxt := nxt) (t := t9)
 unfold a0z
 revert cm9 s h tk dr Q E; intro F N hret
 have N1 := N
 unfold StR.led a0O at N
 dsimp only at *
 unfold a1a at F
 show wpAny _ _ (exec (Stmt.If _ _ _ _) _) _ _ _
 k_steps
 unfold a0f
 refine Fn.use (a1Y O' hn) K0 (by k_asm) X (a3H (σ := ⟨S, Sd, Bx, U, _, ob, _, rs, subs, nxt⟩) (r := [_, _, _, _, _, _, _, _]) N1) T rfl (by decide) (by decide) ?_
 revert cm9 h' tk' C9; intro hC9
 revert cm9 v news'; intro hR9; obtain ⟨D1, vs1, e1, ss1, rfl, rfl, hS1, hSrt1, lD1⟩ := hR9
 subst hC9
 intro F' N'
 (with_reducible rename News base L _ ((D1, _) :: _) => N2)
 have N3 := nc (N2 _ (.head _)) (a2b (fun p hp => N2 p (.tail _ hp)))
 clear N2
 simp only [c0b, c0c] at N3
 unfold StR.led at N3
 dsimp only at N3
 (try dsimp only)
 k_steps
 unfold a0f
 have hlen : vs1.length = rs.length := by rw [hS1.length, hSrt1.1.length_eq, b9z]
 refine c1K (ax := D1) (its := vs1.toArray) rfl (by k_asm) N3 (.head _) (by rw [b9O, b9H]; omega) ?_; intro g9
 refine a1k (fun i => .tuple [.str (ss1.getD i b9Y), .int (a1P rs (ss1.getD i b9Y))]) (fun n hb => .inr ⟨_, hb _ (.head _), rfl, _, rfl⟩) ?_ ?_
 ·revert cm9 i news9; intro hi hb v I9 oI9 C9 oC9 D9 ys m₂ h2 tk2 E' hv hC' hx' F9 N9 off ne
  obtain ⟨x, t, rfl, hx⟩ := a0o hS1 (by simpa using hv)
  obtain ⟨r, hr, hrx, hval⟩ := a4h (a5s (hSrt1.1.mem_iff.mp (b9Z hx)))
  have hRL : ∀ p ∈ r.led, p ∈ news9 := fun p hp => hb _ (by repeat (first | exact b9G _ (List.mem_flatMap.mpr ⟨r, hr, hp⟩) | refine b9D _ ?_))
  have hRb : (r.b, instObj 360 r.d) ∈ news9 := hRL _ (by simp [BoxR.led])
  have hRd : (r.d, r.od) ∈ news9 := hRL _ (by simp [BoxR.led])
  have hRo := O6 r hr
  have hkr := a2z hnames r hr
  obtain ⟨b1, b2, b3, b4, b5, b6, b7, b8, b9, b10, b11, b12, hRe⟩ := id hRo
  (revert r; intros r9; apply a5r r9; k_dflt (refine @((?_ : Ha7 _) _ _ _ _ _ _ _); clear r9; intros rb rd rl rg rod rx rk); refine Hd7.mk ?_; set_option tactic.hygienic false in intros)
  dsimp only at *
  subst hRe hrx
  have N6 : News base L h2 ((I9, oI9) :: (C9, oC9) :: (D9, c0q ys) :: (L + 1, oS) :: (S, instObj 490 Sd) :: (Sd, _) :: (Bx, ob) :: (rb, instObj 360 rd) :: (rd, _) :: news9) := nc (N9 _ (.head _)) (nc (N9 _ mt1) (nc (N9 _ mt2) (nc (N9 _ (tl3 (hb _ (by k_mem)))) (nc (N9 _ (tl3 (hb (S, instObj 490 Sd) (by k_mem)))) (nc (N9 _ (tl3 (hb (Sd, _) (by k_mem)))) (nc (N9 _ (tl3 (hb (Bx, ob) (by k_mem)))) (nc (N9 _ (tl3 hRb)) (nc (N9 _ (tl3 hRd)) (fun p hp => N9 p (tl3 hp))))))))))
  clear N9
  k_steps
  (with_reducible rename News base L _ (_ :: (I9, _) :: _) => M9)
  refine a1x (add := [_]) (by k_asm) M9 (b2C (.head _) mt1 mt2 (fun p hp => by repeat (first | exact hp | refine b9D _ ?_))) (fun p hp q hq => by rw [b9C.mp hp]; exact hAll q hq) ?_
  rw [show ss1.getD i b9Y = rx from by rw [c0I, hx]; rfl, hkr]
  exact .tuple (vs := [_, _]) (.head _) (.cons (.str _ _) (.cons (.int _ _) .nil))
 ·revert cm9 ys add; intro ha hd
  rw [a1v (fun z => c2j [.str z, .int (a1P rs z)]) ss1 _ (by rw [b9H]; exact hS1.length)] at hd
  unfold c1w
  revert cm9 D2 h2 tk2; intro F2 N2 off2
  have N4 : News base L h2 ((D2, c0q ys) :: (P, po) :: (C, co) :: (ST, so) :: (SB, bo) :: (SU, uo) :: (L + 1, oS) :: (L + 1 + 1, oW) :: (I, oI) :: (S, instObj 490 Sd) :: (Sd, _) :: (Bx, ob) :: (U, _) :: (add ++ a0d rs [])) := nc (N2 _ (.head _)) (nc (N2 (P, po) (.tail _ (b9s _ (by k_mem)))) (nc (N2 (C, co) (.tail _ (b9s _ (by k_mem)))) (nc (N2 (ST, so) (.tail _ (b9s _ (by k_mem)))) (nc (N2 (SB, bo) (.tail _ (b9s _ (by k_mem)))) (nc (N2 (SU, uo) (.tail _ (b9s _ (by k_mem)))) (nc (N2 (L + 1, oS) (.tail _ (b9s _ (by k_mem)))) (nc (N2 (L + 1 + 1, oW) (.tail _ (b9s _ (by k_mem)))) (nc (N2 (I, oI) (.tail _ (b9s _ (by k_mem)))) (nc (N2 (S, instObj 490 Sd) (.tail _ (b9s _ (by k_mem)))) (nc (N2 (Sd, _) (.tail _ (b9s _ (by k_mem)))) (nc (N2 (Bx, ob) (.tail _ (b9s _ (by k_mem)))) (nc (N2 (U, _) (.tail _ (b9s _ (by k_mem)))) (fun p hp => N2 p (.tail _ (by
   rcases b9y.mp hp with hp | hp
   ·exact b9G _ hp
   ·exact b9s _ (by repeat (first | exact hp | refine b9D _ ?_)))))))))))))))))
  have hadd : ∀ p ∈ add, p ∈ add ++ a0d rs [] := fun p hp => b9G _ hp
  have htl : ∀ p ∈ a0d rs [], p ∈ add ++ a0d rs [] := fun p hp => b9s _ hp
  clear N2 N3
  generalize add ++ a0d rs [] = tl at N4 hadd htl
  k_steps
  unfold a0f
  (with_reducible rename News base L _ _ => N5)
  have h1l : 1 ≤ (xk rs).length := by
   obtain ⟨p, hp, _⟩ := hasB_true.mp hbx9
   exact List.length_pos_of_mem hp
  refine a4T (w := w) (bs := xk rs) rfl (by k_asm) N5 (.head _) (by k_mem : (SB, bo) ∈ _) hbx hkI (by rw [a6j]; omega) h1l ?_
  revert cm9 D3 c3 vs3 ps add3 h3 tk3; intro hT3 hp3 hs3 ha3 F3 N6 l3
  have hD := hT3.dat
  rw [b0s hnames hp3 hs3 hSrt1] at hD
  have hok : ∀ x ∈ ss1, b9S x = true := fun x hx => by
   obtain ⟨r, hr, rfl⟩ := b9I.mp (hSrt1.1.mem_iff.mp hx)
   exact hnok (r.x, r.k) (b9I.mpr ⟨r, hr, rfl⟩)
  (try dsimp only)
  k_steps
  unfold a0f
  refine a4J N6 (.list (.tail _ (b9s _ mt1)) (hd.mono fun p hp => .tail _ (b9s _ (by repeat (first | exact hadd p hp | refine b9D _ ?_))))) (fun _ h => h) (.list (.head _) (hD.mono fun p hp => .tail _ hp)) (fun _ h => h) (a9X hok) (by ktr_units) ?_
  k_steps
  (with_reducible rename News base L _ _ => N7)
  refine hret _ _ _ (by k_asm) fun p hp => N7 p (.tail _ (b9s _ (.tail _ (.tail _ ?_))))
  exact b3A (l := [_, _, _, _, _, _, _, _, _, _, _, _]) htl hp
theorem b2I (K0 : Below callerA base [] base) (X : (K w.params).In base) (T : Top G.p G.loose G.mean G.mg G.mb base) (hk8 : k ≤ 8) (LS : LawS w L k m9 σ P C ST SB SU po co so bo uo oS oW) (hI : ∀ p ∈ a0O P C ST SB SU L po co so bo uo oS oW (σ.led []), p.1 ≠ I) :
  a0z w L fa cd base (a1a S P ST vt vn va vb vd) (a0O P C ST SB SU L po co so bo uo oS oW ((I, oI) :: σ.led [])) (a1K 5) := by
 revert cl9 G k m9 w vt vn va vb vd cd base L C I P SB SU ST S fa oI po co so bo uo oS oW σ
 intros K0 X T hk8 LS hI
 obtain ⟨⟨t9, hst⟩, ⟨kvs, hbx, hkI⟩, -, -, -, -, lo9⟩ := LS.lw
 exact b1Y (LS.ok.re (a9h LS hI)) K0 X T LS.cS (LS.inv.bd hk8).1 (fun p hp => (LS.inv.names p hp).ok) LS.inv.inbox hst hbx hkI lo9
theorem era_Zq : True := trivial
theorem b5M : True := by
 k_with "Zq:compareOp NotEq ref ref" => ((k_here; refine a0c ?_))
 k_with "Zq:subscriptTail" => ((k_here; (with_reducible show wpAny _ _ (subscriptTail _ _ (b9t _) (c0E _ _)) _ _ _); k_dflt (refine' kdt_tail (knd := kS _) ?k1 ?k2 ?k3 ?_; (case k1 => k_asm); (case k2 => k_mem); (case k3 => assumption))))
 trivial
theorem b1G {S0 : Addr} {vsU : List Value} {cU : Nat} (O : σ.ok w (a0O P C ST SB SU L po co so bo uo oS oW [(I, oI)])) (K0 : Below callerA base [] base) (X : (K w.params).In base) (T : Top G.p G.loose G.mean G.mg G.mb base) (hcS : oS.data = .cell (some (.ref σ.S))) (hn : σ.rs.length ≤ 50) (hnok : ∀ p ∈ xk σ.rs, b9S p.1 = true) (hst : so.IsDictOf (kS w) (a7R SB SU σ.nxt t9)) (hSU : StrsAre vsU σ.subs) (hso : ∀ z ∈ σ.subs, b9S z = true) (huo : uo = listOf vsU.toArray cU) :
  a0z w L fa cd base (a1a S0 P ST vt vn va vb vd) (a0O P C ST SB SU L po co so bo uo oS oW ((I, oI) :: σ.led [])) (a1K 7) := by
 revert K0 X T hcS hn hnok hst hSU hso huo
 revert O; revert σ; revert cl9 G w t9 vt vn va vb vd cd base L C I P SB SU ST fa oI po co so bo uo oS oW S0 vsU cU; z_head
 intros K0 X T hcS hn hnok hst hSU hso huo
 have mk9 : a0b := trivial
 have hap := O.ap
 have hnames := O.names
 subst huo
 have hvN := a5U (SB := SB) (SU := SU) (nxt := nxt) (t := t9)
 have hvS := a5D (SB := SB) (SU := SU) (nxt := nxt) (t := t9)
 unfold a0z
 revert cm9 s h tk dr Q E; intro F N hret
 have N1 := N
 unfold StR.led a0O at N
 dsimp only at *
 unfold a1a at F
 show wpAny _ _ (exec (Stmt.If _ _ _ _) _) _ _ _
 k_steps
 unfold a0f
 refine a4J N (a0L (a := U) (vs := vs.toList) (c := nU) (by k_mem) O5) (fun _ h => h) (a0L (a := SU) (by k_mem) hSU) (fun _ h => h) (a5W hso) (by ktr_units) ?_
 k_steps
 all_goals (first | exact hret _ _ _ F N1 | (rename_i hne; exact absurd (by simpa using hne : False) id))
theorem b2L (K0 : Below callerA base [] base) (X : (K w.params).In base) (T : Top G.p G.loose G.mean G.mg G.mb base) (hk8 : k ≤ 8) (LS : LawS w L k m9 σ P C ST SB SU po co so bo uo oS oW) (hI : ∀ p ∈ a0O P C ST SB SU L po co so bo uo oS oW (σ.led []), p.1 ≠ I) :
  a0z w L fa cd base (a1a S P ST vt vn va vb vd) (a0O P C ST SB SU L po co so bo uo oS oW ((I, oI) :: σ.led [])) (a1K 7) := by
 revert cl9 G k m9 w vt vn va vb vd cd base L C I P SB SU ST S fa oI po co so bo uo oS oW σ
 intros K0 X T hk8 LS hI
 obtain ⟨⟨t9, hst⟩, -, ⟨vsU, cU, huo, hSU⟩, -, -, -, lo9⟩ := LS.lw
 exact b1G (LS.ok.re (a9h LS hI)) K0 X T LS.cS (LS.inv.bd hk8).1 (fun p hp => (LS.inv.names p hp).ok) hst hSU LS.inv.sok huo
theorem era_Zr : True := trivial
theorem b1k : True := by
 k_with "Zr:call ref" => ((with_reducible show wpAny _ _ (call (b9t 764) _) _ _ _); refine a0c ?_)
 k_with "Zr:call ref" => ((with_reducible show wpAny _ _ (call (b9t 757) _) _ _ _); refine a0c ?_)
 k_with "Zr:call ref" => ((with_reducible show wpAny _ _ (call (b9t 254) _) _ _ _); refine a0c ?_)
 k_with "Zr:call ref" => ((with_reducible show wpAny _ _ (call (b9t 487) _) _ _ _); refine a0c ?_)
 trivial
theorem b3N : True := by
 k_with "Zr:compareOp NotEq ref ref" => ((k_here; refine a0c ?_))
 trivial
theorem a8Q {r add : Led} (N : News h₀ L h (r ++ (add ++ σ.led []))) : News h₀ L h (σ.led (r ++ add)) := a3H (by rw [c0M]; exact N)
theorem a6I {r add : Led} (N : News h₀ L h (σ.led (r ++ add))) : News h₀ L h (r ++ (add ++ σ.led [])) := by have := a2b N; rwa [c0M] at this
theorem b1X {r add : Led} (N : News h₀ L h (add ++ σ.led r)) : News h₀ L h (r ++ (add ++ σ.led [])) := fun p hp => N p (by
 rcases b9y.mp hp with hp | hp
 ·exact b9s _ (StR.led_rest hp)
 rcases b9y.mp hp with hp | hp
 ·exact b9G _ hp
 ·exact b9s _ (StR.led_mono (rest := []) (rest' := r) (fun _ h => nomatch h) hp))
theorem a9G {n : Led} {v : Value} (h : DatIn n v (.tuple ds)) : ∃ a, v = .ref a := by
 revert cl9 ds n v
 intros h
 cases h with
 | tuple hm _ => exact ⟨_, rfl⟩
theorem b1E (h : ∀ x ∈ subs, b9S x = true) (h' : ∀ x ∈ ss, b9S x = true) : kqdOk 9 (b1L rs subs nxt ss) = true := by
 unfold b1L
 simp only [kqdOk, List.all_cons, List.all_nil, List.all_map, Bool.true_and, Bool.and_true, c0h, c2H]
 refine ⟨fun x hx => h x hx, fun x hx => ?_⟩
 show kqdOk 7 (b2B x _) = true
 unfold b2B
 simp only [kqdOk, List.all_cons, List.all_nil, Bool.true_and, Bool.and_true]
 exact h' x hx
theorem Fr.cast (F : Fr h₀ L h m) (e : m = m') : Fr h₀ L h m' := e ▸ F
theorem b2v {w : World} {G : Gl} {S P ST I C SB SU A : Addr} {base : Heap} {L fa : Addr} {cd : Value} {k m9 n9 : Nat} {oI po co so bo uo oS oW : Obj} {σ : StR} {vt vn vb vd : Option Value} {d : Deed} {vs : List Value} {tw : Tok} {s : Shared} {h : Heap} {tk : Nat} {dr : Drawn} {Q : Flow → Shared → Prop} {E : Value → Shared → Prop} {rest : List Stmt} (K0 : Below callerA base [] base) (X : (K w.params).In base) (T : Top G.p G.loose G.mean G.mg G.mb base) (hk8 : k ≤ 7) (LS : LawS w L k m9 σ P C ST SB SU po co so bo uo oS oW) (hI : ∀ p ∈ a0O P C ST SB SU L po co so bo uo oS oW (σ.led []), p.1 ≠ I) (hd : d.drawn) (ha : a2j d vs) (hW : oW.data = .cell (some (.str d.word tw))) (hA : ∀ p ∈ a0O P C ST SB SU L po co so bo uo oS oW ((I, oI) :: σ.led []), @b9w Nat _ p.1 A) (F : Fr base L h (a1a S P ST vt vn (some (.ref A)) vb vd)) (N : News base L h ((A, tup vs.toArray n9) :: a0O P C ST SB SU L po co so bo uo oS oW ((I, oI) :: σ.led []))) (hret : ∀ σ' SU' so' bo' uo' vb' vd' h' tk' dr', LawS w L (k + 1) m9 σ' P C ST SB SU' po co so' bo' uo' oS oW → (∀ p ∈ a0O P C ST SB SU' L po co so' bo' uo' oS oW (σ'.led []), p.1 ≠ I) → Fr base L h' (a1a S P ST vt vn (some (.ref A)) vb' vd') → News base L h' (a0O P C ST SB SU' L po co so' bo' uo' oS oW ((I, oI) :: StR.led σ' [])) →
   wpAny (model b9u.prog w) (callerA.deeper (envOfC "law" f110.1.2.2 L fa cd)) (execs rest (envOfC "law" f110.1.2.2 L fa cd)) Q E { s with heap := h', toks := tk', drawn := dr' }) :
  wpAny (model b9u.prog w) (callerA.deeper (envOfC "law" f110.1.2.2 L fa cd)) (execs (a1K 2 :: a1K 3 :: a1K 4 :: rest) (envOfC "law" f110.1.2.2 L fa cd)) Q E { s with heap := h, toks := tk, drawn := dr } := by
 revert cl9 w G S P ST I C SB SU A base L fa cd k m9 n9 oI po co so bo uo oS oW σ vt vn vb vd d vs tw s h tk dr Q E rest
 intros K0 X T hk8 LS hI hd ha hW hA F N hret
 have mk9 : a0b := trivial
 have ap := LS.ap
 have hI' : I ∉ σ.adr := a1D hI (fun p hp => by repeat (first | exact hp | refine b9D _ ?_))
 have hIP : I ≠ P := fun z => hI (P, po) (.head _) z.symm
 have hIT : I ≠ ST := fun z => hI (ST, so) mt2 z.symm
 have hIB : I ≠ SB := fun z => hI (SB, bo) mt3 z.symm
 obtain ⟨nP, nC, nT, nB, nU, n1, n2⟩ : P ∉ σ.adr ∧ C ∉ σ.adr ∧ ST ∉ σ.adr ∧ SB ∉ σ.adr ∧ SU ∉ σ.adr ∧ L + 1 ∉ σ.adr ∧ L + 1 + 1 ∉ σ.adr := by
  have := LS.ok.ap
  unfold a0O at this
  simpa only [b9r, c0f, or_false, forall_eq_or_imp, forall_eq] using this
 have nA : A ∉ σ.adr := a0r hA (fun p hp => by repeat (first | exact hp | refine b9D _ ?_))
 have hb := LS.inv.bd (k := k) (by omega)
 have hcS := LS.cS
 have O1 : σ.ok w ((A, tup vs.toArray n9) :: a0O P C ST SB SU L po co so bo uo oS oW [(I, oI)]) := LS.ok.re (List.forall_mem_cons.mpr ⟨nA, List.forall_mem_cons.mpr ⟨nP, List.forall_mem_cons.mpr ⟨nC, List.forall_mem_cons.mpr ⟨nT, List.forall_mem_cons.mpr ⟨nB, List.forall_mem_cons.mpr ⟨nU, List.forall_mem_cons.mpr ⟨n1, List.forall_mem_cons.mpr ⟨n2, List.forall_mem_cons.mpr ⟨hI', fun _ h => nomatch h⟩⟩⟩⟩⟩⟩⟩⟩⟩)
 obtain ⟨sa1, sa2, sa3, sk1, hsd⟩ := LS.ok.sd
 have N0 := N
 have N1 : News base L h ((σ.S, instObj 490 σ.Sd) :: (σ.Sd, dictOf _ _) :: (A, tup vs.toArray n9) :: a0O P C ST SB SU L po co so bo uo oS oW ((I, oI) :: σ.led [])) := nc (N (σ.S, instObj 490 σ.Sd) (by repeat (first | exact c1z _ | refine b9D _ ?_))) (nc (hsd ▸ N (σ.Sd, σ.sd) (by repeat (first | exact b9D _ (c1z _) | refine b9D _ ?_))) N)
 unfold a0O at N1 N0 O1
 clear N
 unfold a1a at F
 show wpAny _ _ (execs (c1R _ _ _ :: c1R _ _ _ :: Stmt.If _ _ _ _ :: rest) _) _ _ _
 k_steps
 unfold a0f
 refine Fn.use (a7V O1 hb.rs hb.subs) K0 (by k_asm) X (a3H (r := [_, _, _, _, _, _, _, _, _]) N0) T rfl (by decide) (by decide) ?_
 revert cm9 h' tk' C9; intro hC9
 revert cm9 v news'; intro hR9; obtain ⟨add, ss1, rfl, hfr, hSrt1, hD⟩ := hR9
 subst hC9
 intro F' N'
 obtain ⟨vB, rfl⟩ := a9G hD
 clear N0 N1
 have N2 := b1X N'
 clear N'
 simp only [c0b, c0c] at N2
 have hlr : ∀ q : Addr × Obj, q ∈ (A, tup vs.toArray n9) :: a0O P C ST SB SU L po co so bo uo oS oW [(I, oI)] → ∀ p ∈ add, @b9w Nat _ q.1 p.1 := fun q hq p hp => hfr p hp q (StR.led_rest hq)
 unfold a0O at hlr
 have hadr : ∀ p ∈ add, p.1 ∉ σ.adr := fun p hp e => by
  obtain ⟨q, hq, z⟩ := StR.mem_adr e ((A, tup vs.toArray n9) :: a0O P C ST SB SU L po co so bo uo oS oW [(I, oI)])
  exact absurd (hfr p hp q hq) (by rw [z]; exact c0g _)
 have hadd : ∀ p ∈ add, p ∈ add ++ σ.led [] := fun p hp => b9G _ hp
 (try dsimp only)
 have hlen := O1.ap
 clear hlen
 k_steps
 unfold a0f
 (with_reducible rename News base L _ _ => N3)
 have N4 := a4D (l1 := [_, _, _]) N3
 clear N3
 simp only [c0b, c0c] at N4
 have hnm : ∀ p ∈ xk σ.rs, NameOk k p.1 := LS.inv.names
 have hct := LS.inv.count
 have hsc := LS.inv.scount
 refine FnD.use (a9i (d := d) LS.lw ?off ?off2 hd (by rw [a6j]; omega) (by omega) (fun p hp => by have := (hnm p hp).len; omega) (fun p hp => (hnm p hp).ok) (.head _) ha) K0 (by k_asm) X N4 T rfl (by decide) (by decide) ?_
 case off =>
  refine a0A (P := (· ≠ ST)) (b9F (hA (ST, so) (by k_mem))) (a0A (P := (· ≠ ST)) (b9A ap.a2) (a0A (P := (· ≠ ST)) ap.d1 (a0A (P := (· ≠ ST)) ap.b3 (a0A (P := (· ≠ ST)) ap.b4 (a0A (P := (· ≠ ST)) hIT (fun q hq => ?_))))))
  rcases b9y.mp hq with hq | hq
  ·exact b9F (hlr (ST, so) (by k_mem) q hq)
  ·exact a0S (r := []) nT (fun _ h => nomatch h) q hq
 case off2 =>
  refine a0A (P := (· ≠ SB)) (b9F (hA (SB, bo) (by k_mem))) (a0A (P := (· ≠ SB)) (b9A ap.a3) (a0A (P := (· ≠ SB)) ap.d2 (a0A (P := (· ≠ SB)) ap.c2 (a0A (P := (· ≠ SB)) ap.c3 (a0A (P := (· ≠ SB)) hIB (fun q hq => ?_))))))
  rcases b9y.mp hq with hq | hq
  ·exact b9F (hlr (SB, bo) (by k_mem) q hq)
  ·exact a0S (r := []) nB (fun _ h => nomatch h) q hq
 revert cm9 h' tk' dr' C9; intro hC9
 revert cm9 v news'; intro hR9; obtain ⟨ud, so', bo', SU', uo', bs', nxt', subs', code', rfl, rfl, hSU, hLw, hLD⟩ := hR9
 subst hC9
 intro F' N'
 clear N4
 have nU' : SU' ∉ σ.adr := hSU.elim (fun h => h ▸ nU) fun h => a1D h (fun p hp => by repeat (first | exact b9s _ hp | refine b9D _ ?_))
 (try dsimp only)
 k_steps
 unfold a0f
 (with_reducible rename News base L _ _ => N2)
 refine Fn.use (a3B (vs := vs.toArray) (A := A) (n := n9) (by k_mem)) K0 (by k_asm) X N2 T rfl (by decide) (by decide) ?_
 revert cm9 h' tk' C9; intro hC9
 revert cm9 v news'; intro hR9; obtain ⟨cC, cdC, rfl, ⟨ca1, ca2, ca3, ct1, ct2, rfl⟩, lC1, lC2⟩ := hR9
 subst hC9
 intro F' N'
 clear N2
 (try dsimp only)
 k_steps
 unfold a0f
 (with_reducible rename News base L _ _ => N2)
 have hlt9 : ∀ p ∈ σ.led [], @b9w Nat _ p.1 cC := fun p hp => b9V (lC1 p (by repeat (first | exact b9s _ hp | refine b9D _ ?_))) lC2
 refine FnO.use (b1f (d := d) (LS.ok.re ?ap) ⟨cdC, A, _, vs, n9, .head _, mt1, by k_mem, ⟨⟨_, _, _, _, _, rfl⟩, ha⟩⟩ (LS.inv.bd (by omega)) (Inv.short hd) (LS.inv.deedOk hd)) K0 (by k_asm) X (a8Q (r := _ :: _ :: _ :: _ :: _ :: _ :: _ :: _ :: _ :: _ :: [_]) N2) T rfl (by decide) (by decide) ?_
 case ap =>
  refine List.forall_mem_cons.mpr ⟨a0r hlt9 fun _ h => h, List.forall_mem_cons.mpr ⟨a0r lC1 fun p hp => ?_, List.forall_mem_cons.mpr ⟨nT, List.forall_mem_cons.mpr ⟨nB, List.forall_mem_cons.mpr ⟨nU', List.forall_mem_cons.mpr ⟨nA, List.forall_mem_cons.mpr ⟨nP, List.forall_mem_cons.mpr ⟨nC, List.forall_mem_cons.mpr ⟨n1, List.forall_mem_cons.mpr ⟨n2, List.forall_mem_cons.mpr ⟨hI', hadr⟩⟩⟩⟩⟩⟩⟩⟩⟩⟩⟩
  repeat (first | exact b9s _ hp | refine b9D _ ?_)
 revert cm9 h' tk' C9; intro hC9
 revert cm9 v news'; intro hR9; obtain ⟨code, uc, σ', rfl, rfl, O', eS, HR⟩ := hR9
 subst hC9
 intro F' N'
 clear N2
 obtain ⟨rfl, rfl, rfl, rfl, hinv⟩ := a4A LS.inv hd HR hLD
 have N2 := a6I (r := _ :: _ :: _ :: _ :: _ :: _ :: _ :: _ :: _ :: _ :: [_]) N'
 clear N'
 simp only [c0b, c0c] at N2
 (try dsimp only)
 have nI' : I ∉ σ'.adr := O'.ap (I, oI) (by k_mem)
 have hSI : SU' ≠ I := hSU.elim (fun h => h ▸ hI (SU, uo) (by k_mem)) fun h => b9A (h (I, oI) (by k_mem))
 have hSP : SU' ≠ P := hSU.elim (fun h => h ▸ ap.a4) fun h => b9A (h (P, po) (by k_mem))
 have LS' := LS.next O' (O'.ap (P, po) (by k_mem)) (O'.ap (C, co) (by k_mem)) (O'.ap (ST, so') (by k_mem)) (O'.ap (SB, bo') (by k_mem)) (O'.ap (L + 1, oS) (by k_mem)) (O'.ap (L + 1 + 1, oW) (by k_mem)) ⟨O'.ap (SU', uo') (by k_mem), hSP⟩ LS.pen hLw hinv eS
 have hI2 : ∀ p ∈ a0O P C ST SB SU' L po co so' bo' uo' oS oW (σ'.led []), p.1 ≠ I := List.forall_mem_cons.mpr ⟨b9A hIP, List.forall_mem_cons.mpr ⟨hI (C, co) (by k_mem), List.forall_mem_cons.mpr ⟨b9A hIT, List.forall_mem_cons.mpr ⟨b9A hIB, List.forall_mem_cons.mpr ⟨hSI, List.forall_mem_cons.mpr ⟨hI (L + 1, oS) (by k_mem), List.forall_mem_cons.mpr ⟨hI (L + 1 + 1, oW) (by k_mem), a0S nI' (fun _ h => nomatch h)⟩⟩⟩⟩⟩⟩⟩
 by_cases hcode : code = b9q ""
 ·have hcb : (code != b9q "") = false := by simp [hcode]
  k_steps
  (try (rename_i hne; exact absurd (by simpa using hne : False) id))
  ·(with_reducible rename Fr base L _ _ => F9)
   (with_reducible rename News base L _ _ => N9)
   refine hret σ' SU' so' bo' uo' (some (.ref vB)) (some (.str code ud)) _ _ _ LS' hI2 (Fr.cast F9 (show a1w "due" (some (.str code ud)) (a1w "before" (some (.ref vB)) (a1a S P ST vt vn (some (.ref A)) vb vd)) = _ from by rw [a3p, a6p])) ?_
   refine nc (N9 _ (by k_mem)) (nc (N9 _ (by k_mem)) (nc (N9 _ (by k_mem)) (nc (N9 _ (by k_mem)) (nc (N9 _ (by k_mem)) (nc (N9 _ (by k_mem)) (nc (N9 _ (by k_mem)) (nc (N9 _ (by k_mem)) fun p hp => N9 p ?_)))))))
   repeat (first | exact b9s _ hp | refine b9D _ ?_)
 ·have hcb : (code != b9q "") = true := by simp [hcode]
  have eσ := HR.refused hcode
  subst eσ
  have N4 := N2
  have N3 : News base L _ ((σ.S, instObj 490 σ.Sd) :: (σ.Sd, dictOf _ _) :: _) := nc (N2 (σ.S, instObj 490 σ.Sd) (by repeat (first | exact b9s _ (c1z _) | refine b9D _ ?_))) (nc (hsd ▸ N2 (σ.Sd, σ.sd) (by repeat (first | exact b9s _ (b9D _ (c1z _)) | refine b9D _ ?_))) N2)
  clear N2
  k_steps
  (try (rename_i hne; exact absurd (by simpa using hne : False) id))
  ·unfold a0f
   refine Fn.use (a7V O' hb.rs hb.subs) K0 (by k_asm) X (a8Q (r := _ :: _ :: _ :: _ :: _ :: _ :: _ :: _ :: _ :: _ :: [_]) N4) T rfl (by decide) (by decide) ?_
   revert cm9 h2 tk2 C9; intro hC9
   revert cm9 v news'; intro hR9; obtain ⟨add2, ss2, rfl, hfr2, hSrt2, hD2⟩ := hR9
   subst hC9
   intro F' N'
   obtain ⟨vC, rfl⟩ := a9G hD2
   have es := a0K hSrt1 hSrt2
   subst es
   have hok : ∀ x ∈ ss1, b9S x = true := fun x hx => by
    obtain ⟨r, hr, rfl⟩ := b9I.mp (hSrt1.1.mem_iff.mp hx)
    exact (hnm (r.x, r.k) (b9I.mpr ⟨r, hr, rfl⟩)).ok
   clear N3 N4
   (try dsimp only)
   k_steps
   unfold a0f
   refine a4J N' hD2 (fun p hp => b9G _ hp) hD (fun p hp => b9s _ (StR.led_rest (b9s (_ :: _ :: _ :: _ :: _ :: _ :: _ :: _ :: _ :: _ :: [_]) hp))) (b1E LS.inv.sok hok) (by ktr_units) ?_
   have N5 := a6I (r := _ :: _ :: _ :: _ :: _ :: _ :: _ :: _ :: _ :: _ :: [_]) (fun p hp => N' p (b9s _ hp))
   clear N'
   simp only [c0b, c0c] at N5
   k_steps
   (with_reducible rename Fr base L _ _ => F9)
   (with_reducible rename News base L _ _ => N9)
   refine hret σ SU' so' bo' uo' (some (.ref vB)) (some (.str code ud)) _ _ _ LS' hI2 (Fr.cast F9 (show a1w "due" (some (.str code ud)) (a1w "before" (some (.ref vB)) (a1a S P ST vt vn (some (.ref A)) vb vd)) = _ from by rw [a3p, a6p])) ?_
   refine nc (N9 _ (by k_mem)) (nc (N9 _ (by k_mem)) (nc (N9 _ (by k_mem)) (nc (N9 _ (by k_mem)) (nc (N9 _ (by k_mem)) (nc (N9 _ (by k_mem)) (nc (N9 _ (by k_mem)) (nc (N9 _ (by k_mem)) fun p hp => N9 p ?_)))))))
   repeat (first | exact b9s _ hp | refine b9D _ ?_)
theorem era_Zs : True := trivial
theorem b1g : True := by
 k_with "Zs:call ref" => ((with_reducible show wpAny _ _ (call (b9t 686) _) _ _ _); refine a0c ?_)
 k_with "Zs:call ref" => ((with_reducible show wpAny _ _ (call (b9t 714) _) _ _ _); refine a0c ?_)
 trivial
theorem b5T : True := by
 k_with "Zs:call ref" => (k_here; ((with_reducible show wpAny _ _ (call (b9t 707) _) _ _ _); k_dflt (refine' Fn.use a4M ?k1 ?k2 ?k3 ?k4 ?k5 ?k6 ?k7 ?k8 ?_); (case k4 => k_extra "g:k4"); k_extra "g:c1"; k_extra "g:c2"; obtain ⟨DnN, vsN, cN, rfl, rfl, lN1, hSN⟩ := hR'; (try clear hR'); k_extra "g:c3"; (try k_lt lN1); k_extra "g:c4"))
 trivial
theorem a9y {a : Addr} {k : Int} (N : News h₀ L s.heap news) (hm : (a, listOf vs.toArray n) ∈ news) (hI : IntsAre vs ns) (hk : 0 ≤ k) (hk2 : k < (ns.length : Int)) (hk3 : k < 1000000) (hs : subscripted slice false (.ref a) (.int k u) = operate [.ref a, .int k u] (getItem (.ref a) (.int k u))) (h : ∀ j t, j ∈ ns → Q (.int j t) s) :
  wpAny (model prog w) A (subscriptTail value slice (.ref a) (.int k u)) Q E s :=
 PyProof.Rows.item_list_intsT ⟨_, (N _ hm).1, rfl, n, rfl⟩ hI hk hk2 (by omega) (fun t => h _ t (by
  have : k.toNat < ns.length := by omega
  rw [c0I, c2G this]; exact c2f this)) hs
theorem a5e {l1 l2 : Led} (N : News h₀ L h (l1 ++ a :: b :: l2)) : News h₀ L h (a :: b :: (l1 ++ l2)) := fun p hp => N p (by
 simp only [b9r, b9y] at hp ⊢
 rcases hp with h | h | h | h
 ·exact .inr (.inl h)
 ·exact .inr (.inr (.inl h))
 ·exact .inl h
 ·exact .inr (.inr (.inr h)))
theorem b3O : True := by
 k_with "Zs:subscriptTail" => ((k_here; (with_reducible show wpAny _ _ (subscriptTail _ _ (b9t _) (Value.int _ _)) _ _ _); refine a0c ?_))
 k_with "Zs:storeName" => ((k_here; (with_reducible show wpAny _ _ (storeName _ (b9q "word") _) _ _ _); refine a0c ?_))
 k_with "Zs:storeName" => ((k_here; (with_reducible show wpAny _ _ (storeName _ (b9q "args") _) _ _ _); refine a0c ?_))
 trivial
theorem PenOk.mono {m m' : Nat} (h : PenOk P C po co m) (k : m ≤ m') : PenOk P C po co m' := by
 revert cl9 C P po co m m'
 intros h k
 have mk9 : a0b := trivial
 obtain ⟨⟨g, s, k, t1, t2, t3, c, a, b, d, e, f, g9⟩, h2, h3⟩ := h
 exact ⟨⟨g, s, k, t1, t2, t3, c, a, b, d, e, f, by omega⟩, h2, h3⟩
theorem LawS.chg {m m' : Nat} {po' oW' : Obj} (LS : LawS w L k m σ P C ST SB SU po co so bo uo oS oW) (hp : PenOk P C po' co m') (hW : ∃ v, oW'.data = .cell v) : LawS w L k m' σ P C ST SB SU po' co so bo uo oS oW' :=
 ⟨LS.ok.re (by
  have := LS.ok.ap
  unfold a0O at this ⊢
  simpa only [b9r, c0f, or_false, forall_eq_or_imp, forall_eq] using this), hp, LS.lw, LS.inv, LS.cS, hW, LS.ap⟩
theorem b0m : ∀ wd ∈ a4f, (wd == b9q "RENAME") = false → ∀ x ∈ allNames, ∃ d : Deed, d.word = wd ∧ d.drawn ∧ ∀ t, a2j d [.str x t] := by
 have mk9 : a0b := trivial
 intro wd hw hne x hx
 unfold a4f at hw
 simp only [b9r, c0f, or_false] at hw
 rcases hw with rfl | rfl | rfl | rfl | rfl
 ·exact ⟨.create x, rfl, hx, fun t => ⟨t, rfl⟩⟩
 ·exact ⟨.delete x, rfl, hx, fun t => ⟨t, rfl⟩⟩
 ·exact absurd hne (by decide)
 ·exact ⟨.subscribe x, rfl, hx, fun t => ⟨t, rfl⟩⟩
 ·exact ⟨.unsubscribe x, rfl, hx, fun t => ⟨t, rfl⟩⟩
theorem b2g : ∀ j ∈ [(1 : Int), 0, 2, 3, 4, 2], 0 ≤ j ∧ j < 5 := by decide
theorem a6B {l : Led} {c a : Addr} (N : News h₀ L h l) (hc : (c, oW) ∈ l) (hW : oW.data = .cell v) (ha : (a, o) ∈ l) (ho : ∀ v, o.data ≠ .cell v) : a ≠ c := fun e => by
 have h1 := (N _ hc).1
 have h2 := (N _ ha).1
 dsimp only at h1 h2
 rw [e, h1] at h2
 exact ho v (by rw [← b9U h2]; exact hW)
theorem a6l {w : World} {G : Gl} {S P ST I C SB SU A : Addr} {base : Heap} {L fa : Addr} {cd : Value} {k m9 n9 : Nat} {oI po co so bo uo oS oW : Obj} {σ : StR} {vt vn vb vd : Option Value} {d : Deed} {vs : List Value} {tw : Tok}
  (K0 : Below callerA base [] base) (X : (K w.params).In base) (T : Top G.p G.loose G.mean G.mg G.mb base) (hk8 : k ≤ 7) (LS : LawS w L k m9 σ P C ST SB SU po co so bo uo oS oW) (hI : ∀ p ∈ a0O P C ST SB SU L po co so bo uo oS oW (σ.led []), p.1 ≠ I)
  (hd : d.drawn) (ha : a2j d vs) (hW : oW.data = .cell (some (.str d.word tw))) (hA : ∀ p ∈ a0O P C ST SB SU L po co so bo uo oS oW ((I, oI) :: σ.led []), @b9w Nat _ p.1 A)
  {s : Shared} {h : Heap} {tk : Nat} {dr : Drawn} {Q : Flow → Shared → Prop} {E : Value → Shared → Prop} (F : Fr base L h (a1a S P ST vt vn (some (.ref A)) vb vd)) (N : News base L h ((A, tup vs.toArray n9) :: a0O P C ST SB SU L po co so bo uo oS oW ((I, oI) :: σ.led []))) :
  wpAny (model b9u.prog w) (callerA.deeper (envOfC "law" f110.1.2.2 L fa cd)) (execs (a1K 2 :: a1K 3 :: a1K 4 :: a1K 5 :: a1K 6 :: a1K 7 :: []) (envOfC "law" f110.1.2.2 L fa cd)) (b2R base L (a7k w L S P ST (k + 1) m9) I oI s Q) E { s with heap := h, toks := tk, drawn := dr } := by
 refine b2v K0 X T hk8 LS hI hd ha hW hA F N ?_
 intro σ' SU' so' bo' uo' vb' vd' h' tk' dr' LS' hI' F' N'
 refine c1U (b2I K0 X T (by omega) LS' hI' s h' tk' dr' _ _ F' N' ?_)
 intro h1 tk1 dr1 F1 N1
 refine c1U (b2V K0 X T (by omega) LS' hI' s h1 tk1 dr1 _ _ F1 N1 ?_)
 intro h2 tk2 dr2 F2 N2
 refine c1U (b2L K0 X T (by omega) LS' hI' s h2 tk2 dr2 _ _ F2 N2 ?_)
 intro h3 tk3 dr3 F3 N3
 refine wpAny_execs_nil ?_
 refine a5h (news' := a0O P C ST SB SU' L po co so' bo' uo' oS oW (σ'.led [])) F3 N3 (by k_mem) ?_ hI' ⟨σ', C, SB, SU', po, co, so', bo', uo', oS, oW, _, _, _, _, _, rfl, rfl, LS'⟩
 refine List.forall_mem_cons.mpr ⟨by k_mem, List.forall_mem_cons.mpr ⟨by k_mem, List.forall_mem_cons.mpr ⟨by k_mem, List.forall_mem_cons.mpr ⟨by k_mem, List.forall_mem_cons.mpr ⟨by k_mem, List.forall_mem_cons.mpr ⟨by k_mem, List.forall_mem_cons.mpr ⟨by k_mem, fun p hp => ?_⟩⟩⟩⟩⟩⟩⟩
 repeat (first | exact hp | refine b9D _ ?_)
theorem a9k {w : World} {G : Gl} {S P ST I : Addr} {base h : Heap} {L fa : Addr} {cd : Value} {s : Shared} {Q : Flow → Shared → Prop} {E : Value → Shared → Prop} {k m9 : Nat} {oI : Obj} {tk : Nat} {dr : Drawn} {i : Int} {ti : Tok} {m₁ : b9p → Option Value} {news : Led} (K0 : Below callerA base [] base) (X : (K w.params).In base) (T : Top G.p G.loose G.mean G.mg G.mb base) (hk8 : k ≤ 7) (hm9 : m9 ≤ 40) (J : a7k w L S P ST k m9 m₁ news) (hI : ∀ p ∈ news, p.1 ≠ I) (F : Fr base L h (fun y => if y = "turn" then some (.int i ti) else m₁ y)) (N : News base L h ((I, oI) :: news)) :
  wpAny (model b9u.prog w) (callerA.deeper (envOfC "law" f110.1.2.2 L fa cd)) (execs (a1W 4) (envOfC "law" f110.1.2.2 L fa cd)) (b2R base L (a7k w L S P ST (k + 1) (m9 + 5)) I oI s Q) E { s with heap := h, toks := tk, drawn := dr } := by
 revert cl9 w G S P ST I base h L fa cd s Q E k m9 oI tk dr i ti m₁ news
 intros K0 X T hk8 hm9 J hI F N
 have mk9 : a0b := trivial
 obtain ⟨σ, C, SB, SU, po, co, so, bo, uo, oS, oW, vt, vn, va, vb, vd, rfl, rfl, LS⟩ := J
 have N1 : News base L h (a0O P C ST SB SU L po co so bo uo oS oW ((I, oI) :: σ.led [])) := by
  repeat (refine nc (N _ (by k_mem)) ?_)
  exact fun p hp => N p (by repeat (first | exact hp | refine b9D _ ?_))
 clear N
 have hcS := LS.cS
 have ap := LS.ap
 have hI' : I ∉ σ.adr := a1D hI (fun p hp => by repeat (first | exact hp | refine b9D _ ?_))
 have hIP : I ≠ P := fun z => hI (P, po) (.head _) z.symm
 have nP : P ∉ σ.adr := LS.ok.ap _ (.head _)
 have n2 : L + 1 + 1 ∉ σ.adr := LS.ok.ap (L + 1 + 1, oW) (by k_mem)
 obtain ⟨vW, hW⟩ := LS.cW
 have offW : ∀ q ∈ (P, po) :: (C, co) :: (ST, so) :: (SB, bo) :: (SU, uo) :: (L + 1, oS) :: (I, oI) :: σ.led [], q.1 ≠ L + 1 + 1 := by
  obtain ⟨vs9, ns9, c9, hco, -, -⟩ := LS.pen.co
  obtain ⟨vs8, c8, huo, -⟩ := LS.lw.sb
  refine List.forall_mem_cons.mpr ⟨b9A ap.a6, List.forall_mem_cons.mpr ⟨a6B N1 (by k_mem) hW (a := C) (o := co) (by k_mem) (fun v => by rw [hco]; exact fun z => by cases z), List.forall_mem_cons.mpr ⟨b9A ap.b4, List.forall_mem_cons.mpr ⟨b9A ap.c3, List.forall_mem_cons.mpr ⟨a6B N1 (by k_mem) hW (a := SU) (o := uo) (by k_mem) (fun v => by rw [huo]; exact fun z => by cases z), List.forall_mem_cons.mpr ⟨b9v (c0K _), List.forall_mem_cons.mpr ⟨fun z => hI (L + 1 + 1, oW) (by k_mem) z.symm, a0S n2 (fun _ h => nomatch h)⟩⟩⟩⟩⟩⟩⟩
 have hoffP : ∀ q ∈ (ST, so) :: (SB, bo) :: (SU, uo) :: (L + 1, oS) :: (L + 1 + 1, oW) :: (I, oI) :: σ.led [], q.1 ≠ P :=
  List.forall_mem_cons.mpr ⟨ap.a2, List.forall_mem_cons.mpr ⟨ap.a3, List.forall_mem_cons.mpr ⟨ap.a4, List.forall_mem_cons.mpr ⟨ap.a5, List.forall_mem_cons.mpr ⟨ap.a6, List.forall_mem_cons.mpr ⟨hIP, a0S nP (fun _ h => nomatch h)⟩⟩⟩⟩⟩⟩
 unfold a0O at N1
 k_steps
 unfold a0f
 (with_reducible rename News base L _ _ => N2)
 (with_reducible rename ∀ (p : Addr × Obj), p ∈ _ → p.fst < _ => hA2)
 have N3 := a5e (l1 := [_, _]) N2
 clear N2
 simp only [c0b, c0c] at N3
 refine Fn.use (a3j LS.pen (by omega) (a2F (hA2 (P, po) (by k_mem)) (a2F (hAll (P, po) (.head _)) hoffP)) (by decide) (by decide)) K0 (by k_asm) X N3 T rfl (by decide) (by decide) ?_
 revert cm9 h' tk' C9; intro hC9
 revert cm9 v news'; intro hR9; obtain ⟨kD, uD, poD, rfl, hkD1, hkD2, rfl, hPD⟩ := hR9
 subst hC9
 intro F' N'
 clear N3
 (try dsimp only)
 k_steps
 unfold a0f
 refine a9y (vs := [_, _, _, _, _, _]) (ns := [1, 0, 2, 3, 4, 2]) N' (by k_mem) (.cons _ _ (.cons _ _ (.cons _ _ (.cons _ _ (.cons _ _ (.cons _ _ .nil)))))) hkD1 hkD2 (by omega) (by with_unfolding_all rfl) ?_
 revert cm9 j tj; intro hj
 obtain ⟨hj1, hj2⟩ := b2g j hj
 k_steps
 unfold a0f
 refine a3b (vs := vsN) (n := cN) N' (by k_mem) hSN hj1 hj2 (by omega) (by with_unfolding_all rfl) ?_
 revert cm9 wd uw; intro hwd
 k_steps
 unfold a0f
 have N2 : News base L h' ((L + 1 + 1, oW) :: (P, poD) :: (C, co) :: (ST, so) :: (SB, bo) :: (SU, uo) :: (L + 1, oS) :: (I, oI) :: σ.led []) := by
  repeat (refine nc (N' _ (by k_mem)) ?_)
  exact fun p hp => N' p (by repeat (first | exact hp | refine b9D _ ?_))
 clear N'
 refine storeX_C (x := "word") (c := L + 1 + 1) (o := oW) F' N2 rfl (.head (fun p hp => ?_)) hW ?_
 ·rcases b9r.mp hp with rfl | hp
  ·exact b9A ap.a6
  ·exact offW p (.tail _ hp)
 revert cm9 h' oW'; intro F' N3 hW'
 clear N2
 (try dsimp only at N3)
 have hoffP' : ∀ q ∈ (L + 1 + 1, oW') :: (ST, so) :: (SB, bo) :: (SU, uo) :: (L + 1, oS) :: (I, oI) :: σ.led [], q.1 ≠ P :=
  List.forall_mem_cons.mpr ⟨ap.a6, List.forall_mem_cons.mpr ⟨ap.a2, List.forall_mem_cons.mpr ⟨ap.a3, List.forall_mem_cons.mpr ⟨ap.a4, List.forall_mem_cons.mpr ⟨ap.a5, List.forall_mem_cons.mpr ⟨hIP, a0S nP (fun _ h => nomatch h)⟩⟩⟩⟩⟩⟩
 have hI3 : ∀ po9 : Obj, ∀ p ∈ a0O P C ST SB SU L po9 co so bo uo oS oW' (σ.led []), p.1 ≠ I := fun po9 => List.forall_mem_cons.mpr ⟨hI (P, po) (by k_mem), List.forall_mem_cons.mpr ⟨hI (C, co) (by k_mem), List.forall_mem_cons.mpr ⟨hI (ST, so) (by k_mem), List.forall_mem_cons.mpr ⟨hI (SB, bo) (by k_mem), List.forall_mem_cons.mpr ⟨hI (SU, uo) (by k_mem), List.forall_mem_cons.mpr ⟨hI (L + 1, oS) (by k_mem), List.forall_mem_cons.mpr ⟨hI (L + 1 + 1, oW) (by k_mem), a0S hI' (fun _ h => nomatch h)⟩⟩⟩⟩⟩⟩⟩
 have N4 := a5e (l1 := [_]) N3
 clear N3
 simp only [c0b, c0c] at N4
 k_steps
 ·have hwr : wd = b9q "RENAME" := c0j (by assumption)
  unfold a0f
  refine Fn.use (a1B hPD (by omega) hoffP') K0 (by k_asm) X N4 T rfl (by decide) (by decide) ?_
  revert cm9 h' tk' C9; intro hC9
  revert cm9 v news'; intro hR9; obtain ⟨x1, u1, po1, rfl, hx1, rfl, hP1⟩ := hR9
  subst hC9
  intro F' N'
  (try dsimp only)
  k_steps
  unfold a0f
  refine Fn.use (a1B hP1 (by omega) hoffP') K0 (by k_asm) X N' T rfl (by decide) (by decide) ?_
  revert cm9 h' tk' C9; intro hC9
  revert cm9 v news'; intro hR9; obtain ⟨x2, u2, po2, rfl, hx2, rfl, hP2⟩ := hR9
  subst hC9
  intro F' N'
  (try dsimp only)
  k_steps
  unfold a0f
  (with_reducible rename News base L _ _ => N9)
  (with_reducible rename Fr base L _ _ => F9)
  refine storeX_L F9 N9 ?_
  intro h' F' N'
  (try dsimp only)
  have hmm : ∀ A9 : Addr, (fun y : b9p => if y = "args" then some (b9t A9) else if y = "turn" then some (.int i ti) else a1a S P ST vt vn va vb vd y) = a1a S P ST (some (.int i ti)) vn (some (.ref A9)) vb vd := by
   intro A9
   show a1w "args" _ (a1w "turn" _ (a1a S P ST vt vn va vb vd)) = _
   rw [a2W, a4x]
  refine a6l (d := .rename x1 x2) (n9 := 0) (vs := [.str x1 u1, .str x2 u2]) (tw := uw) K0 X T hk8 (LS.chg (po' := po2) (oW' := oW') (hP2.mono (by omega)) ⟨_, hW'⟩) (hI3 _) ⟨hx1, hx2⟩ ⟨u1, u2, rfl⟩ (by rw [hW', hwr]; rfl) ?_ (Fr.cast F' (hmm _)) ?_
  ·refine List.forall_mem_cons.mpr ⟨hAll _ (by k_mem), List.forall_mem_cons.mpr ⟨hAll _ (by k_mem), List.forall_mem_cons.mpr ⟨hAll _ (by k_mem), List.forall_mem_cons.mpr ⟨hAll _ (by k_mem), List.forall_mem_cons.mpr ⟨hAll _ (by k_mem), List.forall_mem_cons.mpr ⟨hAll _ (by k_mem), List.forall_mem_cons.mpr ⟨hAll _ (by k_mem), fun p hp => hAll p ?_⟩⟩⟩⟩⟩⟩⟩
   repeat (first | exact hp | refine b9D _ ?_)
  ·refine nc (N' _ (by k_mem)) (nc (N' _ (by k_mem)) (nc (N' _ (by k_mem)) (nc (N' _ (by k_mem)) (nc (N' _ (by k_mem)) (nc (N' _ (by k_mem)) (nc (N' _ (by k_mem)) (nc (N' _ (by k_mem)) fun p hp => N' p ?_)))))))
   repeat (first | exact hp | refine b9D _ ?_)
 ·have hwr : (wd == b9q "RENAME") = false := by assumption
  unfold a0f
  refine Fn.use (a1B hPD (by omega) hoffP') K0 (by k_asm) X N4 T rfl (by decide) (by decide) ?_
  revert cm9 h' tk' C9; intro hC9
  revert cm9 v news'; intro hR9; obtain ⟨x1, u1, po1, rfl, hx1, rfl, hP1⟩ := hR9
  subst hC9
  intro F' N'
  (try dsimp only)
  k_steps
  obtain ⟨d, hd1, hd2, hd3⟩ := b0m wd hwd hwr x1 hx1
  unfold a0f
  (with_reducible rename News base L _ _ => N9)
  (with_reducible rename Fr base L _ _ => F9)
  refine storeX_L F9 N9 ?_
  intro h' F' N'
  (try dsimp only)
  have hmm : ∀ A9 : Addr, (fun y : b9p => if y = "args" then some (b9t A9) else if y = "turn" then some (.int i ti) else a1a S P ST vt vn va vb vd y) = a1a S P ST (some (.int i ti)) vn (some (.ref A9)) vb vd := by
   intro A9
   show a1w "args" _ (a1w "turn" _ (a1a S P ST vt vn va vb vd)) = _
   rw [a2W, a4x]
  refine a6l (d := d) (n9 := 0) (vs := [.str x1 u1]) (tw := uw) K0 X T hk8 (LS.chg (po' := po1) (oW' := oW') (hP1.mono (by omega)) ⟨_, hW'⟩) (hI3 _) hd2 (hd3 u1) (by rw [hW', hd1]) ?_ (Fr.cast F' (hmm _)) ?_
  ·refine List.forall_mem_cons.mpr ⟨hAll _ (by k_mem), List.forall_mem_cons.mpr ⟨hAll _ (by k_mem), List.forall_mem_cons.mpr ⟨hAll _ (by k_mem), List.forall_mem_cons.mpr ⟨hAll _ (by k_mem), List.forall_mem_cons.mpr ⟨hAll _ (by k_mem), List.forall_mem_cons.mpr ⟨hAll _ (by k_mem), List.forall_mem_cons.mpr ⟨hAll _ (by k_mem), fun p hp => hAll p ?_⟩⟩⟩⟩⟩⟩⟩
   repeat (first | exact hp | refine b9D _ ?_)
  ·refine nc (N' _ (by k_mem)) (nc (N' _ (by k_mem)) (nc (N' _ (by k_mem)) (nc (N' _ (by k_mem)) (nc (N' _ (by k_mem)) (nc (N' _ (by k_mem)) (nc (N' _ (by k_mem)) (nc (N' _ (by k_mem)) fun p hp => N' p ?_)))))))
   repeat (first | exact hp | refine b9D _ ?_)
open PyProof.Rows.LCg
section
variable {prog : Program} {w : World} {A : Around} {E : Value → Shared → Prop} {s : Shared} {h₀ : Heap} {L : Addr} {m : b9p → Option Value} {env : Env}
theorem a5i {Fin : List Value → Led → Prop} {base : Led} {S : Led → Prop} (p : b9p → Bool) (hS : StrsAre its.toList ss) (hsrc : S base) (test : ∀ y ty I oI C oC D ys m₂ h tk (E' : Value → Shared → Prop), y ∈ ss → NsObj oC m₂ → m₂ x = some (.str y ty) → Fr h₀ L h m → News h₀ L h ((I, oI) :: (C, oC) :: (D, lst ys) :: base) →
   wpAny (model prog w) A (isTrue ct (compEnvC scope cl C env) (eval ct (compEnvC scope cl C env))) (a1L h₀ L m { s with heap := h, toks := tk } ((I, oI) :: (C, oC) :: (D, lst ys) :: base) (fun ok => ok = p y)) E' { s with heap := h, toks := tk }) (el : ∀ y ty I oI C oC D ys m₂ h tk (E' : Value → Shared → Prop), y ∈ ss → NsObj oC m₂ → m₂ x = some (.str y ty) → Fr h₀ L h m → News h₀ L h ((I, oI) :: (C, oC) :: (D, lst ys) :: base) →
   wpAny (model prog w) A (eval elt (compEnvC scope cl C env)) (a1L h₀ L m { s with heap := h, toks := tk } ((I, oI) :: (C, oC) :: (D, lst ys) :: base) (fun v => ∃ t, v = .str y t)) E' { s with heap := h, toks := tk }) (fin : ∀ ys, StrsAre ys (ss.filter p) → Fin ys base) : c2U prog w A h₀ L m env ct elt x scope cl s S (fun i v => its[i]? = some v) Fin its.size 0 [] base := by
 revert cl9 ss x scope cl its elt ct prog w A s h₀ L m env Fin base S p
 intros hS hsrc test el fin
 have get : ∀ {vs : List Value} {ss : List b9p} {i : Nat} {v : Value}, StrsAre vs ss → vs[i]? = some v → ∃ x t, v = .str x t ∧ ss[i]? = some x := by
  intro vs ss i v h
  induction h generalizing i with
  | nil => intro q; simp at q
  | cons x t r ih =>
   cases i with
   | zero => intro q; simp at q; exact ⟨x, t, q.symm, rfl⟩
   | succ i => intro q; simpa using ih (by simpa using q)
 have snoc : ∀ {vs : List Value} {ss : List b9p} {x : b9p} {t : Tok}, StrsAre vs ss → StrsAre (vs ++ [.str x t]) (ss ++ [x]) := by
  intro vs ss x t h
  induction h with
  | nil => exact .cons _ _ .nil
  | cons a b r ih => exact .cons a b ih
 have hlen : its.size = ss.length := by rw [← hS.length, c0e]
 refine a0I (fun i ys n => n = base ∧ StrsAre ys ((ss.take i).filter p)) ?_ ?_ its.size 0 [] base (c1J _) ⟨rfl, .nil⟩
 ·intros i ys n hi hR9; (obtain ⟨rfl, hys⟩ := hR9) <;> (try clear hR9); intros v I oI C oC D m₂ h tk E' hv h2 h3 F N off ne
  obtain ⟨y, ty, rfl, hy⟩ := get hS (by simpa using hv)
  have htake : ss.take (i + 1) = ss.take i ++ [y] := by rw [c0H, hy]; rfl
  refine b9L (test y ty I oI C oC D ys m₂ h tk E' (b9Z hy) h2 h3 F N) (fun ok s' z => ?_) fun _ _ z => z
  obtain ⟨h', tk', rfl, F', N', hok⟩ := z
  subst hok
  have fin' : ∀ (ok : Bool) (v' : Value) (ys' : List Value) (h'' : Heap) (tk'' : Nat), Fr h₀ L h'' m → News h₀ L h'' ((I, oI) :: (C, oC) :: (D, lst ys) :: n) → StrsAre ys' ((ss.take (i + 1)).filter p) →
    CompEnd h₀ L m { s with heap := h, toks := tk } I oI C oC D (lst ys) S (fun _ n' => n' = n ∧ StrsAre ys' ((ss.take (i + 1)).filter p)) v' { s with heap := h'', toks := tk'' } := fun ok v' ys' h'' tk'' F'' N'' hs => ⟨h'', tk'', n, rfl, F'', N'', off, hsrc, rfl, hs⟩
  cases hp : p y with
  | true =>
   rw [if_pos rfl]
   refine b9L (el y ty I oI C oC D ys m₂ h' tk' E' (b9Z hy) h2 h3 F' N') (fun v' s'' z => ?_) fun _ _ z => z
   obtain ⟨h'', tk'', rfl, F'', N'', t, rfl⟩ := z
   refine a0v (fin' true _ (ys ++ [.str y t]) h'' tk'' F'' N'' ?_) fun n' z => z
   rw [htake, c1t, show c1u p [y] = [y] from by simp [hp]]
   exact snoc hys
  | false =>
   rw [if_neg (by decide)]
   refine fin' false _ ys h' tk' F' N' ?_
   rw [htake, c1t, show c1u p [y] = [] from by simp [hp], c0k]
   exact hys
 ·intros ys n hR9; (obtain ⟨rfl, hys⟩ := hR9) <;> (try clear hR9)
  rw [hlen, List.take_length] at hys
  exact fin ys hys
noncomputable def b2F (prog : Program) (w : World) (A : Around) (h₀ : Heap) (L : Addr) (m : b9p → Option Value) (env : Env) (ct elt : Expr) (x : b9p) (scope : Scope) (cl : List (b9p × Addr)) (Q : Value → Shared → Prop) (xv : Value) (s₁ : Shared) : Prop :=
 ∃ (ax : Addr) (its : Array Value) (k : Nat) (news : Led), xv = .ref ax ∧ A.handled = none ∧ Fr h₀ L s₁.heap m ∧ News h₀ L s₁.heap news ∧ (ax, ({ cls := .type "tuple", data := .seq its k } : Obj)) ∈ news ∧ its.size ≤ sizeLine ∧
  ∀ s₂ : Shared, (∃ h, s₂ = { s₁ with heap := h }) → c2U prog w A h₀ L m env ct elt x scope cl s₂ (fun n => (ax, ({ cls := .type "tuple", data := .seq its k } : Obj)) ∈ n) (fun i v => its[i]? = some v) (FinE h₀ L m s₂ Q) its.size 0 [] news
theorem a4y (F₀ : Fr h₀ L s.heap m) (hclos : closureFor scope env = pure cl) (hcell : ∀ y ∈ scope.names, y.2 ≠ .cell) (hkind : scope.kind = .function) (hnames : ∀ y ∈ scope.names, y.2 = .local → scope.names.lookup y.1 = some .local) (hx : scope.names.lookup x = some .local) (h : wpAny (model prog w) A (eval iter env) (b2F prog w A h₀ L m env ct elt x scope cl Q) E s) (hs : ∀ x, foldedSetIterable iter env x = pure x) :
  wpAny (model prog w) A (eval (.ListComp elt [⟨.Name x px, iter, [ct], 0⟩] scope pos) env) Q E s := by
 revert cl9 x scope cl Q pos px elt ct iter prog w A E s h₀ L m env
 intros F₀ hclos hcell hkind hnames hx h hs
 rw [eval_ListComp]
 refine wpAny_comprehension_free (use := none) rfl hs hclos hkind hnames (b9L h (fun xv s₁ h₁ => ?_) fun _ _ e => e)
 obtain ⟨ax, its, k, news, rfl, hh, F, N, hm, hsz, R⟩ := h₁
 have hl : s₁.heap.IsTuple ax its := ⟨_, (N _ hm).1, rfl, k, rfl⟩
 have hlt : ax < s₁.heap.objs.size := b9x (N _ hm).1
 refine wpAny_pyIter_tuple hl ?_
 have up : ∀ b o, s₁.heap.get? b = some o → (s₁.heap.push { cls := .type "tuple_iterator", data := .fields #[.ref ax, .int 0 0] }).get? b = some o := fun b o e => b9B _ e
 refine PyProof.Rows.LCt.block_T (Walks.tuple hh s₁.heap.objs.size ax (b9v hlt) its) hsz (fun i h st => by obtain ⟨o, e, _⟩ := st.1; exact ⟨o, e⟩)
  (fun i h h' o nw st e e' kk Nn S => ⟨by obtain ⟨o', q, r⟩ := st.1; rw [e] at q; cases q; exact ⟨o, e', r⟩, ⟨_, (Nn _ S).1, rfl, k, rfl⟩⟩) hcell hkind hx ⟨⟨_, b9R _ rfl, rfl, rfl⟩, ⟨_, up _ _ (N _ hm).1, rfl, k, rfl⟩⟩ (fun b hb => ?_)
  (F.keeps up) (N.grown up) (b9v F.ns.lt) (c1x F) (fun p hp => b9v (b9x (N p hp).1)) hm (R _ ⟨_, rfl⟩) ?_
 ·show b < (s₁.heap.push _).objs.size
  rw [c0i]
  rcases b9r.mp hb with rfl | hb
  ·exact c0K _
  ·rw [b9C.mp hb]; exact b9N hlt
 ·intro D C h tk m' ys news' F' N' o1 hn hC₀ hD₀ hCL hDL hCD offC fin
  refine ⟨m', hn, fun h'' hs'' => fin D h'' tk (F'.change hs'' hCL hC₀) (fun p hp => ?_) o1⟩
  refine ⟨hs''.extBut _ _ ?_ (N' p hp).1, (N' p hp).2⟩
  rcases b9r.mp hp with rfl | hp
  ·exact b9A hCD
  ·exact offC p hp
end
section
variable {prog : Program} {w : World} {A : Around} {E : Value → Shared → Prop} {s : Shared} {env : Env} {h₀ : Heap} {target : Expr} {body : List Stmt} {Q : Flow → Shared → Prop}
theorem a5L (J : Nat → (b9p → Option Value) → Led → Prop) (hJ : ∀ i m n, J i m n → (ax, tup its nn) ∈ n) (hh : A.handled = none) (F : Fr h₀ env.locals s.heap m₀) (N : News h₀ env.locals s.heap news) (hj : J 0 m₀ news) (turn : ∀ i v m₁ news₁ I oI h tk, i < its.size → its[i]? = some v → J i m₁ news₁ → a6Y [(I, oI)] news₁ → Fr h₀ env.locals h m₁ → News h₀ env.locals h ((I, oI) :: news₁) →
   wpAny (model prog w) A (assign target env v) (fun _ s₃ => wpAny (model prog w) A (execs body env) (a1o h₀ env.locals (J (i + 1)) [(I, oI)] { s with heap := h, toks := tk } Q) E s₃) E { s with heap := h, toks := tk }) (done : ∀ m₁ news₁ h tk, J its.size m₁ news₁ → Fr h₀ env.locals h m₁ → News h₀ env.locals h news₁ → Q .next { s with heap := h, toks := tk }) :
  wpAny (model prog w) A (pyIter (.ref ax)) (fun it s₂ => TurnsAt prog w A h₀ env target body Q E it s₂) E s := by
 have hax := N _ (hJ _ _ _ hj)
 have hl : s.heap.IsTuple ax its := ⟨_, hax.1, rfl, nn, rfl⟩
 have hlt : ax < s.heap.objs.size := b9x hax.1
 have hne : ax ≠ s.heap.objs.size := b9v hlt
 refine wpAny_pyIter_tuple hl ?_
 refine a1R (s := s) (tk0 := s.toks) (ws := [(s.heap.objs.size, "tuple_iterator")]) (keep := [(ax, tup its nn)]) J (fun i m n h p hp => by rw [b9C.mp hp]; exact hJ i m n h) (KTurns.ofWalks (Walks.tuple hh s.heap.objs.size ax hne its) fun i v s Q E st q => letGo_tupleiter st.1 q) (fun i h st => ?_) (fun b hb => ?_) (fun b hb => by simpa using hb) (fun b hb => ?_) ?_ (fun p hp hI => ?_) ?_ (F.push _) (fun p hp => ⟨b9B _ (N p hp).1, (N p hp).2⟩) hj ?_ done
 ·obtain ⟨it, hit, hic, _⟩ := st.1
  exact ⟨[(s.heap.objs.size, it)], ⟨⟨rfl, hic⟩, trivial⟩, fun p hp => by rw [b9C.mp hp]; exact hit⟩
 ·have hb' : b = s.heap.objs.size := by simpa using hb
  rw [hb']
  exact ⟨c3w .., c1x F⟩
 ·have hb' : b = s.heap.objs.size ∨ b = ax := by simpa using hb
  rcases hb' with e | e
  ·exact .inl (by simp [e])
  ·exact .inr ⟨_, by rw [e]; exact .head _⟩
 ·intro hI
  rcases b9r.mp hI with e | hI
  ·exact absurd F.ns.lt (e ▸ c0g _)
  ·exact hax.2.1 (b9C.mp hI).symm
 ·exact absurd (b9x (N p hp).1) ((b9C.mp hI) ▸ c0g _)
 ·exact ⟨⟨_, b9R _ rfl, rfl, rfl⟩, ⟨_, b9B _ hax.1, rfl, nn, rfl⟩⟩
 ·intro i v m₁ news₁ is h tk hi hP hJi hits hO F₁ N₁
  obtain ⟨o, rfl⟩ := a6k hits
  exact turn i v m₁ news₁ _ o h tk hi hP hJi hO F₁ N₁
end
theorem era_Zt : True := trivial
theorem b5Y : True := by
 k_with "Zt:call ref" => (k_here; ((with_reducible show wpAny _ _ (call (b9t 172) _) _ _ _); k_dflt (refine' Fn.use a8O ?k1 ?k2 ?k3 ?k4 ?k5 ?k6 ?k7 ?k8 ?_); (case k4 => k_extra "g:k4"); k_extra "g:c1"; k_extra "g:c2"; obtain ⟨rfl, rfl⟩ := hR'; (try clear hR'); k_extra "g:c3"; k_extra "g:c4"))
 k_with "Zt:call ref" => (k_here; ((with_reducible show wpAny _ _ (call (b9t 771) _) _ _ _); k_dflt (refine' Fn.use a3U ?k1 ?k2 ?k3 ?k4 ?k5 ?k6 ?k7 ?k8 ?_); (case k4 => k_extra "g:k4"); k_extra "g:c1"; k_extra "g:c2"; obtain ⟨DnN, vsN, cN, rfl, rfl, lN1, hSN⟩ := hR'; (try clear hR'); k_extra "g:c3"; (try k_lt lN1); k_extra "g:c4"))
 k_with "Zt:compareOp NotEq ref ref" => ((k_here; refine a0c ?_))
 k_with "Zt:eval ListComp" => ((k_here; k_dflt (refine a4y (F₀ := by k_asm) (by with_unfolding_all rfl) (by decide) (by rfl) (by decide) (by rfl) ?_ (by intro _; rfl))))
 trivial
theorem a8l : ∀ wd ∈ a3D, ∀ x ∈ a0R wd, b9S x = true := by decide +kernel
theorem a7Y {w : World} {G : Gl} {base h : Heap} {L fa : Addr} {cd : Value} {s : Shared} {Q : Flow → Shared → Prop} {E : Value → Shared → Prop} {m : b9p → Option Value} {tk : Nat} {dr : Drawn} {oW : Obj} {rest : Led} {wd : b9p} {tw : Tok} (K0 : Below callerA base [] base) (X : (K w.params).In base) (T : Top G.p G.loose G.mean G.mg G.mb base) (hwd : wd ∈ a3D) (hW : oW.data = .cell (some (.str wd tw))) (F : Fr base L h m) (N : News base L h ((L + 1 + 1, oW) :: rest)) (hret : ∀ h' tk', Fr base L h' m → News base L h' ((L + 1 + 1, oW) :: rest) → Q .next { s with heap := h', toks := tk', drawn := dr }) :
  wpAny (model b9u.prog w) (callerA.deeper (envOfC "law" f110.1.2.2 L fa cd)) (execs (a1W 5) (envOfC "law" f110.1.2.2 L fa cd)) Q E { s with heap := h, toks := tk, drawn := dr } := by
 revert cl9 w G base h L fa cd s Q E m tk dr oW rest wd tw
 intros K0 X T hwd hW F N hret
 have mk9 : a0b := trivial
 k_steps
 (with_reducible rename News base L _ _ => N9)
 refine ⟨_, _, _, _, rfl, rfl, by k_asm, N9, .head _, by rw [b9O]; show (4 : Nat) ≤ 16777216; decide, ?_⟩
 intro s₂ hR9; obtain ⟨g, rfl⟩ := hR9
 refine a5i (ss := fourSt) (a3m wd) (.cons _ _ (.cons _ _ (.cons _ _ (.cons _ _ .nil)))) (.head _) ?_ ?_ ?_
 ·revert cm9 y ty I oI C oC D ys m₂ h tk E'; intro hy hC' hx' F9 N9
  k_steps
  exact a0i (by k_asm) (by k_asm) (fun p hp => hp) rfl
 ·revert cm9 y ty I oI C oC D ys m₂ h tk E'; intro hy hC' hx' F9 N9
  k_steps
  exact a0i (by k_asm) (by k_asm) (fun p hp => hp) ⟨_, rfl⟩
 ·intro ys hys
  unfold c1w
  revert cm9 D2 h2 tk2; intro F2 N2 off2
  k_steps
  unfold a0f
  (with_reducible rename News base L _ _ => N8)
  rw [a4b wd hwd] at hys
  refine a4J N8 (a0L (a := D2) (vs := ys) mt1 hys) (fun _ h => h) (a0L (a := DnN) (.head _) hSN) (fun _ h => h) (a5W (a8l wd hwd)) (by ktr_units) ?_
  k_steps
  (with_reducible rename News base L _ _ => N7)
  exact hret _ _ (by k_asm) fun p hp => N7 p (tl3 hp)
theorem era_Zu : True := trivial
theorem b1j : True := by
 k_with "Zu:call ref" => ((with_reducible show wpAny _ _ (call (b9t 679) _) _ _ _); refine a0c ?_)
 k_with "Zu:call ref" => ((with_reducible show wpAny _ _ (call (b9t 490) _) _ _ _); refine a0c ?_)
 trivial
theorem b5r : True := by
 k_with "Zu:exec For Name Call cons nil" => ((k_here; refine a0c ?_))
 k_with "Zu:storeName" => ((k_here; (with_reducible show wpAny _ _ (storeName _ (b9q "store") _) _ _ _); refine a0c ?_))
 k_with "Zu:eval Dict cons cons" => ((k_here; k_dflt (refine' kdn_eval (knd := kS _) ?F ?N ?b ?a ?l ?e ?n ?_; (case F => k_asm); (case N => k_asm); (case b => exact Top.nolimit (by k_asm)); (case a => rfl); (case l => rfl); (case e => exact List.cons_ne_nil _ _); (case n => exact c1V rfl)); intro dN' h' oN' F' N' l1 lo' hdN'; (try k_lt l1)))
 trivial
theorem a1q (h : m x = none) : a1w x none m = m := funext fun y => by
 unfold a1w
 split
 ·rename_i e; rw [e, h]
 ·rfl
theorem a7l : b7Y S P ST = a1a S P ST none none none none none := by
 rw [a0Q, a1q (x := "turn") (by rfl), a1q (x := "name") (by rfl), a1q (x := "args") (by rfl), a1q (x := "before") (by rfl), a1q (x := "due") (by rfl)]
theorem b0b : a1m "INBOX" = true ∧ a0a "INBOX" = "INBOX" ∧ (b9q "INBOX").length ≤ 20 ∧ b9S "INBOX" = true := by decide +kernel
theorem a8X (h1 : σ.rs = [r]) (h2 : r.x = b9q "INBOX") (h3 : σ.subs = []) (h4 : σ.nxt = 2) : Inv 0 σ := by
 obtain ⟨a, b, c, d⟩ := b0b
 have hx : xk σ.rs = [(b9q "INBOX", r.k)] := by rw [h1]; show [(r.x, r.k)] = _; rw [h2]
 refine ⟨fun p hp => ?_, by rw [h1]; exact b9K _, by rw [hx]; rfl, by rw [h3]; exact b9K _, by rw [h3]; exact (fun z hz => nomatch hz), by rw [h3]; rfl, by rw [h3]; exact .nil, by rw [h4]; decide⟩
 rw [hx] at hp
 rw [b9C.mp hp]
 exact ⟨goodB_iff.mp a, b, c, d⟩
theorem b0M (O : σ.ok w rest) (nP : P ∉ σ.adr) (nC : C ∉ σ.adr) (n1 : L + 1 ∉ σ.adr) (n2 : L + 1 + 1 ∉ σ.adr) (h1 : σ.rs = [r]) (h2 : r.x = b9q "INBOX") (h2k : r.k = 1) (h3 : σ.subs = []) (h4 : σ.nxt = 2) (hpen : PenOk P C po co 0) (hcS : oS.data = .cell (some (.ref σ.S))) (hW : oW.data = .cell none) (hdT : so.IsDictOf (kS w) (a7R SB SU 2 t)) (hdB : bo.IsDictOf (kS w) [(b9q "INBOX", .int 1 u)]) (lo : (SB == sysModules) = false) (hP1 : @b9w Nat _ (L + 1) P) (hP2 : @b9w Nat _ (L + 1 + 1) P) (hPC : @b9w Nat _ C P) (hT : ∀ p ∈ (L + 1, oS) :: (P, po) :: (C, co) :: (L + 1 + 1, oW) :: σ.led [], @b9w Nat _ p.1 ST) (hTB : @b9w Nat _ ST SB) (hBU : @b9w Nat _ SB SU) :
  a7k w L S P ST 0 0 (a1a S P ST none none none none none) (a0O P C ST SB SU L po co so bo (listOf #[] 0) oS oW (σ.led [])) := by
 revert cl9 w u t L C P SB SU ST S po co so bo oS oW rest r σ
 intros O nP nC n1 n2 h1 h2 h2k h3 h4 hpen hcS hW hdT hdB lo hP1 hP2 hPC hT hTB hBU
 have t1 : @b9w Nat _ (L + 1) ST := hT (L + 1, oS) (.head _)
 have t2 : @b9w Nat _ P ST := hT (P, po) (by k_mem)
 have t3 : @b9w Nat _ C ST := hT (C, co) (by k_mem)
 have t4 : @b9w Nat _ (L + 1 + 1) ST := hT (L + 1 + 1, oW) (by k_mem)
 have tl : ∀ p ∈ σ.led [], @b9w Nat _ p.1 ST := fun p hp => hT p (by repeat (first | exact hp | refine b9D _ ?_))
 have nT : ST ∉ σ.adr := a0r tl fun _ h => h
 have nB : SB ∉ σ.adr := a0r (fun p hp => b9V (tl p hp) hTB) fun _ h => h
 have nU : SU ∉ σ.adr := a0r (fun p hp => b9V (b9V (tl p hp) hTB) hBU) fun _ h => h
 have hxk : xk σ.rs = [(b9q "INBOX", 1)] := by rw [h1]; show [(r.x, r.k)] = _; rw [h2, h2k]
 have hTU := b9V hTB hBU
 refine ⟨σ, C, SB, SU, po, co, so, bo, _, oS, oW, none, none, none, none, none, rfl, rfl, ⟨O.re ?_, hpen, ⟨⟨t, by rw [h4]; exact hdT⟩, ⟨_, hdB, by rw [hxk]; exact .cons _ _ _ .nil⟩, ⟨[], 0, rfl, by rw [h3]; exact .nil⟩, b9v hTB, b9v hTU, b9v hBU, lo⟩, a8X h1 h2 h3 h4, hcS, ⟨_, hW⟩,
  ⟨b9v hPC, b9F t2, b9F (b9V t2 hTB), b9F (b9V t2 hTU), b9v hP1, b9v hP2, b9F hTB, b9F hTU, b9v t1, b9v t4, b9F hBU, b9v (b9V t1 hTB), b9v (b9V t4 hTB), b9v t3, b9v (b9V t3 hTB)⟩⟩⟩
 exact List.forall_mem_cons.mpr ⟨nP, List.forall_mem_cons.mpr ⟨nC, List.forall_mem_cons.mpr ⟨nT, List.forall_mem_cons.mpr ⟨nB, List.forall_mem_cons.mpr ⟨nU, List.forall_mem_cons.mpr ⟨n1, List.forall_mem_cons.mpr ⟨n2, fun _ h => nomatch h⟩⟩⟩⟩⟩⟩⟩
theorem a9d {Q : Flow → Shared → Prop} {rest : List Stmt} (K0 : Below callerA base [] base) (F : Fr base L s.heap fun y => if y = "script" then some (.ref S) else none) (X : (K w.params).In base) (N : News base L s.heap [(L + 1 + 1, oW), (L + 1, oS)]) (T : Top G.p G.loose G.mean G.mg G.mb base) (hS : base.IsList S vs.toArray) (hI : IntsAre vs ns) (hn : ns.length ≤ 63) (hW : oW.data = .cell none) (hSc : oS.data = .cell none) (hret : ∀ P ST m₁ news h tk, a7k w L S P ST 0 0 m₁ news → Fr base L h m₁ → News base L h news → wpAny (model b9u.prog w) (callerA.deeper (envOfC "law" f110.1.2.2 L fa cd)) (execs rest (envOfC "law" f110.1.2.2 L fa cd)) Q E { s with heap := h, toks := tk }) :
  wpAny (model b9u.prog w) (callerA.deeper (envOfC "law" f110.1.2.2 L fa cd)) (execs (f110.1.2.1.getD 0 (.Pass ⟨0, 0, 0, 0⟩) :: f110.1.2.1.getD 1 (.Pass ⟨0, 0, 0, 0⟩) :: f110.1.2.1.getD 2 (.Pass ⟨0, 0, 0, 0⟩) :: rest) (envOfC "law" f110.1.2.2 L fa cd)) Q E s := by
 revert cl9 G w vs cd base L S fa s E oS oW ns Q rest
 intros K0 F X N T hS hI hn hW hSc hret
 have mk9 : a0b := trivial
 show wpAny _ _ (execs (c1R _ _ _ :: c1R _ _ _ :: c1R _ _ _ :: rest) _) _ _ _
 k_steps
 unfold a0f
 refine a7n (G := G) (A₀ := callerA) (base := base) K0 F X N T rfl (by decide) (by decide) hS hI hn ?_
 revert cm9 v news' h' tk'; intro hR9; obtain ⟨P, C, po, co, rfl, rfl, hpen, hC0, hP0⟩ := hR9; intro F' N'
 (try dsimp only)
 k_steps
 unfold a0f
 (with_reducible rename News base L _ _ => N2)
 refine Fn.use a9Z K0 (by k_asm) X N2 T rfl (by decide) (by decide) ?_
 revert cm9 h' tk' C9; intro hC9
 revert cm9 v news'; intro hR9; obtain ⟨σ0, rfl, rfl, O0, sb0, nx0, r0, rx0, rk0, rs0⟩ := hR9
 subst hC9
 intro F' N'
 have N3 := a2b (r := [_, _, _, _]) N'
 clear N2 N'
 (try dsimp only)
 k_steps
 unfold a0f
 obtain ⟨nP, nC, n2, n1⟩ : P ∉ σ0.adr ∧ C ∉ σ0.adr ∧ L + 1 + 1 ∉ σ0.adr ∧ L + 1 ∉ σ0.adr := by
  have := O0.ap
  simpa only [b9r, c0f, or_false, forall_eq_or_imp, forall_eq] using this
 have hP1 : @b9w Nat _ (L + 1) P := hP0 (L + 1, oS) (by k_mem)
 have hP2 : @b9w Nat _ (L + 1 + 1) P := hP0 (L + 1 + 1, oW) (by k_mem)
 have hPC : @b9w Nat _ C P := hP0 (C, co) (by k_mem)
 have hC1 : L + 1 ≠ C := hC0 (L + 1, oS) (by k_mem)
 have hC2 : L + 1 + 1 ≠ C := hC0 (L + 1 + 1, oW) (by k_mem)
 have N4 : News base L h' ((L + 1, oS) :: (P, po) :: (C, co) :: (L + 1 + 1, oW) :: σ0.led []) := nc (N3 (L + 1, oS) (by k_mem)) (nc (N3 (P, po) (by k_mem)) (nc (N3 (C, co) (by k_mem)) (nc (N3 (L + 1 + 1, oW) (by k_mem)) fun p hp => N3 p (by repeat (first | exact hp | refine b9D _ ?_)))))
 clear N3
 refine storeX_C (x := "store") (c := L + 1) (o := oS) F' N4 rfl (.head (List.forall_mem_cons.mpr ⟨b9F hP1, List.forall_mem_cons.mpr ⟨b9A hC1, List.forall_mem_cons.mpr ⟨b9F (c0K _), a0S n1 (fun _ h => nomatch h)⟩⟩⟩)) hSc ?_
 revert cm9 h' oS'; intro F' N3 hcS
 clear N4
 (try dsimp only at N3)
 k_steps
 (with_reducible rename News base L _ _ => N5)
 (with_reducible rename Fr base L _ _ => F5)
 (with_reducible rename c1n _ _ (strPairs [_]) => hdB)
 (with_reducible rename c1n _ _ (strPairs [_, _, _]) => hdT)
 (with_reducible rename ∀ p ∈ (L + 1, oS') :: _, p.1 < _ => hT)
 have hTB := l1.1
 have hBU := hAll _ (.head _)
 refine hret P _ _ _ _ _ (b0M (oS := oS') (oW := oW) O0 nP nC n1 n2 rs0 rx0 rk0 sb0 nx0 hpen hcS hW hdT hdB lo' hP1 hP2 hPC hT hTB hBU) (Fr.cast F5 a7l) ?_
 refine nc (N5 _ (by k_mem)) (nc (N5 _ (by k_mem)) (nc (N5 _ (by k_mem)) (nc (N5 _ (by k_mem)) (nc (N5 _ (by k_mem)) (nc (N5 _ (by k_mem)) (nc (N5 _ (by k_mem)) fun p hp => N5 p ?_))))))
 repeat (first | exact hp | refine b9D _ ?_)
theorem era_Zv : True := trivial
theorem b1i : True := by
 k_with "Zv:call ref" => ((with_reducible show wpAny _ _ (call (b9t 686) _) _ _ _); refine a0c ?_)
 trivial
noncomputable def a2m (n : Nat) : Stmt := f110.1.2.1.getD n (.Pass ⟨0, 0, 0, 0⟩)
theorem a6x : ∀ n < 6, c2B 0 ((n : Nat) : Int) 1 = true ∧ c2X 0 ((n : Nat) : Int) 1 = (n : Int) := by decide
theorem a8B {Q : Flow → Shared → Prop} {rest : List Stmt} (hE : PassesOwn (model b9u.prog w) (callerA.deeper (envOfC "law" f110.1.2.2 L fa cd)) (envOfC "law" f110.1.2.2 L fa cd) E) (K0 : Below callerA base [] base) (X : (K w.params).In base) (T : Top G.p G.loose G.mean G.mg G.mb base) (J : a7k w L S P ST 0 0 m₁ news) (F : Fr base L h m₁) (N : News base L h news) (hret : ∀ k m9 m₁ news h tk dr, k ≤ 4 → m9 ≤ 5 → a7k w L S P ST k m9 m₁ news → Fr base L h m₁ → News base L h news → wpAny (model b9u.prog w) (callerA.deeper (envOfC "law" f110.1.2.2 L fa cd)) (execs rest (envOfC "law" f110.1.2.2 L fa cd)) Q E { s with heap := h, toks := tk, drawn := dr }) :
  wpAny (model b9u.prog w) (callerA.deeper (envOfC "law" f110.1.2.2 L fa cd)) (execs (a2m 3 :: rest) (envOfC "law" f110.1.2.2 L fa cd)) Q E { s with heap := h, toks := tk, drawn := dr } := by
 revert cl9 G tk w m₁ cd base h L P ST S fa s E dr news Q rest
 intros hE K0 X T J F N hret
 have mk9 : a0b := trivial
 obtain ⟨σ, C, SB, SU, po, co, so, bo, uo, oS, oW, vt, vn, va, vb, vd, rfl, rfl, LS⟩ := J
 have ap := LS.ap
 have nP : P ∉ σ.adr := LS.ok.ap _ (.head _)
 have hoffP : ∀ q ∈ (ST, so) :: (SB, bo) :: (SU, uo) :: (L + 1, oS) :: (L + 1 + 1, oW) :: σ.led [], q.1 ≠ P :=
  List.forall_mem_cons.mpr ⟨ap.a2, List.forall_mem_cons.mpr ⟨ap.a3, List.forall_mem_cons.mpr ⟨ap.a4, List.forall_mem_cons.mpr ⟨ap.a5, List.forall_mem_cons.mpr ⟨ap.a6, a0S nP (fun _ h => nomatch h)⟩⟩⟩⟩⟩
 refine c1U ?_
 show wpAny _ _ (exec (Stmt.For (Expr.Name _ _) _ (a1W 3) [] _) _) _ _ _
 unfold a0O at N
 unfold a1a at F
 refine b2G (h₀ := base) (by rfl) (by rfl) ?_ (by intro _; rfl) hE
 k_steps
 unfold a0f
 refine Fn.use (a3j LS.pen (by omega) hoffP (by decide) (by decide)) K0 (by k_asm) X N T rfl (by decide) (by decide) ?_
 revert cm9 h' tk' C9; intro hC9
 revert cm9 v news'; intro hR9; obtain ⟨kD, uD, poD, rfl, hkD1, hkD2, rfl, hPD⟩ := hR9
 subst hC9
 intro F' N'
 (try dsimp only)
 k_steps
 (with_reducible rename IsRange _ _ _ _ _ _ _ _ => hR9)
 (with_reducible rename Fr base L _ _ => F9)
 (with_reducible rename News base L _ _ => N9)
 obtain ⟨n, rfl⟩ := Int.eq_ofNat_of_zero_le hkD1
 obtain ⟨hr1, hr2⟩ := a6x n (by omega)
 refine ⟨_, _, _, _, _, n, _, _, fun i m nw => a7k w L S P ST i (1 + i) m nw, rfl, hR9, hr1, hr2, rfl, F9, N9, ⟨σ, C, SB, SU, poD, co, so, bo, uo, oS, oW, vt, vn, va, vb, vd, rfl, rfl, LS.chg hPD LS.cW⟩, ?_, ?_⟩
 ·revert cm9 i t m₁ news₁ I oI h tk dr; intro hi J off hI F N
  have h1 : i ≤ 7 := by omega
  have h2 : 1 + i ≤ 40 := by omega
  exact a8I (k := i) (m9 := 1 + i) K0 X T h1 h2 J off F N
 ·revert cm9 m₁ news₁ h tk dr J; intro F N
  exact hret _ _ _ _ _ _ _ (by omega) (by omega) J F N
theorem a8u {Q : Flow → Shared → Prop} {rest : List Stmt} (hE : PassesOwn (model b9u.prog w) (callerA.deeper (envOfC "law" f110.1.2.2 L fa cd)) (envOfC "law" f110.1.2.2 L fa cd) E) (K0 : Below callerA base [] base) (X : (K w.params).In base) (T : Top G.p G.loose G.mean G.mg G.mb base) (hk : k ≤ 4) (hm : m9 ≤ 5) (J : a7k w L S P ST k m9 m₁ news) (F : Fr base L h m₁) (N : News base L h news) (hret : ∀ k m9 m₁ news h tk dr, a7k w L S P ST k m9 m₁ news → Fr base L h m₁ → News base L h news → wpAny (model b9u.prog w) (callerA.deeper (envOfC "law" f110.1.2.2 L fa cd)) (execs rest (envOfC "law" f110.1.2.2 L fa cd)) Q E { s with heap := h, toks := tk, drawn := dr }) :
  wpAny (model b9u.prog w) (callerA.deeper (envOfC "law" f110.1.2.2 L fa cd)) (execs (a2m 4 :: rest) (envOfC "law" f110.1.2.2 L fa cd)) Q E { s with heap := h, toks := tk, drawn := dr } := by
 revert cl9 G k tk m9 w m₁ cd base h L P ST S fa s E dr news Q rest
 intros hE K0 X T hk hm J F N hret
 have mk9 : a0b := trivial
 obtain ⟨σ, C, SB, SU, po, co, so, bo, uo, oS, oW, vt, vn, va, vb, vd, rfl, rfl, LS⟩ := J
 have ap := LS.ap
 have nP : P ∉ σ.adr := LS.ok.ap _ (.head _)
 have hoffP : ∀ q ∈ (ST, so) :: (SB, bo) :: (SU, uo) :: (L + 1, oS) :: (L + 1 + 1, oW) :: σ.led [], q.1 ≠ P :=
  List.forall_mem_cons.mpr ⟨ap.a2, List.forall_mem_cons.mpr ⟨ap.a3, List.forall_mem_cons.mpr ⟨ap.a4, List.forall_mem_cons.mpr ⟨ap.a5, List.forall_mem_cons.mpr ⟨ap.a6, a0S nP (fun _ h => nomatch h)⟩⟩⟩⟩⟩
 refine c1U ?_
 show wpAny _ _ (exec (Stmt.For (Expr.Name _ _) _ (a1W 4) [] _) _) _ _ _
 unfold a0O at N
 unfold a1a at F
 refine b2G (h₀ := base) (by rfl) (by rfl) ?_ (by intro _; rfl) hE
 k_steps
 unfold a0f
 refine Fn.use (a3j LS.pen (by omega) hoffP (by decide) (by decide)) K0 (by k_asm) X N T rfl (by decide) (by decide) ?_
 revert cm9 h' tk' C9; intro hC9
 revert cm9 v news'; intro hR9; obtain ⟨kD, uD, poD, rfl, hkD1, hkD2, rfl, hPD⟩ := hR9
 subst hC9
 intro F' N'
 (try dsimp only)
 k_steps
 (with_reducible rename IsRange _ _ _ _ _ _ _ _ => hR9)
 (with_reducible rename Fr base L _ _ => F9)
 (with_reducible rename News base L _ _ => N9)
 obtain ⟨n, rfl⟩ := Int.eq_ofNat_of_zero_le hkD1
 obtain ⟨hr1, hr2⟩ := a6x (n + 1) (by omega)
 have e : (1 : Int) + (n : Int) = ((n + 1 : Nat) : Int) := by omega
 rw [← e] at hr1
 refine ⟨_, _, _, _, _, n + 1, _, _, fun i m nw => a7k w L S P ST (k + i) (m9 + 1 + 5 * i) m nw, rfl, hR9, hr1, by rw [e]; exact hr2, rfl, F9, N9, ⟨σ, C, SB, SU, poD, co, so, bo, uo, oS, oW, vt, vn, va, vb, vd, rfl, rfl, LS.chg hPD LS.cW⟩, ?_, ?_⟩
 ·revert cm9 i t m₁ news₁ I oI h tk dr; intro hi J off hI F N
  have h1 : k + i ≤ 7 := by omega
  have h2 : m9 + 1 + 5 * i ≤ 40 := by omega
  exact a9k (k := k + i) (m9 := m9 + 1 + 5 * i) K0 X T h1 h2 J off F N
 ·revert cm9 m₁ news₁ h tk dr J; intro F N
  exact hret _ _ _ _ _ _ _ J F N
theorem era_Zw : True := trivial
theorem b4K : True := by
 k_with "Zw:pyIter ref" => ((k_here; refine a0c ?_))
 trivial
theorem b0c : ∀ {vs : List Value} {ss : List b9p} {i : Nat} {v : Value}, StrsAre vs ss → vs[i]? = some v → ∃ x t, v = .str x t ∧ x ∈ ss := fun h e => by
 obtain ⟨x, t, e1, e2⟩ := a0o h e
 exact ⟨x, t, e1, b9Z e2⟩
theorem a7N {t9 : Addr} {Q : Flow → Shared → Prop} (K0 : Below callerA base [] base) (X : (K w.params).In base) (T : Top G.p G.loose G.mean G.mg G.mb base) (hits : StrsAre its.toList a3D) (hT2 : t9 ≠ L + 1 + 1) (hW : ∃ v, oW.data = .cell v) (F9 : Fr base L s.heap m) (N9 : News base L s.heap [(t9, tup its 0), (L + 1 + 1, oW)]) (hret : ∀ m₁ news h tk, Fr base L h m₁ → News base L h news → Q .next { s with heap := h, toks := tk }) :
  wpAny (model b9u.prog w) (callerA.deeper (envOfC "law" f110.1.2.2 L fa cd)) (pyIter (.ref t9)) (fun it s₂ => TurnsAt b9u.prog w (callerA.deeper (envOfC "law" f110.1.2.2 L fa cd)) base (envOfC "law" f110.1.2.2 L fa cd) (.Name "word" px) (a1W 5) Q E it s₂) E s := by
 revert cl9 G w m cd base L fa s E px oW its t9 Q
 intros K0 X T hits hT2 hW F9 N9 hret
 have mk9 : a0b := trivial
 refine a5L (its := its) (nn := 0) (fun i m' n => m' = m ∧ ∃ oW1, (∃ v, oW1.data = .cell v) ∧ n = [(t9, tup its 0), (L + 1 + 1, oW1)]) ?_ rfl F9 N9 ⟨rfl, oW, hW, rfl⟩ ?_ ?_
 ·revert cm9 i m' n; intro hR9; obtain ⟨-, oW1, -, rfl⟩ := hR9
  exact .head _
 ·revert cm9 i v m₁ news₁ I oI h tk; intro hi hv hR9; obtain ⟨rfl, oW1, ⟨v1, hW1⟩, rfl⟩ := hR9; intro off F8 N8
  obtain ⟨wd, tw, rfl, hwd⟩ := b0c (ss := a3D) hits (by simpa using hv)
  have hI2 : I ≠ L + 1 + 1 := fun z => off (L + 1 + 1, oW1) mt1 (I, oI) (.head _) z.symm
  have hIt : t9 ≠ I := off (t9, tup its 0) (.head _) (I, oI) (.head _)
  refine wpAny_assign_Name ?_
  have N7 : News base L h ((L + 1 + 1, oW1) :: (I, oI) :: [(t9, tup its 0)]) := nc (N8 _ mt2) (nc (N8 _ (.head _)) fun p hp => by rw [b9C.mp hp]; exact N8 _ mt1)
  refine storeX_C (x := "word") (c := L + 1 + 1) (o := oW1) F8 N7 rfl (.head (List.forall_mem_cons.mpr ⟨hI2, List.forall_mem_cons.mpr ⟨hT2, fun _ h => nomatch h⟩⟩)) hW1 ?_
  revert cm9 h' oW2; intro F' N6 hW2
  refine a7Y K0 X T hwd hW2 F' N6 ?_
  revert cm9 h2 tk2; intro F2 N2
  refine a0l (news' := [(t9, tup its 0), (L + 1 + 1, oW2)]) F2 N2 (List.forall_mem_cons.mpr ⟨mt1, List.forall_mem_cons.mpr ⟨mt2, List.forall_mem_cons.mpr ⟨.head _, fun _ h => nomatch h⟩⟩⟩) ?_ ⟨rfl, oW2, ⟨_, hW2⟩, rfl⟩
  intro p hp q hq
  rw [b9C.mp hq]
  rcases b9r.mp hp with rfl | hp
  ·exact hIt
  ·rw [b9C.mp hp]
   exact b9A hI2
 ·revert cm9 m₁ news₁ h tk; intro hR9; obtain ⟨rfl, oW1, -, rfl⟩ := hR9; intro F8 N8
  exact hret _ _ _ _ F8 N8
noncomputable def b8T (base : Heap) (L : Addr) (m : b9p → Option Value) (s : Shared) (dr : Drawn) (oW : Obj) (xv : Value) (s₁ : Shared) : Prop := ∃ t9 its h1 tk1, xv = .ref t9 ∧ StrsAre (Array.toList its) a3D ∧ t9 ≠ L + 1 + 1 ∧ s₁ = { s with heap := h1, toks := tk1, drawn := dr } ∧ Fr base L h1 m ∧ News base L h1 [(t9, tup its 0), (L + 1 + 1, oW)]
theorem a8g {w : World} {G : Gl} {base h : Heap} {L fa : Addr} {cd : Value} {s : Shared} {Q : Flow → Shared → Prop} {E : Value → Shared → Prop} {tk : Nat} {dr : Drawn} {m : b9p → Option Value} {oW : Obj} {iter : Expr} {px pos : Pos} (hE : PassesOwn (model b9u.prog w) (callerA.deeper (envOfC "law" f110.1.2.2 L fa cd)) (envOfC "law" f110.1.2.2 L fa cd) E) (K0 : Below callerA base [] base) (X : (K w.params).In base) (T : Top G.p G.loose G.mean G.mg G.mb base) (hW : ∃ v, oW.data = .cell v) (F : Fr base L h m) (hs : ∀ x, foldedSetIterable iter (envOfC "law" f110.1.2.2 L fa cd) x = pure x) (hi : wpAny (model b9u.prog w) (callerA.deeper (envOfC "law" f110.1.2.2 L fa cd)) (eval iter (envOfC "law" f110.1.2.2 L fa cd)) (b8T base L m s dr oW) E { s with heap := h, toks := tk, drawn := dr }) (hret : ∀ m₁ news h tk, Fr base L h m₁ → News base L h news → Q .next { s with heap := h, toks := tk, drawn := dr }) :
  wpAny (model b9u.prog w) (callerA.deeper (envOfC "law" f110.1.2.2 L fa cd)) (exec (.For (.Name "word" px) iter (a1W 5) [] pos) (envOfC "law" f110.1.2.2 L fa cd)) Q E { s with heap := h, toks := tk, drawn := dr } := by
 revert cl9 w G base h L fa cd s Q E tk dr m oW iter px pos
 intros hE K0 X T hW F hs hi hret
 have mk9 : a0b := trivial
 refine c1O (h₀ := base) (m := m) F (b9L hi ?_ fun _ _ e => e) (hs := hs) (hE := hE)
 revert cm9 xv s₁; intro hR9; obtain ⟨t9, its, h1, tk1, rfl, hits, hne, rfl, F9, N9⟩ := hR9
 exact a7N K0 X T hits hne hW F9 N9 hret
theorem a9B {w : World} {G : Gl} {base h : Heap} {L fa : Addr} {cd : Value} {s : Shared} {Q : Flow → Shared → Prop} {E : Value → Shared → Prop} {tk : Nat} {dr : Drawn} {m : b9p → Option Value} {oW : Obj} {rest : List Stmt} (hE : PassesOwn (model b9u.prog w) (callerA.deeper (envOfC "law" f110.1.2.2 L fa cd)) (envOfC "law" f110.1.2.2 L fa cd) E) (K0 : Below callerA base [] base) (X : (K w.params).In base) (T : Top G.p G.loose G.mean G.mg G.mb base) (hW : ∃ v, oW.data = .cell v) (F : Fr base L h m) (N : News base L h [(L + 1 + 1, oW)]) (hret : ∀ m₁ news h tk, Fr base L h m₁ → News base L h news → wpAny (model b9u.prog w) (callerA.deeper (envOfC "law" f110.1.2.2 L fa cd)) (execs rest (envOfC "law" f110.1.2.2 L fa cd)) Q E { s with heap := h, toks := tk, drawn := dr }) :
  wpAny (model b9u.prog w) (callerA.deeper (envOfC "law" f110.1.2.2 L fa cd)) (execs (a2m 5 :: rest) (envOfC "law" f110.1.2.2 L fa cd)) Q E { s with heap := h, toks := tk, drawn := dr } := by
 revert cl9 w G base h L fa cd s Q E tk dr m oW rest
 intros hE K0 X T hW F N hret
 refine c1U ?_
 show wpAny _ _ (exec (Stmt.For (Expr.Name _ _) (Expr.Tuple _ _ _) (a1W 5) [] _) _) _ _ _
 refine @a8g w G base h L fa cd s _ E tk dr m oW _ _ _ hE K0 X T hW F (by intro _; rfl) ?_ hret
 k_steps
 (with_reducible rename News base L _ _ => N9)
 (with_reducible rename Fr base L _ _ => F9)
 exact ⟨_, _, _, _, rfl, .cons _ _ (.cons _ _ (.cons _ _ (.cons _ _ (.cons _ _ (.cons _ _ (.cons _ _ (.cons _ _ (.cons _ _ (.cons _ _ (.cons _ _ .nil)))))))))), b9F (hAll (L + 1 + 1, oW) (.head _)), rfl, F9, N9⟩
theorem era_Zx : True := trivial
theorem b0Q {Q : Flow → Shared → Prop} {vW vS : Option Value} (hE : PassesOwn (model b9u.prog w) (callerA.deeper (envOfC "law" f110.1.2.2 L fa cd)) (envOfC "law" f110.1.2.2 L fa cd) E) (K0 : Below callerA base [] base) (F : Fr base L s.heap m) (hm : m = fun y : b9p => if y = b9q "script" then some (.ref S) else none) (X : (K w.params).In base) (N : News base L s.heap [(L + 1 + 1, oW), (L + 1, oS)]) (T : Top G.p G.loose G.mean G.mg G.mb base) (hS : base.IsList S vs.toArray) (hI : IntsAre vs ns) (hn : ns.length ≤ 63) (hW : oW.data = .cell vW) (hW0 : vW = none) (hSc : oS.data = .cell vS) (hS0 : vS = none) (hret : ∀ h tk dr m', Fr base L h m' → Q (.ret (.bool true)) { s with heap := h, toks := tk, drawn := dr }) :
  wpAny (model b9u.prog w) (callerA.deeper (envOfC "law" f110.1.2.2 L fa cd)) (execs f110.1.2.1 (envOfC "law" f110.1.2.2 L fa cd)) Q E s := by
 revert cl9 G w m vs cd base L S fa s E oS oW ns Q vW vS
 intros hE K0 F hm X N T hS hI hn hW hW0 hSc hS0 hret
 have mk9 : a0b := trivial
 subst hm hW0 hS0
 show wpAny _ _ (execs (f110.1.2.1.getD 0 (.Pass ⟨0, 0, 0, 0⟩) :: f110.1.2.1.getD 1 (.Pass ⟨0, 0, 0, 0⟩) :: f110.1.2.1.getD 2 (.Pass ⟨0, 0, 0, 0⟩) :: a2m 3 :: a2m 4 :: a2m 5 :: a2m 6 :: []) _) _ _ _
 refine a9d K0 F X N T hS hI hn hW hSc ?_
 revert cm9 P ST m₁ news h tk J; intro F N
 refine a8B (dr := s.drawn) hE K0 X T J F N ?_
 revert cm9 k m9 m₁ news h tk dr; intro hk hm J F N
 refine a8u hE K0 X T hk hm J F N ?_
 revert cm9 k m9 m₁ news h tk dr J; intro F N
 obtain ⟨σ, C, SB, SU, po, co, so, bo, uo, oS, oW, vt, vn, va, vb, vd, rfl, rfl, LS⟩ := J
 have N' : News base L h [(L + 1 + 1, oW)] := fun p hp => by rw [b9C.mp hp]; exact N (L + 1 + 1, oW) (by k_mem)
 refine @a9B w G base h L fa cd s Q E tk dr (a1a S P ST vt vn va vb vd) oW [a2m 6] hE K0 X T LS.cW F N' ?_
 revert cm9 m₁ news h tk; intro F N
 refine c1U ?_
 show wpAny _ _ (exec (Stmt.Return (some (Expr.Constant _ _ _)) _) _) _ _ _
 k_steps
 exact hret _ _ _ _ F
theorem a9l {w : World} {G : Gl} {S : Addr} {vs : List Value} {ns : List Int} {base : Heap} {L fa : Addr} {cd : Value} {oW oS : Obj} {s : Shared} {Q : Flow → Shared → Prop} {E : Value → Shared → Prop} {m : b9p → Option Value} {vW vS : Option Value} {cn : b9p} {sc : Scope} {bd : List Stmt} (hcn : cn = b9q "law") (hsc : sc = f110.1.2.2) (hbd : bd = f110.1.2.1)
  (hE : PassesOwn (model b9u.prog w) (callerA.deeper (envOfC cn sc L fa cd)) (envOfC cn sc L fa cd) E)
  (K0 : Below callerA base [] base) (F : Fr base L s.heap m) (hm : m = fun y : b9p => if y = b9q "script" then some (.ref S) else none) (X : (K w.params).In base) (N : News base L s.heap [(L + 1 + 1, oW), (L + 1, oS)]) (T : Top G.p G.loose G.mean G.mg G.mb base) (hS : base.IsList S vs.toArray) (hI : IntsAre vs ns) (hn : ns.length ≤ 63)
  (hW : oW.data = .cell vW) (hW0 : vW = none) (hSc : oS.data = .cell vS) (hS0 : vS = none) (hret : ∀ h tk dr m', Fr base L h m' → Q (.ret (.bool true)) { s with heap := h, toks := tk, drawn := dr }) :
  wpAny (model b9u.prog w) (callerA.deeper (envOfC cn sc L fa cd)) (execs bd (envOfC cn sc L fa cd)) Q E s := by
 subst hcn hsc hbd
 exact b0Q hE K0 F hm X N T hS hI hn hW hW0 hSc hS0 hret
theorem walk0 : b3n := by
 k_fill
 intro w s₀ s₁ mg mb G Y fa o pm cd doc dV kV ho hd hcd hD hmg hg args vals as hpre hlay hrd hwl hlo
 have KX := kIn_of Y
 have X := (Ground.X G).1
 have V := (Ground.X G).2
 refine Ground.open G ?_
 intro T B D TE TW
 try (refine guard_noD D (by decide +kernel) ?_; clear D)
 obtain ⟨_, _, M⟩ := bmod_of_top T
 have TA := at_of_top T
 try (obtain ⟨_, _, he, B0⟩ := based_of_top T a5V.2.2 hmg ho hd; have he' : cd = _ := he; subst he'; clear he)
 clear hmg
 wrow_args hpre hlay hrd hwl hlo
 all_goals (
  first | refine callC_kw (enter_call ?_) | refine enter_call ?_ | refine callC_kw (enter_callW ?_) | refine enter_callW ?_ | w_how
  w_top on
  try refine c2w ?_ (fun _ _ g => GoodW.toG g)
  have K0 := below_caller (Top.heap T)
  w_call any ho hd hcd hD T F
  clear hd TA
  k_drop
  skip)
 (all_goals try k_fold)
 (with_reducible rename Below callerA _ _ _ => K9)
 (with_reducible rename Fr _ _ _ _ => F9)
 (with_reducible rename News _ _ _ _ => N9)
 (with_reducible rename Top _ _ _ _ _ _ => T9)
 (with_reducible rename (K _).In _ => X9)
 (with_reducible rename Heap.IsList _ _ _ => L9)
 (with_reducible rename IntsAre _ _ => I9)
 (with_reducible rename ¬ _ < _ => n9)
 rename_i hl hr x1
 refine @a9l _ ⟨b9u.prog, _, _, _, _⟩ _ _ _ _ _ _ _ _ _ _ _ _ _ _ _ _ _ _ rfl rfl rfl ?hE K9 F9 ?hm X9 N9 T9 L9 I9 ?hn hl ?hW hr ?hS ?hret
 case hE => passes_own
 case hn => omega
 case hret =>
  intro h' tk' dr' m' F'
  (first | wrow_close | (dsimp only [qk]; wrow_close))
 case hW => kernel_rfl
 case hS => kernel_rfl
 case hm => kernel_rfl
end Mine
theorem PySem.Challenge.cw_no0391_01_holds : PySem.Challenge.rw_no0391_01.Holds :=
  Mine.head Mine.walk0
