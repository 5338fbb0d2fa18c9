import PyProof.Rows.All
import Wide.All
import OpenK.AllK
import Wide.FinOn
import Lean
import PySem.Challenge.RW_pq1411_01
open PySem PySem.W PyProof.Rows PySem.Calls PySem.Spec
set_option Elab.async false
set_option maxRecDepth 100000
set_option maxHeartbeats 12000000
set_option linter.unusedVariables false
namespace Mine
noncomputable abbrev pw : Program := PySem.Challenge.pw_pq1411_01
noncomputable def fnParts (n : Nat) : Option (Arguments × List Stmt × Scope) := match PySem.Challenge.pw_pq1411_01.main.body[n]? with
  | some (.FunctionDef _ a b _ _ _ s _ _ _) => some (a, b, s)
  | _ => none
noncomputable def mtParts (n i : Nat) : Option (Arguments × List Stmt × Scope) := match PySem.Challenge.pw_pq1411_01.main.body[n]? with
  | some (.ClassDef _ _ _ c _ _ _ _ _ _ _) => (match c[i]? with
    | some (.FunctionDef _ a b _ _ _ s _ _ _) => some (a, b, s)
    | _ => none)
  | _ => none
theorem fnParts_of (n : Nat) {p : Arguments} {b : List Stmt} {s : Scope} (h : fnParts n = some (p, b, s)) : fnParts n = some (p, b, s) := h
theorem mtParts_of (n i : Nat) {p : Arguments} {b : List Stmt} {s : Scope} (h : mtParts n i = some (p, b, s)) : mtParts n i = some (p, b, s) := h
noncomputable def mkF (x : Option (Arguments × List Stmt × Scope)) (name qual : Str) (dv modl cd : Value) : Obj := match x with
  | some (p, b, s) => ⟨.type "function", none, .func (fnOf name qual p b s dv .none .none modl none cd .none), #[]⟩
  | none => ⟨.type "function", none, .fields #[], #[]⟩
/-- get_attr -/
noncomputable def o263 : Obj := mkF (fnParts 35) (Str.ofString "get_attr") (Str.ofString "get_attr") .none (.str (Str.ofString "vectorcove.attrs") 514) (.ref 262)
/-- label_text -/
noncomputable def o270 : Obj := mkF (fnParts 36) (Str.ofString "label_text") (Str.ofString "label_text") .none (.str (Str.ofString "vectorcove.attrs") 514) (.ref 269)
/-- level_at -/
noncomputable def o277 : Obj := mkF (fnParts 37) (Str.ofString "level_at") (Str.ofString "level_at") .none (.str (Str.ofString "vectorcove.attrs") 514) (.ref 276)
/-- label_texts -/
noncomputable def o282 : Obj := mkF (fnParts 38) (Str.ofString "label_texts") (Str.ofString "label_texts") .none (.str (Str.ofString "vectorcove.attrs") 514) (.ref 281)
/-- names_of -/
noncomputable def o287 : Obj := mkF (fnParts 39) (Str.ofString "names_of") (Str.ofString "names_of") .none (.str (Str.ofString "vectorcove.attrs") 514) (.ref 286)
/-- dim_of -/
noncomputable def o294 : Obj := mkF (fnParts 40) (Str.ofString "dim_of") (Str.ofString "dim_of") .none (.str (Str.ofString "vectorcove.attrs") 514) (.ref 293)
/-- dimnames_of -/
noncomputable def o299 : Obj := mkF (fnParts 41) (Str.ofString "dimnames_of") (Str.ofString "dimnames_of") .none (.str (Str.ofString "vectorcove.attrs") 514) (.ref 298)
/-- class_attr -/
noncomputable def o306 : Obj := mkF (fnParts 42) (Str.ofString "class_attr") (Str.ofString "class_attr") .none (.str (Str.ofString "vectorcove.attrs") 514) (.ref 305)
/-- is_atomic -/
noncomputable def o256 : Obj := mkF (fnParts 33) (Str.ofString "is_atomic") (Str.ofString "is_atomic") .none (.str (Str.ofString "vectorcove.values") 410) (.ref 255)
/-- length -/
noncomputable def o249 : Obj := mkF (fnParts 32) (Str.ofString "length") (Str.ofString "length") .none (.str (Str.ofString "vectorcove.values") 410) (.ref 248)
/-- room -/
noncomputable def o207 : Obj := mkF (fnParts 26) (Str.ofString "room") (Str.ofString "room") .none (.str (Str.ofString "vectorcove.values") 410) (.ref 206)
/-- logical -/
noncomputable def o214 : Obj := mkF (fnParts 27) (Str.ofString "logical") (Str.ofString "logical") .none (.str (Str.ofString "vectorcove.values") 410) (.ref 213)
/-- integer -/
noncomputable def o221 : Obj := mkF (fnParts 28) (Str.ofString "integer") (Str.ofString "integer") .none (.str (Str.ofString "vectorcove.values") 410) (.ref 220)
/-- character -/
noncomputable def o228 : Obj := mkF (fnParts 29) (Str.ofString "character") (Str.ofString "character") .none (.str (Str.ofString "vectorcove.values") 410) (.ref 227)
/-- named -/
noncomputable def o235 : Obj := mkF (fnParts 30) (Str.ofString "named") (Str.ofString "named") .none (.str (Str.ofString "vectorcove.values") 410) (.ref 234)
/-- text -/
noncomputable def o242 : Obj := mkF (fnParts 31) (Str.ofString "text") (Str.ofString "text") .none (.str (Str.ofString "vectorcove.values") 410) (.ref 241)
/-- is_lacking -/
noncomputable def o413 : Obj := mkF (fnParts 62) (Str.ofString "is_lacking") (Str.ofString "is_lacking") .none (.str (Str.ofString "vectorcove.sorting") 713) (.ref 412)
/-- compare_items -/
noncomputable def o420 : Obj := mkF (fnParts 63) (Str.ofString "compare_items") (Str.ofString "compare_items") .none (.str (Str.ofString "vectorcove.sorting") 713) (.ref 419)
/-- check_sortable -/
noncomputable def o427 : Obj := mkF (fnParts 64) (Str.ofString "check_sortable") (Str.ofString "check_sortable") .none (.str (Str.ofString "vectorcove.sorting") 713) (.ref 426)
/-- compare_places -/
noncomputable def o434 : Obj := mkF (fnParts 65) (Str.ofString "compare_places") (Str.ofString "compare_places") .none (.str (Str.ofString "vectorcove.sorting") 713) (.ref 433)
/-- compare_keys -/
noncomputable def o441 : Obj := mkF (fnParts 66) (Str.ofString "compare_keys") (Str.ofString "compare_keys") .none (.str (Str.ofString "vectorcove.sorting") 713) (.ref 440)
/-- merge_runs -/
noncomputable def o448 : Obj := mkF (fnParts 67) (Str.ofString "merge_runs") (Str.ofString "merge_runs") .none (.str (Str.ofString "vectorcove.sorting") 713) (.ref 447)
/-- merge_sort -/
noncomputable def o453 : Obj := mkF (fnParts 68) (Str.ofString "merge_sort") (Str.ofString "merge_sort") .none (.str (Str.ofString "vectorcove.sorting") 713) (.ref 452)
/-- each_key -/
noncomputable def o458 : Obj := mkF (fnParts 69) (Str.ofString "each_key") (Str.ofString "each_key") .none (.str (Str.ofString "vectorcove.sorting") 713) (.ref 457)
/-- kept_places -/
noncomputable def o465 : Obj := mkF (fnParts 70) (Str.ofString "kept_places") (Str.ofString "kept_places") .none (.str (Str.ofString "vectorcove.sorting") 713) (.ref 464)
/-- order_by -/
noncomputable def o473 : Obj := mkF (fnParts 71) (Str.ofString "order_by") (Str.ofString "order_by") (.ref 466) (.str (Str.ofString "vectorcove.sorting") 713) (.ref 472)
/-- is_factor -/
noncomputable def o480 : Obj := mkF (fnParts 74) (Str.ofString "is_factor") (Str.ofString "is_factor") .none (.str (Str.ofString "vectorcove.factors") 817) (.ref 479)
/-- is_ordered -/
noncomputable def o487 : Obj := mkF (fnParts 75) (Str.ofString "is_ordered") (Str.ofString "is_ordered") .none (.str (Str.ofString "vectorcove.factors") 817) (.ref 486)
/-- level_texts -/
noncomputable def o492 : Obj := mkF (fnParts 76) (Str.ofString "level_texts") (Str.ofString "level_texts") .none (.str (Str.ofString "vectorcove.factors") 817) (.ref 491)
/-- codes_in -/
noncomputable def o497 : Obj := mkF (fnParts 77) (Str.ofString "codes_in") (Str.ofString "codes_in") .none (.str (Str.ofString "vectorcove.factors") 817) (.ref 496)
/-- factor_texts -/
noncomputable def o502 : Obj := mkF (fnParts 78) (Str.ofString "factor_texts") (Str.ofString "factor_texts") .none (.str (Str.ofString "vectorcove.factors") 817) (.ref 501)
/-- factor_class -/
noncomputable def o509 : Obj := mkF (fnParts 79) (Str.ofString "factor_class") (Str.ofString "factor_class") .none (.str (Str.ofString "vectorcove.factors") 817) (.ref 508)
/-- with_levels -/
noncomputable def o516 : Obj := mkF (fnParts 80) (Str.ofString "with_levels") (Str.ofString "with_levels") .none (.str (Str.ofString "vectorcove.factors") 817) (.ref 515)
/-- distinct_texts -/
noncomputable def o523 : Obj := mkF (fnParts 81) (Str.ofString "distinct_texts") (Str.ofString "distinct_texts") .none (.str (Str.ofString "vectorcove.factors") 817) (.ref 522)
/-- sorted_levels -/
noncomputable def o528 : Obj := mkF (fnParts 82) (Str.ofString "sorted_levels") (Str.ofString "sorted_levels") .none (.str (Str.ofString "vectorcove.factors") 817) (.ref 527)
/-- codes_of -/
noncomputable def o533 : Obj := mkF (fnParts 83) (Str.ofString "codes_of") (Str.ofString "codes_of") .none (.str (Str.ofString "vectorcove.factors") 817) (.ref 532)
/-- item_texts -/
noncomputable def o540 : Obj := mkF (fnParts 84) (Str.ofString "item_texts") (Str.ofString "item_texts") .none (.str (Str.ofString "vectorcove.factors") 817) (.ref 539)
/-- label_list -/
noncomputable def o545 : Obj := mkF (fnParts 85) (Str.ofString "label_list") (Str.ofString "label_list") .none (.str (Str.ofString "vectorcove.factors") 817) (.ref 544)
/-- check_distinct -/
noncomputable def o552 : Obj := mkF (fnParts 86) (Str.ofString "check_distinct") (Str.ofString "check_distinct") .none (.str (Str.ofString "vectorcove.factors") 817) (.ref 551)
/-- make_factor -/
noncomputable def o557 : Obj := mkF (fnParts 87) (Str.ofString "make_factor") (Str.ofString "make_factor") .none (.str (Str.ofString "vectorcove.factors") 817) (.ref 556)
/-- interaction -/
noncomputable def o567 : Obj := mkF (fnParts 89) (Str.ofString "interaction") (Str.ofString "interaction") .none (.str (Str.ofString "vectorcove.factors") 817) (.ref 566)
/-- combine_factors -/
noncomputable def o579 : Obj := mkF (fnParts 91) (Str.ofString "combine_factors") (Str.ofString "combine_factors") .none (.str (Str.ofString "vectorcove.factors") 817) (.ref 578)
/-- compare_factor -/
noncomputable def o614 : Obj := mkF (fnParts 96) (Str.ofString "compare_factor") (Str.ofString "compare_factor") .none (.str (Str.ofString "vectorcove.factors") 817) (.ref 613)
/-- _law_beads -/
noncomputable def o621 : Obj := mkF (fnParts 98) (Str.ofString "_law_beads") (Str.ofString "_law_beads") .none (.str (Str.ofString "law_pq1411_01") 996) (.ref 620)
/-- _law_bead -/
noncomputable def o628 : Obj := mkF (fnParts 99) (Str.ofString "_law_bead") (Str.ofString "_law_bead") .none (.str (Str.ofString "law_pq1411_01") 996) (.ref 627)
/-- _law_words -/
noncomputable def o633 : Obj := mkF (fnParts 100) (Str.ofString "_law_words") (Str.ofString "_law_words") .none (.str (Str.ofString "law_pq1411_01") 996) (.ref 632)
/-- _law_factor -/
noncomputable def o640 : Obj := mkF (fnParts 101) (Str.ofString "_law_factor") (Str.ofString "_law_factor") .none (.str (Str.ofString "law_pq1411_01") 996) (.ref 639)
/-- _law_told -/
noncomputable def o647 : Obj := mkF (fnParts 102) (Str.ofString "_law_told") (Str.ofString "_law_told") .none (.str (Str.ofString "law_pq1411_01") 996) (.ref 646)
/-- law -/
noncomputable def o652 : Obj := mkF (fnParts 103) (Str.ofString "law") (Str.ofString "law") .none (.str (Str.ofString "law_pq1411_01") 996) (.ref 651)
/-- Vector.__init__ -/
noncomputable def o186 : Obj := mkF (mtParts 25 0) (Str.ofString "__init__") (Str.ofString "Vector.__init__") (.ref 179) (.str (Str.ofString "vectorcove.values") 410) (.ref 185)
/-- Refusal.__init__ -/
noncomputable def o48 : Obj := mkF (mtParts 3 0) (Str.ofString "__init__") (Str.ofString "Refusal.__init__") .none (.str (Str.ofString "vectorcove.errors") 194) (.ref 47)
noncomputable def K (P : Params) : Frag :=
  (nat_lit 3, ⟨(.type "dict"), none, (.dict [⟨PyData.keyHash P (Str.ofString "__name__"), (.str (Str.ofString "__name__") 165), (.str (Str.ofString "law_pq1411_01") 996)⟩, ⟨PyData.keyHash P (Str.ofString "__doc__"), (.str (Str.ofString "__doc__") 166), .none⟩, ⟨PyData.keyHash P (Str.ofString "__package__"), (.str (Str.ofString "__package__") 167), .none⟩, ⟨PyData.keyHash P (Str.ofString "__loader__"), (.str (Str.ofString "__loader__") 168), (.builtin "__main__.__loader__#opaque")⟩, ⟨PyData.keyHash P (Str.ofString "__spec__"), (.str (Str.ofString "__spec__") 169), .none⟩, ⟨PyData.keyHash P (Str.ofString "__annotations__"), (.str (Str.ofString "__annotations__") 170), (.ref 6)⟩, ⟨PyData.keyHash P (Str.ofString "__builtins__"), (.str (Str.ofString "__builtins__") 171), (.ref 4)⟩, ⟨PyData.keyHash P (Str.ofString "__file__"), (.str (Str.ofString "__file__") 173), (.str (Str.ofString "/claim/cut.py") 172)⟩, ⟨PyData.keyHash P (Str.ofString "__cached__"), (.str (Str.ofString "__cached__") 174), .none⟩, ⟨PyData.keyHash P (Str.ofString "_wall"), (.str (Str.ofString "_wall") 193), (.ref 21)⟩, ⟨PyData.keyHash P (Str.ofString "CoveError"), (.str (Str.ofString "CoveError") 215), (.ref 31)⟩, ⟨PyData.keyHash P (Str.ofString "Refusal"), (.str (Str.ofString "Refusal") 240), (.ref 51)⟩, ⟨PyData.keyHash P (Str.ofString "from_int"), (.str (Str.ofString "from_int") 249), (.ref 60)⟩, ⟨PyData.keyHash P (Str.ofString "is_na"), (.str (Str.ofString "is_na") 256), (.ref 67)⟩, ⟨PyData.keyHash P (Str.ofString "nearest_whole"), (.str (Str.ofString "nearest_whole") 266), (.ref 74)⟩, ⟨PyData.keyHash P (Str.ofString "exponent"), (.str (Str.ofString "exponent") 276), (.ref 81)⟩, ⟨PyData.keyHash P (Str.ofString "compare"), (.str (Str.ofString "compare") 286), (.ref 88)⟩, ⟨PyData.keyHash P (Str.ofString "whole_text"), (.str (Str.ofString "whole_text") 298), (.ref 95)⟩, ⟨PyData.keyHash P (Str.ofString "special_text"), (.str (Str.ofString "special_text") 305), (.ref 102)⟩, ⟨PyData.keyHash P (Str.ofString "scaled"), (.str (Str.ofString "scaled") 315), (.ref 109)⟩, ⟨PyData.keyHash P (Str.ofString "significant"), (.str (Str.ofString "significant") 325), (.ref 116)⟩, ⟨PyData.keyHash P (Str.ofString "without_tail"), (.str (Str.ofString "without_tail") 333), (.ref 123)⟩, ⟨PyData.keyHash P (Str.ofString "scientific_text"), (.str (Str.ofString "scientific_text") 345), (.ref 130)⟩, ⟨PyData.keyHash P (Str.ofString "fixed_text"), (.str (Str.ofString "fixed_text") 355), (.ref 137)⟩, ⟨PyData.keyHash P (Str.ofString "measures"), (.str (Str.ofString "measures") 368), (.ref 144)⟩, ⟨PyData.keyHash P (Str.ofString "chosen_form"), (.str (Str.ofString "chosen_form") 385), (.ref 151)⟩, ⟨PyData.keyHash P (Str.ofString "formed"), (.str (Str.ofString "formed") 394), (.ref 158)⟩, ⟨PyData.keyHash P (Str.ofString "common_texts"), (.str (Str.ofString "common_texts") 400), (.ref 163)⟩, ⟨PyData.keyHash P (Str.ofString "number_text"), (.str (Str.ofString "number_text") 409), (.ref 171)⟩, ⟨PyData.keyHash P (Str.ofString "MOST_LENGTH"), (.str (Str.ofString "MOST_LENGTH") 413), (.int (1000000) 412)⟩, ⟨PyData.keyHash P (Str.ofString "Vector"), (.str (Str.ofString "Vector") 455), (.ref 196)⟩, ⟨PyData.keyHash P (Str.ofString "room"), (.str (Str.ofString "room") 462), (.ref 207)⟩, ⟨PyData.keyHash P (Str.ofString "logical"), (.str (Str.ofString "logical") 469), (.ref 214)⟩, ⟨PyData.keyHash P (Str.ofString "integer"), (.str (Str.ofString "integer") 476), (.ref 221)⟩, ⟨PyData.keyHash P (Str.ofString "character"), (.str (Str.ofString "character") 483), (.ref 228)⟩, ⟨PyData.keyHash P (Str.ofString "named"), (.str (Str.ofString "named") 491), (.ref 235)⟩, ⟨PyData.keyHash P (Str.ofString "text"), (.str (Str.ofString "text") 498), (.ref 242)⟩, ⟨PyData.keyHash P (Str.ofString "length"), (.str (Str.ofString "length") 506), (.ref 249)⟩, ⟨PyData.keyHash P (Str.ofString "is_atomic"), (.str (Str.ofString "is_atomic") 513), (.ref 256)⟩, ⟨PyData.keyHash P (Str.ofString "get_attr"), (.str (Str.ofString "get_attr") 523), (.ref 263)⟩, ⟨PyData.keyHash P (Str.ofString "label_text"), (.str (Str.ofString "label_text") 531), (.ref 270)⟩, ⟨PyData.keyHash P (Str.ofString "level_at"), (.str (Str.ofString "level_at") 539), (.ref 277)⟩, ⟨PyData.keyHash P (Str.ofString "label_texts"), (.str (Str.ofString "label_texts") 545), (.ref 282)⟩, ⟨PyData.keyHash P (Str.ofString "names_of"), (.str (Str.ofString "names_of") 551), (.ref 287)⟩, ⟨PyData.keyHash P (Str.ofString "dim_of"), (.str (Str.ofString "dim_of") 559), (.ref 294)⟩, ⟨PyData.keyHash P (Str.ofString "dimnames_of"), (.str (Str.ofString "dimnames_of") 565), (.ref 299)⟩, ⟨PyData.keyHash P (Str.ofString "class_attr"), (.str (Str.ofString "class_attr") 573), (.ref 306)⟩, ⟨PyData.keyHash P (Str.ofString "recycle_length"), (.str (Str.ofString "recycle_length") 583), (.ref 313)⟩, ⟨PyData.keyHash P (Str.ofString "note_recycling"), (.str (Str.ofString "note_recycling") 592), (.ref 320)⟩, ⟨PyData.keyHash P (Str.ofString "product"), (.str (Str.ofString "product") 601), (.ref 327)⟩, ⟨PyData.keyHash P (Str.ofString "result_dim"), (.str (Str.ofString "result_dim") 614), (.ref 334)⟩, ⟨PyData.keyHash P (Str.ofString "note_array_of_one"), (.str (Str.ofString "note_array_of_one") 626), (.ref 341)⟩, ⟨PyData.keyHash P (Str.ofString "common_length"), (.str (Str.ofString "common_length") 635), (.ref 348)⟩, ⟨PyData.keyHash P (Str.ofString "attribute"), (.str (Str.ofString "attribute") 643), (.ref 355)⟩, ⟨PyData.keyHash P (Str.ofString "shape_attrs"), (.str (Str.ofString "shape_attrs") 656), (.ref 362)⟩, ⟨PyData.keyHash P (Str.ofString "to_text"), (.str (Str.ofString "to_text") 666), (.ref 369)⟩, ⟨PyData.keyHash P (Str.ofString "holds"), (.str (Str.ofString "holds") 677), (.ref 376)⟩, ⟨PyData.keyHash P (Str.ofString "plain_order"), (.str (Str.ofString "plain_order") 685), (.ref 383)⟩, ⟨PyData.keyHash P (Str.ofString "comparable"), (.str (Str.ofString "comparable") 694), (.ref 390)⟩, ⟨PyData.keyHash P (Str.ofString "text_items"), (.str (Str.ofString "text_items") 700), (.ref 395)⟩, ⟨PyData.keyHash P (Str.ofString "double_items"), (.str (Str.ofString "double_items") 706), (.ref 400)⟩, ⟨PyData.keyHash P (Str.ofString "compare_op"), (.str (Str.ofString "compare_op") 712), (.ref 406)⟩, ⟨PyData.keyHash P (Str.ofString "is_lacking"), (.str (Str.ofString "is_lacking") 722), (.ref 413)⟩, ⟨PyData.keyHash P (Str.ofString "compare_items"), (.str (Str.ofString "compare_items") 731), (.ref 420)⟩, ⟨PyData.keyHash P (Str.ofString "check_sortable"), (.str (Str.ofString "check_sortable") 738), (.ref 427)⟩, ⟨PyData.keyHash P (Str.ofString "compare_places"), (.str (Str.ofString "compare_places") 754), (.ref 434)⟩, ⟨PyData.keyHash P (Str.ofString "compare_keys"), (.str (Str.ofString "compare_keys") 767), (.ref 441)⟩, ⟨PyData.keyHash P (Str.ofString "merge_runs"), (.str (Str.ofString "merge_runs") 781), (.ref 448)⟩, ⟨PyData.keyHash P (Str.ofString "merge_sort"), (.str (Str.ofString "merge_sort") 787), (.ref 453)⟩, ⟨PyData.keyHash P (Str.ofString "each_key"), (.str (Str.ofString "each_key") 793), (.ref 458)⟩, ⟨PyData.keyHash P (Str.ofString "kept_places"), (.str (Str.ofString "kept_places") 805), (.ref 465)⟩, ⟨PyData.keyHash P (Str.ofString "order_by"), (.str (Str.ofString "order_by") 816), (.ref 473)⟩, ⟨PyData.keyHash P (Str.ofString "MOST_SIGNS"), (.str (Str.ofString "MOST_SIGNS") 820), (.int (20000000) 819)⟩, ⟨PyData.keyHash P (Str.ofString "is_factor"), (.str (Str.ofString "is_factor") 827), (.ref 480)⟩, ⟨PyData.keyHash P (Str.ofString "is_ordered"), (.str (Str.ofString "is_ordered") 834), (.ref 487)⟩, ⟨PyData.keyHash P (Str.ofString "level_texts"), (.str (Str.ofString "level_texts") 840), (.ref 492)⟩, ⟨PyData.keyHash P (Str.ofString "codes_in"), (.str (Str.ofString "codes_in") 846), (.ref 497)⟩, ⟨PyData.keyHash P (Str.ofString "factor_texts"), (.str (Str.ofString "factor_texts") 852), (.ref 502)⟩, ⟨PyData.keyHash P (Str.ofString "factor_class"), (.str (Str.ofString "factor_class") 859), (.ref 509)⟩, ⟨PyData.keyHash P (Str.ofString "with_levels"), (.str (Str.ofString "with_levels") 868), (.ref 516)⟩, ⟨PyData.keyHash P (Str.ofString "distinct_texts"), (.str (Str.ofString "distinct_texts") 877), (.ref 523)⟩, ⟨PyData.keyHash P (Str.ofString "sorted_levels"), (.str (Str.ofString "sorted_levels") 883), (.ref 528)⟩, ⟨PyData.keyHash P (Str.ofString "codes_of"), (.str (Str.ofString "codes_of") 889), (.ref 533)⟩, ⟨PyData.keyHash P (Str.ofString "item_texts"), (.str (Str.ofString "item_texts") 896), (.ref 540)⟩, ⟨PyData.keyHash P (Str.ofString "label_list"), (.str (Str.ofString "label_list") 902), (.ref 545)⟩, ⟨PyData.keyHash P (Str.ofString "check_distinct"), (.str (Str.ofString "check_distinct") 911), (.ref 552)⟩, ⟨PyData.keyHash P (Str.ofString "make_factor"), (.str (Str.ofString "make_factor") 917), (.ref 557)⟩, ⟨PyData.keyHash P (Str.ofString "drop_levels"), (.str (Str.ofString "drop_levels") 923), (.ref 562)⟩, ⟨PyData.keyHash P (Str.ofString "interaction"), (.str (Str.ofString "interaction") 929), (.ref 567)⟩, ⟨PyData.keyHash P (Str.ofString "codes_alone"), (.str (Str.ofString "codes_alone") 939), (.ref 574)⟩, ⟨PyData.keyHash P (Str.ofString "combine_factors"), (.str (Str.ofString "combine_factors") 945), (.ref 579)⟩, ⟨PyData.keyHash P (Str.ofString "meaningless"), (.str (Str.ofString "meaningless") 957), (.ref 586)⟩, ⟨PyData.keyHash P (Str.ofString "text_vector"), (.str (Str.ofString "text_vector") 965), (.ref 593)⟩, ⟨PyData.keyHash P (Str.ofString "check_same_levels"), (.str (Str.ofString "check_same_levels") 973), (.ref 600)⟩, ⟨PyData.keyHash P (Str.ofString "compare_ordered"), (.str (Str.ofString "compare_ordered") 984), (.ref 607)⟩, ⟨PyData.keyHash P (Str.ofString "compare_factor"), (.str (Str.ofString "compare_factor") 995), (.ref 614)⟩, ⟨PyData.keyHash P (Str.ofString "_law_beads"), (.str (Str.ofString "_law_beads") 1008), (.ref 621)⟩, ⟨PyData.keyHash P (Str.ofString "_law_bead"), (.str (Str.ofString "_law_bead") 1016), (.ref 628)⟩, ⟨PyData.keyHash P (Str.ofString "_law_words"), (.str (Str.ofString "_law_words") 1022), (.ref 633)⟩, ⟨PyData.keyHash P (Str.ofString "_law_factor"), (.str (Str.ofString "_law_factor") 1031), (.ref 640)⟩, ⟨PyData.keyHash P (Str.ofString "_law_told"), (.str (Str.ofString "_law_told") 1041), (.ref 647)⟩, ⟨PyData.keyHash P (Str.ofString "law"), (.str (Str.ofString "law") 1047), (.ref 652)⟩].toArray 102), [].toArray⟩) ::
  (nat_lit 30, ⟨(.type "dict"), none, (.dict [⟨PyData.keyHash P (Str.ofString "__module__"), (.str (Str.ofString "__module__") 203), (.str (Str.ofString "vectorcove.errors") 194)⟩, ⟨PyData.keyHash P (Str.ofString "__firstlineno__"), (.str (Str.ofString "__firstlineno__") 207), (.int (5) 206)⟩, ⟨PyData.keyHash P (Str.ofString "__static_attributes__"), (.str (Str.ofString "__static_attributes__") 208), (.ref 29)⟩, ⟨PyData.keyHash P (Str.ofString "__weakref__"), (.str (Str.ofString "__weakref__") 210), (.ref 32)⟩, ⟨PyData.keyHash P (Str.ofString "__doc__"), (.str (Str.ofString "__doc__") 211), .none⟩].toArray 3), [].toArray⟩) ::
  (nat_lit 31, ⟨(.type "type"), none, (.cls { name := (Str.ofString "CoveError"), bases := [(.type "Exception")], mro := [(.ref 31), (.type "Exception"), (.type "BaseException"), (.type "object")], ns := 30, qualname := (Str.ofString "CoveError"), hasDict := true, slotNames := [], subclasses := [(.ref 51)], abstract := false, collection := none, hasDel := false }), [(some (.ref 22)), none, (some (.str (Str.ofString "CoveError") 196)), (some (.str (Str.ofString "CoveError") 204)), (some (.builtin "Exception.__new__")), (some (.bool true))].toArray⟩) ::
  (nat_lit 32, ⟨(.type "getset_descriptor"), none, (.fields [(.str (Str.ofString "__weakref__") 209), (.ref 31), (.builtin "ExceptionGroup.__weakref__"), .none].toArray), [].toArray⟩) ::
  (nat_lit 47, ⟨(.type "code"), none, (.fields [(.str (Str.ofString "__init__") 228), (.str (Str.ofString "Refusal.__init__") 229), (.str (Str.ofString "/claim/cut.py") 230), (.int (9) 0), (.int (2) 0), (.int (0) 0), (.int (0) 0), (.int (3) 0), (.ref 42), (.bool true), (.int (181) 0), (.ref 43), .none, (.ref 44), (.ref 45), (.ref 46), (.int (233) 0), (.int (9) 0), (.str (Str.ofString "/claim/cut.py") 234)].toArray), [].toArray⟩) ::
  (nat_lit 48, o48) ::
  (nat_lit 50, ⟨(.type "dict"), none, (.dict [⟨PyData.keyHash P (Str.ofString "__module__"), (.str (Str.ofString "__module__") 223), (.str (Str.ofString "vectorcove.errors") 194)⟩, ⟨PyData.keyHash P (Str.ofString "__firstlineno__"), (.str (Str.ofString "__firstlineno__") 227), (.int (7) 226)⟩, ⟨PyData.keyHash P (Str.ofString "__init__"), (.str (Str.ofString "__init__") 235), (.ref 48)⟩, ⟨PyData.keyHash P (Str.ofString "__static_attributes__"), (.str (Str.ofString "__static_attributes__") 237), (.ref 49)⟩, ⟨PyData.keyHash P (Str.ofString "__doc__"), (.str (Str.ofString "__doc__") 238), .none⟩].toArray 2), [].toArray⟩) ::
  (nat_lit 51, ⟨(.type "type"), none, (.cls { name := (Str.ofString "Refusal"), bases := [(.ref 31)], mro := [(.ref 51), (.ref 31), (.type "Exception"), (.type "BaseException"), (.type "object")], ns := 50, qualname := (Str.ofString "Refusal"), hasDict := true, slotNames := [], subclasses := [], abstract := false, collection := none, hasDel := false }), [(some (.ref 35)), none, (some (.str (Str.ofString "Refusal") 216)), (some (.str (Str.ofString "Refusal") 224)), (some (.builtin "Exception.__new__")), (some (.bool true))].toArray⟩) ::
  (nat_lit 179, ⟨(.type "tuple"), none, (.seq [.none].toArray 0), [].toArray⟩) ::
  (nat_lit 185, ⟨(.type "code"), none, (.fields [(.str (Str.ofString "__init__") 426), (.str (Str.ofString "Vector.__init__") 427), (.str (Str.ofString "/claim/cut.py") 428), (.int (151) 0), (.int (4) 0), (.int (0) 0), (.int (0) 0), (.int (3) 0), (.ref 180), (.bool true), (.int (181) 0), (.ref 181), .none, (.ref 182), (.ref 183), (.ref 184), (.int (433) 0), (.int (151) 0), (.str (Str.ofString "/claim/cut.py") 434)].toArray), [].toArray⟩) ::
  (nat_lit 186, o186) ::
  (nat_lit 195, ⟨(.type "dict"), none, (.dict [⟨PyData.keyHash P (Str.ofString "__module__"), (.str (Str.ofString "__module__") 421), (.str (Str.ofString "vectorcove.values") 410)⟩, ⟨PyData.keyHash P (Str.ofString "__firstlineno__"), (.str (Str.ofString "__firstlineno__") 425), (.int (149) 424)⟩, ⟨PyData.keyHash P (Str.ofString "__init__"), (.str (Str.ofString "__init__") 435), (.ref 186)⟩, ⟨PyData.keyHash P (Str.ofString "copy"), (.str (Str.ofString "copy") 442), (.ref 193)⟩, ⟨PyData.keyHash P (Str.ofString "__static_attributes__"), (.str (Str.ofString "__static_attributes__") 448), (.ref 194)⟩, ⟨PyData.keyHash P (Str.ofString "__dict__"), (.str (Str.ofString "__dict__") 450), (.ref 197)⟩, ⟨PyData.keyHash P (Str.ofString "__weakref__"), (.str (Str.ofString "__weakref__") 452), (.ref 198)⟩, ⟨PyData.keyHash P (Str.ofString "__doc__"), (.str (Str.ofString "__doc__") 453), .none⟩].toArray 4), [].toArray⟩) ::
  (nat_lit 196, ⟨(.type "type"), none, (.cls { name := (Str.ofString "Vector"), bases := [(.type "object")], mro := [(.ref 196), (.type "object")], ns := 195, qualname := (Str.ofString "Vector"), hasDict := true, slotNames := [], subclasses := [], abstract := false, collection := none, hasDel := false }), [none, none, (some (.str (Str.ofString "Vector") 414)), (some (.str (Str.ofString "Vector") 422)), (some (.builtin "object.__new__")), (some (.bool true))].toArray⟩) ::
  (nat_lit 197, ⟨(.type "getset_descriptor"), none, (.fields [(.str (Str.ofString "__dict__") 449), (.ref 196), (.builtin "function.__dict__"), (.builtin "function.__dict__#set")].toArray), [].toArray⟩) ::
  (nat_lit 198, ⟨(.type "getset_descriptor"), none, (.fields [(.str (Str.ofString "__weakref__") 451), (.ref 196), (.builtin "ExceptionGroup.__weakref__"), .none].toArray), [].toArray⟩) ::
  (nat_lit 206, ⟨(.type "code"), none, (.fields [(.str (Str.ofString "room") 456), (.str (Str.ofString "room") 457), (.str (Str.ofString "/claim/cut.py") 458), (.int (160) 0), (.int (1) 0), (.int (0) 0), (.int (0) 0), (.int (3) 0), (.ref 201), (.bool true), (.int (181) 0), (.ref 202), .none, (.ref 203), (.ref 204), (.ref 205), (.int (460) 0), (.int (160) 0), (.str (Str.ofString "/claim/cut.py") 461)].toArray), [].toArray⟩) ::
  (nat_lit 207, o207) ::
  (nat_lit 213, ⟨(.type "code"), none, (.fields [(.str (Str.ofString "logical") 463), (.str (Str.ofString "logical") 464), (.str (Str.ofString "/claim/cut.py") 465), (.int (164) 0), (.int (1) 0), (.int (0) 0), (.int (0) 0), (.int (3) 0), (.ref 208), (.bool true), (.int (181) 0), (.ref 209), .none, (.ref 210), (.ref 211), (.ref 212), (.int (467) 0), (.int (164) 0), (.str (Str.ofString "/claim/cut.py") 468)].toArray), [].toArray⟩) ::
  (nat_lit 214, o214) ::
  (nat_lit 220, ⟨(.type "code"), none, (.fields [(.str (Str.ofString "integer") 470), (.str (Str.ofString "integer") 471), (.str (Str.ofString "/claim/cut.py") 472), (.int (166) 0), (.int (1) 0), (.int (0) 0), (.int (0) 0), (.int (3) 0), (.ref 215), (.bool true), (.int (181) 0), (.ref 216), .none, (.ref 217), (.ref 218), (.ref 219), (.int (474) 0), (.int (166) 0), (.str (Str.ofString "/claim/cut.py") 475)].toArray), [].toArray⟩) ::
  (nat_lit 221, o221) ::
  (nat_lit 227, ⟨(.type "code"), none, (.fields [(.str (Str.ofString "character") 477), (.str (Str.ofString "character") 478), (.str (Str.ofString "/claim/cut.py") 479), (.int (168) 0), (.int (1) 0), (.int (0) 0), (.int (0) 0), (.int (3) 0), (.ref 222), (.bool true), (.int (181) 0), (.ref 223), .none, (.ref 224), (.ref 225), (.ref 226), (.int (481) 0), (.int (168) 0), (.str (Str.ofString "/claim/cut.py") 482)].toArray), [].toArray⟩) ::
  (nat_lit 228, o228) ::
  (nat_lit 234, ⟨(.type "code"), none, (.fields [(.str (Str.ofString "named") 484), (.str (Str.ofString "named") 485), (.str (Str.ofString "/claim/cut.py") 486), (.int (170) 0), (.int (2) 0), (.int (0) 0), (.int (0) 0), (.int (3) 0), (.ref 229), (.bool true), (.int (181) 0), (.ref 230), .none, (.ref 231), (.ref 232), (.ref 233), (.int (489) 0), (.int (170) 0), (.str (Str.ofString "/claim/cut.py") 490)].toArray), [].toArray⟩) ::
  (nat_lit 235, o235) ::
  (nat_lit 241, ⟨(.type "code"), none, (.fields [(.str (Str.ofString "text") 492), (.str (Str.ofString "text") 493), (.str (Str.ofString "/claim/cut.py") 494), (.int (174) 0), (.int (1) 0), (.int (0) 0), (.int (0) 0), (.int (3) 0), (.ref 236), (.bool true), (.int (181) 0), (.ref 237), .none, (.ref 238), (.ref 239), (.ref 240), (.int (496) 0), (.int (174) 0), (.str (Str.ofString "/claim/cut.py") 497)].toArray), [].toArray⟩) ::
  (nat_lit 242, o242) ::
  (nat_lit 248, ⟨(.type "code"), none, (.fields [(.str (Str.ofString "length") 499), (.str (Str.ofString "length") 500), (.str (Str.ofString "/claim/cut.py") 501), (.int (176) 0), (.int (1) 0), (.int (0) 0), (.int (0) 0), (.int (3) 0), (.ref 243), (.bool true), (.int (181) 0), (.ref 244), .none, (.ref 245), (.ref 246), (.ref 247), (.int (504) 0), (.int (176) 0), (.str (Str.ofString "/claim/cut.py") 505)].toArray), [].toArray⟩) ::
  (nat_lit 249, o249) ::
  (nat_lit 255, ⟨(.type "code"), none, (.fields [(.str (Str.ofString "is_atomic") 507), (.str (Str.ofString "is_atomic") 508), (.str (Str.ofString "/claim/cut.py") 509), (.int (187) 0), (.int (1) 0), (.int (0) 0), (.int (0) 0), (.int (3) 0), (.ref 250), (.bool true), (.int (181) 0), (.ref 251), .none, (.ref 252), (.ref 253), (.ref 254), (.int (511) 0), (.int (187) 0), (.str (Str.ofString "/claim/cut.py") 512)].toArray), [].toArray⟩) ::
  (nat_lit 256, o256) ::
  (nat_lit 262, ⟨(.type "code"), none, (.fields [(.str (Str.ofString "get_attr") 516), (.str (Str.ofString "get_attr") 517), (.str (Str.ofString "/claim/cut.py") 518), (.int (190) 0), (.int (2) 0), (.int (0) 0), (.int (0) 0), (.int (3) 0), (.ref 257), (.bool true), (.int (181) 0), (.ref 258), .none, (.ref 259), (.ref 260), (.ref 261), (.int (521) 0), (.int (190) 0), (.str (Str.ofString "/claim/cut.py") 522)].toArray), [].toArray⟩) ::
  (nat_lit 263, o263) ::
  (nat_lit 269, ⟨(.type "code"), none, (.fields [(.str (Str.ofString "label_text") 524), (.str (Str.ofString "label_text") 525), (.str (Str.ofString "/claim/cut.py") 526), (.int (194) 0), (.int (2) 0), (.int (0) 0), (.int (0) 0), (.int (3) 0), (.ref 264), (.bool true), (.int (181) 0), (.ref 265), .none, (.ref 266), (.ref 267), (.ref 268), (.int (529) 0), (.int (194) 0), (.str (Str.ofString "/claim/cut.py") 530)].toArray), [].toArray⟩) ::
  (nat_lit 270, o270) ::
  (nat_lit 276, ⟨(.type "code"), none, (.fields [(.str (Str.ofString "level_at") 532), (.str (Str.ofString "level_at") 533), (.str (Str.ofString "/claim/cut.py") 534), (.int (204) 0), (.int (2) 0), (.int (0) 0), (.int (0) 0), (.int (3) 0), (.ref 271), (.bool true), (.int (181) 0), (.ref 272), .none, (.ref 273), (.ref 274), (.ref 275), (.int (537) 0), (.int (204) 0), (.str (Str.ofString "/claim/cut.py") 538)].toArray), [].toArray⟩) ::
  (nat_lit 277, o277) ::
  (nat_lit 281, ⟨(.type "code"), none, (.fields [(.str (Str.ofString "label_texts") 540), (.str (Str.ofString "label_texts") 541), (.str (Str.ofString "/claim/cut.py") 542), (.int (208) 0), (.int (1) 0), (.int (0) 0), (.int (0) 0), (.int (3) 0), (.ref 278), (.bool true), (.int (181) 0), (.ref 279), .none, .none, .none, (.ref 280), (.int (543) 0), (.int (208) 0), (.str (Str.ofString "/claim/cut.py") 544)].toArray), [].toArray⟩) ::
  (nat_lit 282, o282) ::
  (nat_lit 286, ⟨(.type "code"), none, (.fields [(.str (Str.ofString "names_of") 546), (.str (Str.ofString "names_of") 547), (.str (Str.ofString "/claim/cut.py") 548), (.int (214) 0), (.int (1) 0), (.int (0) 0), (.int (0) 0), (.int (3) 0), (.ref 283), (.bool true), (.int (181) 0), (.ref 284), .none, .none, .none, (.ref 285), (.int (549) 0), (.int (214) 0), (.str (Str.ofString "/claim/cut.py") 550)].toArray), [].toArray⟩) ::
  (nat_lit 287, o287) ::
  (nat_lit 293, ⟨(.type "code"), none, (.fields [(.str (Str.ofString "dim_of") 552), (.str (Str.ofString "dim_of") 553), (.str (Str.ofString "/claim/cut.py") 554), (.int (230) 0), (.int (1) 0), (.int (0) 0), (.int (0) 0), (.int (3) 0), (.ref 288), (.bool true), (.int (181) 0), (.ref 289), .none, (.ref 290), (.ref 291), (.ref 292), (.int (557) 0), (.int (230) 0), (.str (Str.ofString "/claim/cut.py") 558)].toArray), [].toArray⟩) ::
  (nat_lit 294, o294) ::
  (nat_lit 298, ⟨(.type "code"), none, (.fields [(.str (Str.ofString "dimnames_of") 560), (.str (Str.ofString "dimnames_of") 561), (.str (Str.ofString "/claim/cut.py") 562), (.int (235) 0), (.int (1) 0), (.int (0) 0), (.int (0) 0), (.int (3) 0), (.ref 295), (.bool true), (.int (181) 0), (.ref 296), .none, .none, .none, (.ref 297), (.int (563) 0), (.int (235) 0), (.str (Str.ofString "/claim/cut.py") 564)].toArray), [].toArray⟩) ::
  (nat_lit 299, o299) ::
  (nat_lit 305, ⟨(.type "code"), none, (.fields [(.str (Str.ofString "class_attr") 566), (.str (Str.ofString "class_attr") 567), (.str (Str.ofString "/claim/cut.py") 568), (.int (240) 0), (.int (1) 0), (.int (0) 0), (.int (0) 0), (.int (3) 0), (.ref 300), (.bool true), (.int (181) 0), (.ref 301), .none, (.ref 302), (.ref 303), (.ref 304), (.int (571) 0), (.int (240) 0), (.str (Str.ofString "/claim/cut.py") 572)].toArray), [].toArray⟩) ::
  (nat_lit 306, o306) ::
  (nat_lit 412, ⟨(.type "code"), none, (.fields [(.str (Str.ofString "is_lacking") 715), (.str (Str.ofString "is_lacking") 716), (.str (Str.ofString "/claim/cut.py") 717), (.int (382) 0), (.int (2) 0), (.int (0) 0), (.int (0) 0), (.int (3) 0), (.ref 407), (.bool true), (.int (181) 0), (.ref 408), .none, (.ref 409), (.ref 410), (.ref 411), (.int (720) 0), (.int (382) 0), (.str (Str.ofString "/claim/cut.py") 721)].toArray), [].toArray⟩) ::
  (nat_lit 413, o413) ::
  (nat_lit 419, ⟨(.type "code"), none, (.fields [(.str (Str.ofString "compare_items") 723), (.str (Str.ofString "compare_items") 724), (.str (Str.ofString "/claim/cut.py") 725), (.int (384) 0), (.int (3) 0), (.int (0) 0), (.int (0) 0), (.int (3) 0), (.ref 414), (.bool true), (.int (181) 0), (.ref 415), .none, (.ref 416), (.ref 417), (.ref 418), (.int (729) 0), (.int (384) 0), (.str (Str.ofString "/claim/cut.py") 730)].toArray), [].toArray⟩) ::
  (nat_lit 420, o420) ::
  (nat_lit 426, ⟨(.type "code"), none, (.fields [(.str (Str.ofString "check_sortable") 732), (.str (Str.ofString "check_sortable") 733), (.str (Str.ofString "/claim/cut.py") 734), (.int (392) 0), (.int (1) 0), (.int (0) 0), (.int (0) 0), (.int (3) 0), (.ref 421), (.bool true), (.int (181) 0), (.ref 422), .none, (.ref 423), (.ref 424), (.ref 425), (.int (736) 0), (.int (392) 0), (.str (Str.ofString "/claim/cut.py") 737)].toArray), [].toArray⟩) ::
  (nat_lit 427, o427) ::
  (nat_lit 433, ⟨(.type "code"), none, (.fields [(.str (Str.ofString "compare_places") 739), (.str (Str.ofString "compare_places") 740), (.str (Str.ofString "/claim/cut.py") 741), (.int (395) 0), (.int (5) 0), (.int (0) 0), (.int (0) 0), (.int (3) 0), (.ref 428), (.bool true), (.int (181) 0), (.ref 429), .none, (.ref 430), (.ref 431), (.ref 432), (.int (752) 0), (.int (395) 0), (.str (Str.ofString "/claim/cut.py") 753)].toArray), [].toArray⟩) ::
  (nat_lit 434, o434) ::
  (nat_lit 440, ⟨(.type "code"), none, (.fields [(.str (Str.ofString "compare_keys") 755), (.str (Str.ofString "compare_keys") 756), (.str (Str.ofString "/claim/cut.py") 757), (.int (408) 0), (.int (5) 0), (.int (0) 0), (.int (0) 0), (.int (3) 0), (.ref 435), (.bool true), (.int (181) 0), (.ref 436), .none, (.ref 437), (.ref 438), (.ref 439), (.int (765) 0), (.int (408) 0), (.str (Str.ofString "/claim/cut.py") 766)].toArray), [].toArray⟩) ::
  (nat_lit 441, o441) ::
  (nat_lit 447, ⟨(.type "code"), none, (.fields [(.str (Str.ofString "merge_runs") 768), (.str (Str.ofString "merge_runs") 769), (.str (Str.ofString "/claim/cut.py") 770), (.int (414) 0), (.int (5) 0), (.int (0) 0), (.int (0) 0), (.int (3) 0), (.ref 442), (.bool true), (.int (181) 0), (.ref 443), .none, (.ref 444), (.ref 445), (.ref 446), (.int (779) 0), (.int (414) 0), (.str (Str.ofString "/claim/cut.py") 780)].toArray), [].toArray⟩) ::
  (nat_lit 448, o448) ::
  (nat_lit 452, ⟨(.type "code"), none, (.fields [(.str (Str.ofString "merge_sort") 782), (.str (Str.ofString "merge_sort") 783), (.str (Str.ofString "/claim/cut.py") 784), (.int (426) 0), (.int (4) 0), (.int (0) 0), (.int (0) 0), (.int (3) 0), (.ref 449), (.bool true), (.int (181) 0), (.ref 450), .none, .none, .none, (.ref 451), (.int (785) 0), (.int (426) 0), (.str (Str.ofString "/claim/cut.py") 786)].toArray), [].toArray⟩) ::
  (nat_lit 453, o453) ::
  (nat_lit 457, ⟨(.type "code"), none, (.fields [(.str (Str.ofString "each_key") 788), (.str (Str.ofString "each_key") 789), (.str (Str.ofString "/claim/cut.py") 790), (.int (438) 0), (.int (2) 0), (.int (0) 0), (.int (0) 0), (.int (3) 0), (.ref 454), (.bool true), (.int (181) 0), (.ref 455), .none, .none, .none, (.ref 456), (.int (791) 0), (.int (438) 0), (.str (Str.ofString "/claim/cut.py") 792)].toArray), [].toArray⟩) ::
  (nat_lit 458, o458) ::
  (nat_lit 464, ⟨(.type "code"), none, (.fields [(.str (Str.ofString "kept_places") 794), (.str (Str.ofString "kept_places") 795), (.str (Str.ofString "/claim/cut.py") 796), (.int (442) 0), (.int (2) 0), (.int (0) 0), (.int (0) 0), (.int (3) 0), (.ref 459), (.bool true), (.int (181) 0), (.ref 460), .none, (.ref 461), (.ref 462), (.ref 463), (.int (803) 0), (.int (442) 0), (.str (Str.ofString "/claim/cut.py") 804)].toArray), [].toArray⟩) ::
  (nat_lit 465, o465) ::
  (nat_lit 466, ⟨(.type "tuple"), none, (.seq [(.bool false), (.bool true)].toArray 0), [].toArray⟩) ::
  (nat_lit 472, ⟨(.type "code"), none, (.fields [(.str (Str.ofString "order_by") 806), (.str (Str.ofString "order_by") 807), (.str (Str.ofString "/claim/cut.py") 808), (.int (453) 0), (.int (3) 0), (.int (0) 0), (.int (0) 0), (.int (3) 0), (.ref 467), (.bool true), (.int (181) 0), (.ref 468), .none, (.ref 469), (.ref 470), (.ref 471), (.int (814) 0), (.int (453) 0), (.str (Str.ofString "/claim/cut.py") 815)].toArray), [].toArray⟩) ::
  (nat_lit 473, o473) ::
  (nat_lit 479, ⟨(.type "code"), none, (.fields [(.str (Str.ofString "is_factor") 821), (.str (Str.ofString "is_factor") 822), (.str (Str.ofString "/claim/cut.py") 823), (.int (464) 0), (.int (1) 0), (.int (0) 0), (.int (0) 0), (.int (3) 0), (.ref 474), (.bool true), (.int (181) 0), (.ref 475), .none, (.ref 476), (.ref 477), (.ref 478), (.int (825) 0), (.int (464) 0), (.str (Str.ofString "/claim/cut.py") 826)].toArray), [].toArray⟩) ::
  (nat_lit 480, o480) ::
  (nat_lit 486, ⟨(.type "code"), none, (.fields [(.str (Str.ofString "is_ordered") 828), (.str (Str.ofString "is_ordered") 829), (.str (Str.ofString "/claim/cut.py") 830), (.int (466) 0), (.int (1) 0), (.int (0) 0), (.int (0) 0), (.int (3) 0), (.ref 481), (.bool true), (.int (181) 0), (.ref 482), .none, (.ref 483), (.ref 484), (.ref 485), (.int (832) 0), (.int (466) 0), (.str (Str.ofString "/claim/cut.py") 833)].toArray), [].toArray⟩) ::
  (nat_lit 487, o487) ::
  (nat_lit 491, ⟨(.type "code"), none, (.fields [(.str (Str.ofString "level_texts") 835), (.str (Str.ofString "level_texts") 836), (.str (Str.ofString "/claim/cut.py") 837), (.int (468) 0), (.int (1) 0), (.int (0) 0), (.int (0) 0), (.int (3) 0), (.ref 488), (.bool true), (.int (181) 0), (.ref 489), .none, .none, .none, (.ref 490), (.int (838) 0), (.int (468) 0), (.str (Str.ofString "/claim/cut.py") 839)].toArray), [].toArray⟩) ::
  (nat_lit 492, o492) ::
  (nat_lit 496, ⟨(.type "code"), none, (.fields [(.str (Str.ofString "codes_in") 841), (.str (Str.ofString "codes_in") 842), (.str (Str.ofString "/claim/cut.py") 843), (.int (473) 0), (.int (1) 0), (.int (0) 0), (.int (0) 0), (.int (3) 0), (.ref 493), (.bool true), (.int (181) 0), (.ref 494), .none, .none, .none, (.ref 495), (.int (844) 0), (.int (473) 0), (.str (Str.ofString "/claim/cut.py") 845)].toArray), [].toArray⟩) ::
  (nat_lit 497, o497) ::
  (nat_lit 501, ⟨(.type "code"), none, (.fields [(.str (Str.ofString "factor_texts") 847), (.str (Str.ofString "factor_texts") 848), (.str (Str.ofString "/claim/cut.py") 849), (.int (476) 0), (.int (1) 0), (.int (0) 0), (.int (0) 0), (.int (3) 0), (.ref 498), (.bool true), (.int (181) 0), (.ref 499), .none, .none, .none, (.ref 500), (.int (850) 0), (.int (476) 0), (.str (Str.ofString "/claim/cut.py") 851)].toArray), [].toArray⟩) ::
  (nat_lit 502, o502) ::
  (nat_lit 508, ⟨(.type "code"), none, (.fields [(.str (Str.ofString "factor_class") 853), (.str (Str.ofString "factor_class") 854), (.str (Str.ofString "/claim/cut.py") 855), (.int (479) 0), (.int (1) 0), (.int (0) 0), (.int (0) 0), (.int (3) 0), (.ref 503), (.bool true), (.int (181) 0), (.ref 504), .none, (.ref 505), (.ref 506), (.ref 507), (.int (857) 0), (.int (479) 0), (.str (Str.ofString "/claim/cut.py") 858)].toArray), [].toArray⟩) ::
  (nat_lit 509, o509) ::
  (nat_lit 515, ⟨(.type "code"), none, (.fields [(.str (Str.ofString "with_levels") 860), (.str (Str.ofString "with_levels") 861), (.str (Str.ofString "/claim/cut.py") 862), (.int (483) 0), (.int (3) 0), (.int (0) 0), (.int (0) 0), (.int (3) 0), (.ref 510), (.bool true), (.int (181) 0), (.ref 511), .none, (.ref 512), (.ref 513), (.ref 514), (.int (866) 0), (.int (483) 0), (.str (Str.ofString "/claim/cut.py") 867)].toArray), [].toArray⟩) ::
  (nat_lit 516, o516) ::
  (nat_lit 522, ⟨(.type "code"), none, (.fields [(.str (Str.ofString "distinct_texts") 869), (.str (Str.ofString "distinct_texts") 870), (.str (Str.ofString "/claim/cut.py") 871), (.int (489) 0), (.int (1) 0), (.int (0) 0), (.int (0) 0), (.int (3) 0), (.ref 517), (.bool true), (.int (181) 0), (.ref 518), .none, (.ref 519), (.ref 520), (.ref 521), (.int (875) 0), (.int (489) 0), (.str (Str.ofString "/claim/cut.py") 876)].toArray), [].toArray⟩) ::
  (nat_lit 523, o523) ::
  (nat_lit 527, ⟨(.type "code"), none, (.fields [(.str (Str.ofString "sorted_levels") 878), (.str (Str.ofString "sorted_levels") 879), (.str (Str.ofString "/claim/cut.py") 880), (.int (495) 0), (.int (1) 0), (.int (0) 0), (.int (0) 0), (.int (3) 0), (.ref 524), (.bool true), (.int (181) 0), (.ref 525), .none, .none, .none, (.ref 526), (.int (881) 0), (.int (495) 0), (.str (Str.ofString "/claim/cut.py") 882)].toArray), [].toArray⟩) ::
  (nat_lit 528, o528) ::
  (nat_lit 532, ⟨(.type "code"), none, (.fields [(.str (Str.ofString "codes_of") 884), (.str (Str.ofString "codes_of") 885), (.str (Str.ofString "/claim/cut.py") 886), (.int (500) 0), (.int (2) 0), (.int (0) 0), (.int (0) 0), (.int (3) 0), (.ref 529), (.bool true), (.int (181) 0), (.ref 530), .none, .none, .none, (.ref 531), (.int (887) 0), (.int (500) 0), (.str (Str.ofString "/claim/cut.py") 888)].toArray), [].toArray⟩) ::
  (nat_lit 533, o533) ::
  (nat_lit 539, ⟨(.type "code"), none, (.fields [(.str (Str.ofString "item_texts") 890), (.str (Str.ofString "item_texts") 891), (.str (Str.ofString "/claim/cut.py") 892), (.int (506) 0), (.int (1) 0), (.int (0) 0), (.int (0) 0), (.int (3) 0), (.ref 534), (.bool true), (.int (181) 0), (.ref 535), .none, (.ref 536), (.ref 537), (.ref 538), (.int (894) 0), (.int (506) 0), (.str (Str.ofString "/claim/cut.py") 895)].toArray), [].toArray⟩) ::
  (nat_lit 540, o540) ::
  (nat_lit 544, ⟨(.type "code"), none, (.fields [(.str (Str.ofString "label_list") 897), (.str (Str.ofString "label_list") 898), (.str (Str.ofString "/claim/cut.py") 899), (.int (512) 0), (.int (2) 0), (.int (0) 0), (.int (0) 0), (.int (3) 0), (.ref 541), (.bool true), (.int (181) 0), (.ref 542), .none, .none, .none, (.ref 543), (.int (900) 0), (.int (512) 0), (.str (Str.ofString "/claim/cut.py") 901)].toArray), [].toArray⟩) ::
  (nat_lit 545, o545) ::
  (nat_lit 551, ⟨(.type "code"), none, (.fields [(.str (Str.ofString "check_distinct") 903), (.str (Str.ofString "check_distinct") 904), (.str (Str.ofString "/claim/cut.py") 905), (.int (522) 0), (.int (1) 0), (.int (0) 0), (.int (0) 0), (.int (3) 0), (.ref 546), (.bool true), (.int (181) 0), (.ref 547), .none, (.ref 548), (.ref 549), (.ref 550), (.int (909) 0), (.int (522) 0), (.str (Str.ofString "/claim/cut.py") 910)].toArray), [].toArray⟩) ::
  (nat_lit 552, o552) ::
  (nat_lit 556, ⟨(.type "code"), none, (.fields [(.str (Str.ofString "make_factor") 912), (.str (Str.ofString "make_factor") 913), (.str (Str.ofString "/claim/cut.py") 914), (.int (528) 0), (.int (5) 0), (.int (0) 0), (.int (0) 0), (.int (3) 0), (.ref 553), (.bool true), (.int (181) 0), (.ref 554), .none, .none, .none, (.ref 555), (.int (915) 0), (.int (528) 0), (.str (Str.ofString "/claim/cut.py") 916)].toArray), [].toArray⟩) ::
  (nat_lit 557, o557) ::
  (nat_lit 566, ⟨(.type "code"), none, (.fields [(.str (Str.ofString "interaction") 924), (.str (Str.ofString "interaction") 925), (.str (Str.ofString "/claim/cut.py") 926), (.int (560) 0), (.int (3) 0), (.int (0) 0), (.int (0) 0), (.int (3) 0), (.ref 563), (.bool true), (.int (181) 0), (.ref 564), .none, .none, .none, (.ref 565), (.int (927) 0), (.int (560) 0), (.str (Str.ofString "/claim/cut.py") 928)].toArray), [].toArray⟩) ::
  (nat_lit 567, o567) ::
  (nat_lit 578, ⟨(.type "code"), none, (.fields [(.str (Str.ofString "combine_factors") 940), (.str (Str.ofString "combine_factors") 941), (.str (Str.ofString "/claim/cut.py") 942), (.int (595) 0), (.int (1) 0), (.int (0) 0), (.int (0) 0), (.int (3) 0), (.ref 575), (.bool true), (.int (181) 0), (.ref 576), .none, .none, .none, (.ref 577), (.int (943) 0), (.int (595) 0), (.str (Str.ofString "/claim/cut.py") 944)].toArray), [].toArray⟩) ::
  (nat_lit 579, o579) ::
  (nat_lit 613, ⟨(.type "code"), none, (.fields [(.str (Str.ofString "compare_factor") 985), (.str (Str.ofString "compare_factor") 986), (.str (Str.ofString "/claim/cut.py") 987), (.int (632) 0), (.int (4) 0), (.int (0) 0), (.int (0) 0), (.int (3) 0), (.ref 608), (.bool true), (.int (181) 0), (.ref 609), .none, (.ref 610), (.ref 611), (.ref 612), (.int (993) 0), (.int (632) 0), (.str (Str.ofString "/claim/cut.py") 994)].toArray), [].toArray⟩) ::
  (nat_lit 614, o614) ::
  (nat_lit 620, ⟨(.type "code"), none, (.fields [(.str (Str.ofString "_law_beads") 998), (.str (Str.ofString "_law_beads") 999), (.str (Str.ofString "/claim/cut.py") 1000), (.int (645) 0), (.int (1) 0), (.int (0) 0), (.int (0) 0), (.int (3) 0), (.ref 615), (.bool true), (.int (181) 0), (.ref 616), .none, (.ref 617), (.ref 618), (.ref 619), (.int (1006) 0), (.int (645) 0), (.str (Str.ofString "/claim/cut.py") 1007)].toArray), [].toArray⟩) ::
  (nat_lit 621, o621) ::
  (nat_lit 627, ⟨(.type "code"), none, (.fields [(.str (Str.ofString "_law_bead") 1009), (.str (Str.ofString "_law_bead") 1010), (.str (Str.ofString "/claim/cut.py") 1011), (.int (657) 0), (.int (2) 0), (.int (0) 0), (.int (0) 0), (.int (3) 0), (.ref 622), (.bool true), (.int (181) 0), (.ref 623), .none, (.ref 624), (.ref 625), (.ref 626), (.int (1014) 0), (.int (657) 0), (.str (Str.ofString "/claim/cut.py") 1015)].toArray), [].toArray⟩) ::
  (nat_lit 628, o628) ::
  (nat_lit 632, ⟨(.type "code"), none, (.fields [(.str (Str.ofString "_law_words") 1017), (.str (Str.ofString "_law_words") 1018), (.str (Str.ofString "/claim/cut.py") 1019), (.int (661) 0), (.int (1) 0), (.int (0) 0), (.int (0) 0), (.int (3) 0), (.ref 629), (.bool true), (.int (181) 0), (.ref 630), .none, .none, .none, (.ref 631), (.int (1020) 0), (.int (661) 0), (.str (Str.ofString "/claim/cut.py") 1021)].toArray), [].toArray⟩) ::
  (nat_lit 633, o633) ::
  (nat_lit 639, ⟨(.type "code"), none, (.fields [(.str (Str.ofString "_law_factor") 1023), (.str (Str.ofString "_law_factor") 1024), (.str (Str.ofString "/claim/cut.py") 1025), (.int (663) 0), (.int (2) 0), (.int (0) 0), (.int (0) 0), (.int (3) 0), (.ref 634), (.bool true), (.int (181) 0), (.ref 635), .none, (.ref 636), (.ref 637), (.ref 638), (.int (1029) 0), (.int (663) 0), (.str (Str.ofString "/claim/cut.py") 1030)].toArray), [].toArray⟩) ::
  (nat_lit 640, o640) ::
  (nat_lit 646, ⟨(.type "code"), none, (.fields [(.str (Str.ofString "_law_told") 1032), (.str (Str.ofString "_law_told") 1033), (.str (Str.ofString "/claim/cut.py") 1034), (.int (667) 0), (.int (2) 0), (.int (0) 0), (.int (0) 0), (.int (3) 0), (.ref 641), (.bool true), (.int (181) 0), (.ref 642), .none, (.ref 643), (.ref 644), (.ref 645), (.int (1039) 0), (.int (667) 0), (.str (Str.ofString "/claim/cut.py") 1040)].toArray), [].toArray⟩) ::
  (nat_lit 647, o647) ::
  (nat_lit 651, ⟨(.type "code"), none, (.fields [(.str (Str.ofString "law") 1042), (.str (Str.ofString "law") 1043), (.str (Str.ofString "/claim/cut.py") 1044), (.int (673) 0), (.int (1) 0), (.int (0) 0), (.int (0) 0), (.int (3) 0), (.ref 648), (.bool true), (.int (181) 0), (.ref 649), .none, .none, .none, (.ref 650), (.int (1045) 0), (.int (673) 0), (.str (Str.ofString "/claim/cut.py") 1046)].toArray), [].toArray⟩) ::
  (nat_lit 652, o652) :: []
noncomputable abbrev kAs : List Nat := [3, 30, 31, 32, 47, 48, 50, 51, 179, 185, 186, 195, 196, 197, 198, 206, 207, 213, 214, 220, 221, 227, 228, 234, 235, 241, 242, 248, 249, 255, 256, 262, 263, 269, 270, 276, 277, 281, 282, 286, 287, 293, 294, 298, 299, 305, 306, 412, 413, 419, 420, 426, 427, 433, 434, 440, 441, 447, 448, 452, 453, 457, 458, 464, 465, 466, 472, 473, 479, 480, 486, 487, 491, 492, 496, 497, 501, 502, 508, 509, 515, 516, 522, 523, 527, 528, 532, 533, 539, 540, 544, 545, 551, 552, 556, 557, 566, 567, 578, 579, 613, 614, 620, 621, 627, 628, 632, 633, 639, 640, 646, 647, 651, 652]
theorem letG {G : Prop} (h : let P : Prop := G; P) : G := h
noncomputable abbrev isLaw (s : Stmt) : Bool := match s with
  | .FunctionDef n .. => n == Str.ofString "law"
  | _ => false
noncomputable def q : Program := { PySem.Challenge.pw_pq1411_01 with main := { PySem.Challenge.pw_pq1411_01.main with body := PySem.Challenge.pw_pq1411_01.main.body.filter isLaw } }
/-- every object of the one heap stands in the other as it stood -/
noncomputable abbrev Kept (h h' : Heap) : Prop := ∀ b o, h.get? b = some o → h'.get? b = some o
/-- what a call of a def of the text asks of the state at hand -/
structure Cx (w : World) (A : Around) (base : Heap) (outer : List Env) (loose : List Str) (mean : ExcName → Option Value) (mg mb : Str → Option Value) (h : Heap) : Prop where
  B : Below A base outer h
  X : (K w.params).In h
  T : Top q loose mean mg mb h
  hh : A.handled = none
/-- an object that was not there -/
structure Fresh (h h' : Heap) (a : Addr) (o : Obj) : Prop where
  new : h.get? a = none
  get : h'.get? a = some o
/-- the names of a def beside what is handed in -/
inductive ZipAre : List PySem.Arg → List Value → List (Str × Value) → Prop
  | nil : ZipAre [] [] []
  | cons {n : Str} {an : Option PySem.Expr} {p : Pos} {ps : List PySem.Arg} {v : Value} {vs : List Value} {r : List (Str × Value)} : ZipAre ps vs r → ZipAre (⟨n, an, p⟩ :: ps) (v :: vs) ((n, v) :: r)
/-- which of them are plain locals -/
inductive MaskAre (kindOf : Str → Option NameKind) : List (Str × Value) → List Bool → Prop
  | nil : MaskAre kindOf [] []
  | t {n : Str} {v : Value} {r : List (Str × Value)} {ks : List Bool} : kindOf n = some .local → MaskAre kindOf r ks → MaskAre kindOf ((n, v) :: r) (true :: ks)
  | f {n : Str} {v : Value} {r : List (Str × Value)} {ks : List Bool} : kindOf n = some .cell → MaskAre kindOf r ks → MaskAre kindOf ((n, v) :: r) (false :: ks)
noncomputable def bindM : List Bool → List (Str × Value) → (Str → Option Value) → Str → Option Value
  | true :: ks, (n, v) :: r, m => bindM ks r fun y => if y = n then some v else m y
  | false :: ks, _ :: r, m => bindM ks r m
  | _, _, m => m
noncomputable def bindCM : List Bool → List (Str × Value) → (Str → Option Value) → Str → Option Value
  | true :: ks, _ :: r, m => bindCM ks r m
  | false :: ks, (n, v) :: r, m => bindCM ks r fun y => if y = n then some v else m y
  | _, _, m => m
theorem bindM_eq {kindOf : Str → Option NameKind} {binds : List (Str × Value)} {ks : List Bool} (p : MaskAre kindOf binds ks) (m : Str → Option Value) : bindL kindOf binds m = bindM ks binds m := by
  induction p generalizing m with
  | nil => rfl
  | t h _ ih => exact (congrArg (bindL kindOf _) (if_pos h)).trans (ih _)
  | f h _ ih => exact (congrArg (bindL kindOf _) (if_neg (by rw [h]; decide))).trans (ih _)
theorem bindCM_eq {kindOf : Str → Option NameKind} {binds : List (Str × Value)} {ks : List Bool} (p : MaskAre kindOf binds ks) (m : Str → Option Value) : bindC kindOf binds m = bindCM ks binds m := by
  induction p generalizing m with
  | nil => rfl
  | t h _ ih => exact (congrArg (bindC kindOf _) (if_pos h)).trans (ih _)
  | f h _ ih => exact (congrArg (bindC kindOf _) (if_neg (by rw [h]; decide))).trans (ih _)
theorem depLe0 {d j k : Nat} (h : d + j ≤ 700) (hk : Nat.ble k j = true) : d + k ≤ 700 := Nat.le_trans (Nat.add_le_add_left (Nat.le_of_ble_eq_true hk) d) h
theorem depLe1 {A : Around} {e : Env} {j k : Nat} (h : A.depth + j ≤ 700) (hk : Nat.ble (1 + k) j = true) : (A.deeper e).depth + k ≤ 700 := (Nat.add_assoc A.depth 1 k).symm ▸ depLe0 h hk
theorem depLe2 {A : Around} {e e' : Env} {j k : Nat} (h : A.depth + j ≤ 700) (hk : Nat.ble (2 + k) j = true) : ((A.deeper e).deeper e').depth + k ≤ 700 := (Nat.add_assoc A.depth 2 k).symm ▸ depLe0 h hk
theorem uniLe0 {d j k : Nat} (h : d + j ≤ 8000) (hk : Nat.ble k j = true) : d + k ≤ 8000 := Nat.le_trans (Nat.add_le_add_left (Nat.le_of_ble_eq_true hk) d) h
theorem uniLe1 {A : Around} {e : Env} {j k : Nat} (h : A.units + j ≤ 8000) (hk : Nat.ble (3 + k) j = true) : (A.deeper e).units + k ≤ 8000 := (Nat.add_assoc A.units 3 k).symm ▸ uniLe0 h hk
theorem uniLe2 {A : Around} {e e' : Env} {j k : Nat} (h : A.units + j ≤ 8000) (hk : Nat.ble (6 + k) j = true) : ((A.deeper e).deeper e').units + k ≤ 8000 := (Nat.add_assoc A.units 6 k).symm ▸ uniLe0 h hk
theorem room0 {A : Around} {j : Nat} (h : A.depth + j ≤ 700) : A.depth < recursionLimit := Nat.lt_of_le_of_lt (Nat.le_trans (Nat.le_add_right _ _) h) (Nat.le_of_ble_eq_true rfl)
theorem room1 {A : Around} {e : Env} {j : Nat} (h : A.depth + j ≤ 700) : (A.deeper e).depth < recursionLimit := Nat.lt_of_le_of_lt (Nat.succ_le_succ (Nat.le_trans (Nat.le_add_right _ _) h)) (Nat.le_of_ble_eq_true rfl)
theorem leLe {a j k : Nat} (h : a ≤ j) (hk : Nat.ble j k = true) : a ≤ k := Nat.le_trans h (Nat.le_of_ble_eq_true hk)
theorem recLimit : recursionLimit = 1000 := rfl
theorem cLine_eq : cLine = 9900 := rfl

section
variable {w : World} {A : Around} {base : Heap} {outer : List Env} {loose : List Str} {mean : ExcName → Option Value} {mg mb : Str → Option Value} {s : Shared} {E : Value → Shared → Prop} {Q : Value → Shared → Prop}
theorem enter {name qual : Str} {params : Arguments} {body : List Stmt} {scope : Scope} {dV kV doc pm cdv ct oc : Value} {an od : Option Addr} {osl : Array (Option Value)} {f : Addr} {pos : List Value} {binds : List (Str × Value)}
    (X : (K w.params).In s.heap) (T : Top q loose mean mg mb s.heap)
    (ho : (K w.params).lookup f = some ⟨oc, od, .func (fnOf name qual params body scope dV kV doc pm an cdv ct), osl⟩) (hcd : codeIn (K w.params) cdv qual = true) (hroom : A.depth < recursionLimit)
    (_hz : ZipAre params.args pos binds) (hbind : BindsTo s (fnOf name qual params body scope dV kV doc pm an cdv ct) ⟨pos, []⟩ binds) (hloc : ∀ y ∈ binds, scope.names.lookup y.1 = some .local)
    (h : ∀ L h₁, Fr s.heap L h₁ (fun y => binds.reverse.lookup y) → News s.heap L h₁ [] →
      wpAny (model pw w) (A.deeper (envOf qual scope L f cdv)) (execs body (envOf qual scope L f cdv))
        (fun fl s' => Q (match fl with | .ret v => v | _ => .none) s')
        (fun e s' => wpAny (model pw w) (A.deeper (envOf qual scope L f cdv)) (leaving (envOf qual scope L f cdv) e) (fun _ s'' => E e s'') (fun e' s'' => E e' s'') s')
        { s with heap := h₁, toks := s.toks + binds.length })
    (hco : scope.isCoroutine = false) (hgen : scope.isGenerator = false) (hk : scope.kind = .function)
    (hcell : ∀ x ∈ scope.names, x.2 ≠ .cell) : wpAny (model pw w) A (call (.ref f) pos) Q E s := by
  refine wpAny_call ?_
  refine codeAny_call_def (fd := fnX name qual params body scope [] dV kV doc pm an cdv ct) (body := body) (binds := binds) hroom (X _ _ ho) rfl T.nolimit (codeRec_of X hcd) rfl hbind hcell hloc (fun h₁ hns hk₁ => ?_) hco hgen hk
  exact h s.heap.objs.size h₁ ⟨hns, hk₁, Nat.le_refl _⟩ News.nil
theorem Cx.push {h₀ h : Heap} {L a : Addr} {m : Str → Option Value} {name : Str} {scope : Scope} {cd : Value} (B : Below A base outer h₀) (X : (K w.params).In h₀) (T : Top q loose mean mg mb h₀) (hh : A.handled = none) (F : Fr h₀ L h m) (hk : scope.kind = .function := by rfl) :
    Cx w (A.deeper (envOf name scope L a cd)) base (envOf name scope L a cd :: outer) loose mean mg mb h := ⟨B.push F hk, X.keeps F.keep, T.keeps F.keep, hh⟩
theorem instBase {h₀ h : Heap} {L x C dx : Addr} {m : Str → Option Value} {od : Obj} {sl : Array (Option Value)} (F : Fr h₀ L h m) (h1 : h₀.get? x = some (⟨.ref C, some dx, .plain, sl⟩ : Obj)) (h2 : h₀.get? dx = some od) :
    InstAt h x ⟨.ref C, some dx, .plain, sl⟩ C (some od) := ⟨F.keep _ _ h1, rfl, rfl, F.keep _ _ h2⟩
end
theorem isListBase {h₀ h : Heap} {L l : Addr} {m : Str → Option Value} {its : Array Value} {n : Nat} (F : Fr h₀ L h m) (e : h₀.get? l = some (W.listOf its n)) : h.IsList l its := ⟨_, F.keep _ _ e, rfl, n, rfl⟩
theorem isListAt {h : Heap} {l : Addr} {its : Array Value} {n : Nat} (e : h.get? l = some (W.listOf its n)) : h.IsList l its := ⟨_, e, rfl, n, rfl⟩
section
variable {w : World} {A : Around} {s : Shared} {E : Value → Shared → Prop} {Q : Value → Shared → Prop}
theorem lenL {l : Addr} {vs : List Value} (hl : s.heap.IsList l vs.toArray) (hz : vs.length ≤ 1000000) (h : Q (.int vs.length (s.toks + 1)) { s with toks := s.toks + 1 + 1 }) :
    wpAny (model pw w) A (call (.builtin "len") [.ref l]) Q E s := by
  refine len_list hl (by rw [List.size_toArray]; omega) ?_
  rw [List.size_toArray]; exact h
theorem itemL {value slice : PySem.Expr} {l : Addr} {vs : List Value} {k : Int} {u : Tok} {v : Value}
    (hl : s.heap.IsList l vs.toArray) (h0 : 0 ≤ k) (hhi : k < 2 ^ 63) (hx : vs[k.toNat]? = some v) (h : Q v s)
    (hs : subscripted slice false (.ref l) (.int k u) = operate [.ref l, .int k u] (getItem (.ref l) (.int k u)) := by with_unfolding_all rfl) :
    wpAny (model pw w) A (subscriptTail value slice (.ref l) (.int k u)) Q E s :=
  tail_any hl.typeIs slot_list_getitem.lookup (wpAny_getItem_list hl h0 hhi (by simpa using hx) h) hs
end
section
variable {w : World} {A : Around} {s : Shared} {E : Value → Shared → Prop}
theorem dictBase {h₀ h : Heap} {L d : Addr} {m : Str → Option Value} {o : Obj} {kvs : List (Str × Value)} (F : Fr h₀ L h m) (e : h₀.get? d = some o) (hd : o.IsDictOf (PySem.strKind pw w) kvs) : h.DictOf (PySem.strKind pw w) d kvs :=
  Heap.dictOf_iff.mpr ⟨o, F.keep _ _ e, hd⟩
theorem dictNews {h₀ h : Heap} {L d : Addr} {news : List (Addr × Obj)} {o : Obj} {kvs : List (Str × Value)} (N : News h₀ L h news) (hp : (d, o) ∈ news) (hd : o.IsDictOf (PySem.strKind pw w) kvs) : h.DictOf (PySem.strKind pw w) d kvs :=
  Heap.dictOf_iff.mpr ⟨o, (N _ hp).1, hd⟩
theorem dMeth {pl : Sem Bool} {Q : Value × List Value → Shared → Prop} {d : Addr} {kvs : List (Str × Value)} (hD : s.heap.DictOf (PySem.strKind pw w) d kvs) (h : Q (.builtin "dict.get", [.ref d]) s) : wpAny (model pw w) A (getMethod (.ref d) (Str.ofString "get") pl) Q E s :=
  getMethod_builtin hD.typeIs PySem.F.plainAttrs_dict PySem.F.slot_dict_get PySem.F.type_dict_get hD.mapOf.noDict h
theorem dGet {Q : Value → Shared → Prop} {d : Addr} {kvs : List (Str × Value)} {k : Str} {t : Tok} (hD : s.heap.DictOf (PySem.strKind pw w) d kvs) (lo : (d == sysModules) = false) (v : Value) (hv : (valueAt kvs k).getD .none = v) (h : Q v { s with toks := s.toks + 1 }) :
    wpAny (model pw w) A (call (.builtin "dict.get") [.ref d, .str k t]) Q E s :=
  call_meetsIn PySem.F.slot_dict_get hD.typeIs PySem.F.entry_dict_get (PySem.F.args_dict_get_2 _ _) (meets_dict_get (PySem.strKind pw w) d (strKind_is _ _ _ _) lo) ⟨_, hD.mapOf, by rw [hv]; exact h⟩
theorem dIn {Q : Value → Shared → Prop} {d : Addr} {kvs : List (Str × Value)} {k : Str} {t : Tok} (hD : s.heap.DictOf (PySem.strKind pw w) d kvs) (lo : (d == sysModules) = false) (h : Q (.bool (valueAt kvs k).isSome) { s with toks := s.toks + 1 }) :
    wpAny (model pw w) A (compareOp .In (.str k t) (.ref d)) Q E s := wpAny_in_of (strKind_is _ _ _ _) lo hD.mapOf h
theorem dNotIn {Q : Value → Shared → Prop} {d : Addr} {kvs : List (Str × Value)} {k : Str} {t : Tok} (hD : s.heap.DictOf (PySem.strKind pw w) d kvs) (lo : (d == sysModules) = false) (h : Q (.bool (!(valueAt kvs k).isSome)) { s with toks := s.toks + 1 }) :
    wpAny (model pw w) A (compareOp .NotIn (.str k t) (.ref d)) Q E s := wpAny_notIn_of (strKind_is _ _ _ _) lo hD.mapOf h
end
theorem freshOf {h₀ h' : Heap} {L a : Addr} {o : Obj} {news : List (Addr × Obj)} (N : News h₀ L h' news) (hm : (a, o) ∈ news) : Fresh h₀ h' a o := ⟨(N _ hm).2.2, (N _ hm).1⟩
noncomputable def AllNe (a : Addr) : List (Addr × Obj) → Prop
  | [] => True
  | p :: r => @Ne Nat p.1 a ∧ AllNe a r
theorem allNe_of {a : Addr} : ∀ {l : List (Addr × Obj)}, (∀ p ∈ l, p.1 ≠ a) → AllNe a l
  | [], _ => trivial
  | p :: _, h => ⟨h p (.head _), allNe_of fun q hq => h q (.tail _ hq)⟩
theorem allNeCons {a : Addr} {p : Addr × Obj} {r : List (Addr × Obj)} (h : @Ne Nat p.1 a) (k : AllNe a r) : AllNe a (p :: r) := ⟨h, k⟩
theorem neA {a b : Addr} {o : Obj} : ∀ {l : List (Addr × Obj)}, AllNe b l → (a, o) ∈ l → @Ne Nat a b
  | [], _, h => nomatch h
  | _ :: _, x, h => by
    rcases List.mem_cons.mp h with rfl | h
    · exact x.1
    · exact neA x.2 h
theorem newsL {h₀ h h' : Heap} {L a : Addr} {o : Obj} {m : Str → Option Value} {news : List (Addr × Obj)} (F : Fr h₀ L h m) (N : News h₀ L h news) (kp : Kept h h') (fr : Fresh h h' a o) :
    News h₀ L h' ((a, o) :: news) ∧ AllNe a news := by
  refine ⟨fun p hp => ?_, allNe_of fun p hp e => ?_⟩
  · rcases List.mem_cons.mp hp with rfl | hp
    · refine ⟨fr.get, fun e => ?_, ?_⟩
      · refine letG ?_
        intro P9
        obtain ⟨oL, _, _, hL, _⟩ := F.ns
        k_unfold
        try clear P9
        have q := fr.new
        rw [show (a, o).1 = a from rfl] at e
        rw [e, hL] at q
        cases q
      · cases e : h₀.get? a with
        | none => rfl
        | some o' =>
          have q := fr.new
          rw [F.keep _ _ e] at q
          cases q
    · exact News.grown N kp p hp
  · have q := fr.new
    rw [← e, (N p hp).1] at q
    cases q
theorem newsLk {h₀ h h' : Heap} {L a : Addr} {o : Obj} {m : Str → Option Value} {news : List (Addr × Obj)} {G : Prop} (F : Fr h₀ L h m) (N : News h₀ L h news) (kp : Kept h h') (fr : Fresh h h' a o)
    (g : Fr h₀ L h' m → News h₀ L h' ((a, o) :: news) → AllNe a news → G) : G := g (F.keeps kp) (newsL F N kp fr).1 (newsL F N kp fr).2
section
variable {w : World} {A : Around} {base : Heap} {outer : List Env} {loose : List Str} {mean : ExcName → Option Value} {mg mb : Str → Option Value} {s : Shared} {E : Value → Shared → Prop} {Q : Value → Shared → Prop}
theorem Cx.pushE {h₀ h : Heap} {L : Addr} {m : Str → Option Value} {env : Env} (B : Below A base outer h₀) (X : (K w.params).In h₀) (T : Top q loose mean mg mb h₀) (hh : A.handled = none) (F : Fr h₀ L h m) (hf : env.frame = some L) (hk : env.scope.kind = .function) :
    Cx w (A.deeper env) base (env :: outer) loose mean mg mb h := by
  have B' := pushX B F hf hk
  exact ⟨⟨Around.frames_deeper B.stack, B'.stays, B'.frames⟩, X.keeps F.keep, T.keeps F.keep, hh⟩
theorem enterC {name qual : Str} {params : Arguments} {body : List Stmt} {scope : Scope} {dV kV doc pm cdv ct oc : Value} {an od : Option Addr} {osl : Array (Option Value)} {f : Addr} {pos : List Value} {binds : List (Str × Value)} {ks : List Bool}
    (X : (K w.params).In s.heap) (T : Top q loose mean mg mb s.heap)
    (ho : (K w.params).lookup f = some ⟨oc, od, .func (fnOf name qual params body scope dV kV doc pm an cdv ct), osl⟩) (hcd : codeIn (K w.params) cdv qual = true) (hroom : A.depth < recursionLimit)
    (_hz : ZipAre params.args pos binds) (hm : MaskAre (envOfC qual scope 0 0 .none).kindOf binds ks) (hbind : BindsTo s (fnOf name qual params body scope dV kV doc pm an cdv ct) ⟨pos, []⟩ binds) (hkind : (binds.all fun y => scope.names.lookup y.1 == some .local || scope.names.lookup y.1 == some .cell) = true)
    (hnd : ((cellsFrom 0 scope.names []).map (·.1)).Nodup)
    (h : ∀ L h₁ tk cells, Fr s.heap L h₁ (bindM ks binds fun _ => none) → News s.heap L h₁ cells → CellsAre (bindCM ks binds fun _ => none) (cellsFrom (L + 1) scope.names []) cells →
      wpAny (model pw w) (A.deeper (envOfC qual scope L f cdv)) (execs body (envOfC qual scope L f cdv))
        (fun fl s' => Q (match fl with | .ret v => v | _ => .none) s')
        (fun e s' => wpAny (model pw w) (A.deeper (envOfC qual scope L f cdv)) (leaving (envOfC qual scope L f cdv) e) (fun _ s'' => E e s'') (fun e' s'' => E e' s'') s')
        { s with heap := h₁, toks := tk })
    (hco : scope.isCoroutine = false) (hgen : scope.isGenerator = false) (hk : scope.kind = .function) : wpAny (model pw w) A (call (.ref f) pos) Q E s := by
  refine wpAny_call ?_
  refine codeAny_call_function (fd := fnX name qual params body scope [] dV kV doc pm an cdv ct) hroom (X _ _ ho) rfl hco hgen rfl (codeRec_of X hcd) (hbind _ _ _ _ ?_)
  refine wpAny_newFunctionEnv_cells hk (kindsX hkind _) fun env' he s' x => ?_
  subst he
  refine ⟨T.nolimit.keeps x.toInCall.keep, codeAny_func ?_⟩
  refine letG ?_
  intro P9
  obtain ⟨h₁, tk, rfl, _⟩ := x.done
  k_unfold
  try clear P9
  have hk₁ := x.toInCall.keep
  refine letG ?_
  intro P9
  obtain ⟨cells, NC, Y⟩ := Cl.news (h₀ := s.heap) (Nat.le_refl _) fun n c hm => ⟨x.cell n c (lookup_of_mem_nodup (cellsFrom_names scope.names 0 (s.heap.objs.size + 1) [] [] rfl ▸ hnd) hm), x.above n c hm⟩
  k_unfold
  try clear P9
  have hm' : MaskAre (envOfC qual scope s.heap.objs.size f cdv).kindOf binds ks := hm
  exact h s.heap.objs.size h₁ tk cells (bindM_eq hm' _ ▸ ⟨x.toInCall.ns, hk₁, Nat.le_refl _⟩) NC (bindCM_eq hm' _ ▸ Y)
end
/-- a walk that raises nothing -/
noncomputable abbrev noE : Value → Shared → Prop := fun _ _ => False
theorem wpAny_noE {α : Type} {M : Model} {A : Around} {t : Sem α} {Q : α → Shared → Prop} {E : Value → Shared → Prop} {s : Shared} (h : wpAny M A t Q (fun _ _ => False) s) : wpAny M A t Q E s := wpAny_mono h (fun _ _ h => h) fun _ _ h => h.elim
noncomputable def Calm : Prop := True
theorem calm {P : Prop} (h : Calm → P) : P := h trivial
theorem calmE {α : Type} {M : Model} {A : Around} {t : Sem α} {Q : α → Shared → Prop} {E : Value → Shared → Prop} {s : Shared} (_ : Calm) (h : wpAny M A t Q (fun _ _ => False) s) : wpAny M A t Q E s := wpAny_noE h
/-- what comes after is not looked into -/
theorem backQ {α : Type} {Q Q' : α → Shared → Prop} {f : α} {s : Shared} (k : ∀ f s', Q f s' → Q' f s') (h : Q f s) : Q' f s := k _ _ h
theorem execs_cons_o {M : Model} {A : Around} {st : Stmt} {rest : List Stmt} {env : Env} {Q : Flow → Shared → Prop} {E : Value → Shared → Prop} {s : Shared}
    (h : ∀ QS : Flow → Shared → Prop, (∀ fl s', (match fl with | .next => wpAny M A (execs rest env) Q E s' | f => Q f s') → QS fl s') → wpAny M A (exec st env) QS E s) : wpAny M A (execs (st :: rest) env) Q E s :=
  wpAny_execs_cons (h _ fun _ _ h => h)
section
variable {prog : Program} {w : World} {A : Around} {h₀ : Heap} {L : Addr} {m : Str → Option Value} {env : Env} {elt ct : PySem.Expr} {x : Str} {scope : Scope} {cl : List (Str × Addr)} {s : Shared} {S : List (Addr × Obj) → Prop} {P : Nat → Value → Prop} {Fin : List Value → List (Addr × Obj) → Prop}
theorem compEnd_mono {s₁ s₂ : Shared} {I C D : Addr} {oI oC oD : Obj} {rest rest' : Value → List (Addr × Obj) → Prop} {y : Value} (h : LCg.CompEnd h₀ L m s₁ I oI C oC D oD S rest y s₂) (k : ∀ y nw, rest y nw → rest' y nw) : LCg.CompEnd h₀ L m s₁ I oI C oC D oD S rest' y s₂ := by
  refine letG ?_
  intro P9
  obtain ⟨h', tk, news', e, F, N, o, hS, r⟩ := h
  k_unfold
  try clear P9
  exact ⟨h', tk, news', e, F, N, o, hS, k _ _ r⟩
/-- a comprehension by an invariant over its turns -/
theorem compInd (Inv : Nat → List Value → List (Addr × Obj) → Prop) (n : Nat) {news : List (Addr × Obj)} (h0 : Inv 0 [] news)
    (turn : ∀ i ys nw, i < n → Inv i ys nw → ∀ v I oI C oC D m₂ h tk (E' : Value → Shared → Prop), P i v → LCg.NsObj oC m₂ → m₂ x = some v → Fr h₀ L h m → News h₀ L h ((I, oI) :: (C, oC) :: (D, LCg.lst ys) :: nw) → LCg.Off3 I C D nw → ((@Ne Nat I C) ∧ (@Ne Nat I D) ∧ (@Ne Nat C D)) →
      ∀ QC : Value → Shared → Prop, (∀ y s', LCg.CompEnd h₀ L m { s with heap := h, toks := tk } I oI C oC D (LCg.lst ys) S (fun y nw' => Inv (i + 1) (ys ++ [y]) nw') y s' → QC y s') → wpAny (model prog w) A (eval elt (compEnvC scope cl C env)) QC E' { s with heap := h, toks := tk })
    (fin : ∀ ys nw, Inv n ys nw → Fin ys nw) : LCg.CompRest prog w A h₀ L m env elt x scope cl s S P Fin n 0 [] news := by
  have gen : ∀ k i ys nw, i + k = n → Inv i ys nw → LCg.CompRest prog w A h₀ L m env elt x scope cl s S P Fin k i ys nw := by
    intro k
    induction k with
    | zero => intro i ys nw e hI; exact LCg.CompRest.zero (fin ys nw (by simpa [← e] using hI))
    | succ k ih =>
      intro i ys nw e hI
      refine LCg.CompRest.succ fun v I oI C oC D m₂ h tk E' hP hC hx F N off ne => ?_
      refine wpAny_mono (turn i ys nw (by omega) hI v I oI C oC D m₂ h tk E' hP hC hx F N off ne _ fun _ _ h => h) (fun y s₂ hy => ?_) fun _ _ e => e
      exact compEnd_mono hy fun y nw' hi => ih _ _ _ (by omega) hi
  exact gen n 0 [] news (by omega) h0
end
section
variable {prog : Program} {w : World} {A : Around} {h₀ : Heap} {L : Addr} {m : Str → Option Value} {env : Env} {elt ct : PySem.Expr} {x : Str} {scope : Scope} {cl : List (Str × Addr)} {s : Shared} {S : List (Addr × Obj) → Prop} {P : Nat → Value → Prop} {Fin : List Value → List (Addr × Obj) → Prop}
/-- a comprehension whose element leaves the ledger as it stood -/
theorem compMap (R : Nat → List Value → Prop) {n : Nat} {news : List (Addr × Obj)} (h0 : R 0 [])
    (turn : ∀ i ys, i < n → R i ys → ∀ v I oI C oC D m₂ h tk (E' : Value → Shared → Prop), P i v → LCg.NsObj oC m₂ → m₂ x = some v → Fr h₀ L h m → News h₀ L h ((I, oI) :: (C, oC) :: (D, LCg.lst ys) :: news) → LCg.Off3 I C D news → ((@Ne Nat I C) ∧ (@Ne Nat I D) ∧ (@Ne Nat C D)) →
      ∀ QC : Value → Shared → Prop, (∀ y s', LCg.CompEnd h₀ L m { s with heap := h, toks := tk } I oI C oC D (LCg.lst ys) S (fun y nw' => nw' = news ∧ R (i + 1) (ys ++ [y])) y s' → QC y s') → wpAny (model prog w) A (eval elt (compEnvC scope cl C env)) QC E' { s with heap := h, toks := tk })
    (fin : ∀ ys, R n ys → Fin ys news) : LCg.CompRest prog w A h₀ L m env elt x scope cl s S P Fin n 0 [] news := by
  refine compInd (fun i ys nw => nw = news ∧ R i ys) n ⟨rfl, h0⟩ ?_ ?_
  · rintro i ys nw hi ⟨rfl, hR⟩ v I oI C oC D m₂ h tk E' hP hC hx F N off ne QC hQC
    exact turn i ys hi hR v I oI C oC D m₂ h tk E' hP hC hx F N off ne QC hQC
  · rintro ys nw ⟨rfl, hR⟩; exact fin ys hR
end
section
variable {w : World} {A : Around} {s : Shared} {E : Value → Shared → Prop}
theorem dSet {Q : Unit → Shared → Prop} {h₀ : Heap} {L d : Addr} {m : Str → Option Value} {news : List (Addr × Obj)} {g : Obj → List (Addr × Obj)} {o : Obj} {kvs : List (Str × Value)} {k : Str} {t : Tok} {v : Value}
    (F : Fr h₀ L s.heap m) (N : News h₀ L s.heap news) (U : UpdF d o news g) (hd : o.IsDictOf (PySem.strKind pw w) kvs) (hsz : kvs.length ≤ 1000)
    (h : ∀ h' o', Fr h₀ L h' m → News h₀ L h' (g o') → o'.IsDictOf (PySem.strKind pw w) (stored kvs k v) → Q () { s with heap := h', toks := s.toks + 1 }) : wpAny (model pw w) A (setItem (.ref d) (.str k t) v) Q E s :=
  kda_set F N U hd (strKind_is _ _ _ _) (by rw [sizeLine_eq]; omega) h
end

theorem pairedOf {α β : Type} {F : α → β → Prop} {l : List α} {r : List β} (h : l.length = r.length) (k : ∀ (j : Nat) (a : α) (b : β), l[j]? = some a → r[j]? = some b → F a b) : Paired F l r := by
  induction l generalizing r with
  | nil => cases r with
    | nil => exact .nil
    | cons => cases h
  | cons a l ih => cases r with
    | nil => cases h
    | cons b r => exact .cons (k 0 a b rfl rfl) (ih (Nat.succ.inj h) fun j x y h1 h2 => k (j + 1) x y h1 h2)
noncomputable def IsS (v : Value) (x : Str) : Prop := ∃ t, v = .str x t
section
variable {w : World} {A : Around} {s : Shared} {E : Value → Shared → Prop}
theorem dList {Q : Value → Shared → Prop} {h₀ : Heap} {L d : Addr} {m : Str → Option Value} {news : List (Addr × Obj)} {o : Obj} {kvs : List (Str × Value)} (hh : A.handled = none) (F : Fr h₀ L s.heap m) (N : News h₀ L s.heap news) (hp : (d, o) ∈ news) (hd : o.IsDictOf (PySem.strKind pw w) kvs) (lo : (d == sysModules) = false) (hn : kvs.length ≤ 1000)
    (h : ∀ (B : Addr) c h' tk vs, Fr h₀ L h' m → News h₀ L h' ((B, W.listOf vs.toArray c) :: news) → (∀ q ∈ news, q.1 < B) → Paired IsS vs (kvs.map (·.1)) → Q (.ref B) { s with heap := h', toks := tk }) :
    wpAny (model pw w) A (call (.type "list") [.ref d]) Q E s := by
  obtain ⟨ep, hat⟩ := (kda_dict N hp hd).dictAt
  refine kdl_N (kdl_dict (knd := PySem.strKind pw w) (kvs := kvs) (ep := ep) lo) hh F N hat (kdl_size (by omega)) fun B c h' tk vs F' N' l1 hl hv => ?_
  refine h B c h' tk vs F' N' l1 (pairedOf (by rw [hl, List.length_map]) fun j u b hu hb => ?_)
  refine letG ?_
  intro P9
  obtain ⟨k, x, hx, hk⟩ := hv j u hu
  k_unfold
  try clear P9
  rw [List.getElem?_map, hx] at hb
  simp only [Option.map_some, Option.some.injEq] at hb
  subst hb
  exact Value.isStrOf_shape hk
end
section
variable {w : World} {A : Around} {s : Shared} {E : Value → Shared → Prop} {Q : Value → Shared → Prop}
theorem appendL {h₀ : Heap} {L D : Addr} {m : Str → Option Value} {news news' : List (Addr × Obj)} {vs : List Value} {n : Nat} {x : Value} (F : Fr h₀ L s.heap m) (N : News h₀ L s.heap news) (U : Upd D (W.listOf vs.toArray n) (W.listOf (vs ++ [x]).toArray (n + 1)) news news') (hz : vs.length ≤ 1000000)
    (h : ∀ h', Fr h₀ L h' m → News h₀ L h' news' → Q .none { s with heap := h' }) : wpAny (model pw w) A (call (.builtin "list.append") [.ref D, x]) Q E s :=
  append_K (its := vs.toArray) (n := n) F N (by simpa using U) h (by rw [List.size_toArray, sizeLine_eq]; omega)
end
section
variable {w : World} {A : Around} {s : Shared} {E : Value → Shared → Prop}
theorem dInB {Q : Value → Shared → Prop} {d : Addr} {kvs : List (Str × Value)} {k : Str} {t : Tok} (hD : s.heap.DictOf (PySem.strKind pw w) d kvs) (lo : (d == sysModules) = false) (b : Bool) (hb : (valueAt kvs k).isSome = b) (h : Q (.bool b) { s with toks := s.toks + 1 }) :
    wpAny (model pw w) A (compareOp .In (.str k t) (.ref d)) Q E s := dIn hD lo (hb ▸ h)
theorem dNotInB {Q : Value → Shared → Prop} {d : Addr} {kvs : List (Str × Value)} {k : Str} {t : Tok} (hD : s.heap.DictOf (PySem.strKind pw w) d kvs) (lo : (d == sysModules) = false) (b : Bool) (hb : (valueAt kvs k).isSome = b) (h : Q (.bool (!b)) { s with toks := s.toks + 1 }) :
    wpAny (model pw w) A (compareOp .NotIn (.str k t) (.ref d)) Q E s := dNotIn hD lo (hb ▸ h)
end
theorem allNe_lt {D : Addr} {l : List (Addr × Obj)} (h : ∀ p ∈ l, p.1 < D) : AllNe D l := allNe_of fun p hp e => Nat.lt_irrefl _ (by have := h p hp; rw [e] at this; exact this)
section
variable {w : World} {A : Around} {E : Value → Shared → Prop} {s : Shared} {h₀ : Heap} {L l : Addr} {m : Str → Option Value} {news : List (Addr × Obj)} {value slice : PySem.Expr} {vs ws : List Value} {x : Int} {t : Tok} {Q : Value → Shared → Prop}
theorem sliceFromL (F : Fr h₀ L s.heap m) (N : News h₀ L s.heap news) (hl : s.heap.IsList l vs.toArray) (hz : vs.length ≤ 1000000) (h0 : 0 ≤ x)
    (h : ∀ D h', Fr h₀ L h' m → News h₀ L h' ((D, W.listOf (vs.drop x.toNat).toArray 0) :: news) → AllNe D news → Q (.ref D) { s with heap := h' })
    (hs : subscripted slice false (.ref l) (.ref s.heap.objs.size) = operate [.ref s.heap.objs.size, .ref l] (getItem (.ref l) (.ref s.heap.objs.size))) (ht : ∀ r, letTemporaryGo value (.ref l) r = pure ()) :
    wpAny (model pw w) A (subscriptTail value slice (.ref l) (.ref s.heap.objs.size)) Q E { s with heap := s.heap.push { cls := .type "slice", data := .fields #[.int x t, .none, .none] } } := by
  refine kmk_slice_lit F N hl (IsPart.int _ _) IsPart.none ?_ (fun D h' F' N' l1 => h D h' F' N' (allNe_lt l1)) hs ht (by rw [List.size_toArray, sizeLine_eq]; omega)
  have e : sliceBounds (some x) none none vs.toArray.size = (((min x.toNat vs.toArray.size : Nat) : Int), ((vs.toArray.size : Nat) : Int), 1) := by
    simp only [sliceBounds, Option.getD_none, show (1 : Int) > 0 by decide, if_true, if_neg (show ¬ (x < 0) by omega)]
    congr 1
    omega
  rw [kmk_pick_nat _ e]
  show (vs.drop (min x.toNat vs.toArray.size)).take (vs.toArray.size - min x.toNat vs.toArray.size) = _
  rw [List.size_toArray, kmk_drop_min, List.take_of_length_le (by rw [List.length_drop]; omega)]
theorem sliceUptoL (F : Fr h₀ L s.heap m) (N : News h₀ L s.heap news) (hl : s.heap.IsList l vs.toArray) (hz : vs.length ≤ 1000000) (h0 : 0 ≤ x)
    (h : ∀ D h', Fr h₀ L h' m → News h₀ L h' ((D, W.listOf (vs.take x.toNat).toArray 0) :: news) → AllNe D news → Q (.ref D) { s with heap := h' })
    (hs : subscripted slice false (.ref l) (.ref s.heap.objs.size) = operate [.ref s.heap.objs.size, .ref l] (getItem (.ref l) (.ref s.heap.objs.size))) (ht : ∀ r, letTemporaryGo value (.ref l) r = pure ()) :
    wpAny (model pw w) A (subscriptTail value slice (.ref l) (.ref s.heap.objs.size)) Q E { s with heap := s.heap.push { cls := .type "slice", data := .fields #[.none, .int x t, .none] } } := by
  refine kmk_slice_lit F N hl IsPart.none (IsPart.int _ _) ?_ (fun D h' F' N' l1 => h D h' F' N' (allNe_lt l1)) hs ht (by rw [List.size_toArray, sizeLine_eq]; omega)
  have e : sliceBounds none (some x) none vs.toArray.size = (((0 : Nat) : Int), ((min x.toNat vs.toArray.size : Nat) : Int), 1) := by
    simp only [sliceBounds, Option.getD_none, show (1 : Int) > 0 by decide, if_true, if_neg (show ¬ (x < 0) by omega)]
    congr 1
    congr 1
    omega
  rw [kmk_pick_nat _ e]
  show (vs.drop 0).take (min x.toNat vs.toArray.size - 0) = _
  rw [List.drop_zero, Nat.sub_zero, List.size_toArray, kmk_take_min]
theorem addL {a b : Addr} (F : Fr h₀ L s.heap m) (N : News h₀ L s.heap news) (ha : s.heap.IsList a vs.toArray) (hb : s.heap.IsList b ws.toArray) (hz : vs.length + ws.length ≤ 1000000)
    (h : ∀ D h', Fr h₀ L h' m → News h₀ L h' ((D, W.listOf (vs ++ ws).toArray 0) :: news) → AllNe D news → Q (.ref D) { s with heap := h' }) : wpAny (model pw w) A (binaryOp .Add (.ref a) (.ref b)) Q E s :=
  kmk_add_lit F N ha hb rfl (fun D h' F' N' l1 => h D h' F' N' (allNe_lt l1)) (by rw [sizeLine_eq]; show vs.length + ws.length ≤ _; omega)
end
section
variable {w : World} {A : Around} {s : Shared} {E : Value → Shared → Prop} {Q : Value → Shared → Prop}
theorem itemLast {value slice : PySem.Expr} {l : Addr} {vs : List Value} {u : Tok} {v : Value}
    (hl : s.heap.IsList l vs.toArray) (h0 : 1 ≤ vs.length) (hx : vs[vs.length - 1]? = some v) (h : Q v s)
    (hs : subscripted slice false (.ref l) (.int (-1) u) = operate [.ref l, .int (-1) u] (getItem (.ref l) (.int (-1) u)) := by with_unfolding_all rfl) :
    wpAny (model pw w) A (subscriptTail value slice (.ref l) (.int (-1) u)) Q E s :=
  tail_any hl.typeIs slot_list_getitem.lookup (wpAny_getItem_list_neg hl (by decide) (by rw [List.size_toArray]; omega) (by decide) (by rw [List.size_toArray, show ((-1 : Int) + (vs.length : Int)).toNat = vs.length - 1 by omega]; simpa using hx) h) hs
end
section
variable {prog : Program} {w : World} {A : Around} {h₀ : Heap} {L : Addr} {m : Str → Option Value} {env : Env} {ct elt : PySem.Expr} {x : Str} {scope : Scope} {cl : List (Str × Addr)} {s : Shared} {S : List (Addr × Obj) → Prop} {P : Nat → Value → Prop} {Fin : List Value → List (Addr × Obj) → Prop}
/-- a comprehension with a test that leaves the ledger as it stood -/
theorem compIf (R : Nat → List Value → Prop) {n : Nat} {news : List (Addr × Obj)} (h0 : R 0 [])
    (turn : ∀ i ys, i < n → R i ys → ∀ v I oI C oC D m₂ h tk (E' : Value → Shared → Prop), P i v → LCg.NsObj oC m₂ → m₂ x = some v → Fr h₀ L h m → News h₀ L h ((I, oI) :: (C, oC) :: (D, LCg.lst ys) :: news) → LCg.Off3 I C D news → ((@Ne Nat I C) ∧ (@Ne Nat I D) ∧ (@Ne Nat C D)) →
      ∀ QC QD : Value → Shared → Prop, (∀ y s', LCg.CompEnd h₀ L m { s with heap := h, toks := tk } I oI C oC D (LCg.lst ys) S (fun y nw' => nw' = news ∧ R (i + 1) (ys ++ [y])) y s' → QC y s') → (∀ y s', LCg.CompEnd h₀ L m { s with heap := h, toks := tk } I oI C oC D (LCg.lst ys) S (fun _ nw' => nw' = news ∧ R (i + 1) ys) y s' → QD y s') →
      wpAny (model prog w) A (isTrue ct (compEnvC scope cl C env) (eval ct (compEnvC scope cl C env))) (fun ok s' => if ok = true then
        wpAny (model prog w) A (eval elt (compEnvC scope cl C env)) QC E' s'
        else QD Value.none s') E' { s with heap := h, toks := tk })
    (fin : ∀ ys, R n ys → Fin ys news) : LCt.CompRestT prog w A h₀ L m env ct elt x scope cl s S P Fin n 0 [] news := by
  have gen : ∀ k i ys, i + k = n → R i ys → LCt.CompRestT prog w A h₀ L m env ct elt x scope cl s S P Fin k i ys news := by
    intro k
    induction k with
    | zero => intro i ys e hR; exact LCt.CompRestT.zero (fin ys (by simpa [← e] using hR))
    | succ k ih =>
      intro i ys e hR
      refine LCt.CompRestT.succ fun v I oI C oC D m₂ h tk E' hP hC hx F N off ne => ?_
      refine wpAny_mono (turn i ys (by omega) hR v I oI C oC D m₂ h tk E' hP hC hx F N off ne _ _ (fun _ _ h => h) fun _ _ h => h) (fun ok s₂ hy => ?_) fun _ _ e => e
      cases ok with
      | true =>
        simp only [if_true] at hy ⊢
        refine wpAny_mono hy (fun y s₃ hz => ?_) fun _ _ e => e
        exact compEnd_mono hz fun y nw' hi => by obtain ⟨rfl, hi⟩ := hi; exact ih _ _ (by omega) hi
      | false =>
        simp only [Bool.false_eq_true, if_false] at hy ⊢
        exact compEnd_mono hy fun y nw' hi => by obtain ⟨rfl, hi⟩ := hi; exact ih _ _ (by omega) hi
  exact gen n 0 [] (by omega) h0
end
section
variable {w : World} {A : Around} {E : Value → Shared → Prop} {s : Shared} {h₀ : Heap} {L l : Addr} {m : Str → Option Value} {news : List (Addr × Obj)} {vs : List Value} {Q : Value → Shared → Prop}
theorem listCopyL (F : Fr h₀ L s.heap m) (N : News h₀ L s.heap news) (hl : s.heap.IsList l vs.toArray) (hz : vs.length ≤ 1000000)
    (h : ∀ D c h', Fr h₀ L h' m → News h₀ L h' ((D, W.listOf vs.toArray c) :: news) → AllNe D news → Q (.ref D) { s with heap := h' }) : wpAny (model pw w) A (call (.type "list") [.ref l]) Q E s :=
  list_copyK F N hl (fun D c h' F' N' l1 => h D c h' F' N' (allNe_lt l1)) (by rw [List.size_toArray, sizeLine_eq]; omega)
end
/-- a frame's map: as it was but for the names that a loop stores -/
noncomputable def ov (u m₀ : Str → Option Value) : List Str → Str → Option Value
  | [], z => m₀ z
  | n :: r, z => if z = n then u z else ov u m₀ r z
theorem ov_eq {u m₀ : Str → Option Value} {x z : Str} (hx : z ≠ x) : ∀ {st : List Str}, (∀ z, z ∉ x :: st → u z = m₀ z) → ov u m₀ st z = u z := by
  intro st h
  have go : ∀ r : List Str, (∀ n ∈ r, n ∈ st) → (∀ n ∈ st, n ∉ r → z ≠ n) → ov u m₀ r z = u z := by
    intro r
    induction r with
    | nil =>
      intro _ h2
      exact (h z (by
        intro hm
        rcases List.mem_cons.mp hm with e | hm
        · exact hx e
        · exact h2 z hm (by simp) rfl)).symm
    | cons n r ih =>
      intro h1 h2
      show (if z = n then u z else ov u m₀ r z) = u z
      by_cases e : z = n
      · rw [if_pos e]
      · rw [if_neg e]
        refine ih (fun k hk => h1 k (List.mem_cons_of_mem _ hk)) fun k hk hn => ?_
        by_cases e2 : k = n
        · subst e2; exact e
        · exact h2 k hk (by simp [e2, hn])
  exact go st (fun _ h => h) (fun n hn hnn => absurd hn hnn)
noncomputable def TurnEnd (h₀ : Heap) (L : Addr) (st : List Str) (m₀ : Str → Option Value) (J : (Str → Option Value) → List (Addr × Obj) → Prop) (I : Addr) (oI : Obj) (s₁ : Shared) (Q : Flow → Shared → Prop) (f : Flow) (s₂ : Shared) : Prop := match f with
  | .ret v => Q (.ret v) s₂
  | .brk => Q .next s₂
  | _ => ∃ h' tk' m' nw', s₂ = { s₁ with heap := h', toks := tk' } ∧ Fr h₀ L h' m' ∧ News h₀ L h' ((I, oI) :: nw') ∧ AllNe I nw' ∧ (∀ z, z ∉ st → m' z = m₀ z) ∧ J m' nw'
theorem turnRet {h₀ : Heap} {L : Addr} {st : List Str} {m₀ : Str → Option Value} {J : (Str → Option Value) → List (Addr × Obj) → Prop} {I : Addr} {oI : Obj} {s₁ : Shared} {Q : Flow → Shared → Prop} {v : Value} {s₂ : Shared} (h : Q (.ret v) s₂) : TurnEnd h₀ L st m₀ J I oI s₁ Q (.ret v) s₂ := h
theorem allNe_mem {a : Addr} : ∀ {l : List (Addr × Obj)}, AllNe a l → ∀ p ∈ l, p.1 ≠ a
  | [], _, _, h => nomatch h
  | _ :: _, x, p, h => by
    rcases List.mem_cons.mp h with rfl | h
    · exact x.1
    · exact allNe_mem x.2 p h
section
variable {prog : Program} {w : World} {A : Around} {E : Value → Shared → Prop} {s : Shared} {env : Env} {h₀ : Heap} {x : Str} {body : List Stmt} {Q : Flow → Shared → Prop}
theorem TurnEnd.intro {L : Addr} {st : List Str} {m₀ m' : Str → Option Value} {J : (Str → Option Value) → List (Addr × Obj) → Prop} {I : Addr} {oI : Obj} {s₁ : Shared} {h' : Heap} {tk' : Nat} {all : List (Addr × Obj)} (f : Flow) (hf : f = .next ∨ f = .cont) (F : Fr h₀ L h' m') (N : News h₀ L h' all)
    (nw' : List (Addr × Obj)) (sub : ∀ p ∈ (I, oI) :: nw', p ∈ all) (off : AllNe I nw') (hm : ∀ z, z ∉ st → m' z = m₀ z) (hJ : J m' nw') : TurnEnd h₀ L st m₀ J I oI s₁ Q f { s₁ with heap := h', toks := tk' } := by
  rcases hf with rfl | rfl <;> exact ⟨h', tk', m', nw', rfl, F, fun p hp => N p (sub p hp), off, hm, hJ⟩
theorem forW {I : Addr} {fp : List Addr} {n : Nat} {P : Nat → Value → Prop} {St : Nat → Heap → Prop} {m₀ : Str → Option Value} {news : List (Addr × Obj)} (st : List Str) (J : Nat → (Str → Option Value) → List (Addr × Obj) → Prop)
    (W : Walks prog w A I fp [I] n P St) (hfp : ∀ b ∈ fp, b ≠ I → ∃ o, h₀.get? b = some o) (hLI : env.locals ≠ I) (hLf : env.locals ∉ fp) (hI : h₀.get? I = none) (hnI : ∀ p ∈ news, p.1 ≠ I) (hIs : ∀ i h, St i h → ∃ o, h.get? I = some o)
    (hst : St 0 s.heap) (F : Fr h₀ env.locals s.heap m₀) (N : News h₀ env.locals s.heap news) (hj : J 0 m₀ news)
    (turn : ∀ i v u nw oI h tk, i < n → P i v → J i u nw → Fr h₀ env.locals h (fun y => if y = x then some v else ov u m₀ st y) → News h₀ env.locals h ((I, oI) :: nw) → AllNe I nw →
      wpAny (model prog w) A (execs body env) (TurnEnd h₀ env.locals (x :: st) m₀ (J (i + 1)) I oI { s with heap := h, toks := tk } Q) E { s with heap := h, toks := tk })
    (done : ∀ u nw h tk, J n u nw → Fr h₀ env.locals h (ov u m₀ (x :: st)) → News h₀ env.locals h nw → Q .next { s with heap := h, toks := tk }) :
    LoopAtV prog w A h₀ env x body Q E (.ref I) s := by
  refine ⟨I, fp, [I], n, P, St, m₀, news, fun i m nw => (∀ z, z ∉ x :: st → m z = m₀ z) ∧ J i m nw, rfl, W, hLf, ?_, ?_, hst, F, N, ⟨fun _ _ => rfl, hj⟩, ?_, ?_⟩
  · intro b hb; rw [List.mem_singleton.mp hb]; exact hI
  · intro p hp hb; exact hnI p hp (List.mem_singleton.mp hb)
  · rintro i v m₁ news₁ s₁ own hJ9
    refine letG ?_
    intro P9
    obtain ⟨h, tk, rfl⟩ := hJ9
    k_unfold
    try clear P9
    rintro hi hP ⟨hm, hJ⟩ hoff hown hget hall hSt F₁ N₁
    obtain ⟨oI, heI⟩ := hIs _ _ hSt
    have hIo : (I, oI) ∈ own := hall I (W.sub I (List.mem_singleton.mpr rfl)) hI oI heI
    have em : (fun y => if y = x then some v else m₁ y) = fun y => if y = x then some v else ov m₁ m₀ st y := by
      funext y
      by_cases e : y = x
      · simp [e]
      · simp only [if_neg e]; exact (ov_eq e hm).symm
    rw [em] at F₁
    have N₂ : News h₀ env.locals h ((I, oI) :: news₁) := fun p hp => by
      rcases List.mem_cons.mp hp with rfl | hp
      · exact N₁ _ (List.mem_append_left _ hIo)
      · exact N₁ _ (List.mem_append_right _ hp)
    refine wpAny_mono (turn i v m₁ news₁ oI h tk hi hP hJ F₁ N₂ (allNe_of fun p hp e => hoff p hp (by rw [e]; exact List.mem_singleton.mpr rfl))) (fun f s₂ p => ?_) fun _ _ e => e
    have fin : (∃ h' tk' m' nw', s₂ = { { s with heap := h, toks := tk } with heap := h', toks := tk' } ∧ Fr h₀ env.locals h' m' ∧ News h₀ env.locals h' ((I, oI) :: nw') ∧ AllNe I nw' ∧ (∀ z, z ∉ x :: st → m' z = m₀ z) ∧ J (i + 1) m' nw') →
        LoopStepU h₀ env.locals [I] own (fun m nw => (∀ z, z ∉ x :: st → m z = m₀ z) ∧ J (i + 1) m nw) { s with heap := h, toks := tk } .next s₂ := by
      rintro hJ9
      refine letG ?_
      intro P9
      obtain ⟨h', tk', m', nw', e, F', N', hne, hm', hJ'⟩ := hJ9
      k_unfold
      try clear P9
      refine ⟨rfl, h', tk', m', nw', e, F', fun p hp => ?_, fun p hp hq => allNe_mem hne p hp (List.mem_singleton.mp hq), hm', hJ'⟩
      rcases List.mem_append.mp hp with hp | hp
      · by_cases ep : p.1 = I
        · have e1 := hget p hp
          rw [ep] at e1
          have e2 : some p.2 = some oI := e1.symm.trans heI
          have : p = (I, oI) := Prod.ext ep (Option.some.inj e2)
          rw [this]
          exact N' _ (List.mem_cons_self ..)
        · obtain ⟨o, ho⟩ := hfp p.1 (hown p hp) ep
          have z := (N₁ p (List.mem_append_left _ hp)).2.2
          rw [ho] at z
          cases z
      · exact N' _ (List.mem_cons_of_mem _ hp)
    cases f with
    | ret v => exact .ret p
    | brk => exact .brk p
    | next => exact .next (fin p)
    | cont => exact .cont (fin p)
  · rintro h' tk m' news' F' N' _ ⟨hm, hJ⟩
    refine done m' news' h' tk hJ ?_ N'
    have : ov m' m₀ (x :: st) = m' := by
      funext z
      show (if z = x then m' z else ov m' m₀ st z) = m' z
      by_cases e : z = x
      · rw [if_pos e]
      · rw [if_neg e]; exact ov_eq e hm
    rw [this]; exact F'
/-- for x in a list of the base -/
theorem forList {l : Addr} {vs : List Value} {m₀ : Str → Option Value} {news : List (Addr × Obj)} (st : List Str) (J : Nat → (Str → Option Value) → List (Addr × Obj) → Prop)
    (hh : A.handled = none) (hl : h₀.IsList l vs.toArray) (F : Fr h₀ env.locals s.heap m₀) (N : News h₀ env.locals s.heap news) (hj : J 0 m₀ news)
    (turn : ∀ i v u nw I oI h tk, vs[i]? = some v → J i u nw → Fr h₀ env.locals h (fun y => if y = x then some v else ov u m₀ st y) → News h₀ env.locals h ((I, oI) :: nw) → AllNe I nw →
      wpAny (model prog w) A (execs body env) (TurnEnd h₀ env.locals (x :: st) m₀ (J (i + 1)) I oI { s with heap := h, toks := tk } Q) E { s with heap := h, toks := tk })
    (done : ∀ u nw h tk, J vs.length u nw → Fr h₀ env.locals h (ov u m₀ (x :: st)) → News h₀ env.locals h nw → Q .next { s with heap := h, toks := tk }) :
    wpAny (model prog w) A (pyIter (.ref l)) (fun it s₂ => LoopAtV prog w A h₀ env x body Q E it s₂) E s := by
  have hls : s.heap.IsList l vs.toArray := hl.at fun o e => F.keep l o e
  refine letG ?_
  intro P9
  obtain ⟨ol, hol, _⟩ := id hl
  k_unfold
  try clear P9
  have hlt : l < h₀.objs.size := Heap.lt_size hol
  have hne : l ≠ s.heap.objs.size := Nat.ne_of_lt (Nat.lt_trans (Nat.lt_of_lt_of_le hlt F.above) F.ns.lt)
  refine wpAny_pyIter_list hls ?_
  have W := Walks.list (prog := prog) (w := w) hh s.heap.objs.size l hne vs.toArray
  rw [List.size_toArray] at W
  refine forW st J W ?_ ?_ ?_ ?_ ?_ ?_ ⟨⟨_, Heap.get?_push_size _ rfl, rfl, rfl⟩, hls.at fun o e => Heap.get?_push_of_some _ e⟩ (F.push _) (fun p hp => ⟨Heap.get?_push_of_some _ (N p hp).1, (N p hp).2⟩) hj ?_ ?_
  · intro b hb hne'
    rcases List.mem_cons.mp hb with e | hb
    · exact absurd e hne'
    · rw [List.mem_singleton.mp hb]; exact ⟨_, hol⟩
  · exact Nat.ne_of_lt F.ns.lt
  · intro hm
    rcases List.mem_cons.mp hm with e | hm
    · exact absurd F.ns.lt (e ▸ Nat.lt_irrefl _)
    · exact absurd (Nat.lt_of_lt_of_le hlt F.above) ((List.mem_singleton.mp hm) ▸ Nat.lt_irrefl _)
  · exact next_is_new F
  · intro p hp e
    exact absurd (Heap.lt_size (N p hp).1) (e ▸ Nat.lt_irrefl _)
  · rintro i h ⟨⟨o, e, _⟩, _⟩; exact ⟨o, e⟩
  · intro i v u nw oI h tk hi hP hJ F₁ N₁ hne'
    exact turn i v u nw _ oI h tk (by simpa using hP) hJ F₁ N₁ hne'
  · intro u nw h tk hJ F₁ N₁
    exact done u nw h tk hJ F₁ N₁
/-- for x in range(a, b) -/
theorem forRange {r : Addr} {a b : Int} {t₀ u₀ v₀ : Tok} {n : Nat} {m₀ : Str → Option Value} {news : List (Addr × Obj)} (st : List Str) (J : Nat → (Str → Option Value) → List (Addr × Obj) → Prop)
    (hh : A.handled = none) (hr : IsRange s.heap r a b 1 t₀ u₀ v₀) (hsmall : Builtin.Range.small a b 1 = true) (hn : Builtin.Range.rangeSize a b 1 = (n : Int)) (F : Fr h₀ env.locals s.heap m₀) (N : News h₀ env.locals s.heap news) (hj : J 0 m₀ news)
    (turn : ∀ i t u nw I oI h tk, i < n → J i u nw → Fr h₀ env.locals h (fun y => if y = x then some (.int (a + (i : Int)) t) else ov u m₀ st y) → News h₀ env.locals h ((I, oI) :: nw) → AllNe I nw →
      wpAny (model prog w) A (execs body env) (TurnEnd h₀ env.locals (x :: st) m₀ (J (i + 1)) I oI { s with heap := h, toks := tk } Q) E { s with heap := h, toks := tk })
    (done : ∀ u nw h tk, J n u nw → Fr h₀ env.locals h (ov u m₀ (x :: st)) → News h₀ env.locals h nw → Q .next { s with heap := h, toks := tk }) :
    wpAny (model prog w) A (pyIter (.ref r)) (fun it s₂ => LoopAtV prog w A h₀ env x body Q E it s₂) E s := by
  refine wpAny_pyIter_range hr hsmall ?_
  have W : Walks prog w A s.heap.objs.size [s.heap.objs.size] [s.heap.objs.size] n (fun i v => i < n ∧ ∃ t, v = .int (a + i * 1) t)
      (fun i h => IsRangeIter h s.heap.objs.size (a + (i : Nat) * 1) ((n : Int) - (i : Nat)) 1) := (Walks.range hh _ a 1 n).bound
  refine forW st J W ?_ ?_ ?_ ?_ ?_ ?_ (by show IsRangeIter _ _ _ _ _; rw [hn]; simpa using Heap.get?_push_size _ rfl) (F.push _) (fun p hp => ⟨Heap.get?_push_of_some _ (N p hp).1, (N p hp).2⟩) hj ?_ ?_
  · intro b hb hne'
    exact absurd (List.mem_singleton.mp hb) hne'
  · exact Nat.ne_of_lt F.ns.lt
  · intro hm
    exact absurd F.ns.lt ((List.mem_singleton.mp hm) ▸ Nat.lt_irrefl _)
  · exact next_is_new F
  · intro p hp e
    exact absurd (Heap.lt_size (N p hp).1) (e ▸ Nat.lt_irrefl _)
  · intro i h st'; exact ⟨_, st'⟩
  · rintro i v u nw oI h tk hi hJ9
    refine letG ?_
    intro P9
    obtain ⟨_, t, rfl⟩ := hJ9
    k_unfold
    try clear P9
    rintro hJ F₁ N₁ hne'
    rw [Int.mul_one] at F₁
    exact turn i t u nw _ oI h tk hi hJ F₁ N₁ hne'
  · exact done
/-- for x in range(a, b, c) -/
theorem forRangeS {r : Addr} {a b c : Int} {t₀ u₀ v₀ : Tok} {n : Nat} {m₀ : Str → Option Value} {news : List (Addr × Obj)} (st : List Str) (J : Nat → (Str → Option Value) → List (Addr × Obj) → Prop)
    (hh : A.handled = none) (hr : IsRange s.heap r a b c t₀ u₀ v₀) (hsmall : Builtin.Range.small a b c = true) (hn : Builtin.Range.rangeSize a b c = (n : Int)) (F : Fr h₀ env.locals s.heap m₀) (N : News h₀ env.locals s.heap news) (hj : J 0 m₀ news)
    (turn : ∀ i t u nw I oI h tk, i < n → J i u nw → Fr h₀ env.locals h (fun y => if y = x then some (.int (a + (i : Int) * c) t) else ov u m₀ st y) → News h₀ env.locals h ((I, oI) :: nw) → AllNe I nw →
      wpAny (model prog w) A (execs body env) (TurnEnd h₀ env.locals (x :: st) m₀ (J (i + 1)) I oI { s with heap := h, toks := tk } Q) E { s with heap := h, toks := tk })
    (done : ∀ u nw h tk, J n u nw → Fr h₀ env.locals h (ov u m₀ (x :: st)) → News h₀ env.locals h nw → Q .next { s with heap := h, toks := tk }) :
    wpAny (model prog w) A (pyIter (.ref r)) (fun it s₂ => LoopAtV prog w A h₀ env x body Q E it s₂) E s := by
  refine wpAny_pyIter_range hr hsmall ?_
  have W : Walks prog w A s.heap.objs.size [s.heap.objs.size] [s.heap.objs.size] n (fun i v => i < n ∧ ∃ t, v = .int (a + i * c) t)
      (fun i h => IsRangeIter h s.heap.objs.size (a + (i : Nat) * c) ((n : Int) - (i : Nat)) c) := (Walks.range hh _ a c n).bound
  refine forW st J W ?_ ?_ ?_ ?_ ?_ ?_ (by show IsRangeIter _ _ _ _ _; rw [hn]; simpa using Heap.get?_push_size _ rfl) (F.push _) (fun p hp => ⟨Heap.get?_push_of_some _ (N p hp).1, (N p hp).2⟩) hj ?_ ?_
  · intro b hb hne'
    exact absurd (List.mem_singleton.mp hb) hne'
  · exact Nat.ne_of_lt F.ns.lt
  · intro hm
    exact absurd F.ns.lt ((List.mem_singleton.mp hm) ▸ Nat.lt_irrefl _)
  · exact next_is_new F
  · intro p hp e
    exact absurd (Heap.lt_size (N p hp).1) (e ▸ Nat.lt_irrefl _)
  · intro i h st'; exact ⟨_, st'⟩
  · rintro i v u nw oI h tk hi hJ9
    refine letG ?_
    intro P9
    obtain ⟨_, t, rfl⟩ := hJ9
    k_unfold
    try clear P9
    rintro hJ F₁ N₁ hne'
    exact turn i t u nw _ oI h tk hi hJ F₁ N₁ hne'
  · exact done
theorem forListL0 {L : Addr} {l : Addr} {vs : List Value} {m₀ : Str → Option Value} {news : List (Addr × Obj)} (st : List Str) (J : Nat → (Str → Option Value) → List (Addr × Obj) → Prop)
    (hh : A.handled = none) (hl : h₀.IsList l vs.toArray) (F : Fr h₀ L s.heap m₀) (N : News h₀ L s.heap news) (hj : J 0 m₀ news)
    (turn : ∀ i v u nw I oI h tk, vs[i]? = some v → J i u nw → Fr h₀ L h (fun y => if y = x then some v else ov u m₀ st y) → News h₀ L h ((I, oI) :: nw) → AllNe I nw →
      wpAny (model prog w) A (execs body env) (TurnEnd h₀ L (x :: st) m₀ (J (i + 1)) I oI { s with heap := h, toks := tk } Q) E { s with heap := h, toks := tk })
    (done : ∀ u nw h tk, J vs.length u nw → Fr h₀ L h (ov u m₀ (x :: st)) → News h₀ L h nw → Q .next { s with heap := h, toks := tk })
    (hL : env.locals = L := by with_unfolding_all rfl) :
    wpAny (model prog w) A (pyIter (.ref l)) (fun it s₂ => LoopAtV prog w A h₀ env x body Q E it s₂) E s := by
  subst hL
  exact forList st J hh hl F N hj turn done
theorem forListL {L : Addr} {l : Addr} {vs : List Value} {m₀ : Str → Option Value} {news : List (Addr × Obj)} (st : List Str) (J : Nat → (Str → Option Value) → List (Addr × Obj) → Prop)
    (hh : A.handled = none) (hl : h₀.IsList l vs.toArray) (F : Fr h₀ L s.heap m₀) (N : News h₀ L s.heap news) (hj : J 0 m₀ news)
    (turn : ∀ i v u nw I oI h tk, vs[i]? = some v → J i u nw → Fr h₀ L h (fun y => if y = x then some v else ov u m₀ st y) → News h₀ L h ((I, oI) :: nw) → AllNe I nw →
      ∀ QT : Flow → Shared → Prop, (∀ f s', TurnEnd h₀ L (x :: st) m₀ (J (i + 1)) I oI { s with heap := h, toks := tk } Q f s' → QT f s') → wpAny (model prog w) A (execs body env) QT E { s with heap := h, toks := tk })
    (done : ∀ u nw h tk, J vs.length u nw → Fr h₀ L h (ov u m₀ (x :: st)) → News h₀ L h nw → Q .next { s with heap := h, toks := tk })
    (hL : env.locals = L := by with_unfolding_all rfl) :
    wpAny (model prog w) A (pyIter (.ref l)) (fun it s₂ => LoopAtV prog w A h₀ env x body Q E it s₂) E s := 
  forListL0 st J hh hl F N hj (fun i v u nw I oI h tk a b c d e => turn i v u nw I oI h tk a b c d e _ fun _ _ h => h) done hL
theorem forRangeSL0 {L : Addr} {r : Addr} {a b c : Int} {t₀ u₀ v₀ : Tok} {n : Nat} {m₀ : Str → Option Value} {news : List (Addr × Obj)} (st : List Str) (J : Nat → (Str → Option Value) → List (Addr × Obj) → Prop)
    (hh : A.handled = none) (hr : IsRange s.heap r a b c t₀ u₀ v₀) (hsmall : Builtin.Range.small a b c = true) (hn : Builtin.Range.rangeSize a b c = (n : Int)) (F : Fr h₀ L s.heap m₀) (N : News h₀ L s.heap news) (hj : J 0 m₀ news)
    (turn : ∀ i t u nw I oI h tk, i < n → J i u nw → Fr h₀ L h (fun y => if y = x then some (.int (a + (i : Int) * c) t) else ov u m₀ st y) → News h₀ L h ((I, oI) :: nw) → AllNe I nw →
      wpAny (model prog w) A (execs body env) (TurnEnd h₀ L (x :: st) m₀ (J (i + 1)) I oI { s with heap := h, toks := tk } Q) E { s with heap := h, toks := tk })
    (done : ∀ u nw h tk, J n u nw → Fr h₀ L h (ov u m₀ (x :: st)) → News h₀ L h nw → Q .next { s with heap := h, toks := tk })
    (hL : env.locals = L := by with_unfolding_all rfl) :
    wpAny (model prog w) A (pyIter (.ref r)) (fun it s₂ => LoopAtV prog w A h₀ env x body Q E it s₂) E s := by
  subst hL
  exact forRangeS st J hh hr hsmall hn F N hj turn done
theorem forRangeSL {L : Addr} {r : Addr} {a b c : Int} {t₀ u₀ v₀ : Tok} {n : Nat} {m₀ : Str → Option Value} {news : List (Addr × Obj)} (st : List Str) (J : Nat → (Str → Option Value) → List (Addr × Obj) → Prop)
    (hh : A.handled = none) (hr : IsRange s.heap r a b c t₀ u₀ v₀) (hsmall : Builtin.Range.small a b c = true) (hn : Builtin.Range.rangeSize a b c = (n : Int)) (F : Fr h₀ L s.heap m₀) (N : News h₀ L s.heap news) (hj : J 0 m₀ news)
    (turn : ∀ i t u nw I oI h tk, i < n → J i u nw → Fr h₀ L h (fun y => if y = x then some (.int (a + (i : Int) * c) t) else ov u m₀ st y) → News h₀ L h ((I, oI) :: nw) → AllNe I nw →
      ∀ QT : Flow → Shared → Prop, (∀ f s', TurnEnd h₀ L (x :: st) m₀ (J (i + 1)) I oI { s with heap := h, toks := tk } Q f s' → QT f s') → wpAny (model prog w) A (execs body env) QT E { s with heap := h, toks := tk })
    (done : ∀ u nw h tk, J n u nw → Fr h₀ L h (ov u m₀ (x :: st)) → News h₀ L h nw → Q .next { s with heap := h, toks := tk })
    (hL : env.locals = L := by with_unfolding_all rfl) :
    wpAny (model prog w) A (pyIter (.ref r)) (fun it s₂ => LoopAtV prog w A h₀ env x body Q E it s₂) E s := 
  forRangeSL0 st J hh hr hsmall hn F N hj (fun i v u nw I oI h tk a b c d e => turn i v u nw I oI h tk a b c d e _ fun _ _ h => h) done hL
end
/-- a mark at which the walk stops -/
noncomputable def Halt (P : Prop) : Prop := P
theorem Halt.of {P : Prop} (h : P) : Halt P := h
theorem Halt.out {P : Prop} (h : Halt P) : P := h
section
variable {prog : Program} {w : World} {A : Around} {E : Value → Shared → Prop} {s : Shared} {env : Env} {h₀ : Heap} {x : Str} {body : List Stmt} {Q : Flow → Shared → Prop}
theorem forHalt {L : Addr} {h : Heap} {m : Str → Option Value} (_F : Fr h₀ L h m) {px pos : Pos} {iter : PySem.Expr} (hx : env.kindOf x = some .local)
    (hp : (env.scope.kind == .class || (env.scope.kind == .module && env.locals != env.globals)) = false)
    (hg : wpAny (model prog w) A (eval iter env) (fun xv s₁ => Halt (wpAny (model prog w) A (pyIter xv) (fun it s₂ => LoopAtV prog w A h₀ env x body Q E it s₂) E s₁)) E s)
    (hs : ∀ x, foldedSetIterable iter env x = pure x := by intro _; rfl)
    (hE : PassesOwn (model prog w) A env E := by passes_own) :
    wpAny (model prog w) A (exec (.For (.Name x px) iter body [] pos) env) Q E s := For_invV h₀ hx hp hg hs hE
end

theorem TurnEnd.intro3 {h₀ : Heap} {L : Addr} {st : List Str} {m₀ m' : Str → Option Value} {J : (Str → Option Value) → List (Addr × Obj) → Prop} {I : Addr} {oI : Obj} {s₁ : Shared} {h' : Heap} {tk' : Nat} {all : List (Addr × Obj)} {Q : Flow → Shared → Prop} (f : Flow) (hf : f = .next ∨ f = .cont) (F : Fr h₀ L h' m') (N : News h₀ L h' all)
    (hm : ∀ z, z ∉ st → m' z = m₀ z) (h : ∃ nw', J m' nw' ∧ (∀ p ∈ (I, oI) :: nw', p ∈ all) ∧ AllNe I nw') : TurnEnd h₀ L st m₀ J I oI s₁ Q f { s₁ with heap := h', toks := tk' } :=
  let ⟨nw', hJ, sub, off⟩ := h
  TurnEnd.intro f hf F N nw' sub off hm hJ
theorem ov1 {u m₀ : Str → Option Value} {a : Str} {x : Option Value} (ha : u a = x) : ov u m₀ [a] = fun z => if z = a then x else m₀ z := by
  funext z; show (if z = a then u z else m₀ z) = _; by_cases e : z = a
  · rw [if_pos e, if_pos e, e, ha]
  · rw [if_neg e, if_neg e]
theorem ovC {u m₀ : Str → Option Value} {a : Str} {r : List Str} {x : Option Value} (ha : u a = x) : ov u m₀ (a :: r) = fun z => if z = a then x else ov u m₀ r z := by
  funext z; show (if z = a then u z else ov u m₀ r z) = _; by_cases e : z = a
  · rw [if_pos e, if_pos e, e, ha]
  · rw [if_neg e, if_neg e]
theorem ov2 {u m₀ : Str → Option Value} {a b : Str} {x y : Option Value} (ha : u a = x) (hb : u b = y) : ov u m₀ [a, b] = fun z => if z = a then x else if z = b then y else m₀ z := by rw [ovC ha, ov1 hb]
theorem ov3 {u m₀ : Str → Option Value} {a b c : Str} {x y t : Option Value} (ha : u a = x) (hb : u b = y) (hc : u c = t) : ov u m₀ [a, b, c] = fun z => if z = a then x else if z = b then y else if z = c then t else m₀ z := by rw [ovC ha, ov2 hb hc]
noncomputable def WTurn (h₀ : Heap) (L : Addr) (st : List Str) (m₀ : Str → Option Value) (J : Nat → (Str → Option Value) → List (Addr × Obj) → Prop) (n : Nat) (s₁ : Shared) (f : Flow) (s₂ : Shared) : Prop :=
  f = .next ∧ ∃ h' tk' m' nw', s₂ = { s₁ with heap := h', toks := tk' } ∧ Fr h₀ L h' m' ∧ News h₀ L h' nw' ∧ (∀ z, z ∉ st → m' z = m₀ z) ∧ ∃ n', n' < n ∧ J n' m' nw'
theorem WTurn.intro {h₀ h' : Heap} {L : Addr} {st : List Str} {m₀ m' : Str → Option Value} {J : Nat → (Str → Option Value) → List (Addr × Obj) → Prop} {n tk' : Nat} {s₁ : Shared} {all : List (Addr × Obj)} (F : Fr h₀ L h' m') (N : News h₀ L h' all)
    (hm : ∀ z, z ∉ st → m' z = m₀ z) (h : ∃ n' nw', n' < n ∧ J n' m' nw' ∧ ∀ p ∈ nw', p ∈ all) : WTurn h₀ L st m₀ J n s₁ .next { s₁ with heap := h', toks := tk' } :=
  let ⟨n', nw', hn, hJ, sub⟩ := h
  ⟨rfl, h', tk', m', nw', rfl, F, fun p hp => N p (sub p hp), hm, n', hn, hJ⟩
theorem ov_self {u m₀ : Str → Option Value} : ∀ {st : List Str}, (∀ z, z ∉ st → u z = m₀ z) → u = ov u m₀ st
  | [], h => funext fun z => h z (by simp)
  | x :: st, h => by
    funext z
    show u z = if z = x then u z else ov u m₀ st z
    by_cases e : z = x
    · rw [if_pos e]
    · rw [if_neg e]; exact (ov_eq e h).symm
section
variable {prog : Program} {w : World} {A : Around} {E : Value → Shared → Prop} {s : Shared} {env : Env} {h₀ : Heap} {L : Addr} {Q : Flow → Shared → Prop}
/-- while, by a measure and the names that the body stores -/
theorem whileI {test : PySem.Expr} {body : List Stmt} {pos : Pos} {m₀ : Str → Option Value} {news : List (Addr × Obj)} (st : List Str) (J : Nat → (Str → Option Value) → List (Addr × Obj) → Prop) {n₀ : Nat}
    (F : Fr h₀ L s.heap m₀) (N : News h₀ L s.heap news) (hj : J n₀ m₀ news)
    (turn : ∀ n u nw h tk, J n u nw → Fr h₀ L h (ov u m₀ st) → News h₀ L h nw →
      wpAny (model prog w) A (isTrue test env (eval test env)) (fun b s₂ => if b = true then wpAny (model prog w) A (execs body env) (WTurn h₀ L st m₀ J n { s with heap := h, toks := tk }) E s₂ else Q .next s₂) E { s with heap := h, toks := tk })
    (hE : PassesOwn (model prog w) A env E := by passes_own) :
    wpAny (model prog w) A (exec (.While test body [] pos) env) Q E s := by
  refine While_inv (fun n m nw => (∀ z, z ∉ st → m z = m₀ z) ∧ J n m nw) F N ⟨fun _ _ => rfl, hj⟩ ?_ hE
  rintro n m₁ nw h tk F₁ N₁ ⟨hm, hJ⟩
  have F₂ : Fr h₀ L h (ov m₁ m₀ st) := ov_self hm ▸ F₁
  refine wpAny_mono (turn n m₁ nw h tk hJ F₂ N₁) (fun b s₂ hb => ?_) fun _ _ e => e
  cases b with
  | false => simpa using hb
  | true =>
    simp only [if_true] at hb ⊢
    refine wpAny_mono hb (fun f s₃ h₃ => ?_) fun _ _ e => e
    refine letG ?_
    intro P9
    obtain ⟨rfl, h', tk', m', nw', rfl, F', N', hm', n', hn, hJ'⟩ := h₃
    k_unfold
    try clear P9
    exact ⟨rfl, h', tk', m', nw', n', rfl, F', N', hn, hm', hJ'⟩
end
theorem rangeLen_size (n : Nat) : Builtin.Range.rangeSize 0 n 1 = (n : Int) := by rw [rangeSize_one]; split <;> omega
theorem rangeLen_small {n : Nat} (h : n ≤ 1000000) : Builtin.Range.small 0 n 1 = true := by
  unfold Builtin.Range.small
  rw [rangeLen_size]
  simp [Builtin.Range.rangeFitsLong]
  omega
section
variable {prog : Program} {w : World} {A : Around} {E : Value → Shared → Prop} {s : Shared} {env : Env} {h₀ : Heap} {x : Str} {body : List Stmt} {Q : Flow → Shared → Prop}
/-- for x in range(n) -/
theorem forLen {r : Addr} {n : Nat} {t₀ u₀ v₀ : Tok} {m₀ : Str → Option Value} {news : List (Addr × Obj)} (st : List Str) (J : Nat → (Str → Option Value) → List (Addr × Obj) → Prop)
    (hh : A.handled = none) (hr : IsRange s.heap r 0 (n : Int) 1 t₀ u₀ v₀) (hz : n ≤ 1000000) (F : Fr h₀ env.locals s.heap m₀) (N : News h₀ env.locals s.heap news) (hj : J 0 m₀ news)
    (turn : ∀ (i : Nat) t u nw I oI h tk, i < n → J i u nw → Fr h₀ env.locals h (fun y => if y = x then some (.int (i : Int) t) else ov u m₀ st y) → News h₀ env.locals h ((I, oI) :: nw) → AllNe I nw →
      wpAny (model prog w) A (execs body env) (TurnEnd h₀ env.locals (x :: st) m₀ (J (i + 1)) I oI { s with heap := h, toks := tk } Q) E { s with heap := h, toks := tk })
    (done : ∀ u nw h tk, J n u nw → Fr h₀ env.locals h (ov u m₀ (x :: st)) → News h₀ env.locals h nw → Q .next { s with heap := h, toks := tk }) :
    wpAny (model prog w) A (pyIter (.ref r)) (fun it s₂ => LoopAtV prog w A h₀ env x body Q E it s₂) E s := by
  refine forRange st J hh hr (rangeLen_small hz) (rangeLen_size n) F N hj ?_ done
  intro i t u nw I oI h tk hi hJ F₁ N₁ hne
  rw [Int.zero_add] at F₁
  exact turn i t u nw I oI h tk hi hJ F₁ N₁ hne
theorem forLenL0 {L : Addr} {r : Addr} {n : Nat} {t₀ u₀ v₀ : Tok} {m₀ : Str → Option Value} {news : List (Addr × Obj)} (st : List Str) (J : Nat → (Str → Option Value) → List (Addr × Obj) → Prop)
    (hh : A.handled = none) (hr : IsRange s.heap r 0 (n : Int) 1 t₀ u₀ v₀) (hz : n ≤ 1000000) (F : Fr h₀ L s.heap m₀) (N : News h₀ L s.heap news) (hj : J 0 m₀ news)
    (turn : ∀ (i : Nat) t u nw I oI h tk, i < n → J i u nw → Fr h₀ L h (fun y => if y = x then some (.int (i : Int) t) else ov u m₀ st y) → News h₀ L h ((I, oI) :: nw) → AllNe I nw →
      wpAny (model prog w) A (execs body env) (TurnEnd h₀ L (x :: st) m₀ (J (i + 1)) I oI { s with heap := h, toks := tk } Q) E { s with heap := h, toks := tk })
    (done : ∀ u nw h tk, J n u nw → Fr h₀ L h (ov u m₀ (x :: st)) → News h₀ L h nw → Q .next { s with heap := h, toks := tk })
    (hL : env.locals = L := by with_unfolding_all rfl) :
    wpAny (model prog w) A (pyIter (.ref r)) (fun it s₂ => LoopAtV prog w A h₀ env x body Q E it s₂) E s := by
  subst hL
  exact forLen st J hh hr hz F N hj turn done
theorem forLenL {L : Addr} {r : Addr} {n : Nat} {t₀ u₀ v₀ : Tok} {m₀ : Str → Option Value} {news : List (Addr × Obj)} (st : List Str) (J : Nat → (Str → Option Value) → List (Addr × Obj) → Prop)
    (hh : A.handled = none) (hr : IsRange s.heap r 0 (n : Int) 1 t₀ u₀ v₀) (hz : n ≤ 1000000) (F : Fr h₀ L s.heap m₀) (N : News h₀ L s.heap news) (hj : J 0 m₀ news)
    (turn : ∀ (i : Nat) t u nw I oI h tk, i < n → J i u nw → Fr h₀ L h (fun y => if y = x then some (.int (i : Int) t) else ov u m₀ st y) → News h₀ L h ((I, oI) :: nw) → AllNe I nw →
      ∀ QT : Flow → Shared → Prop, (∀ f s', TurnEnd h₀ L (x :: st) m₀ (J (i + 1)) I oI { s with heap := h, toks := tk } Q f s' → QT f s') → wpAny (model prog w) A (execs body env) QT E { s with heap := h, toks := tk })
    (done : ∀ u nw h tk, J n u nw → Fr h₀ L h (ov u m₀ (x :: st)) → News h₀ L h nw → Q .next { s with heap := h, toks := tk })
    (hL : env.locals = L := by with_unfolding_all rfl) :
    wpAny (model prog w) A (pyIter (.ref r)) (fun it s₂ => LoopAtV prog w A h₀ env x body Q E it s₂) E s := 
  forLenL0 st J hh hr hz F N hj (fun i v u nw I oI h tk a b c d e => turn i v u nw I oI h tk a b c d e _ fun _ _ h => h) done hL
end
/-! an exception of the class 51, with a dict of its own, on its way through the frames -/
noncomputable abbrev Upto (h h' : Heap) : Prop := h.UpToSlots h'
theorem Upto.data {h h' : Heap} (k : ∀ b o, h.get? b = some o → (∀ vs, o.data ≠ .fields vs) → ∃ sl, h'.get? b = some { o with slots := sl }) {B : Heap} {l : List Env} (hl : h.FunFrames B l) : h'.FunFrames B l :=
  hl.of_keeps fun b o hb hn => let ⟨_, e⟩ := k b o hb hn; ⟨_, e, rfl⟩
/-- e lies in the heap with its dict d and its first trace T, whose flight mark is fl -/
inductive ErrAt (B h : Heap) (e d : Addr) (fl : Value) : Prop
  | mk : ∀ oe vs T oT ts, h.get? e = some oe →
    (oe.cls = .ref 51 ∧ oe.dict = some d) →
    oe.data = .fields vs →
    vs[1]? = some (.ref T) →
    B.get? T = none →
    T ≠ e →
    h.get? T = some oT →
    oT.data = .fields ts →
    ts[3]? = some fl → ErrAt B h e d fl
structure Fly (B : Heap) (l : List Env) (e d : Addr) (fl : Value) (h : Heap) : Prop where
  stays : B.StaysIn h
  new : B.get? e = none
  frames : h.FunFrames B l
  err : ErrAt B h e d fl
section
variable {M : Model} {A : Around} {E : Value → Shared → Prop} {s : Shared} {B : Heap} {env : Env} {outer : List Env} {L e d : Addr}
theorem notRecord {h : Heap} {e : Addr} {oe : Obj} {vs : Array Value} (he : h.get? e = some oe) (hd : oe.data = .fields vs) {b : Addr} {o : Obj} (hb : h.get? b = some o) (hn : ∀ vs, o.data ≠ .fields vs) : b ≠ e := by
  rintro rfl
  rw [he] at hb; cases hb; exact hn vs hd
theorem dict_mapFields {o : Obj} {f : Array Value → Array Value} : (o.mapFields f).dict = o.dict := by
  refine letG ?_
  intro P9
  obtain ⟨c, d, dt, sl⟩ := o
  k_unfold
  try clear P9
  cases dt <;> rfl
theorem entryE {oe : Obj} {vs : Array Value} {head : Value} {hadNext : Bool} {Q : Unit → Shared → Prop}
    (hfr : A.frames = some (env :: outer)) (hl : s.heap.FunFrames B (env :: outer)) (hf : env.frame = some L)
    (he : s.heap.get? e = some oe) (hk : B.StaysIn s.heap) (hn : B.get? e = none) (hd : oe.data = .fields vs) (hz : 1 < vs.size) (hc : oe.cls = .ref 51) (hdd : oe.dict = some d)
    (h : ∀ h', Fly B (env :: outer) e d (rawInt L) h' → Upto s.heap h' → Q () { s with heap := h' }) :
    wpAny M A (do let a ← frameOf env; let pl ← entryPlaceOf L hadNext; let b ← EntryCells.newEntry head a .none (rawInt L) .none pl; setField (.ref e) 1 b) Q E s := by
  have hne : e ∉ (env :: outer).filterMap (·.frame) := fun hm => by
    refine letG ?_
    intro P9
    obtain ⟨_, o, ho, hnf⟩ := hl.mem hm
    k_unfold
    try clear P9
    rw [he] at ho; cases ho; exact hnf vs hd
  refine wpAny_bind (wpAny_frameOf_fun hfr hl hf fun h₁ S₁ => ?_)
  refine wpAny_bind (wpAny_entryPlaceOf fun pl hpl => ?_)
  unfold EntryCells.newEntry newFields
  refine wpAny_bind (wpAny_newObj_type ?_ (hpl.sizeOk5 _ _ _ _ _))
  have he₁ : h₁.get? e = some oe := (S₁.2.1 e hne).trans he
  have hk₁ : B.StaysIn h₁ := fun b o hbo => (S₁.2.1 b fun hm => by rw [(hl.mem hm).1] at hbo; cases hbo).trans (hk b o hbo)
  generalize hoT : ({ cls := .type "traceback", dict := none, data := .fields ([head, .ref L, .none, rawInt L, .none] ++ (if pl.isEmpty then List.replicate 6 Value.none else pl)).toArray } : Obj) = oT
  have he₂ := Heap.get?_push_of_some (h := h₁) oT he₁
  refine wpAny_setField he₂ hd hz (h _ ?_ ?_)
  all_goals
    have hTe : h₁.objs.size ≠ e := Nat.ne_of_gt (Heap.lt_size he₁)
    have hd₃ := Obj.data_mapFields hd (·.setIfInBounds 1 (Value.ref h₁.objs.size))
    have he₃ := Heap.get?_update_self (Obj.mapFields (·.setIfInBounds 1 (Value.ref h₁.objs.size))) he₂ (Obj.isFreed_of_fields hd₃)
    have keep : ∀ b o, b ≠ e → h₁.get? b = some o → ((h₁.push oT).update e (Obj.mapFields (·.setIfInBounds 1 (Value.ref h₁.objs.size)))).get? b = some o := fun b o hbe hb => by
      rw [Heap.get?_update_other _ _ (Ne.symm hbe)]
      exact Heap.get?_push_of_some _ hb
    have up : Upto s.heap ((h₁.push oT).update e (Obj.mapFields (·.setIfInBounds 1 (Value.ref h₁.objs.size)))) := fun b o hb hnf => by
      obtain ⟨sl, hs⟩ := S₁.2.2 b o hb
      exact ⟨sl, keep b _ (notRecord he hd hb hnf) hs⟩
  · have hT₃ := (Heap.get?_update_other (h₁.push oT) (Obj.mapFields (·.setIfInBounds 1 (Value.ref h₁.objs.size))) (Ne.symm hTe)).trans (Heap.get?_push_size h₁ (by rw [← hoT]; rfl))
    refine ⟨fun b o hbo => keep b o (fun q => by rw [q, hn] at hbo; cases hbo) (hk₁ b o hbo), hn, Upto.data up hl, ⟨_, _, h₁.objs.size, _, _, he₃, ⟨(Obj.cls_mapFields _ _).trans hc, dict_mapFields.trans hdd⟩, hd₃, by simp [hz], hk₁.fresh, hTe, hT₃, by rw [← hoT], ?_⟩⟩
    simp
  · exact up
theorem noteFirst {oe : Obj} {vs : Array Value} {Q : Unit → Shared → Prop}
    (hfr : A.frames = some (env :: outer)) (hl : s.heap.FunFrames B (env :: outer)) (hf : env.frame = some L)
    (he : s.heap.get? e = some oe) (hk : B.StaysIn s.heap) (hn : B.get? e = none) (hd : oe.data = .fields vs) (h1 : vs[1]? = some .none) (hc : oe.cls = .ref 51) (hdd : oe.dict = some d)
    (h : ∀ h', Fly B (env :: outer) e d (rawInt L) h' → Upto s.heap h' → Q () { s with heap := h' }) : wpAny M A (noteFrame (.ref e) env) Q E s := by
  unfold noteFrame
  simp only [hf]
  refine wpAny_bind (wpAny_field he hd h1 ?_)
  rw [if_neg (by decide)]
  exact entryE hfr hl hf he hk hn hd (Array.getElem?_eq_some_iff.mp h1).1 hc hdd h
theorem noteNext {Q : Unit → Shared → Prop} (hfr : A.frames = some (env :: outer)) (hf : env.frame = some L) (F : Fly B (env :: outer) e d .none s.heap)
    (h : ∀ h', Fly B (env :: outer) e d (rawInt L) h' → Upto s.heap h' → Q () { s with heap := h' }) : wpAny M A (noteFrame (.ref e) env) Q E s := by
  refine letG ?_
  intro P9
  obtain ⟨hk, hn, hl, ⟨oe, vs, T, oT, ts, he, ⟨hc, hdd⟩, hd, h1, hnT, hTe, hT, hdT, h3⟩⟩ := F
  k_unfold
  try clear P9
  unfold noteFrame
  simp only [hf]
  refine wpAny_bind (wpAny_field he hd h1 ?_)
  rw [if_pos (show (Value.ref T != Value.none) = true from by simp)]
  refine wpAny_bind (wpAny_field hT hdT h3 ?_)
  rw [if_neg (show ¬ ((Value.none == rawInt L) = true) from by simp [rawInt])]
  refine wpAny_bind (wpAny_setField hT hdT (Array.getElem?_eq_some_iff.mp h3).1 ?_)
  have other : ∀ b, b ≠ T → (s.heap.update T (Obj.mapFields (·.setIfInBounds 3 Value.none))).get? b = s.heap.get? b := fun b hb => Heap.get?_update_other _ _ (Ne.symm hb)
  have up : Upto s.heap (s.heap.update T (Obj.mapFields (·.setIfInBounds 3 Value.none))) := fun b o hb hnf => ⟨o.slots, (other b (notRecord hT hdT hb hnf)).trans hb⟩
  exact entryE hfr (Upto.data up hl) hf ((other e (Ne.symm hTe)).trans he) (fun b o hbo => (other b fun q => by rw [q, hnT] at hbo; cases hbo).trans (hk b o hbo)) hn hd
    (Array.getElem?_eq_some_iff.mp h1).1 hc hdd fun h' F' U' => h h' F' (up.trans U')
theorem flightOff {l : List Env} {fl : Value} {Q : Unit → Shared → Prop} (F : Fly B l e d fl s.heap) (h : ∀ h', Fly B l e d .none h' → Upto s.heap h' → Q () { s with heap := h' }) : wpAny M A (setFlight (.ref e) none) Q E s := by
  refine letG ?_
  intro P9
  obtain ⟨hk, hn, hl, ⟨oe, vs, T, oT, ts, he, ⟨hc, hdd⟩, hd, h1, hnT, hTe, hT, hdT, h3⟩⟩ := F
  k_unfold
  try clear P9
  have hz : 3 < ts.size := (Array.getElem?_eq_some_iff.mp h3).1
  have other : ∀ b, b ≠ T → (s.heap.update T (Obj.mapFields (·.setIfInBounds 3 ((none : Option Addr).elim Value.none fun f => rawInt f)))).get? b = s.heap.get? b := fun b hb => Heap.get?_update_other _ _ (Ne.symm hb)
  have up : Upto s.heap (s.heap.update T (Obj.mapFields (·.setIfInBounds 3 ((none : Option Addr).elim Value.none fun f => rawInt f)))) := fun b o hb hnf => ⟨o.slots, (other b (notRecord hT hdT hb hnf)).trans hb⟩
  unfold setFlight
  refine wpAny_bind (wpAny_field he hd h1 ?_)
  rw [if_pos (show (Value.ref T != Value.none) = true from by simp)]
  refine wpAny_setField hT hdT hz (h _ ⟨fun b o hbo => (other b fun q => by rw [q, hnT] at hbo; cases hbo).trans (hk b o hbo), hn, Upto.data up hl, ⟨oe, vs, T, _, _, (other e (Ne.symm hTe)).trans he, ⟨hc, hdd⟩, hd, h1, hnT, hTe, Heap.get?_update_self _ hT (Obj.isFreed_of_fields (Obj.data_mapFields hdT _)), Obj.data_mapFields hdT _, by simp [hz]⟩⟩ up)
theorem leaveFirst {oe : Obj} {vs : Array Value} {Q : Unit → Shared → Prop}
    (hfr : A.frames = some (env :: outer)) (hl : s.heap.FunFrames B (env :: outer)) (hf : env.frame = some L)
    (he : s.heap.get? e = some oe) (hk : B.StaysIn s.heap) (hn : B.get? e = none) (hd : oe.data = .fields vs) (h1 : vs[1]? = some .none) (hc : oe.cls = .ref 51) (hdd : oe.dict = some d)
    (h : ∀ h', Fly B outer e d .none h' → Upto s.heap h' → Q () { s with heap := h' }) : wpAny M A (leaving env (.ref e)) Q E s := by
  unfold leaving
  refine wpAny_bind (noteFirst hfr hl hf he hk hn hd h1 hc hdd fun h₁ F₁ U₁ => ?_)
  exact flightOff F₁ fun h₂ F₂ U₂ => h h₂ ⟨F₂.stays, F₂.new, F₂.frames.2.2, F₂.err⟩ (U₁.trans U₂)
theorem leaveNext {Q : Unit → Shared → Prop} (hfr : A.frames = some (env :: outer)) (hf : env.frame = some L) (F : Fly B (env :: outer) e d .none s.heap)
    (h : ∀ h', Fly B outer e d .none h' → Upto s.heap h' → Q () { s with heap := h' }) : wpAny M A (leaving env (.ref e)) Q E s := by
  unfold leaving
  refine wpAny_bind (noteNext hfr hf F fun h₁ F₁ U₁ => ?_)
  exact flightOff F₁ fun h₂ F₂ U₂ => h h₂ ⟨F₂.stays, F₂.new, F₂.frames.2.2, F₂.err⟩ (U₁.trans U₂)
end
/-! the call of the class 51 (Refusal), whose own __init__ is the def 48 -/
noncomputable abbrev bmE : List Value := [.type "Exception", .type "BaseException", .type "object"]
theorem look51 (P : Params) : (K P).lookup 51 = some (excClassObj (Str.ofString "Refusal") (Str.ofString "Refusal") 51 50 [.ref 31] (.ref 31 :: bmE) true [] [] false none none (some (.ref 35)) none (some (.str (Str.ofString "Refusal") 216)) (some (.str (Str.ofString "Refusal") 224)) (some (.bool true)) "Exception.__new__") := by kernel_rfl
theorem at51 {P : Params} {h : Heap} (X : (K P).In h) : h.get? 51 = some (excClassObj (Str.ofString "Refusal") (Str.ofString "Refusal") 51 50 [.ref 31] (.ref 31 :: bmE) true [] [] false none none (some (.ref 35)) none (some (.str (Str.ofString "Refusal") 216)) (some (.str (Str.ofString "Refusal") 224)) (some (.bool true)) "Exception.__new__") := X _ _ (look51 P)
theorem tail51 (P : Params) : tailIn (K P) bmE (.ref 31 :: bmE) = true := by kernel_rfl
theorem init51 (P : Params) : findIn (K P) (.ref 51) "__init__" = some (some (.ref 48)) := by kernel_rfl
theorem fn48 (P : Params) : typeIn (K P) (.ref 48) = some (.type "function") := by kernel_rfl
section
variable {w : World} {A : Around} {E : Value → Shared → Prop} {h : Heap} {g : Array GenState} {d : Drawn} {t : Nat} {os : OsState}
theorem typeCallRefusal (X : (K w.params).In h) {rest : List Value} {Q : Fin → Shared → Prop}
    (hq : ∀ h' e, Heap.MadeExcOf h h' e (.ref 51) rest → @LE.le Nat _ h.objs.size e →
      wpAny (model pw w) A (call (.ref 48) (.ref e :: rest)) (fun r s' => r = .none ∧ Q (.done (.ret (.ref e))) s') E ⟨h', g, d, t, os⟩) (hrest : rest.length ≤ sizeLine) :
    wpAny (model pw w) A (Builtin.«type.__call__» ⟨.ref 51 :: rest, []⟩) Q E ⟨h, g, d, t, os⟩ := by
  have F := PySem.F.excBase_Exception
  have hC := at51 X
  have T := tail_of_in X (tail51 w.params)
  repeat (first | with_reducible refine wpAny_loadPart_at hC ?_ | with_reducible refine wpAny_madeBy_exc hC ?_ | wp_step)
  refine codeAny_call_builtin_code (Code.quiet_builtin _ F.quiet) (wpAny_check_new_subT F T hC ?_)
  refine codeAny_exc_new_subT F T hC ?_ hrest
  show wpAny _ _ _ _ _ _
  have kp : ∀ b o, h.get? b = some o → ((h.push { cls := .type "tuple", data := .seq rest.toArray }).push { cls := .ref 51, data := .fields #[.ref h.objs.size, .none, .none, .none, .bool false, .none] }).get? b = some o :=
    fun b o e => Heap.get?_push_of_some _ (Heap.get?_push_of_some _ e)
  have X₁ := X.keeps kp
  have hC₁ := kp _ _ hC
  have hget : ((h.push { cls := .type "tuple", data := .seq rest.toArray }).push
      { cls := .ref 51, data := .fields #[.ref h.objs.size, .none, .none, .none, .bool false, .none] }).get? (h.objs.size + 1) = some
      { cls := .ref 51, data := .fields #[.ref h.objs.size, .none, .none, .none, .bool false, .none] } := by heap_get
  have hcC : (Value.ref 51 :: (.ref 31 :: bmE)).contains (.ref 51) = true := by simp
  unfold isInstance
  repeat (first | with_reducible refine wpAny_loadPart_at hget ?_ | (with_reducible refine wpAny_isSubtype_exc hC₁ ?_; rw [hcC]) | wp_step)
  show wpAny _ _ (typeLookup (.ref 51) _) _ _ _
  refine (looks_findIn X₁ (init51 w.params)).here ?_
  refine wpAny_holding (wpAny_bind ((bind_fn X₁ _ (fn48 w.params)).here ?_))
  refine wpAny_bind (wpAny_mono (hq _ (h.objs.size + 1) ⟨kp, Heap.get?_none_of_le (Nat.le_succ _), h.objs.size, hget, Heap.get?_none_of_le (Nat.le_refl _), ?_⟩ (Nat.le_succ _)) (fun r s' hr => ?_) fun _ _ x => x)
  · exact Heap.get?_push_of_some _ (Heap.get?_push_at rfl rfl)
  · obtain ⟨rfl, hQ⟩ := hr
    wp_walk
    exact hQ
theorem callRefusal (X : (K w.params).In h) {rest : List Value} {Q : Value → Shared → Prop}
    (hq : ∀ h' e, Heap.MadeExcOf h h' e (.ref 51) rest → @LE.le Nat _ h.objs.size e →
      wpAny (model pw w) (A.under (.builtin "type.__call__" ⟨.ref 51 :: rest, []⟩)) (call (.ref 48) (.ref e :: rest)) (fun r s' => r = .none ∧ Q (.ref e) s') E ⟨h', g, d, t, os⟩) (hrest : rest.length ≤ sizeLine) :
    wpAny (model pw w) A (call (.ref 51) rest) Q E ⟨h, g, d, t, os⟩ := by
  have f1 := tc_lookup
  have f2 := tc_bind (.ref 51)
  have hC := at51 X
  have hT : (⟨h, g, d, t, os⟩ : Shared).TypeIs (.ref 51) "type" := ⟨_, hC, rfl⟩
  refine wpAny_call (codeAny_of_tree ?_)
  show wpAny _ _ (callAny (.ref 51) _) _ _ _
  repeat (any_goals (first | assumption | with_reducible refine wpAny_loadPart_at hC ?_ | wp_step))
  refine ⟨rfl, ?_⟩
  refine codeAny_call_builtin_at (Code.quiet_builtin _ (by decide +kernel)) entry_typeCall (wpAny_check_type_call_sub hC (typeCallRefusal X (fun h' e hm hle => ?_) hrest))
  exact hq h' e hm hle
end
/-! a field stored on an exception of the class 51 that has no dict yet -/
noncomputable abbrev excO (t : Addr) (dd : Option Addr) : Obj := { cls := .ref 51, dict := dd, data := .fields #[.ref t, .none, .none, .none, .bool false, .none] }
noncomputable abbrev msgO (w : World) (n : Nat) (v : Value) : Obj := dictOf [⟨PyData.keyHash w.params (Str.ofString "message"), .str (Str.ofString "message") n, v⟩] 1
theorem set51 (P : Params) : findIn (K P) (.ref 51) "__setattr__" = some (some (.builtin "object.__setattr__")) := by kernel_rfl
theorem msg51 (P : Params) : findIn (K P) (.ref 51) "message" = some none := by kernel_rfl
theorem mro51 (P : Params) : (clsIn (K P) 51).map (·.mro) = some (.ref 51 :: .ref 31 :: bmE) := by kernel_rfl
theorem dct51 (P : Params) : (clsIn (K P) 51).map (·.hasDict) = some true := by kernel_rfl
section
variable {w : World} {A : Around} {s : Shared}
theorem osaE {R : Result → Shared → Prop} {x t : Addr} {tk : Tok} {v : Value} (X : (K w.params).In s.heap) (hx : s.heap.get? x = some (excO t none))
    (h : ∀ h' d, (∀ b o, b ≠ x → s.heap.get? b = some o → h'.get? b = some o) → h'.get? x = some (excO t (some d)) → s.heap.get? d = none → @LE.le Nat _ s.heap.objs.size d → h'.get? d = some (msgO w s.toks v) → R (.ok (.ret .none)) { s with heap := h', toks := s.toks + 1 }) :
    codeAny (model pw w) A (.call (.builtin "object.__setattr__") ⟨[.ref x, .str (Str.ofString "message") tk, v], []⟩) R s := by
  have SF := PySem.F.store_object
  have SE := PySem.F.store_Exception
  have I : InstAt s.heap x (excO t none) 51 none := ⟨hx, rfl, rfl, trivial⟩
  refine letG ?_
  intro P9
  obtain ⟨cd, hc, hm⟩ := Option.map_eq_some_iff.mp (mro51 w.params)
  k_unfold
  try clear P9
  refine letG ?_
  intro P9
  obtain ⟨cd', hc', hdct⟩ := Option.map_eq_some_iff.mp (dct51 w.params)
  k_unfold
  try clear P9
  rw [hc] at hc'; cases hc'
  have sub : Looks (model pw w) s.heap (isInstance (.ref x) (.type "object")) true := I.type.andThen (looks_mroIn X (by unfold mroIn; rw [hc, Option.bind_some, hm]; rfl))
  refine codeAny_call_builtin SF.slot.plain SF.entry (@check_slot (model pw w) _ _ s "object.__setattr__" "object" "__setattr__" (.ref x) [.str (Str.ofString "message") tk, v] [] _ SF.kind SF.split sub (SF.args (.ref x) (.str (Str.ofString "message") tk) v) ?_)
  have Lm : Looks (model pw w) s.heap (mroOf (.ref 51)) cd.mro := (looks_clsIn X hc).andThen .now
  rw [osa_eq, refuse_eq]
  refine wpAny_bind (wpAny_bind (I.type.here (wpAny_bind (Lm.here ?_))))
  rw [hm, refuseLoop_ref, refuseLoop_ref, SE.passes]
  refine wpAny_pure (wpAny_bind (I.type.here (wpAny_bind ((looks_findIn X (msg51 w.params)).here (wpAny_bind (wpAny_pure ?_))))))
  refine wpAny_bind (wpAny_pure (wpAny_bind (wpAny_bind (wpAny_loadPart hx (wpAny_bind ((looks_clsIn X hc).here ?_))))))
  rw [hdct]
  have hxs : x ≠ s.heap.objs.size := Nat.ne_of_lt (Heap.lt_size hx)
  have hx₁ : (s.heap.push emptyDict).get? x = some (excO t none) := Heap.get?_push_of_some _ hx
  refine wpAny_bind (wpAny_alloc' (wpAny_bind (wpAny_update' hx₁ (wpAny_pure ?_))))
  have gx : ((s.heap.push emptyDict).update x fun o => { o with dict := some s.heap.objs.size }).get? x = some (excO t (some s.heap.objs.size)) := Heap.get?_update_self _ hx₁ rfl
  have gd : ((s.heap.push emptyDict).update x fun o => { o with dict := some s.heap.objs.size }).get? s.heap.objs.size = some (dictOf [] 0) := (Heap.get?_update_ne _ _ _ _ hxs.symm).trans (Heap.get?_push_at rfl rfl)
  have go : ∀ b o, b ≠ x → s.heap.get? b = some o → ((s.heap.push emptyDict).update x fun o => { o with dict := some s.heap.objs.size }).get? b = some o := fun b o hb e => (Heap.get?_update_ne _ _ _ _ hb).trans (Heap.get?_push_of_some _ e)
  generalize hH : ((s.heap.push { cls := Value.type "dict", data := Data.dict #[] }).update x fun o => { cls := o.cls, dict := some s.heap.objs.size, data := o.data, slots := o.slots }) = h₁ at gx gd go ⊢
  have hsd : s.heap.get? s.heap.objs.size = none := Heap.get?_none_of_le (Nat.le_refl _)
  obtain ⟨d, hdd⟩ : ∃ d : Addr, d = s.heap.objs.size := ⟨_, rfl⟩
  have hle : @LE.le Nat _ s.heap.objs.size d := Nat.le_of_eq hdd.symm
  rw [← hdd] at gx gd hxs hsd ⊢
  refine wpAny_bind (wpAny_pure (wpAny_bind ?_))
  unfold nsSet
  refine wpAny_bind (wpAny_bind (wpAny_askSetting (wpAny_pure (wpAny_bind (wpAny_mkText (wpAny_bind (wpAny_loadPart gd ?_)))))))
  dsimp only
  have gd' : (h₁.update d (Obj.putName (Str.ofString "message") (PyData.keyHash w.params (Str.ofString "message")) (.str (Str.ofString "message") s.toks) v)).get? d = some (msgO w s.toks v) := by
    refine Heap.get?_update_self _ gd ?_ |>.trans ?_
    · rw [putName_dict]; rfl
    · rw [putName_dict]; rfl
  rw [aRefKeyMayBeTheName_at]
  rw [if_neg (by simp)]
  refine wpAny_updatePart gd ?_
  refine wpAny_bind (wpAny_lookBehind gd' (pastItsLine_dict (by simp [sizeLine_eq])) ?_)
  refine wpAny_pure (h _ d (fun b o hb e => ?_) ?_ hsd hle gd')
  · exact (Heap.get?_update_ne _ _ _ _ (fun q => by rw [q, hsd] at e; cases e)).trans (go b o hb e)
  · exact (Heap.get?_update_ne _ _ _ _ hxs).trans gx
end
/-! raising, leaving and catching, with everything beside the frames kept -/
/-- the first n places of a heap -/
noncomputable def cut (h : Heap) (n : Nat) : Heap := { h with objs := h.objs.extract 0 n }
theorem cut_lt {h : Heap} {n b : Nat} (hb : b < n) : (cut h n).get? b = h.get? b := by
  unfold cut Heap.get?
  simp only [Array.getElem?_extract, Nat.zero_add, Nat.sub_zero]
  by_cases hs : b < h.objs.size
  · rw [if_pos (by omega)]
  · rw [if_neg (by omega), Array.getElem?_eq_none (by omega)]
theorem cut_ge {h : Heap} {n b : Nat} (hb : n ≤ b) : (cut h n).get? b = none := by
  unfold cut Heap.get?
  simp only [Array.getElem?_extract, Nat.zero_add, Nat.sub_zero]
  rw [if_neg (by omega)]
theorem cut_size {h : Heap} {n : Nat} : (cut h n).objs.size ≤ n := by
  unfold cut
  simp only [Array.size_extract]
  omega
theorem cut_of {h : Heap} {n b : Nat} {o : Obj} (e : (cut h n).get? b = some o) : h.get? b = some o := by
  by_cases hb : b < n
  · rwa [cut_lt hb] at e
  · rw [cut_ge (by omega)] at e; cases e
/-- an exception e with the dict d on its way out of a call that began in the heap h -/
structure RaisedM (outer : List Env) (e d : Addr) (od : Obj) (h h' : Heap) : Prop where
  is : ∃ B, (∀ b o, h.get? b = some o → b ∉ outer.filterMap (·.frame) → B.get? b = some o) ∧ Fly B outer e d .none h' ∧ B.get? d = some od
  ge : h.objs.size ≤ e ∧ h.objs.size ≤ d ∧ d ≠ e
  upto : Upto h h'
section
variable {M : Model} {A : Around} {E : Value → Shared → Prop} {s' : Shared} {base g0 h h₃ : Heap} {env : Env} {outer : List Env} {L e d : Addr} {od : Obj} {m : Str → Option Value} {Q : Unit → Shared → Prop}
theorem leaveRaise {t : Addr} (Bel : Below A base outer g0) (F : Fr g0 L h m) (hf : env.frame = some L) (hk : env.scope.kind = .function) (kp : Kept h s'.heap)
    (he : s'.heap.get? e = some (excO t (some d))) (hd : s'.heap.get? d = some od) (e1 : h.objs.size ≤ e) (e2 : h.objs.size ≤ d) (e3 : d ≠ e)
    (hQ : ∀ h', RaisedM outer e d od g0 h' → Q () { s' with heap := h' }) : wpAny M (A.deeper env) (leaving env (.ref e)) Q E s' := by
  have K' := pushX Bel F hf hk
  have hL : @LT.lt Nat _ L h.objs.size := F.ns.lt
  have f3 : s'.heap.FunFrames base (env :: outer) := K'.frames.of_keeps fun b o q _ => ⟨o, kp b o q, rfl⟩
  have live : ∀ b ∈ (env :: outer).filterMap (·.frame), b < h.objs.size := fun b hb => by
    refine letG ?_
    intro P9
    obtain ⟨o, ho, _⟩ := (K'.frames.mem hb).2
    k_unfold
    try clear P9
    exact Heap.lt_size ho
  refine leaveFirst (B := hideAll s'.heap (e :: (env :: outer).filterMap (·.frame))) K'.stack (funFrames_hide f3 fun en hen a ha => .tail _ (List.mem_filterMap.mpr ⟨en, hen, ha⟩)) hf he (fun b o q => of_hideAll _ q) (hideAll_none _ (.head _)) rfl rfl rfl rfl fun h' F' U' => ?_
  refine hQ h' ⟨⟨_, fun b o hb hn => ?_, F', ?_⟩, ⟨?_, ?_, e3⟩, ?_⟩
  · have hb1 := F.keep _ _ hb
    have hb2 := Nat.lt_of_lt_of_le (Heap.lt_size hb) F.above
    refine hideAll_get _ (kp _ _ hb1) fun hm => ?_
    rcases List.mem_cons.mp hm with rfl | hm
    · exact absurd (Heap.lt_size hb1) (by omega)
    · rw [List.filterMap_cons, hf] at hm
      rcases List.mem_cons.mp hm with rfl | hm
      · exact absurd hb2 (Nat.lt_irrefl _)
      · exact hn hm
  · refine hideAll_get _ hd fun hm => ?_
    rcases List.mem_cons.mp hm with q | hm
    · exact e3 q
    · exact absurd (live _ hm) (by omega)
  · have hab : @LE.le Nat _ g0.objs.size L := F.above; omega
  · have hab : @LE.le Nat _ g0.objs.size L := F.above; omega
  · exact ((Heap.UpToSlots.of_keeps F.keep).trans (Heap.UpToSlots.of_keeps kp)).trans U'
theorem leaveOn (Bel : Below A base outer g0) (F : Fr g0 L h m) (hf : env.frame = some L) (R : RaisedM (env :: outer) e d od h s'.heap)
    (hQ : ∀ h', RaisedM outer e d od g0 h' → Q () { s' with heap := h' }) : wpAny M (A.deeper env) (leaving env (.ref e)) Q E s' := by
  refine letG ?_
  intro P9
  obtain ⟨⟨B, hB, F1, hd⟩, ⟨e1, e2, e3⟩, U1⟩ := R
  k_unfold
  try clear P9
  have hL : @LT.lt Nat _ L h.objs.size := F.ns.lt
  have hab : @LE.le Nat _ g0.objs.size L := F.above
  refine leaveNext (Around.frames_deeper Bel.stack) hf F1 fun h' F' U' => ?_
  refine hQ h' ⟨⟨B, fun b o hb hn => hB b o (F.keep _ _ hb) fun hm => ?_, F', hd⟩, ⟨by omega, by omega, e3⟩, (Heap.UpToSlots.of_keeps F.keep).trans (U1.trans U')⟩
  rw [List.filterMap_cons, hf] at hm
  rcases List.mem_cons.mp hm with rfl | hm
  · exact absurd (Nat.lt_of_lt_of_le (Heap.lt_size hb) F.above) (Nat.lt_irrefl _)
  · exact hn hm
end
/-- everything of h stands in h', the frames aside -/
noncomputable def KeptX (outer : List Env) (h h' : Heap) : Prop := ∀ b o, h.get? b = some o → b ∉ outer.filterMap (·.frame) → h'.get? b = some o
section
variable {w : World} {A : Around} {E : Value → Shared → Prop} {s : Shared} {h₀ : Heap} {L e t : Addr} {m : Str → Option Value} {r : List (Addr × Obj)} {v : Value}
theorem setE {Q : Unit → Shared → Prop} (F : Fr h₀ L s.heap m) (X₀ : (K w.params).In h₀) (N : News h₀ L s.heap [(e, excO t none)])
    (h : ∀ h' d, Fr h₀ L h' m → News h₀ L h' [(d, msgO w (s.toks + 1) v), (e, excO t (some d))] → d ≠ e → @LE.le Nat _ s.heap.objs.size d → Q () { s with heap := h', toks := s.toks + 1 + 1 }) :
    wpAny (model pw w) A (setAttr (.ref e) (Str.ofString "message") v) Q E s := by
  refine letG ?_
  intro P9
  obtain ⟨he, hL, hn⟩ := N _ (.head _)
  k_unfold
  try clear P9
  have X := X₀.keeps F.keep
  refine set_plain X (⟨he, rfl, rfl, trivial⟩ : InstAt s.heap e (excO t none) 51 none) (set51 w.params) ?_
  refine osaE (s := { s with toks := s.toks + 1 }) X he fun h' d k1 k2 k3 kle k4 => ?_
  have F' : Fr h₀ L h' m := by
    refine letG ?_
    intro P9
    obtain ⟨o, es, ep, ho, r⟩ := F.ns
    k_unfold
    try clear P9
    refine ⟨⟨o, es, ep, k1 _ _ (Ne.symm hL) ho, r⟩, fun b o q => k1 b o (fun z => ?_) (F.keep b o q), F.above⟩
    rw [z] at q
    exact nomatch hn.symm.trans q
  have hde : d ≠ e := fun z => by rw [z] at k3; exact nomatch k3.symm.trans he
  refine h h' d F' (fun p hp => ?_) hde kle
  rcases List.mem_cons.mp hp with rfl | hp
  · refine ⟨k4, fun z => ?_, ?_⟩
    · refine letG ?_
      intro P9
      obtain ⟨o, es, ep, ho, r⟩ := F.ns
      k_unfold
      try clear P9
      rw [show d = L from z] at k3
      exact nomatch k3.symm.trans ho
    · cases q : h₀.get? d with
      | none => rfl
      | some o => exact nomatch k3.symm.trans (F.keep _ _ q)
  · obtain rfl := List.mem_singleton.mp hp
    exact ⟨k2, hL, hn⟩
/-- where a raise of the class 51 ends -/
noncomputable def RaiseEnd (w : World) (A : Around) (E : Value → Shared → Prop) (vs : List Value) (s : Shared) : Prop :=
  (K w.params).In s.heap ∧ vs.length ≤ sizeLine ∧ ∀ h' e, Heap.MadeExcOf s.heap h' e (.ref 51) vs → @LE.le Nat _ s.heap.objs.size e →
    wpAny (model pw w) (A.under (.builtin "type.__call__" ⟨.ref 51 :: vs, []⟩)) (call (.ref 48) (.ref e :: vs)) (fun r s' => r = .none ∧ (K w.params).In s'.heap ∧ (∃ t d, s'.heap.get? e = some (excO t (some d))) ∧ E (.ref e) s') E { s with heap := h' }
theorem raiseStmtE {env : Env} {x : Sem Value} {Q : Flow → Shared → Prop} (hh : A.handled = none)
    (h : wpAny (model pw w) A x (fun v s₁ => ∃ e t d, v = .ref e ∧ (K w.params).In s₁.heap ∧ s₁.heap.get? e = some (excO t (some d)) ∧ E (.ref e) s₁) E s) :
    wpAny (model pw w) A (raiseStmt env (some x) none) Q E s := by
  have hcB : (Value.ref 51 :: (.ref 31 :: bmE)).contains (.type "BaseException") = true := rfl
  unfold raiseStmt
  refine wpAny_bind (wpAny_mono h (fun v s₁ h₁ => ?_) fun _ _ x => x)
  refine letG ?_
  intro P9
  obtain ⟨e, t, d, rfl, X, he, hE⟩ := h₁
  k_unfold
  try clear P9
  have hC := at51 X
  refine letG ?_
  intro P9
  obtain ⟨hp, g, d', tk, os⟩ := s₁
  k_unfold
  try clear P9
  repeat (first | with_reducible refine wpAny_loadPart_at he ?_ | with_reducible refine wpAny_loadPart_at hC ?_ | (with_reducible refine wpAny_isSubtype_exc hC ?_; rw [hcB]) | wp_step)
  exact wpAny_raiseNew_none hh hE
theorem raiseE {env : Env} {x : Str} {np cpos pos : Pos} {e₀ : PySem.Expr} {rest : List PySem.Expr} {Q : Flow → Shared → Prop} (hh : A.handled = none)
    (h : wpAny (model pw w) A (eval (.Name x np) env) (fun f s₁ => f = .ref 51 ∧ wpAny (model pw w) A (spliced (backTo cpos (starEach (e₀ :: rest) env))) (fun vs s₂ => RaiseEnd w A E vs s₂) E s₁) E s)
    (he : starEach (e₀ :: rest) env = (false, eval e₀ env) :: starEach rest env := by rfl)
    (hplain : (backTo cpos (starEach rest env)).any (·.1) = false := by rfl) :
    wpAny (model pw w) A (exec (.Raise (some (.Call (.Name x np) (e₀ :: rest) [] cpos)) none pos) env) Q E s := by
  have hpl : (backTo cpos (starEach (e₀ :: rest) env)).any (·.1) = false := by rw [he]; show (false || (backTo cpos (starEach rest env)).any (·.1)) = false; rw [hplain]; rfl
  rw [arm_exec_Raise]
  rw [arm_evalOpt_some, show evalOpt none env = none from rfl]
  simp only [Option.map_some, Option.map_none]
  refine wpAny_bind (wpAny_standAt (raiseStmtE hh (wpAny_bind (wpAny_mono (wpAny_Call_ofName (wpAny_mono h (fun f s₁ h₁ => ?_) fun _ _ x => x)) (fun v s₃ h₃ => wpAny_bind (wpAny_standAt (wpAny_pure h₃))) fun _ _ x => x))))
  obtain ⟨rfl, h₁⟩ := h₁
  unfold callWith
  have h₂ : wpAny (model pw w) A (evalArgs (.ref 51) true (backTo cpos (starEach (e₀ :: rest) env)) []) (fun a s₂ => a.kw = [] ∧ RaiseEnd w A E a.pos s₂) E s₁ := by
    rw [he] at h₁ ⊢
    exact Calls.evalArgs_plain (wpAny_mono h₁ (fun vs s₂ h₂ => ⟨rfl, h₂⟩) fun _ _ y => y)
  refine wpAny_bind (wpAny_holding (wpAny_mono h₂ (fun a s₂ h₂ => wpAny_bind (wpAny_standAt ?_)) fun _ _ x => x))
  obtain ⟨apos, akw⟩ := a
  refine letG ?_
  intro P9
  obtain ⟨hkw, X, hlen, h₂⟩ := h₂
  k_unfold
  try clear P9
  obtain rfl : akw = [] := hkw
  have hC := at51 X
  refine letG ?_
  intro P9
  obtain ⟨hp, g, d, tk, os⟩ := s₂
  k_unfold
  try clear P9
  simp only [hpl]
  refine wpAny_bind (wpAny_keeperOf_exc hC ?_)
  refine wpAny_bind (callRefusal X (fun h' e hm hle => wpAny_mono (h₂ h' e hm hle) (fun r s' z => ⟨z.1, wpAny_bind (wpAny_holding (wpAny_point (wpAny_pure ?_)))⟩) fun _ _ z => z) hlen)
  refine letG ?_
  intro P9
  obtain ⟨_, X', ⟨t, d, hg⟩, hE⟩ := z
  k_unfold
  try clear P9
  exact ⟨e, t, d, rfl, X', hg, hE⟩
end
section
variable {w : World} {A₀ : Around} {E : Value → Shared → Prop} {s' : Shared} {base g0 h : Heap} {outer : List Env} {L a e d : Addr} {od : Obj} {m : Str → Option Value} {name : Str} {scope : Scope} {cd : Value}
  {n : Str} {b₀ : Stmt} {suite : List Stmt} {pos np : Pos} {rest : List ExceptHandler} {Q : Flow → Shared → Prop} {loose : List Str} {mean : ExcName → Option Value} {mg mb : Str → Option Value} {x : Str}
theorem frCut {h' : Heap} (hn : h'.Ns L m) : Fr (cut h' L) L h' m := ⟨hn, fun _ _ q => cut_of q, cut_size⟩
theorem caughtM (Bel : Below A₀ base outer g0) (F : Fr g0 L h m) (R : RaisedM (envOf name scope L a cd :: outer) e d od h s'.heap) (X₀ : (K w.params).In base) (T₀ : Top q loose mean mg mb base)
    (ex : nsIn (K w.params) mainGlobals x = some (some (.ref 51)))
    (k : ∀ g' h' tk oe, Fr g' L h' (fun y => if y = n then some (.ref e) else m y) → News g' L h' [(e, oe), (d, od)] → oe.cls = .ref 51 → oe.dict = some d → notCls oe = true → (K w.params).In g' → Top q loose mean mg mb g' →
      KeptX outer g0 g' → Upto g0 g' →
      wpAny (model pw w) ((A₀.deeper (envOf name scope L a cd)).mark (some (.ref e))) (execs (b₀ :: suite) (envOf name scope L a cd))
        (fun f s₄ => wpAny (model pw w) (A₀.deeper (envOf name scope L a cd)) (do bindName (envOf name scope L a cd) n .none; unbindBehindTheSuite (envOf name scope L a cd) n pos) (fun _ s₅ => Q f s₅) E s₄)
        (AsSuiteRaised (model pw w) ((A₀.deeper (envOf name scope L a cd)).mark (some (.ref e))) (envOf name scope L a cd) n pos (notedBy (model pw w) ((A₀.deeper (envOf name scope L a cd)).mark (some (.ref e))) (envOf name scope L a cd) (cameBackBy (model pw w) (A₀.deeper (envOf name scope L a cd)) (envOf name scope L a cd) E)))
        { s' with heap := h', toks := tk })
    (hk : scope.kind = .function := by rfl) (hlo : (envOf name scope L a cd).kindOf n = some .local := by rfl) (hx : (envOf name scope L a cd).kindOf x = some .globalImplicit := by rfl) (hd : (x == ("__debug__" : Str)) = false := by decide) :
    wpAny (model pw w) (A₀.deeper (envOf name scope L a cd)) (noteFrame (.ref e) (envOf name scope L a cd))
      (fun _ s₂ => wpAny (model pw w) (A₀.deeper (envOf name scope L a cd)) (setFlight (.ref e) none) (fun _ s₃ =>
        wpAny (model pw w) (A₀.deeper (envOf name scope L a cd)) (handleBy (.ref e) (envOf name scope L a cd) (.ExceptHandler (some (.Name x np)) (some n) (b₀ :: suite) pos :: rest)) Q E s₃) E s₂) E s' := by
  refine letG ?_
  intro P9
  obtain ⟨⟨B, hB, F1, hod⟩, ⟨e1, e2, e3⟩, U1⟩ := R
  k_unfold
  try clear P9
  have hL : @LT.lt Nat _ L h.objs.size := F.ns.lt
  have hab : @LE.le Nat _ g0.objs.size L := F.above
  have inB : ∀ b o, g0.get? b = some o → b ∉ outer.filterMap (·.frame) → B.get? b = some o := fun b o hb hn => hB b o (F.keep _ _ hb) fun hm => by
    rw [List.filterMap_cons] at hm
    rcases List.mem_cons.mp hm with rfl | hm
    · exact absurd (Nat.lt_of_lt_of_le (Heap.lt_size hb) F.above) (Nat.lt_irrefl _)
    · exact hn hm
  have baseB : ∀ b o, base.get? b = some o → B.get? b = some o := fun b o hb => inB b o (Bel.stays b o hb) fun hm => by
    rw [(Bel.frames.mem hm).1] at hb; cases hb
  have low : ∀ b o, base.get? b = some o → @LT.lt Nat _ b L := fun b o hb => Nat.lt_of_lt_of_le (Heap.lt_size (Bel.stays b o hb)) hab
  have toCut : ∀ {h' : Heap}, B.StaysIn h' → ∀ b o, base.get? b = some o → (cut h' L).get? b = some o := fun st b o hb => (cut_lt (low b o hb)).trans (st b o (baseB b o hb))
  refine noteNext (Around.frames_deeper Bel.stack) rfl F1 fun h₄ F₄ U₄ => ?_
  refine flightOff F₄ fun h₅ F₅ U₅ => ?_
  have U5 := U1.trans (U₄.trans U₅)
  have hns5 := U5.ns F.ns
  refine wpAny_handleBy_cons (codeAny_handlers_test (name_K (frCut hns5) (X₀.keeps (toCut F₅.stays)) (topRead_of (T₀.keeps (toCut F₅.stays))) ex ?_ hk hx hd)) (by intro q; cases q)
  have hC := at51 (X₀.keeps fun b o hb => F₅.stays b o (baseB b o hb))
  refine letG ?_
  intro P9
  obtain ⟨oe5, vs5, T5, oT5, ts5, he5, ⟨hc5, hdd5⟩, _⟩ := F₅.err
  k_unfold
  try clear P9
  refine wpAny_excMatches_sub_self hC he5 hc5 rfl (codeAny_handlers_suite_as ?_)
  refine flightOff F₅ fun h₆ F₆ U₆ => ?_
  have U6 := U5.trans U₆
  refine letG ?_
  intro P9
  obtain ⟨oe, vs6, T6, oT6, ts6, he6, ⟨hc6, hdd6⟩, hdat6, _⟩ := F₆.err
  k_unfold
  try clear P9
  have hd6 := F₆.stays _ _ hod
  have N₆ : News (cut h₆ L) L h₆ [(e, oe), (d, od)] := fun p hp => by
    rcases List.mem_cons.mp hp with rfl | hp
    · exact ⟨he6, Nat.ne_of_gt (show @LT.lt Nat _ L e by omega), cut_ge (show @LE.le Nat _ L e by omega)⟩
    · obtain rfl := List.mem_singleton.mp hp
      exact ⟨hd6, Nat.ne_of_gt (show @LT.lt Nat _ L d by omega), cut_ge (show @LE.le Nat _ L d by omega)⟩
  refine stN (frCut (U6.ns F.ns)) N₆ (fun h₇ F₇ N₇ => ?_) hk hlo
  refine k _ h₇ _ oe F₇ N₇ hc6 hdd6 ?_ (X₀.keeps (toCut F₆.stays)) (T₀.keeps (toCut F₆.stays)) (fun b o hb hn => ?_) (fun b o hb hn => ?_)
  · unfold notCls; rw [hdat6]
  · exact (cut_lt (Nat.lt_of_lt_of_le (Heap.lt_size hb) hab)).trans (F₆.stays b o (inB b o hb hn))
  · obtain ⟨sl, hs⟩ := U6 b o (F.keep b o hb) hn
    exact ⟨sl, (cut_lt (Nat.lt_of_lt_of_le (Heap.lt_size hb) hab)).trans hs⟩
end
theorem ga51 (P : Params) : findIn (K P) (.ref 51) "__getattribute__" = some (some (.builtin "BaseException.__getattribute__")) := by kernel_rfl
theorem gh51 (P : Params) : findIn (K P) (.ref 51) "__getattr__" = some none := by kernel_rfl
section
variable {w : World} {A : Around} {E : Value → Shared → Prop} {s : Shared}
theorem getMsg {x : Addr} {ox : Obj} {es : List DictEntry} {n : Nat} {v : Value} {expr : Bool} {Q : Value → Shared → Prop} (X : (K w.params).In s.heap) (I : InstAt s.heap x ox 51 (some (dictOf es n)))
    (hl : getL (Str.ofString "message") es = some (some v)) (hh : handedIn v = true) (h : Q v { s with toks := s.toks + 1 }) : wpAny (model pw w) A (getAttr (.ref x) (Str.ofString "message") expr) Q E s := by
  have FX := PySem.F.attr_Exception
  refine letG ?_
  intro P9
  obtain ⟨cd, hc, hm⟩ := Option.map_eq_some_iff.mp (mro51 w.params)
  k_unfold
  try clear P9
  refine letG ?_
  intro P9
  obtain ⟨cd', hc', hdct⟩ := Option.map_eq_some_iff.mp (dct51 w.params)
  k_unfold
  try clear P9
  rw [hc] at hc'; cases hc'
  have hf : findObj (K w.params) 51 (some (dictOf es n)) (Str.ofString "message") = some (.value v) := by
    unfold findObj W.ownOf
    rw [hc, Option.bind_some, msg51, Option.bind_some, hdct]
    simp only [Option.bind_some, if_true]
    rw [lookIn_dict, hl]
    rfl
  refine letG ?_
  intro P9
  obtain ⟨hp, g, d, t, os⟩ := s
  k_unfold
  try clear P9
  have L0 := I.type (M := model pw w)
  have L1 := looks_findIn (M := model pw w) X (ga51 w.params)
  have L2 := looks_findIn (M := model pw w) X (gh51 w.params)
  have L3 := looks_find (M := model pw w) X I hf
  have sub : Looks (model pw w) hp (isInstance (.ref x) (.type "BaseException")) true := I.type.andThen (looks_mroIn X (by unfold mroIn; rw [hc, Option.bind_some, hm]; rfl))
  unfold getAttr getAttrBy
  refine wpAny_bind (wpAny_mkText (wpAny_holding (wpAny_bind (L0.at (wpAny_bind (L1.at ?_))))))
  dsimp only
  rw [if_neg (by decide)]
  unfold getAttrByItsOwn hookBefore
  refine wpAny_bind (L2.at ?_)
  refine wpAny_bind (wpAny_attempt (wpAny_holding ?_))
  have hx0 : (expr && onTheHeap (Value.builtin "BaseException.__getattribute__")) = false := by cases expr <;> rfl
  unfold callGetattribute
  rw [hx0]
  unfold boundAndCalled
  rw [FX.ga.bind]
  refine wpAny_bind (wpAny_pure (wpAny_call (codeAny_call_builtin FX.ga.plain PySem.F.entry_bexc_ga (@check_slot (model pw w) _ _ ⟨hp, g, d, t + 1, os⟩ "BaseException.__getattribute__" "BaseException" "__getattribute__" (.ref x) [.str (Str.ofString "message") t] [] _ (by decide +kernel) (by decide +kernel) sub (PySem.F.args_bexc_ga _ _) ?_))))
  unfold Builtin.«object.__getattribute__»
  refine wpAny_bind (wpAny_pure (wpAny_bind (wpAny_pure (wpAny_bind (L0.at (wpAny_bind (L3.at ?_)))))))
  refine wpAny_pure ?_
  show wpAny _ _ (handedOut v) _ _ _
  rw [handedOut_of hh]; exact wpAny_pure h
theorem getMsgF {h₀ : Heap} {L x : Addr} {m : Str → Option Value} {ox : Obj} {es : List DictEntry} {n : Nat} {v : Value} {expr : Bool} {Q : Value → Shared → Prop} (F : Fr h₀ L s.heap m) (X₀ : (K w.params).In h₀) (I : InstAt s.heap x ox 51 (some (dictOf es n)))
    (hl : getL (Str.ofString "message") es = some (some v)) (hh : handedIn v = true) (h : Q v { s with toks := s.toks + 1 }) : wpAny (model pw w) A (getAttr (.ref x) (Str.ofString "message") expr) Q E s :=
  getMsg (X₀.keeps F.keep) I hl hh h
end
section
variable {prog : Program} {w : World} {A : Around} {E : Value → Shared → Prop} {s : Shared} {env : Env} {h₀ : Heap} {x : Str} {body : List Stmt} {Q : Flow → Shared → Prop}
theorem forWN {I : Addr} {fp : List Addr} {n : Nat} {P : Nat → Value → Prop} {St : Nat → Heap → Prop} {m₀ : Str → Option Value} {news : List (Addr × Obj)} (st : List Str) (J : Nat → (Str → Option Value) → List (Addr × Obj) → Prop)
    (W : Walks prog w A I fp [I] n P St) (hfp : ∀ b ∈ fp, b ≠ I → ∃ o, ∀ i u nw, J i u nw → (b, o) ∈ nw) (hLI : env.locals ≠ I) (hLf : env.locals ∉ fp) (hI : h₀.get? I = none) (hnI : ∀ p ∈ news, p.1 ≠ I) (hIs : ∀ i h, St i h → ∃ o, h.get? I = some o)
    (hst : St 0 s.heap) (F : Fr h₀ env.locals s.heap m₀) (N : News h₀ env.locals s.heap news) (hj : J 0 m₀ news)
    (turn : ∀ i v u nw oI h tk, i < n → P i v → J i u nw → Fr h₀ env.locals h (fun y => if y = x then some v else ov u m₀ st y) → News h₀ env.locals h ((I, oI) :: nw) → AllNe I nw →
      wpAny (model prog w) A (execs body env) (TurnEnd h₀ env.locals (x :: st) m₀ (J (i + 1)) I oI { s with heap := h, toks := tk } Q) E { s with heap := h, toks := tk })
    (done : ∀ u nw h tk, J n u nw → Fr h₀ env.locals h (ov u m₀ (x :: st)) → News h₀ env.locals h nw → Q .next { s with heap := h, toks := tk }) :
    LoopAtV prog w A h₀ env x body Q E (.ref I) s := by
  refine ⟨I, fp, [I], n, P, St, m₀, news, fun i m nw => (∀ z, z ∉ x :: st → m z = m₀ z) ∧ J i m nw, rfl, W, hLf, ?_, ?_, hst, F, N, ⟨fun _ _ => rfl, hj⟩, ?_, ?_⟩
  · intro b hb; rw [List.mem_singleton.mp hb]; exact hI
  · intro p hp hb; exact hnI p hp (List.mem_singleton.mp hb)
  · rintro i v m₁ news₁ s₁ own hJ9
    refine letG ?_
    intro P9
    obtain ⟨h, tk, rfl⟩ := hJ9
    k_unfold
    try clear P9
    rintro hi hP ⟨hm, hJ⟩ hoff hown hget hall hSt F₁ N₁
    obtain ⟨oI, heI⟩ := hIs _ _ hSt
    have hIo : (I, oI) ∈ own := hall I (W.sub I (List.mem_singleton.mpr rfl)) hI oI heI
    have em : (fun y => if y = x then some v else m₁ y) = fun y => if y = x then some v else ov m₁ m₀ st y := by
      funext y
      by_cases e : y = x
      · simp [e]
      · simp only [if_neg e]; exact (ov_eq e hm).symm
    rw [em] at F₁
    have N₂ : News h₀ env.locals h ((I, oI) :: news₁) := fun p hp => by
      rcases List.mem_cons.mp hp with rfl | hp
      · exact N₁ _ (List.mem_append_left _ hIo)
      · exact N₁ _ (List.mem_append_right _ hp)
    refine wpAny_mono (turn i v m₁ news₁ oI h tk hi hP hJ F₁ N₂ (allNe_of fun p hp e => hoff p hp (by rw [e]; exact List.mem_singleton.mpr rfl))) (fun f s₂ p => ?_) fun _ _ e => e
    have fin : (∃ h' tk' m' nw', s₂ = { { s with heap := h, toks := tk } with heap := h', toks := tk' } ∧ Fr h₀ env.locals h' m' ∧ News h₀ env.locals h' ((I, oI) :: nw') ∧ AllNe I nw' ∧ (∀ z, z ∉ x :: st → m' z = m₀ z) ∧ J (i + 1) m' nw') →
        LoopStepU h₀ env.locals [I] own (fun m nw => (∀ z, z ∉ x :: st → m z = m₀ z) ∧ J (i + 1) m nw) { s with heap := h, toks := tk } .next s₂ := by
      rintro hJ9
      refine letG ?_
      intro P9
      obtain ⟨h', tk', m', nw', e, F', N', hne, hm', hJ'⟩ := hJ9
      k_unfold
      try clear P9
      refine ⟨rfl, h', tk', m', nw', e, F', fun p hp => ?_, fun p hp hq => allNe_mem hne p hp (List.mem_singleton.mp hq), hm', hJ'⟩
      rcases List.mem_append.mp hp with hp | hp
      · by_cases ep : p.1 = I
        · have e1 := hget p hp
          rw [ep] at e1
          have e2 : some p.2 = some oI := e1.symm.trans heI
          have : p = (I, oI) := Prod.ext ep (Option.some.inj e2)
          rw [this]
          exact N' _ (List.mem_cons_self ..)
        · obtain ⟨o, ho⟩ := hfp p.1 (hown p hp) ep
          have e1 := hget p hp
          have e2 := (N₁ _ (List.mem_append_right _ (ho _ _ _ hJ))).1
          have : p = (p.1, o) := Prod.ext rfl (Option.some.inj (e1.symm.trans e2))
          rw [this]
          exact N' _ (List.mem_cons_of_mem _ (ho _ _ _ hJ'))
      · exact N' _ (List.mem_cons_of_mem _ hp)
    cases f with
    | ret v => exact .ret p
    | brk => exact .brk p
    | next => exact .next (fin p)
    | cont => exact .cont (fin p)
  · rintro h' tk m' news' F' N' _ ⟨hm, hJ⟩
    refine done m' news' h' tk hJ ?_ N'
    have : ov m' m₀ (x :: st) = m' := by
      funext z
      show (if z = x then m' z else ov m' m₀ st z) = m' z
      by_cases e : z = x
      · rw [if_pos e]
      · rw [if_neg e]; exact ov_eq e hm
    rw [this]; exact F'
/-- for x in a list of the ledger that the body leaves as it is -/
theorem forListN0 {L : Addr} {l : Addr} {vs : List Value} {c : Nat} {m₀ : Str → Option Value} {news : List (Addr × Obj)} (st : List Str) (J : Nat → (Str → Option Value) → List (Addr × Obj) → Prop)
    (hh : A.handled = none) (hl : ∀ i u nw, J i u nw → (l, W.listOf vs.toArray c) ∈ nw) (F : Fr h₀ L s.heap m₀) (N : News h₀ L s.heap news) (hj : J 0 m₀ news)
    (turn : ∀ i v u nw I oI h tk, vs[i]? = some v → J i u nw → Fr h₀ L h (fun y => if y = x then some v else ov u m₀ st y) → News h₀ L h ((I, oI) :: nw) → AllNe I nw →
      wpAny (model prog w) A (execs body env) (TurnEnd h₀ L (x :: st) m₀ (J (i + 1)) I oI { s with heap := h, toks := tk } Q) E { s with heap := h, toks := tk })
    (done : ∀ u nw h tk, J vs.length u nw → Fr h₀ L h (ov u m₀ (x :: st)) → News h₀ L h nw → Q .next { s with heap := h, toks := tk })
    (hL : env.locals = L := by with_unfolding_all rfl) :
    wpAny (model prog w) A (pyIter (.ref l)) (fun it s₂ => LoopAtV prog w A h₀ env x body Q E it s₂) E s := by
  subst hL
  have hlN := N _ (hl _ _ _ hj)
  have hls : s.heap.IsList l vs.toArray := ⟨_, hlN.1, rfl, c, rfl⟩
  have hlt : @LT.lt Nat _ l s.heap.objs.size := Heap.lt_size hlN.1
  have hne : l ≠ s.heap.objs.size := Nat.ne_of_lt hlt
  refine wpAny_pyIter_list hls ?_
  have W := Walks.list (prog := prog) (w := w) hh s.heap.objs.size l hne vs.toArray
  rw [List.size_toArray] at W
  refine forWN st J W ?_ ?_ ?_ ?_ ?_ ?_ ⟨⟨_, Heap.get?_push_size _ rfl, rfl, rfl⟩, hls.at fun o e => Heap.get?_push_of_some _ e⟩ (F.push _) (fun p hp => ⟨Heap.get?_push_of_some _ (N p hp).1, (N p hp).2⟩) hj ?_ ?_
  · intro b hb hne'
    rcases List.mem_cons.mp hb with e | hb
    · exact absurd e hne'
    · rw [List.mem_singleton.mp hb]; exact ⟨_, hl⟩
  · exact Nat.ne_of_lt F.ns.lt
  · intro hm
    rcases List.mem_cons.mp hm with e | hm
    · exact absurd F.ns.lt (e ▸ Nat.lt_irrefl _)
    · exact hlN.2.1 (List.mem_singleton.mp hm).symm
  · exact next_is_new F
  · intro p hp e
    exact absurd (Heap.lt_size (N p hp).1) (e ▸ Nat.lt_irrefl _)
  · rintro i h ⟨⟨o, e, _⟩, _⟩; exact ⟨o, e⟩
  · intro i v u nw oI h tk hi hP hJ F₁ N₁ hne'
    exact turn i v u nw _ oI h tk (by simpa using hP) hJ F₁ N₁ hne'
  · intro u nw h tk hJ F₁ N₁
    exact done u nw h tk hJ F₁ N₁
theorem forListN {L : Addr} {l : Addr} {vs : List Value} {c : Nat} {m₀ : Str → Option Value} {news : List (Addr × Obj)} (st : List Str) (J : Nat → (Str → Option Value) → List (Addr × Obj) → Prop)
    (hh : A.handled = none) (hl : ∀ i u nw, J i u nw → (l, W.listOf vs.toArray c) ∈ nw) (F : Fr h₀ L s.heap m₀) (N : News h₀ L s.heap news) (hj : J 0 m₀ news)
    (turn : ∀ i v u nw I oI h tk, vs[i]? = some v → J i u nw → Fr h₀ L h (fun y => if y = x then some v else ov u m₀ st y) → News h₀ L h ((I, oI) :: nw) → AllNe I nw →
      ∀ QT : Flow → Shared → Prop, (∀ f s', TurnEnd h₀ L (x :: st) m₀ (J (i + 1)) I oI { s with heap := h, toks := tk } Q f s' → QT f s') → wpAny (model prog w) A (execs body env) QT E { s with heap := h, toks := tk })
    (done : ∀ u nw h tk, J vs.length u nw → Fr h₀ L h (ov u m₀ (x :: st)) → News h₀ L h nw → Q .next { s with heap := h, toks := tk })
    (hL : env.locals = L := by with_unfolding_all rfl) :
    wpAny (model prog w) A (pyIter (.ref l)) (fun it s₂ => LoopAtV prog w A h₀ env x body Q E it s₂) E s := 
  forListN0 st J hh hl F N hj (fun i v u nw I oI h tk a b c d e => turn i v u nw I oI h tk a b c d e _ fun _ _ h => h) done hL
end
/-! the law is well said: four looks, each its own theorem (less memory at once) -/
noncomputable abbrev saidP : Program := (PySem.W.Fast.tw2368527892694137696 PySem.Challenge.rw_pq1411_01).prog
theorem saidA : PySem.W.Fast.tw8377067652309620493 saidP = true := by kernel_rfl
theorem saidB : PySem.W.Fast.tw17119622794617984870 saidP saidP.main.body (fun _ n => PySem.W.Fast.tw17868728402115742887 n) = true := by kernel_rfl
theorem saidC : PySem.W.Fast.tw17960256430627541270 (PySem.W.Fast.tw2368527892694137696 PySem.Challenge.rw_pq1411_01) = true := by
  unfold PySem.W.Fast.tw17960256430627541270 PySem.W.Fast.tw2436336058641802641 PySem.W.Fast.tw12908688711261696721
  rw [saidA, saidB]
  kernel_rfl
theorem said0 : OpenLaw.wellSaid PySem.Challenge.rw_pq1411_01 = true := by
  rw [PySem.W.Fast.te9446332074065402090]
  unfold PySem.W.Fast.tw9446332074065402090
  rw [saidC]
  kernel_rfl
theorem tables0 : (OpenLaw.row PySem.Challenge.rw_pq1411_01).prog.tablesWhole = true := by kernel_rfl
/-! the head: the program's top run once by the kernel over a tree of objects -/
/-- the top's run over a tree of objects, by a given step -/
noncomputable def topT (stp : SharedT → Thread → Option (SharedT × Thread)) (ok : Thread → Bool) : Nat → SharedT → Thread → Option SharedT
  | 0, _, _ => none
  | n + 1, s, t => match through t with
    | true => some s
    | false => match ok t with
      | false => none
      | true => match stp s t with
        | some (s', t') => topT stp ok n s' t'
        | none => none
theorem topT_spec {p : Program} {w : World} {n₀ : Nat} {ann : Option Value} : ∀ {n : Nat} {s s' : SharedT} {t : Thread}, topT (stepT (denote treeTable) p w) (stepOk n₀ ann) n s t = some s' → topRun treeTable p w n₀ ann n s.abs t = some s'.abs
  | 0, _, _, _, h => by cases h
  | n + 1, s, s', t, h => by
    unfold topT at h
    unfold topRun
    cases ht : through t with
    | true => rw [ht] at h; cases h; rfl
    | false =>
      rw [ht] at h
      cases hk : stepOk n₀ ann t with
      | false => rw [hk] at h; cases h
      | true =>
        rw [hk] at h
        cases hs : stepT (denote treeTable) p w s t with
        | none => rw [hs] at h; cases h
        | some r =>
          obtain ⟨s₂, t₂⟩ := r
          rw [hs] at h
          rw [stepT_spec hs]
          exact topT_spec h
/-- a tree that holds a list's objects -/
noncomputable def treeOf : List Obj → Nat → BT → Option BT
  | [], _, t => some t
  | o :: r, n, t => match (t.ins n o).get n with
    | some _ => treeOf r (n + 1) (t.ins n o)
    | none => none

theorem treeOf_get : ∀ {l : List Obj} {n : Nat} {t t' : BT}, treeOf l n t = some t' → ∀ i, t'.get i = if i < n then t.get i else match l[i - n]? with | some o => some o | none => t.get i
  | [], n, t, t', h, i => by
    cases h
    by_cases q : i < n <;> simp [q]
  | o :: r, n, t, t', h, i => by
    unfold treeOf at h
    cases e : (t.ins n o).get n with
    | none => rw [e] at h; cases h
    | some v =>
      rw [e] at h
      have ih := treeOf_get h i
      have gi := BT.get_ins o t n (by rw [e]; rfl)
      rw [ih]
      by_cases q : i < n
      · rw [if_pos (by omega), gi, if_neg (by omega), if_pos q]
      · rw [if_neg q]
        by_cases q2 : i = n
        · subst q2
          rw [if_pos (by omega), gi, if_pos rfl, Nat.sub_self]
          rfl
        · rw [if_neg (by omega), gi, if_neg q2]
          have : i - n = (i - (n + 1)) + 1 := by omega
          rw [this, List.getElem?_cons_succ]

noncomputable def ofShared (s : Shared) : Option SharedT := (treeOf s.heap.objs.toList 0 .nil).map fun t => ⟨t, s.heap.objs.size, s.heap.life, s.gens, s.drawn, s.toks, s.os⟩

theorem ofShared_abs {s : Shared} {x : SharedT} (h : ofShared s = some x) : x.abs = s := by
  unfold ofShared at h
  refine letG ?_
  intro P9
  obtain ⟨t, ht, rfl⟩ := Option.map_eq_some_iff.mp h
  k_unfold
  try clear P9
  refine letG ?_
  intro P9
  obtain ⟨⟨objs, life⟩, gens, drawn, toks, os⟩ := s
  k_unfold
  try clear P9
  have g := treeOf_get ht
  show (⟨absHeap t objs.size life, gens, drawn, toks, os⟩ : Shared) = _
  congr 1
  unfold absHeap
  congr 1
  apply Array.ext'
  rw [List.toList_toArray]
  apply List.ext_getElem?
  intro i
  unfold BT.list
  rw [List.getElem?_map]
  by_cases q : i < objs.size
  · rw [List.getElem?_range q]
    have := g i
    rw [if_neg (by omega), Nat.sub_zero] at this
    have e : objs.toList[i]? = some (objs.toList[i]'(by simpa using q)) := by simp [q]
    rw [e] at this
    rw [Option.map_some, this, e]
    rfl
  · rw [List.getElem?_eq_none (by simpa using q), List.getElem?_eq_none (by simpa using q)]
    rfl

noncomputable def headT (stp : SharedT → Thread → Option (SharedT × Thread)) (ok : Nat → Option Value → Thread → Bool) {β α : Type} (see : Shared → β) (mods : List Str) (p : Program) (Yf : Shared → α) (N : Nat) (s₀ : Shared) : Option (β × α) :=
  match s₀.heap.isNs mainGlobals && s₀.gens.size == 0 with
  | false => none
  | true => match ofShared s₀ with
    | none => none
    | some x => match topT stp (ok s₀.heap.objs.size (s₀.heap.nsMap mainGlobals "__annotations__")) N x (topStub p) with
      | none => none
      | some y => match staticsOk mods s₀.heap y.abs.heap && namesBound p y.abs.heap && gensDone y.abs && laidKept s₀.heap y.abs.heap with
        | false => none
        | true => some (see y.abs, Yf y.abs)
theorem leftO_of {p q : Program} {loose : List Str} {Xt : Shared → Bool} {α : Type} {Yf : Shared → α} {Ya : World → α} {N : Nat}
    (h : ∀ w : World, (match importEnds treeTable (opening p) w N (start (opening p)).1 (start (opening p)).2 with
      | some s => (match fenceModules? p s with
        | some s₀ => headT (stepT (denote treeTable) p w) stepOk (openSeen q loose (importedModules p.main.body) Xt true) (importedModules p.main.body) p Yf N s₀
        | none => none)
      | none => none) = some (openGood q loose, Ya w)) : LeftO p q loose Xt Yf Ya N := fun w => by
  have h := h w
  unfold openEnds fencedOpening
  cases e0 : importEnds treeTable (opening p) w N (start (opening p)).1 (start (opening p)).2 with
  | none => rw [e0] at h; cases h
  | some s =>
    rw [e0] at h
    dsimp only at h
    rw [Option.bind_some]
    cases e : fenceModules? p s with
    | none => rw [e] at h; cases h
    | some s₀ =>
      rw [e] at h
      dsimp only at h
      rw [Option.bind_some]
      unfold headT at h
      unfold topFrom
      cases e1 : (s₀.heap.isNs mainGlobals && s₀.gens.size == 0) with
      | false => rw [e1] at h; cases h
      | true =>
        rw [e1] at h
        dsimp only at h ⊢
        cases e2 : ofShared s₀ with
        | none => rw [e2] at h; cases h
        | some x =>
          rw [e2] at h
          dsimp only at h
          cases e3 : topT (stepT (denote treeTable) p w) (stepOk s₀.heap.objs.size (s₀.heap.nsMap mainGlobals "__annotations__")) N x (topStub p) with
          | none => rw [e3] at h; cases h
          | some y =>
            rw [e3] at h
            dsimp only at h
            have r := topT_spec e3
            rw [ofShared_abs e2] at r
            rw [r, Option.bind_some]
            cases e4 : (staticsOk (importedModules p.main.body) s₀.heap y.abs.heap && namesBound p y.abs.heap && gensDone y.abs && laidKept s₀.heap y.abs.heap) with
            | false => rw [e4] at h; cases h
            | true =>
              rw [e4] at h
              exact h
noncomputable def looseQ : List Str := [Str.ofString "_wall", Str.ofString "CoveError", Str.ofString "Refusal", Str.ofString "from_int", Str.ofString "is_na", Str.ofString "nearest_whole", Str.ofString "exponent", Str.ofString "compare", Str.ofString "whole_text", Str.ofString "special_text", Str.ofString "scaled", Str.ofString "significant", Str.ofString "without_tail", Str.ofString "scientific_text", Str.ofString "fixed_text", Str.ofString "measures", Str.ofString "chosen_form", Str.ofString "formed", Str.ofString "common_texts", Str.ofString "number_text", Str.ofString "MOST_LENGTH", Str.ofString "Vector", Str.ofString "room", Str.ofString "logical", Str.ofString "integer", Str.ofString "character", Str.ofString "named", Str.ofString "text", Str.ofString "length", Str.ofString "is_atomic", Str.ofString "get_attr", Str.ofString "label_text", Str.ofString "level_at", Str.ofString "label_texts", Str.ofString "names_of", Str.ofString "dim_of", Str.ofString "dimnames_of", Str.ofString "class_attr", Str.ofString "recycle_length", Str.ofString "note_recycling", Str.ofString "product", Str.ofString "result_dim", Str.ofString "note_array_of_one", Str.ofString "common_length", Str.ofString "attribute", Str.ofString "shape_attrs", Str.ofString "to_text", Str.ofString "holds", Str.ofString "plain_order", Str.ofString "comparable", Str.ofString "text_items", Str.ofString "double_items", Str.ofString "compare_op", Str.ofString "is_lacking", Str.ofString "compare_items", Str.ofString "check_sortable", Str.ofString "compare_places", Str.ofString "compare_keys", Str.ofString "merge_runs", Str.ofString "merge_sort", Str.ofString "each_key", Str.ofString "kept_places", Str.ofString "order_by", Str.ofString "MOST_SIGNS", Str.ofString "is_factor", Str.ofString "is_ordered", Str.ofString "level_texts", Str.ofString "codes_in", Str.ofString "factor_texts", Str.ofString "factor_class", Str.ofString "with_levels", Str.ofString "distinct_texts", Str.ofString "sorted_levels", Str.ofString "codes_of", Str.ofString "item_texts", Str.ofString "label_list", Str.ofString "check_distinct", Str.ofString "make_factor", Str.ofString "drop_levels", Str.ofString "interaction", Str.ofString "codes_alone", Str.ofString "combine_factors", Str.ofString "meaningless", Str.ofString "text_vector", Str.ofString "check_same_levels", Str.ofString "compare_ordered", Str.ofString "compare_factor", Str.ofString "_law_beads", Str.ofString "_law_bead", Str.ofString "_law_words", Str.ofString "_law_factor", Str.ofString "_law_told"]
theorem kAs_eq (P : Params) : kAs = (K P).map (·.1) := by kernel_rfl
noncomputable abbrev kH : Hook := kHook K kAs kAs_eq
theorem left : LeftO pw q looseQ (fun s => xlAt q [] s && recOk (RowW.records (OpenRow.toRowW (OpenLaw.row PySem.Challenge.rw_pq1411_01))) s) (Hook.obs kH) (Hook.val kH) 4000 := by
  refine leftO_of ?_
  intro w
  rw [PySem.W.Fast.te10156331382660048174, PySem.W.Fast.te11892475500146522536, PySem.W.Fast.te14364793385576792824, PySem.W.Fast.te4187177175401517315, PySem.W.Fast.te10274390034422433532, PySem.W.Fast.te1435165496053646825, PySem.W.Fast.te14289696077712309145, PySem.W.Fast.te6613529449190102663, PySem.W.Fast.te5923862056798008813]
  kernel_rfl
theorem kFilled : (PySem.Challenge.rw_pq1411_01, K) = (PySem.Challenge.rw_pq1411_01, K) := by k_fill; rfl
local macro_rules | `(tactic| walk_at $s:str) => `(tactic| first | k_extra $s | fail "no row")
local macro_rules | `(tactic| is_list) => `(tactic| first | k_extra "is_list" | fail "no row")
local macro_rules | `(tactic| k_all) => `(tactic| first | k_extra "k_all" | fail "no row")
local macro_rules | `(tactic| k_enter) => `(tactic| first | k_extra "k_enter" | fail "no row")
local macro_rules | `(tactic| k_inst) => `(tactic| first | k_extra "k_inst" | fail "no row")
local macro_rules | `(tactic| k_mem) => `(tactic| first | k_extra "k_mem" | fail "no row")
local macro_rules | `(tactic| k_ne) => `(tactic| first | k_extra "k_ne" | fail "no row")
local macro_rules | `(tactic| k_room) => `(tactic| first | k_extra "k_room" | fail "no row")
local macro_rules | `(tactic| k_units) => `(tactic| first | k_extra "k_units" | fail "no row")
local macro_rules | `(tactic| lcg_sub) => `(tactic| first | k_extra "lcg_sub" | fail "no row")
local macro_rules | `(tactic| leave1) => `(tactic| first | k_extra "leave1" | fail "no row")
theorem row1 : True := by
  (k_with "m_zip" => first | exact ZipAre.nil | (refine' ZipAre.cons ?zz_r0; (case zz_r0 => walk_at "m_zip")))
  (k_with "m_mask" => first | exact MaskAre.nil | (refine' MaskAre.t rfl ?zz_r1; (case zz_r1 => walk_at "m_mask")) | (refine' MaskAre.f rfl ?zz_r1; (case zz_r1 => walk_at "m_mask")))
  (k_with "k_room" => first | exact room0 (by with_reducible assumption) | exact room1 (by with_reducible assumption) | ((have hR9ρ := recLimit); (try simp only [depth_under_make, depth_under_kw, depth_in1, depth_deeper, depth_caller]); omega))
  (k_with "k_units" => ((have hC9ρ := cLine_eq); (try simp only [Around.mark_units, Around.deeper_units, Around.in1_units]); omega))
  (k_with "k_inst" => (refine' instBase ?F_r4 ?h1_r4 ?h2_r4; (case F_r4 => k_asm); (case h1_r4 => k_asm); (case h2_r4 => k_asm)))
  (k_with "m_enter" => (
  refine' enter ?k3_r5 ?k5_r5 ?k6_r5 ?k7_r5 ?k8_r5 ?kz_r5 ?k9_r5 ?kB_r5 ?_ ?c2_r5 ?c3_r5 ?c4_r5 ?c5_r5
  (case k3_r5 => assumption)
  (case k5_r5 => assumption)
  (case k6_r5 => k_is)
  (case k7_r5 => k_is)
  (case k8_r5 => k_room)
  (case kz_r5 => walk_at "m_zip")
  (case k9_r5 => first | exact BindsTo.of_eq rfl | exact binds_K (by k_in) rfl (by k_is) rfl rfl rfl)
  (case c5_r5 => decide)
  (case kB_r5 => exact locs rfl)
  (case c2_r5 => exact rfl)
  (case c3_r5 => exact rfl)
  (case c4_r5 => exact rfl)
  k_whole
  intro L'ρ h'ρ F'ρ N'ρ
  (dsimp only [List.reverse, List.reverseAux] at F'ρ)
  (try dsimp only)
  (try k_fold)))
  (k_with "m_goR" => (k_dflt walk_at "m_enter"; k_steps))
  (k_with "m_go" => (k_dflt walk_at "m_enter"; (have calm9ρ : Calm := trivial); (refine wpAny_noE ?_); k_steps))
  (k_with "m_cx" => (with_unfolding_all refine Cx.pushE (by with_reducible assumption) (by with_reducible assumption) (by with_reducible assumption) (by first | with_reducible assumption | assumption) (by with_reducible assumption) rfl rfl))
  (k_with "m_dep" => first | exact depLe1 (by with_reducible assumption) (by exact rfl) | exact uniLe1 (by with_reducible assumption) (by exact rfl) | exact depLe2 (by with_reducible assumption) (by exact rfl) | exact uniLe2 (by with_reducible assumption) (by exact rfl) | exact depLe0 (by with_reducible assumption) (by exact rfl) | exact uniLe0 (by with_reducible assumption) (by exact rfl) | ((simp only [depth_deeper, Around.deeper_units]); omega))
  (k_with "k_enter" => (refine' code_def ?k1_r10 ?k2_r10 ?k3_r10 ?k4_r10 ?k5_r10 ?kA_r10 ?kF_r10 ?kK_r10 ?k6_r10 ?k7_r10 ?k8_r10 ?k9_r10 ?kB_r10 ?_ ?c2_r10 ?c3_r10 ?c4_r10 ?c5_r10; (case kA_r10 => exact Around.frames_deeper (Below.stack (by assumption))); (case kF_r10 => exact rfl); (case kK_r10 => exact rfl); (case k1_r10 => k_asm); (case k2_r10 => k_asm); (case k3_r10 => k_asm); (case k4_r10 => k_asm); (case k5_r10 => k_asm); (case k6_r10 => k_is); (case k7_r10 => k_is); (case k8_r10 => k_room); (case k9_r10 => first | exact BindsTo.of_eq rfl | exact binds_K (by k_in) rfl (by k_is) rfl rfl rfl | fail "k_enter: no rule for these arguments"); (case c5_r10 => decide); (case kB_r10 => exact locs rfl); (case c2_r10 => exact rfl); (case c3_r10 => exact rfl); (case c4_r10 => exact rfl); k_whole; intro g'ρ L'ρ h'ρ FG'ρ F'ρ N'ρ B'ρ X'ρ T'ρ; (try dsimp only); (try k_lift B'ρ); (try k_fold); (try (refine calmE (by with_reducible assumption) ?_))))
  (k_with "is_list" => first | exact News.isList (by k_asm) (by k_mem) | exact isListBase (by assumption) (by assumption) | exact isListAt (by assumption))
  (k_with "call builtin:len" => (k_here; (with_reducible show wpAny _ _ (call (Value.builtin "len") [Value.ref _]) _ _ _); k_dflt (refine' lenL ?k1_r12 ?k2_r12 ?_; (case k1_r12 => is_list); (case k2_r12 => first | assumption | omega | (simp; omega)); k_whole)))
  (k_with "m_item" => (k_here; (with_reducible show wpAny _ _ (subscriptTail _ _ (Value.ref _) (Value.int _ _)) _ _ _); k_dflt (refine' itemL ?k1_r13 ?k2_r13 ?k3_r13 ?k4_r13 ?_ ?k6_r13; (case k1_r13 => is_list); (case k4_r13 => first | with_reducible assumption | assumption | (simp; assumption)); (case k2_r13 => omega); (case k3_r13 => omega); (case k6_r13 => with_unfolding_all rfl); k_whole)))
  (k_with "subscriptTail" => walk_at "m_item")
  (k_with "subscriptTail Name BinOp ref int" => walk_at "m_item")
  (k_with "subscriptTail Name Name ref int" => walk_at "m_item")
  (k_with "subscriptTail Attribute Name Constant ref int" => walk_at "m_item")
  (k_with "m_dict" => first | exact dictNews (by k_asm) (by k_mem) (by assumption) | exact dictBase (by assumption) (by assumption) (by assumption))
  (k_with "getMethod ref" => (k_here; (with_reducible show wpAny _ _ (getMethod (Value.ref _) (Str.ofString "get") _) _ _ _); k_dflt (refine' dMeth ?k1_r19 ?_; (case k1_r19 => walk_at "m_dict"))))
  (k_with "call builtin:dict.get" => (k_here; (with_reducible show wpAny _ _ (call (Value.builtin "dict.get") [Value.ref _, Value.str _ _]) _ _ _); k_dflt (refine' dGet ?k1_r20 ?k2_r20 _ ?k3_r20 ?_; (case k1_r20 => walk_at "m_dict"); (case k2_r20 => assumption); (case k3_r20 => first | assumption | (with_unfolding_all rfl)); k_whole)))
  (k_with "m_back" => (intro h'ρ tk'ρ kp'ρ; (with_reducible rename Fr _ _ _ _ => mFρ); (with_reducible rename News _ _ _ _ => mNρ); (have F'ρ := Fr.keeps mFρ kp'ρ); (have N'ρ := News.grown mNρ kp'ρ); (try clear mNρ); (try clear mFρ); (try clear kp'ρ); (try dsimp only)))
  (k_with "m_get" => first | assumption | exact Fr.keep (by assumption) _ _ (by assumption) | exact News.get (by k_asm) (by k_mem))
  (k_with "m_backL" => (intro h'ρ tk'ρ kp'ρ fr'ρ; (with_reducible rename Fr _ _ _ _ => mFρ); (with_reducible rename News _ _ _ _ => mNρ); (refine newsLk mFρ mNρ kp'ρ fr'ρ ?_); intro F'ρ N'ρ l1ρ; (try clear mNρ); (try clear mFρ); (try clear kp'ρ); (try clear fr'ρ); (try dsimp only)))
  (k_with "m_fresh" => exact freshOf (by k_asm) (by k_mem))
  (k_with "m_enterC" => (
  refine' enterC ?k3_r25 ?k5_r25 ?k6_r25 ?k7_r25 ?k8_r25 ?kz_r25 ?km_r25 ?k9_r25 ?kB_r25 ?kD_r25 ?_ ?c2_r25 ?c3_r25 ?c4_r25
  (case k3_r25 => assumption)
  (case k5_r25 => assumption)
  (case k6_r25 => k_is)
  (case k7_r25 => k_is)
  (case k8_r25 => k_room)
  (case kz_r25 => walk_at "m_zip")
  (case km_r25 => walk_at "m_mask")
  (case k9_r25 => first | exact BindsTo.of_eq rfl | exact binds_K (by k_in) rfl (by k_is) rfl rfl rfl)
  (case kB_r25 => exact rfl)
  (case kD_r25 => decide +kernel)
  (case c2_r25 => exact rfl)
  (case c3_r25 => exact rfl)
  (case c4_r25 => exact rfl)
  k_whole
  intro L'ρ h'ρ tk'ρ cells'ρ F'ρ N'ρ Y'ρ
  (dsimp only [bindM, bindCM] at F'ρ Y'ρ)
  k_cells Y'ρ
  (try dsimp only)
  (try k_fold)))
  (k_with "m_goCR" => (k_dflt walk_at "m_enterC"; k_steps))
  (k_with "m_goC" => (k_dflt walk_at "m_enterC"; (have calm9ρ : Calm := trivial); (refine wpAny_noE ?_); k_steps))
  (k_with "CompSrc" => (k_here; k_dflt (first
  | (refine LCg.CompSrc.ledger (by first | rfl | assumption) (by k_asm) (by k_asm) (by k_mem) (by first | size_fits | (simp only [List.size_toArray, sizeLine_eq]; omega)) ?_; intro g'ρ; refine Halt.out ?_)
  | (refine LCg.CompSrc.base (by first | rfl | assumption) (by k_asm) (by k_asm) (by first | assumption | exact isListAt (by assumption)) (by first | size_fits | (simp only [List.size_toArray, sizeLine_eq]; omega)) ?_; intro g'ρ; refine Halt.out ?_)
  | (refine LCg.CompSrc.range (n := _) (by first | rfl | assumption) (by k_asm) (by k_asm) (by assumption) (rangeLen_small (by omega)) (rangeLen_size _) (by first | size_fits | (rw [sizeLine_eq]; omega)) ?_; intro g'ρ; refine Halt.out ?_))))
  (k_with "m_turn" => (intro v'ρ I'ρ oI'ρ C'ρ oC'ρ D'ρ m'ρ h'ρ tk'ρ E'ρ hv'ρ hC'ρ hx'ρ F'ρ N'ρ off'ρ ne'ρ; (try simp only [LCg.Off3, and_true] at off'ρ)))
  (k_with "CompEnd" => (k_dflt (refine' LCg.CompEnd.intro ?F_r30 ?N_r30 _ ?s_r30 ?o_r30 ?c_r30 ⟨rfl, ?_⟩; (case F_r30 => k_asm); (case N_r30 => k_asm); (case s_r30 => lcg_sub); (case o_r30 => first | with_reducible assumption | lcg_off); (case c_r30 => first | lcg_src | exact Or.inl (isListAt (by assumption))))))
  (k_with "exec For" => (k_here; (with_reducible rename Fr _ _ _ _ => lF'ρ); (with_unfolding_all refine' forHalt lF'ρ ?k1_r31 ?k2_r31 ?_; (case k1_r31 => exact rfl); (case k2_r31 => exact rfl); k_whole)))
  (k_with "exec For Name Name cons nil" => walk_at "exec For")
  (k_with "exec For Name Call cons nil" => walk_at "exec For")
  (k_with "exec For Name Attribute cons nil" => walk_at "exec For")
  (k_with "setItem ref str" => (k_here; k_dflt (refine' dSet ?F_r35 ?N_r35 ?U_r35 ?d_r35 ?z_r35 ?_; (case F_r35 => k_asm); (case N_r35 => k_asm); (case U_r35 => k_updF); (case d_r35 => assumption); (case z_r35 => first | assumption | omega | (simp; done) | (simp; omega))); intro h'ρ o'ρ F'ρ N'ρ hd'ρ; (try dsimp only at N'ρ)))
  (k_with "k_ne" => (refine neN ?_; (try dsimp only); first | with_reducible assumption | (refine Ne.symm ?_; with_reducible assumption) | exact neA (by with_reducible assumption) (by k_mem) | exact Ne.symm (neA (by with_reducible assumption) (by k_mem)) | ((repeat ((with_reducible rename @Ne Nat _ _ => hx9ρ); clear hx9ρ)); omega)))
  (k_with "m_agree" => (intro zρ hzρ; (simp only [List.mem_cons, List.not_mem_nil, or_false, not_or] at hzρ); (simp [ov, hzρ])))
  (k_with "m_off" => first | exact trivial | assumption | (refine allNeCons (by k_ne) ?_; walk_at "m_off"))
  (k_with "call type:list" => (k_here; (with_reducible show wpAny _ _ (call (Value.type "list") [Value.ref _]) _ _ _); k_dflt (refine' dList ?h_r39 ?F_r39 ?N_r39 ?p_r39 ?d_r39 ?l_r39 ?n_r39 ?_; (case h_r39 => first | rfl | assumption); (case F_r39 => k_asm); (case N_r39 => k_asm); (case p_r39 => k_mem); (case d_r39 => assumption); (case l_r39 => assumption); (case n_r39 => first | assumption | omega)); intro B'ρ c'ρ h'ρ tk'ρ vs'ρ F'ρ N'ρ l1ρ hp'ρ; (try k_lt l1ρ)))
  (k_with "m_tend" => (k_dflt (refine' TurnEnd.intro3 _ ?f_r40 ?F_r40 ?N_r40 ?m_r40 ?_; (case f_r40 => first | exact Or.inl rfl | exact Or.inr rfl); (case F_r40 => k_asm); (case N_r40 => k_asm); (case m_r40 => walk_at "m_agree"))))
  (k_with "exec While" => (k_here; (with_reducible show wpAny _ _ (exec (Stmt.While _ _ _ _) _) _ _ _); (with_reducible refine Halt.out ?_)))
  (k_with "m_wend" => (k_dflt (refine' WTurn.intro ?F_r42 ?N_r42 ?m_r42 ?_; (case F_r42 => k_asm); (case N_r42 => k_asm); (case m_r42 => walk_at "m_agree"))))
  (k_with "call builtin:list.append" => (k_here; (with_reducible show wpAny _ _ (call (Value.builtin _) [Value.ref _, _]) _ _ _); k_dflt (refine' appendL ?k1_r43 ?k2_r43 ?k3_r43 ?z_r43 ?_; (case k1_r43 => k_asm); (case k2_r43 => k_asm); (case k3_r43 => k_upd); (case z_r43 => first | assumption | omega | (simp; done) | (simp; omega)); k_whole); intro h'ρ F'ρ N'ρ; (try dsimp only [List.cons_append, List.nil_append] at N'ρ)))
  (k_with "compareOp In str ref" => (k_here; (with_reducible show wpAny _ _ (compareOp CmpOp.In (Value.str _ _) (Value.ref _)) _ _ _); k_dflt (refine' dInB ?k1_r44 ?k2_r44 _ ?k3_r44 ?_; (case k1_r44 => walk_at "m_dict"); (case k2_r44 => assumption); (case k3_r44 => first | assumption | exact rfl); k_whole)))
  (k_with "compareOp NotIn str ref" => (k_here; (with_reducible show wpAny _ _ (compareOp CmpOp.NotIn (Value.str _ _) (Value.ref _)) _ _ _); k_dflt (refine' dNotInB ?k1_r45 ?k2_r45 _ ?k3_r45 ?_; (case k1_r45 => walk_at "m_dict"); (case k2_r45 => assumption); (case k3_r45 => first | assumption | exact rfl); k_whole)))
  (k_with "ite" => (k_here; k_openite; k_spoken; first | (refine ite_pos (beq_iff_eq.mpr (by omega)) ?_; walk_say "PRUNED mine") | (refine ite_isFalse (beq_eq_false_iff_ne.mpr (by omega)) ?_; walk_say "PRUNED mine")))
  (k_with "m_list" => first | exact News.isList (by k_asm) (by k_mem) | exact isListBase (by assumption) (by assumption) | exact isListAt (by assumption) | exact Fr.lst (by k_asm) (by k_asm) | k_asm)
  (k_with "subscriptTail Name Slice ref ref" => (k_here; k_dflt (first | (refine' sliceFromL ?F_r48 ?N_r48 ?l_r48 ?z_r48 ?o_r48 ?_ ?s_r48 ?t_r48; (case F_r48 => k_asm); (case N_r48 => k_asm); (case l_r48 => walk_at "m_list"); (case z_r48 => walk_at "m_num"); (case o_r48 => omega); (case s_r48 => with_unfolding_all rfl); (case t_r48 => (intro _; with_unfolding_all rfl))) | (refine' sliceUptoL ?F_r48 ?N_r48 ?l_r48 ?z_r48 ?o_r48 ?_ ?s_r48 ?t_r48; (case F_r48 => k_asm); (case N_r48 => k_asm); (case l_r48 => walk_at "m_list"); (case z_r48 => walk_at "m_num"); (case o_r48 => omega); (case s_r48 => with_unfolding_all rfl); (case t_r48 => (intro _; with_unfolding_all rfl)))); intro D'ρ h'ρ F'ρ N'ρ l1'ρ; (try simp only [Int.toNat_natCast, Int.reduceToNat] at N'ρ)))
  (k_with "m_add" => first | omega | ((simp only [List.length_append, List.length_drop, List.length_take, List.length_cons, List.length_nil]); omega))
  (k_with "binaryOp Add ref ref" => (k_here; (with_reducible show wpAny _ _ (binaryOp _ (Value.ref _) (Value.ref _)) _ _ _); k_dflt (refine' addL ?F_r50 ?N_r50 ?a_r50 ?b_r50 ?z_r50 ?_; (case F_r50 => k_asm); (case N_r50 => k_asm); (case a_r50 => walk_at "m_list"); (case b_r50 => walk_at "m_list"); (case z_r50 => walk_at "m_add")); intro D'ρ h'ρ F'ρ N'ρ l1'ρ))
  (k_with "subscriptTail" => (k_here; (with_reducible show wpAny _ _ (subscriptTail _ _ (Value.ref _) (Value.int (-1) _)) _ _ _); k_dflt (refine' itemLast ?k1_r51 ?k2_r51 ?k4_r51 ?_ ?k6_r51; (case k1_r51 => is_list); (case k4_r51 => assumption); (case k2_r51 => omega); (case k6_r51 => with_unfolding_all rfl); k_whole)))
  (k_with "CompSrcT" => (k_here; k_dflt (first
  | (refine LCt.CompSrcT.ledger (by first | rfl | assumption) (by k_asm) (by k_asm) (by k_mem) (by first | size_fits | (simp only [List.size_toArray, sizeLine_eq]; omega)) ?_; intro g'ρ; refine Halt.out ?_)
  | (refine LCt.CompSrcT.base (by first | rfl | assumption) (by k_asm) (by k_asm) (by first | assumption | exact isListAt (by assumption)) (by first | size_fits | (simp only [List.size_toArray, sizeLine_eq]; omega)) ?_; intro g'ρ; refine Halt.out ?_))))
  (k_with "leave1" => first | (refine backQ (by with_reducible assumption) ?_) | (with_reducible refine turnRet ?_))
  trivial
/-- a value that is a text or None -/
noncomputable def IsOS (v : Value) : Option Str → Prop
  | none => v = .none
  | some x => ∃ t, v = .str x t
/-- a value that is an int or None -/
noncomputable def IsOI (v : Value) : Option Int → Prop
  | none => v = .none
  | some x => ∃ t, v = .int x t
noncomputable def cmpS (x y : Str) : Int := if x.cps.toList < y.cps.toList then -1 else if y.cps.toList < x.cps.toList then 1 else 0
section
variable {w : World} {A : Around} {base : Heap} {outer : List Env} {loose : List Str} {mean : ExcName → Option Value} {mg mb : Str → Option Value} {s : Shared} {E : Value → Shared → Prop} {Q : Value → Shared → Prop}
theorem compare_items_c {x y : Str} {t1 t2 t3 : Tok}
    (C : Cx w A base outer loose mean mg mb s.heap) (hd : A.depth + 3 ≤ 700) (hu : A.units + 30 ≤ 8000)
    (hret : ∀ t h' tk', Kept s.heap h' → Q (.int (cmpS x y) t) { s with heap := h', toks := tk' }) :
    wpAny (model pw w) A (call (.ref 420) [.str (Str.ofString "character") t1, .str x t2, .str y t3]) Q E s := by
  obtain ⟨B, X, T, hh⟩ := C
  have hret : ∀ k t h' tk', Kept s.heap h' → k = cmpS x y → Q (.int k t) { s with heap := h', toks := tk' } := fun k t h' tk' a e => e ▸ hret t h' tk' a
  walk_at "m_go"
  all_goals exact hret _ _ _ _ (Fr.keep (by assumption)) (by simp only [cmpS, *, if_true, if_false])
theorem is_lacking_c {v : Value} {x : Option Str} {t1 : Tok} (hv : IsOS v x)
    (C : Cx w A base outer loose mean mg mb s.heap) (hd : A.depth + 3 ≤ 700) (hu : A.units + 30 ≤ 8000)
    (hret : ∀ h' tk', Kept s.heap h' → Q (.bool x.isNone) { s with heap := h', toks := tk' }) :
    wpAny (model pw w) A (call (.ref 413) [.str (Str.ofString "character") t1, v]) Q E s := by
  obtain ⟨B, X, T, hh⟩ := C
  cases x with
  | none =>
    cases hv
    walk_at "m_go"
    all_goals exact hret _ _ (Fr.keep (by assumption))
  | some x =>
    obtain ⟨t, rfl⟩ := hv
    walk_at "m_go"
    all_goals exact hret _ _ (Fr.keep (by assumption))
end
/-- a Vector's own dict -/
noncomputable abbrev vecEs (P : Params) (kind : Str) (items attrs : Value) (a b c d e k : Tok) : List DictEntry :=
  [⟨PyData.keyHash P (Str.ofString "kind"), .str (Str.ofString "kind") a, .str kind k⟩, ⟨PyData.keyHash P (Str.ofString "items"), .str (Str.ofString "items") b, items⟩, ⟨PyData.keyHash P (Str.ofString "attrs"), .str (Str.ofString "attrs") c, attrs⟩,
   ⟨PyData.keyHash P (Str.ofString "shared"), .str (Str.ofString "shared") d, .bool false⟩, ⟨PyData.keyHash P (Str.ofString "loose"), .str (Str.ofString "loose") e, .bool false⟩]
inductive VecAt (P : Params) (h : Heap) (x : Addr) (kind : Str) (items attrs : Value) : Prop
  | mk : ∀ dx n a b c d e k, h.get? x = some (instObj 196 dx) →
    h.get? dx = some (dictOf (vecEs P kind items attrs a b c d e k) n) → VecAt P h x kind items attrs
theorem VecAt.elim {P : Params} {h : Heap} {x : Addr} {kind : Str} {items attrs : Value} {G : Prop} (v : VecAt P h x kind items attrs) (g : ∀ dx n a b c d e k, h.get? x = some (instObj 196 dx) → h.get? dx = some (dictOf (vecEs P kind items attrs a b c d e k) n) → G) : G :=
  by
  cases v with
  | mk _ _ _ _ _ _ _ _ h1 h2 => exact g _ _ _ _ _ _ _ _ h1 h2
theorem VecAt.keeps {P : Params} {h h' : Heap} {x : Addr} {kind : Str} {items attrs : Value} (v : VecAt P h x kind items attrs) (k : Kept h h') : VecAt P h' x kind items attrs := by
  refine v.elim ?_
  intro dx n a b c d e t h1 h2
  exact ⟨dx, n, a, b, c, d, e, t, k _ _ h1, k _ _ h2⟩
theorem VecAt.ofNews {P : Params} {h₀ h : Heap} {L x dx : Addr} {news : List (Addr × Obj)} {kind : Str} {items attrs : Value} {n a b c d e t : Nat} (N : News h₀ L h news) (h1 : (x, instObj 196 dx) ∈ news) (h2 : (dx, dictOf (vecEs P kind items attrs a b c d e t) n) ∈ news) : VecAt P h x kind items attrs :=
  ⟨dx, n, a, b, c, d, e, t, (N _ h1).1, (N _ h2).1⟩
/-- a factor: its codes, its levels -/
inductive FacAt (w : World) (h : Heap) (x : Addr) (l : Addr) (vs lvs : List Value) : Prop
  | mk : ∀ n ad o lv lt cv ct n1 n2 t, VecAt w.params h x (Str.ofString "integer") (.ref l) (.ref ad) →
    h.get? l = some (W.listOf vs.toArray n) →
    h.get? ad = some o →
    o.IsDictOf (PySem.strKind pw w) [(Str.ofString "levels", .ref lv), (Str.ofString "class", .ref cv)] →
    (ad == sysModules) = false →
    VecAt w.params h lv (Str.ofString "character") (.ref lt) .none →
    h.get? lt = some (W.listOf lvs.toArray n1) →
    VecAt w.params h cv (Str.ofString "character") (.ref ct) .none →
    h.get? ct = some (W.listOf [Value.str (Str.ofString "factor") t].toArray n2) → FacAt w h x l vs lvs
theorem FacAt.elim {w : World} {h : Heap} {x l : Addr} {vs lvs : List Value} {G : Prop} (v : FacAt w h x l vs lvs) (g : ∀ n ad o lv lt cv ct n1 n2 t, VecAt w.params h x (Str.ofString "integer") (.ref l) (.ref ad) → h.get? l = some (W.listOf vs.toArray n) → h.get? ad = some o → o.IsDictOf (PySem.strKind pw w) [(Str.ofString "levels", .ref lv), (Str.ofString "class", .ref cv)] →
    (ad == sysModules) = false → VecAt w.params h lv (Str.ofString "character") (.ref lt) .none → h.get? lt = some (W.listOf lvs.toArray n1) → VecAt w.params h cv (Str.ofString "character") (.ref ct) .none → h.get? ct = some (W.listOf [Value.str (Str.ofString "factor") t].toArray n2) → G) : G :=
  by
  cases v with
  | mk _ _ _ _ _ _ _ _ _ _ h1 h2 h3 h4 h5 h6 h7 h8 h9 => exact g _ _ _ _ _ _ _ _ _ _ h1 h2 h3 h4 h5 h6 h7 h8 h9
theorem FacAt.elim2 {w : World} {h : Heap} {x l : Addr} {vs lvs : List Value} {G : Prop} (v : FacAt w h x l vs lvs) (g : ∀ n ad, VecAt w.params h x (Str.ofString "integer") (.ref l) (.ref ad) → h.get? l = some (W.listOf vs.toArray n) → G) : G :=
  v.elim fun n ad _ _ _ _ _ _ _ _ h1 h2 _ _ _ _ _ _ _ => g n ad h1 h2
theorem FacAt.keeps {w : World} {h h' : Heap} {x l : Addr} {vs lvs : List Value} (v : FacAt w h x l vs lvs) (k : Kept h h') : FacAt w h' x l vs lvs := by
  refine v.elim ?_
  intro n ad o lv lt cv ct n1 n2 t h1 h2 h3 h4 h5 h6 h7 h8 h9
  exact ⟨n, ad, o, lv, lt, cv, ct, n1, n2, t, h1.keeps k, k _ _ h2, k _ _ h3, h4, h5, h6.keeps k, k _ _ h7, h8.keeps k, k _ _ h9⟩
section
variable {w : World} {A : Around} {base : Heap} {outer : List Env} {loose : List Str} {mean : ExcName → Option Value} {mg mb : Str → Option Value} {s : Shared} {E : Value → Shared → Prop} {Q : Value → Shared → Prop}
theorem get_attr_0 {x : Addr} {kind name : Str} {items : Value} {t : Tok} (hv : VecAt w.params s.heap x kind items .none)
    (C : Cx w A base outer loose mean mg mb s.heap) (hd : A.depth + 3 ≤ 700) (hu : A.units + 30 ≤ 8000)
    (hret : ∀ h' tk', Kept s.heap h' → Q .none { s with heap := h', toks := tk' }) :
    wpAny (model pw w) A (call (.ref 263) [.ref x, .str name t]) Q E s := by
  obtain ⟨B, X, T, hh⟩ := C
  refine hv.elim ?_
  intro dx n a b c d e k hx hdx
  walk_at "m_go"
  all_goals exact hret _ _ (Fr.keep (by assumption))
theorem is_atomic_ch {x : Addr} {items attrs : Value} (hv : VecAt w.params s.heap x (Str.ofString "character") items attrs)
    (C : Cx w A base outer loose mean mg mb s.heap) (hd : A.depth + 3 ≤ 700) (hu : A.units + 30 ≤ 8000)
    (hret : ∀ h' tk', Kept s.heap h' → Q (.bool true) { s with heap := h', toks := tk' }) :
    wpAny (model pw w) A (call (.ref 256) [.ref x]) Q E s := by
  obtain ⟨B, X, T, hh⟩ := C
  refine hv.elim ?_
  intro dx n a b c d e k hx hdx
  walk_at "m_go"
  all_goals exact hret _ _ (Fr.keep (by assumption))
theorem length_c {x l : Addr} {kind : Str} {attrs : Value} {vs : List Value} {n : Nat} (hz : vs.length ≤ 1000000) (hv : VecAt w.params s.heap x kind (.ref l) attrs) (hl : s.heap.get? l = some (W.listOf vs.toArray n)) (hk : kind = Str.ofString "character" ∨ kind = Str.ofString "integer")
    (C : Cx w A base outer loose mean mg mb s.heap) (hd : A.depth + 3 ≤ 700) (hu : A.units + 30 ≤ 8000)
    (hret : ∀ t h' tk', Kept s.heap h' → Q (.int vs.length t) { s with heap := h', toks := tk' }) :
    wpAny (model pw w) A (call (.ref 249) [.ref x]) Q E s := by
  obtain ⟨B, X, T, hh⟩ := C
  refine hv.elim ?_
  intro dx n a b c d e k hx hdx
  have hret : ∀ i t h' tk', Kept s.heap h' → i = (vs.length : Int) → Q (.int i t) { s with heap := h', toks := tk' } := fun i t h' tk' a e => e ▸ hret t h' tk' a
  rcases hk with rfl | rfl
  · walk_at "m_go"
    all_goals (exact hret _ _ _ _ (Fr.keep (by assumption)) rfl)
  · walk_at "m_go"
    all_goals (exact hret _ _ _ _ (Fr.keep (by assumption)) rfl)
theorem label_text_c {v : Value} {x : Option Str} {t : Tok} (hv : IsOS v x)
    (C : Cx w A base outer loose mean mg mb s.heap) (hd : A.depth + 3 ≤ 700) (hu : A.units + 30 ≤ 8000)
    (hret : ∀ h' tk', Kept s.heap h' → Q v { s with heap := h', toks := tk' }) :
    wpAny (model pw w) A (call (.ref 270) [.str (Str.ofString "character") t, v]) Q E s := by
  obtain ⟨B, X, T, hh⟩ := C
  cases x with
  | none =>
    cases hv
    walk_at "m_go"
    all_goals exact hret _ _ (Fr.keep (by assumption))
  | some x =>
    obtain ⟨t, rfl⟩ := hv
    walk_at "m_go"
    all_goals exact hret _ _ (Fr.keep (by assumption))
end
theorem row2 : True := by
  (k_with "m_vec" => first | assumption | exact VecAt.keeps (by assumption) (Fr.keep (by assumption)) | exact VecAt.ofNews (by k_asm) (by k_mem) (by k_mem))
  (k_with "m_fac" => first | assumption | exact FacAt.keeps (by assumption) (Fr.keep (by assumption)))
  (k_with "m_num" => first | assumption | exact leLe (by with_reducible assumption) (by exact rfl) | omega | (simp; done) | (simp; omega))
  (k_with "call ref" => (k_here; (with_reducible show wpAny _ _ (call (Value.ref 256) _) _ _ _); k_dflt (refine' is_atomic_ch ?v_r57 ?C_r57 ?d_r57 ?u_r57 ?_; (case v_r57 => walk_at "m_vec"); (case C_r57 => walk_at "m_cx"); (case d_r57 => walk_at "m_dep"); (case u_r57 => walk_at "m_dep"); k_whole); walk_at "m_back"))
  (k_with "call ref" => (k_here; (with_reducible show wpAny _ _ (call (Value.ref 249) _) _ _ _); k_dflt (refine' length_c ?z_r58 ?v_r58 ?l_r58 ?k_r58 ?C_r58 ?d_r58 ?u_r58 ?_; (case v_r58 => walk_at "m_vec"); (case l_r58 => walk_at "m_get"); (case z_r58 => walk_at "m_num"); (case k_r58 => first | exact Or.inl rfl | exact Or.inr rfl); (case C_r58 => walk_at "m_cx"); (case d_r58 => walk_at "m_dep"); (case u_r58 => walk_at "m_dep"); k_whole); intro t'ρ; walk_at "m_back"))
  (k_with "call ref" => (k_here; (with_reducible show wpAny _ _ (call (Value.ref 270) _) _ _ _); k_dflt (refine' label_text_c ?v_r59 ?C_r59 ?d_r59 ?u_r59 ?_; (case v_r59 => first | assumption | exact (rfl : IsOS Value.none none) | exact ⟨_, rfl⟩); (case C_r59 => walk_at "m_cx"); (case d_r59 => walk_at "m_dep"); (case u_r59 => walk_at "m_dep"); k_whole); walk_at "m_back"))
  trivial
section
variable {w : World} {A : Around} {base : Heap} {outer : List Env} {loose : List Str} {mean : ExcName → Option Value} {mg mb : Str → Option Value} {s : Shared} {E : Value → Shared → Prop} {Q : Value → Shared → Prop}
theorem get_attr_1 {x ad : Addr} {kind name : Str} {items : Value} {t : Tok} {o : Obj} {kvs : List (Str × Value)} (hv : VecAt w.params s.heap x kind items (.ref ad)) (had : s.heap.get? ad = some o) (ho : o.IsDictOf (PySem.strKind pw w) kvs) (lo : (ad == sysModules) = false)
    (r : Value) (hr : (valueAt kvs name).getD .none = r)
    (C : Cx w A base outer loose mean mg mb s.heap) (hd : A.depth + 3 ≤ 700) (hu : A.units + 30 ≤ 8000)
    (hret : ∀ h' tk', Kept s.heap h' → Q r { s with heap := h', toks := tk' }) :
    wpAny (model pw w) A (call (.ref 263) [.ref x, .str name t]) Q E s := by
  obtain ⟨B, X, T, hh⟩ := C
  refine hv.elim ?_
  intro dx n a b c d e k hx hdx
  walk_at "m_go"
  all_goals exact hret _ _ (Fr.keep (by assumption))
noncomputable abbrev facKvs (a b : Value) : List (Str × Value) := [(Str.ofString "levels", a), (Str.ofString "class", b)]
theorem get_attr_levels {x ad : Addr} {kind : Str} {items a b : Value} {t : Tok} {o : Obj} (hv : VecAt w.params s.heap x kind items (.ref ad)) (had : s.heap.get? ad = some o) (ho : o.IsDictOf (PySem.strKind pw w) (facKvs a b)) (lo : (ad == sysModules) = false)
    (C : Cx w A base outer loose mean mg mb s.heap) (hd : A.depth + 3 ≤ 700) (hu : A.units + 30 ≤ 8000) (hret : ∀ h' tk', Kept s.heap h' → Q a { s with heap := h', toks := tk' }) :
    wpAny (model pw w) A (call (.ref 263) [.ref x, .str (Str.ofString "levels") t]) Q E s := get_attr_1 hv had ho lo _ (by with_unfolding_all rfl) C hd hu hret
theorem get_attr_class {x ad : Addr} {kind : Str} {items a b : Value} {t : Tok} {o : Obj} (hv : VecAt w.params s.heap x kind items (.ref ad)) (had : s.heap.get? ad = some o) (ho : o.IsDictOf (PySem.strKind pw w) (facKvs a b)) (lo : (ad == sysModules) = false)
    (C : Cx w A base outer loose mean mg mb s.heap) (hd : A.depth + 3 ≤ 700) (hu : A.units + 30 ≤ 8000) (hret : ∀ h' tk', Kept s.heap h' → Q b { s with heap := h', toks := tk' }) :
    wpAny (model pw w) A (call (.ref 263) [.ref x, .str (Str.ofString "class") t]) Q E s := get_attr_1 hv had ho lo _ (by with_unfolding_all rfl) C hd hu hret
theorem row3 : True := by
  (k_with "call ref" => (k_here; (with_reducible show wpAny _ _ (call (Value.ref 263) _) _ _ _); k_dflt (refine' get_attr_0 ?v_r60 ?C_r60 ?d_r60 ?u_r60 ?_; (case v_r60 => walk_at "m_vec"); (case C_r60 => walk_at "m_cx"); (case d_r60 => walk_at "m_dep"); (case u_r60 => walk_at "m_dep"); k_whole); walk_at "m_back"))
  (k_with "call ref" => (k_here; (with_reducible show wpAny _ _ (call (Value.ref 263) [_, Value.str (Str.ofString "levels") _]) _ _ _); k_dflt (refine' get_attr_levels ?v_r61 ?a_r61 ?o_r61 ?l_r61 ?C_r61 ?d_r61 ?u_r61 ?_; (case v_r61 => walk_at "m_vec"); (case a_r61 => walk_at "m_get"); (case o_r61 => assumption); (case l_r61 => assumption); (case C_r61 => walk_at "m_cx"); (case d_r61 => walk_at "m_dep"); (case u_r61 => walk_at "m_dep"); k_whole); walk_at "m_back"))
  (k_with "call ref" => (k_here; (with_reducible show wpAny _ _ (call (Value.ref 263) [_, Value.str (Str.ofString "class") _]) _ _ _); k_dflt (refine' get_attr_class ?v_r62 ?a_r62 ?o_r62 ?l_r62 ?C_r62 ?d_r62 ?u_r62 ?_; (case v_r62 => walk_at "m_vec"); (case a_r62 => walk_at "m_get"); (case o_r62 => assumption); (case l_r62 => assumption); (case C_r62 => walk_at "m_cx"); (case d_r62 => walk_at "m_dep"); (case u_r62 => walk_at "m_dep"); k_whole); walk_at "m_back"))
  trivial
theorem class_attr_f {x l : Addr} {vs lvs : List Value} (hf : FacAt w s.heap x l vs lvs)
    (C : Cx w A base outer loose mean mg mb s.heap) (hd : A.depth + 6 ≤ 700) (hu : A.units + 60 ≤ 8000)
    (hret : ∀ a t n h' tk', Kept s.heap h' → Fresh s.heap h' a (W.listOf [Value.str (Str.ofString "factor") t].toArray n) → Q (.ref a) { s with heap := h', toks := tk' }) :
    wpAny (model pw w) A (call (.ref 306) [.ref x]) Q E s := by
  obtain ⟨B, X, T, hh⟩ := C
  refine hf.elim ?_
  intro n ad o lv lt cv ct n1 n2 t h1 h2 h3 h4 h5 h6 h7 h8 h9
  refine h1.elim ?_
  intro dx nn a b c d e k hx hdx
  refine h8.elim ?_
  intro dc nc a' b' c' d' e' k' hcx hcdx
  walk_at "m_go"
  all_goals exact hret _ _ _ _ _ (Fr.keep (by assumption)) (freshOf (by assumption) (List.Mem.head _))
theorem row4 : True := by
  (k_with "call ref" => (k_here; (with_reducible show wpAny _ _ (call (Value.ref 306) _) _ _ _); k_dflt (refine' class_attr_f ?v_r63 ?C_r63 ?d_r63 ?u_r63 ?_; (case v_r63 => walk_at "m_fac"); (case C_r63 => walk_at "m_cx"); (case d_r63 => walk_at "m_dep"); (case u_r63 => walk_at "m_dep"); k_whole); intro a'ρ t'ρ n'ρ; walk_at "m_backL"))
  trivial
theorem is_factor_f {x l : Addr} {vs lvs : List Value} (hf : FacAt w s.heap x l vs lvs)
    (C : Cx w A base outer loose mean mg mb s.heap) (hd : A.depth + 9 ≤ 700) (hu : A.units + 90 ≤ 8000)
    (hret : ∀ h' tk', Kept s.heap h' → Q (.bool true) { s with heap := h', toks := tk' }) :
    wpAny (model pw w) A (call (.ref 480) [.ref x]) Q E s := by
  obtain ⟨B, X, T, hh⟩ := C
  refine hf.elim ?_
  intro n ad o lv lt cv ct n1 n2 t h1 h2 h3 h4 h5 h6 h7 h8 h9
  refine h1.elim ?_
  intro dx nn a b c d e k hx hdx
  have hret : ∀ r h' tk', Kept s.heap h' → r = true → Q (.bool r) { s with heap := h', toks := tk' } := fun r h' tk' a e => e ▸ hret h' tk' a
  walk_at "m_go"
  all_goals exact hret _ _ _ (Fr.keep (by assumption)) (by decide)
theorem is_factor_n {x : Addr} {items attrs : Value} (hv : VecAt w.params s.heap x (Str.ofString "character") items attrs)
    (C : Cx w A base outer loose mean mg mb s.heap) (hd : A.depth + 3 ≤ 700) (hu : A.units + 30 ≤ 8000)
    (hret : ∀ h' tk', Kept s.heap h' → Q (.bool false) { s with heap := h', toks := tk' }) :
    wpAny (model pw w) A (call (.ref 480) [.ref x]) Q E s := by
  obtain ⟨B, X, T, hh⟩ := C
  refine hv.elim ?_
  intro dx nn a b c d e k hx hdx
  walk_at "m_go"
  all_goals exact hret _ _ (Fr.keep (by assumption))
theorem row5 : True := by
  (k_with "call ref" => (k_here; (with_reducible show wpAny _ _ (call (Value.ref 480) _) _ _ _); k_dflt (refine' is_factor_f ?v_r64 ?C_r64 ?d_r64 ?u_r64 ?_; (case v_r64 => walk_at "m_fac"); (case C_r64 => walk_at "m_cx"); (case d_r64 => walk_at "m_dep"); (case u_r64 => walk_at "m_dep"); k_whole); walk_at "m_back"))
  trivial
theorem is_ordered_f {x l : Addr} {vs lvs : List Value} (hf : FacAt w s.heap x l vs lvs)
    (C : Cx w A base outer loose mean mg mb s.heap) (hd : A.depth + 12 ≤ 700) (hu : A.units + 120 ≤ 8000)
    (hret : ∀ h' tk', Kept s.heap h' → Q (.bool false) { s with heap := h', toks := tk' }) :
    wpAny (model pw w) A (call (.ref 487) [.ref x]) Q E s := by
  obtain ⟨B, X, T, hh⟩ := C
  have hret : ∀ r h' tk', Kept s.heap h' → r = false → Q (.bool r) { s with heap := h', toks := tk' } := fun r h' tk' a e => e ▸ hret h' tk' a
  walk_at "m_go"
  all_goals exact hret _ _ _ (Fr.keep (by assumption)) (by decide)
end
theorem row6 : True := by
  (k_with "call ref" => (k_here; (with_reducible show wpAny _ _ (call (Value.ref 487) _) _ _ _); k_dflt (refine' is_ordered_f ?v_r65 ?C_r65 ?d_r65 ?u_r65 ?_; (case v_r65 => walk_at "m_fac"); (case C_r65 => walk_at "m_cx"); (case d_r65 => walk_at "m_dep"); (case u_r65 => walk_at "m_dep"); k_whole); walk_at "m_back"))
  (k_with "call ref" => (k_here; (with_reducible show wpAny _ _ (call (Value.ref 480) _) _ _ _); k_dflt (refine' is_factor_n ?v_r66 ?C_r66 ?d_r66 ?u_r66 ?_; (case v_r66 => walk_at "m_vec"); (case C_r66 => walk_at "m_cx"); (case d_r66 => walk_at "m_dep"); (case u_r66 => walk_at "m_dep"); k_whole); walk_at "m_back"))
  trivial
theorem Paired.get {α β : Type} {F : α → β → Prop} {l : List α} {r : List β} (p : Paired F l r) {i : Nat} {v : α} (h : l[i]? = some v) : ∃ y, r[i]? = some y ∧ F v y := by
  induction p generalizing i with
  | nil => cases h
  | cons hab t ih =>
    cases i with
    | zero => cases h; exact ⟨_, rfl, hab⟩
    | succ i => exact ih h
theorem take_next {α : Type} {l : List α} {i : Nat} {v : α} (h : l[i]? = some v) : l.take (i + 1) = l.take i ++ [v] := by rw [List.take_add_one, h]; rfl
theorem osOfS {vs : List Value} {xs : List Str} (p : Paired IsS vs xs) : Paired IsOS vs (xs.map some) := by
  induction p with
  | nil => exact .nil
  | cons h _ ih => exact .cons h ih
/-- the text of a code -/
noncomputable def codeText (xs : List Str) : Option Int → Option Str
  | none => none
  | some i => xs[(i - 1).toNat]?
section
variable {w : World} {A : Around} {base : Heap} {outer : List Env} {loose : List Str} {mean : ExcName → Option Value} {mg mb : Str → Option Value} {s : Shared} {E : Value → Shared → Prop} {Q : Value → Shared → Prop}
theorem label_texts_c {x l : Addr} {vs : List Value} {xs : List (Option Str)} {n : Nat} (hv : VecAt w.params s.heap x (Str.ofString "character") (.ref l) .none) (hl : s.heap.get? l = some (W.listOf vs.toArray n)) (hp : Paired IsOS vs xs) (hz : vs.length ≤ 1000)
    (C : Cx w A base outer loose mean mg mb s.heap) (hd : A.depth + 6 ≤ 700) (hu : A.units + 60 ≤ 8000)
    (hret : ∀ a n h' tk', Kept s.heap h' → Fresh s.heap h' a (W.listOf vs.toArray n) → Q (.ref a) { s with heap := h', toks := tk' }) :
    wpAny (model pw w) A (call (.ref 282) [.ref x]) Q E s := by
  obtain ⟨B, X, T, hh⟩ := C
  refine hv.elim ?_
  intro dx nn a b c d e k hx hdx
  walk_at "m_goC"
  refine compMap (fun i ys => ys = vs.take i) rfl ?_ ?_
  · rintro i ys hi rfl
    intro v I oI Cc oC D m₂ h₂ tk₂ E' hi' hC hx' F' N' off ne
    intros
    simp only [List.getElem?_toArray] at hi'
    refine letG ?_
    intro P9
    obtain ⟨z, _, hz'⟩ := Paired.get hp hi'
    k_unfold
    try clear P9
    k_steps
    all_goals exact (take_next hi').symm
  · rintro ys rfl
    simp only [List.size_toArray, List.take_length]
    k_steps
    all_goals exact hret _ _ _ _ (Fr.keep (by assumption)) (freshOf (by assumption) (List.Mem.head _))
theorem row7 : True := by
  (k_with "call ref" => (k_here; (with_reducible show wpAny _ _ (call (Value.ref 282) _) _ _ _); k_dflt (refine' label_texts_c ?v_r67 ?l_r67 ?p_r67 ?z_r67 ?C_r67 ?d_r67 ?u_r67 ?_; (case v_r67 => walk_at "m_vec"); (case l_r67 => walk_at "m_get"); (case p_r67 => walk_at "m_pair"); (case z_r67 => walk_at "m_num"); (case C_r67 => walk_at "m_cx"); (case d_r67 => walk_at "m_dep"); (case u_r67 => walk_at "m_dep"); k_whole); intro a'ρ n'ρ; walk_at "m_backL"))
  (k_with "m_pair" => first | assumption | exact osOfS (by assumption))
  trivial
theorem item_texts_c {x l : Addr} {vs : List Value} {xs : List (Option Str)} {n : Nat} (hv : VecAt w.params s.heap x (Str.ofString "character") (.ref l) .none) (hl : s.heap.get? l = some (W.listOf vs.toArray n)) (hp : Paired IsOS vs xs) (hz : vs.length ≤ 1000)
    (C : Cx w A base outer loose mean mg mb s.heap) (hd : A.depth + 9 ≤ 700) (hu : A.units + 90 ≤ 8000)
    (hret : ∀ a n h' tk', Kept s.heap h' → Fresh s.heap h' a (W.listOf vs.toArray n) → Q (.ref a) { s with heap := h', toks := tk' }) :
    wpAny (model pw w) A (call (.ref 540) [.ref x]) Q E s := by
  obtain ⟨B, X, T, hh⟩ := C
  refine hv.elim ?_
  intro dx nn a b c d e k hx hdx
  walk_at "m_go"
  all_goals exact hret _ _ _ _ (Fr.keep (by assumption)) (freshOf (by assumption) (List.Mem.head _))
theorem level_texts_c {x l : Addr} {vs lvs : List Value} {xs : List Str} (hf : FacAt w s.heap x l vs lvs) (hp : Paired IsS lvs xs) (hz : lvs.length ≤ 1000)
    (C : Cx w A base outer loose mean mg mb s.heap) (hd : A.depth + 9 ≤ 700) (hu : A.units + 90 ≤ 8000)
    (hret : ∀ a n h' tk', Kept s.heap h' → Fresh s.heap h' a (W.listOf lvs.toArray n) → Q (.ref a) { s with heap := h', toks := tk' }) :
    wpAny (model pw w) A (call (.ref 492) [.ref x]) Q E s := by
  obtain ⟨B, X, T, hh⟩ := C
  refine hf.elim ?_
  intro n ad o lv lt cv ct n1 n2 t h1 h2 h3 h4 h5 h6 h7 h8 h9
  walk_at "m_go"
  refine compMap (fun i ys => ys = lvs.take i) rfl ?_ ?_
  · rintro i ys hi rfl
    intro v I oI Cc oC D m₂ h₂ tk₂ E' hi' hC hx' F' N' off ne
    intros
    simp only [List.getElem?_toArray] at hi'
    refine letG ?_
    intro P9
    obtain ⟨z, _, tz, rfl⟩ := Paired.get hp hi'
    k_unfold
    try clear P9
    k_steps
    all_goals exact (take_next hi').symm
  · rintro ys rfl
    simp only [List.size_toArray, List.take_length]
    k_steps
    all_goals exact hret _ _ _ _ (Fr.keep (by assumption)) (freshOf (by assumption) (List.Mem.head _))
end
theorem row8 : True := by
  (k_with "call ref" => (k_here; (with_reducible show wpAny _ _ (call (Value.ref 540) _) _ _ _); k_dflt (refine' item_texts_c ?v_r69 ?l_r69 ?p_r69 ?z_r69 ?C_r69 ?d_r69 ?u_r69 ?_; (case v_r69 => walk_at "m_vec"); (case l_r69 => walk_at "m_get"); (case p_r69 => walk_at "m_pair"); (case z_r69 => walk_at "m_num"); (case C_r69 => walk_at "m_cx"); (case d_r69 => walk_at "m_dep"); (case u_r69 => walk_at "m_dep"); k_whole); intro a'ρ n'ρ; walk_at "m_backL"))
  (k_with "call ref" => (k_here; (with_reducible show wpAny _ _ (call (Value.ref 492) _) _ _ _); k_dflt (refine' level_texts_c ?f_r70 ?p_r70 ?z_r70 ?C_r70 ?d_r70 ?u_r70 ?_; (case f_r70 => walk_at "m_fac"); (case p_r70 => assumption); (case z_r70 => walk_at "m_num"); (case C_r70 => walk_at "m_cx"); (case d_r70 => walk_at "m_dep"); (case u_r70 => walk_at "m_dep"); k_whole); intro a'ρ n'ρ; walk_at "m_backL"))
  trivial
noncomputable def dstep (acc : List Str) : Option Str → List Str
  | none => acc
  | some x => if x ∈ acc then acc else acc ++ [x]
noncomputable def distinctT (xs : List (Option Str)) : List Str := xs.foldl dstep []
theorem dstep_len (acc : List Str) (x : Option Str) : (dstep acc x).length ≤ acc.length + 1 := by
  cases x with
  | none => exact Nat.le_succ _
  | some x => unfold dstep; dsimp only; split <;> simp
theorem distinct_len (xs : List (Option Str)) : (distinctT xs).length ≤ xs.length := by
  have go : ∀ (xs : List (Option Str)) (acc : List Str), (xs.foldl dstep acc).length ≤ acc.length + xs.length := by
    intro xs
    induction xs with
    | nil => intro acc; exact Nat.le_refl _
    | cons x r ih => intro acc; have a := ih (dstep acc x); have b := dstep_len acc x; rw [List.foldl_cons, List.length_cons]; omega
  have := go xs []
  simp only [List.length_nil, Nat.zero_add] at this
  exact this
theorem distinct_next {xs : List (Option Str)} {i : Nat} {x : Option Str} (h : xs[i]? = some x) : distinctT (xs.take (i + 1)) = dstep (distinctT (xs.take i)) x := by
  unfold distinctT
  rw [take_next h, List.foldl_append]
  rfl
theorem stored_keys (kvs : List (Str × Value)) (k : Str) (v : Value) : (stored kvs k v).map (·.1) = dstep (kvs.map (·.1)) (some k) := by
  unfold stored dstep
  by_cases h : kvs.any (fun kv => kv.1 = k)
  · have hm : k ∈ kvs.map (·.1) := by
      refine letG ?_
      intro P9
      obtain ⟨p, hp, e⟩ := List.any_eq_true.mp h
      k_unfold
      try clear P9
      exact List.mem_map.mpr ⟨p, hp, by simpa using e⟩
    rw [if_pos h]
    simp only [if_pos hm, List.map_map]
    apply List.map_congr_left
    intro p hp
    by_cases e : p.1 = k <;> simp [e]
  · have hm : k ∉ kvs.map (·.1) := by
      intro hm
      refine letG ?_
      intro P9
      obtain ⟨p, hp, e⟩ := List.mem_map.mp hm
      k_unfold
      try clear P9
      exact h (List.any_eq_true.mpr ⟨p, hp, by simpa using e⟩)
    rw [if_neg h]
    simp only [if_neg hm, List.map_append, List.map_cons, List.map_nil]
noncomputable def DJ (w : World) (d : Addr) (xs : List (Option Str)) (i : Nat) (nw : List (Addr × Obj)) : Prop := ∃ o kvs, nw = [(d, o)] ∧ o.IsDictOf (PySem.strKind pw w) kvs ∧ kvs.map (·.1) = distinctT (xs.take i)
section
variable {w : World} {A : Around} {base : Heap} {outer : List Env} {loose : List Str} {mean : ExcName → Option Value} {mg mb : Str → Option Value} {s : Shared} {E : Value → Shared → Prop} {Q : Value → Shared → Prop}
theorem distinct_texts_c {l : Addr} {vs : List Value} {xs : List (Option Str)} {n : Nat} (hl : s.heap.get? l = some (W.listOf vs.toArray n)) (hp : Paired IsOS vs xs) (hz : vs.length ≤ 1000)
    (C : Cx w A base outer loose mean mg mb s.heap) (hd : A.depth + 3 ≤ 700) (hu : A.units + 30 ≤ 8000)
    (hret : ∀ a n ys h' tk', Kept s.heap h' → Fresh s.heap h' a (W.listOf ys.toArray n) → Paired IsS ys (distinctT xs) → ys.length ≤ vs.length → Q (.ref a) { s with heap := h', toks := tk' }) :
    wpAny (model pw w) A (call (.ref 523) [.ref l]) Q E s := by
  obtain ⟨B, X, T, hh⟩ := C
  have hlen := hp.length
  walk_at "m_go"
  rename News _ _ _ _ => N1
  rename Fr _ _ _ _ => F1
  rename Obj.IsDictOf (PySem.strKind _ _) _ _ => hD
  rename (_ == sysModules) = false => lo
  refine Halt.of (forListL [] (fun i u nw => DJ w _ xs i nw) hh (isListAt hl) F1 N1 ⟨_, _, rfl, hD, rfl⟩ ?_ ?_)
  · rintro i v u nw I oI h₂ tk₂ hv hJ9
    refine letG ?_
    intro P9
    obtain ⟨o, kvs, rfl, hD', hk⟩ := hJ9
    k_unfold
    try clear P9
    rintro F2 N2 hne
    intros
    simp only [AllNe, and_true] at hne
    refine letG ?_
    intro P9
    obtain ⟨x, hx, hvx⟩ := Paired.get hp hv
    k_unfold
    try clear P9
    have hkl : kvs.length ≤ 1000 := by
      have a := congrArg List.length hk
      have b := distinct_len (xs.take i)
      simp only [List.length_map, List.length_take] at a b
      omega
    clear N1 F1 hD
    cases x with
    | none =>
      cases hvx
      k_steps
      walk_at "m_tend"
      exact ⟨_, ⟨_, _, rfl, hD', by rw [hk, distinct_next hx]; rfl⟩, by lcg_sub, by walk_at "m_off"⟩
    | some x =>
      obtain ⟨t, rfl⟩ := hvx
      k_steps
      walk_at "m_tend"
      exact ⟨_, ⟨_, _, rfl, by assumption, by rw [stored_keys, hk, distinct_next hx]⟩, by lcg_sub, by walk_at "m_off"⟩
  · rintro u nw h₂ tk₂ hJ9
    refine letG ?_
    intro P9
    obtain ⟨o, kvs, rfl, hD', hk⟩ := hJ9
    k_unfold
    try clear P9
    rintro F2 N2
    clear N1 F1 hD
    have hkl : kvs.length ≤ 1000 := by
      have a := congrArg List.length hk
      have b := distinct_len (xs.take vs.length)
      simp only [List.length_map, List.length_take] at a b
      omega
    k_steps
    all_goals (refine hret _ _ _ _ _ (Fr.keep (by assumption)) (freshOf (by assumption) (List.Mem.head _)) ?_ ?_)
    all_goals (rename Paired _ _ _ => hq; rw [hk, hlen, List.take_length] at hq)
    · exact hq
    · have a := hq.length; have b := distinct_len xs; omega
end
theorem row9 : True := by
  (k_with "call ref" => (k_here; (with_reducible show wpAny _ _ (call (Value.ref 523) _) _ _ _); k_dflt (refine' distinct_texts_c ?l_r71 ?p_r71 ?z_r71 ?C_r71 ?d_r71 ?u_r71 ?_; (case l_r71 => walk_at "m_get"); (case p_r71 => walk_at "m_pair"); (case z_r71 => walk_at "m_num"); (case C_r71 => walk_at "m_cx"); (case d_r71 => walk_at "m_dep"); (case u_r71 => walk_at "m_dep"); k_whole); intro a'ρ n'ρ ys'ρ; walk_at "m_backL"; intro hp'ρ hlen'ρ))
  trivial
/-- a code that stands among n levels -/
noncomputable def IsCode (n : Nat) (v : Value) : Option Int → Prop
  | none => v = .none
  | some i => ∃ t, v = .int i t ∧ 1 ≤ i ∧ i ≤ n
theorem pairedMono {α β : Type} {F G : α → β → Prop} (k : ∀ a b, F a b → G a b) {l : List α} {r : List β} (p : Paired F l r) : Paired G l r := p.mono k
theorem IsCode.oi {n : Nat} {v : Value} : ∀ {c : Option Int}, IsCode n v c → IsOI v c
  | none, h => h
  | some _, ⟨t, h, _⟩ => ⟨t, h⟩
section
variable {w : World} {A : Around} {base : Heap} {outer : List Env} {loose : List Str} {mean : ExcName → Option Value} {mg mb : Str → Option Value} {s : Shared} {E : Value → Shared → Prop} {Q : Value → Shared → Prop}
theorem codes_in_c {x l : Addr} {vs lvs : List Value} {cs : List (Option Int)} {xs : List Str} (hf : FacAt w s.heap x l vs lvs) (hq : Paired IsS lvs xs) (hp : Paired (IsCode lvs.length) vs cs) (hz : vs.length ≤ 1000) (hy : lvs.length ≤ 1000)
    (C : Cx w A base outer loose mean mg mb s.heap) (hd : A.depth + 12 ≤ 700) (hu : A.units + 120 ≤ 8000)
    (hret : ∀ a n h' tk', Kept s.heap h' → Fresh s.heap h' a (W.listOf vs.toArray n) → Q (.ref a) { s with heap := h', toks := tk' }) :
    wpAny (model pw w) A (call (.ref 497) [.ref x]) Q E s := by
  obtain ⟨B, X, T, hh⟩ := C
  have hlq := hq.length
  refine hf.elim ?_
  intro n ad o lv lt cv ct n1 n2 t h1 h2 h3 h4 h5 h6 h7 h8 h9
  refine h1.elim ?_
  intro dx nn a b c d e k hx hdx
  walk_at "m_goC"
  refine compMap (fun i ys => ys = vs.take i) rfl ?_ ?_
  · rintro i ys hi rfl
    intro v I oI Cc oC D m₂ h₂ tk₂ E' hi' hC hx' F' N' off ne
    intros
    simp only [List.getElem?_toArray] at hi'
    refine letG ?_
    intro P9
    obtain ⟨z, _, hz'⟩ := Paired.get hp hi'
    k_unfold
    try clear P9
    cases z with
    | none =>
      cases hz'
      k_steps
      all_goals exact (take_next hi').symm
    | some z =>
      refine letG ?_
      intro P9
      obtain ⟨t', rfl, hz1, hz2⟩ := hz'
      k_unfold
      try clear P9
      k_steps
      all_goals exact (take_next hi').symm
  · rintro ys rfl
    simp only [List.size_toArray, List.take_length]
    k_steps
    all_goals exact hret _ _ _ _ (Fr.keep (by assumption)) (freshOf (by assumption) (List.Mem.head _))
end
theorem row10 : True := by
  (k_with "call ref" => (k_here; (with_reducible show wpAny _ _ (call (Value.ref 497) _) _ _ _); k_dflt (refine' codes_in_c ?f_r72 ?q_r72 ?p_r72 ?z_r72 ?y_r72 ?C_r72 ?d_r72 ?u_r72 ?_; (case f_r72 => walk_at "m_fac"); (case q_r72 => assumption); (case p_r72 => walk_at "m_pair"); (case z_r72 => walk_at "m_num"); (case y_r72 => walk_at "m_num"); (case C_r72 => walk_at "m_cx"); (case d_r72 => walk_at "m_dep"); (case u_r72 => walk_at "m_dep"); k_whole); intro a'ρ n'ρ; walk_at "m_backL"))
  trivial
section
variable {w : World} {A : Around} {base : Heap} {outer : List Env} {loose : List Str} {mean : ExcName → Option Value} {mg mb : Str → Option Value} {s : Shared} {E : Value → Shared → Prop} {Q : Value → Shared → Prop}
theorem take_map_next {α β : Type} {f : α → β} {l : List α} {i : Nat} {v : α} (h : l[i]? = some v) : (l.take (i + 1)).map f = (l.take i).map f ++ [f v] := by rw [take_next h, List.map_append]; rfl
theorem pairedSnoc {α β : Type} {F : α → β → Prop} {a : α} {b : β} (hab : F a b) {l : List α} {r : List β} (p : Paired F l r) : Paired F (l ++ [a]) (r ++ [b]) := p.snoc hab
theorem factor_texts_c {x l : Addr} {vs lvs : List Value} {cs : List (Option Int)} {xs : List Str} (hf : FacAt w s.heap x l vs lvs) (hq : Paired IsS lvs xs) (hp : Paired (IsCode lvs.length) vs cs) (hz : vs.length ≤ 1000) (hy : lvs.length ≤ 1000)
    (C : Cx w A base outer loose mean mg mb s.heap) (hd : A.depth + 15 ≤ 700) (hu : A.units + 150 ≤ 8000)
    (hret : ∀ a n ys h' tk', Kept s.heap h' → Fresh s.heap h' a (W.listOf ys.toArray n) → Paired IsOS ys (cs.map (codeText xs)) → Q (.ref a) { s with heap := h', toks := tk' }) :
    wpAny (model pw w) A (call (.ref 502) [.ref x]) Q E s := by
  obtain ⟨B, X, T, hh⟩ := C
  have hlq := hq.length
  have hlp := hp.length
  walk_at "m_goC"
  refine compMap (fun i ys => Paired IsOS ys ((cs.take i).map (codeText xs))) .nil ?_ ?_
  · rintro i ys hi hR
    intro v I oI Cc oC D m₂ h₂ tk₂ E' hi' hC hx' F' N' off ne
    intros
    simp only [List.getElem?_toArray] at hi'
    refine letG ?_
    intro P9
    obtain ⟨z, hcz, hz'⟩ := Paired.get hp hi'
    k_unfold
    try clear P9
    cases z with
    | none =>
      cases hz'
      k_steps
      all_goals (rw [take_map_next hcz]; refine pairedSnoc ?_ hR; exact rfl)
    | some z =>
      refine letG ?_
      intro P9
      obtain ⟨t', rfl, hz1, hz2⟩ := hz'
      k_unfold
      try clear P9
      have hj : (z - 1).toNat < lvs.length := by omega
      refine letG ?_
      intro P9
      obtain ⟨y, hy', ty, hty⟩ := Paired.get hq (List.getElem?_eq_getElem hj)
      k_unfold
      try clear P9
      have hi2 : lvs[(z - 1).toNat]? = some (Value.str y ty) := by rw [List.getElem?_eq_getElem hj, hty]
      k_steps
      all_goals (rw [take_map_next hcz]; refine pairedSnoc ?_ hR; (show IsOS _ (xs[(z - 1).toNat]?)); rw [hy']; exact ⟨_, rfl⟩)
  · rintro ys hR
    have hR : Paired IsOS ys (cs.map (codeText xs)) := by rw [show vs.toArray.size = cs.length by simp [hlp], List.take_length] at hR; exact hR
    k_steps
    all_goals (refine hret _ _ _ _ _ (Fr.keep (by assumption)) (freshOf (by assumption) (List.Mem.head _)) hR)
end
theorem row11 : True := by
  (k_with "call ref" => (k_here; (with_reducible show wpAny _ _ (call (Value.ref 502) _) _ _ _); k_dflt (refine' factor_texts_c ?f_r73 ?q_r73 ?p_r73 ?z_r73 ?y_r73 ?C_r73 ?d_r73 ?u_r73 ?_; (case f_r73 => walk_at "m_fac"); (case q_r73 => assumption); (case p_r73 => walk_at "m_pair"); (case z_r73 => walk_at "m_num"); (case y_r73 => walk_at "m_num"); (case C_r73 => walk_at "m_cx"); (case d_r73 => walk_at "m_dep"); (case u_r73 => walk_at "m_dep"); k_whole); intro a'ρ n'ρ ys'ρ; walk_at "m_backL"; intro hp'ρ))
  trivial
noncomputable def codeOf (ls : List Str) (x : Str) : Option Int := (ls.findIdx? fun y => decide (y = x)).map fun i : Nat => ((i : Int) + 1)
theorem valueAt_snoc {kvs : List (Str × Value)} {k x : Str} {v : Value} (h : (valueAt kvs k).isSome = false) : valueAt (kvs ++ [(k, v)]) x = if x = k then some v else valueAt kvs x := by
  unfold valueAt at h ⊢
  rw [List.find?_append]
  by_cases e : x = k
  · subst e
    rw [if_pos rfl]
    cases hf : kvs.find? fun kv => kv.1 = x with
    | none => simp
    | some p => rw [hf] at h; simp at h
  · rw [if_neg e]
    have : ([(k, v)].find? fun kv => decide (kv.1 = x)) = none := by simp [Ne.symm e]
    rw [this]; simp
theorem stored_of_none {kvs : List (Str × Value)} {k : Str} {v : Value} (h : (valueAt kvs k).isSome = false) : stored kvs k v = kvs ++ [(k, v)] := by
  unfold stored
  have : kvs.any (fun kv => decide (kv.1 = k)) = false := by
    unfold valueAt at h
    rw [Option.isSome_map] at h
    cases ha : kvs.any (fun kv => decide (kv.1 = k)) with
    | false => rfl
    | true => rw [List.find?_isSome.mpr (by simpa using ha)] at h; cases h
  rw [this]; simp
theorem codeOf_snoc {ls : List Str} {x y : Str} (hn : x ∉ ls) : codeOf (ls ++ [x]) y = if y = x then some ((ls.length : Int) + 1) else codeOf ls y := by
  unfold codeOf
  rw [List.findIdx?_append]
  by_cases e : y = x
  · subst e
    rw [if_pos rfl, List.findIdx?_eq_none_iff.mpr (fun z hz => by rw [decide_eq_false]; intro e; subst e; exact hn hz)]
    simp
  · rw [if_neg e]
    have : List.findIdx? (fun z => decide (z = y)) [x] = none := by simp [List.findIdx?_cons, Ne.symm e]
    rw [this]; simp
theorem distinctT_nodup (xs : List (Option Str)) : (distinctT xs).Nodup := by
  have go : ∀ (xs : List (Option Str)) (acc : List Str), acc.Nodup → (xs.foldl dstep acc).Nodup := by
    intro xs
    induction xs with
    | nil => intro acc h; exact h
    | cons x r ih =>
      intro acc h
      rw [List.foldl_cons]
      refine ih _ ?_
      cases x with
      | none => exact h
      | some x =>
        show (if x ∈ acc then acc else acc ++ [x]).Nodup
        by_cases hm : x ∈ acc
        · rw [if_pos hm]; exact h
        · rw [if_neg hm]
          exact List.nodup_append.mpr ⟨h, by simp, fun a ha b hb e => hm (by rw [← List.mem_singleton.mp hb, ← e]; exact ha)⟩
  exact go xs [] List.nodup_nil
/-- the places of texts, by a dict -/
structure CodeJ (w : World) (o : Obj) (ls : List Str) : Prop where
  is : ∃ kvs, o.IsDictOf (PySem.strKind pw w) kvs ∧ kvs.length = ls.length ∧ (∀ x, IsOI ((valueAt kvs x).getD .none) (codeOf ls x)) ∧ ∀ x, (valueAt kvs x).isSome = decide (x ∈ ls)
theorem CodeJ.next {w : World} {ls : List Str} {kvs : List (Str × Value)} {x : Str} {o' : Obj} {t : Tok} {k : Int} (hk : k = ls.length + 1)
    (hl : kvs.length = ls.length) (hc : ∀ x, IsOI ((valueAt kvs x).getD .none) (codeOf ls x)) (hs : ∀ x, (valueAt kvs x).isSome = decide (x ∈ ls)) (hn : x ∉ ls) (ho : o'.IsDictOf (PySem.strKind pw w) (stored kvs x (.int k t))) : CodeJ w o' (ls ++ [x]) := by
  have h0 : (valueAt kvs x).isSome = false := by rw [hs]; simp [hn]
  rw [stored_of_none h0] at ho
  refine ⟨_, ho, by simp [hl], fun y => ?_, fun y => ?_⟩
  · rw [valueAt_snoc h0, codeOf_snoc hn]
    by_cases e : y = x
    · rw [if_pos e, if_pos e]; exact ⟨t, by rw [hk]; rfl⟩
    · rw [if_neg e, if_neg e]; exact hc y
  · rw [valueAt_snoc h0]
    by_cases e : y = x
    · rw [if_pos e]; simp [e]
    · rw [if_neg e, hs]; simp [e]
structure SeenJ (w : World) (o : Obj) (ls : List Str) : Prop where
  is : ∃ kvs, o.IsDictOf (PySem.strKind pw w) kvs ∧ kvs.length = ls.length ∧ ∀ x, (valueAt kvs x).isSome = decide (x ∈ ls)
theorem SeenJ.next {w : World} {ls : List Str} {kvs : List (Str × Value)} {x : Str} {o' : Obj} {v : Value} 
    (hl : kvs.length = ls.length) (hs : ∀ x, (valueAt kvs x).isSome = decide (x ∈ ls)) (hn : x ∉ ls) (ho : o'.IsDictOf (PySem.strKind pw w) (stored kvs x v)) : SeenJ w o' (ls ++ [x]) := by
  have h0 : (valueAt kvs x).isSome = false := by rw [hs]; simp [hn]
  rw [stored_of_none h0] at ho
  refine ⟨_, ho, by simp [hl], fun y => ?_⟩
  rw [valueAt_snoc h0]
  by_cases e : y = x
  · rw [if_pos e]; simp [e]
  · rw [if_neg e, hs]; simp [e]
theorem notin_take {α : Type} : ∀ {l : List α}, l.Nodup → ∀ {i : Nat} {x : α}, l[i]? = some x → x ∉ l.take i
  | [], _, i, x, h => by simp at h
  | a :: l, hn, 0, x, h => by simp
  | a :: l, hn, i + 1, x, h => by
    obtain ⟨h1, h2⟩ := List.nodup_cons.mp hn
    rw [List.getElem?_cons_succ] at h
    rw [List.take_succ_cons, List.mem_cons, not_or]
    refine ⟨fun e => h1 (e ▸ List.mem_of_getElem? h), notin_take h2 h⟩
section
variable {w : World} {A : Around} {base : Heap} {outer : List Env} {loose : List Str} {mean : ExcName → Option Value} {mg mb : Str → Option Value} {s : Shared} {E : Value → Shared → Prop} {Q : Value → Shared → Prop}
theorem codes_of_c {tl ll : Addr} {ts lvs : List Value} {xs : List (Option Str)} {ls : List Str} {n n' : Nat} (ht : s.heap.get? tl = some (W.listOf ts.toArray n)) (hp : Paired IsOS ts xs) (hl : s.heap.get? ll = some (W.listOf lvs.toArray n')) (hq : Paired IsS lvs ls) (hnd : ls.Nodup) (hz : ts.length ≤ 1000) (hy : lvs.length ≤ 1000)
    (C : Cx w A base outer loose mean mg mb s.heap) (hd : A.depth + 3 ≤ 700) (hu : A.units + 30 ≤ 8000)
    (hret : ∀ a n ys h' tk', Kept s.heap h' → Fresh s.heap h' a (W.listOf ys.toArray n) → Paired IsOI ys (xs.map (·.bind (codeOf ls))) → ys.length = ts.length → Q (.ref a) { s with heap := h', toks := tk' }) :
    wpAny (model pw w) A (call (.ref 533) [.ref tl, .ref ll]) Q E s := by
  obtain ⟨B, X, T, hh⟩ := C
  have hlq := hq.length
  have hlp := hp.length
  walk_at "m_goC"
  rename IsRange _ _ _ _ _ _ _ _ => hr
  rename News _ _ _ _ => N1
  rename Fr _ _ _ _ => F1
  rename Obj.IsDictOf (PySem.strKind _ _) _ _ => hD
  rename (_ == sysModules) = false => lo
  rename Obj.data _ = Data.cell (some (Value.ref _)) => hcell
  refine Halt.of (forLenL [] (fun i u nw => ∃ o, nw = [(_, o), (_, _)] ∧ CodeJ w o (ls.take i)) hh hr (by omega) F1 N1 ⟨_, rfl, ⟨[], hD, rfl, fun _ => rfl, fun _ => rfl⟩⟩ ?_ ?_)
  · rintro i t u nw I oI h₂ tk₂ hi hJ9
    refine letG ?_
    intro P9
    obtain ⟨o, rfl, ⟨kvs, hD', hkl, hc, hs⟩⟩ := hJ9
    k_unfold
    try clear P9
    rintro F2 N2 hne
    intros
    simp only [AllNe, and_true] at hne
    clear N1 F1 hD
    refine letG ?_
    intro P9
    obtain ⟨x, hx, tx, hvx⟩ := Paired.get hq (List.getElem?_eq_getElem hi)
    k_unfold
    try clear P9
    have hiv : lvs[i]? = some (Value.str x tx) := by rw [List.getElem?_eq_getElem hi, hvx]
    rw [List.length_take] at hkl
    have hni : x ∉ ls.take i := notin_take hnd hx
    have hsx : (valueAt kvs x).isSome = false := by rw [hs]; simp [hni]
    k_steps
    walk_at "m_tend"
    refine ⟨_, ⟨_, rfl, ?_⟩, by lcg_sub, by walk_at "m_off"⟩
    rw [take_next hx]
    rename Obj.IsDictOf (PySem.strKind pw w) _ (stored _ _ _) => hst
    exact CodeJ.next (by rw [List.length_take]; omega) (by rw [List.length_take]; omega) hc hs hni hst
  · rintro u nw h₂ tk₂ hJ9
    refine letG ?_
    intro P9
    obtain ⟨o, rfl, ⟨kvs, hD', hkl, hc, hs⟩⟩ := hJ9
    k_unfold
    try clear P9
    rintro F2 N2
    clear N1 F1 hD
    rw [hlq, List.take_length] at hkl hc hs
    k_steps
    refine compMap (fun i ys => Paired IsOI ys ((xs.take i).map (·.bind (codeOf ls)))) .nil ?_ ?_
    · rintro i ys hi hR
      intro v I oI Cc oC D m₂ h₂ tk₂ E' hi' hC hx' F' N' off ne
      intros
      simp only [List.getElem?_toArray] at hi'
      refine letG ?_
      intro P9
      obtain ⟨z, hz1, hz'⟩ := Paired.get hp hi'
      k_unfold
      try clear P9
      cases z with
      | none =>
        cases hz'
        k_steps
        all_goals (rw [take_map_next hz1]; refine pairedSnoc ?_ hR; exact rfl)
      | some z =>
        obtain ⟨tz, rfl⟩ := hz'
        k_steps
        all_goals (rw [take_map_next hz1]; refine pairedSnoc ?_ hR; exact hc z)
    · rintro ys hR
      have hR : Paired IsOI ys (xs.map (·.bind (codeOf ls))) := by rw [show ts.toArray.size = xs.length by simp [hlp], List.take_length] at hR; exact hR
      k_steps
      all_goals (refine hret _ _ _ _ _ (Fr.keep (by assumption)) (freshOf (by assumption) (List.Mem.head _)) hR (by have a := hR.length; rw [List.length_map] at a; omega))
theorem check_distinct_c {ll : Addr} {lvs : List Value} {ls : List Str} {n : Nat} (hl : s.heap.get? ll = some (W.listOf lvs.toArray n)) (hq : Paired IsS lvs ls) (hnd : ls.Nodup) (hy : lvs.length ≤ 1000)
    (C : Cx w A base outer loose mean mg mb s.heap) (hd : A.depth + 3 ≤ 700) (hu : A.units + 30 ≤ 8000)
    (hret : ∀ h' tk', Kept s.heap h' → Q .none { s with heap := h', toks := tk' }) :
    wpAny (model pw w) A (call (.ref 552) [.ref ll]) Q E s := by
  obtain ⟨B, X, T, hh⟩ := C
  have hlq := hq.length
  walk_at "m_go"
  rename IsRange _ _ _ _ _ _ _ _ => hr
  rename News _ _ _ _ => N1
  rename Fr _ _ _ _ => F1
  rename Obj.IsDictOf (PySem.strKind _ _) _ _ => hD
  rename (_ == sysModules) = false => lo
  refine Halt.of (forLenL [] (fun i u nw => ∃ o, nw = [(_, o)] ∧ SeenJ w o (ls.take i)) hh hr (by omega) F1 N1 ⟨_, rfl, ⟨[], hD, rfl, fun _ => rfl⟩⟩ ?_ ?_)
  · rintro i t u nw I oI h₂ tk₂ hi hJ9
    refine letG ?_
    intro P9
    obtain ⟨o, rfl, ⟨kvs, hD', hkl, hs⟩⟩ := hJ9
    k_unfold
    try clear P9
    rintro F2 N2 hne
    intros
    simp only [AllNe, and_true] at hne
    clear N1 F1 hD
    refine letG ?_
    intro P9
    obtain ⟨x, hx, tx, hvx⟩ := Paired.get hq (List.getElem?_eq_getElem hi)
    k_unfold
    try clear P9
    have hiv : lvs[i]? = some (Value.str x tx) := by rw [List.getElem?_eq_getElem hi, hvx]
    rw [List.length_take] at hkl
    have hni : x ∉ ls.take i := notin_take hnd hx
    have hsx : (valueAt kvs x).isSome = false := by rw [hs]; simp [hni]
    k_steps
    walk_at "m_tend"
    refine ⟨_, ⟨_, rfl, ?_⟩, by lcg_sub, by walk_at "m_off"⟩
    rw [take_next hx]
    rename Obj.IsDictOf (PySem.strKind pw w) _ (stored _ _ _) => hst
    exact SeenJ.next (by rw [List.length_take]; omega) hs hni hst
  · rintro u nw h₂ tk₂ hJ9
    refine letG ?_
    intro P9
    obtain ⟨o, rfl, ⟨kvs, hD', hkl, hs⟩⟩ := hJ9
    k_unfold
    try clear P9
    rintro F2 N2
    clear N1 F1 hD
    k_steps
    all_goals exact hret _ _ (Fr.keep (by assumption))
end
theorem row12 : True := by
  (k_with "m_pairS" => assumption)
  (k_with "m_nodup" => first | assumption | exact distinctT_nodup _)
  (k_with "call ref" => (k_here; (with_reducible show wpAny _ _ (call (Value.ref 533) _) _ _ _); k_dflt (refine' codes_of_c ?t_r76 ?p_r76 ?l_r76 ?q_r76 ?n_r76 ?z_r76 ?y_r76 ?C_r76 ?d_r76 ?u_r76 ?_; (case t_r76 => walk_at "m_get"); (case p_r76 => walk_at "m_pair"); (case l_r76 => walk_at "m_get"); (case q_r76 => walk_at "m_pairS"); (case n_r76 => walk_at "m_nodup"); (case z_r76 => walk_at "m_num"); (case y_r76 => walk_at "m_num"); (case C_r76 => walk_at "m_cx"); (case d_r76 => walk_at "m_dep"); (case u_r76 => walk_at "m_dep"); k_whole); intro a'ρ n'ρ ys'ρ; walk_at "m_backL"; intro hp'ρ hlen'ρ))
  (k_with "call ref" => (k_here; (with_reducible show wpAny _ _ (call (Value.ref 552) _) _ _ _); k_dflt (refine' check_distinct_c ?l_r77 ?q_r77 ?n_r77 ?y_r77 ?C_r77 ?d_r77 ?u_r77 ?_; (case l_r77 => walk_at "m_get"); (case q_r77 => walk_at "m_pairS"); (case n_r77 => walk_at "m_nodup"); (case y_r77 => walk_at "m_num"); (case C_r77 => walk_at "m_cx"); (case d_r77 => walk_at "m_dep"); (case u_r77 => walk_at "m_dep"); k_whole); walk_at "m_back"))
  trivial
/-- what label_list makes of its labels -/
noncomputable def calledOf (xs : List (Option Str)) (n : Nat) : List (Option Str) := if xs.length = n then xs else (List.range n).map fun i : Nat => some (((xs.head?.getD none).getD (Str.ofString "NA")) ++ Str.ofString (toString ((i : Int) + 1)))
section
variable {w : World} {A : Around} {base : Heap} {outer : List Env} {loose : List Str} {mean : ExcName → Option Value} {mg mb : Str → Option Value} {s : Shared} {E : Value → Shared → Prop} {Q : Value → Shared → Prop}
theorem label_list_eq {x l ll : Addr} {vs lvs : List Value} {xs : List (Option Str)} {n n' : Nat} (hv : VecAt w.params s.heap x (Str.ofString "character") (.ref l) .none) (hl : s.heap.get? l = some (W.listOf vs.toArray n)) (hp : Paired IsOS vs xs) (hll : s.heap.get? ll = some (W.listOf lvs.toArray n')) (hz : vs.length ≤ 1000) (he : vs.length = lvs.length)
    (C : Cx w A base outer loose mean mg mb s.heap) (hd : A.depth + 12 ≤ 700) (hu : A.units + 120 ≤ 8000)
    (hret : ∀ a n h' tk', Kept s.heap h' → Fresh s.heap h' a (W.listOf vs.toArray n) → Q (.ref a) { s with heap := h', toks := tk' }) :
    wpAny (model pw w) A (call (.ref 545) [.ref x, .ref ll]) Q E s := by
  obtain ⟨B, X, T, hh⟩ := C
  walk_at "m_goC"
  all_goals exact hret _ _ _ _ (Fr.keep (by assumption)) (freshOf (by assumption) (List.Mem.head _))
theorem label_list_one {x l ll : Addr} {v : Value} {lvs : List Value} {x0 : Option Str} {n n' : Nat} (hv : VecAt w.params s.heap x (Str.ofString "character") (.ref l) .none) (hl : s.heap.get? l = some (W.listOf [v].toArray n)) (hp : IsOS v x0) (hll : s.heap.get? ll = some (W.listOf lvs.toArray n')) (hy : lvs.length ≤ 1000) (he : 1 ≠ lvs.length) (hx0 : ∀ y, x0 = some y → y.length ≤ 100)
    (C : Cx w A base outer loose mean mg mb s.heap) (hd : A.depth + 12 ≤ 700) (hu : A.units + 120 ≤ 8000)
    (hret : ∀ a n ys h' tk', Kept s.heap h' → Fresh s.heap h' a (W.listOf ys.toArray n) → Paired IsOS ys (calledOf [x0] lvs.length) → ys.length = lvs.length → Q (.ref a) { s with heap := h', toks := tk' }) :
    wpAny (model pw w) A (call (.ref 545) [.ref x, .ref ll]) Q E s := by
  obtain ⟨B, X, T, hh⟩ := C
  have hp1 : Paired IsOS [v] [x0] := .cons hp .nil
  have hv0 : [v][(0 : Int).toNat]? = some v := rfl
  walk_at "m_goC"
  rename News _ _ _ _ => N1
  rename Fr _ _ _ _ => F1
  cases x0 with
  | none =>
    cases hp
    k_steps
    refine compMap (fun i ys => Paired IsOS ys ((List.range i).map fun i : Nat => some (Str.ofString "NA" ++ Str.ofString (toString ((i : Int) + 1))))) .nil ?_ ?_
    · rintro i ys hi hR
      intro v I oI Cc oC D m₂ h₂ tk₂ E' hi' hC hx' F' N' off ne
      intros
      obtain ⟨ti, rfl⟩ := hi'
      rw [Int.zero_add] at hx'
      k_steps
      all_goals (rw [List.range_succ, List.map_append]; exact pairedSnoc ⟨_, rfl⟩ hR)
    · rintro ys hR
      k_steps
      all_goals exact hret _ _ _ _ _ (Fr.keep (by assumption)) (freshOf (by assumption) (List.Mem.head _)) (by unfold calledOf; rw [if_neg (by simpa using he)]; exact hR) (by have a := hR.length; rw [List.length_map, List.length_range] at a; exact a)
  | some x0 =>
    obtain ⟨t, rfl⟩ := hp
    have hlen := hx0 _ rfl
    k_steps
    refine compMap (fun i ys => Paired IsOS ys ((List.range i).map fun i : Nat => some (x0 ++ Str.ofString (toString ((i : Int) + 1))))) .nil ?_ ?_
    · rintro i ys hi hR
      intro v I oI Cc oC D m₂ h₂ tk₂ E' hi' hC hx' F' N' off ne
      intros
      obtain ⟨ti, rfl⟩ := hi'
      rw [Int.zero_add] at hx'
      k_steps
      all_goals (rw [List.range_succ, List.map_append]; exact pairedSnoc ⟨_, rfl⟩ hR)
    · rintro ys hR
      k_steps
      all_goals exact hret _ _ _ _ _ (Fr.keep (by assumption)) (freshOf (by assumption) (List.Mem.head _)) (by unfold calledOf; rw [if_neg (by simpa using he)]; exact hR) (by have a := hR.length; rw [List.length_map, List.length_range] at a; exact a)
end
theorem row13 : True := by
  (k_with "call ref" => (k_here; (with_reducible show wpAny _ _ (call (Value.ref 545) _) _ _ _); k_dflt (refine' label_list_one ?v_r78 ?l_r78 ?p_r78 ?h_r78 ?y_r78 ?e_r78 ?x_r78 ?C_r78 ?d_r78 ?u_r78 ?_; (case v_r78 => walk_at "m_vec"); (case l_r78 => walk_at "m_get"); (case p_r78 => walk_at "m_pair1"); (case h_r78 => walk_at "m_get"); (case y_r78 => walk_at "m_num"); (case e_r78 => walk_at "m_num"); (case x_r78 => assumption); (case C_r78 => walk_at "m_cx"); (case d_r78 => walk_at "m_dep"); (case u_r78 => walk_at "m_dep"); k_whole); intro a'ρ n'ρ ys'ρ; walk_at "m_backL"; intro hp'ρ hlen'ρ))
  (k_with "call ref" => (k_here; (with_reducible show wpAny _ _ (call (Value.ref 545) _) _ _ _); k_dflt (refine' label_list_eq ?v_r79 ?l_r79 ?p_r79 ?h_r79 ?z_r79 ?e_r79 ?C_r79 ?d_r79 ?u_r79 ?_; (case v_r79 => walk_at "m_vec"); (case l_r79 => walk_at "m_get"); (case p_r79 => walk_at "m_pair"); (case h_r79 => walk_at "m_get"); (case z_r79 => walk_at "m_num"); (case e_r79 => walk_at "m_num"); (case C_r79 => walk_at "m_cx"); (case d_r79 => walk_at "m_dep"); (case u_r79 => walk_at "m_dep"); k_whole); intro a'ρ n'ρ; walk_at "m_backL"))
  (k_with "m_pair1" => assumption)
  trivial
theorem row14 : True := by
  (k_with "call ref" => (k_here; (with_reducible show wpAny _ _ (call (Value.ref 420) _) _ _ _); k_dflt (refine' compare_items_c  ?C_r81 ?d_r81 ?u_r81 ?_; (case C_r81 => walk_at "m_cx"); (case d_r81 => walk_at "m_dep"); (case u_r81 => walk_at "m_dep"); k_whole); intro t'ρ; walk_at "m_back"))
  trivial
/-- a place -/
noncomputable def IsP (v : Value) (p : Nat) : Prop := ∃ t, v = .int (p : Int) t
section
variable {w : World} {A : Around} {base : Heap} {outer : List Env} {loose : List Str} {mean : ExcName → Option Value} {mg mb : Str → Option Value} {s : Shared} {E : Value → Shared → Prop} {Q : Value → Shared → Prop}
theorem compare_places_c {x l : Addr} {vs : List Value} {n i j : Nat} {ti tj tx ty : Tok} {a b : Str} (hv : VecAt w.params s.heap x (Str.ofString "character") (.ref l) .none) (hl : s.heap.get? l = some (W.listOf vs.toArray n)) (hi : vs[i]? = some (.str a tx)) (hj : vs[j]? = some (.str b ty)) (hz : vs.length ≤ 1000)
    (C : Cx w A base outer loose mean mg mb s.heap) (hd : A.depth + 6 ≤ 700) (hu : A.units + 60 ≤ 8000)
    (hret : ∀ t h' tk', Kept s.heap h' → Q (.int (cmpS a b) t) { s with heap := h', toks := tk' }) :
    wpAny (model pw w) A (call (.ref 434) [.ref x, .int i ti, .int j tj, .bool false, .bool true]) Q E s := by
  obtain ⟨B, X, T, hh⟩ := C
  refine hv.elim ?_
  intro dx nn a1 b1 c1 d1 e1 k1 hx hdx
  have hi1 := (List.getElem?_eq_some_iff.mp hi).1
  have hj1 := (List.getElem?_eq_some_iff.mp hj).1
  have ha : IsOS (Value.str a tx) (some a) := ⟨_, rfl⟩
  have hb : IsOS (Value.str b ty) (some b) := ⟨_, rfl⟩
  walk_at "m_go"
  all_goals exact hret _ _ _ (Fr.keep (by assumption))
end
theorem row15 : True := by
  (k_with "call ref" => (k_here; (with_reducible show wpAny _ _ (call (Value.ref 434) _) _ _ _); k_dflt (refine' compare_places_c ?v_r82 ?l_r82 ?i_r82 ?j_r82 ?z_r82 ?C_r82 ?d_r82 ?u_r82 ?_; (case v_r82 => walk_at "m_vec"); (case l_r82 => walk_at "m_get"); (case i_r82 => assumption); (case j_r82 => assumption); (case z_r82 => walk_at "m_num"); (case C_r82 => walk_at "m_cx"); (case d_r82 => walk_at "m_dep"); (case u_r82 => walk_at "m_dep"); k_whole); intro t'ρ; walk_at "m_back"))
  trivial
section
variable {w : World} {A : Around} {base : Heap} {outer : List Env} {loose : List Str} {mean : ExcName → Option Value} {mg mb : Str → Option Value} {s : Shared} {E : Value → Shared → Prop} {Q : Value → Shared → Prop}
theorem compare_keys_c {x l kl fl : Addr} {vs : List Value} {n n' n'' i j : Nat} {ti tj tx ty : Tok} {a b : Str} (hv : VecAt w.params s.heap x (Str.ofString "character") (.ref l) .none) (hl : s.heap.get? l = some (W.listOf vs.toArray n)) (hkl : s.heap.get? kl = some (W.listOf [Value.ref x].toArray n')) (hfl : s.heap.get? fl = some (W.listOf [Value.bool false].toArray n'')) (hi : vs[i]? = some (.str a tx)) (hj : vs[j]? = some (.str b ty)) (hz : vs.length ≤ 1000)
    (C : Cx w A base outer loose mean mg mb s.heap) (hd : A.depth + 9 ≤ 700) (hu : A.units + 90 ≤ 8000)
    (hret : ∀ t h' tk', Kept s.heap h' → Q (.int (cmpS a b) t) { s with heap := h', toks := tk' }) :
    wpAny (model pw w) A (call (.ref 441) [.ref kl, .int i ti, .int j tj, .ref fl, .bool true]) Q E s := by
  obtain ⟨B, X, T, hh⟩ := C
  have hone : [Value.ref x].length ≤ 1000000 := by simp
  walk_at "m_go"
  rename IsRange _ _ _ _ _ _ _ _ => hr
  rename News _ _ _ _ => N1
  rename Fr _ _ _ _ => F1
  refine Halt.of (forLenL [Str.ofString "result"] (fun i u nw => nw = [] ∧ (i = 0 ∨ cmpS a b = 0)) hh hr (by simp) F1 N1 ⟨rfl, .inl rfl⟩ ?_ ?_)
  · rintro k t u nw I oI h₂ tk₂ hk ⟨rfl, _⟩ F2 N2 hne
    intros
    clear N1 F1
    obtain rfl : k = 0 := by simpa using hk
    have hv0 : [Value.ref x][((0 : Nat) : Int).toNat]? = some (Value.ref x) := rfl
    have hf0 : [Value.bool false][((0 : Nat) : Int).toNat]? = some (Value.bool false) := rfl
    k_steps

    · exact hret _ _ _ (Fr.keep (by assumption))
    · walk_at "m_tend"
      exact ⟨_, ⟨rfl, .inr (by assumption)⟩, by lcg_sub, by walk_at "m_off"⟩
  · rintro u nw h₂ tk₂ ⟨rfl, h0⟩ F2 N2
    clear N1 F1
    have h0 : cmpS a b = 0 := by simpa using h0
    rw [h0] at hret
    k_steps
    all_goals exact hret _ _ _ (Fr.keep (by assumption))
end
theorem row16 : True := by
  (k_with "call ref" => (k_here; (with_reducible show wpAny _ _ (call (Value.ref 441) _) _ _ _); k_dflt (refine' compare_keys_c ?v_r83 ?l_r83 ?k_r83 ?f_r83 ?i_r83 ?j_r83 ?z_r83 ?C_r83 ?d_r83 ?u_r83 ?_; (case v_r83 => walk_at "m_vec"); (case l_r83 => walk_at "m_get"); (case k_r83 => walk_at "m_get"); (case f_r83 => walk_at "m_get"); (case i_r83 => assumption); (case j_r83 => assumption); (case z_r83 => walk_at "m_num"); (case C_r83 => walk_at "m_cx"); (case d_r83 => walk_at "m_dep"); (case u_r83 => walk_at "m_dep"); k_whole); intro t'ρ; walk_at "m_back"))
  trivial
noncomputable def leK (key : Nat → Str) (a b : Nat) : Bool := decide (cmpS (key a) (key b) ≤ 0)
theorem merge_drop_left {le : Nat → Nat → Bool} {lp rp : List Nat} {i j p q : Nat} (hi : lp[i]? = some p) (hj : rp[j]? = some q) (h : le p q = true) : List.merge (lp.drop i) (rp.drop j) le = p :: List.merge (lp.drop (i + 1)) (rp.drop j) le := by
  obtain ⟨hi1, rfl⟩ := List.getElem?_eq_some_iff.mp hi
  obtain ⟨hj1, rfl⟩ := List.getElem?_eq_some_iff.mp hj
  rw [List.drop_eq_getElem_cons hi1, List.drop_eq_getElem_cons hj1, List.cons_merge_cons, if_pos h]
theorem merge_drop_right {le : Nat → Nat → Bool} {lp rp : List Nat} {i j p q : Nat} (hi : lp[i]? = some p) (hj : rp[j]? = some q) (h : le p q = false) : List.merge (lp.drop i) (rp.drop j) le = q :: List.merge (lp.drop i) (rp.drop (j + 1)) le := by
  obtain ⟨hi1, rfl⟩ := List.getElem?_eq_some_iff.mp hi
  obtain ⟨hj1, rfl⟩ := List.getElem?_eq_some_iff.mp hj
  rw [List.drop_eq_getElem_cons hi1, List.drop_eq_getElem_cons hj1, List.cons_merge_cons, if_neg (by simp [h])]
theorem merge_end {le : Nat → Nat → Bool} {lp rp : List Nat} {i j : Nat} (h : ¬ (i < lp.length ∧ j < rp.length)) : List.merge (lp.drop i) (rp.drop j) le = lp.drop i ++ rp.drop j := by
  by_cases hi : i < lp.length
  · have hj : rp.length ≤ j := by omega
    rw [List.drop_eq_nil_of_le hj]; simp
  · rw [List.drop_eq_nil_of_le (by omega : lp.length ≤ i)]; simp
theorem pairedApp {α β : Type} {F : α → β → Prop} {l₂ : List α} {r₂ : List β} (h₂ : Paired F l₂ r₂) {l : List α} {r : List β} (p : Paired F l r) : Paired F (l ++ l₂) (r ++ r₂) := by
  induction p with
  | nil => exact h₂
  | cons h _ ih => exact .cons h ih
theorem pairedDrop {α β : Type} {F : α → β → Prop} (i : Nat) {l : List α} {r : List β} (p : Paired F l r) : Paired F (l.drop i) (r.drop i) := by
  induction p generalizing i with
  | nil => cases i <;> exact .nil
  | cons h t ih =>
    cases i with
    | zero => exact .cons h t
    | succ i => exact ih i
inductive MJ (lv rv : List Value) (lp rp : List Nat) (le : Nat → Nat → Bool) (D : Addr) (n : Nat) (u : Str → Option Value) (nw : List (Addr × Obj)) : Prop
  | mk : ∀ (i j k : Nat) (ti tj : Tok) (av : List Value) (ap : List Nat), u (Str.ofString "i") = some (.int (i : Int) ti) →
    u (Str.ofString "j") = some (.int (j : Int) tj) →
    nw = [(D, W.listOf av.toArray k)] →
    Paired IsP av ap →
    ap ++ List.merge (lp.drop i) (rp.drop j) le = List.merge lp rp le →
    i ≤ lp.length →
    j ≤ rp.length →
    n = (lp.length - i) + (rp.length - j) →
    ap.length = i + j → MJ lv rv lp rp le D n u nw
section
variable {w : World} {A : Around} {base : Heap} {outer : List Env} {loose : List Str} {mean : ExcName → Option Value} {mg mb : Str → Option Value} {s : Shared} {E : Value → Shared → Prop} {Q : Value → Shared → Prop}
theorem merge_runs_c {x l kl fl la ra : Addr} {vs lv rv : List Value} {lp rp : List Nat} {key : Nat → Str} {n n' n'' n1 n2 : Nat} (hv : VecAt w.params s.heap x (Str.ofString "character") (.ref l) .none) (hl : s.heap.get? l = some (W.listOf vs.toArray n)) (hkl : s.heap.get? kl = some (W.listOf [Value.ref x].toArray n')) (hfl : s.heap.get? fl = some (W.listOf [Value.bool false].toArray n''))
    (hla : s.heap.get? la = some (W.listOf lv.toArray n1)) (hra : s.heap.get? ra = some (W.listOf rv.toArray n2)) (hpl : Paired IsP lv lp) (hpr : Paired IsP rv rp) (hkey : ∀ p, p ∈ lp ∨ p ∈ rp → ∃ t, vs[p]? = some (.str (key p) t)) (hz : vs.length ≤ 1000) (hzl : lv.length ≤ 1000) (hzr : rv.length ≤ 1000)
    (C : Cx w A base outer loose mean mg mb s.heap) (hd : A.depth + 12 ≤ 700) (hu : A.units + 120 ≤ 8000)
    (hret : ∀ a n ys h' tk', Kept s.heap h' → Fresh s.heap h' a (W.listOf ys.toArray n) → Paired IsP ys (List.merge lp rp (leK key)) → Q (.ref a) { s with heap := h', toks := tk' }) :
    wpAny (model pw w) A (call (.ref 448) [.ref la, .ref ra, .ref kl, .ref fl, .bool true]) Q E s := by
  obtain ⟨B, X, T, hh⟩ := C
  have hll := hpl.length
  have hrl := hpr.length
  walk_at "m_go"
  rename News _ _ _ _ => N1
  rename Fr _ _ _ _ => F1
  refine Halt.of (whileI [Str.ofString "i", Str.ofString "j"] (MJ lv rv lp rp (leK key) _) (n₀ := lp.length + rp.length) F1 N1 ⟨0, 0, _, _, _, [], [], rfl, rfl, rfl, .nil, rfl, Nat.zero_le _, Nat.zero_le _, by omega, rfl⟩ ?_)
  rintro m u nw h₂ tk₂ hJ9
  refine letG ?_
  intro P9
  obtain ⟨i, j, k, ti, tj, av, ap, hui, huj, rfl, hpa, hmer, hil, hjl, rfl, hal⟩ := hJ9
  k_unfold
  try clear P9
  rintro F2 N2
  clear N1 F1
  rw [ov2 hui huj] at F2
  by_cases hb : i < lp.length ∧ j < rp.length
  · obtain ⟨p, hp⟩ : ∃ p, lp[i]? = some p := ⟨_, List.getElem?_eq_getElem hb.1⟩
    obtain ⟨q', hq⟩ : ∃ q, rp[j]? = some q := ⟨_, List.getElem?_eq_getElem hb.2⟩
    have hiv : i < lv.length := by omega
    have hjv : j < rv.length := by omega
    refine letG ?_
    intro P9
    obtain ⟨p', hp', tp, hlv⟩ := Paired.get hpl (List.getElem?_eq_getElem hiv)
    k_unfold
    try clear P9
    refine letG ?_
    intro P9
    obtain ⟨q'', hq', tq, hrv⟩ := Paired.get hpr (List.getElem?_eq_getElem hjv)
    k_unfold
    try clear P9
    obtain rfl : p = p' := Option.some.inj (hp.symm.trans hp')
    obtain rfl : q' = q'' := Option.some.inj (hq.symm.trans hq')
    have hlv : lv[i]? = some (.int (p : Int) tp) := by rw [List.getElem?_eq_getElem hiv, hlv]
    have hrv : rv[j]? = some (.int (q' : Int) tq) := by rw [List.getElem?_eq_getElem hjv, hrv]
    obtain ⟨tx, hvx⟩ := hkey p (.inl (List.mem_of_getElem? hp))
    obtain ⟨ty, hvy⟩ := hkey q' (.inr (List.mem_of_getElem? hq))
    have hal2 : av.length ≤ 1000000 := by have := hpa.length; omega
    k_steps
    · rename cmpS (key p) (key q') ≤ 0 => hle
      walk_at "m_wend"
      refine ⟨_, _, ?_, ⟨i + 1, j, _, _, _, _, ap ++ [p], rfl, rfl, rfl, pairedSnoc ⟨_, rfl⟩ hpa, ?_, by omega, by omega, rfl, by simp; omega⟩, by lcg_sub⟩
      · omega
      · rw [← hmer, merge_drop_left hp hq (by simpa [leK] using hle)]; simp
    · rename ¬ cmpS (key p) (key q') ≤ 0 => hle
      walk_at "m_wend"
      refine ⟨_, _, ?_, ⟨i, j + 1, _, _, _, _, ap ++ [q'], rfl, rfl, rfl, pairedSnoc ⟨_, rfl⟩ hpa, ?_, by omega, by omega, rfl, by simp; omega⟩, by lcg_sub⟩
      · omega
      · rw [← hmer, merge_drop_right hp hq (by simpa [leK] using hle)]; simp
  · rw [merge_end hb] at hmer
    have hal2 := hpa.length
    have hpd : Paired IsP (av ++ (lv.drop i) ++ (rv.drop j)) (lp.merge rp (leK key)) := by
      rw [← hmer, ← List.append_assoc]
      exact pairedApp (pairedDrop j hpr) (pairedApp (pairedDrop i hpl) hpa)
    k_steps
    all_goals exact hret _ _ _ _ _ (Fr.keep (by assumption)) (freshOf (by assumption) (List.Mem.head _)) hpd
end
theorem row17 : True := by
  (k_with "call ref" => (k_here; (with_reducible show wpAny _ _ (call (Value.ref 448) _) _ _ _); k_dflt (refine' merge_runs_c ?v_r84 ?l_r84 ?k_r84 ?f_r84 ?la_r84 ?ra_r84 ?pl_r84 ?pr_r84 ?ke_r84 ?z_r84 ?zl_r84 ?zr_r84 ?C_r84 ?d_r84 ?u_r84 ?_; (case v_r84 => walk_at "m_vec"); (case l_r84 => walk_at "m_get"); (case k_r84 => walk_at "m_get"); (case f_r84 => walk_at "m_get"); (case la_r84 => walk_at "m_get"); (case ra_r84 => walk_at "m_get"); (case pl_r84 => assumption); (case pr_r84 => assumption); (case ke_r84 => assumption); (case z_r84 => walk_at "m_num"); (case zl_r84 => walk_at "m_num"); (case zr_r84 => walk_at "m_num"); (case C_r84 => walk_at "m_cx"); (case d_r84 => walk_at "m_dep"); (case u_r84 => walk_at "m_dep"); k_whole); intro a'ρ n'ρ ys'ρ; walk_at "m_backL"; intro hp'ρ))
  trivial
theorem cmpS_le_iff (x y : Str) : (cmpS x y ≤ 0) ↔ ¬ (y.cps.toList < x.cps.toList) := by
  unfold cmpS
  by_cases h1 : x.cps.toList < y.cps.toList
  · rw [if_pos h1]; simp [List.lt_asymm h1]
  · rw [if_neg h1]
    by_cases h2 : y.cps.toList < x.cps.toList
    · rw [if_pos h2]; simp [h2]
    · rw [if_neg h2]; simp [h2]
theorem leK_total (key : Nat → Str) (a b : Nat) : (leK key a b || leK key b a) = true := by
  simp only [leK, Bool.or_eq_true, decide_eq_true_eq, cmpS_le_iff]
  by_cases h : (key b).cps.toList < (key a).cps.toList
  · right; exact List.lt_asymm h
  · left; exact h
theorem leK_trans (key : Nat → Str) (a b c : Nat) (h1 : leK key a b = true) (h2 : leK key b c = true) : leK key a c = true := by
  simp only [leK, decide_eq_true_eq, cmpS_le_iff, List.not_lt] at h1 h2 ⊢
  exact List.le_trans h1 h2
/-- a run of places -/
noncomputable def RunAt (nw : List (Addr × Obj)) (v : Value) (p : List Nat) : Prop := ∃ a vk n, v = .ref a ∧ (a, W.listOf (List.toArray vk) n) ∈ nw ∧ Paired IsP vk p
theorem RunAt.mono {nw nw' : List (Addr × Obj)} (h : ∀ p ∈ nw, p ∈ nw') : ∀ v p, RunAt nw v p → RunAt nw' v p := fun _ _ ⟨a, vk, n, e, hm, hp⟩ => ⟨a, vk, n, e, h _ hm, hp⟩
theorem subEnd {α : Type} (l : List α) : ∀ p ∈ l, p ∈ l := fun _ h => h
theorem subCons {α : Type} {p0 : α} {r all : List α} (h : p0 ∈ all) (k : ∀ p ∈ r, p ∈ all) : ∀ p ∈ p0 :: r, p ∈ all := fun p hp => by
  rcases List.mem_cons.mp hp with rfl | hp
  · exact h
  · exact k p hp
theorem subTail {α : Type} {q0 : α} {r all : List α} (k : ∀ p ∈ r, p ∈ all) : ∀ p ∈ r, p ∈ q0 :: all := fun p hp => List.mem_cons_of_mem _ (k p hp)
theorem runs_take2 {ps : List (List Nat)} {i : Nat} {p q : List Nat} (hp : ps[2 * i]? = some p) (hq : ps[2 * i + 1]? = some q) : (ps.take (2 * (i + 1))).flatten = (ps.take (2 * i)).flatten ++ (p ++ q) := by
  rw [show 2 * (i + 1) = 2 * i + 1 + 1 by omega, take_next hq, take_next hp]
  simp
noncomputable def SortedRuns (key : Nat → Str) (ps : List (List Nat)) : Prop := ∀ p ∈ ps, p.Pairwise fun a b => leK key a b = true
inductive SortJ (key : Nat → Str) (pp : List Nat) (n : Nat) (u : Str → Option Value) (nw : List (Addr × Obj)) : Prop
  | mk : ∀ r rs k ps own, u (Str.ofString "runs") = some (.ref r) →
    nw = (r, W.listOf (List.toArray rs) k) :: own →
    Paired (RunAt own) rs ps →
    ps.flatten.Perm pp →
    SortedRuns key ps →
    n = ps.length →
    1 ≤ ps.length →
    ps.length ≤ 1000 → SortJ key pp n u nw
inductive LongJ (key : Nat → Str) (own : List (Addr × Obj)) (rs : List Value) (r : Addr) (k : Nat) (ps : List (List Nat)) (lg : Addr) (i : Nat) (u : Str → Option Value) (nw : List (Addr × Obj)) : Prop
  | mk : ∀ qv kq qs own', nw = (lg, W.listOf (List.toArray qv) kq) :: (r, W.listOf (List.toArray rs) k) :: own' →
    (∀ p ∈ own, p ∈ own') →
    AllNe lg own' →
    Paired (RunAt own') qv qs →
    qs.flatten.Perm (ps.take (2 * i)).flatten →
    SortedRuns key qs →
    qs.length = i → LongJ key own rs r k ps lg i u nw
theorem allNe_allLt {D : Addr} : ∀ {l : List (Addr × Obj)}, AllLt D l → AllNe D l
  | [], _ => trivial
  | _ :: _, h => ⟨Nat.ne_of_lt h.1, allNe_allLt h.2⟩
theorem mem_flat_len {ps : List (List Nat)} {p : List Nat} (h : p ∈ ps) : p.length ≤ ps.flatten.length := by
  induction ps with
  | nil => cases h
  | cons a r ih =>
    rw [List.flatten_cons, List.length_append]
    rcases List.mem_cons.mp h with rfl | h
    · omega
    · have := ih h; omega
theorem rangeTwo_size {n : Nat} (h : 1 ≤ n) : Builtin.Range.rangeSize 0 ((n : Int) - 1) 2 = ((n / 2 : Nat) : Int) := by
  unfold Builtin.Range.rangeSize
  simp only [show (2 : Int) > 0 by decide, if_true]
  split <;> omega
theorem rangeTwo_small {n : Nat} (h : 1 ≤ n) (hz : n ≤ 1000000) : Builtin.Range.small 0 ((n : Int) - 1) 2 = true := by
  unfold Builtin.Range.small
  rw [rangeTwo_size h]
  simp [Builtin.Range.rangeFitsLong]
  omega
theorem memOf {α : Type} {a : α} {l : List α} (h : a ∈ l) : List.Mem a l := h
theorem flat_last {ps : List (List Nat)} {m : Nat} {p : List Nat} (h : ps[m]? = some p) (hm : m + 1 = ps.length) : ps.flatten = (ps.take m).flatten ++ p := by
  have e2 := take_next h
  rw [hm, List.take_length] at e2
  exact (congrArg List.flatten e2).trans (by rw [List.flatten_append, List.flatten_singleton])
theorem flat_single : ∀ pp : List Nat, (pp.map fun p => [p]).flatten = pp
  | [] => rfl
  | p :: r => by rw [List.map_cons, List.flatten_cons, flat_single r]; rfl
theorem row18 : True := by
  (k_with "execs cons Assign cons" => walk_at "execs cons")
  (k_with "k_mem" => first | with_reducible assumption | (refine memOf ?_; with_reducible assumption))
  (k_with "k_all" => exact allNe_mem (by with_reducible assumption))
  (k_with "m_sub" => first | exact subEnd _ | (refine subCons (by k_mem) ?_; walk_at "m_sub") | (refine subTail ?_; walk_at "m_sub"))
  trivial
section
variable {w : World} {A : Around} {base : Heap} {outer : List Env} {loose : List Str} {mean : ExcName → Option Value} {mg mb : Str → Option Value} {s : Shared} {E : Value → Shared → Prop} {Q : Value → Shared → Prop}
theorem merge_sort_c {x l kl fl pl : Addr} {vs pv : List Value} {pp : List Nat} {key : Nat → Str} {n n' n'' n1 : Nat} (hv : VecAt w.params s.heap x (Str.ofString "character") (.ref l) .none) (hl : s.heap.get? l = some (W.listOf vs.toArray n)) (hkl : s.heap.get? kl = some (W.listOf [Value.ref x].toArray n')) (hfl : s.heap.get? fl = some (W.listOf [Value.bool false].toArray n''))
    (hpl : s.heap.get? pl = some (W.listOf pv.toArray n1)) (hpp : Paired IsP pv pp) (hkey : ∀ p, p ∈ pp → ∃ t, vs[p]? = some (.str (key p) t)) (hz : vs.length ≤ 1000) (hzp : pv.length ≤ 1000)
    (C : Cx w A base outer loose mean mg mb s.heap) (hd : A.depth + 15 ≤ 700) (hu : A.units + 150 ≤ 8000)
    (hret : ∀ a n ys zs h' tk', Kept s.heap h' → Fresh s.heap h' a (W.listOf ys.toArray n) → Paired IsP ys zs → zs.Perm pp → zs.Pairwise (fun a b => leK key a b = true) → Q (.ref a) { s with heap := h', toks := tk' }) :
    wpAny (model pw w) A (call (.ref 453) [.ref pl, .ref kl, .ref fl, .bool true]) Q E s := by
  obtain ⟨B, X, T, hh⟩ := C
  have hll := hpp.length
  walk_at "m_go"
  refine compInd (fun i ys nw => Paired (RunAt nw) ys ((pp.take i).map fun p => [p])) pv.length .nil ?_ ?_
  · intro i ys nw hi hR v I oI Cc oC D m₂ h₂ tk₂ E' hi' hC hx' F' N' off ne
    intros
    simp only [List.getElem?_toArray] at hi'
    refine letG ?_
    intro P9
    obtain ⟨p, hpi, tp, rfl⟩ := Paired.get hpp hi'
    k_unfold
    try clear P9
    k_steps
    rename News _ _ _ _ => NN
    rename Fr _ _ _ _ => FF
    refine' LCg.CompEnd.intro FF NN ((_, W.listOf [Value.int (p : Int) tp].toArray 0) :: nw) ?s ?_ ?c ?_
    case s => walk_at "m_sub"
    case c => exact .inl (isListAt hpl)
    · exact ⟨⟨by k_ne, by k_ne, by k_ne⟩, by assumption⟩
    · rw [take_map_next hpi]
      exact pairedSnoc ⟨_, _, _, rfl, .head _, .cons ⟨_, rfl⟩ .nil⟩ (pairedMono (RunAt.mono (fun _ h => List.mem_cons_of_mem _ h)) hR)
  · intro ys nw hR
    have hyl := hR.length
    rw [hll, List.take_length] at hR
    simp only [List.length_map, List.length_take] at hyl
    have hyl2 : ys.length ≤ 1000000 := by omega
    by_cases h0 : ys.length = 0
    · obtain rfl : ys = [] := List.eq_nil_of_length_eq_zero h0
      obtain rfl : pp = [] := List.eq_nil_of_length_eq_zero (by simp at hyl; omega)
      k_steps
      all_goals exact hret _ _ [] [] _ _ (Fr.keep (by assumption)) (freshOf (by assumption) (List.Mem.head _)) .nil (List.Perm.refl _) .nil
    · have h1 : 1 ≤ ys.length := by omega
      k_steps
      rename News _ _ _ _ => N1
      rename Fr _ _ _ _ => F1
      refine Halt.of (whileI [Str.ofString "runs", Str.ofString "longer", Str.ofString "at"] (SortJ key pp) F1 N1 ⟨_, _, _, _, _, rfl, rfl, hR, ?_, ?_, rfl, ?_, ?_⟩ ?_)
      · rw [flat_single]
      · intro p hp
        refine letG ?_
        intro P9
        obtain ⟨z, _, rfl⟩ := List.mem_map.mp hp
        k_unfold
        try clear P9
        exact List.pairwise_singleton _ _
      · rw [List.length_map]; omega
      · rw [List.length_map]; omega
      rintro m u nw₂ h₂ tk₂ hJ9
      refine letG ?_
      intro P9
      obtain ⟨r, rs, k, ps, own, hur, rfl, hrs, hperm, hsort, rfl, h1p, hkp⟩ := hJ9
      k_unfold
      try clear P9
      rintro F2 N2
      clear N1 F1
      rw [ovC hur] at F2
      have hrl := hrs.length
      have hfl : ps.flatten.length = pp.length := hperm.length_eq
      have hrk : rs.length ≤ 1000000 := by omega
      by_cases hlen : 1 < rs.length
      · k_steps
        rename IsRange _ _ _ _ _ _ _ _ => hr
        rename News _ _ _ _ => N1
        rename Fr _ _ _ _ => F1
        rename _ ∧ AllLt _ own => hlt
        obtain ⟨hlr, hlt⟩ := hlt
        have hrl2 := Nat.ne_of_lt hlr
        refine Halt.of (forRangeSL [] (LongJ key own rs r k ps _) hh hr (rangeTwo_small (by omega) (by omega)) (rangeTwo_size (by omega)) F1 N1 ⟨_, _, [], own, rfl, fun _ h => h, allNe_allLt hlt, .nil, List.Perm.refl _, (fun _ h => nomatch h), rfl⟩ ?_ ?_)
        · rintro i t u nw I oI h₂ tk₂ hi hJ9
          refine letG ?_
          intro P9
          obtain ⟨qv, kq, qs, own', rfl, hsub, hlo, hqv, hqp, hqs, hql⟩ := hJ9
          k_unfold
          try clear P9
          rintro F2 N2 hne
          intros
          clear N1 F1
          simp only [AllNe] at hne
          refine letG ?_
          intro P9
          obtain ⟨hne1, hne2, hne3⟩ := hne
          k_unfold
          try clear P9
          have hidx : (0 + (i : Int) * 2).toNat = 2 * i := by omega
          have hidx2 : (0 + (i : Int) * 2 + 1).toNat = 2 * i + 1 := by omega
          obtain ⟨v1, hv1⟩ : ∃ v1, rs[(0 + (i : Int) * 2).toNat]? = some v1 := ⟨_, List.getElem?_eq_getElem (by omega)⟩
          obtain ⟨v2, hv2⟩ : ∃ v2, rs[(0 + (i : Int) * 2 + 1).toNat]? = some v2 := ⟨_, List.getElem?_eq_getElem (by omega)⟩
          refine letG ?_
          intro P9
          obtain ⟨p1, hp1, a1, vk1, n1, rfl, hm1, hpp1⟩ := Paired.get hrs hv1
          k_unfold
          try clear P9
          refine letG ?_
          intro P9
          obtain ⟨p2, hp2, a2, vk2, n2, rfl, hm2, hpp2⟩ := Paired.get hrs hv2
          k_unfold
          try clear P9
          rw [hidx] at hp1
          rw [hidx2] at hp2
          have hm1' := hsub _ hm1
          have hm2' := hsub _ hm2
          have hz1 : vk1.length ≤ 1000 := by have := hpp1.length; have := mem_flat_len (List.mem_of_getElem? hp1); omega
          have hz2 : vk2.length ≤ 1000 := by have := hpp2.length; have := mem_flat_len (List.mem_of_getElem? hp2); omega
          have hke : ∀ p, p ∈ p1 ∨ p ∈ p2 → ∃ t, vs[p]? = some (.str (key p) t) := fun p hp => hkey p (hperm.mem_iff.mp (hp.elim (fun h => List.mem_flatten.mpr ⟨_, List.mem_of_getElem? hp1, h⟩) fun h => List.mem_flatten.mpr ⟨_, List.mem_of_getElem? hp2, h⟩))
          have hqv1 : qv.length ≤ 1000000 := by have := hqv.length; omega
          k_steps
          walk_at "m_tend"
          refine ⟨_, ⟨_, _, qs ++ [p1.merge p2 (leK key)], _ :: own', rfl, fun p h => List.mem_cons_of_mem _ (hsub p h), ⟨?_, hlo⟩, pairedSnoc ⟨_, _, _, rfl, .head _, by assumption⟩ (pairedMono (RunAt.mono fun _ h => List.mem_cons_of_mem _ h) hqv), ?_, ?_, by simp [hql]⟩, by walk_at "m_sub", ?_⟩
          · refine neN ?_; (try dsimp only); k_ne
          · rw [runs_take2 hp1 hp2, List.flatten_append]
            exact hqp.append (by simpa using List.merge_perm_append (leK key))
          · intro p hp
            rcases List.mem_append.mp hp with hp | hp
            · exact hqs p hp
            · obtain rfl := List.mem_singleton.mp hp
              exact List.pairwise_merge (leK_trans key) (leK_total key) _ _ (hsort _ (List.mem_of_getElem? hp1)) (hsort _ (List.mem_of_getElem? hp2))
          · exact ⟨by k_ne, by k_ne, by k_ne, hne3⟩
        · rintro u nw h₂ tk₂ hJ9
          refine letG ?_
          intro P9
          obtain ⟨qv, kq, qs, own', rfl, hsub, hlo, hqv, hqp, hqs, hql⟩ := hJ9
          k_unfold
          try clear P9
          rintro F2 N2
          clear N1 F1
          have hqvl := hqv.length
          have hqv1 : qv.length ≤ 1000000 := by omega
          by_cases hodd : rs.length % 2 = 1
          · have hfm : ((rs.length : Int).fmod 2 == 1) = true := by rw [Int.fmod_eq_emod_of_nonneg _ (by decide)]; simp; omega
            obtain ⟨v3, hv3⟩ : ∃ v3, rs[rs.length - 1]? = some v3 := ⟨_, List.getElem?_eq_getElem (by omega)⟩
            refine letG ?_
            intro P9
            obtain ⟨p3, hp3, a3, vk3, n3, rfl, hm3, hpp3⟩ := Paired.get hrs hv3
            k_unfold
            try clear P9
            k_steps
            walk_at "m_wend"
            refine ⟨_, _, ?_, ⟨_, _, _, qs ++ [p3], own', rfl, rfl, pairedSnoc ⟨_, _, _, rfl, hsub _ hm3, hpp3⟩ hqv, ?_, ?_, rfl, by simp, by simp; omega⟩, by walk_at "m_sub"⟩
            · simp; omega
            · refine List.Perm.trans ?_ hperm
              rw [List.flatten_append]
              have e : ps.flatten = (ps.take (2 * (rs.length / 2))).flatten ++ p3 := flat_last (by rw [show 2 * (rs.length / 2) = rs.length - 1 by omega]; exact hp3) (by omega)
              rw [e]
              exact hqp.append (by simp)
            · intro p hp
              rcases List.mem_append.mp hp with hp | hp
              · exact hqs p hp
              · obtain rfl := List.mem_singleton.mp hp
                exact hsort _ (List.mem_of_getElem? hp3)
          · have hfm : ((rs.length : Int).fmod 2 == 1) = false := by rw [Int.fmod_eq_emod_of_nonneg _ (by decide)]; simp; omega
            k_steps
            walk_at "m_wend"
            refine ⟨_, _, ?_, ⟨_, _, _, qs, own', rfl, rfl, hqv, ?_, hqs, rfl, by omega, by omega⟩, by walk_at "m_sub"⟩
            · omega
            · refine List.Perm.trans ?_ hperm
              rw [show 2 * (rs.length / 2) = ps.length by omega, List.take_length] at hqp
              exact hqp
      · obtain ⟨v0, hv0⟩ : ∃ v0, rs[(0 : Int).toNat]? = some v0 := ⟨_, List.getElem?_eq_getElem (by show 0 < _; omega)⟩
        refine letG ?_
        intro P9
        obtain ⟨p0, hp0, a0, vk0, n0, rfl, hm0, hpp0⟩ := Paired.get hrs hv0
        k_unfold
        try clear P9
        k_steps
        obtain rfl : ps = [p0] := by
          have : ps.length = 1 := by omega
          obtain ⟨z, rfl⟩ := List.length_eq_one_iff.mp this
          simpa using hp0
        have hperm : p0.Perm pp := by simpa using hperm
        all_goals exact hret _ _ _ _ _ _ (Fr.keep (by assumption)) (freshOf (by assumption) (List.mem_cons_of_mem _ hm0)) hpp0 hperm (hsort p0 (by simp))
end
theorem row19 : True := by
  (k_with "call ref" => (k_here; (with_reducible show wpAny _ _ (call (Value.ref 453) _) _ _ _); k_dflt (refine' merge_sort_c ?v_r89 ?l_r89 ?k_r89 ?f_r89 ?pl_r89 ?pp_r89 ?ke_r89 ?z_r89 ?zp_r89 ?C_r89 ?d_r89 ?u_r89 ?_; (case v_r89 => walk_at "m_vec"); (case l_r89 => walk_at "m_get"); (case k_r89 => walk_at "m_get"); (case f_r89 => walk_at "m_get"); (case pl_r89 => walk_at "m_get"); (case pp_r89 => assumption); (case ke_r89 => assumption); (case z_r89 => walk_at "m_num"); (case zp_r89 => walk_at "m_num"); (case C_r89 => walk_at "m_cx"); (case d_r89 => walk_at "m_dep"); (case u_r89 => walk_at "m_dep"); k_whole); intro a'ρ n'ρ ys'ρ zs'ρ; walk_at "m_backL"; intro hp'ρ hperm'ρ hpw'ρ))
  trivial
noncomputable def keptTo (xs : List (Option Str)) (i : Nat) : List Nat := (List.range i).filter fun p => (xs[p]?.getD none).isSome
theorem keptTo_none {xs : List (Option Str)} {i : Nat} (h : xs[i]? = some none) : keptTo xs (i + 1) = keptTo xs i := by
  unfold keptTo; rw [List.range_succ, List.filter_append]; simp [h]
theorem keptTo_some {xs : List (Option Str)} {i : Nat} {x : Str} (h : xs[i]? = some (some x)) : keptTo xs (i + 1) = keptTo xs i ++ [i] := by
  unfold keptTo; rw [List.range_succ, List.filter_append]; simp [h]
theorem single_get {α : Type} {a b : α} : ∀ {k : Nat}, [a][k]? = some b → k = 0 ∧ b = a
  | 0, h => ⟨rfl, (Option.some.inj h).symm⟩
  | _ + 1, h => by simp at h
theorem keptTo_len (xs : List (Option Str)) (i : Nat) : (keptTo xs i).length ≤ i := by
  unfold keptTo; exact Nat.le_trans (List.length_filter_le _ _) (by simp)
section
variable {w : World} {A : Around} {base : Heap} {outer : List Env} {loose : List Str} {mean : ExcName → Option Value} {mg mb : Str → Option Value} {s : Shared} {E : Value → Shared → Prop} {Q : Value → Shared → Prop}
theorem check_sortable_c {x : Addr} {items attrs : Value} (hv : VecAt w.params s.heap x (Str.ofString "character") items attrs)
    (C : Cx w A base outer loose mean mg mb s.heap) (hd : A.depth + 3 ≤ 700) (hu : A.units + 30 ≤ 8000)
    (hret : ∀ h' tk', Kept s.heap h' → Q .none { s with heap := h', toks := tk' }) :
    wpAny (model pw w) A (call (.ref 427) [.ref x]) Q E s := by
  obtain ⟨B, X, T, hh⟩ := C
  refine hv.elim ?_
  intro dx nn a1 b1 c1 d1 e1 k1 hx hdx
  walk_at "m_go"
  all_goals exact hret _ _ (Fr.keep (by assumption))
theorem each_key_c {t : Tok}
    (C : Cx w A base outer loose mean mg mb s.heap) (hd : A.depth + 3 ≤ 700) (hu : A.units + 30 ≤ 8000)
    (hret : ∀ a n h' tk', Kept s.heap h' → Fresh s.heap h' a (W.listOf [Value.bool false].toArray n) → Q (.ref a) { s with heap := h', toks := tk' }) :
    wpAny (model pw w) A (call (.ref 458) [.bool false, .int 1 t]) Q E s := by
  obtain ⟨B, X, T, hh⟩ := C
  walk_at "m_goC"
  all_goals exact hret _ _ _ _ (Fr.keep (by assumption)) (freshOf (by assumption) (List.Mem.head _))
theorem kept_places_c {x l kl : Addr} {vs : List Value} {xs : List (Option Str)} {n n' : Nat} (hv : VecAt w.params s.heap x (Str.ofString "character") (.ref l) .none) (hl : s.heap.get? l = some (W.listOf vs.toArray n)) (hp : Paired IsOS vs xs) (hkl : s.heap.get? kl = some (W.listOf [Value.ref x].toArray n')) (hz : vs.length ≤ 1000)
    (C : Cx w A base outer loose mean mg mb s.heap) (hd : A.depth + 6 ≤ 700) (hu : A.units + 60 ≤ 8000)
    (hret : ∀ a n ys h' tk', Kept s.heap h' → Fresh s.heap h' a (W.listOf ys.toArray n) → Paired IsP ys (keptTo xs xs.length) → ys.length ≤ vs.length → Q (.ref a) { s with heap := h', toks := tk' }) :
    wpAny (model pw w) A (call (.ref 465) [.ref kl, .none]) Q E s := by
  obtain ⟨B, X, T, hh⟩ := C
  have hxl := hp.length
  refine hv.elim ?_
  intro dx nn a1 b1 c1 d1 e1 k1 hx hdx
  have hkv : [Value.ref x][(0 : Int).toNat]? = some (Value.ref x) := rfl
  walk_at "m_go"
  rename IsRange _ _ _ _ _ _ _ _ => hr
  rename News _ _ _ _ => N1
  rename Fr _ _ _ _ => F1
  refine Halt.of (forLenL [Str.ofString "keep", Str.ofString "v"] (fun i u nw => ∃ pv kq, nw = [(_, W.listOf (List.toArray pv) kq)] ∧ Paired IsP pv (keptTo xs i)) hh hr (by omega) F1 N1 ⟨[], _, rfl, .nil⟩ ?_ ?_)
  · rintro i t u nw I oI h₂ tk₂ hi hJ9
    refine letG ?_
    intro P9
    obtain ⟨pv, kq, rfl, hpv⟩ := hJ9
    k_unfold
    try clear P9
    rintro F2 N2 hne
    intros
    simp only [AllNe, and_true] at hne
    clear N1 F1
    obtain ⟨v, hiv⟩ : ∃ v, vs[i]? = some v := ⟨_, List.getElem?_eq_getElem hi⟩
    refine letG ?_
    intro P9
    obtain ⟨y, hy, hvy⟩ := Paired.get hp hiv
    k_unfold
    try clear P9
    have hpvl : pv.length ≤ 1000000 := by have := hpv.length; have := keptTo_len xs i; omega
    k_steps
    rename News _ _ _ _ => N1
    rename Fr _ _ _ _ => F1
    refine Halt.of (forListL [Str.ofString "keep"] (fun k u nw => nw = [(_, _), (_, _)] ∧ (k = 0 → u (Str.ofString "keep") = some (.bool true)) ∧ (k = 1 → u (Str.ofString "keep") = some (.bool y.isSome))) hh (isListAt hkl) F1 N1 ⟨rfl, (fun _ => rfl), (fun h => by cases h)⟩ ?_ ?_)
    · rintro k v' u' nw' I' oI' h₃ tk₃ hk hJ9
      refine letG ?_
      intro P9
      obtain ⟨rfl, hk0, _⟩ := hJ9
      k_unfold
      try clear P9
      rintro F3 N3 hne'
      intros
      obtain ⟨rfl, rfl⟩ := single_get hk
      simp only [AllNe, and_true] at hne'
      clear N1 F1
      cases y with
      | none =>
        cases hvy
        k_steps
        walk_at "m_tend"
        exact ⟨_, ⟨rfl, (fun h => by cases h), (fun _ => rfl)⟩, by lcg_sub, by walk_at "m_off"⟩
      | some y =>
        obtain ⟨ty, rfl⟩ := hvy
        k_steps
        walk_at "m_tend"
        exact ⟨_, ⟨rfl, (fun h => by cases h), (fun _ => hk0 rfl)⟩, by lcg_sub, by walk_at "m_off"⟩
    · rintro u' nw' h₃ tk₃ hJ9
      refine letG ?_
      intro P9
      obtain ⟨rfl, _, hk⟩ := hJ9
      k_unfold
      try clear P9
      rintro F3 N3
      clear N1 F1
      rw [ov2 rfl (hk rfl)] at F3
      cases y with
      | none =>
        simp only [Option.isSome_none] at F3
        k_steps
        walk_at "m_tend"
        exact ⟨_, ⟨_, _, rfl, by rw [keptTo_none hy]; exact hpv⟩, by lcg_sub, by walk_at "m_off"⟩
      | some y =>
        simp only [Option.isSome_some] at F3
        k_steps
        walk_at "m_tend"
        refine ⟨_, ⟨_, _, rfl, ?_⟩, by lcg_sub, by walk_at "m_off"⟩
        rw [keptTo_some hy]; exact pairedSnoc ⟨_, rfl⟩ hpv
  · rintro u nw h₂ tk₂ hJ9
    refine letG ?_
    intro P9
    obtain ⟨pv, kq, rfl, hpv⟩ := hJ9
    k_unfold
    try clear P9
    rintro F2 N2
    clear N1 F1
    rw [hxl] at hpv
    have hpl := hpv.length
    have hpk := keptTo_len xs xs.length
    k_steps
    all_goals exact hret _ _ _ _ _ (Fr.keep (by assumption)) (freshOf (by assumption) (List.Mem.head _)) hpv (by omega)
end
theorem row20 : True := by
  (k_with "call ref" => (k_here; (with_reducible show wpAny _ _ (call (Value.ref 427) _) _ _ _); k_dflt (refine' check_sortable_c ?v_r90 ?C_r90 ?d_r90 ?u_r90 ?_; (case v_r90 => walk_at "m_vec"); (case C_r90 => walk_at "m_cx"); (case d_r90 => walk_at "m_dep"); (case u_r90 => walk_at "m_dep"); k_whole); walk_at "m_back"))
  (k_with "call ref" => (k_here; (with_reducible show wpAny _ _ (call (Value.ref 458) _) _ _ _); k_dflt (refine' each_key_c  ?C_r91 ?d_r91 ?u_r91 ?_; (case C_r91 => walk_at "m_cx"); (case d_r91 => walk_at "m_dep"); (case u_r91 => walk_at "m_dep"); k_whole); intro a'ρ n'ρ; walk_at "m_backL"))
  (k_with "call ref" => (k_here; (with_reducible show wpAny _ _ (call (Value.ref 465) _) _ _ _); k_dflt (refine' kept_places_c ?v_r92 ?l_r92 ?p_r92 ?k_r92 ?z_r92 ?C_r92 ?d_r92 ?u_r92 ?_; (case v_r92 => walk_at "m_vec"); (case l_r92 => walk_at "m_get"); (case p_r92 => walk_at "m_pair"); (case k_r92 => walk_at "m_get"); (case z_r92 => walk_at "m_num"); (case C_r92 => walk_at "m_cx"); (case d_r92 => walk_at "m_dep"); (case u_r92 => walk_at "m_dep"); k_whole); intro a'ρ n'ρ ys'ρ; walk_at "m_backL"; intro hp'ρ hlen'ρ))
  trivial
theorem lenOne {w : World} {A : Around} {s : Shared} {E : Value → Shared → Prop} {Q : Value → Shared → Prop} {l : Addr} {v : Value} (hl : s.heap.IsList l [v].toArray) (h : Q (.int 1 (s.toks + 1)) { s with toks := s.toks + 1 + 1 }) :
    wpAny (model pw w) A (call (.builtin "len") [.ref l]) Q E s := lenL hl (by simp) h
theorem row21 : True := by
  (k_with "call builtin:len" => (k_here; (with_reducible show wpAny _ _ (call (Value.builtin "len") [Value.ref _]) _ _ _); k_dflt (refine' lenOne ?k1_r93 ?_; (case k1_r93 => is_list); k_whole)))
  trivial
structure IsRanks (xs : List (Option Str)) (ws : List Str) : Prop where
  sorted : ws.Pairwise fun a b => a.cps.toList < b.cps.toList
  mem : ∀ x, x ∈ ws ↔ some x ∈ xs
section
variable {w : World} {A : Around} {base : Heap} {outer : List Env} {loose : List Str} {mean : ExcName → Option Value} {mg mb : Str → Option Value} {s : Shared} {E : Value → Shared → Prop} {Q : Value → Shared → Prop}
theorem order_by_c {x l kl : Addr} {vs : List Value} {xs : List (Option Str)} {key : Nat → Str} {n n' : Nat} (hv : VecAt w.params s.heap x (Str.ofString "character") (.ref l) .none) (hl : s.heap.get? l = some (W.listOf vs.toArray n)) (hp : Paired IsOS vs xs) (hkl : s.heap.get? kl = some (W.listOf [Value.ref x].toArray n')) (hkey : ∀ p, p ∈ keptTo xs xs.length → ∃ t, vs[p]? = some (.str (key p) t)) (hz : vs.length ≤ 1000)
    (C : Cx w A base outer loose mean mg mb s.heap) (hd : A.depth + 18 ≤ 700) (hu : A.units + 180 ≤ 8000)
    (hret : ∀ a n ys zs h' tk', Kept s.heap h' → Fresh s.heap h' a (W.listOf ys.toArray n) → Paired IsP ys zs → zs.Perm (keptTo xs xs.length) → zs.Pairwise (fun a b => leK key a b = true) → ys.length ≤ vs.length → Q (.ref a) { s with heap := h', toks := tk' }) :
    wpAny (model pw w) A (call (.ref 473) [.ref kl, .bool false, .none]) Q E s := by
  obtain ⟨B, X, T, hh⟩ := C
  have hxl := hp.length
  have hkv : [Value.ref x][(0 : Int).toNat]? = some (Value.ref x) := rfl
  have hone : [Value.ref x].length ≤ 1000000 := by simp
  walk_at "m_go"
  rename News _ _ _ _ => N1
  rename Fr _ _ _ _ => F1
  refine Halt.of (forListL [] (fun k u nw => nw = []) hh (isListAt hkl) F1 N1 rfl ?_ ?_)
  · rintro k v' u' nw' I' oI' h₃ tk₃ hk rfl F3 N3 hne'
    intros
    obtain ⟨rfl, rfl⟩ := single_get hk
    clear N1 F1
    k_steps
    · exact absurd rfl ‹(vs.length : Int) ≠ vs.length›
    · walk_at "m_tend"
      exact ⟨_, rfl, by lcg_sub, by walk_at "m_off"⟩
  · rintro u' nw' h₃ tk₃ rfl F3 N3
    clear N1 F1
    k_steps
    rename List.Perm _ _ => hpm
    rename Paired IsP _ _ => hpy
    rename List.Pairwise _ _ => hpw
    all_goals exact hret _ _ _ _ _ _ (Fr.keep (by assumption)) (freshOf (by assumption) (List.Mem.head _)) hpy hpm hpw (by have a := hpy.length; have b := hpm.length_eq; have c := keptTo_len xs xs.length; omega)
end
theorem row22 : True := by
  (k_with "call ref" => (k_here; (with_reducible show wpAny _ _ (call (Value.ref 473) _) _ _ _); k_dflt (refine' order_by_c ?v_r94 ?l_r94 ?p_r94 ?k_r94 ?ke_r94 ?z_r94 ?C_r94 ?d_r94 ?u_r94 ?_; (case v_r94 => walk_at "m_vec"); (case l_r94 => walk_at "m_get"); (case p_r94 => walk_at "m_pair"); (case k_r94 => walk_at "m_get"); (case ke_r94 => assumption); (case z_r94 => walk_at "m_num"); (case C_r94 => walk_at "m_cx"); (case d_r94 => walk_at "m_dep"); (case u_r94 => walk_at "m_dep"); k_whole); intro a'ρ n'ρ ys'ρ zs'ρ; walk_at "m_backL"; intro hp'ρ hperm'ρ hpw'ρ hlen'ρ))
  trivial
theorem str_eq_of_cps {a b : Str} (h : a.cps.toList = b.cps.toList) : a = b := by
  cases a; cases b; simp only [Array.toList_inj] at h; simp_all
theorem distinct_ranks : ∀ (ts acc : List Str), acc.Pairwise (fun a b => a.cps.toList < b.cps.toList) → ts.Pairwise (fun a b => ¬ b.cps.toList < a.cps.toList) → (∀ a ∈ acc, ∀ b ∈ ts, ¬ b.cps.toList < a.cps.toList) →
    ((ts.map some).foldl dstep acc).Pairwise (fun a b => a.cps.toList < b.cps.toList) ∧ ∀ x, x ∈ (ts.map some).foldl dstep acc ↔ x ∈ acc ∨ x ∈ ts
  | [], acc, h1, _, _ => ⟨h1, fun x => by simp⟩
  | t :: ts, acc, h1, h2, h3 => by
    rw [List.map_cons, List.foldl_cons]
    obtain ⟨h2a, h2b⟩ := List.pairwise_cons.mp h2
    by_cases hm : t ∈ acc
    · have e : dstep acc (some t) = acc := by show (if t ∈ acc then acc else acc ++ [t]) = acc; rw [if_pos hm]
      rw [e]
      obtain ⟨k1, k2⟩ := distinct_ranks ts acc h1 h2b fun a ha b hb => h3 a ha b (List.mem_cons_of_mem _ hb)
      refine ⟨k1, fun x => (k2 x).trans ?_⟩
      rw [List.mem_cons]
      constructor
      · rintro (h | h)
        · exact .inl h
        · exact .inr (.inr h)
      · rintro (h | rfl | h)
        · exact .inl h
        · exact .inl hm
        · exact .inr h
    · have e : dstep acc (some t) = acc ++ [t] := by show (if t ∈ acc then acc else acc ++ [t]) = _; rw [if_neg hm]
      rw [e]
      have hlt : ∀ a ∈ acc, a.cps.toList < t.cps.toList := fun a ha => by
        have h := h3 a ha t List.mem_cons_self
        rcases List.le_iff_lt_or_eq.mp (List.not_lt.mp h) with h | h
        · exact h
        · exact absurd (str_eq_of_cps h ▸ ha) hm
      obtain ⟨k1, k2⟩ := distinct_ranks ts (acc ++ [t]) (by
          rw [List.pairwise_append]
          refine ⟨h1, List.pairwise_singleton _ _, fun a ha b hb => ?_⟩
          rw [List.mem_singleton.mp hb]
          exact hlt a ha) h2b (by
          intro a ha b hb
          rcases List.mem_append.mp ha with ha | ha
          · exact h3 a ha b (List.mem_cons_of_mem _ hb)
          · rw [List.mem_singleton.mp ha]; exact h2a b hb)
      refine ⟨k1, fun x => (k2 x).trans ?_⟩
      simp only [List.mem_append, List.mem_cons, List.not_mem_nil, or_false, or_assoc]
noncomputable def keyOf (xs : List (Option Str)) (p : Nat) : Str := ((xs[p]?).getD none).getD (Str.ofString "")
theorem keptTo_key {xs : List (Option Str)} {p : Nat} (h : p ∈ keptTo xs xs.length) : xs[p]? = some (some (keyOf xs p)) := by
  unfold keptTo at h
  obtain ⟨h1, h2⟩ := List.mem_filter.mp h
  have hp : p < xs.length := List.mem_range.mp h1
  unfold keyOf
  rw [List.getElem?_eq_getElem hp] at h2 ⊢
  simp only [Option.getD_some] at h2 ⊢
  cases e : xs[p] with
  | none => rw [e] at h2; cases h2
  | some y => rfl
theorem isRanks_of {xs : List (Option Str)} {zs : List Nat} (hp : zs.Perm (keptTo xs xs.length)) (hw : zs.Pairwise fun a b => leK (keyOf xs) a b = true) : IsRanks xs (distinctT (zs.map fun p => some (keyOf xs p))) := by
  have e : (zs.map fun p => some (keyOf xs p)) = (zs.map (keyOf xs)).map some := by rw [List.map_map]; rfl
  obtain ⟨k1, k2⟩ := distinct_ranks (zs.map (keyOf xs)) [] .nil (by
    rw [List.pairwise_map]
    refine hw.imp fun {a b} h => ?_
    simpa [leK, cmpS_le_iff] using h) (fun a ha => nomatch ha)
  refine ⟨by unfold distinctT; rw [e]; exact k1, fun x => ?_⟩
  unfold distinctT
  rw [e, k2 x]
  constructor
  · rintro (h | h)
    · cases h
    · refine letG ?_
      intro P9
      obtain ⟨p, hz, rfl⟩ := List.mem_map.mp h
      k_unfold
      try clear P9
      exact List.mem_of_getElem? (keptTo_key (hp.mem_iff.mp hz))
  · intro h
    refine letG ?_
    intro P9
    obtain ⟨p, hl, e⟩ := List.mem_iff_getElem.mp h
    k_unfold
    try clear P9
    refine .inr (List.mem_map.mpr ⟨p, hp.mem_iff.mpr ?_, ?_⟩)
    · unfold keptTo
      refine List.mem_filter.mpr ⟨List.mem_range.mpr hl, ?_⟩
      rw [List.getElem?_eq_getElem hl, e]; rfl
    · unfold keyOf
      rw [List.getElem?_eq_getElem hl, e]; rfl
theorem IsRanks.nodup {xs : List (Option Str)} {ws : List Str} (h : IsRanks xs ws) : ws.Nodup := h.sorted.imp fun {a b} hlt e => by subst e; exact List.lt_irrefl _ hlt
theorem IsRanks.unique {xs : List (Option Str)} {ws ws' : List Str} (h : IsRanks xs ws) (h' : IsRanks xs ws') : ws = ws' := by
  refine List.Perm.eq_of_pairwise (le := fun a b => a.cps.toList < b.cps.toList) (fun a b _ _ h1 h2 => absurd h2 (List.lt_asymm h1)) h.sorted h'.sorted ?_
  exact (List.perm_ext_iff_of_nodup h.nodup h'.nodup).mpr fun x => (h.mem x).trans (h'.mem x).symm
theorem row23 : True := by
  (k_with "call type:list" => (k_here; (with_reducible show wpAny _ _ (call (Value.type "list") [Value.ref _]) _ _ _); k_dflt (refine' listCopyL ?F_r95 ?N_r95 ?l_r95 ?z_r95 ?_; (case F_r95 => k_asm); (case N_r95 => k_asm); (case l_r95 => walk_at "m_list"); (case z_r95 => first | (simp; done) | walk_at "m_num")); intro D'ρ c'ρ h'ρ F'ρ N'ρ l1'ρ))
  (k_with "eval ListComp" => (k_here; (with_reducible show wpAny _ _ (eval (Expr.ListComp _ [⟨Expr.Name _ _, _, [], _⟩] _ _) _) _ _ _); k_dflt (refine LCg.ListComp_U (F₀ := by k_asm) (by with_unfolding_all rfl) (by decide) (by rfl) (by decide) (by rfl) ?_)))
  (k_with "eval ListComp" => (k_here; (with_reducible show wpAny _ _ (eval (Expr.ListComp _ [⟨Expr.Name _ _, _, [_], _⟩] _ _) _) _ _ _); k_dflt (refine LCt.ListComp_T (F₀ := by k_asm) (by with_unfolding_all rfl) (by decide) (by rfl) (by decide) (by rfl) ?_)))
  (k_with "exec Assign cons ListComp" => (k_here; (with_reducible show wpAny _ _ (exec (Stmt.Assign _ (Expr.ListComp _ [⟨Expr.Name _ _, _, [], _⟩] _ _) _) _) _ _ _); k_dflt (refine LCg.Assign_ListComp_U (F₀ := by k_asm) (by rfl) (by with_unfolding_all rfl) (by with_unfolding_all rfl) (by decide) (by rfl) (by decide) (by rfl) (by rfl) (by rfl) ?_)))
  (k_with "exec Assign cons ListComp" => (k_here; (with_reducible show wpAny _ _ (exec (Stmt.Assign _ (Expr.ListComp _ [⟨Expr.Name _ _, _, [_], _⟩] _ _) _) _) _ _ _); k_dflt (refine LCt.Assign_ListComp_T (F₀ := by k_asm) (by rfl) (by with_unfolding_all rfl) (by with_unfolding_all rfl) (by decide) (by rfl) (by decide) (by rfl) (by rfl) (by rfl) ?_)))
  trivial
section
variable {w : World} {A : Around} {base : Heap} {outer : List Env} {loose : List Str} {mean : ExcName → Option Value} {mg mb : Str → Option Value} {s : Shared} {E : Value → Shared → Prop} {Q : Value → Shared → Prop}
theorem sorted_levels_c {x l : Addr} {vs : List Value} {xs : List (Option Str)} {ws : List Str} {n : Nat} (hws : IsRanks xs ws) (hv : VecAt w.params s.heap x (Str.ofString "character") (.ref l) .none) (hl : s.heap.get? l = some (W.listOf vs.toArray n)) (hp : Paired IsOS vs xs) (hz : vs.length ≤ 1000)
    (C : Cx w A base outer loose mean mg mb s.heap) (hd : A.depth + 21 ≤ 700) (hu : A.units + 210 ≤ 8000)
    (hret : ∀ a n ys h' tk', Kept s.heap h' → Fresh s.heap h' a (W.listOf ys.toArray n) → Paired IsS ys ws → ys.length = ws.length → Q (.ref a) { s with heap := h', toks := tk' }) :
    wpAny (model pw w) A (call (.ref 528) [.ref x]) Q E s := by
  obtain ⟨B, X, T, hh⟩ := C
  have hxl := hp.length
  have hke : ∀ p, p ∈ keptTo xs xs.length → ∃ t, vs[p]? = some (.str (keyOf xs p) t) := fun p h => by
    have h1 := keptTo_key h
    have hl : p < vs.length := by rw [hxl]; exact (List.getElem?_eq_some_iff.mp h1).1
    refine letG ?_
    intro P9
    obtain ⟨y, h2, h3⟩ := Paired.get hp (List.getElem?_eq_getElem hl)
    k_unfold
    try clear P9
    obtain rfl : some (keyOf xs p) = y := Option.some.inj (h1.symm.trans h2)
    obtain ⟨t, h4⟩ := h3
    exact ⟨t, by rw [List.getElem?_eq_getElem hl, h4]⟩
  walk_at "m_goC"
  rename List.Perm _ _ => hpm
  rename List Nat => zs
  rename Paired IsP _ _ => hpy
  have hpyl := hpy.length
  have hzk : ∀ p ∈ zs, p ∈ keptTo xs xs.length := fun p h => hpm.mem_iff.mp h
  refine compMap (fun i ys => Paired IsOS ys ((List.take i zs).map fun p => some (keyOf xs p))) .nil ?_ ?_
  · rintro i ys hi hR
    intro v I oI Cc oC D m₂ h₂ tk₂ E' hi' hC hx' F' N' off ne
    intros
    simp only [List.getElem?_toArray] at hi'
    refine letG ?_
    intro P9
    obtain ⟨p, hz1, tz, rfl⟩ := Paired.get hpy hi'
    k_unfold
    try clear P9
    obtain ⟨tv, hvp⟩ := hke p (hzk p (List.mem_of_getElem? hz1))
    have hplt := (List.getElem?_eq_some_iff.mp hvp).1
    k_steps
    all_goals (rw [take_map_next hz1]; refine pairedSnoc (F := IsOS) (b := some _) ?_ hR; exact ⟨_, rfl⟩)
  · rintro ys hR
    rw [List.size_toArray, hpyl, List.take_length] at hR
    have hyl := hR.length
    rw [List.length_map] at hyl
    k_steps
    rename Paired IsS _ _ => hs
    have hr := isRanks_of hpm (by assumption)
    rw [hr.unique hws] at hs
    all_goals exact hret _ _ _ _ _ (Fr.keep (by assumption)) (freshOf (by assumption) (List.Mem.head _)) hs hs.length
end
theorem row24 : True := by
  (k_with "call ref" => (k_here; (with_reducible show wpAny _ _ (call (Value.ref 528) _) _ _ _); k_dflt (refine' sorted_levels_c ?w_r100 ?v_r100 ?l_r100 ?p_r100 ?z_r100 ?C_r100 ?d_r100 ?u_r100 ?_; (case v_r100 => walk_at "m_vec"); (case l_r100 => walk_at "m_get"); (case p_r100 => walk_at "m_pair"); (case w_r100 => assumption); (case z_r100 => walk_at "m_num"); (case C_r100 => walk_at "m_cx"); (case d_r100 => walk_at "m_dep"); (case u_r100 => walk_at "m_dep"); k_whole); intro a'ρ n'ρ ys'ρ; walk_at "m_backL"; intro hp'ρ hlen'ρ))
  trivial
theorem freshAll {h₀ h' : Heap} {L : Addr} {news l : List (Addr × Obj)} (N : News h₀ L h' news) (h : ∀ p ∈ l, p ∈ news) : ∀ p ∈ l, Fresh h₀ h' p.1 p.2 := fun p hp => freshOf N (h p hp)
/-- the codes of make_factor -/
noncomputable def madeCodes (xs lxs : List (Option Str)) (ws : List Str) : List (Option Int) := xs.map fun x => (x.bind (codeOf ws)).bind fun c => ((lxs.map (·.bind (codeOf (distinctT lxs))))[(c - 1).toNat]?).getD none
theorem codeOf_range {ls : List Str} {x : Str} {c : Int} (h : codeOf ls x = some c) : 1 ≤ c ∧ c ≤ ls.length := by
  unfold codeOf at h
  refine letG ?_
  intro P9
  obtain ⟨i, hi, rfl⟩ := Option.map_eq_some_iff.mp h
  k_unfold
  try clear P9
  have := (List.findIdx?_eq_some_iff_getElem.mp hi).1
  omega
theorem codeOf_bind_range {ls : List Str} {x : Option Str} {c : Int} (h : x.bind (codeOf ls) = some c) : 1 ≤ c ∧ c ≤ ls.length := by
  cases x with
  | none => cases h
  | some x => exact codeOf_range h
theorem getOf {α : Type} {l : List α} {n i : Nat} (h : l.length = n) (hi : i < n) : ∃ v, l[i]? = some v := ⟨_, List.getElem?_eq_getElem (by omega)⟩
/-- the objects of a factor that a call has made -/
inductive FacFresh (w : World) (h h' : Heap) (x l lt ct : Addr) (us lvs : List Value) : Prop
  | mk : ∀ (dx ad lv ldx cv cdx : Addr) (o : Obj) (n a b c d e k n0 n1 a1 b1 c1 d1 e1 k1 n2 n3 a2 b2 c2 d2 e2 k2 n4 t : Nat),
    (∀ p ∈ [(x, instObj 196 dx), (dx, dictOf (vecEs w.params (Str.ofString "integer") (.ref l) (.ref ad) a b c d e k) n), (l, W.listOf (List.toArray us) n0), (ad, o), (lv, instObj 196 ldx), (ldx, dictOf (vecEs w.params (Str.ofString "character") (.ref lt) .none a1 b1 c1 d1 e1 k1) n1), (lt, W.listOf (List.toArray lvs) n2), (cv, instObj 196 cdx), (cdx, dictOf (vecEs w.params (Str.ofString "character") (.ref ct) .none a2 b2 c2 d2 e2 k2) n3), (ct, W.listOf [Value.str (Str.ofString "factor") t].toArray n4)], Fresh h h' p.1 p.2) →
    o.IsDictOf (PySem.strKind pw w) (facKvs (.ref lv) (.ref cv)) → (ad == sysModules) = false → FacFresh w h h' x l lt ct us lvs
theorem notInNil {w : World} {A : Around} {s : Shared} {E : Value → Shared → Prop} {Q : Value → Shared → Prop} {l : Addr} {x : Value} (hl : s.heap.IsList l ([] : List Value).toArray) (h : Q (.bool true) s) : wpAny (model pw w) A (compareOp .NotIn x (.ref l)) Q E s :=
  SeqAt.notIn_listAt (fun _ => false) hl (fun y hy => by simp at hy) (by simpa using h)
theorem row25 : True := by
  (k_with "compareOp NotIn str ref" => (k_here; (with_reducible show wpAny _ _ (compareOp CmpOp.NotIn _ (Value.ref _)) _ _ _); k_dflt (refine' notInNil ?k1_r101 ?_; (case k1_r101 => is_list); k_whole)))
  trivial
theorem newsL3 {h₀ h h' : Heap} {L x dx l : Addr} {ox odx ol : Obj} {m : Str → Option Value} {news : List (Addr × Obj)} (F : Fr h₀ L h m) (N : News h₀ L h news) (kp : Kept h h') (fl : Fresh h h' l ol) (fd : Fresh h h' dx odx) (fx : Fresh h h' x ox) (h1 : @Ne Nat dx x) (h2 : @Ne Nat l x) (h3 : @Ne Nat l dx) :
    News h₀ L h' ((x, ox) :: (dx, odx) :: (l, ol) :: news) ∧ AllNe x ((dx, odx) :: (l, ol) :: news) ∧ AllNe dx ((l, ol) :: news) ∧ AllNe l news := by
  obtain ⟨Nl, al⟩ := newsL F N kp fl
  obtain ⟨Nd, ad⟩ := newsL F N kp fd
  obtain ⟨Nx, ax⟩ := newsL F N kp fx
  refine ⟨fun p hp => ?_, ⟨h1, h2, ax⟩, ⟨h3, ad⟩, al⟩
  rcases List.mem_cons.mp hp with rfl | hp
  · exact Nx _ (.head _)
  · rcases List.mem_cons.mp hp with rfl | hp
    · exact Nd _ (.head _)
    · exact Nl _ hp
theorem newsL3k {h₀ h h' : Heap} {L x dx l : Addr} {ox odx ol : Obj} {m : Str → Option Value} {news : List (Addr × Obj)} {G : Prop} (F : Fr h₀ L h m) (N : News h₀ L h news) (kp : Kept h h') (fl : Fresh h h' l ol) (fd : Fresh h h' dx odx) (fx : Fresh h h' x ox) (h1 : @Ne Nat dx x) (h2 : @Ne Nat l x) (h3 : @Ne Nat l dx)
    (g : Fr h₀ L h' m → News h₀ L h' ((x, ox) :: (dx, odx) :: (l, ol) :: news) → AllNe x ((dx, odx) :: (l, ol) :: news) → AllNe dx ((l, ol) :: news) → AllNe l news → G) : G :=
  let ⟨a, b, c, d⟩ := newsL3 F N kp fl fd fx h1 h2 h3
  g (F.keeps kp) a b c d
theorem row26 : True := by
  (k_with "m_back3" => (intro h'ρ tk'ρ kp'ρ fl'ρ fd'ρ fx'ρ e1'ρ e2'ρ e3'ρ; (with_reducible rename Fr _ _ _ _ => mFρ); (with_reducible rename News _ _ _ _ => mNρ); (refine newsL3k mFρ mNρ kp'ρ fl'ρ fd'ρ fx'ρ e1'ρ e2'ρ e3'ρ ?_); intro F'ρ N'ρ l1ρ l2ρ l3ρ; (try clear mNρ); (try clear mFρ); (try clear kp'ρ); (try clear fl'ρ fd'ρ fx'ρ); (try clear e1'ρ e2'ρ e3'ρ); (try dsimp only)))
  trivial
section
variable {w : World} {A : Around} {base : Heap} {outer : List Env} {loose : List Str} {mean : ExcName → Option Value} {mg mb : Str → Option Value} {s : Shared} {E : Value → Shared → Prop} {Q : Value → Shared → Prop}
theorem dim_of_c {x : Addr} {kind : Str} {items : Value} (hv : VecAt w.params s.heap x kind items .none)
    (C : Cx w A base outer loose mean mg mb s.heap) (hd : A.depth + 6 ≤ 700) (hu : A.units + 60 ≤ 8000)
    (hret : ∀ h' tk', Kept s.heap h' → Q .none { s with heap := h', toks := tk' }) :
    wpAny (model pw w) A (call (.ref 294) [.ref x]) Q E s := by
  obtain ⟨B, X, T, hh⟩ := C
  walk_at "m_go"
  all_goals exact hret _ _ (Fr.keep (by assumption))
theorem row27 : True := by
  (k_with "call ref" => (k_here; (with_reducible show wpAny _ _ (call (Value.ref 294) _) _ _ _); k_dflt (refine' dim_of_c ?v_r103 ?C_r103 ?d_r103 ?u_r103 ?_; (case v_r103 => walk_at "m_vec"); (case C_r103 => walk_at "m_cx"); (case d_r103 => walk_at "m_dep"); (case u_r103 => walk_at "m_dep"); k_whole); walk_at "m_back"))
  trivial
theorem names_of_c {x : Addr} {items : Value} (hv : VecAt w.params s.heap x (Str.ofString "character") items .none)
    (C : Cx w A base outer loose mean mg mb s.heap) (hd : A.depth + 9 ≤ 700) (hu : A.units + 90 ≤ 8000)
    (hret : ∀ h' tk', Kept s.heap h' → Q .none { s with heap := h', toks := tk' }) :
    wpAny (model pw w) A (call (.ref 287) [.ref x]) Q E s := by
  obtain ⟨B, X, T, hh⟩ := C
  refine hv.elim ?_
  intro dx nn a1 b1 c1 d1 e1 k1 hx hdx
  walk_at "m_go"
  all_goals exact hret _ _ (Fr.keep (by assumption))
theorem row28 : True := by
  (k_with "call ref" => (k_here; (with_reducible show wpAny _ _ (call (Value.ref 287) _) _ _ _); k_dflt (refine' names_of_c ?v_r104 ?C_r104 ?d_r104 ?u_r104 ?_; (case v_r104 => walk_at "m_vec"); (case C_r104 => walk_at "m_cx"); (case d_r104 => walk_at "m_dep"); (case u_r104 => walk_at "m_dep"); k_whole); walk_at "m_back"))
  trivial
end
section
variable {w : World} {A₀ : Around} {base h₀ : Heap} {outer : List Env} {loose : List Str} {mean : ExcName → Option Value} {mg mb : Str → Option Value} {s : Shared} {E : Value → Shared → Prop} {Q : Value → Shared → Prop} {env : Env} {L : Addr} {m : Str → Option Value} {news : List (Addr × Obj)}
/-- Vector(kind, items), over the caller's ledger -/
theorem vector_c {l : Addr} {kd : Str} {tk0 : Tok} (B : Below A₀ base outer h₀) (F : Fr h₀ L s.heap m) (X : (K w.params).In h₀) (T : Top q loose mean mg mb h₀) (N : News h₀ L s.heap news) (hf : env.frame = some L) (hk : env.scope.kind = .function) (hd : A₀.depth + 6 ≤ 700) (hu : A₀.units + 60 ≤ 8000)
    (h : ∀ x dx a b c d e k h' tk', Fr h₀ L h' m → News h₀ L h' ((x, instObj 196 dx) :: (dx, dictOf (vecEs w.params kd (.ref l) .none a b c d e k) 5) :: news) → AllNe x ((dx, dictOf (vecEs w.params kd (.ref l) .none a b c d e k) 5) :: news) → AllNe dx news → Q (.ref x) { s with heap := h', toks := tk' }) :
    wpAny (model pw w) (A₀.deeper env) (call (.ref 196) [.str kd tk0, .ref l]) Q E s := by
  k_dflt (refine' call_cls F X N ?k4 ?k5 ?k6 ?_; (case k4 => k_is); (case k5 => k_is); (case k6 => k_is); k_whole; intro x dx h1 F1 N1 l1 l2)
  have a1 : AllNe dx news := allNe_lt l1
  have a3 : @Ne Nat dx x := Nat.ne_of_lt l2
  have a2 : AllNe x news := allNe_lt fun p hp => Nat.lt_trans (l1 p hp) l2
  clear F N l1 l2
  k_dflt (refine' code_def B F1 X N1 T (Around.frames_deeper B.stack) hf hk ?k6 ?k7 ?k8 ?k9 ?kB ?_ ?c2 ?c3 ?c4 ?c5; (case k6 => k_is); (case k7 => k_is); (case k8 => k_room); (case k9 => first | exact BindsTo.of_eq rfl | exact binds_K (by k_in) rfl (by k_is) rfl rfl rfl); (case c5 => decide); (case kB => exact locs rfl); (case c2 => exact rfl); (case c3 => exact rfl); (case c4 => exact rfl); k_whole; intro g' L' h' FG' F' N' B' X' T'; (try dsimp only); (try k_fold))
  k_steps
  rename Fr h₀ L _ m => F9
  rename News h₀ L _ _ => N9
  exact h _ _ _ _ _ _ _ _ _ _ F9 (fun p hp => N9 p hp) ⟨a3, a2⟩ a1
end
theorem row29 : True := by
  (k_with "call ref" => (k_here; (with_reducible show wpAny _ _ (call (Value.ref 196) [Value.str _ _, Value.ref _]) _ _ _); k_dflt (refine' vector_c ?B_r105 ?F_r105 ?X_r105 ?T_r105 ?N_r105 ?hf_r105 ?hk_r105 ?d_r105 ?u_r105 ?_; (case F_r105 => k_asm); (case X_r105 => k_asm); (case T_r105 => k_asm); (case N_r105 => k_asm); (case B_r105 => with_reducible assumption); (case hf_r105 => exact rfl); (case hk_r105 => exact rfl); (case d_r105 => first | walk_at "m_dep" | omega); (case u_r105 => first | walk_at "m_dep" | omega); k_whole); intro x'ρ dx'ρ a'ρ b'ρ c'ρ d'ρ e'ρ k'ρ h'ρ tk'ρ F'ρ N'ρ al'ρ am'ρ))
  trivial
section
variable {w : World} {A : Around} {base : Heap} {outer : List Env} {loose : List Str} {mean : ExcName → Option Value} {mg mb : Str → Option Value} {s : Shared} {E : Value → Shared → Prop} {Q : Value → Shared → Prop}
theorem integer_c {l : Addr} {vs : List Value} {n : Nat} (hl : s.heap.get? l = some (W.listOf vs.toArray n)) (hz : vs.length ≤ 1000000)
    (C : Cx w A base outer loose mean mg mb s.heap) (hd : A.depth + 6 ≤ 700) (hu : A.units + 60 ≤ 8000)
    (hret : ∀ x dx l' n0 a b c d e k h' tk', Kept s.heap h' → Fresh s.heap h' l' (W.listOf vs.toArray n0) → Fresh s.heap h' dx (dictOf (vecEs w.params (Str.ofString "integer") (.ref l') .none a b c d e k) 5) → Fresh s.heap h' x (instObj 196 dx) → (@Ne Nat dx x) → (@Ne Nat l' x) → (@Ne Nat l' dx) → Q (.ref x) { s with heap := h', toks := tk' }) :
    wpAny (model pw w) A (call (.ref 221) [.ref l]) Q E s := by
  obtain ⟨B, X, T, hh⟩ := C
  walk_at "m_go"
  all_goals exact hret _ _ _ _ _ _ _ _ _ _ _ _ (Fr.keep (by assumption)) (freshOf (by assumption) (by k_mem)) (freshOf (by assumption) (by k_mem)) (freshOf (by assumption) (by k_mem)) (by k_ne) (by k_ne) (by k_ne)
theorem character_c {l : Addr} {vs : List Value} {n : Nat} (hl : s.heap.get? l = some (W.listOf vs.toArray n)) (hz : vs.length ≤ 1000000)
    (C : Cx w A base outer loose mean mg mb s.heap) (hd : A.depth + 6 ≤ 700) (hu : A.units + 60 ≤ 8000)
    (hret : ∀ x dx l' n0 a b c d e k h' tk', Kept s.heap h' → Fresh s.heap h' l' (W.listOf vs.toArray n0) → Fresh s.heap h' dx (dictOf (vecEs w.params (Str.ofString "character") (.ref l') .none a b c d e k) 5) → Fresh s.heap h' x (instObj 196 dx) → (@Ne Nat dx x) → (@Ne Nat l' x) → (@Ne Nat l' dx) → Q (.ref x) { s with heap := h', toks := tk' }) :
    wpAny (model pw w) A (call (.ref 228) [.ref l]) Q E s := by
  obtain ⟨B, X, T, hh⟩ := C
  walk_at "m_go"
  all_goals exact hret _ _ _ _ _ _ _ _ _ _ _ _ (Fr.keep (by assumption)) (freshOf (by assumption) (by k_mem)) (freshOf (by assumption) (by k_mem)) (freshOf (by assumption) (by k_mem)) (by k_ne) (by k_ne) (by k_ne)
end
theorem row30 : True := by
  (k_with "call ref" => (k_here; (with_reducible show wpAny _ _ (call (Value.ref 221) _) _ _ _); k_dflt (refine' integer_c ?l_r106 ?z_r106 ?C_r106 ?d_r106 ?u_r106 ?_; (case l_r106 => walk_at "m_get"); (case z_r106 => walk_at "m_num"); (case C_r106 => walk_at "m_cx"); (case d_r106 => walk_at "m_dep"); (case u_r106 => walk_at "m_dep"); k_whole); intro x'ρ dx'ρ l'ρ n0'ρ a'ρ b'ρ c'ρ d'ρ e'ρ k'ρ; walk_at "m_back3"))
  (k_with "call ref" => (k_here; (with_reducible show wpAny _ _ (call (Value.ref 228) _) _ _ _); k_dflt (refine' character_c ?l_r107 ?z_r107 ?C_r107 ?d_r107 ?u_r107 ?_; (case l_r107 => walk_at "m_get"); (case z_r107 => walk_at "m_num"); (case C_r107 => walk_at "m_cx"); (case d_r107 => walk_at "m_dep"); (case u_r107 => walk_at "m_dep"); k_whole); intro x'ρ dx'ρ l'ρ n0'ρ a'ρ b'ρ c'ρ d'ρ e'ρ k'ρ; walk_at "m_back3"))
  trivial
section
variable {w : World} {A₀ : Around} {base h₀ : Heap} {outer : List Env} {loose : List Str} {mean : ExcName → Option Value} {mg mb : Str → Option Value} {s : Shared} {E : Value → Shared → Prop} {Q : Value → Shared → Prop} {env : Env} {L : Addr} {m : Str → Option Value} {news : List (Addr × Obj)}
/-- with_levels over a vector that the caller has made -/
theorem with_levels_c {v dx l t : Addr} {us lvs : List Value} {a b c d e k n0 nt : Nat} {bo : Bool} (B : Below A₀ base outer h₀) (F : Fr h₀ L s.heap m) (X : (K w.params).In h₀) (T : Top q loose mean mg mb h₀) (N0 : News h₀ L s.heap news) (mv : (v, instObj 196 dx) ∈ news) (mdx : (dx, dictOf (vecEs w.params (Str.ofString "integer") (.ref l) .none a b c d e k) 5) ∈ news) (ml : (l, W.listOf us.toArray n0) ∈ news) (mt : (t, W.listOf lvs.toArray nt) ∈ news)
    (n1 : @Ne Nat v dx) (n2 : @Ne Nat l dx) (n3 : @Ne Nat t dx) (hz : lvs.length ≤ 1000000) (hb : bo = false) (hf : env.frame = some L) (hk : env.scope.kind = .function) (hd : A₀.depth + 10 ≤ 700) (hu : A₀.units + 100 ≤ 8000)
    (h : ∀ lt ct h' tk', Kept h₀ h' → FacFresh w h₀ h' v l lt ct us lvs → Q (.ref v) { s with heap := h', toks := tk' }) :
    wpAny (model pw w) (A₀.deeper env) (call (.ref 516) [.ref v, .ref t, .bool bo]) Q E s := by
  subst hb
  have N : News h₀ L s.heap [(dx, dictOf (vecEs w.params (Str.ofString "integer") (.ref l) .none a b c d e k) 5), (v, instObj 196 dx), (l, W.listOf us.toArray n0), (t, W.listOf lvs.toArray nt)] := by
    intro p hp
    rcases List.mem_cons.mp hp with rfl | hp
    · exact N0 _ mdx
    · rcases List.mem_cons.mp hp with rfl | hp
      · exact N0 _ mv
      · rcases List.mem_cons.mp hp with rfl | hp
        · exact N0 _ ml
        · obtain rfl := List.mem_singleton.mp hp
          exact N0 _ mt
  have ad : AllNe dx [(v, instObj 196 dx), (l, W.listOf us.toArray n0), (t, W.listOf lvs.toArray nt)] := ⟨n1, n2, n3, trivial⟩
  clear N0 mv mdx ml mt n1 n2 n3
  dsimp only [vecEs] at N
  refine wpAny_call ?_
  k_dflt (refine' code_def B F X N T (Around.frames_deeper B.stack) hf hk ?k6 ?k7 ?k8 ?k9 ?kB ?_ ?c2 ?c3 ?c4 ?c5; (case k6 => k_is); (case k7 => k_is); (case k8 => k_room); (case k9 => first | exact BindsTo.of_eq rfl | exact binds_K (by k_in) rfl (by k_is) rfl rfl rfl); (case c5 => decide); (case kB => exact locs rfl); (case c2 => exact rfl); (case c3 => exact rfl); (case c4 => exact rfl); k_whole; intro g' L' h' FG' F' N' B' X' T'; (try dsimp only); (try k_fold))
  k_steps
  rename Fr h₀ L _ m => F9
  rename News h₀ L _ _ => N9
  rename Obj.IsDictOf (PySem.strKind pw w) _ _ => hD
  refine' h _ _ _ _ (Fr.keep F9) ⟨_, _, _, _, _, _, _, _, _, _, _, _, _, _, _, _, _, _, _, _, _, _, _, _, _, _, _, _, _, _, _, _, ?mem, ?hd, ?lo⟩
  (case hd => exact hD)
  (case mem => exact freshAll N9 (subCons (by k_mem) (subCons (by k_mem) (subCons (by k_mem) (subCons (by k_mem) (subCons (by k_mem) (subCons (by k_mem) (subCons (by k_mem) (subCons (by k_mem) (subCons (by k_mem) (subCons (by k_mem) (fun _ h => nomatch h))))))))))))
  (case lo => assumption)
end
theorem row31 : True := by
  (k_with "call ref" => (k_here; (with_reducible show wpAny _ _ (call (Value.ref 516) [Value.ref _, Value.ref _, Value.bool _]) _ _ _); k_dflt (refine' with_levels_c ?B_r108 ?F_r108 ?X_r108 ?T_r108 ?N_r108 ?mv_r108 ?md_r108 ?ml_r108 ?mt_r108 ?n1_r108 ?n2_r108 ?n3_r108 ?z_r108 ?b_r108 ?hf_r108 ?hk_r108 ?d_r108 ?u_r108 ?_; (case b_r108 => first | rfl | with_reducible assumption | assumption); (case F_r108 => k_asm); (case X_r108 => k_asm); (case T_r108 => k_asm); (case N_r108 => k_asm); (case B_r108 => with_reducible assumption); (case mv_r108 => k_mem); (case md_r108 => k_mem); (case ml_r108 => k_mem); (case mt_r108 => k_mem); (case n1_r108 => k_ne); (case n2_r108 => k_ne); (case n3_r108 => k_ne); (case z_r108 => walk_at "m_num"); (case hf_r108 => exact rfl); (case hk_r108 => exact rfl); (case d_r108 => first | walk_at "m_dep" | omega); (case u_r108 => first | walk_at "m_dep" | omega); k_whole); intro lt'ρ ct'ρ h'ρ tk'ρ kp'ρ ff'ρ))
  trivial
theorem calledOf_len (xs : List (Option Str)) (n : Nat) : (calledOf xs n).length = n := by
  unfold calledOf
  split
  · assumption
  · rw [List.length_map, List.length_range]
/-- labels that fit: one for each level, or one text for all -/
noncomputable def LabOk (vs : List Value) (xs : List (Option Str)) (n : Nat) : Prop := (Paired IsOS vs xs ∧ vs.length ≤ 1000 ∧ vs.length = n) ∨ ∃ v0 x0, vs = [v0] ∧ xs = [x0] ∧ IsOS v0 x0 ∧ 1 ≠ n ∧ ∀ y, x0 = some y → y.length ≤ 100
theorem labAt {vs lvs : List Value} {xs : List (Option Str)} {ws : List Str} (h : LabOk vs xs ws.length) (p : Paired IsS lvs ws) : LabOk vs xs lvs.length := p.length.symm ▸ h
section
variable {w : World} {A : Around} {base : Heap} {outer : List Env} {loose : List Str} {mean : ExcName → Option Value} {mg mb : Str → Option Value} {s : Shared} {E : Value → Shared → Prop} {Q : Value → Shared → Prop}
theorem label_list_any {x l ll : Addr} {vs lvs : List Value} {xs : List (Option Str)} {n n' : Nat} (hv : VecAt w.params s.heap x (Str.ofString "character") (.ref l) .none) (hl : s.heap.get? l = some (W.listOf vs.toArray n)) (hlab : LabOk vs xs lvs.length) (hll : s.heap.get? ll = some (W.listOf lvs.toArray n')) (hy : lvs.length ≤ 1000)
    (C : Cx w A base outer loose mean mg mb s.heap) (hd : A.depth + 12 ≤ 700) (hu : A.units + 120 ≤ 8000)
    (hret : ∀ a n ys h' tk', Kept s.heap h' → Fresh s.heap h' a (W.listOf ys.toArray n) → Paired IsOS ys (calledOf xs lvs.length) → ys.length = lvs.length → Q (.ref a) { s with heap := h', toks := tk' }) :
    wpAny (model pw w) A (call (.ref 545) [.ref x, .ref ll]) Q E s := by
  rcases hlab with ⟨hp, hz, he⟩ | ⟨v0, x0, rfl, rfl, h0, he, hx⟩
  · refine label_list_eq hv hl hp hll hz he C hd hu fun a n h' tk' kp fr => hret a n vs h' tk' kp fr ?_ he
    rw [show calledOf xs lvs.length = xs by unfold calledOf; rw [if_pos (hp.length.symm.trans he)]]
    exact hp
  · exact label_list_one hv hl h0 hll hy he hx C hd hu hret
end
theorem row32 : True := by
  (k_with "call ref" => (k_here; (with_reducible show wpAny _ _ (call (Value.ref 545) _) _ _ _); k_dflt (refine' label_list_any ?v_r109 ?l_r109 ?p_r109 ?h_r109 ?y_r109 ?C_r109 ?d_r109 ?u_r109 ?_; (case v_r109 => walk_at "m_vec"); (case l_r109 => walk_at "m_get"); (case h_r109 => walk_at "m_get"); (case p_r109 => exact labAt (by with_reducible assumption) (by assumption)); (case y_r109 => walk_at "m_num"); (case C_r109 => walk_at "m_cx"); (case d_r109 => walk_at "m_dep"); (case u_r109 => walk_at "m_dep"); k_whole); intro a'ρ n'ρ ys'ρ; walk_at "m_backL"; intro hp'ρ hlen'ρ))
  trivial
section
variable {w : World} {A : Around} {base : Heap} {outer : List Env} {loose : List Str} {mean : ExcName → Option Value} {mg mb : Str → Option Value} {s : Shared} {E : Value → Shared → Prop} {Q : Value → Shared → Prop}
theorem make_factor_c {x l xl ll ex : Addr} {vs lvs : List Value} {xs lxs : List (Option Str)} {ws : List Str} {n n' ne : Nat} (hws : IsRanks xs ws) (hv : VecAt w.params s.heap x (Str.ofString "character") (.ref l) .none) (hl : s.heap.get? l = some (W.listOf vs.toArray n)) (hp : Paired IsOS vs xs)
    (hvl : VecAt w.params s.heap xl (Str.ofString "character") (.ref ll) .none) (hll : s.heap.get? ll = some (W.listOf lvs.toArray n')) (hlab : LabOk lvs lxs ws.length) (hex : s.heap.get? ex = some (W.listOf [].toArray ne)) (hz : vs.length ≤ 1000) (hwl : ws.length ≤ 1000)
    (C : Cx w A base outer loose mean mg mb s.heap) (hd : A.depth + 24 ≤ 700) (hu : A.units + 240 ≤ 8000)
    (hret : ∀ x' l' lt ct us ns h' tk', Kept s.heap h' → FacFresh w s.heap h' x' l' lt ct us ns → Paired IsOI us (madeCodes xs (calledOf lxs ws.length) ws) → Paired IsS ns (distinctT (calledOf lxs ws.length)) → Q (.ref x') { s with heap := h', toks := tk' }) :
    wpAny (model pw w) A (call (.ref 557) [.ref x, .none, .ref xl, .ref ex, .bool false]) Q E s := by
  obtain ⟨B, X, T, hh⟩ := C
  have hxl := hp.length
  have hnd := hws.nodup
  refine hv.elim ?_
  intro dx nn a1 b1 c1 d1 e1 k1 hx hdx
  walk_at "m_goC"
  rename List Value => ys0
  rename Paired IsS ys0 ws => hs0
  refine compIf (fun i ys => ys = ys0.take i) rfl ?_ ?_
  · rintro i ys hi rfl
    intro v I oI Cc oC D m₂ h₂ tk₂ E' hi' hC hx' F' N' off ne
    intros
    simp only [List.getElem?_toArray] at hi'
    refine letG ?_
    intro P9
    obtain ⟨z, hz1, tz, rfl⟩ := Paired.get hs0 hi'
    k_unfold
    try clear P9
    k_steps
    all_goals exact (take_next hi').symm
  · rintro ys rfl
    simp only [List.size_toArray, List.take_length]
    k_steps
    rename Paired IsOI _ (List.map (fun x => Option.bind x (codeOf ws)) xs) => hcs
    rename Paired IsOI _ (List.map (fun x => Option.bind x (codeOf (distinctT (calledOf lxs _)))) _) => hjs
    have hl0 := hs0.length
    rw [hl0] at hjs
    have hjl := hjs.length
    rw [List.length_map, calledOf_len] at hjl
    rename _ = vs.length => hcl
    refine compMap (fun i ys => Paired IsOI ys ((madeCodes xs (calledOf lxs ws.length) ws).take i)) .nil ?_ ?_
    · rintro i ys hi hR
      intro v I oI Cc oC D m₂ h₂ tk₂ E' hi' hC hx' F' N' off ne
      intros
      simp only [List.getElem?_toArray] at hi'
      refine letG ?_
      intro P9
      obtain ⟨z, hz1, hz'⟩ := Paired.get hcs hi'
      k_unfold
      try clear P9
      rw [List.getElem?_map] at hz1
      refine letG ?_
      intro P9
      obtain ⟨xi, hxi, hz2⟩ := Option.map_eq_some_iff.mp hz1
      k_unfold
      try clear P9
      have hm : (madeCodes xs (calledOf lxs ws.length) ws)[i]? = some (z.bind fun c => (((calledOf lxs ws.length).map (·.bind (codeOf (distinctT (calledOf lxs ws.length)))))[(c - 1).toNat]?).getD none) := by simp [madeCodes, hxi, hz2]
      cases z with
      | none =>
        cases hz'
        k_steps
        all_goals (rw [take_next hm]; refine pairedSnoc (F := IsOI) ?_ hR; exact rfl)
      | some c =>
        obtain ⟨tc, rfl⟩ := hz'
        obtain ⟨hc1, hc2⟩ := codeOf_bind_range hz2
        obtain ⟨jv, hjv⟩ := getOf hjl (show (c - 1).toNat < ws.length by omega)
        refine letG ?_
        intro P9
        obtain ⟨y, hy1, hy2⟩ := Paired.get hjs hjv
        k_unfold
        try clear P9
        k_steps
        all_goals (rw [take_next hm]; refine pairedSnoc (F := IsOI) ?_ hR; rw [Option.bind_some, hy1]; exact hy2)
    · rintro ys hR
      rw [List.size_toArray] at hR
      have hml : vs.length = (madeCodes xs (calledOf lxs ws.length) ws).length := by unfold madeCodes; rw [List.length_map]; exact hxl
      rw [hcl, hml, List.take_length] at hR
      have hyl : ys.length ≤ 1000 := by have a := hR.length; omega
      k_steps
      rename FacFresh _ _ _ _ _ _ _ _ _ => ff9
      rename Kept _ _ => kp9
      refine' hret _ _ _ _ _ _ _ _ kp9 ff9 ?hr ?hn
      (case hr => exact hR)
      (case hn => (rename Paired IsS _ (distinctT _) => hnn; rw [hl0] at hnn; exact hnn))
end

noncomputable abbrev tupOf (vs : List Value) : Obj := { cls := .type "tuple", data := .seq vs.toArray }
/-- what _law_told gives of a factor: a tuple of three lists -/
noncomputable abbrev toldNews (a l lt ct : Addr) (us ns : List Value) (n0 n1 n2 t : Nat) : List (Addr × Obj) := [(a, tupOf [.ref l, .ref lt, .ref ct]), (l, W.listOf us.toArray n0), (lt, W.listOf ns.toArray n1), (ct, W.listOf [Value.str (Str.ofString "factor") t].toArray n2)]
theorem newsAll {h₀ h h' : Heap} {L : Addr} {m : Str → Option Value} {news l : List (Addr × Obj)} (F : Fr h₀ L h m) (N : News h₀ L h news) (kp : Kept h h') (fr : ∀ p ∈ l, Fresh h h' p.1 p.2) :
    News h₀ L h' (l ++ news) ∧ ∀ p ∈ l, AllNe p.1 news := by
  refine ⟨fun p hp => ?_, fun p hp => (newsL F N kp (fr p hp)).2⟩
  rcases List.mem_append.mp hp with hp | hp
  · exact (newsL F N kp (fr p hp)).1 p (.head _)
  · exact News.grown N kp p hp
theorem newsAllk {h₀ h h' : Heap} {L : Addr} {m : Str → Option Value} {news l : List (Addr × Obj)} {G : Prop} (F : Fr h₀ L h m) (N : News h₀ L h news) (kp : Kept h h') (fr : ∀ p ∈ l, Fresh h h' p.1 p.2)
    (g : Fr h₀ L h' m → News h₀ L h' (l ++ news) → (∀ p ∈ l, AllNe p.1 news) → G) : G := g (F.keeps kp) (newsAll F N kp fr).1 (newsAll F N kp fr).2
theorem FacFresh.back {w : World} {h₀ h h' : Heap} {L x l lt ct : Addr} {m : Str → Option Value} {news : List (Addr × Obj)} {us lvs : List Value} {G : Prop} (F : Fr h₀ L h m) (N : News h₀ L h news) (kp : Kept h h') (ff : FacFresh w h h' x l lt ct us lvs)
    (g : ∀ (dx ad lv ldx cv cdx : Addr) (o : Obj) (n a b c d e k n0 n1 a1 b1 c1 d1 e1 k1 n2 n3 a2 b2 c2 d2 e2 k2 n4 t : Nat), Fr h₀ L h' m →
      News h₀ L h' ((x, instObj 196 dx) :: (dx, dictOf (vecEs w.params (Str.ofString "integer") (.ref l) (.ref ad) a b c d e k) n) :: (l, W.listOf (List.toArray us) n0) :: (ad, o) :: (lv, instObj 196 ldx) :: (ldx, dictOf (vecEs w.params (Str.ofString "character") (.ref lt) .none a1 b1 c1 d1 e1 k1) n1) :: (lt, W.listOf (List.toArray lvs) n2) :: (cv, instObj 196 cdx) :: (cdx, dictOf (vecEs w.params (Str.ofString "character") (.ref ct) .none a2 b2 c2 d2 e2 k2) n3) :: (ct, W.listOf [Value.str (Str.ofString "factor") t].toArray n4) :: news) →
      (∀ p ∈ [(x, instObj 196 dx), (dx, dictOf (vecEs w.params (Str.ofString "integer") (.ref l) (.ref ad) a b c d e k) n), (l, W.listOf (List.toArray us) n0), (ad, o), (lv, instObj 196 ldx), (ldx, dictOf (vecEs w.params (Str.ofString "character") (.ref lt) .none a1 b1 c1 d1 e1 k1) n1), (lt, W.listOf (List.toArray lvs) n2), (cv, instObj 196 cdx), (cdx, dictOf (vecEs w.params (Str.ofString "character") (.ref ct) .none a2 b2 c2 d2 e2 k2) n3), (ct, W.listOf [Value.str (Str.ofString "factor") t].toArray n4)], AllNe p.1 news) →
      o.IsDictOf (PySem.strKind pw w) (facKvs (.ref lv) (.ref cv)) → (ad == sysModules) = false → G) : G := by
  refine letG ?_
  intro P9
  obtain ⟨dx, ad, lv, ldx, cv, cdx, o, n, a, b, c, d, e, k, n0, n1, a1, b1, c1, d1, e1, k1, n2, n3, a2, b2, c2, d2, e2, k2, n4, t, fr, hD, lo⟩ := ff
  k_unfold
  try clear P9
  exact g dx ad lv ldx cv cdx o n a b c d e k n0 n1 a1 b1 c1 d1 e1 k1 n2 n3 a2 b2 c2 d2 e2 k2 n4 t (F.keeps kp) (newsAll F N kp fr).1 (newsAll F N kp fr).2 hD lo
theorem toldBack {h₀ h h' : Heap} {L a l lt ct : Addr} {m : Str → Option Value} {news : List (Addr × Obj)} {us ns : List Value} {n0 n1 n2 t : Nat} {G : Prop} (F : Fr h₀ L h m) (N : News h₀ L h news) (kp : Kept h h') (fr : ∀ p ∈ toldNews a l lt ct us ns n0 n1 n2 t, Fresh h h' p.1 p.2)
    (g : Fr h₀ L h' m → News h₀ L h' ((a, tupOf [.ref l, .ref lt, .ref ct]) :: (l, W.listOf us.toArray n0) :: (lt, W.listOf ns.toArray n1) :: (ct, W.listOf [Value.str (Str.ofString "factor") t].toArray n2) :: news) → (∀ p ∈ toldNews a l lt ct us ns n0 n1 n2 t, AllNe p.1 news) → G) : G := g (F.keeps kp) (newsAll F N kp fr).1 (newsAll F N kp fr).2
theorem row33 : True := by
  (k_with "call ref" => (k_here; (with_reducible show wpAny _ _ (call (Value.ref 557) _) _ _ _); k_dflt (refine' make_factor_c ?w_r110 ?v_r110 ?l_r110 ?p_r110 ?vl_r110 ?ll_r110 ?pl_r110 ?e_r110 ?z_r110 ?wl_r110 ?C_r110 ?d_r110 ?u_r110 ?_; (case w_r110 => assumption); (case v_r110 => walk_at "m_vec"); (case l_r110 => walk_at "m_get"); (case p_r110 => walk_at "m_pair"); (case vl_r110 => walk_at "m_vec"); (case ll_r110 => walk_at "m_get"); (case pl_r110 => with_reducible assumption); (case e_r110 => walk_at "m_get"); (case z_r110 => walk_at "m_num"); (case wl_r110 => walk_at "m_num"); (case C_r110 => walk_at "m_cx"); (case d_r110 => walk_at "m_dep"); (case u_r110 => walk_at "m_dep"); k_whole); intro x'ρ l'ρ lt'ρ ct'ρ us'ρ ns'ρ h'ρ tk'ρ kp'ρ ff'ρ; (with_reducible rename Fr _ _ _ _ => mFρ); (with_reducible rename News _ _ _ _ => mNρ); (refine FacFresh.back mFρ mNρ kp'ρ ff'ρ ?_); intro dx0'ρ dx1'ρ dx2'ρ dx3'ρ dx4'ρ dx5'ρ dx6'ρ n0'ρ n1'ρ n2'ρ n3'ρ n4'ρ n5'ρ n6'ρ n7'ρ n8'ρ n9'ρ n10'ρ n11'ρ n12'ρ n13'ρ n14'ρ n15'ρ n16'ρ n17'ρ n18'ρ n19'ρ n20'ρ n21'ρ n22'ρ n23'ρ n24'ρ F'ρ N'ρ ne'ρ hD'ρ lo'ρ; (try clear mNρ); (try clear mFρ); (try clear kp'ρ); (try clear ff'ρ); (try dsimp only [vecEs] at N'ρ); intro hc'ρ hn'ρ))
  trivial
section
variable {w : World} {A : Around} {base : Heap} {outer : List Env} {loose : List Str} {mean : ExcName → Option Value} {mg mb : Str → Option Value} {s : Shared} {E : Value → Shared → Prop} {Q : Value → Shared → Prop}
theorem room_c {n : Int} {t : Tok} (hn : n ≤ 1000000)
    (C : Cx w A base outer loose mean mg mb s.heap) (hd : A.depth + 3 ≤ 700) (hu : A.units + 30 ≤ 8000)
    (hret : ∀ h' tk', Kept s.heap h' → Q (.int n t) { s with heap := h', toks := tk' }) :
    wpAny (model pw w) A (call (.ref 207) [.int n t]) Q E s := by
  obtain ⟨B, X, T, hh⟩ := C
  walk_at "m_go"
  all_goals exact hret _ _ (Fr.keep (by assumption))
theorem told_make {al x l xl ll ex : Addr} {vs lvs : List Value} {xs lxs : List (Option Str)} {ws : List Str} {n n' ne nal : Nat} (hal : s.heap.get? al = some (W.listOf [Value.ref x, Value.none, Value.ref xl, Value.ref ex, Value.bool false].toArray nal)) (hws : IsRanks xs ws) (hv : VecAt w.params s.heap x (Str.ofString "character") (.ref l) .none) (hl : s.heap.get? l = some (W.listOf vs.toArray n)) (hp : Paired IsOS vs xs)
    (hvl : VecAt w.params s.heap xl (Str.ofString "character") (.ref ll) .none) (hll : s.heap.get? ll = some (W.listOf lvs.toArray n')) (hlab : LabOk lvs lxs ws.length) (hex : s.heap.get? ex = some (W.listOf [].toArray ne)) (hz : vs.length ≤ 1000) (hwl : ws.length ≤ 1000)
    (C : Cx w A base outer loose mean mg mb s.heap) (hd : A.depth + 27 ≤ 700) (hu : A.units + 270 ≤ 8000)
    (hret : ∀ a l' lt ct us ns n0 n1 n2 t h' tk', Kept s.heap h' → (∀ p ∈ toldNews a l' lt ct us ns n0 n1 n2 t, Fresh s.heap h' p.1 p.2) → Paired IsOI us (madeCodes xs (calledOf lxs ws.length) ws) → Paired IsS ns (distinctT (calledOf lxs ws.length)) → Q (.ref a) { s with heap := h', toks := tk' }) :
    wpAny (model pw w) A (call (.ref 647) [.ref 557, .ref al]) Q E s := by
  obtain ⟨B, X, T, hh⟩ := C
  have i0 : [Value.ref x, Value.none, Value.ref xl, Value.ref ex, Value.bool false][(0 : Int).toNat]? = some (Value.ref x) := rfl
  have i1 : [Value.ref x, Value.none, Value.ref xl, Value.ref ex, Value.bool false][(1 : Int).toNat]? = some Value.none := rfl
  have i2 : [Value.ref x, Value.none, Value.ref xl, Value.ref ex, Value.bool false][(2 : Int).toNat]? = some (Value.ref xl) := rfl
  have i3 : [Value.ref x, Value.none, Value.ref xl, Value.ref ex, Value.bool false][(3 : Int).toNat]? = some (Value.ref ex) := rfl
  have i4 : [Value.ref x, Value.none, Value.ref xl, Value.ref ex, Value.bool false][(4 : Int).toNat]? = some (Value.bool false) := rfl
  have e1 : ((([Value.ref x, Value.none, Value.ref xl, Value.ref ex, Value.bool false].length : Nat) : Int) == 1) = false := rfl
  have e3 : ((([Value.ref x, Value.none, Value.ref xl, Value.ref ex, Value.bool false].length : Nat) : Int) == 3) = false := rfl
  have e4 : ((([Value.ref x, Value.none, Value.ref xl, Value.ref ex, Value.bool false].length : Nat) : Int) == 4) = false := rfl
  have i5 : [Value.ref x, Value.none, Value.ref xl, Value.ref ex, Value.bool false].length ≤ 1000000 := by simp
  walk_at "m_go"
  all_goals (refine' hret _ _ _ _ _ _ _ _ _ _ _ _ (Fr.keep (by assumption)) (freshAll (by assumption) (subCons (by k_mem) (subCons (by k_mem) (subCons (by k_mem) (subCons (by k_mem) (fun _ h => nomatch h)))))) ?_ ?_ <;> assumption)
end

/-- the objects that _law_factor makes beside its two lists -/
inductive LawFac (w : World) (h h' : Heap) (x l lt : Addr) : Prop
  | mk : ∀ (dx ad lv ldx cv cdx ct : Addr) (o : Obj) (n a b c d e k n1 a1 b1 c1 d1 e1 k1 n3 a2 b2 c2 d2 e2 k2 n4 t : Nat),
    (∀ p ∈ [(x, instObj 196 dx), (dx, dictOf (vecEs w.params (Str.ofString "integer") (.ref l) (.ref ad) a b c d e k) n), (ad, o), (lv, instObj 196 ldx), (ldx, dictOf (vecEs w.params (Str.ofString "character") (.ref lt) .none a1 b1 c1 d1 e1 k1) n1), (cv, instObj 196 cdx), (cdx, dictOf (vecEs w.params (Str.ofString "character") (.ref ct) .none a2 b2 c2 d2 e2 k2) n3), (ct, W.listOf [Value.str (Str.ofString "factor") t].toArray n4)], Fresh h h' p.1 p.2) →
    o.IsDictOf (PySem.strKind pw w) (facKvs (.ref lv) (.ref cv)) → (ad == sysModules) = false → LawFac w h h' x l lt
section
variable {w : World} {A : Around} {base : Heap} {outer : List Env} {loose : List Str} {mean : ExcName → Option Value} {mg mb : Str → Option Value} {s : Shared} {E : Value → Shared → Prop} {Q : Value → Shared → Prop}
theorem law_factor_c {l lt : Addr} {o1 o2 : Obj} (_h1 : s.heap.get? l = some o1) (_h2 : s.heap.get? lt = some o2)
    (C : Cx w A base outer loose mean mg mb s.heap) (hd : A.depth + 6 ≤ 700) (hu : A.units + 60 ≤ 8000)
    (hret : ∀ x h' tk', Kept s.heap h' → LawFac w s.heap h' x l lt → Q (.ref x) { s with heap := h', toks := tk' }) :
    wpAny (model pw w) A (call (.ref 640) [.ref l, .ref lt]) Q E s := by
  obtain ⟨B, X, T, hh⟩ := C
  walk_at "m_go"
  rename Obj.IsDictOf (PySem.strKind pw w) _ _ => hD
  refine' hret _ _ _ (Fr.keep (by assumption)) ⟨_, _, _, _, _, _, _, _, _, _, _, _, _, _, _, _, _, _, _, _, _, _, _, _, _, _, _, _, _, _, _, ?mem, ?hd, ?lo⟩
  (case hd => exact hD)
  (case mem => exact freshAll (by assumption) (subCons (by k_mem) (subCons (by k_mem) (subCons (by k_mem) (subCons (by k_mem) (subCons (by k_mem) (subCons (by k_mem) (subCons (by k_mem) (subCons (by k_mem) (fun _ h => nomatch h))))))))))
  (case lo => assumption)
end








theorem row34 : True := by
  (k_with "exec Raise some none" => (k_here; (with_reducible show wpAny _ _ (exec (Stmt.Raise (some (Expr.Call (Expr.Name _ _) (_ :: _) [] _)) none _) _) _ _ _); k_dflt (refine' raiseE ?h_r111 ?_ ?he_r111 ?hp_r111; (case h_r111 => first | rfl | assumption); (case he_r111 => rfl); (case hp_r111 => rfl); k_whole)))
  (k_with "And" => (k_here; (with_reducible show _ ∧ wpAny _ _ _ _ _ _); k_dflt (refine And.intro rfl ?_)))
  (k_with "setAttr ref" => (k_here; (with_reducible show wpAny _ _ (setAttr (Value.ref _) (PySem.Str.ofString "message") _) _ _ _); k_dflt (refine' setE ?F_r113 ?X_r113 ?N_r113 ?_; (case F_r113 => k_asm); (case X_r113 => k_asm); (case N_r113 => k_asm); k_whole); intro h'ρ d'ρ F'ρ N'ρ hne'ρ hle'ρ))
  trivial
section
variable {w : World} {A : Around} {base : Heap} {outer : List Env} {loose : List Str} {mean : ExcName → Option Value} {mg mb : Str → Option Value} {s : Shared} {E : Value → Shared → Prop} {Q : Value → Shared → Prop}
theorem init48_c {h₀ : Heap} {e t : Addr} {txt : Str} {tk : Tok} (he : s.heap.get? e = some (excO t none)) (hn : h₀.get? e = none) (hle : @LE.le Nat _ h₀.objs.size e) (hk : Kept h₀ s.heap) (X0 : (K w.params).In h₀) (T0 : Top q loose mean mg mb h₀)
    (hd : A.depth + 3 ≤ 700) (hu : A.units + 30 ≤ 8000)
    (hret : ∀ h' d n tk', Kept h₀ h' → h'.get? e = some (excO t (some d)) → h'.get? d = some (msgO w n (.str txt tk)) → @LE.le Nat _ h₀.objs.size d → d ≠ e → Q .none { s with heap := h', toks := tk' }) :
    wpAny (model pw w) A (call (.ref 48) [.ref e, .str txt tk]) Q E s := by
  have X := X0.keeps hk
  have T := T0.keeps hk
  k_dflt walk_at "m_enter"
  rename Fr _ _ _ _ => F1
  rename News _ _ _ _ => N1
  have ab : @LE.le Nat _ s.heap.objs.size _ := F1.above
  have el : @LT.lt Nat _ e s.heap.objs.size := Heap.lt_size he
  have F0 := (⟨F1.ns, fun b o q => F1.keep _ _ (hk b o q), by show @LE.le Nat _ _ _; omega⟩ : Fr h₀ _ _ _)
  have N0 : News h₀ _ _ [(e, excO t none)] := fun p hp => by
    obtain rfl := List.mem_singleton.mp hp
    exact ⟨F1.keep _ _ he, Nat.ne_of_lt (Nat.lt_of_lt_of_le el ab), hn⟩
  have lt0 : @LT.lt Nat _ _ _ := F1.ns.lt
  have le0 : @LE.le Nat _ h₀.objs.size _ := F0.above
  clear F1 N1 X T
  k_steps
  rename News _ _ _ _ => N9
  rename Fr _ _ _ _ => F9
  exact hret _ _ _ _ F9.keep (News.get N9 (by k_mem)) (News.get N9 (by k_mem)) (by show @LE.le Nat _ _ _; (try simp only [] at *); omega) (by assumption)
end
section
variable {w : World} {A : Around} {base : Heap} {outer : List Env} {loose : List Str} {mean : ExcName → Option Value} {mg mb : Str → Option Value} {s : Shared} {E : Value → Shared → Prop} {Q : Value → Shared → Prop}
theorem raise48 {h₀ : Heap} {L : Addr} {m : Str → Option Value} {txt : Str} {tk : Tok} (F : Fr h₀ L s.heap m) (X0 : (K w.params).In h₀) (T0 : Top q loose mean mg mb h₀) (hd : A.depth + 6 ≤ 700) (hu : A.units + 60 ≤ 8000)
    (hE : ∀ e d t n h' tk', Kept s.heap h' → h'.get? e = some (excO t (some d)) → h'.get? d = some (msgO w n (.str txt tk)) → @LE.le Nat _ s.heap.objs.size e → @LE.le Nat _ s.heap.objs.size d → d ≠ e → E (.ref e) { s with heap := h', toks := tk' }) :
    RaiseEnd w A E [.str txt tk] s := by
  refine ⟨X0.keeps F.keep, by simp [sizeLine_eq], fun h' e hm hle => ?_⟩
  refine letG ?_
  intro P9
  obtain ⟨t, he, htn, ht⟩ := hm.there
  k_unfold
  try clear P9
  refine init48_c (s := { s with heap := h' }) he hm.new hle hm.keeps (X0.keeps F.keep) (T0.keeps F.keep) ?_ ?_ fun h2 d n tk' k1 k2 k3 k4 k5 => ⟨rfl, (X0.keeps F.keep).keeps k1, ⟨t, d, k2⟩, hE _ _ _ _ _ _ k1 k2 k3 hle k4 k5⟩
  · have q : (A.under (.builtin "type.__call__" ⟨[.ref 51, .str txt tk], []⟩)).depth = A.depth + 1 := rfl
    rw [q]; omega
  · have q : (A.under (.builtin "type.__call__" ⟨[.ref 51, .str txt tk], []⟩)).units = A.units + 1 := rfl
    rw [q]; omega
end
theorem row35 : True := by
  (k_with "RaiseEnd" => (k_here; k_dflt (refine' raise48 ?F_r114 ?X_r114 ?T_r114 ?d_r114 ?u_r114 ?_; (case F_r114 => k_asm); (case X_r114 => k_asm); (case T_r114 => assumption); (case d_r114 => walk_at "m_dep"); (case u_r114 => walk_at "m_dep"); k_whole); intro e'ρ d'ρ t'ρ n'ρ h'ρ tk'ρ kp'ρ ge'ρ gd'ρ le1'ρ le2'ρ ne'ρ))
  (k_with "leaving ref" => (k_here; k_dflt (first | (refine' leaveRaise ?B_r115 ?F_r115 ?hf_r115 ?hk_r115 ?kp_r115 ?he_r115 ?hd_r115 ?e1_r115 ?e2_r115 ?e3_r115 ?_; (case he_r115 => assumption); (case hd_r115 => assumption); (case kp_r115 => assumption); (case B_r115 => assumption); (case F_r115 => assumption); (case hf_r115 => exact rfl); (case hk_r115 => exact rfl); (case e1_r115 => assumption); (case e2_r115 => assumption); (case e3_r115 => assumption); k_whole) | (refine' leaveOn ?B_r115 ?F_r115 ?hf_r115 ?R_r115 ?_; (case R_r115 => assumption); (case B_r115 => assumption); (case F_r115 => assumption); (case hf_r115 => exact rfl); k_whole)); intro h'ρ R'ρ))
  trivial
section
variable {w : World} {A : Around} {base : Heap} {outer : List Env} {loose : List Str} {mean : ExcName → Option Value} {mg mb : Str → Option Value} {s : Shared} {E : Value → Shared → Prop} {Q : Value → Shared → Prop}
theorem room_r {n : Int} {t : Tok} (hn : 1000000 < n) (hz : n < 1000000000000000000)
    (C : Cx w A base outer loose mean mg mb s.heap) (hd : A.depth + 9 ≤ 700) (hu : A.units + 90 ≤ 8000)
    (hexc : ∀ e d k tv h' tk', RaisedM outer e d (msgO w k (.str (Str.ofString "cannot allocate vector of length " ++ Str.ofString (toString n)) tv)) s.heap h' → E (.ref e) { s with heap := h', toks := tk' }) :
    wpAny (model pw w) A (call (.ref 207) [.int n t]) Q E s := by
  obtain ⟨B, X, T, hh⟩ := C
  have hz2 : n < 10 ^ Int.toNat 18 := by
    rw [show (10 : Int) ^ Int.toNat 18 = 1000000000000000000 from rfl]; exact hz
  walk_at "m_goR"
  · exact hexc _ _ _ _ _ _ (by assumption)
  all_goals (exfalso; omega)
end
theorem row36 : True := by
  (k_with "m_exc" => (intro e'ρ d'ρ k'ρ tv'ρ h'ρ tk'ρ R'ρ))
  (k_with "call ref" => (k_here; (with_reducible show wpAny _ _ (call (Value.ref 207) _) _ _ _); k_dflt (refine' room_r ?n_r117 ?z_r117 ?C_r117 ?d_r117 ?u_r117 ?_; (case n_r117 => first | assumption | omega); (case z_r117 => first | assumption | omega); (case C_r117 => walk_at "m_cx"); (case d_r117 => walk_at "m_dep"); (case u_r117 => walk_at "m_dep"); k_whole); walk_at "m_exc"))
  trivial
section
variable {w : World} {A : Around} {base : Heap} {outer : List Env} {loose : List Str} {mean : ExcName → Option Value} {mg mb : Str → Option Value} {s : Shared} {E : Value → Shared → Prop} {Q : Value → Shared → Prop}
theorem compare_r {op : Str} {f nl : Addr} {t : Tok} (hop : op = Str.ofString "==" ∨ op = Str.ofString "!=")
    (C : Cx w A base outer loose mean mg mb s.heap) (hd : A.depth + 12 ≤ 700) (hu : A.units + 120 ≤ 8000)
    (hexc : ∀ e d k tv h' tk', RaisedM outer e d (msgO w k (.str (Str.ofString "argument \"e2\" is missing, with no default") tv)) s.heap h' → E (.ref e) { s with heap := h', toks := tk' }) :
    wpAny (model pw w) A (call (.ref 614) [.str op t, .ref f, .none, .ref nl]) Q E s := by
  obtain ⟨B, X, T, hh⟩ := C
  rcases hop with rfl | rfl
  · walk_at "m_goR"
    all_goals exact hexc _ _ _ _ _ _ (by assumption)
  · walk_at "m_goR"
    all_goals exact hexc _ _ _ _ _ _ (by assumption)
end
theorem keptEnd {g0 g' h' : Heap} {L : Addr} {m : Str → Option Value} {outer : List Env} (F : Fr g' L h' m) (kx : KeptX outer g0 g') (ux : Upto g0 g') : KeptX outer g0 h' ∧ Upto g0 h' :=
  ⟨fun b o hb hn => F.keep _ _ (kx b o hb hn), ux.trans (Heap.UpToSlots.of_keeps F.keep)⟩
theorem instCaught {g' h' : Heap} {L e d : Addr} {oe od : Obj} (N : News g' L h' [(e, oe), (d, od)]) (c1 : oe.cls = .ref 51) (c2 : oe.dict = some d) (c3 : notCls oe = true) : InstAt h' e oe 51 (some od) :=
  ⟨(N _ (.head _)).1, c1, c3, by rw [c2]; exact (N _ (.tail _ (.head _))).1⟩
theorem row37 : True := by
  (k_with "getAttr ref" => (k_here; (with_reducible show wpAny _ _ (getAttr (Value.ref _) (PySem.Str.ofString "message") _) _ _ _); k_dflt (refine' getMsgF ?F_r118 ?X_r118 ?I_r118 ?l_r118 ?h_r118 ?_; (case I_r118 => with_reducible assumption); (case F_r118 => k_asm); (case X_r118 => k_asm); (case l_r118 => exact rfl); (case h_r118 => exact rfl); k_whole)))
  (k_with "k_inst" => with_reducible assumption)
  (k_with "noteFrame ref" => (k_here; k_dflt (refine' caughtM ?B_r120 ?F_r120 ?R_r120 ?X_r120 ?T_r120 ?ex_r120 ?_; (case R_r120 => assumption); (case B_r120 => assumption); (case F_r120 => assumption); (case X_r120 => assumption); (case T_r120 => assumption); (case ex_r120 => k_is); k_whole); intro g'ρ h'ρ tk'ρ oe'ρ F'ρ N'ρ c1ρ c2ρ c3ρ X'ρ T'ρ kx'ρ ux'ρ; (have I'ρ := instCaught N'ρ c1ρ c2ρ c3ρ)))
  (k_with "call ref" => (k_here; (with_reducible show wpAny _ _ (call (Value.ref 614) _) _ _ _); k_dflt (refine' compare_r ?o_r121 ?C_r121 ?d_r121 ?u_r121 ?_; (case o_r121 => assumption); (case C_r121 => walk_at "m_cx"); (case d_r121 => walk_at "m_dep"); (case u_r121 => walk_at "m_dep"); k_whole); walk_at "m_exc"))
  trivial
section
variable {w : World} {A : Around} {base : Heap} {outer : List Env} {loose : List Str} {mean : ExcName → Option Value} {mg mb : Str → Option Value} {s : Shared} {E : Value → Shared → Prop} {Q : Value → Shared → Prop}
theorem told_cmp {op : Str} {al f nl : Addr} {t : Tok} {nal : Nat} (hal : s.heap.get? al = some (W.listOf [Value.str op t, Value.ref f, Value.none, Value.ref nl].toArray nal)) (hop : op = Str.ofString "==" ∨ op = Str.ofString "!=")
    (C : Cx w A base outer loose mean mg mb s.heap) (X0 : (K w.params).In base) (T0 : Top q loose mean mg mb base) (hd : A.depth + 15 ≤ 700) (hu : A.units + 150 ≤ 8000)
    (hret : ∀ h' tk' tv, KeptX outer s.heap h' → Upto s.heap h' → Q (.str (Str.ofString "argument \"e2\" is missing, with no default") tv) { s with heap := h', toks := tk' }) :
    wpAny (model pw w) A (call (.ref 647) [.ref 614, .ref al]) Q E s := by
  obtain ⟨B, X, T, hh⟩ := C
  have i0 : [Value.str op t, Value.ref f, Value.none, Value.ref nl][(0 : Int).toNat]? = some (Value.str op t) := rfl
  have i1 : [Value.str op t, Value.ref f, Value.none, Value.ref nl][(1 : Int).toNat]? = some (Value.ref f) := rfl
  have i2 : [Value.str op t, Value.ref f, Value.none, Value.ref nl][(2 : Int).toNat]? = some Value.none := rfl
  have i3 : [Value.str op t, Value.ref f, Value.none, Value.ref nl][(3 : Int).toNat]? = some (Value.ref nl) := rfl
  have e1 : ((([Value.str op t, Value.ref f, Value.none, Value.ref nl].length : Nat) : Int) == 1) = false := rfl
  have e3 : ((([Value.str op t, Value.ref f, Value.none, Value.ref nl].length : Nat) : Int) == 3) = false := rfl
  have e4 : ((([Value.str op t, Value.ref f, Value.none, Value.ref nl].length : Nat) : Int) == 4) = true := rfl
  have i5 : [Value.str op t, Value.ref f, Value.none, Value.ref nl].length ≤ 1000000 := by simp
  walk_at "m_go"
  rename KeptX _ _ _ => kx1
  rename Upto _ _ => ux1
  obtain ⟨z1, z2⟩ := keptEnd (by assumption) kx1 ux1
  exact hret _ _ _ z1 z2
end
section
variable {w : World} {A : Around} {base : Heap} {outer : List Env} {loose : List Str} {mean : ExcName → Option Value} {mg mb : Str → Option Value} {s : Shared} {E : Value → Shared → Prop} {Q : Value → Shared → Prop}
/-- what make_factor says of labels that do not fit -/
noncomputable abbrev badLabels (a b : Nat) : Str := Str.empty ++ Str.ofString "invalid 'labels'; length " ++ Str.ofString (toString (a : Int)) ++ Str.ofString " should be 1 or " ++ Str.ofString (toString (b : Int))
theorem label_list_r {x l ll : Addr} {vs lvs : List Value} {xs : List (Option Str)} {n n' : Nat} (hv : VecAt w.params s.heap x (Str.ofString "character") (.ref l) .none) (hl : s.heap.get? l = some (W.listOf vs.toArray n)) (hp : Paired IsOS vs xs) (hll : s.heap.get? ll = some (W.listOf lvs.toArray n')) (hz : vs.length ≤ 1000) (hy : lvs.length ≤ 1000) (he : vs.length ≠ lvs.length) (h1 : vs.length ≠ 1)
    (C : Cx w A base outer loose mean mg mb s.heap) (hd : A.depth + 15 ≤ 700) (hu : A.units + 150 ≤ 8000)
    (hexc : ∀ e d k tv h' tk', RaisedM outer e d (msgO w k (.str (badLabels vs.length lvs.length) tv)) s.heap h' → E (.ref e) { s with heap := h', toks := tk' }) :
    wpAny (model pw w) A (call (.ref 545) [.ref x, .ref ll]) Q E s := by
  obtain ⟨B, X, T, hh⟩ := C
  walk_at "m_goCR"
  all_goals exact hexc _ _ _ _ _ _ (by assumption)
end
theorem row38 : True := by
  (k_with "call ref" => (k_here; (with_reducible show wpAny _ _ (call (Value.ref 545) _) _ _ _); k_dflt (refine' label_list_r ?v_r122 ?l_r122 ?p_r122 ?h_r122 ?z_r122 ?y_r122 ?e_r122 ?o_r122 ?C_r122 ?d_r122 ?u_r122 ?_; (case v_r122 => walk_at "m_vec"); (case l_r122 => walk_at "m_get"); (case p_r122 => walk_at "m_pair"); (case h_r122 => walk_at "m_get"); (case z_r122 => walk_at "m_num"); (case y_r122 => walk_at "m_num"); (case e_r122 => walk_at "m_num"); (case o_r122 => walk_at "m_num"); (case C_r122 => walk_at "m_cx"); (case d_r122 => walk_at "m_dep"); (case u_r122 => walk_at "m_dep"); k_whole); walk_at "m_exc"))
  trivial
section
variable {w : World} {A : Around} {base : Heap} {outer : List Env} {loose : List Str} {mean : ExcName → Option Value} {mg mb : Str → Option Value} {s : Shared} {E : Value → Shared → Prop} {Q : Value → Shared → Prop}
theorem make_factor_r {x l xl ll ex : Addr} {vs lvs : List Value} {xs lxs : List (Option Str)} {ws : List Str} {n n' ne : Nat} (hws : IsRanks xs ws) (hv : VecAt w.params s.heap x (Str.ofString "character") (.ref l) .none) (hl : s.heap.get? l = some (W.listOf vs.toArray n)) (hp : Paired IsOS vs xs)
    (hvl : VecAt w.params s.heap xl (Str.ofString "character") (.ref ll) .none) (hll : s.heap.get? ll = some (W.listOf lvs.toArray n')) (hpl : Paired IsOS lvs lxs) (hex : s.heap.get? ex = some (W.listOf [].toArray ne)) (hz : vs.length ≤ 1000) (hy : lvs.length ≤ 1000) (hwl : ws.length ≤ 1000) (he : lvs.length ≠ ws.length) (h1 : lvs.length ≠ 1)
    (C : Cx w A base outer loose mean mg mb s.heap) (hd : A.depth + 24 ≤ 700) (hu : A.units + 240 ≤ 8000)
    (hexc : ∀ e d k tv h' tk', RaisedM outer e d (msgO w k (.str (badLabels lvs.length ws.length) tv)) s.heap h' → E (.ref e) { s with heap := h', toks := tk' }) :
    wpAny (model pw w) A (call (.ref 557) [.ref x, .none, .ref xl, .ref ex, .bool false]) Q E s := by
  obtain ⟨B, X, T, hh⟩ := C
  have hxl := hp.length
  have hlxl := hpl.length
  have hnd := hws.nodup
  refine hv.elim ?_
  intro dx nn a1 b1 c1 d1 e1 k1 hx hdx
  walk_at "m_goCR"
  rename List Value => ys0
  rename Paired IsS ys0 ws => hs0
  have hys0 := hs0.length
  refine compIf (fun i ys => ys = ys0.take i) rfl ?_ ?_
  · rintro i ys hi rfl
    intro v I oI Cc oC D m₂ h₂ tk₂ E' hi' hC hx' F' N' off ne
    intros
    simp only [List.getElem?_toArray] at hi'
    refine letG ?_
    intro P9
    obtain ⟨z, hz1, tz, rfl⟩ := Paired.get hs0 hi'
    k_unfold
    try clear P9
    k_steps
    all_goals exact (take_next hi').symm
  · rintro ys rfl
    simp only [List.size_toArray, List.take_length]
    k_steps
    rw [← hys0] at hexc
    all_goals exact hexc _ _ _ _ _ _ (by assumption)
end
theorem row39 : True := by
  (k_with "call ref" => (k_here; (with_reducible show wpAny _ _ (call (Value.ref 557) _) _ _ _); k_dflt (refine' make_factor_r ?w_r123 ?v_r123 ?l_r123 ?p_r123 ?vl_r123 ?ll_r123 ?pl_r123 ?e_r123 ?z_r123 ?y_r123 ?wl_r123 ?he_r123 ?h1_r123 ?C_r123 ?d_r123 ?u_r123 ?_; (case w_r123 => assumption); (case v_r123 => walk_at "m_vec"); (case l_r123 => walk_at "m_get"); (case p_r123 => walk_at "m_pair"); (case vl_r123 => walk_at "m_vec"); (case ll_r123 => walk_at "m_get"); (case pl_r123 => walk_at "m_pair"); (case e_r123 => walk_at "m_get"); (case z_r123 => walk_at "m_num"); (case y_r123 => walk_at "m_num"); (case wl_r123 => walk_at "m_num"); (case he_r123 => walk_at "m_num"); (case h1_r123 => walk_at "m_num"); (case C_r123 => walk_at "m_cx"); (case d_r123 => walk_at "m_dep"); (case u_r123 => walk_at "m_dep"); k_whole); walk_at "m_exc"))
  trivial
section
variable {w : World} {A : Around} {base : Heap} {outer : List Env} {loose : List Str} {mean : ExcName → Option Value} {mg mb : Str → Option Value} {s : Shared} {E : Value → Shared → Prop} {Q : Value → Shared → Prop}
theorem told_make_r {al x l xl ll ex : Addr} {vs lvs : List Value} {xs lxs : List (Option Str)} {ws : List Str} {n n' ne nal : Nat} (hal : s.heap.get? al = some (W.listOf [Value.ref x, Value.none, Value.ref xl, Value.ref ex, Value.bool false].toArray nal)) (hws : IsRanks xs ws) (hv : VecAt w.params s.heap x (Str.ofString "character") (.ref l) .none) (hl : s.heap.get? l = some (W.listOf vs.toArray n)) (hp : Paired IsOS vs xs)
    (hvl : VecAt w.params s.heap xl (Str.ofString "character") (.ref ll) .none) (hll : s.heap.get? ll = some (W.listOf lvs.toArray n')) (hpl : Paired IsOS lvs lxs) (hex : s.heap.get? ex = some (W.listOf [].toArray ne)) (hz : vs.length ≤ 1000) (hy : lvs.length ≤ 1000) (hwl : ws.length ≤ 1000) (he : lvs.length ≠ ws.length) (h1 : lvs.length ≠ 1)
    (C : Cx w A base outer loose mean mg mb s.heap) (X0 : (K w.params).In base) (T0 : Top q loose mean mg mb base) (hd : A.depth + 27 ≤ 700) (hu : A.units + 270 ≤ 8000)
    (hret : ∀ h' tk' tv, KeptX outer s.heap h' → Upto s.heap h' → Q (.str (badLabels lvs.length ws.length) tv) { s with heap := h', toks := tk' }) :
    wpAny (model pw w) A (call (.ref 647) [.ref 557, .ref al]) Q E s := by
  obtain ⟨B, X, T, hh⟩ := C
  have i0 : [Value.ref x, Value.none, Value.ref xl, Value.ref ex, Value.bool false][(0 : Int).toNat]? = some (Value.ref x) := rfl
  have i1 : [Value.ref x, Value.none, Value.ref xl, Value.ref ex, Value.bool false][(1 : Int).toNat]? = some Value.none := rfl
  have i2 : [Value.ref x, Value.none, Value.ref xl, Value.ref ex, Value.bool false][(2 : Int).toNat]? = some (Value.ref xl) := rfl
  have i3 : [Value.ref x, Value.none, Value.ref xl, Value.ref ex, Value.bool false][(3 : Int).toNat]? = some (Value.ref ex) := rfl
  have i4 : [Value.ref x, Value.none, Value.ref xl, Value.ref ex, Value.bool false][(4 : Int).toNat]? = some (Value.bool false) := rfl
  have e1 : ((([Value.ref x, Value.none, Value.ref xl, Value.ref ex, Value.bool false].length : Nat) : Int) == 1) = false := rfl
  have e3 : ((([Value.ref x, Value.none, Value.ref xl, Value.ref ex, Value.bool false].length : Nat) : Int) == 3) = false := rfl
  have e4 : ((([Value.ref x, Value.none, Value.ref xl, Value.ref ex, Value.bool false].length : Nat) : Int) == 4) = false := rfl
  have i5 : [Value.ref x, Value.none, Value.ref xl, Value.ref ex, Value.bool false].length ≤ 1000000 := by simp
  walk_at "m_go"
  rename KeptX _ _ _ => kx1
  rename Upto _ _ => ux1
  obtain ⟨z1, z2⟩ := keptEnd (by assumption) kx1 ux1
  exact hret _ _ _ z1 z2
end
theorem allNe_off1 {D : Addr} : ∀ {l : List (Addr × Obj)}, LCg.Off1 D l → AllNe D l
  | [], _ => trivial
  | _ :: _, h => ⟨h.1, allNe_off1 h.2⟩
theorem subOf {α : Type} {l R : List α} {q : α} (s : ∀ p ∈ l, p ∈ R) (m : q ∈ l) : q ∈ R := s q m
theorem subUse {α : Type} {R0 l R : List α} (s : ∀ p ∈ l, p ∈ R) (k : ∀ p ∈ R0, p ∈ l) : ∀ p ∈ R0, p ∈ R := fun p hp => s p (k p hp)
/-- from here on the ledger is not looked into -/
theorem sealN {h₀ h : Heap} {L : Addr} {news : List (Addr × Obj)} {G : Prop} (N : News h₀ L h news) (k : ∀ R, News h₀ L h R → (∀ p ∈ news, p ∈ R) → G) : G := k _ N fun _ h => h
theorem AllNe.hd {a x : Addr} {o o' : Obj} {l : List (Addr × Obj)} (h : AllNe a ((x, o) :: l)) : AllNe a ((x, o') :: l) := h
theorem AllNe.hd2 {a x : Addr} {o o' : Obj} {p : Addr × Obj} {l : List (Addr × Obj)} (h : AllNe a (p :: (x, o) :: l)) : AllNe a (p :: (x, o') :: l) := h
theorem AllNe.tl {a : Addr} {p : Addr × Obj} {l : List (Addr × Obj)} (h : AllNe a (p :: l)) : AllNe a l := h.2
theorem row40 : True := by
  (k_with "m_off" => first | exact trivial | with_reducible assumption | exact AllNe.hd (by with_reducible assumption) | exact AllNe.hd2 (by with_reducible assumption) | exact AllNe.tl (by with_reducible assumption) | exact AllNe.tl (AllNe.tl (by with_reducible assumption)) | (refine allNeCons (by k_ne) ?_; walk_at "m_off"))
  (k_with "m_sub" => first | exact subEnd _ | exact List.forall_mem_nil _ | exact subTail (subEnd _) | exact subTail (subTail (subEnd _)) | exact subTail (subTail (subTail (subEnd _))) | (refine subCons (by k_mem) ?_; walk_at "m_sub") | (refine subTail ?_; walk_at "m_sub") | (refine' subUse ?s_r125 ?k_r125; (case s_r125 => with_reducible assumption); (case k_r125 => walk_at "m_sub")) | fail "m_sub")
  (k_with "lcg_sub" => walk_at "m_sub")
  (k_with "k_mem" => first | (refine' subOf ?s_r127 ?m_r127; (case s_r127 => with_reducible assumption); (case m_r127 => k_mem)) | fail "k_mem")
  (k_with "FinE" => ((unfold LCg.FinE); intro D'ρ h'ρ tk'ρ F'ρ N'ρ o1'ρ; (have al'ρ := allNe_off1 o1'ρ); (clear o1'ρ); (try simp only [List.nil_append, List.cons_append] at N'ρ); (try dsimp only)))
  (k_with "FinA" => ((unfold LCg.FinA); intro D'ρ h'ρ tk'ρ F'ρ N'ρ o1'ρ; (have al'ρ := allNe_off1 o1'ρ); (clear o1'ρ); (try simp only [List.nil_append, List.cons_append] at N'ρ); (try dsimp only)))
  (k_with "newList" => (k_here; k_dflt (refine' newList_K ?k1_r130 ?k2_r130 ?_; (case k1_r130 => k_asm); (case k2_r130 => k_asm); k_whole); intro l'ρ h'ρ F'ρ N'ρ l1ρ; (have al'ρ := allNe_lt l1ρ); (clear l1ρ)))
  (k_with "call ref" => (k_here; (with_reducible show wpAny _ _ (call (Value.ref 207) _) _ _ _); k_dflt (refine' room_c ?n_r131 ?C_r131 ?d_r131 ?u_r131 ?_; (case n_r131 => first | assumption | omega); (case C_r131 => walk_at "m_cx"); (case d_r131 => walk_at "m_dep"); (case u_r131 => walk_at "m_dep"); k_whole); walk_at "m_back"))
  (k_with "call builtin:sum" => (k_here; (with_reducible show wpAny _ _ (call (Value.builtin "sum") [Value.ref _]) _ _ _); k_dflt (refine' sumK ?k0_r132 ?k1_r132 ?k2_r132 ?k3_r132 ?k4_r132 ?_; (case k0_r132 => first | rfl | assumption); (case k1_r132 => k_asm); (case k2_r132 => k_asm); (case k3_r132 => walk_at "m_list"); (case k4_r132 => assumption); k_whole); intro h'ρ tk'ρ t'ρ F'ρ N'ρ))
  trivial
theorem maxNat {w : World} {A : Around} {E : Value → Shared → Prop} {s : Shared} {h₀ : Heap} {L : Addr} {m : Str → Option Value} {news : List (Addr × Obj)} {a b : Nat} {t u : Tok} {Q : Value → Shared → Prop} (hh : A.handled = none) (F : Fr h₀ L s.heap m) (N : News h₀ L s.heap news)
    (h : ∀ h' tk t', Fr h₀ L h' m → News h₀ L h' news → Q (.int ((max a b : Nat) : Int) t') { s with heap := h', toks := tk }) :
    wpAny (model pw w) A (call (.builtin "max") [.int a t, .int b u]) Q E s :=
  max_two_N hh F N fun h' tk F' N' => by
    rw [show (if (b : Int) > a then (b : Int) else a) = ((max a b : Nat) : Int) by split <;> omega]
    exact h _ _ _ F' N'
theorem row41 : True := by
  (k_with "call builtin:max" => (k_here; (with_reducible show wpAny _ _ (call (Value.builtin "max") [Value.int _ _, Value.int _ _]) _ _ _); k_dflt (refine' maxNat ?k0_r133 ?k1_r133 ?k2_r133 ?_; (case k0_r133 => first | rfl | assumption); (case k1_r133 => k_asm); (case k2_r133 => k_asm); k_whole); intro h'ρ tk'ρ t'ρ F'ρ N'ρ))
  trivial
theorem fmodNat (i : Nat) {n : Nat} (h : 0 < n) : Int.fmod (i : Int) (n : Int) = ((i % n : Nat) : Int) := by
  rw [Int.fmod_eq_emod_of_nonneg _ (by omega)]; exact (Int.natCast_emod i n).symm
/-- the names of an interaction -/
noncomputable def interNames (xs1 xs2 : List Str) (sep : Str) : List Str := xs2.flatMap fun r => xs1.map fun l => l ++ sep ++ r
/-- the codes of an interaction -/
noncomputable def interAt (cs1 cs2 : List (Option Int)) (cnt : Nat) (i : Nat) : Option Int := ((cs1[i % cs1.length]?).getD none).bind fun a => ((cs2[i % cs2.length]?).getD none).map fun b => a + (b - 1) * cnt
noncomputable def interLen (a b : Nat) : Nat := if a = 0 ∨ b = 0 then 0 else max a b
noncomputable def interCodes (cs1 cs2 : List (Option Int)) (cnt : Nat) : List (Option Int) := (List.range (interLen cs1.length cs2.length)).map (interAt cs1 cs2 cnt)
theorem interNames_len (xs1 xs2 : List Str) (sep : Str) : (interNames xs1 xs2 sep).length = xs1.length * xs2.length := by
  unfold interNames
  induction xs2 with
  | nil => rfl
  | cons r xs2 ih => rw [List.flatMap_cons, List.length_append, ih, List.length_map, List.length_cons, Nat.mul_succ]; omega
theorem interNames_next {xs1 xs2 : List Str} {sep r : Str} {i : Nat} (h : xs2[i]? = some r) : interNames xs1 (xs2.take (i + 1)) sep = interNames xs1 (xs2.take i) sep ++ xs1.map fun l => l ++ sep ++ r := by
  unfold interNames
  rw [take_next h, List.flatMap_append]
  simp
theorem sum_le10 : ∀ {xs : List Str}, (∀ x ∈ xs, x.length ≤ 10) → 0 ≤ (xs.map fun x => (x.length : Int)).sum ∧ (xs.map fun x => (x.length : Int)).sum ≤ 10 * xs.length
  | [], _ => by simp
  | x :: xs, h => by
    have a := sum_le10 (xs := xs) fun y hy => h y (.tail _ hy)
    have b := h x (.head _)
    simp only [List.map_cons, List.sum_cons, List.length_cons]
    omega
theorem mul_le_of {a b c d : Int} (h0 : 0 ≤ a) (h1 : a ≤ c) (h2 : 0 ≤ b) (h3 : b ≤ d) : a * b ≤ c * d := Int.mul_le_mul h1 h3 h2 (by omega)
theorem inter_small {xs1 xs2 : List Str} {sep : Str} {a b : Nat} (h1 : ∀ x ∈ xs1, x.length ≤ 10) (h2 : ∀ x ∈ xs2, x.length ≤ 10) (hs : sep.length ≤ 10) (l1 : xs1.length ≤ 10) (l2 : xs2.length ≤ 10) (ha : a ≤ 10) (hb : b ≤ 10) :
    (xs1.map fun x => (x.length : Int)).sum * (b : Int) + (xs2.map fun x => (x.length : Int)).sum * (a : Int) + (sep.length : Int) * ((a : Int) * (b : Int)) ≤ 20000000 := by
  obtain ⟨p1, p2⟩ := sum_le10 h1
  obtain ⟨q1, q2⟩ := sum_le10 h2
  have r1 := mul_le_of p1 (show _ ≤ (100 : Int) by omega) (show (0 : Int) ≤ b by omega) (show (b : Int) ≤ 10 by omega)
  have r2 := mul_le_of q1 (show _ ≤ (100 : Int) by omega) (show (0 : Int) ≤ a by omega) (show (a : Int) ≤ 10 by omega)
  have r3 := mul_le_of (show (0 : Int) ≤ a by omega) (show (a : Int) ≤ 10 by omega) (show (0 : Int) ≤ b by omega) (show (b : Int) ≤ 10 by omega)
  have r4 : (0 : Int) ≤ (a : Int) * (b : Int) := Int.mul_nonneg (by omega) (by omega)
  have r5 := mul_le_of (show (0 : Int) ≤ sep.length by omega) (show (sep.length : Int) ≤ 10 by omega) r4 (show (a : Int) * (b : Int) ≤ 100 by omega)
  omega
noncomputable def StopAt (_ : Str) : Prop := True
theorem stopAt {M : Model} {A : Around} {n : Str} {p q : Pos} {v : PySem.Expr} {r : List Stmt} {env : Env} {Q : Flow → Shared → Prop} {E : Value → Shared → Prop} {s : Shared} (_ : StopAt n) (h : Halt (wpAny M A (execs (Stmt.Assign [Expr.Name n p] v q :: r) env) Q E s)) : wpAny M A (execs (Stmt.Assign [Expr.Name n p] v q :: r) env) Q E s := h
theorem row42 : True := by
  (k_with "execs cons" => (k_here; refine' stopAt ?st_r134 ?_; (case st_r134 => with_reducible assumption)))
  (k_with "execs cons Assign cons" => walk_at "execs cons")
  trivial
noncomputable def StopIf : Prop := True
noncomputable def StopIfExp : Prop := True
theorem stopIfExp {M : Model} {A : Around} {t b o : PySem.Expr} {p : Pos} {env : Env} {Q : Value → Shared → Prop} {E : Value → Shared → Prop} {s : Shared} (_ : StopIfExp) (h : Halt (wpAny M A (eval (PySem.Expr.IfExp t b o p) env) Q E s)) : wpAny M A (eval (PySem.Expr.IfExp t b o p) env) Q E s := h
theorem stopIf {M : Model} {A : Around} {t : PySem.Expr} {b o : List Stmt} {p : Pos} {env : Env} {Q : Flow → Shared → Prop} {E : Value → Shared → Prop} {s : Shared} (_ : StopIf) (h : Halt (wpAny M A (exec (Stmt.If t b o p) env) Q E s)) : wpAny M A (exec (Stmt.If t b o p) env) Q E s := h
theorem row43 : True := by
  (k_with "eval IfExp" => (k_here; refine' stopIfExp ?st_r136 ?_; (case st_r136 => with_reducible assumption)))
  (k_with "exec If" => (k_here; refine' stopIf ?st_r137 ?_; (case st_r137 => with_reducible assumption)))
  trivial
theorem frName {h₀ h : Heap} {L : Addr} {m : Str → Option Value} {x : Str} {v : Option Value} (e : m x = v) (F : Fr h₀ L h m) : Fr h₀ L h (fun y => if y = x then v else m y) := by
  have q : (fun y => if y = x then v else m y) = m := funext fun y => by
    by_cases h : y = x
    · rw [if_pos h, h, e]
    · rw [if_neg h]
  rw [q]; exact F
/-- a def's statements from the k-th on -/
noncomputable def restOf (n : Nat) : Nat → Option (List Stmt × Scope)
  | 0 => match fnParts n with
    | some (_, b, s) => some (b, s)
    | none => none
  | k + 1 => match restOf n k with
    | some (_ :: b, s) => some (b, s)
    | _ => none
theorem restOf_of (n k : Nat) {b : List Stmt} {s : Scope} (h : restOf n k = some (b, s)) : restOf n k = some (b, s) := h
noncomputable abbrev lawB {x : Option (List Stmt × Scope)} {b : List Stmt} {s : Scope} (_ : x = some (b, s)) : List Stmt := b
noncomputable abbrev lawSc {x : Option (List Stmt × Scope)} {b : List Stmt} {s : Scope} (_ : x = some (b, s)) : Scope := s
noncomputable abbrev FnGoal (w : World) (A : Around) (name : Str) (f : Addr) (cd : Value) (L : Addr) (b : List Stmt) (sc : Scope) (Q _E : Value → Shared → Prop) (s : Shared) : Prop :=
  wpAny (model pw w) (A.deeper (envOf name sc L f cd)) (execs b (envOf name sc L f cd))
    (fun fl s' => Q (match fl with | .ret v => v | _ => .none) s')
    (fun _ _ => False) s
section
variable {w : World} {A : Around} {base : Heap} {outer : List Env} {loose : List Str} {mean : ExcName → Option Value} {mg mb : Str → Option Value} {s : Shared} {E : Value → Shared → Prop} {Q : Value → Shared → Prop}
/-- interaction, from the codes of the first factor on -/
theorem inter_9 {L tk : Nat} {h h₀ : Heap} {m : Str → Option Value} {R : List (Addr × Obj)} {f g l1 l2 na : Addr} {vs1 vs2 lvs1 lvs2 nsv : List Value} {cs1 cs2 : List (Option Int)} {xs1 xs2 ns : List Str} {n k5 tc tn : Nat}
    (B : Below A base outer h₀) (X : (K w.params).In h₀) (T : Top q loose mean mg mb h₀) (hh : A.handled = none) (hd : A.depth + 24 ≤ 700) (hu : A.units + 240 ≤ 8000)
    (F : Fr h₀ L h (fun y => if y = Str.ofString "f" then some (.ref f) else if y = Str.ofString "g" then some (.ref g) else if y = Str.ofString "count" then some (.int (lvs1.length : Int) tc) else if y = Str.ofString "names" then some (.ref na) else if y = Str.ofString "n" then some (.int (n : Int) tn) else m y))
    (N : News h₀ L h R) (mn : (na, W.listOf nsv.toArray k5) ∈ R)
    (hf : FacAt w h₀ f l1 vs1 lvs1) (hg : FacAt w h₀ g l2 vs2 lvs2) (hq1 : Paired IsS lvs1 xs1) (hq2 : Paired IsS lvs2 xs2) (hp1 : Paired (IsCode lvs1.length) vs1 cs1) (hp2 : Paired (IsCode lvs2.length) vs2 cs2)
    (hz1 : vs1.length ≤ 10) (hz2 : vs2.length ≤ 10) (hy1 : lvs1.length ≤ 10) (hy2 : lvs2.length ≤ 10)
    (hns : Paired IsS nsv ns) (hnsl : nsv.length ≤ 1000000) (hnz : n ≤ 10) (hn : n = interLen vs1.length vs2.length) (hpos : ∀ i, i < n → 0 < vs1.length ∧ 0 < vs2.length)
    (hret : ∀ x' l' lt ct us ns' h' tk', Kept h₀ h' → FacFresh w h₀ h' x' l' lt ct us ns' → Paired IsOI us (interCodes cs1 cs2 lvs1.length) → Paired IsS ns' ns → Q (.ref x') { s with heap := h', toks := tk' }) :
    FnGoal w A (Str.ofString "interaction") 567 (.ref 566) L (lawB (restOf_of 89 9 rfl)) (lawSc (restOf_of 89 9 rfl)) Q noE { s with heap := h, toks := tk } := by
  unfold FnGoal
  dsimp only [lawB, lawSc]
  k_dflt k_whole
  k_fold
  have calm9 : Calm := trivial
  k_steps
  rename IsRange _ _ _ _ _ _ _ _ => hr
  rename News _ _ _ _ => N1
  rename Fr _ _ _ _ => F1
  refine' Halt.of (forLenL (n := n) [Str.ofString "left", Str.ofString "right"] (fun i u nw => ∃ cv kq, nw = (_, W.listOf (List.toArray cv) kq) :: _ ∧ Paired IsOI cv ((List.range i).map (interAt cs1 cs2 lvs1.length))) hh hr (by omega) F1 N1 ⟨[], _, rfl, .nil⟩ ?_ ?_)
  · rintro i t u nw I oI h₂ tk₂ hi hJ9
    refine letG ?_
    intro P9
    obtain ⟨cv, kq, rfl, hcv⟩ := hJ9
    k_unfold
    try clear P9
    rintro F2 N2 hne
    intros
    clear N1 F1 hr
    obtain ⟨h10, h20⟩ := hpos i hi
    have hcl : cv.length ≤ 1000000 := by have a := hcv.length; rw [List.length_map, List.length_range] at a; omega
    have fm1 : Int.fmod (i : Int) (vs1.length : Int) = ((i % vs1.length : Nat) : Int) := fmodNat i (by omega)
    have fm2 : Int.fmod (i : Int) (vs2.length : Int) = ((i % vs2.length : Nat) : Int) := fmodNat i (by omega)
    have fl1 := Nat.mod_lt i (show vs1.length > 0 by omega)
    have fl2 := Nat.mod_lt i (show vs2.length > 0 by omega)
    have fb1 : 0 ≤ Int.fmod (i : Int) (vs1.length : Int) ∧ Int.fmod (i : Int) (vs1.length : Int) < vs1.length := by omega
    have fb2 : 0 ≤ Int.fmod (i : Int) (vs2.length : Int) ∧ Int.fmod (i : Int) (vs2.length : Int) < vs2.length := by omega
    obtain ⟨v1, hv1⟩ : ∃ v1, vs1[(Int.fmod (i : Int) (vs1.length : Int)).toNat]? = some v1 := ⟨_, List.getElem?_eq_getElem (by omega)⟩
    obtain ⟨v2, hv2⟩ : ∃ v2, vs2[(Int.fmod (i : Int) (vs2.length : Int)).toNat]? = some v2 := ⟨_, List.getElem?_eq_getElem (by omega)⟩
    refine letG ?_
    intro P9
    obtain ⟨c1, hc1, hvc1⟩ := Paired.get hp1 hv1
    k_unfold
    try clear P9
    refine letG ?_
    intro P9
    obtain ⟨c2, hc2, hvc2⟩ := Paired.get hp2 hv2
    k_unfold
    try clear P9
    have hat : interAt cs1 cs2 lvs1.length i = c1.bind fun a => c2.map fun b => a + (b - 1) * (lvs1.length : Nat) := by
      unfold interAt
      rw [← hp1.length, ← hp2.length, show i % vs1.length = (Int.fmod (i : Int) (vs1.length : Int)).toNat by omega, show i % vs2.length = (Int.fmod (i : Int) (vs2.length : Int)).toNat by omega, hc1, hc2]
      rfl
    have st9 : StopIf := trivial
    k_steps
    clear st9
    refine Halt.of ?_
    cases c1 with
    | none =>
      cases hvc1
      k_steps
      walk_at "m_tend"
      refine ⟨_, ⟨_, _, rfl, ?_⟩, by walk_at "m_sub", by walk_at "m_off"⟩
      rw [List.range_succ, List.map_append]
      exact pairedSnoc (F := IsOI) (by rw [hat]; exact rfl) hcv
    | some c1 =>
      refine letG ?_
      intro P9
      obtain ⟨tc1, rfl, cl1, ch1⟩ := hvc1
      k_unfold
      try clear P9
      cases c2 with
      | none =>
        cases hvc2
        k_steps
        walk_at "m_tend"
        refine ⟨_, ⟨_, _, rfl, ?_⟩, by walk_at "m_sub", by walk_at "m_off"⟩
        rw [List.range_succ, List.map_append]
        exact pairedSnoc (F := IsOI) (by rw [hat]; exact rfl) hcv
      | some c2 =>
        refine letG ?_
        intro P9
        obtain ⟨tc2, rfl, cl2, ch2⟩ := hvc2
        k_unfold
        try clear P9
        k_steps
        walk_at "m_tend"
        refine ⟨_, ⟨_, _, rfl, ?_⟩, by walk_at "m_sub", by walk_at "m_off"⟩
        rw [List.range_succ, List.map_append]
        exact pairedSnoc (F := IsOI) (by rw [hat]; exact ⟨_, rfl⟩) hcv
  · rintro u nw h₂ tk₂ hJ9
    refine letG ?_
    intro P9
    obtain ⟨cv, kq, rfl, hcv⟩ := hJ9
    k_unfold
    try clear P9
    rintro F2 N2
    clear N1 F1 hr
    have hcl : cv.length ≤ 1000000 := by have a := hcv.length; rw [List.length_map, List.length_range] at a; omega
    have hfin : Paired IsOI cv (interCodes cs1 cs2 lvs1.length) := by
      unfold interCodes
      rw [← hp1.length, ← hp2.length, ← hn]
      exact hcv
    k_steps
    rename FacFresh _ _ _ _ _ _ _ _ _ => ff9
    rename Kept _ _ => kp9
    refine' hret _ _ _ _ _ _ _ _ kp9 ff9 ?hr ?hn
    (case hr => exact hfin)
    (case hn => exact hns)
theorem interaction_c {f g l1 l2 : Addr} {vs1 vs2 lvs1 lvs2 : List Value} {cs1 cs2 : List (Option Int)} {xs1 xs2 : List Str} {sep : Str} {ts : Tok} (hf : FacAt w s.heap f l1 vs1 lvs1) (hg : FacAt w s.heap g l2 vs2 lvs2) (hq1 : Paired IsS lvs1 xs1) (hq2 : Paired IsS lvs2 xs2) (hp1 : Paired (IsCode lvs1.length) vs1 cs1) (hp2 : Paired (IsCode lvs2.length) vs2 cs2)
    (hz1 : vs1.length ≤ 10) (hz2 : vs2.length ≤ 10) (hy1 : lvs1.length ≤ 10) (hy2 : lvs2.length ≤ 10) (hn1 : ∀ x ∈ xs1, x.length ≤ 10) (hn2 : ∀ x ∈ xs2, x.length ≤ 10) (hs : sep.length ≤ 10)
    (C : Cx w A base outer loose mean mg mb s.heap) (hd : A.depth + 24 ≤ 700) (hu : A.units + 240 ≤ 8000)
    (hret : ∀ x' l' lt ct us ns h' tk', Kept s.heap h' → FacFresh w s.heap h' x' l' lt ct us ns → Paired IsOI us (interCodes cs1 cs2 lvs1.length) → Paired IsS ns (interNames xs1 xs2 sep) → Q (.ref x') { s with heap := h', toks := tk' }) :
    wpAny (model pw w) A (call (.ref 567) [.ref f, .ref g, .str sep ts]) Q E s := by
  obtain ⟨B, X, T, hh⟩ := C
  refine hf.elim2 ?_
  intro n01 ad1 hvf hlf
  refine hg.elim2 ?_
  intro n02 ad2 hvg hlg
  walk_at "m_go"
  have hmul : (lvs1.length : Int) * (lvs2.length : Int) ≤ 1000000 := by
    have a := Nat.mul_le_mul hy1 hy2
    have b : ((lvs1.length * lvs2.length : Nat) : Int) ≤ 100 := by omega
    rw [Int.natCast_mul] at b; omega
  have hl1 := hq1.length
  have hl2 := hq2.length
  have hsm := inter_small (a := lvs1.length) (b := lvs2.length) hn1 hn2 hs (by omega) (by omega) hy1 hy2
  refine compMap (fun i ys => IntsAre ys ((xs1.take i).map fun x => (x.length : Int))) .nil ?_ ?_
  · rintro i ys hi hR
    intro v I oI Cc oC D m₂ h₂ tk₂ E' hi' hC hx' F' N' off ne
    intros
    simp only [List.getElem?_toArray] at hi'
    refine letG ?_
    intro P9
    obtain ⟨z, hz1, tz, rfl⟩ := Paired.get hq1 hi'
    k_unfold
    try clear P9
    have hzl := hn1 z (List.mem_of_getElem? hz1)
    k_steps
    all_goals (rw [take_map_next hz1]; exact hR.append (.cons _ _ .nil))
  · rintro ys hR
    rw [List.size_toArray, hl1, List.take_length] at hR
    have hyl := hR.length
    k_steps
    refine compMap (fun i ys => IntsAre ys ((xs2.take i).map fun x => (x.length : Int))) .nil ?_ ?_
    · rintro i ys2 hi hR2
      intro v I oI Cc oC D m₂ h₂ tk₂ E' hi' hC hx' F' N' off ne
      intros
      simp only [List.getElem?_toArray] at hi'
      refine letG ?_
      intro P9
      obtain ⟨z, hz1, tz, rfl⟩ := Paired.get hq2 hi'
      k_unfold
      try clear P9
      have hzl := hn2 z (List.mem_of_getElem? hz1)
      k_steps
      all_goals (rw [take_map_next hz1]; exact hR2.append (.cons _ _ .nil))
    · rintro ys2 hR2
      rw [List.size_toArray, hl2, List.take_length] at hR2
      have hyl2 := hR2.length
      k_steps
      rename News _ _ _ _ => N1
      rename Fr _ _ _ _ => F1
      refine' Halt.of (forListN (vs := lvs2) [Str.ofString "left"] (fun i u nw => ∃ ns kq, nw = [(_, W.listOf (List.toArray ns) kq), (_, _), (_, _), (_, _), (_, _)] ∧ Paired IsS ns (interNames xs1 (xs2.take i) sep)) hh ?hl F1 N1 ⟨[], _, rfl, .nil⟩ ?_ ?_)
      case hl =>
        rintro i u nw hJ9
        refine letG ?_
        intro P9
        obtain ⟨ns, kq, rfl, _⟩ := hJ9
        k_unfold
        try clear P9
        k_mem
      · rintro i v u nw I oI h₂ tk₂ hi hJ9
        refine letG ?_
        intro P9
        obtain ⟨ns, kq, rfl, hns⟩ := hJ9
        k_unfold
        try clear P9
        rintro F2 N2 hne
        intros
        clear N1 F1
        refine letG ?_
        intro P9
        obtain ⟨r, hr1, tr, rfl⟩ := Paired.get hq2 hi
        k_unfold
        try clear P9
        have hrl := hn2 r (List.mem_of_getElem? hr1)
        have hilt : i < xs2.length := (List.getElem?_eq_some_iff.mp hr1).1
        k_steps
        rename News _ _ _ _ => N1
        rename Fr _ _ _ _ => F1
        refine' Halt.of (forListN (vs := lvs1) [] (fun k u nw => ∃ ns kq, nw = [(_, _), (_, W.listOf (List.toArray ns) kq), (_, _), (_, _), (_, _), (_, _)] ∧ Paired IsS ns (interNames xs1 (xs2.take i) sep ++ (xs1.take k).map fun l => l ++ sep ++ r)) hh ?hl F1 N1 ⟨_, _, rfl, ?_⟩ ?_ ?_)
        case hl =>
          rintro k u nw hJ9
          refine letG ?_
          intro P9
          obtain ⟨ns, kq, rfl, _⟩ := hJ9
          k_unfold
          try clear P9
          k_mem
        · simpa using hns
        · rintro k v u' nw I' oI' h₃ tk₃ hk hJ9
          refine letG ?_
          intro P9
          obtain ⟨ns', kq', rfl, hns'⟩ := hJ9
          k_unfold
          try clear P9
          rintro F3 N3 hne'
          intros
          clear N1 F1
          refine letG ?_
          intro P9
          obtain ⟨l, hl1, tl, rfl⟩ := Paired.get hq1 hk
          k_unfold
          try clear P9
          have hll := hn1 l (List.mem_of_getElem? hl1)
          have hklt : k < xs1.length := (List.getElem?_eq_some_iff.mp hl1).1
          have hnl : ns'.length ≤ 1000000 := by
            have a := hns'.length
            rw [List.length_append, List.length_map, List.length_take, interNames_len, List.length_take] at a
            have := Nat.mul_le_mul (show xs1.length ≤ 10 by omega) (show min i xs2.length ≤ 10 by omega)
            omega
          k_steps
          walk_at "m_tend"
          refine ⟨_, ⟨_, _, rfl, ?_⟩, by lcg_sub, by walk_at "m_off"⟩
          rw [take_map_next hl1, ← List.append_assoc]
          exact pairedSnoc ⟨_, rfl⟩ hns'
        · rintro u' nw h₃ tk₃ hJ9
          refine letG ?_
          intro P9
          obtain ⟨ns', kq', rfl, hns'⟩ := hJ9
          k_unfold
          try clear P9
          rintro F3 N3
          clear N1 F1
          have hxl : lvs1.length = xs1.length := by omega
          rw [hxl, List.take_length] at hns'
          k_steps
          walk_at "m_tend"
          refine ⟨_, ⟨_, _, rfl, ?_⟩, by lcg_sub, by walk_at "m_off"⟩
          rw [interNames_next hr1]
          exact hns'
      · rintro u nw h₂ tk₂ hJ9
        refine letG ?_
        intro P9
        obtain ⟨ns, kq, rfl, hns⟩ := hJ9
        k_unfold
        try clear P9
        rintro F2 N2
        clear N1 F1
        rw [hl2, List.take_length] at hns
        have hnsl : ns.length ≤ 1000000 := by
          have a := hns.length
          rw [interNames_len] at a
          have := Nat.mul_le_mul (show xs1.length ≤ 10 by omega) (show xs2.length ≤ 10 by omega)
          omega
        have st8 : StopIf := trivial
        have st9 : StopAt (Str.ofString "first") := trivial
        k_steps
        clear st8
        refine Halt.of ?_
        by_cases h10 : vs1.length = 0
        · skip
          k_steps
          clear st9
          refine Halt.of ?_
          rename News _ _ _ _ => N1
          rename Fr _ _ _ _ => F1
          refine' inter_9 (n := 0) B X T hh hd hu ?F N1 ?mn hf hg hq1 hq2 hp1 hp2 hz1 hz2 hy1 hy2 hns hnsl ?hnz ?hn ?hpos hret
          case F => exact frName (by with_unfolding_all rfl) (frName (by with_unfolding_all rfl) (frName (by with_unfolding_all rfl) (frName (by with_unfolding_all rfl) (frName (by with_unfolding_all rfl) F1))))
          case mn => k_mem
          case hnz => exact Nat.zero_le _
          case hn => unfold interLen; rw [if_pos (.inl h10)]
          case hpos => exact fun i hi => absurd hi (Nat.not_lt_zero _)
        · by_cases h20 : vs2.length = 0
          · skip
            k_steps
            clear st9
            refine Halt.of ?_
            rename News _ _ _ _ => N1
            rename Fr _ _ _ _ => F1
            refine' inter_9 (n := 0) B X T hh hd hu ?F N1 ?mn hf hg hq1 hq2 hp1 hp2 hz1 hz2 hy1 hy2 hns hnsl ?hnz ?hn ?hpos hret
            case F => exact frName (by with_unfolding_all rfl) (frName (by with_unfolding_all rfl) (frName (by with_unfolding_all rfl) (frName (by with_unfolding_all rfl) (frName (by with_unfolding_all rfl) F1))))
            case mn => k_mem
            case hnz => exact Nat.zero_le _
            case hn => unfold interLen; rw [if_pos (.inr h20)]
            case hpos => exact fun i hi => absurd hi (Nat.not_lt_zero _)
          · skip
            k_steps
            clear st9
            refine Halt.of ?_
            rename News _ _ _ _ => N1
            rename Fr _ _ _ _ => F1
            refine' inter_9 (n := max vs1.length vs2.length) B X T hh hd hu ?F N1 ?mn hf hg hq1 hq2 hp1 hp2 hz1 hz2 hy1 hy2 hns hnsl ?hnz ?hn ?hpos hret
            case F => exact frName (by with_unfolding_all rfl) (frName (by with_unfolding_all rfl) (frName (by with_unfolding_all rfl) (frName (by with_unfolding_all rfl) (frName (by with_unfolding_all rfl) F1))))
            case mn => k_mem
            case hnz => omega
            case hn => unfold interLen; rw [if_neg (by omega)]
            case hpos => exact fun _ _ => ⟨by omega, by omega⟩
end
section
variable {w : World} {A : Around} {base : Heap} {outer : List Env} {loose : List Str} {mean : ExcName → Option Value} {mg mb : Str → Option Value} {s : Shared} {E : Value → Shared → Prop} {Q : Value → Shared → Prop}
theorem interaction_r {f g l1 l2 : Addr} {vs1 vs2 lvs1 lvs2 : List Value} {cs1 cs2 : List (Option Int)} {xs1 xs2 : List Str} {sep : Str} {ts : Tok} (hf : FacAt w s.heap f l1 vs1 lvs1) (hg : FacAt w s.heap g l2 vs2 lvs2) (hq1 : Paired IsS lvs1 xs1) (hq2 : Paired IsS lvs2 xs2) (hp1 : Paired (IsCode lvs1.length) vs1 cs1) (hp2 : Paired (IsCode lvs2.length) vs2 cs2)
    (hz1 : vs1.length ≤ 10) (hz2 : vs2.length ≤ 10) (hy1 : lvs1.length ≤ 10) (hy2 : lvs2.length ≤ 10) (hn1 : ∀ x ∈ xs1, x.length ≤ 16000000) (hn2 : ∀ x ∈ xs2, x.length ≤ 16000000) (hs : sep.length ≤ 10) (hbig : 20000000 < (xs1.map fun x => (x.length : Int)).sum * (lvs2.length : Int) + (xs2.map fun x => (x.length : Int)).sum * (lvs1.length : Int) + (sep.length : Int) * ((lvs1.length : Int) * (lvs2.length : Int)))
    (C : Cx w A base outer loose mean mg mb s.heap) (hd : A.depth + 24 ≤ 700) (hu : A.units + 240 ≤ 8000)
    (hexc : ∀ e d k tv h' tk', RaisedM outer e d (msgO w k (.str (Str.ofString "the levels' texts are too long") tv)) s.heap h' → E (.ref e) { s with heap := h', toks := tk' }) :
    wpAny (model pw w) A (call (.ref 567) [.ref f, .ref g, .str sep ts]) Q E s := by
  obtain ⟨B, X, T, hh⟩ := C
  refine hf.elim2 ?_
  intro n01 ad1 hvf hlf
  refine hg.elim2 ?_
  intro n02 ad2 hvg hlg
  walk_at "m_goR"
  have hmul : (lvs1.length : Int) * (lvs2.length : Int) ≤ 1000000 := by
    have a := Nat.mul_le_mul hy1 hy2
    have b : ((lvs1.length * lvs2.length : Nat) : Int) ≤ 100 := by omega
    rw [Int.natCast_mul] at b; omega
  have hl1 := hq1.length
  have hl2 := hq2.length
  refine compMap (fun i ys => IntsAre ys ((xs1.take i).map fun x => (x.length : Int))) .nil ?_ ?_
  · rintro i ys hi hR
    intro v I oI Cc oC D m₂ h₂ tk₂ E' hi' hC hx' F' N' off ne
    intros
    simp only [List.getElem?_toArray] at hi'
    refine letG ?_
    intro P9
    obtain ⟨z, hz1, tz, rfl⟩ := Paired.get hq1 hi'
    k_unfold
    try clear P9
    have hzl := hn1 z (List.mem_of_getElem? hz1)
    k_steps
    all_goals (rw [take_map_next hz1]; exact hR.append (.cons _ _ .nil))
  · rintro ys hR
    rw [List.size_toArray, hl1, List.take_length] at hR
    have hyl := hR.length
    k_steps
    refine compMap (fun i ys => IntsAre ys ((xs2.take i).map fun x => (x.length : Int))) .nil ?_ ?_
    · rintro i ys2 hi hR2
      intro v I oI Cc oC D m₂ h₂ tk₂ E' hi' hC hx' F' N' off ne
      intros
      simp only [List.getElem?_toArray] at hi'
      refine letG ?_
      intro P9
      obtain ⟨z, hz1, tz, rfl⟩ := Paired.get hq2 hi'
      k_unfold
      try clear P9
      have hzl := hn2 z (List.mem_of_getElem? hz1)
      k_steps
      all_goals (rw [take_map_next hz1]; exact hR2.append (.cons _ _ .nil))
    · rintro ys2 hR2
      rw [List.size_toArray, hl2, List.take_length] at hR2
      have hyl2 := hR2.length
      k_steps
      all_goals exact hexc _ _ _ _ _ _ (by assumption)
end
theorem extendL {w : World} {A : Around} {E : Value → Shared → Prop} {s : Shared} {h₀ : Heap} {L D b : Addr} {m : Str → Option Value} {news news' : List (Addr × Obj)} {vs ws : List Value} {n n2 : Nat} {Q : Value → Shared → Prop} (F : Fr h₀ L s.heap m) (N : News h₀ L s.heap news) (hb : (b, W.listOf ws.toArray n2) ∈ news)
    (U : Upd D (W.listOf vs.toArray n) (W.listOf (vs ++ ws).toArray (if ws.length = 0 then n else n + 1)) news news') (hz : vs.length + ws.length ≤ 1000000)
    (h : ∀ h', Fr h₀ L h' m → News h₀ L h' news' → Q .none { s with heap := h' }) : wpAny (model pw w) A (call (.builtin "list.extend") [.ref D, .ref b]) Q E s := by
  have hd : ¬(!vs.toArray.isEmpty && Builtin.List.listTooLong (vs.toArray.size + ws.toArray.size)) = true := by
    unfold Builtin.List.listTooLong
    simp only [List.size_toArray, sizeLine_eq, Bool.and_eq_true, decide_eq_true_eq, not_and]
    omega
  by_cases e : ws.length = 0
  · obtain rfl : ws = [] := List.eq_nil_of_length_eq_zero e
    simp only [List.length_nil, if_true, List.append_nil] at U
    exact kxn_extend F N hb rfl U hd (by simp [sizeLine_eq]; omega) (by simp [sizeLine_eq]; omega) h
  · rw [if_neg e] at U
    exact kl_extend (l := vs ++ ws) F N hb (by simp) (by simpa using e) U hd (by simp [sizeLine_eq]; omega) (by simp [sizeLine_eq]; omega) h
theorem row44 : True := by
  (k_with "call builtin:list.extend" => (k_here; (with_reducible show wpAny _ _ (call (Value.builtin _) [Value.ref _, Value.ref _]) _ _ _); k_dflt (refine' extendL ?F_r138 ?N_r138 ?b_r138 ?U_r138 ?z_r138 ?_; (case F_r138 => k_asm); (case N_r138 => k_asm); (case b_r138 => k_mem); (case U_r138 => k_upd); (case z_r138 => walk_at "m_add"); k_whole); intro h'ρ F'ρ N'ρ; (try dsimp only at N'ρ)))
  (k_with "call ref" => (k_here; (with_reducible show wpAny _ _ (call (Value.ref 502) _) _ _ _); k_dflt (refine' factor_texts_c ?f_r139 ?q_r139 ?p_r139 ?z_r139 ?y_r139 ?C_r139 ?d_r139 ?u_r139 ?_; (case f_r139 => walk_at "m_fac"); (case q_r139 => assumption); (case p_r139 => walk_at "m_pair"); (case z_r139 => walk_at "m_num"); (case y_r139 => walk_at "m_num"); (case C_r139 => walk_at "m_cx"); (case d_r139 => walk_at "m_dep"); (case u_r139 => walk_at "m_dep"); k_whole); intro a'ρ n'ρ ys'ρ; walk_at "m_backL"; intro hp'ρ; (have hl9ρ := Paired.length hp'ρ); (rw [List.length_map] at hl9ρ)))
  trivial
/-- a factor handed to combine_factors -/
structure Part where
  x : Addr
  l : Addr
  vs : List Value
  lvs : List Value
  cs : List (Option Int)
  xs : List Str
structure PartAt (w : World) (h : Heap) (k : Nat) (p : Part) : Prop where
  fac : FacAt w h p.x p.l p.vs p.lvs
  lev : Paired IsS p.lvs p.xs
  cod : Paired (IsCode p.lvs.length) p.vs p.cs
  few : p.lvs.length ≤ 10
  most : p.vs.length ≤ k
noncomputable def combTexts (ps : List Part) : List Str := ps.flatMap (·.xs)
noncomputable def combNames (ps : List Part) : List Str := distinctT ((combTexts ps).map some)
noncomputable def combAt (ns : List Str) (p : Part) : List (Option Int) := (p.cs.map (codeText p.xs)).map (·.bind (codeOf ns))
noncomputable def combCodes (ps : List Part) : List (Option Int) := ps.flatMap (combAt (combNames ps))
theorem combTexts_next {ps : List Part} {p : Part} {i : Nat} (h : ps[i]? = some p) : combTexts (ps.take (i + 1)) = combTexts (ps.take i) ++ p.xs := by
  unfold combTexts
  rw [take_next h, List.flatMap_append]
  simp
theorem flat_next {α β : Type} {ps : List α} {p : α} {i : Nat} (f : α → List β) (h : ps[i]? = some p) : (ps.take (i + 1)).flatMap f = (ps.take i).flatMap f ++ f p := by
  rw [take_next h, List.flatMap_append]
  simp
theorem someS {vs : List Value} {xs : List Str} (p : Paired IsS vs xs) : Paired IsOS vs (xs.map some) := osOfS p
theorem tot_le {w : World} {h : Heap} {k : Nat} : ∀ {ps : List Part}, (∀ p ∈ ps, PartAt w h k p) → (ps.map fun p => (p.vs.length : Int)).sum ≤ k * ps.length
  | [], _ => by simp
  | p :: ps, hp => by
    have a := tot_le (ps := ps) fun q hq => hp q (.tail _ hq)
    have b := (hp p (.head _)).most
    simp only [List.map_cons, List.sum_cons, List.length_cons, Int.natCast_add, Int.mul_add]
    omega
section
variable {w : World} {A : Around} {base : Heap} {outer : List Env} {loose : List Str} {mean : ExcName → Option Value} {mg mb : Str → Option Value} {s : Shared} {E : Value → Shared → Prop} {Q : Value → Shared → Prop}
theorem combine_c {pl : Addr} {ps : List Part} {n : Nat} (hpl : s.heap.get? pl = some (W.listOf (ps.map fun p => Value.ref p.x).toArray n)) (hps : ∀ p ∈ ps, PartAt w s.heap 10 p) (h1 : 1 ≤ ps.length) (h2 : ps.length ≤ 10)
    (C : Cx w A base outer loose mean mg mb s.heap) (hd : A.depth + 24 ≤ 700) (hu : A.units + 240 ≤ 8000)
    (hret : ∀ x' l' lt ct us ns h' tk', Kept s.heap h' → FacFresh w s.heap h' x' l' lt ct us ns → Paired IsOI us (combCodes ps) → Paired IsS ns (combNames ps) → Q (.ref x') { s with heap := h', toks := tk' }) :
    wpAny (model pw w) A (call (.ref 579) [.ref pl]) Q E s := by
  obtain ⟨B, X, T, hh⟩ := C
  walk_at "m_goC"
  rename News _ _ _ _ => N1
  rename Fr _ _ _ _ => F1
  refine Halt.of (forListL [] (fun i u nw => ∃ ns kq, nw = [(_, W.listOf (List.toArray ns) kq), (_, _)] ∧ Paired IsS ns (combTexts (ps.take i)) ∧ ns.length ≤ 10 * i) hh (isListAt hpl) F1 N1 ⟨[], _, rfl, .nil, Nat.zero_le _⟩ ?_ ?_)
  · rintro i v u nw I oI h₂ tk₂ hi hJ9
    refine letG ?_
    intro P9
    obtain ⟨ns, kq, rfl, hns, hnl⟩ := hJ9
    k_unfold
    try clear P9
    rintro F2 N2 hne
    intros
    clear N1 F1
    rw [List.getElem?_map] at hi
    refine letG ?_
    intro P9
    obtain ⟨p, hp, rfl⟩ := Option.map_eq_some_iff.mp hi
    k_unfold
    try clear P9
    have hil : i < ps.length := (List.getElem?_eq_some_iff.mp hp).1
    refine letG ?_
    intro P9
    obtain ⟨hfac, hlev, hcod, hfew, hmost⟩ := hps p (List.mem_of_getElem? hp)
    k_unfold
    try clear P9
    k_steps
    walk_at "m_tend"
    refine ⟨_, ⟨_, _, rfl, ?_, ?_⟩, by lcg_sub, by walk_at "m_off"⟩
    · rw [combTexts_next hp]; exact pairedApp hlev hns
    · rw [List.length_append]; omega
  · rintro u nw h₂ tk₂ hJ9
    refine letG ?_
    intro P9
    obtain ⟨ns, kq, rfl, hns, hnl⟩ := hJ9
    k_unfold
    try clear P9
    rintro F2 N2
    clear N1 F1
    rw [List.length_map] at hns hnl
    rw [List.take_length] at hns
    have hnsO := someS hns
    have hnl2 : ns.length ≤ 1000 := by omega
    k_steps
    refine compMap (fun i ys => IntsAre ys ((ps.take i).map fun p => (p.vs.length : Int))) .nil ?_ ?_
    · rintro i ys hi hR
      intro v I oI Cc oC D m₂ h₂ tk₂ E' hi' hC hx' F' N' off ne
      intros
      simp only [List.getElem?_toArray] at hi'
      rw [List.getElem?_map] at hi'
      refine letG ?_
      intro P9
      obtain ⟨p, hp, rfl⟩ := Option.map_eq_some_iff.mp hi'
      k_unfold
      try clear P9
      refine letG ?_
      intro P9
      obtain ⟨hfac, hlev, hcod, hfew, hmost⟩ := hps p (List.mem_of_getElem? hp)
      k_unfold
      try clear P9
      refine hfac.elim2 ?_
      intro n01 ad1 hvf hlf
      k_steps
      all_goals (rw [take_map_next hp]; exact hR.append (.cons _ _ .nil))
    · rintro ys hR
      rw [List.size_toArray, List.length_map, List.take_length] at hR
      have hyl := hR.length
      have htot := tot_le hps
      k_steps
      rename Paired IsS _ (distinctT (List.map some (combTexts ps))) => hds
      have hdn := distinctT_nodup (List.map some (combTexts ps))
      rename _ ≤ ns.length => hdl
      rename News _ _ _ _ => N1
      rename Fr _ _ _ _ => F1
      refine Halt.of (forListL [] (fun i u nw => ∃ cv kq, nw = [(_, W.listOf (List.toArray cv) kq), (_, _), (_, _), (_, _), (_, _)] ∧ Paired IsOI cv ((ps.take i).flatMap (combAt (combNames ps))) ∧ cv.length ≤ 10 * i) hh (isListAt hpl) F1 N1 ⟨[], _, rfl, .nil, Nat.zero_le _⟩ ?_ ?_)
      · rintro i v u nw I oI h₂ tk₂ hi hJ9
        refine letG ?_
        intro P9
        obtain ⟨cv, kq, rfl, hcv, hcl⟩ := hJ9
        k_unfold
        try clear P9
        rintro F2 N2 hne
        intros
        clear N1 F1
        rw [List.getElem?_map] at hi
        refine letG ?_
        intro P9
        obtain ⟨p, hp, rfl⟩ := Option.map_eq_some_iff.mp hi
        k_unfold
        try clear P9
        have hil : i < ps.length := (List.getElem?_eq_some_iff.mp hp).1
        refine letG ?_
        intro P9
        obtain ⟨hfac, hlev, hcod, hfew, hmost⟩ := hps p (List.mem_of_getElem? hp)
        k_unfold
        try clear P9
        have hcsl := hcod.length
        have hcv1 : cv.length ≤ 1000 := by omega
        k_steps
        walk_at "m_tend"
        refine ⟨_, ⟨_, _, rfl, ?_, ?_⟩, by lcg_sub, by walk_at "m_off"⟩
        · rw [flat_next _ hp]; exact pairedApp (by assumption) hcv
        · rw [List.length_append]; omega
      · rintro u nw h₂ tk₂ hJ9
        refine letG ?_
        intro P9
        obtain ⟨cv, kq, rfl, hcv, hcl⟩ := hJ9
        k_unfold
        try clear P9
        rintro F2 N2
        clear N1 F1
        rw [List.length_map] at hcv hcl
        rw [List.take_length] at hcv
        have hcl2 : cv.length ≤ 1000 := by omega
        have hlm : 0 < ((ps.map fun p => Value.ref p.x).length : Int) := by rw [List.length_map]; omega
        obtain ⟨p0, hp0⟩ : ∃ p, ps[(0 : Int).toNat]? = some p := ⟨_, List.getElem?_eq_getElem (by show 0 < _; omega)⟩
        have hv0 : (ps.map fun p => Value.ref p.x)[(0 : Int).toNat]? = some (.ref p0.x) := by rw [List.getElem?_map, hp0]; rfl
        refine letG ?_
        intro P9
        obtain ⟨hfac0, hlev0, hcod0, hfew0, hmost0⟩ := hps p0 (List.mem_of_getElem? hp0)
        k_unfold
        try clear P9
        k_steps
        refine compIf (fun i ys => ys = []) rfl ?_ ?_
        · rintro i ys hi rfl
          intro v I oI Cc oC D m₂ h₂ tk₂ E' hi' hC hx' F' N' off ne
          intros
          simp only [List.getElem?_toArray] at hi'
          rw [List.getElem?_map] at hi'
          refine letG ?_
          intro P9
          obtain ⟨p, hp, rfl⟩ := Option.map_eq_some_iff.mp hi'
          k_unfold
          try clear P9
          refine letG ?_
          intro P9
          obtain ⟨hfac, hlev, hcod, hfew, hmost⟩ := hps p (List.mem_of_getElem? hp)
          k_unfold
          try clear P9
          k_steps
          all_goals rfl
        · rintro ys rfl
          have hee : ((([] : List Value).length : Int) == ((ps.map fun p => Value.ref p.x).length : Int)) = false := by
            rw [List.length_map]; exact beq_eq_false_iff_ne.mpr (by simp only [List.length_nil]; omega)
          have hdsl : _ ≤ 1000000 := Nat.le_trans hdl (by omega : ns.length ≤ 1000000)
          have hfin : Paired IsOI cv (combCodes ps) := hcv
          k_steps
          rename FacFresh _ _ _ _ _ _ _ _ _ => ff9
          rename Kept _ _ => kp9
          refine' hret _ _ _ _ _ _ _ _ kp9 ff9 ?hr ?hn
          (case hr => exact hfin)
          (case hn => exact hds)
end
section
variable {w : World} {A : Around} {base : Heap} {outer : List Env} {loose : List Str} {mean : ExcName → Option Value} {mg mb : Str → Option Value} {s : Shared} {E : Value → Shared → Prop} {Q : Value → Shared → Prop}
theorem combine_r {pl : Addr} {ps : List Part} {n : Nat} (hpl : s.heap.get? pl = some (W.listOf (ps.map fun p => Value.ref p.x).toArray n)) (hps : ∀ p ∈ ps, PartAt w s.heap 1000000 p) (h1 : 1 ≤ ps.length) (h2 : ps.length ≤ 10) (hbig : 1000000 < (ps.map fun p => (p.vs.length : Int)).sum)
    (C : Cx w A base outer loose mean mg mb s.heap) (hd : A.depth + 24 ≤ 700) (hu : A.units + 240 ≤ 8000)
    (hexc : ∀ e d k tv h' tk', RaisedM outer e d (msgO w k (.str (Str.ofString "cannot allocate vector of length " ++ Str.ofString (toString (ps.map fun p => (p.vs.length : Int)).sum)) tv)) s.heap h' → E (.ref e) { s with heap := h', toks := tk' }) :
    wpAny (model pw w) A (call (.ref 579) [.ref pl]) Q E s := by
  obtain ⟨B, X, T, hh⟩ := C
  walk_at "m_goCR"
  rename News _ _ _ _ => N1
  rename Fr _ _ _ _ => F1
  refine Halt.of (forListL [] (fun i u nw => ∃ ns kq, nw = [(_, W.listOf (List.toArray ns) kq), (_, _)] ∧ Paired IsS ns (combTexts (ps.take i)) ∧ ns.length ≤ 10 * i) hh (isListAt hpl) F1 N1 ⟨[], _, rfl, .nil, Nat.zero_le _⟩ ?_ ?_)
  · rintro i v u nw I oI h₂ tk₂ hi hJ9
    refine letG ?_
    intro P9
    obtain ⟨ns, kq, rfl, hns, hnl⟩ := hJ9
    k_unfold
    try clear P9
    rintro F2 N2 hne
    intros
    clear N1 F1
    rw [List.getElem?_map] at hi
    refine letG ?_
    intro P9
    obtain ⟨p, hp, rfl⟩ := Option.map_eq_some_iff.mp hi
    k_unfold
    try clear P9
    have hil : i < ps.length := (List.getElem?_eq_some_iff.mp hp).1
    refine letG ?_
    intro P9
    obtain ⟨hfac, hlev, hcod, hfew, hmost⟩ := hps p (List.mem_of_getElem? hp)
    k_unfold
    try clear P9
    k_steps
    walk_at "m_tend"
    refine ⟨_, ⟨_, _, rfl, ?_, ?_⟩, by lcg_sub, by walk_at "m_off"⟩
    · rw [combTexts_next hp]; exact pairedApp hlev hns
    · rw [List.length_append]; omega
  · rintro u nw h₂ tk₂ hJ9
    refine letG ?_
    intro P9
    obtain ⟨ns, kq, rfl, hns, hnl⟩ := hJ9
    k_unfold
    try clear P9
    rintro F2 N2
    clear N1 F1
    rw [List.length_map] at hns hnl
    rw [List.take_length] at hns
    have hnsO := someS hns
    have hnl2 : ns.length ≤ 1000 := by omega
    k_steps
    refine compMap (fun i ys => IntsAre ys ((ps.take i).map fun p => (p.vs.length : Int))) .nil ?_ ?_
    · rintro i ys hi hR
      intro v I oI Cc oC D m₂ h₂ tk₂ E' hi' hC hx' F' N' off ne
      intros
      simp only [List.getElem?_toArray] at hi'
      rw [List.getElem?_map] at hi'
      refine letG ?_
      intro P9
      obtain ⟨p, hp, rfl⟩ := Option.map_eq_some_iff.mp hi'
      k_unfold
      try clear P9
      refine letG ?_
      intro P9
      obtain ⟨hfac, hlev, hcod, hfew, hmost⟩ := hps p (List.mem_of_getElem? hp)
      k_unfold
      try clear P9
      refine hfac.elim2 ?_
      intro n01 ad1 hvf hlf
      k_steps
      all_goals (rw [take_map_next hp]; exact hR.append (.cons _ _ .nil))
    · rintro ys hR
      rw [List.size_toArray, List.length_map, List.take_length] at hR
      have hyl := hR.length
      have htot := tot_le hps
      have htot2 : (ps.map fun p => (p.vs.length : Int)).sum < 1000000000000000000 := by omega
      k_steps
      all_goals exact hexc _ _ _ _ _ _ (by assumption)
end
theorem row45 : True := by
  (k_with "call ref" => (k_here; (with_reducible show wpAny _ _ (call (Value.ref 567) _) _ _ _); k_dflt (refine' interaction_c ?f_r140 ?g_r140 ?q1_r140 ?q2_r140 ?p1_r140 ?p2_r140 ?z1_r140 ?z2_r140 ?y1_r140 ?y2_r140 ?n1_r140 ?n2_r140 ?s_r140 ?C_r140 ?d_r140 ?u_r140 ?_; (case f_r140 => walk_at "m_fac"); (case g_r140 => walk_at "m_fac"); (case q1_r140 => assumption); (case q2_r140 => assumption); (case p1_r140 => assumption); (case p2_r140 => assumption); (case z1_r140 => walk_at "m_num"); (case z2_r140 => walk_at "m_num"); (case y1_r140 => walk_at "m_num"); (case y2_r140 => walk_at "m_num"); (case n1_r140 => assumption); (case n2_r140 => assumption); (case s_r140 => walk_at "m_num"); (case C_r140 => walk_at "m_cx"); (case d_r140 => walk_at "m_dep"); (case u_r140 => walk_at "m_dep"); k_whole); intro x'ρ l'ρ lt'ρ ct'ρ us'ρ ns'ρ h'ρ tk'ρ kp'ρ ff'ρ; (with_reducible rename Fr _ _ _ _ => mFρ); (with_reducible rename News _ _ _ _ => mNρ); (refine FacFresh.back mFρ mNρ kp'ρ ff'ρ ?_); intro dx0'ρ dx1'ρ dx2'ρ dx3'ρ dx4'ρ dx5'ρ dx6'ρ n0'ρ n1'ρ n2'ρ n3'ρ n4'ρ n5'ρ n6'ρ n7'ρ n8'ρ n9'ρ n10'ρ n11'ρ n12'ρ n13'ρ n14'ρ n15'ρ n16'ρ n17'ρ n18'ρ n19'ρ n20'ρ n21'ρ n22'ρ n23'ρ n24'ρ F'ρ N'ρ ne'ρ hD'ρ lo'ρ; (try clear mNρ); (try clear mFρ); (try clear kp'ρ); (try clear ff'ρ); (try dsimp only [vecEs] at N'ρ); intro hc'ρ hn'ρ))
  (k_with "call ref" => (k_here; (with_reducible show wpAny _ _ (call (Value.ref 567) _) _ _ _); k_dflt (refine' interaction_r ?f_r141 ?g_r141 ?q1_r141 ?q2_r141 ?p1_r141 ?p2_r141 ?z1_r141 ?z2_r141 ?y1_r141 ?y2_r141 ?n1_r141 ?n2_r141 ?s_r141 ?b_r141 ?C_r141 ?d_r141 ?u_r141 ?_; (case f_r141 => walk_at "m_fac"); (case g_r141 => walk_at "m_fac"); (case q1_r141 => assumption); (case q2_r141 => assumption); (case p1_r141 => assumption); (case p2_r141 => assumption); (case z1_r141 => walk_at "m_num"); (case z2_r141 => walk_at "m_num"); (case y1_r141 => walk_at "m_num"); (case y2_r141 => walk_at "m_num"); (case n1_r141 => assumption); (case n2_r141 => assumption); (case s_r141 => walk_at "m_num"); (case b_r141 => assumption); (case C_r141 => walk_at "m_cx"); (case d_r141 => walk_at "m_dep"); (case u_r141 => walk_at "m_dep"); k_whole); walk_at "m_exc"))
  trivial
section
variable {w : World} {A : Around} {base : Heap} {outer : List Env} {loose : List Str} {mean : ExcName → Option Value} {mg mb : Str → Option Value} {s : Shared} {E : Value → Shared → Prop} {Q : Value → Shared → Prop}
theorem told_inter {al f g l1 l2 : Addr} {vs1 vs2 lvs1 lvs2 : List Value} {cs1 cs2 : List (Option Int)} {xs1 xs2 : List Str} {sep : Str} {ts : Tok} {nal : Nat} (hal : s.heap.get? al = some (W.listOf [Value.ref f, Value.ref g, Value.str sep ts].toArray nal)) (hf : FacAt w s.heap f l1 vs1 lvs1) (hg : FacAt w s.heap g l2 vs2 lvs2) (hq1 : Paired IsS lvs1 xs1) (hq2 : Paired IsS lvs2 xs2) (hp1 : Paired (IsCode lvs1.length) vs1 cs1) (hp2 : Paired (IsCode lvs2.length) vs2 cs2)
    (hz1 : vs1.length ≤ 10) (hz2 : vs2.length ≤ 10) (hy1 : lvs1.length ≤ 10) (hy2 : lvs2.length ≤ 10) (hn1 : ∀ x ∈ xs1, x.length ≤ 10) (hn2 : ∀ x ∈ xs2, x.length ≤ 10) (hs : sep.length ≤ 10)
    (C : Cx w A base outer loose mean mg mb s.heap) (hd : A.depth + 27 ≤ 700) (hu : A.units + 270 ≤ 8000)
    (hret : ∀ a l' lt ct us ns n0 n1 n2 t h' tk', Kept s.heap h' → (∀ p ∈ toldNews a l' lt ct us ns n0 n1 n2 t, Fresh s.heap h' p.1 p.2) → Paired IsOI us (interCodes cs1 cs2 lvs1.length) → Paired IsS ns (interNames xs1 xs2 sep) → Q (.ref a) { s with heap := h', toks := tk' }) :
    wpAny (model pw w) A (call (.ref 647) [.ref 567, .ref al]) Q E s := by
  obtain ⟨B, X, T, hh⟩ := C
  have i0 : [Value.ref f, Value.ref g, Value.str sep ts][(0 : Int).toNat]? = some (Value.ref f) := rfl
  have i1 : [Value.ref f, Value.ref g, Value.str sep ts][(1 : Int).toNat]? = some (Value.ref g) := rfl
  have i2 : [Value.ref f, Value.ref g, Value.str sep ts][(2 : Int).toNat]? = some (Value.str sep ts) := rfl
  have e1 : ((([Value.ref f, Value.ref g, Value.str sep ts].length : Nat) : Int) == 1) = false := rfl
  have e3 : ((([Value.ref f, Value.ref g, Value.str sep ts].length : Nat) : Int) == 3) = true := rfl
  have e4 : ((([Value.ref f, Value.ref g, Value.str sep ts].length : Nat) : Int) == 4) = false := rfl
  have i9 : [Value.ref f, Value.ref g, Value.str sep ts].length ≤ 1000000 := by simp
  walk_at "m_go"
  all_goals (refine' hret _ _ _ _ _ _ _ _ _ _ _ _ (Fr.keep (by assumption)) (freshAll (by assumption) (subCons (by k_mem) (subCons (by k_mem) (subCons (by k_mem) (subCons (by k_mem) (fun _ h => nomatch h)))))) ?_ ?_ <;> assumption)
end
section
variable {w : World} {A : Around} {base : Heap} {outer : List Env} {loose : List Str} {mean : ExcName → Option Value} {mg mb : Str → Option Value} {s : Shared} {E : Value → Shared → Prop} {Q : Value → Shared → Prop}
theorem told_inter_r {al f g l1 l2 : Addr} {vs1 vs2 lvs1 lvs2 : List Value} {cs1 cs2 : List (Option Int)} {xs1 xs2 : List Str} {sep : Str} {ts : Tok} {nal : Nat} (hal : s.heap.get? al = some (W.listOf [Value.ref f, Value.ref g, Value.str sep ts].toArray nal)) (hf : FacAt w s.heap f l1 vs1 lvs1) (hg : FacAt w s.heap g l2 vs2 lvs2) (hq1 : Paired IsS lvs1 xs1) (hq2 : Paired IsS lvs2 xs2) (hp1 : Paired (IsCode lvs1.length) vs1 cs1) (hp2 : Paired (IsCode lvs2.length) vs2 cs2)
    (hz1 : vs1.length ≤ 10) (hz2 : vs2.length ≤ 10) (hy1 : lvs1.length ≤ 10) (hy2 : lvs2.length ≤ 10) (hn1 : ∀ x ∈ xs1, x.length ≤ 16000000) (hn2 : ∀ x ∈ xs2, x.length ≤ 16000000) (hs : sep.length ≤ 10) (hbig : 20000000 < (xs1.map fun x => (x.length : Int)).sum * (lvs2.length : Int) + (xs2.map fun x => (x.length : Int)).sum * (lvs1.length : Int) + (sep.length : Int) * ((lvs1.length : Int) * (lvs2.length : Int)))
    (C : Cx w A base outer loose mean mg mb s.heap) (X0 : (K w.params).In base) (T0 : Top q loose mean mg mb base) (hd : A.depth + 27 ≤ 700) (hu : A.units + 270 ≤ 8000)
    (hret : ∀ h' tk' tv, KeptX outer s.heap h' → Upto s.heap h' → Q (.str (Str.ofString "the levels' texts are too long") tv) { s with heap := h', toks := tk' }) :
    wpAny (model pw w) A (call (.ref 647) [.ref 567, .ref al]) Q E s := by
  obtain ⟨B, X, T, hh⟩ := C
  have i0 : [Value.ref f, Value.ref g, Value.str sep ts][(0 : Int).toNat]? = some (Value.ref f) := rfl
  have i1 : [Value.ref f, Value.ref g, Value.str sep ts][(1 : Int).toNat]? = some (Value.ref g) := rfl
  have i2 : [Value.ref f, Value.ref g, Value.str sep ts][(2 : Int).toNat]? = some (Value.str sep ts) := rfl
  have e1 : ((([Value.ref f, Value.ref g, Value.str sep ts].length : Nat) : Int) == 1) = false := rfl
  have e3 : ((([Value.ref f, Value.ref g, Value.str sep ts].length : Nat) : Int) == 3) = true := rfl
  have e4 : ((([Value.ref f, Value.ref g, Value.str sep ts].length : Nat) : Int) == 4) = false := rfl
  have i9 : [Value.ref f, Value.ref g, Value.str sep ts].length ≤ 1000000 := by simp
  walk_at "m_go"
  rename KeptX _ _ _ => kx1
  rename Upto _ _ => ux1
  obtain ⟨z1, z2⟩ := keptEnd (by assumption) kx1 ux1
  exact hret _ _ _ z1 z2
end
theorem partsKeep {w : World} {h h' : Heap} {k : Nat} {ps : List Part} (a : ∀ p ∈ ps, PartAt w h k p) (kp : Kept h h') : ∀ p ∈ ps, PartAt w h' k p := fun p hp =>
  let ⟨a1, a2, a3, a4, a5⟩ := a p hp
  ⟨a1.keeps kp, a2, a3, a4, a5⟩
theorem row46 : True := by
  (k_with "call ref" => (k_here; (with_reducible show wpAny _ _ (call (Value.ref 579) _) _ _ _); k_dflt (refine' combine_c ?l_r142 ?p_r142 ?h1_r142 ?h2_r142 ?C_r142 ?d_r142 ?u_r142 ?_; (case l_r142 => walk_at "m_get"); (case p_r142 => first | assumption | exact partsKeep (by assumption) (Fr.keep (by assumption))); (case h1_r142 => walk_at "m_num"); (case h2_r142 => walk_at "m_num"); (case C_r142 => walk_at "m_cx"); (case d_r142 => walk_at "m_dep"); (case u_r142 => walk_at "m_dep"); k_whole); intro x'ρ l'ρ lt'ρ ct'ρ us'ρ ns'ρ h'ρ tk'ρ kp'ρ ff'ρ; (with_reducible rename Fr _ _ _ _ => mFρ); (with_reducible rename News _ _ _ _ => mNρ); (refine FacFresh.back mFρ mNρ kp'ρ ff'ρ ?_); intro dx0'ρ dx1'ρ dx2'ρ dx3'ρ dx4'ρ dx5'ρ dx6'ρ n0'ρ n1'ρ n2'ρ n3'ρ n4'ρ n5'ρ n6'ρ n7'ρ n8'ρ n9'ρ n10'ρ n11'ρ n12'ρ n13'ρ n14'ρ n15'ρ n16'ρ n17'ρ n18'ρ n19'ρ n20'ρ n21'ρ n22'ρ n23'ρ n24'ρ F'ρ N'ρ ne'ρ hD'ρ lo'ρ; (try clear mNρ); (try clear mFρ); (try clear kp'ρ); (try clear ff'ρ); (try dsimp only [vecEs] at N'ρ); intro hc'ρ hn'ρ))
  (k_with "call ref" => (k_here; (with_reducible show wpAny _ _ (call (Value.ref 579) _) _ _ _); k_dflt (refine' combine_r ?l_r143 ?p_r143 ?h1_r143 ?h2_r143 ?b_r143 ?C_r143 ?d_r143 ?u_r143 ?_; (case l_r143 => walk_at "m_get"); (case p_r143 => first | assumption | exact partsKeep (by assumption) (Fr.keep (by assumption))); (case h1_r143 => walk_at "m_num"); (case h2_r143 => walk_at "m_num"); (case b_r143 => assumption); (case C_r143 => walk_at "m_cx"); (case d_r143 => walk_at "m_dep"); (case u_r143 => walk_at "m_dep"); k_whole); walk_at "m_exc"))
  trivial
section
variable {w : World} {A : Around} {base : Heap} {outer : List Env} {loose : List Str} {mean : ExcName → Option Value} {mg mb : Str → Option Value} {s : Shared} {E : Value → Shared → Prop} {Q : Value → Shared → Prop}
theorem told_comb {al pl : Addr} {ps : List Part} {n : Nat} {nal : Nat} (hal : s.heap.get? al = some (W.listOf [Value.ref pl].toArray nal)) (hpl : s.heap.get? pl = some (W.listOf (ps.map fun p => Value.ref p.x).toArray n)) (hps : ∀ p ∈ ps, PartAt w s.heap 10 p) (h1 : 1 ≤ ps.length) (h2 : ps.length ≤ 10)
    (C : Cx w A base outer loose mean mg mb s.heap) (hd : A.depth + 27 ≤ 700) (hu : A.units + 270 ≤ 8000)
    (hret : ∀ a l' lt ct us ns n0 n1 n2 t h' tk', Kept s.heap h' → (∀ p ∈ toldNews a l' lt ct us ns n0 n1 n2 t, Fresh s.heap h' p.1 p.2) → Paired IsOI us (combCodes ps) → Paired IsS ns (combNames ps) → Q (.ref a) { s with heap := h', toks := tk' }) :
    wpAny (model pw w) A (call (.ref 647) [.ref 579, .ref al]) Q E s := by
  obtain ⟨B, X, T, hh⟩ := C
  have i0 : [Value.ref pl][(0 : Int).toNat]? = some (Value.ref pl) := rfl
  have e1 : ((([Value.ref pl].length : Nat) : Int) == 1) = true := rfl
  have e3 : ((([Value.ref pl].length : Nat) : Int) == 3) = false := rfl
  have e4 : ((([Value.ref pl].length : Nat) : Int) == 4) = false := rfl
  have i9 : [Value.ref pl].length ≤ 1000000 := by simp
  walk_at "m_go"
  all_goals (refine' hret _ _ _ _ _ _ _ _ _ _ _ _ (Fr.keep (by assumption)) (freshAll (by assumption) (subCons (by k_mem) (subCons (by k_mem) (subCons (by k_mem) (subCons (by k_mem) (fun _ h => nomatch h)))))) ?_ ?_ <;> assumption)
end
section
variable {w : World} {A : Around} {base : Heap} {outer : List Env} {loose : List Str} {mean : ExcName → Option Value} {mg mb : Str → Option Value} {s : Shared} {E : Value → Shared → Prop} {Q : Value → Shared → Prop}
theorem told_comb_r {al pl : Addr} {ps : List Part} {n : Nat} {nal : Nat} (hal : s.heap.get? al = some (W.listOf [Value.ref pl].toArray nal)) (hpl : s.heap.get? pl = some (W.listOf (ps.map fun p => Value.ref p.x).toArray n)) (hps : ∀ p ∈ ps, PartAt w s.heap 1000000 p) (h1 : 1 ≤ ps.length) (h2 : ps.length ≤ 10) (hbig : 1000000 < (ps.map fun p => (p.vs.length : Int)).sum)
    (C : Cx w A base outer loose mean mg mb s.heap) (X0 : (K w.params).In base) (T0 : Top q loose mean mg mb base) (hd : A.depth + 27 ≤ 700) (hu : A.units + 270 ≤ 8000)
    (hret : ∀ h' tk' tv, KeptX outer s.heap h' → Upto s.heap h' → Q (.str (Str.ofString "cannot allocate vector of length " ++ Str.ofString (toString (ps.map fun p => (p.vs.length : Int)).sum)) tv) { s with heap := h', toks := tk' }) :
    wpAny (model pw w) A (call (.ref 647) [.ref 579, .ref al]) Q E s := by
  obtain ⟨B, X, T, hh⟩ := C
  have i0 : [Value.ref pl][(0 : Int).toNat]? = some (Value.ref pl) := rfl
  have e1 : ((([Value.ref pl].length : Nat) : Int) == 1) = true := rfl
  have e3 : ((([Value.ref pl].length : Nat) : Int) == 3) = false := rfl
  have e4 : ((([Value.ref pl].length : Nat) : Int) == 4) = false := rfl
  have i9 : [Value.ref pl].length ≤ 1000000 := by simp
  walk_at "m_go"
  rename KeptX _ _ _ => kx1
  rename Upto _ _ => ux1
  obtain ⟨z1, z2⟩ := keptEnd (by assumption) kx1 ux1
  exact hret _ _ _ z1 z2
end
theorem row47 : True := by
  (k_with "k_all" => assumption)
  trivial
theorem eqNilF {w : World} {A : Around} {E : Value → Shared → Prop} {s : Shared} {a b : Addr} {vs : List Value} {ns : List Int} {Q : Value → Shared → Prop} (hi : IntsAre vs ns) (hne : 0 < vs.length) (hl : s.heap.IsList a vs.toArray) (hl' : s.heap.IsList b ([] : List Value).toArray) (hu : A.units + 64 < cLine) (h : Q (.bool false) s) :
    wpAny (model pw w) A (compareOp .Eq (.ref a) (.ref b)) Q E s := by
  refine eq_intsK hl hi hl' .nil hu ?_
  cases hi with
  | nil => exact absurd hne (Nat.lt_irrefl _)
  | cons => exact h
theorem eqNilT {w : World} {A : Around} {E : Value → Shared → Prop} {s : Shared} {a b : Addr} {Q : Value → Shared → Prop} (hl : s.heap.IsList a ([] : List Value).toArray) (hl' : s.heap.IsList b ([] : List Value).toArray) (hu : A.units + 64 < cLine) (h : Q (.bool true) s) :
    wpAny (model pw w) A (compareOp .Eq (.ref a) (.ref b)) Q E s := eq_intsK hl .nil hl' .nil hu h
theorem row48 : True := by
  (k_with "compareOp Eq ref ref" => (k_here; (with_reducible show wpAny _ _ (compareOp CmpOp.Eq (Value.ref _) (Value.ref _)) _ _ _); k_dflt (first | (refine' eqNilT ?k1_r145 ?k3_r145 ?k5_r145 ?_; (case k1_r145 => is_list); (case k3_r145 => is_list); (case k5_r145 => k_units); k_whole) | (refine' eqNilF ?k2_r145 ?k4_r145 ?k1_r145 ?k3_r145 ?k5_r145 ?_; (case k2_r145 => with_reducible assumption); (case k4_r145 => assumption); (case k1_r145 => is_list); (case k3_r145 => is_list); (case k5_r145 => k_units); k_whole))))
  trivial
section
variable {w : World} {A₀ : Around} {base h₀ : Heap} {outer : List Env} {loose : List Str} {mean : ExcName → Option Value} {mg mb : Str → Option Value} {s : Shared} {E : Value → Shared → Prop} {Q : Value → Shared → Prop}
theorem bead0 {env : Env} {L b : Addr} {m : Str → Option Value} {vs : List Value} {ns : List Int} {n : Nat} {rest : List (Addr × Obj)} {many : Int} {tm : Tok} (B : Below A₀ base outer h₀) (F : Fr h₀ L s.heap m) (X : (K w.params).In h₀) (T : Top q loose mean mg mb h₀)
    (N : News h₀ L s.heap ((b, W.listOf vs.toArray n) :: rest)) (hr : ∀ p ∈ rest, p.1 ≠ b) (hf : env.frame = some L) (hk : env.scope.kind = .function) (hd : A₀.depth + 6 ≤ 700) (hu : A₀.units + 60 ≤ 8000) (hi : IntsAre vs ns) (hz : vs.length ≤ 1000) (hm1 : 1 ≤ many)
    (h : ∀ vs' ns' n' (r : Nat) t h' tk', Fr h₀ L h' m → News h₀ L h' ((b, W.listOf vs'.toArray n') :: rest) → IntsAre vs' ns' → vs'.length ≤ vs.length → (r : Int) < many → Q (.int (r : Int) t) { s with heap := h', toks := tk' }) :
    wpAny (model pw w) (A₀.deeper env) (call (.ref 628) [.ref b, .int many tm]) Q E s := by
  refine wpAny_call ?_
  k_dflt (refine' code_def B F X N T (Around.frames_deeper B.stack) hf hk ?k6 ?k7 ?k8 ?k9 ?kB ?_ ?c2 ?c3 ?c4 ?c5; (case k6 => k_is); (case k7 => k_is); (case k8 => k_room); (case k9 => first | exact BindsTo.of_eq rfl | exact binds_K (by k_in) rfl (by k_is) rfl rfl rfl); (case c5 => decide); (case kB => exact locs rfl); (case c2 => exact rfl); (case c3 => exact rfl); (case c4 => exact rfl); k_whole; intro g' L' h' FG' F' N' B' X' T'; (try dsimp only); (try k_fold))
  by_cases hne : 0 < vs.length
  · have hm0 : many ≠ 0 := by omega
    k_steps
    rename IntsAre vs.dropLast ns.dropLast => hi2
    rename Fr h₀ L _ m => kF1
    rename News h₀ L _ _ => kN1
    have hN2 : News h₀ L _ ((b, W.listOf vs.dropLast.toArray (n + 1)) :: rest) := fun p hp => kN1 p (.tail _ hp)
    have hfn := Int.fmod_nonneg_of_pos (ns.getLastD 0) (show 0 < many by omega)
    have hfl := Int.fmod_lt_of_pos (ns.getLastD 0) (show 0 < many by omega)
    rw [← Int.toNat_of_nonneg hfn]
    refine h _ _ _ _ _ _ _ kF1 hN2 hi2 ?_ ?_
    · rw [List.length_dropLast]; omega
    · omega
  · obtain rfl : vs = [] := List.eq_nil_of_length_eq_zero (by omega)
    cases hi
    k_steps
    rename Fr h₀ L _ m => kF1
    rename News h₀ L _ _ => kN1
    exact h [] [] _ 0 _ _ _ kF1 (fun p hp => kN1 p (.tail _ hp)) .nil (Nat.le_refl _) (by omega)
end
theorem toFront {α : Type} {p x : α} {pre post : List α} (hp : p ∈ pre ++ x :: post) : p ∈ x :: (pre ++ post) := by
  simp only [List.mem_append, List.mem_cons] at hp ⊢
  rcases hp with h | h | h
  · exact .inr (.inl h)
  · exact .inl h
  · exact .inr (.inr h)
theorem fromFront {α : Type} {p x : α} {pre post : List α} (hp : p ∈ x :: (pre ++ post)) : p ∈ pre ++ x :: post := by
  simp only [List.mem_append, List.mem_cons] at hp ⊢
  rcases hp with h | h | h
  · exact .inr (.inl h)
  · exact .inl h
  · exact .inr (.inr h)
theorem bead_c {w : World} {A₀ : Around} {base h₀ : Heap} {outer : List Env} {loose : List Str} {mean : ExcName → Option Value} {mg mb : Str → Option Value} {s : Shared} {E : Value → Shared → Prop} {Q : Value → Shared → Prop} {env : Env} {L b : Addr} {m : Str → Option Value} {vs : List Value} {ns : List Int} {n : Nat} {news : List (Addr × Obj)} {gf : Obj → List (Addr × Obj)} {many : Int} {tm : Tok} (B : Below A₀ base outer h₀) (F : Fr h₀ L s.heap m) (X : (K w.params).In h₀) (T : Top q loose mean mg mb h₀)
    (N : News h₀ L s.heap news) (U : UpdF b (W.listOf vs.toArray n) news gf) (hf : env.frame = some L) (hk : env.scope.kind = .function) (hd : A₀.depth + 6 ≤ 700) (hu : A₀.units + 60 ≤ 8000) (hi : IntsAre vs ns) (hz : vs.length ≤ 1000) (hm1 : 1 ≤ many)
    (h : ∀ vs' ns' n' (r : Nat) t h' tk', Fr h₀ L h' m → News h₀ L h' (gf (W.listOf vs'.toArray n')) → IntsAre vs' ns' → vs'.length ≤ vs.length → (r : Int) < many → Q (.int (r : Int) t) { s with heap := h', toks := tk' }) :
    wpAny (model pw w) (A₀.deeper env) (call (.ref 628) [.ref b, .int many tm]) Q E s := by
  refine letG ?_
  intro P9
  obtain ⟨pre, post, rfl, hg, h1, h2⟩ := U.split
  k_unfold
  try clear P9
  refine bead0 (rest := pre ++ post) B F X T (fun p hp => N p (fromFront hp)) (fun p hp => (List.mem_append.mp hp).elim (h1 p) (h2 p)) hf hk hd hu hi hz hm1 fun vs' ns' n' r t h' tk' F' N' a1 a2 a3 => ?_
  refine h vs' ns' n' r t h' tk' F' ?_ a1 a2 a3
  rw [hg]
  exact fun p hp => N' p (toFront hp)
theorem row49 : True := by
  (k_with "call ref" => (k_here; (with_reducible show wpAny _ _ (call (Value.ref 628) _) _ _ _); k_dflt (refine' bead_c ?B_r146 ?F_r146 ?X_r146 ?T_r146 ?N_r146 ?U_r146 ?hf_r146 ?hk_r146 ?d_r146 ?u_r146 ?i_r146 ?z_r146 ?o_r146 ?_; (case F_r146 => k_asm); (case X_r146 => k_asm); (case T_r146 => k_asm); (case N_r146 => k_asm); (case B_r146 => with_reducible assumption); (case U_r146 => k_updF); (case i_r146 => with_reducible assumption); (case hf_r146 => exact rfl); (case hk_r146 => exact rfl); (case d_r146 => first | walk_at "m_dep" | omega); (case u_r146 => first | walk_at "m_dep" | omega); (case z_r146 => walk_at "m_num"); (case o_r146 => omega); k_whole); intro vs'ρ ns'ρ n'ρ r'ρ t'ρ h'ρ tk'ρ F'ρ N'ρ hi'ρ hl'ρ h1'ρ; (try dsimp only at N'ρ)))
  trivial
theorem isListStays {h₀ h : Heap} {L l : Addr} {m : Str → Option Value} {its : Array Value} (F : Fr h₀ L h m) (x : h₀.IsList l its) : h.IsList l its := let ⟨o, ho, r⟩ := x; ⟨o, F.keep _ _ ho, r⟩
theorem row50 : True := by
  (k_with "is_list" => exact isListStays (by assumption) (by assumption))
  trivial
theorem reverseL {w : World} {A : Around} {E : Value → Shared → Prop} {s : Shared} {h₀ : Heap} {L D : Addr} {m : Str → Option Value} {news news' : List (Addr × Obj)} {vs : List Value} {n : Nat} {Q : Value → Shared → Prop} (F : Fr h₀ L s.heap m) (N : News h₀ L s.heap news)
    (U : Upd D (W.listOf vs.toArray n) (W.listOf vs.reverse.toArray n) news news') (hz : vs.length ≤ 1000000)
    (h : ∀ h', Fr h₀ L h' m → News h₀ L h' news' → Q .none { s with heap := h' }) : wpAny (model pw w) A (call (.builtin "list.reverse") [.ref D]) Q E s :=
  kl_reverse (its := vs.toArray) (l := vs.reverse) F N rfl U (by simp [sizeLine_eq]; omega) h
theorem row51 : True := by
  (k_with "call builtin:list.reverse" => (k_here; (with_reducible show wpAny _ _ (call (Value.builtin _) [Value.ref _]) _ _ _); k_dflt (refine' reverseL ?F_r148 ?N_r148 ?U_r148 ?z_r148 ?_; (case F_r148 => k_asm); (case N_r148 => k_asm); (case U_r148 => k_upd); (case z_r148 => first | assumption | omega | (simp; omega)); k_whole); intro h'ρ F'ρ N'ρ; (try dsimp only at N'ρ)))
  trivial
theorem intsRev {vs : List Value} {ns : List Int} (p : IntsAre vs ns) : IntsAre vs.reverse ns.reverse := by
  induction p with
  | nil => exact .nil
  | cons k t _ ih =>
    rw [List.reverse_cons, List.reverse_cons]
    exact ih.append (.cons _ _ .nil)
theorem TurnEnd.brk {h₀ : Heap} {L : Addr} {st : List Str} {m₀ : Str → Option Value} {J : (Str → Option Value) → List (Addr × Obj) → Prop} {I : Addr} {oI : Obj} {s₁ s₂ : Shared} {Q : Flow → Shared → Prop} (h : Q .next s₂) : TurnEnd h₀ L st m₀ J I oI s₁ Q .brk s₂ := h
theorem row52 : True := by
  (k_with "m_brk" => (refine TurnEnd.brk ?_; dsimp only))
  trivial
theorem intsSnoc {vs : List Value} {ns : List Int} {k : Int} {t : Tok} (h : IntsAre vs ns) : IntsAre (vs ++ [Value.int k t]) (ns ++ [k]) := h.append (.cons _ _ .nil)
theorem intsGet {vs : List Value} {ns : List Int} {i : Nat} {v : Value} (p : IntsAre vs ns) (h : vs[i]? = some v) : ∃ c t, v = .int c t := by
  induction p generalizing i with
  | nil => cases h
  | cons k t _ ih =>
    cases i with
    | zero => cases h; exact ⟨k, t, rfl⟩
    | succ i => exact ih h
section
variable {w : World} {A : Around} {base : Heap} {outer : List Env} {loose : List Str} {mean : ExcName → Option Value} {mg mb : Str → Option Value} {s : Shared} {E : Value → Shared → Prop} {Q : Value → Shared → Prop}
theorem law_beads_c {l : Addr} {vs : List Value} {ns : List Int} (hl : s.heap.IsList l vs.toArray) (hi : IntsAre vs ns) (hz : vs.length ≤ 1000)
    (C : Cx w A base outer loose mean mg mb s.heap) (hd : A.depth + 6 ≤ 700) (hu : A.units + 60 ≤ 8000)
    (hret : ∀ a n ys zs h' tk', Kept s.heap h' → Fresh s.heap h' a (W.listOf ys.toArray n) → IntsAre ys zs → ys.length ≤ 80 → Q (.ref a) { s with heap := h', toks := tk' }) :
    wpAny (model pw w) A (call (.ref 621) [.ref l]) Q E s := by
  obtain ⟨B, X, T, hh⟩ := C
  have hvl := hi.length
  walk_at "m_go"
  rename News _ _ _ _ => N1
  rename Fr _ _ _ _ => F1
  have hi50 := hi.take 50
  refine' Halt.of (forListN (vs := vs.take 50) [Str.ofString "part_now", Str.ofString "lap"] (fun i u nw => ∃ bv bz kq, nw = [(_, _), (_, W.listOf (List.toArray bv) kq)] ∧ IntsAre bv bz ∧ bv.length ≤ 12 * i) hh ?hl F1 N1 ⟨[], [], _, rfl, .nil, Nat.zero_le _⟩ ?_ ?_)
  case hl =>
    rintro i u nw hJ9
    refine letG ?_
    intro P9
    obtain ⟨bv, bz, kq, rfl, _⟩ := hJ9
    k_unfold
    try clear P9
    k_mem
  · rintro i v u nw I oI h₂ tk₂ hiv hJ9
    refine letG ?_
    intro P9
    obtain ⟨bv, bz, kq, rfl, hb, hbl⟩ := hJ9
    k_unfold
    try clear P9
    rintro F2 N2 hne
    intros
    clear N1 F1
    have hil : i < 50 := by have a := (List.getElem?_eq_some_iff.mp hiv).1; rw [List.length_take] at a; omega
    refine letG ?_
    intro P9
    obtain ⟨c, tc, rfl⟩ := intsGet hi50 hiv
    k_unfold
    try clear P9
    by_cases hc : 0 ≤ c
    · k_steps
      rename IsRange _ _ _ _ _ _ _ _ => hr
      rename News _ _ _ _ => N1
      rename Fr _ _ _ _ => F1
      refine Halt.of (forLenL (n := 12) [Str.ofString "part_now"] (fun k u nw => ∃ bv bz kq p tp, u (Str.ofString "part_now") = some (.int p tp) ∧ nw = [(_, _), (_, _), (_, W.listOf (List.toArray bv) kq)] ∧ IntsAre bv bz ∧ bv.length ≤ 12 * i + k) hh hr (by omega) F1 N1 ⟨_, _, _, _, _, rfl, rfl, hb, hbl⟩ ?_ ?_)
      · rintro k t u' nw I' oI' h₃ tk₃ hk hJ9
        refine letG ?_
        intro P9
        obtain ⟨bv', bz', kq', p, tp, hup, rfl, hb', hbl'⟩ := hJ9
        k_unfold
        try clear P9
        rintro F3 N3 hne'
        intros
        clear N1 F1
        rw [ov1 hup] at F3
        have hbl2 : bv'.length ≤ 1000 := by omega
        k_steps
        · walk_at "m_brk"
          k_steps
          walk_at "m_tend"
          exact ⟨_, ⟨_, _, _, rfl, intsSnoc hb', by rw [List.length_append]; simp only [List.length_cons, List.length_nil]; omega⟩, by lcg_sub, by walk_at "m_off"⟩
        · walk_at "m_tend"
          exact ⟨_, ⟨_, _, _, _, _, rfl, rfl, intsSnoc hb', by rw [List.length_append]; simp only [List.length_cons, List.length_nil]; omega⟩, by lcg_sub, by walk_at "m_off"⟩
      · rintro u' nw h₃ tk₃ hJ9
        refine letG ?_
        intro P9
        obtain ⟨bv', bz', kq', p, tp, hup, rfl, hb', hbl'⟩ := hJ9
        k_unfold
        try clear P9
        rintro F3 N3
        clear N1 F1
        k_steps
        walk_at "m_tend"
        exact ⟨_, ⟨_, _, _, rfl, hb', by omega⟩, by lcg_sub, by walk_at "m_off"⟩
    · k_steps
      rename IsRange _ _ _ _ _ _ _ _ => hr
      rename News _ _ _ _ => N1
      rename Fr _ _ _ _ => F1
      refine Halt.of (forLenL (n := 12) [Str.ofString "part_now"] (fun k u nw => ∃ bv bz kq p tp, u (Str.ofString "part_now") = some (.int p tp) ∧ nw = [(_, _), (_, _), (_, W.listOf (List.toArray bv) kq)] ∧ IntsAre bv bz ∧ bv.length ≤ 12 * i + k) hh hr (by omega) F1 N1 ⟨_, _, _, _, _, rfl, rfl, hb, hbl⟩ ?_ ?_)
      · rintro k t u' nw I' oI' h₃ tk₃ hk hJ9
        refine letG ?_
        intro P9
        obtain ⟨bv', bz', kq', p, tp, hup, rfl, hb', hbl'⟩ := hJ9
        k_unfold
        try clear P9
        rintro F3 N3 hne'
        intros
        clear N1 F1
        rw [ov1 hup] at F3
        have hbl2 : bv'.length ≤ 1000 := by omega
        k_steps
        · walk_at "m_brk"
          k_steps
          walk_at "m_tend"
          exact ⟨_, ⟨_, _, _, rfl, intsSnoc hb', by rw [List.length_append]; simp only [List.length_cons, List.length_nil]; omega⟩, by lcg_sub, by walk_at "m_off"⟩
        · walk_at "m_tend"
          exact ⟨_, ⟨_, _, _, _, _, rfl, rfl, intsSnoc hb', by rw [List.length_append]; simp only [List.length_cons, List.length_nil]; omega⟩, by lcg_sub, by walk_at "m_off"⟩
      · rintro u' nw h₃ tk₃ hJ9
        refine letG ?_
        intro P9
        obtain ⟨bv', bz', kq', p, tp, hup, rfl, hb', hbl'⟩ := hJ9
        k_unfold
        try clear P9
        rintro F3 N3
        clear N1 F1
        k_steps
        walk_at "m_tend"
        exact ⟨_, ⟨_, _, _, rfl, hb', by omega⟩, by lcg_sub, by walk_at "m_off"⟩
  · rintro u nw h₂ tk₂ hJ9
    refine letG ?_
    intro P9
    obtain ⟨bv, bz, kq, rfl, hb, hbl⟩ := hJ9
    k_unfold
    try clear P9
    rintro F2 N2
    clear N1 F1
    rw [List.length_take] at hbl
    have hbl2 : bv.length ≤ 1000 := by omega
    have hb80 := hb.take 80
    k_steps
    rename News _ _ _ _ => N9
    rename Fr _ _ _ _ => F9
    exact hret _ 0 (bv.take 80).reverse _ _ _ F9.keep ⟨(N9 _ (.head _)).2.2, (N9 _ (.head _)).1⟩ (intsRev hb80) (by rw [List.length_reverse, List.length_take]; omega)
end
noncomputable def wordMenu : List (Option Str) := [some (Str.ofString "k"), some (Str.ofString "m"), some (Str.ofString "n"), some (Str.ofString "p"), none]
theorem row53 : True := by
  (k_with "m_cellif" => (repeat ((with_reducible rename _ = Data.cell (ite _ _ _) => dd9); first | rw [if_pos rfl] at dd9 | rw [if_neg (by decide)] at dd9)))
  trivial
theorem itemEx {w : World} {A : Around} {E : Value → Shared → Prop} {s : Shared} {value slice : PySem.Expr} {l : Addr} {vs : List Value} {k : Nat} {u : Tok} {Q : Value → Shared → Prop}
    (hl : s.heap.IsList l vs.toArray) (hk : k < vs.length) (hz : vs.length ≤ 1000000) (h : ∀ v, vs[k]? = some v → Q v s)
    (hs : subscripted slice false (.ref l) (.int k u) = operate [.ref l, .int k u] (getItem (.ref l) (.int k u)) := by with_unfolding_all rfl) :
    wpAny (model pw w) A (subscriptTail value slice (.ref l) (.int k u)) Q E s :=
  itemL (k := (k : Int)) hl (by omega) (by omega) (by rw [Int.toNat_natCast]; exact List.getElem?_eq_getElem hk) (h _ (List.getElem?_eq_getElem hk)) hs
theorem row54 : True := by
  (k_with "m_itemEx" => (k_here; (with_reducible show wpAny _ _ (subscriptTail _ _ (Value.ref _) (Value.int _ _)) _ _ _); k_dflt (refine' itemEx ?k1_r151 ?k2_r151 ?k3_r151 ?_ ?k6_r151; (case k1_r151 => is_list); (case k2_r151 => first | omega | (simp; done) | (simp; omega)); (case k3_r151 => first | omega | (simp; done) | (simp; omega)); (case k6_r151 => with_unfolding_all rfl); k_whole); intro v'ρ hv'ρ))
  (k_with "subscriptTail Name Call ref int" => walk_at "m_itemEx")
  trivial
theorem menuOf {a b c d : Nat} {k : Nat} {v : Value} (h : [Value.str (Str.ofString "k") a, Value.str (Str.ofString "m") b, Value.str (Str.ofString "n") c, Value.str (Str.ofString "p") d, Value.none][k]? = some v) : ∃ x ∈ wordMenu, IsOS v x := by
  rcases k with _ | _ | _ | _ | _ | k
  · obtain rfl := Option.some.inj h; exact ⟨_, .head _, _, rfl⟩
  · obtain rfl := Option.some.inj h; exact ⟨_, .tail _ (.head _), _, rfl⟩
  · obtain rfl := Option.some.inj h; exact ⟨_, .tail _ (.tail _ (.head _)), _, rfl⟩
  · obtain rfl := Option.some.inj h; exact ⟨_, .tail _ (.tail _ (.tail _ (.head _))), _, rfl⟩
  · obtain rfl := Option.some.inj h; exact ⟨none, .tail _ (.tail _ (.tail _ (.tail _ (.head _)))), rfl⟩
  · simp at h
theorem codeDefM {w : World} {A₀ A : Around} {base h₀ : Heap} {m : Str → Option Value} {loose : List Str} {mean : ExcName → Option Value} {mg mb : Str → Option Value} {s : Shared} {L : Addr} {news : List (Addr × Obj)} {env : Env} {outer outer₀ : List Env} {R : Result → Shared → Prop} {name qual : Str} {params : Arguments} {body : List Stmt} {scope : Scope} {dV kV doc pm cdv ct oc : Value} {an od : Option Addr} {osl : Array (Option Value)} {f : Addr} {pos : List Value} {binds : List (Str × Value)} {ks : List Bool}
    (B : Below A₀ base outer₀ h₀) (F : Fr h₀ L s.heap m) (X₀ : (K w.params).In h₀) (N : News h₀ L s.heap news) (T : Top q loose mean mg mb h₀) (hA : A.frames = some (env :: outer)) (hf : env.frame = some L) (hke : env.scope.kind = .function)
    (ho : (K w.params).lookup f = some ⟨oc, od, .func (fnOf name qual params body scope dV kV doc pm an cdv ct), osl⟩) (hcd : codeIn (K w.params) cdv qual = true) (hroom : A.depth < recursionLimit)
    (_hz : ZipAre params.args pos binds) (hm : MaskAre (envOfC qual scope 0 0 .none).kindOf binds ks)
    (hbind : BindsTo s (fnOf name qual params body scope dV kV doc pm an cdv ct) ⟨pos, []⟩ binds) (hkind : (binds.all fun y => scope.names.lookup y.1 == some .local || scope.names.lookup y.1 == some .cell) = true)
    (hnd : ((cellsFrom 0 scope.names []).map (·.1)).Nodup)
    (h : ∀ g L' h₁ tk cells, Fr h₀ L g m → Fr g L' h₁ (bindM ks binds fun _ => none) → News g L' h₁ (cells ++ news) →
      CellsAre (bindCM ks binds fun _ => none) (cellsFrom (L' + 1) scope.names []) cells → Below A base (env :: outer) g → (K w.params).In g → Top q loose mean mg mb g → (∀ p ∈ news, p.1 < L') →
      wpAny (model pw w) (A.deeper (envOfC qual scope L' f cdv)) (execs body (envOfC qual scope L' f cdv))
        (fun fl s' => LeaveK h₀ L m g R (match fl with | .ret v => v | _ => .none) s')
        (fun e s' => wpAny (model pw w) (A.deeper (envOfC qual scope L' f cdv)) (leaving (envOfC qual scope L' f cdv) e) (fun _ s'' => R (.error e) s'') (fun e' s'' => R (.error e') s'') s')
        { s with heap := h₁, toks := tk })
    (hB : outer₀ = outer)
    (hco : scope.isCoroutine = false) (hgen : scope.isGenerator = false) (hk : scope.kind = .function) : codeAny (model pw w) A (.call (.ref f) ⟨pos, []⟩) R s := by
  subst hB
  refine code_defC B F X₀ N T hA hf hke ho hcd hroom hbind hkind hnd (fun g L' h₁ tk cells FG F' N' Y' B' X' T' l => ?_) hco hgen hk
  have hm' : MaskAre (envOfC qual scope L' f cdv).kindOf binds ks := hm
  exact h g L' h₁ tk cells FG (bindM_eq hm' _ ▸ F') N' (bindCM_eq hm' _ ▸ Y') B' X' T' l
section
variable {w : World} {A₀ : Around} {base h₀ : Heap} {outer : List Env} {loose : List Str} {mean : ExcName → Option Value} {mg mb : Str → Option Value} {s : Shared} {E : Value → Shared → Prop} {Q : Value → Shared → Prop}
theorem words0 {env : Env} {L b : Addr} {m : Str → Option Value} {vs : List Value} {ns : List Int} {n : Nat} {rest : List (Addr × Obj)} (B : Below A₀ base outer h₀) (F : Fr h₀ L s.heap m) (X : (K w.params).In h₀) (T : Top q loose mean mg mb h₀) (hh : A₀.handled = none)
    (N : News h₀ L s.heap ((b, W.listOf vs.toArray n) :: rest)) (hr : ∀ p ∈ rest, p.1 ≠ b) (hf : env.frame = some L) (hk : env.scope.kind = .function) (hd : A₀.depth + 12 ≤ 700) (hu : A₀.units + 120 ≤ 8000) (hi : IntsAre vs ns) (hz : vs.length ≤ 1000)
    (h : ∀ a wv xs na vs' ns' n' h' tk', Fr h₀ L h' m → News h₀ L h' ((a, W.listOf wv.toArray na) :: (b, W.listOf vs'.toArray n') :: rest) → AllNe a ((b, W.listOf vs'.toArray n') :: rest) → IntsAre vs' ns' → vs'.length ≤ vs.length → Paired IsOS wv xs → (∀ x ∈ xs, x ∈ wordMenu) → wv.length ≤ 5 → Q (.ref a) { s with heap := h', toks := tk' }) :
    wpAny (model pw w) (A₀.deeper env) (call (.ref 633) [.ref b]) Q E s := by
  refine wpAny_call ?_
  k_dflt (refine' codeDefM B F X N T (Around.frames_deeper B.stack) hf hk ?k6 ?k7 ?k8 ?kz ?km ?k9 ?kB ?kD ?_ ?kO ?c2 ?c3 ?c4; (case kO => exact rfl); (case k6 => k_is); (case k7 => k_is); (case k8 => k_room); (case kz => walk_at "m_zip"); (case k9 => first | exact BindsTo.of_eq rfl | exact binds_K (by k_in) rfl (by k_is) rfl rfl rfl); (case km => walk_at "m_mask"); (case kB => exact rfl); (case kD => decide +kernel); (case c2 => exact rfl); (case c3 => exact rfl); (case c4 => exact rfl); k_whole; intro g' L' h' tk' cells' FG' F' N' Y' B' X' T' l1; (try k_lt l1); (dsimp only [bindM, bindCM] at F' Y'); k_cells Y'; (try simp only [List.cons_append, List.nil_append] at N'); (try dsimp only); walk_at "m_cellif"; (try k_lift B'); (try k_fold))
  k_steps
  rename IntsAre _ _ => hi1
  rename _ ≤ vs.length => hl1
  rename (_ : Int) < 6 => hr6
  refine compInd (fun i ys nw => ∃ vs' ns' n' xs, nw = (_, _) :: (b, W.listOf (List.toArray vs') n') :: rest ∧ IntsAre vs' ns' ∧ vs'.length ≤ vs.length ∧ Paired IsOS ys xs ∧ (∀ x ∈ xs, x ∈ wordMenu) ∧ ys.length = i) _ ⟨_, _, _, [], rfl, hi1, hl1, .nil, (fun _ h => nomatch h), rfl⟩ ?_ ?_
  · rintro i ys nw hin hJ9
    refine letG ?_
    intro P9
    obtain ⟨vs', ns', n', xs, rfl, hi', hl', hp, hmem, hyl⟩ := hJ9
    k_unfold
    try clear P9
    rintro v I oI Cc oC D m₂ h₂ tk₂ E' hi2 hC hx' F' N' off ne
    intros
    obtain ⟨ti, rfl⟩ := hi2
    rw [Int.zero_add] at hx'
    simp only [LCg.Off3] at off
    refine letG ?_
    intro P9
    obtain ⟨off1, ⟨off2, off3, off4⟩, off5⟩ := off
    k_unfold
    try clear P9
    k_steps
    rename _ = some _ => hget
    refine letG ?_
    intro P9
    obtain ⟨x, hx, hxv⟩ := menuOf hget
    k_unfold
    try clear P9
    rename IsRange _ _ _ _ _ _ _ _ => hRg
    rename IntsAre _ _ => hi9
    rename _ ≤ vs'.length => hl9
    rename News _ _ _ _ => NN
    rename Fr _ _ _ _ => FF
    refine' LCg.CompEnd.intro FF NN ((_, _) :: (b, W.listOf (List.toArray _) _) :: rest) ?s ⟨off1, ⟨off2, off3, off4⟩, off5⟩ trivial ⟨_, _, _, xs ++ [x], rfl, hi9, Nat.le_trans hl9 hl', pairedSnoc hxv hp, ?_, ?_⟩
    case s => walk_at "m_sub"
    · intro y hy
      rcases List.mem_append.mp hy with hy | hy
      · exact hmem y hy
      · obtain rfl := List.mem_singleton.mp hy
        exact hx
    · rw [List.length_append, hyl]; rfl
  · rintro ys nw hJ9
    refine letG ?_
    intro P9
    obtain ⟨vs', ns', n', xs, rfl, hi', hl', hp, hmem, hyl⟩ := hJ9
    k_unfold
    try clear P9
    k_steps
    rename News h₀ L _ _ => NN
    rename Fr h₀ L _ _ => FF
    rename AllNe _ (_ :: _ :: rest) => ho
    have hN2 : News h₀ L _ ((_, W.listOf ys.toArray _) :: (b, W.listOf vs'.toArray n') :: rest) := fun p hp => NN p ((List.mem_cons.mp hp).elim (fun e => e ▸ List.Mem.head _) fun h => .tail _ (.tail _ h))
    exact h _ _ _ _ _ _ _ _ _ FF hN2 ⟨ho.2.1, ho.2.2⟩ hi' hl' hp hmem (by omega)
end
theorem words_c {w : World} {A₀ : Around} {base h₀ : Heap} {outer : List Env} {loose : List Str} {mean : ExcName → Option Value} {mg mb : Str → Option Value} {s : Shared} {E : Value → Shared → Prop} {Q : Value → Shared → Prop} {env : Env} {L b : Addr} {m : Str → Option Value} {vs : List Value} {ns : List Int} {n : Nat} {news : List (Addr × Obj)} {gf : Obj → List (Addr × Obj)} (B : Below A₀ base outer h₀) (F : Fr h₀ L s.heap m) (X : (K w.params).In h₀) (T : Top q loose mean mg mb h₀) (hh : A₀.handled = none)
    (N : News h₀ L s.heap news) (U : UpdF b (W.listOf vs.toArray n) news gf) (hf : env.frame = some L) (hk : env.scope.kind = .function) (hd : A₀.depth + 12 ≤ 700) (hu : A₀.units + 120 ≤ 8000) (hi : IntsAre vs ns) (hz : vs.length ≤ 1000)
    (h : ∀ a wv xs na vs' ns' n' h' tk', Fr h₀ L h' m → News h₀ L h' ((a, W.listOf wv.toArray na) :: gf (W.listOf vs'.toArray n')) → AllNe a (gf (W.listOf vs'.toArray n')) → IntsAre vs' ns' → vs'.length ≤ vs.length → Paired IsOS wv xs → (∀ x ∈ xs, x ∈ wordMenu) → wv.length ≤ 5 → Q (.ref a) { s with heap := h', toks := tk' }) :
    wpAny (model pw w) (A₀.deeper env) (call (.ref 633) [.ref b]) Q E s := by
  refine letG ?_
  intro P9
  obtain ⟨pre, post, rfl, hg, h1, h2⟩ := U.split
  k_unfold
  try clear P9
  refine words0 (rest := pre ++ post) B F X T hh (fun p hp => N p (fromFront hp)) (fun p hp => (List.mem_append.mp hp).elim (h1 p) (h2 p)) hf hk hd hu hi hz fun a wv xs na vs' ns' n' h' tk' F' N' al a1 a2 a3 a4 a5 => ?_
  refine h a wv xs na vs' ns' n' h' tk' F' ?_ ?_ a1 a2 a3 a4 a5
  · rw [hg]
    exact fun p hp => N' p ((List.mem_cons.mp hp).elim (fun e => e ▸ List.Mem.head _) fun hp => .tail _ (toFront hp))
  · rw [hg]
    exact allNe_of fun p hp => allNe_mem al p (toFront hp)
theorem row55 : True := by
  (k_with "call ref" => (k_here; (with_reducible show wpAny _ _ (call (Value.ref 633) _) _ _ _); k_dflt (refine' words_c ?B_r153 ?F_r153 ?X_r153 ?T_r153 ?hh_r153 ?N_r153 ?U_r153 ?hf_r153 ?hk_r153 ?d_r153 ?u_r153 ?i_r153 ?z_r153 ?_; (case F_r153 => k_asm); (case X_r153 => k_asm); (case T_r153 => k_asm); (case N_r153 => k_asm); (case B_r153 => with_reducible assumption); (case hh_r153 => assumption); (case U_r153 => k_updF); (case i_r153 => with_reducible assumption); (case hf_r153 => exact rfl); (case hk_r153 => exact rfl); (case d_r153 => first | walk_at "m_dep" | omega); (case u_r153 => first | walk_at "m_dep" | omega); (case z_r153 => walk_at "m_num"); k_whole); intro a'ρ wv'ρ xs'ρ na'ρ vs'ρ ns'ρ n'ρ h'ρ tk'ρ F'ρ N'ρ al'ρ hi'ρ hl'ρ hp'ρ hm'ρ hw'ρ; (try dsimp only at N'ρ al'ρ)))
  (k_with "call ref" => (k_here; (with_reducible show wpAny _ _ (call (Value.ref 621) _) _ _ _); k_dflt (refine' law_beads_c ?l_r154 ?i_r154 ?z_r154 ?C_r154 ?d_r154 ?u_r154 ?_; (case l_r154 => first | is_list | assumption); (case i_r154 => with_reducible assumption); (case z_r154 => walk_at "m_num"); (case C_r154 => walk_at "m_cx"); (case d_r154 => walk_at "m_dep"); (case u_r154 => walk_at "m_dep"); k_whole); intro a'ρ n'ρ ys'ρ zs'ρ; walk_at "m_backL"; intro hi'ρ hl'ρ))
  trivial
theorem strsOf {vs : List Value} {xs : List Str} (p : Paired IsS vs xs) : StrsAre vs xs := by
  induction p with
  | nil => exact .nil
  | cons h _ ih => cases h; subst_vars; exact .cons _ _ ih
theorem ofStrs {vs : List Value} {xs : List Str} (p : StrsAre vs xs) : Paired IsS vs xs := by
  induction p with
  | nil => exact .nil
  | cons _ _ _ ih => exact .cons ⟨_, rfl⟩ ih
theorem sortedL {w : World} {A : Around} {E : Value → Shared → Prop} {s : Shared} {h₀ : Heap} {L l : Addr} {m : Str → Option Value} {news : List (Addr × Obj)} {vs : List Value} {xs : List Str} {Q : Value → Shared → Prop} (F : Fr h₀ L s.heap m) (N : News h₀ L s.heap news) (hl : s.heap.IsList l vs.toArray) (hp : Paired IsS vs xs) (h64 : vs.length < 64)
    (h : ∀ D h' vs' xs' e, Fr h₀ L h' m → News h₀ L h' ((D, W.listOf vs'.toArray e) :: news) → AllNe D news → Paired IsS vs' xs' → xs'.Perm xs → sortedS xs' = true → vs'.length = vs.length → Q (.ref D) { s with heap := h' }) : wpAny (model pw w) A (call (.builtin "sorted") [.ref l]) Q E s :=
  sorted_N_str F N hl (strsOf hp) h64 fun h' vs' ss' e F' N' a1 a2 a3 => h _ h' vs' ss' e F' N' (allNe_of fun p hp => Nat.ne_of_lt (Nat.lt_succ_of_lt (Heap.lt_size (N p hp).1))) (ofStrs a1) a2 a3 (by rw [(ofStrs a1).length, a2.length_eq, hp.length])
theorem row56 : True := by
  (k_with "call builtin:sorted" => (k_here; (with_reducible show wpAny _ _ (call (Value.builtin "sorted") [Value.ref _]) _ _ _); k_dflt (refine' sortedL ?F_r155 ?N_r155 ?l_r155 ?p_r155 ?z_r155 ?_; (case F_r155 => k_asm); (case N_r155 => k_asm); (case l_r155 => walk_at "m_list"); (case p_r155 => assumption); (case z_r155 => omega); k_whole); intro D'ρ h'ρ vs'ρ xs'ρ e'ρ F'ρ N'ρ al'ρ hp'ρ hm'ρ hs'ρ hl'ρ))
  trivial
theorem ltCps_iff : ∀ a b : List Nat, ltCps a b = true ↔ a < b
  | [], [] => by simp [ltCps]
  | [], _ :: _ => by simp [ltCps]
  | _ :: _, [] => by simp [ltCps]
  | a :: r, b :: t => by
    rw [ltCps, List.cons_lt_cons_iff, Bool.or_eq_true, Bool.and_eq_true, ltCps_iff r t]
    simp
theorem lt_of_ne {a b : List Nat} (h : ¬ b < a) (e : a ≠ b) : a < b := by
  by_cases h2 : a < b
  · exact h2
  · exact absurd (List.le_antisymm (List.not_lt.mp h) (List.not_lt.mp h2)) e
theorem pair_of_sorted : ∀ (p : Str) (l : List Str), risingS p l = true → (p :: l).Pairwise fun a b => ¬ b.cps.toList < a.cps.toList
  | p, [], _ => List.pairwise_singleton _ _
  | p, x :: r, h => by
    rw [risingS, Bool.and_eq_true] at h
    have hr := pair_of_sorted x r h.2
    have hpx : ¬ x.cps.toList < p.cps.toList := by
      intro q
      have := (ltCps_iff _ _).mpr q
      simp [this] at h
    refine List.pairwise_cons.mpr ⟨fun y hy => ?_, hr⟩
    rcases List.mem_cons.mp hy with rfl | hy
    · exact hpx
    · have hxy := (List.pairwise_cons.mp hr).1 y hy
      exact List.not_lt.mpr (List.le_trans (List.not_lt.mp hpx) (List.not_lt.mp hxy))
theorem str_ext {a b : Str} (h : a.cps.toList = b.cps.toList) : a = b := by
  obtain ⟨⟨a⟩⟩ := a; obtain ⟨⟨b⟩⟩ := b
  simp only at h; subst h; rfl
theorem isRanks_sorted {xs : List (Option Str)} {ys zs : List Str} (hs : sortedS zs = true) (hp : zs.Perm ys) (hn : ys.Nodup) (hm : ∀ x, x ∈ ys ↔ some x ∈ xs) : IsRanks xs zs := by
  refine ⟨?_, fun x => hp.mem_iff.trans (hm x)⟩
  have hnz : zs.Nodup := hp.nodup_iff.mpr hn
  have hle : zs.Pairwise fun a b => ¬ b.cps.toList < a.cps.toList := by
    cases zs with
    | nil => exact .nil
    | cons p l => exact pair_of_sorted p l hs
  exact (hle.and hnz).imp fun {a b} h => lt_of_ne h.1 fun e => h.2 (str_ext e)
open PySem.SeqAt
/-! looks into lists of texts and None -/
noncomputable def isTxt (x : Str) : Value → Bool
  | .str a _ => a == x
  | _ => false
theorem isTxt_any {x : Str} {vs : List Value} {xs : List (Option Str)} (p : Paired IsOS vs xs) : vs.any (isTxt x) = decide (some x ∈ xs) := by
  induction p with
  | nil => simp
  | @cons a b _ _ hv t ih =>
    rw [List.any_cons, ih]
    cases b with
    | none => cases hv; simp [isTxt]
    | some y =>
      obtain ⟨t', rfl⟩ := hv
      by_cases e : y = x
      · subst e; simp [isTxt]
      · simp [isTxt, e, Ne.symm e]
theorem isTxt_eq {A : Around} {s : Shared} {x : Str} {t : Tok} {vs : List Value} {xs : List (Option Str)} (p : Paired IsOS vs xs) (y : Value) (h : y ∈ vs) : SeqAt.EqAt A s y (.str x t) (isTxt x y) := by
  induction p with
  | nil => cases h
  | @cons a b _ _ hv r ih =>
    rcases List.mem_cons.mp h with rfl | h
    · cases b with
      | none => cases hv; exact SeqAt.EqAt.none_str _ _
      | some z => obtain ⟨t', rfl⟩ := hv; exact SeqAt.EqAt.str_str _ _ _ _
    · exact ih h
section
variable {w : World} {A : Around} {s : Shared} {E : Value → Shared → Prop} {Q : Value → Shared → Prop}
theorem inOS {l : Addr} {vs : List Value} {xs : List (Option Str)} {x : Str} {t : Tok} (hp : Paired IsOS vs xs) (hl : s.heap.IsList l vs.toArray) (h : Q (.bool (decide (some x ∈ xs))) s) : wpAny (model pw w) A (compareOp .In (.str x t) (.ref l)) Q E s :=
  SeqAt.in_listAt (isTxt x) hl (fun y hy => isTxt_eq hp y (by simpa using hy)) (by rw [show (vs.toArray.any (isTxt x)) = vs.any (isTxt x) by simp, isTxt_any hp]; exact h)
theorem isTxt_at {x : Str} {vs : List Value} {xs : List Str} (p : Paired IsS vs xs) (j : Nat) (h1 : j < vs.length) (h2 : j < xs.length) : isTxt x vs[j] = (xs[j] == x) := by
  induction p generalizing j with
  | nil => cases h1
  | cons h _ ih =>
    cases j with
    | zero => obtain ⟨t, rfl⟩ := h; rfl
    | succ j => exact ih j (Nat.lt_of_succ_lt_succ h1) (Nat.lt_of_succ_lt_succ h2)
theorem idxOf_ne {x : Str} : ∀ {xs : List Str} {j : Nat}, j < xs.idxOf x → ∀ (h2 : j < xs.length), (xs[j] == x) = false
  | [], j, h, h2 => absurd h2 (Nat.not_lt_zero _)
  | y :: ys, j, h, h2 => by
    rw [List.idxOf_cons] at h
    by_cases e : (y == x) = true
    · rw [e] at h; exact absurd h (Nat.not_lt_zero _)
    · rw [Bool.not_eq_true] at e
      rw [e] at h
      cases j with
      | zero => exact e
      | succ j =>
        have h' : j < ys.idxOf x := Nat.lt_of_succ_lt_succ h
        exact idxOf_ne h' (by simpa using h2)
theorem idxS {l : Addr} {vs : List Value} {xs : List Str} {x : Str} {t : Tok} (hp : Paired IsS vs xs) (hl : s.heap.IsList l vs.toArray) (hx : x ∈ xs) (hz : vs.length ≤ 1000) (h : Q (.int (xs.idxOf x : Nat) s.toks) { s with toks := s.toks + 1 }) :
    wpAny (model pw w) A (call (.builtin "list.index") [.ref l, .str x t]) Q E s := by
  refine letG ?_
  intro P9
  obtain ⟨⟨cls, dd, data, sl⟩, ho, hc, n, hd⟩ := id hl
  k_unfold
  try clear P9
  simp only at hc hd
  subst hc hd
  have hlen := hp.length
  have hj : xs.idxOf x < xs.length := List.idxOf_lt_length_iff.mpr hx
  refine call_meets PySem.F.slot_list_index ⟨_, ho, rfl⟩ PySem.F.entry_list_index (PySem.F.args_list_index_2 _ _)
    (SeqAt.list_indexAt l vs.toArray n dd sl (.str x t) (isTxt x) (xs.idxOf x) (by simpa [hlen] using hj) (by omega) ?_ ?_) ⟨ho, fun y hy => isTxt_eq (someS hp) y (by simpa using hy), h⟩
  · show isTxt x vs[xs.idxOf x] = true
    rw [isTxt_at hp _ (by omega) hj]
    simpa using List.getElem_idxOf hj
  · intro j hjs hlt
    show isTxt x vs[j] = false
    rw [isTxt_at hp j (by simpa using hjs) (by omega)]
    exact idxOf_ne hlt _
/-! deep comparison of equal data -/
theorem same_mix {d : PyData} (hm : noMix d d = true) : PyData.eqv d d = true := by rw [← same_eq_eqv d d hm]; exact PySem.Spec.same_self d
theorem neSame {a b : Value} {d : PyData} {as bs : List Addr} (ra : Reads s.heap a d as) (rb : Reads s.heap b d bs) (hd : shaped d = true) (hm : noMix d d = true) (hu : A.units + 64 < cLine) (h : Q (.bool false) s) : wpAny (model pw w) A (compareOp .NotEq a b) Q E s :=
  compareNe_shaped ra rb hd hd hu (by rw [same_mix hm]; exact h)
theorem eqSame {a b : Value} {d : PyData} {as bs : List Addr} (ra : Reads s.heap a d as) (rb : Reads s.heap b d bs) (hd : shaped d = true) (hm : noMix d d = true) (hu : A.units + 64 < cLine) (h : Q (.bool true) s) : wpAny (model pw w) A (compareOp .Eq a b) Q E s :=
  compareEq_shaped ra rb hd hd hu (by rw [same_mix hm]; exact h)
end
noncomputable def dOI : Option Int → PyData
  | none => .none
  | some i => .int i
theorem readsOI {h : Heap} {vs : List Value} {xs : List (Option Int)} (p : Paired IsOI vs xs) : ReadsAll h vs (xs.map dOI) [] := by
  induction p with
  | nil => exact .nil
  | @cons a b _ _ hv t ih =>
    cases b with
    | none => cases hv; exact ReadsAll.cons (as := []) (bs := []) .none ih
    | some i => obtain ⟨u, rfl⟩ := hv; exact ReadsAll.cons (as := []) (bs := []) (.int i u) ih
theorem readsS {h : Heap} {vs : List Value} {xs : List Str} (p : Paired IsS vs xs) : ReadsAll h vs (xs.map .str) [] := by
  induction p with
  | nil => exact .nil
  | cons hv _ ih => obtain ⟨u, rfl⟩ := hv; exact ReadsAll.cons (as := []) (bs := []) (.str _ u) ih
theorem layOI : ∀ xs : List (Option Int), PyData.canLayAll0 (xs.map dOI) = true
  | [] => by simp [PyData.canLayAll0]
  | none :: r => by simp [PyData.canLayAll0, PyData.canLay0, dOI, layOI r]
  | some i :: r => by simp [PyData.canLayAll0, PyData.canLay0, dOI, layOI r]
theorem okOf (s : String) : PyData.strOk (Str.ofString s) = true := by
  rw [Str.ofString_eq_toList]
  show (s.toList.map Char.toNat).toArray.all (· < 0x110000) = true
  rw [← Array.all_toList, List.all_eq_true]
  intro n hn
  refine letG ?_
  intro P9
  obtain ⟨c, _, rfl⟩ := List.mem_map.mp hn
  k_unfold
  try clear P9
  have := c.valid
  simp only [decide_eq_true_eq]
  show c.val.toNat < _
  rcases this with h | ⟨_, h⟩ <;> omega
theorem okApp {a b : Str} (ha : PyData.strOk a = true) (hb : PyData.strOk b = true) : PyData.strOk (a ++ b) = true := by
  show (a.cps ++ b.cps).all (· < 0x110000) = true
  rw [Array.all_append, Bool.and_eq_true]
  exact ⟨ha, hb⟩
theorem layS : ∀ {xs : List Str}, (∀ x ∈ xs, PyData.strOk x = true) → PyData.canLayAll0 (xs.map .str) = true
  | [], _ => by simp [PyData.canLayAll0]
  | x :: r, h => by simp [PyData.canLayAll0, PyData.canLay0, layS (fun y hy => h y (.tail _ hy)), h x (.head _)]
theorem depOI : ∀ xs : List (Option Int), PyData.depthAll (xs.map dOI) ≤ 1
  | [] => by simp [PyData.depthAll]
  | none :: r => by have := depOI r; simp only [List.map_cons, PyData.depthAll, PyData.depth, dOI]; omega
  | some i :: r => by have := depOI r; simp only [List.map_cons, PyData.depthAll, PyData.depth, dOI]; omega
theorem depS : ∀ xs : List Str, PyData.depthAll (xs.map .str) ≤ 1
  | [] => by simp [PyData.depthAll]
  | x :: r => by have := depS r; simp only [List.map_cons, PyData.depthAll, PyData.depth]; omega
theorem mixOI : ∀ xs : List (Option Int), noMixAll (xs.map dOI) (xs.map dOI) = true
  | [] => by simp [noMixAll]
  | none :: r => by simp [noMixAll, noMix, dOI, mixOI r]
  | some i :: r => by simp [noMixAll, noMix, dOI, mixOI r]
theorem mixS : ∀ xs : List Str, noMixAll (xs.map PyData.str) (xs.map PyData.str) = true
  | [] => by simp [noMixAll]
  | x :: r => by simp [noMixAll, noMix, mixS r]
/-- what the law tells of a factor -/
noncomputable def toldD (cs : List (Option Int)) (ns : List Str) : PyData := .tuple [.list (cs.map dOI), .list (ns.map .str), .list [.str (Str.ofString "factor")]]
theorem toldD_shaped (cs : List (Option Int)) {ns : List Str} (hns : ∀ x ∈ ns, PyData.strOk x = true) : shaped (toldD cs ns) = true := by
  have a := depOI cs
  have b := depS ns
  show (PyData.canLay0 _ && decide (PyData.depth _ ≤ 64)) = true
  rw [Bool.and_eq_true]
  refine ⟨by simp [toldD, PyData.canLay0, PyData.canLayAll0, layOI, layS hns, okOf], decide_eq_true ?_⟩
  simp only [toldD, PyData.depth, PyData.depthAll]
  omega
theorem toldD_mix (cs : List (Option Int)) (ns : List Str) : noMix (toldD cs ns) (toldD cs ns) = true := by simp [toldD, noMix, noMixAll, mixOI, mixS]
theorem listReads {h : Heap} {l : Addr} {vs : List Value} {n : Nat} {ds : List PyData} (hl : h.get? l = some (W.listOf vs.toArray n)) (hr : ReadsAll h vs ds []) : Reads h (.ref l) (.list ds) [l] := Reads.list hl rfl rfl (by simpa using hr)
theorem toldReads {h : Heap} {a l lt ct : Addr} {us ns fs : List Value} {cs : List (Option Int)} {xs : List Str} {n0 n1 n2 : Nat} (ha : h.get? a = some (tupOf [.ref l, .ref lt, .ref ct])) (hl : h.get? l = some (W.listOf us.toArray n0)) (ht : h.get? lt = some (W.listOf ns.toArray n1)) (hc : h.get? ct = some (W.listOf fs.toArray n2))
    (hu : Paired IsOI us cs) (hn : Paired IsS ns xs) (hf : Paired IsS fs [Str.ofString "factor"]) : Reads h (.ref a) (toldD cs xs) ([l] ++ ([lt] ++ ([ct] ++ []))) :=
  Reads.tuple ha rfl rfl (.cons (listReads hl (readsOI hu)) (.cons (listReads ht (readsS hn)) (.cons (listReads hc (readsS hf)) .nil)))
theorem row57 : True := by
  (k_with "compareOp In str ref" => (k_here; (with_reducible show wpAny _ _ (compareOp CmpOp.In (Value.str _ _) (Value.ref _)) _ _ _); k_dflt (refine' inOS ?p_r156 ?l_r156 ?_; (case l_r156 => is_list); (case p_r156 => with_reducible assumption); k_whole)))
  trivial
theorem mulGen {w : World} {A : Around} {E : Value → Shared → Prop} {s : Shared} {h₀ : Heap} {L l : Addr} {m : Str → Option Value} {news : List (Addr × Obj)} {vs : List Value} {x : Int} {u : Tok} {Q : Value → Shared → Prop} (F : Fr h₀ L s.heap m) (N : News h₀ L s.heap news) (hl : s.heap.IsList l vs.toArray) (hlo : -(2 ^ 63 : Int) ≤ x) (hhi : x < 2 ^ 63) (hsz : vs.length * x.toNat ≤ 1000000)
    (h : ∀ D h', Fr h₀ L h' m → News h₀ L h' ((D, W.listOf (List.replicate x.toNat vs).flatten.toArray 0) :: news) → AllNe D news → Q (.ref D) { s with heap := h' }) : wpAny (model pw w) A (binaryOp .Mult (.ref l) (.int x u)) Q E s := by
  refine letG ?_
  intro P9
  obtain ⟨⟨cls, d, data, sl⟩, ho, hcl, k, hd⟩ := id hl
  k_unfold
  try clear P9
  simp only at hcl hd
  subst hcl hd
  have hsz' : vs.toArray.size * x.toNat ≤ 1000000 := by simpa using hsz
  refine wpAny_binaryOp_repeat_ref (T := "list") (U := "int") (by decide) ⟨_, ho, rfl⟩ (fun s' => typeIs_int s' x u) noFill_list_mul PySem.F.fills_int_mul PySem.F.slot_int_rmul repeat_list PySem.F.slot_int_index.lookup
    (call_meets PySem.F.slot_int_rmul (typeIs_int s x u) PySem.F.entry_int_rmul (PySem.F.args_int_rmul_2 _ _) (lm_int_rmul_list_any x u l vs.toArray k d sl)
      ⟨ho, rfl, ⟨_, ho, rfl⟩, call_meets PySem.F.slot_list_mul ⟨_, ho, rfl⟩ PySem.F.entry_list_mul (PySem.F.args_list_mul_2 _ _)
        (lm_list_mul_any l vs.toArray k d sl x u ?a ?b ?c)
        ⟨ho, ?_⟩⟩)
  case a => (simp [Builtin.List.listFitsIndex]; omega)
  case b => omega
  case c => (simp [Builtin.List.listTooLong, sizeLine]; omega)
  have N' := News.push F N { cls := Value.type "list", data := Data.seq (List.foldl (fun x1 x2 => x1 ++ x2) #[] (List.replicate (if vs.toArray.isEmpty = true then 0 else x.toNat) vs.toArray)) }
  rw [listMul_foldl_if] at N'
  rw [listMul_foldl_if]
  exact h _ _ (F.push _) N' (allNe_of fun p hp => Nat.ne_of_lt (Heap.lt_size (N p hp).1))
theorem mulOne {w : World} {A : Around} {E : Value → Shared → Prop} {s : Shared} {h₀ : Heap} {L l : Addr} {m : Str → Option Value} {news : List (Addr × Obj)} {v : Value} {x : Int} {u : Tok} {Q : Value → Shared → Prop} (F : Fr h₀ L s.heap m) (N : News h₀ L s.heap news) (hl : s.heap.IsList l [v].toArray) (h0 : 0 ≤ x) (hx : x ≤ 1000000)
    (h : ∀ D h' (n : Nat), (n : Int) = x → Fr h₀ L h' m → News h₀ L h' ((D, W.listOf (List.replicate n v).toArray 0) :: news) → AllNe D news → Q (.ref D) { s with heap := h' }) : wpAny (model pw w) A (binaryOp .Mult (.ref l) (.int x u)) Q E s := by
  refine mulGen F N hl (by omega) (by omega) (by rw [List.length_singleton]; omega) fun D h' F' N' al => h D h' x.toNat (by omega) F' ?_ al
  rw [List.flatten_replicate_singleton] at N'
  exact N'
theorem wayCases {r : Nat} (h : (r : Int) < 4) : r = 0 ∨ r = 1 ∨ r = 2 ∨ r = 3 := by omega
theorem row58 : True := by
  (k_with "binaryOp Mult ref int" => (k_here; (with_reducible show wpAny _ _ (binaryOp Operator.Mult (Value.ref _) (Value.int _ _)) _ _ _); k_dflt (refine' mulOne ?F_r157 ?N_r157 ?l_r157 ?a_r157 ?b_r157 ?_; (case F_r157 => k_asm); (case N_r157 => k_asm); (case l_r157 => is_list); (case a_r157 => omega); (case b_r157 => omega); k_whole); intro D'ρ h'ρ n'ρ hn'ρ F'ρ N'ρ al'ρ))
  trivial
/-- the menu of words as texts -/
noncomputable def menuS : List Str := [Str.ofString "k", Str.ofString "m", Str.ofString "n", Str.ofString "p"]
noncomputable def ranksOf (xs : List (Option Str)) : List Str := menuS.filter fun x => decide (some x ∈ xs)
theorem ranksOf_mem {xs : List (Option Str)} (h : ∀ x ∈ xs, x ∈ wordMenu) (x : Str) : x ∈ ranksOf xs ↔ some x ∈ xs := by
  unfold ranksOf
  rw [List.mem_filter, decide_eq_true_eq]
  refine ⟨fun a => a.2, fun a => ⟨?_, a⟩⟩
  have := h _ a
  simp only [wordMenu, List.mem_cons, List.not_mem_nil, or_false, Option.some.injEq, reduceCtorEq] at this
  simp only [menuS, List.mem_cons, List.not_mem_nil, or_false]
  exact this
theorem take_filter_next {α : Type} {l : List α} {i : Nat} {x : α} (p : α → Bool) (h : l[i]? = some x) : (l.take (i + 1)).filter p = (l.take i).filter p ++ if p x then [x] else [] := by
  rw [take_next h, List.filter_append, List.filter_cons]
  split <;> simp
noncomputable abbrev LawGoal (w : World) (A : Around) (L : Addr) (b : List Stmt) (sc : Scope) (Q _E : Value → Shared → Prop) (s : Shared) : Prop :=
  wpAny (model pw w) (A.deeper (envOfC (Str.ofString "law") sc L 652 (.ref 651))) (execs b (envOfC (Str.ofString "law") sc L 652 (.ref 651)))
    (fun fl s' => Q (match fl with | .ret v => v | _ => .none) s')
    (fun _ _ => False) s
theorem FacAt.ofNews {w : World} {h₀ h : Heap} {L x dx l ad lv ldx lt cv cdx ct : Addr} {o : Obj} {vs lvs : List Value} {news : List (Addr × Obj)} {n a b c d e k n0 n1 a1 b1 c1 d1 e1 k1 n2 n3 a2 b2 c2 d2 e2 k2 n4 t : Nat} (N : News h₀ L h news)
    (m1 : (x, instObj 196 dx) ∈ news) (m2 : (dx, dictOf (vecEs w.params (Str.ofString "integer") (.ref l) (.ref ad) a b c d e k) n) ∈ news) (m3 : (l, W.listOf vs.toArray n0) ∈ news) (m4 : (ad, o) ∈ news) (hD : o.IsDictOf (PySem.strKind pw w) (facKvs (.ref lv) (.ref cv))) (lo : (ad == sysModules) = false) (m5 : (lv, instObj 196 ldx) ∈ news)
    (m6 : (ldx, dictOf (vecEs w.params (Str.ofString "character") (.ref lt) .none a1 b1 c1 d1 e1 k1) n1) ∈ news) (m7 : (lt, W.listOf lvs.toArray n2) ∈ news) (m8 : (cv, instObj 196 cdx) ∈ news) (m9 : (cdx, dictOf (vecEs w.params (Str.ofString "character") (.ref ct) .none a2 b2 c2 d2 e2 k2) n3) ∈ news)
    (m10 : (ct, W.listOf [Value.str (Str.ofString "factor") t].toArray n4) ∈ news) : FacAt w h x l vs lvs :=
  ⟨_, ad, o, lv, lt, cv, ct, _, _, _, VecAt.ofNews N m1 m2, (N _ m3).1, (N _ m4).1, hD, lo, VecAt.ofNews N m5 m6, (N _ m7).1, VecAt.ofNews N m8 m9, (N _ m10).1⟩
theorem row59 : True := by
  (k_with "m_fac" => first | assumption | exact FacAt.keeps (by assumption) (Fr.keep (by assumption)) | exact FacAt.ofNews (by k_asm) (by k_mem) (by k_mem) (by k_mem) (by k_mem) (by assumption) (by assumption) (by k_mem) (by k_mem) (by k_mem) (by k_mem) (by k_mem) (by k_mem))
  trivial
/-- the ten objects of a factor, in a ledger that is not looked into -/
inductive FacIn (w : World) (R : List (Addr × Obj)) (x l : Addr) (vs lvs : List Value) : Prop
  | mk : ∀ (dx ad : Addr) (n a b c d e k n0 : Nat), (x, instObj 196 dx) ∈ R → (dx, dictOf (vecEs w.params (Str.ofString "integer") (.ref l) (.ref ad) a b c d e k) n) ∈ R → (l, W.listOf vs.toArray n0) ∈ R →
  ∀ (o : Obj) (lv ldx lt cv cdx ct : Addr) (n1 a1 b1 c1 d1 e1 k1 n2 n3 a2 b2 c2 d2 e2 k2 n4 t : Nat), (ad, o) ∈ R → o.IsDictOf (PySem.strKind pw w) (facKvs (.ref lv) (.ref cv)) → (ad == sysModules) = false → (lv, instObj 196 ldx) ∈ R → (ldx, dictOf (vecEs w.params (Str.ofString "character") (.ref lt) .none a1 b1 c1 d1 e1 k1) n1) ∈ R → (lt, W.listOf lvs.toArray n2) ∈ R → (cv, instObj 196 cdx) ∈ R → (cdx, dictOf (vecEs w.params (Str.ofString "character") (.ref ct) .none a2 b2 c2 d2 e2 k2) n3) ∈ R → (ct, W.listOf [Value.str (Str.ofString "factor") t].toArray n4) ∈ R → FacIn w R x l vs lvs
theorem FacIn.at {w : World} {h₀ h : Heap} {L x l : Addr} {vs lvs : List Value} {R news : List (Addr × Obj)} (N : News h₀ L h news) (k : ∀ p ∈ R, p ∈ news) (f : FacIn w R x l vs lvs) : FacAt w h x l vs lvs := by
  refine letG ?_
  intro P9
  obtain ⟨dx, ad, n, a, b, c, d, e, k9, n0, m1, m2, m3, o, lv, ldx, lt, cv, cdx, ct, n1, a1, b1, c1, d1, e1, k1, n2, n3, a2, b2, c2, d2, e2, k2, n4, t, m4, hD, lo, m5, m6, m7, m8, m9, m10⟩ := f
  k_unfold
  try clear P9
  exact FacAt.ofNews N (k _ m1) (k _ m2) (k _ m3) (k _ m4) hD lo (k _ m5) (k _ m6) (k _ m7) (k _ m8) (k _ m9) (k _ m10)
theorem FacIn.vec {w : World} {R : List (Addr × Obj)} {x l : Addr} {vs lvs : List Value} {G : Prop} (f : FacIn w R x l vs lvs) (g : ∀ (dx ad : Addr) (n a b c d e k n0 : Nat), (x, instObj 196 dx) ∈ R → (dx, dictOf (vecEs w.params (Str.ofString "integer") (.ref l) (.ref ad) a b c d e k) n) ∈ R → (l, W.listOf vs.toArray n0) ∈ R → G) : G :=
  by
  cases f with
  | mk _ _ _ _ _ _ _ _ _ _ m1 m2 m3 => exact g _ _ _ _ _ _ _ _ _ _ m1 m2 m3
theorem FacIn.mono {w : World} {R R' : List (Addr × Obj)} {x l : Addr} {vs lvs : List Value} (k : ∀ p ∈ R, p ∈ R') (f : FacIn w R x l vs lvs) : FacIn w R' x l vs lvs := by
  refine letG ?_
  intro P9
  obtain ⟨dx, ad, n, a, b, c, d, e, k9, n0, m1, m2, m3, o, lv, ldx, lt, cv, cdx, ct, n1, a1, b1, c1, d1, e1, k1, n2, n3, a2, b2, c2, d2, e2, k2, n4, t, m4, hD, lo, m5, m6, m7, m8, m9, m10⟩ := f
  k_unfold
  try clear P9
  exact ⟨dx, ad, n, a, b, c, d, e, k9, n0, k _ m1, k _ m2, k _ m3, o, lv, ldx, lt, cv, cdx, ct, n1, a1, b1, c1, d1, e1, k1, n2, n3, a2, b2, c2, d2, e2, k2, n4, t, k _ m4, hD, lo, k _ m5, k _ m6, k _ m7, k _ m8, k _ m9, k _ m10⟩
theorem FacIn.of {w : World} {R : List (Addr × Obj)} {x dx l ad lv ldx lt cv cdx ct : Addr} {o : Obj} {vs lvs : List Value} {n a b c d e k n0 n1 a1 b1 c1 d1 e1 k1 n2 n3 a2 b2 c2 d2 e2 k2 n4 t : Nat}
    (m1 : (x, instObj 196 dx) ∈ R) (m2 : (dx, dictOf (vecEs w.params (Str.ofString "integer") (.ref l) (.ref ad) a b c d e k) n) ∈ R) (m3 : (l, W.listOf vs.toArray n0) ∈ R) (m4 : (ad, o) ∈ R) (hD : o.IsDictOf (PySem.strKind pw w) (facKvs (.ref lv) (.ref cv))) (lo : (ad == sysModules) = false) (m5 : (lv, instObj 196 ldx) ∈ R)
    (m6 : (ldx, dictOf (vecEs w.params (Str.ofString "character") (.ref lt) .none a1 b1 c1 d1 e1 k1) n1) ∈ R) (m7 : (lt, W.listOf lvs.toArray n2) ∈ R) (m8 : (cv, instObj 196 cdx) ∈ R) (m9 : (cdx, dictOf (vecEs w.params (Str.ofString "character") (.ref ct) .none a2 b2 c2 d2 e2 k2) n3) ∈ R)
    (m10 : (ct, W.listOf [Value.str (Str.ofString "factor") t].toArray n4) ∈ R) : FacIn w R x l vs lvs :=
  ⟨_, _, _, _, _, _, _, _, _, _, m1, m2, m3, _, _, _, _, _, _, _, _, _, _, _, _, _, _, _, _, _, _, _, _, _, _, _, _, m4, hD, lo, m5, m6, m7, m8, m9, m10⟩
theorem lawFacIn {w : World} {h₀ h h' : Heap} {L x l lt : Addr} {m : Str → Option Value} {news : List (Addr × Obj)} {vs lvs : List Value} {n0 n2 : Nat} (F : Fr h₀ L h m) (N : News h₀ L h news) (kp : Kept h h') (ff : LawFac w h h' x l lt) (m1 : (l, W.listOf vs.toArray n0) ∈ news) (m2 : (lt, W.listOf lvs.toArray n2) ∈ news) :
    ∃ R, News h₀ L h' R ∧ FacIn w R x l vs lvs ∧ ∀ p ∈ news, p ∈ R := by
  refine letG ?_
  intro P9
  obtain ⟨dx, ad, lv, ldx, cv, cdx, ct, o, n, a, b, c, d, e, k, n1, a1, b1, c1, d1, e1, k1, n3, a2, b2, c2, d2, e2, k2, n4, t, fr, hD, lo⟩ := ff
  k_unfold
  try clear P9
  obtain ⟨N', -⟩ := newsAll F N kp fr
  have up : ∀ p ∈ news, p ∈ [(x, instObj 196 dx), (dx, dictOf (vecEs w.params (Str.ofString "integer") (.ref l) (.ref ad) a b c d e k) n), (ad, o), (lv, instObj 196 ldx), (ldx, dictOf (vecEs w.params (Str.ofString "character") (.ref lt) .none a1 b1 c1 d1 e1 k1) n1), (cv, instObj 196 cdx), (cdx, dictOf (vecEs w.params (Str.ofString "character") (.ref ct) .none a2 b2 c2 d2 e2 k2) n3), (ct, W.listOf [Value.str (Str.ofString "factor") t].toArray n4)] ++ news := fun p hp => List.mem_append_right _ hp
  exact ⟨_, N', FacIn.of (.head _) (.tail _ (.head _)) (up _ m1) (.tail _ (.tail _ (.head _))) hD lo (.tail _ (.tail _ (.tail _ (.head _)))) (.tail _ (.tail _ (.tail _ (.tail _ (.head _))))) (up _ m2) (.tail _ (.tail _ (.tail _ (.tail _ (.tail _ (.head _)))))) (.tail _ (.tail _ (.tail _ (.tail _ (.tail _ (.tail _ (.head _))))))) (.tail _ (.tail _ (.tail _ (.tail _ (.tail _ (.tail _ (.tail _ (.head _)))))))), up⟩
theorem lawFacInk {w : World} {h₀ h h' : Heap} {L x l lt : Addr} {m : Str → Option Value} {news : List (Addr × Obj)} {vs lvs : List Value} {n0 n2 : Nat} {G : Prop} (F : Fr h₀ L h m) (N : News h₀ L h news) (kp : Kept h h') (ff : LawFac w h h' x l lt) (m1 : (l, W.listOf vs.toArray n0) ∈ news) (m2 : (lt, W.listOf lvs.toArray n2) ∈ news)
    (g : ∀ R, News h₀ L h' R → FacIn w R x l vs lvs → (∀ p ∈ news, p ∈ R) → G) : G :=
  let ⟨R, a, b, c⟩ := lawFacIn F N kp ff m1 m2
  g R a b c
theorem row60 : True := by
  (k_with "call ref" => (k_here; (with_reducible show wpAny _ _ (call (Value.ref 640) _) _ _ _); k_dflt (refine' law_factor_c ?h1_r159 ?h2_r159 ?C_r159 ?d_r159 ?u_r159 ?_; (case h1_r159 => walk_at "m_get"); (case h2_r159 => walk_at "m_get"); (case C_r159 => walk_at "m_cx"); (case d_r159 => walk_at "m_dep"); (case u_r159 => walk_at "m_dep"); k_whole); intro x'ρ h'ρ tk'ρ kp'ρ ff'ρ; (with_reducible rename Fr _ _ _ _ => mFρ); (with_reducible rename News _ _ _ _ => mNρ); (have F'ρ := Fr.keeps mFρ kp'ρ); k_dflt (refine lawFacInk mFρ mNρ kp'ρ ff'ρ (by k_mem) (by k_mem) ?_); intro R'ρ N'ρ fi'ρ hR'ρ; (try clear mNρ); (try clear mFρ); (try clear kp'ρ); (try clear ff'ρ); (try dsimp only)))
  (k_with "m_fac" => first | with_reducible assumption | (refine' FacIn.at ?N_r160 ?k_r160 ?f_r160; (case N_r160 => k_asm); (case f_r160 => with_reducible assumption); (case k_r160 => walk_at "m_sub")))
  trivial
theorem strMulBig {w : World} {A : Around} {E : Value → Shared → Prop} {s : Shared} {x : Str} {t u : Tok} {Q : Value → Shared → Prop} {n : Int} (hx : x.length = 1) (hn : n = 15000000) (h : ∀ (z : Str) t' k, z.length = 15000000 → Q (.str z t') { s with toks := k }) : wpAny (model pw w) A (binaryOp .Mult (.str x t) (.int n u)) Q E s := by
  refine SB.mul (mulOk_of 1 16777216 (by omega) (by omega) (by omega) (by decide) (by decide)) fun t' k => h _ t' k ?_
  have e := len_mul x n
  rw [if_neg (fun c => absurd (of_decide_eq_true c) (by omega)), hx] at e
  omega
theorem backX {h₀ h h' : Heap} {L : Addr} {m : Str → Option Value} {news : List (Addr × Obj)} {env : Env} (F : Fr h₀ L h m) (N : News h₀ L h news) (hf : env.frame = some L) (kx : KeptX [env] h h') (ux : Upto h h') : Fr h₀ L h' m ∧ News h₀ L h' news := by
  have ne : ∀ b, b ≠ L → b ∉ [env].filterMap (·.frame) := fun b hb hm => by
    rw [List.filterMap_cons, hf] at hm
    rcases List.mem_cons.mp hm with e | hm
    · exact hb e
    · exact nomatch hm
  refine ⟨F.of_stays (fun b o hb => kx b o (F.keep _ _ hb) (ne b (Nat.ne_of_lt (Nat.lt_of_lt_of_le (Heap.lt_size hb) F.above)))) ux, fun p hp => ⟨kx _ _ (N p hp).1 (ne _ (N p hp).2.1), (N p hp).2⟩⟩
theorem backXk {h₀ h h' : Heap} {L : Addr} {m : Str → Option Value} {news : List (Addr × Obj)} {env : Env} {G : Prop} (F : Fr h₀ L h m) (N : News h₀ L h news) (hf : env.frame = some L) (kx : KeptX [env] h h') (ux : Upto h h') (g : Fr h₀ L h' m → News h₀ L h' news → G) : G := g (backX F N hf kx ux).1 (backX F N hf kx ux).2
theorem row61 : True := by
  (k_with "m_backX" => (intro h'ρ tk'ρ tv'ρ kx'ρ ux'ρ; (with_reducible rename Fr _ _ _ _ => mFρ); (with_reducible rename News _ _ _ _ => mNρ); (refine backXk mFρ mNρ rfl kx'ρ ux'ρ ?_); intro F'ρ N'ρ; (try clear mNρ); (try clear mFρ); (try clear kx'ρ); (try clear ux'ρ); (try dsimp only)))
  (k_with "call ref" => (k_here; (with_reducible show wpAny _ _ (call (Value.ref 647) [Value.ref 614, _]) _ _ _); k_dflt (refine' told_cmp ?l_r162 ?o_r162 ?C_r162 ?X_r162 ?T_r162 ?d_r162 ?u_r162 ?_; (case l_r162 => walk_at "m_get"); (case o_r162 => assumption); (case C_r162 => walk_at "m_cx"); (case X_r162 => assumption); (case T_r162 => assumption); (case d_r162 => walk_at "m_dep"); (case u_r162 => walk_at "m_dep"); k_whole); walk_at "m_backX"))
  (k_with "call ref" => (k_here; (with_reducible show wpAny _ _ (call (Value.ref 647) [Value.ref 567, _]) _ _ _); k_dflt (refine' told_inter ?al_r163 ?f_r163 ?g_r163 ?q1_r163 ?q2_r163 ?p1_r163 ?p2_r163 ?z1_r163 ?z2_r163 ?y1_r163 ?y2_r163 ?n1_r163 ?n2_r163 ?s_r163 ?C_r163 ?d_r163 ?u_r163 ?_; (case al_r163 => walk_at "m_get"); (case f_r163 => walk_at "m_fac"); (case g_r163 => walk_at "m_fac"); (case q1_r163 => with_reducible assumption); (case q2_r163 => with_reducible assumption); (case p1_r163 => with_reducible assumption); (case p2_r163 => with_reducible assumption); (case z1_r163 => walk_at "m_num"); (case z2_r163 => walk_at "m_num"); (case y1_r163 => walk_at "m_num"); (case y2_r163 => walk_at "m_num"); (case n1_r163 => with_reducible assumption); (case n2_r163 => with_reducible assumption); (case s_r163 => walk_at "m_num"); (case C_r163 => walk_at "m_cx"); (case d_r163 => walk_at "m_dep"); (case u_r163 => walk_at "m_dep"); k_whole); intro a'ρ l'ρ lt'ρ ct'ρ us'ρ ns'ρ n0'ρ n1'ρ n2'ρ t'ρ h'ρ tk'ρ kp'ρ hfr'ρ; (with_reducible rename Fr _ _ _ _ => mFρ); (with_reducible rename News _ _ _ _ => mNρ); (refine toldBack mFρ mNρ kp'ρ hfr'ρ ?_); intro F'ρ N'ρ ne'ρ; (try clear mNρ); (try clear mFρ); (try clear kp'ρ); (try clear hfr'ρ); intro hc'ρ hn'ρ))
  (k_with "call ref" => (k_here; (with_reducible show wpAny _ _ (call (Value.ref 647) [Value.ref 567, _]) _ _ _); k_dflt (refine' told_inter_r ?al_r164 ?f_r164 ?g_r164 ?q1_r164 ?q2_r164 ?p1_r164 ?p2_r164 ?z1_r164 ?z2_r164 ?y1_r164 ?y2_r164 ?n1_r164 ?n2_r164 ?s_r164 ?b_r164 ?C_r164 ?X_r164 ?T_r164 ?d_r164 ?u_r164 ?_; (case al_r164 => walk_at "m_get"); (case f_r164 => walk_at "m_fac"); (case g_r164 => walk_at "m_fac"); (case q1_r164 => with_reducible assumption); (case q2_r164 => with_reducible assumption); (case p1_r164 => with_reducible assumption); (case p2_r164 => with_reducible assumption); (case z1_r164 => walk_at "m_num"); (case z2_r164 => walk_at "m_num"); (case y1_r164 => walk_at "m_num"); (case y2_r164 => walk_at "m_num"); (case n1_r164 => with_reducible assumption); (case n2_r164 => with_reducible assumption); (case s_r164 => walk_at "m_num"); (case b_r164 => with_reducible assumption); (case C_r164 => walk_at "m_cx"); (case X_r164 => assumption); (case T_r164 => assumption); (case d_r164 => walk_at "m_dep"); (case u_r164 => walk_at "m_dep"); k_whole); walk_at "m_backX"))
  (k_with "call ref" => (k_here; (with_reducible show wpAny _ _ (call (Value.ref 647) [Value.ref 579, _]) _ _ _); k_dflt (refine' told_comb ?al_r165 ?l_r165 ?p_r165 ?h1_r165 ?h2_r165 ?C_r165 ?d_r165 ?u_r165 ?_; (case al_r165 => walk_at "m_get"); (case l_r165 => walk_at "m_get"); (case p_r165 => assumption); (case h1_r165 => walk_at "m_num"); (case h2_r165 => walk_at "m_num"); (case C_r165 => walk_at "m_cx"); (case d_r165 => walk_at "m_dep"); (case u_r165 => walk_at "m_dep"); k_whole); intro a'ρ l'ρ lt'ρ ct'ρ us'ρ ns'ρ n0'ρ n1'ρ n2'ρ t'ρ h'ρ tk'ρ kp'ρ hfr'ρ; (with_reducible rename Fr _ _ _ _ => mFρ); (with_reducible rename News _ _ _ _ => mNρ); (refine toldBack mFρ mNρ kp'ρ hfr'ρ ?_); intro F'ρ N'ρ ne'ρ; (try clear mNρ); (try clear mFρ); (try clear kp'ρ); (try clear hfr'ρ); intro hc'ρ hn'ρ))
  (k_with "call ref" => (k_here; (with_reducible show wpAny _ _ (call (Value.ref 647) [Value.ref 579, _]) _ _ _); k_dflt (refine' told_comb_r ?al_r166 ?l_r166 ?p_r166 ?h1_r166 ?h2_r166 ?b_r166 ?C_r166 ?X_r166 ?T_r166 ?d_r166 ?u_r166 ?_; (case al_r166 => walk_at "m_get"); (case l_r166 => walk_at "m_get"); (case p_r166 => assumption); (case h1_r166 => walk_at "m_num"); (case h2_r166 => walk_at "m_num"); (case b_r166 => with_reducible assumption); (case C_r166 => walk_at "m_cx"); (case X_r166 => assumption); (case T_r166 => assumption); (case d_r166 => walk_at "m_dep"); (case u_r166 => walk_at "m_dep"); k_whole); walk_at "m_backX"))
  trivial
theorem eqOI {w : World} {A : Around} {E : Value → Shared → Prop} {s : Shared} {a b : Addr} {vs ws : List Value} {xs : List (Option Int)} {n n' : Nat} {Q : Value → Shared → Prop} (hp : Paired IsOI vs xs) (hp' : Paired IsOI ws xs) (hl : s.heap.get? a = some (W.listOf vs.toArray n)) (hl' : s.heap.get? b = some (W.listOf ws.toArray n')) (hu : A.units + 64 < cLine) (h : Q (.bool true) s) : wpAny (model pw w) A (compareOp .Eq (.ref a) (.ref b)) Q E s :=
  eqSame (listReads hl (readsOI hp)) (listReads hl' (readsOI hp')) (by
    have a := depOI xs
    show (PyData.canLay0 _ && decide (PyData.depth _ ≤ 64)) = true
    rw [Bool.and_eq_true]
    exact ⟨by simp [PyData.canLay0, layOI], decide_eq_true (by simp only [PyData.depth]; omega)⟩) (by simp [PySem.SeqAt.noMix, mixOI]) hu h
theorem neOI {w : World} {A : Around} {E : Value → Shared → Prop} {s : Shared} {a b : Addr} {vs ws : List Value} {xs : List (Option Int)} {n n' : Nat} {Q : Value → Shared → Prop} (hp : Paired IsOI vs xs) (hp' : Paired IsOI ws xs) (hl : s.heap.get? a = some (W.listOf vs.toArray n)) (hl' : s.heap.get? b = some (W.listOf ws.toArray n')) (hu : A.units + 64 < cLine) (h : Q (.bool false) s) : wpAny (model pw w) A (compareOp .NotEq (.ref a) (.ref b)) Q E s :=
  neSame (listReads hl (readsOI hp)) (listReads hl' (readsOI hp')) (by
    have a := depOI xs
    show (PyData.canLay0 _ && decide (PyData.depth _ ≤ 64)) = true
    rw [Bool.and_eq_true]
    exact ⟨by simp [PyData.canLay0, layOI], decide_eq_true (by simp only [PyData.depth]; omega)⟩) (by simp [PySem.SeqAt.noMix, mixOI]) hu h
theorem row62 : True := by
  (k_with "compareOp Eq ref ref" => (k_here; (with_reducible show wpAny _ _ (compareOp CmpOp.Eq (Value.ref _) (Value.ref _)) _ _ _); k_dflt (refine' eqOI ?p_r167 ?q_r167 ?a_r167 ?b_r167 ?u_r167 ?_; (case a_r167 => walk_at "m_get"); (case b_r167 => walk_at "m_get"); (case p_r167 => with_reducible assumption); (case q_r167 => with_reducible assumption); (case u_r167 => k_units); k_whole)))
  (k_with "compareOp NotEq ref ref" => (k_here; (with_reducible show wpAny _ _ (compareOp CmpOp.NotEq (Value.ref _) (Value.ref _)) _ _ _); k_dflt (refine' neOI ?p_r168 ?q_r168 ?a_r168 ?b_r168 ?u_r168 ?_; (case a_r168 => walk_at "m_get"); (case b_r168 => walk_at "m_get"); (case p_r168 => with_reducible assumption); (case q_r168 => with_reducible assumption); (case u_r168 => k_units); k_whole)))
  (k_with "binaryOp Mult str int" => (k_here; k_dflt (refine' strMulBig ?x_r169 ?n_r169 ?_; (case x_r169 => first | rfl | decide); (case n_r169 => rfl); k_whole); intro z'ρ t'ρ k'ρ hz'ρ))
  trivial
noncomputable def StopCall (_ : Addr) : Prop := True
theorem stopCall {M : Model} {A : Around} {f : Addr} {args : List Value} {Q : Value → Shared → Prop} {E : Value → Shared → Prop} {s : Shared} (_ : StopCall f) (h : Halt (wpAny M A (call (.ref f) args) Q E s)) : wpAny M A (call (.ref f) args) Q E s := h
theorem row63 : True := by
  (k_with "call ref" => (k_here; refine' stopCall ?st_r170 ?_; (case st_r170 => with_reducible assumption)))
  trivial
theorem subNews {h₀ h : Heap} {L : Addr} {big small : List (Addr × Obj)} (N : News h₀ L h big) (k : ∀ p ∈ small, p ∈ big) : News h₀ L h small := fun p hp => N p (k p hp)
theorem row64 : True := by
  (k_with "m_pick" => first | (refine' subCons (by k_mem) ?zz_r171; (case zz_r171 => walk_at "m_pick")) | exact fun _ h => nomatch h)
  (k_with "m_names" => first | exact frName (by with_unfolding_all rfl) (frName (by with_unfolding_all rfl) (frName (by with_unfolding_all rfl) (frName (by with_unfolding_all rfl) (by assumption)))))
  trivial
theorem neTold {w : World} {A : Around} {E : Value → Shared → Prop} {s : Shared} {Q : Value → Shared → Prop} {a l lt ct a' l' lt' ct' : Addr} {us ns fs us' ns' fs' : List Value} {cs : List (Option Int)} {xs : List Str} {n0 n1 n2 n0' n1' n2' : Nat}
    (ha : s.heap.get? a = some (tupOf [.ref l, .ref lt, .ref ct])) (hl : s.heap.get? l = some (W.listOf us.toArray n0)) (ht : s.heap.get? lt = some (W.listOf ns.toArray n1)) (hc : s.heap.get? ct = some (W.listOf fs.toArray n2))
    (ha' : s.heap.get? a' = some (tupOf [.ref l', .ref lt', .ref ct'])) (hl' : s.heap.get? l' = some (W.listOf us'.toArray n0')) (ht' : s.heap.get? lt' = some (W.listOf ns'.toArray n1')) (hc' : s.heap.get? ct' = some (W.listOf fs'.toArray n2'))
    (hu : Paired IsOI us cs) (hu' : Paired IsOI us' cs) (hn : Paired IsS ns xs) (hn' : Paired IsS ns' xs) (hf : Paired IsS fs [Str.ofString "factor"]) (hf' : Paired IsS fs' [Str.ofString "factor"]) (hok : ∀ x ∈ xs, PyData.strOk x = true) (hun : A.units + 64 < cLine)
    (h : Q (.bool false) s) : wpAny (model pw w) A (compareOp .NotEq (.ref a) (.ref a')) Q E s :=
  neSame (toldReads ha hl ht hc hu hn hf) (toldReads ha' hl' ht' hc' hu' hn' hf') (toldD_shaped cs hok) (toldD_mix cs xs) hun h
theorem row65 : True := by
  (k_with "compareOp NotEq ref ref" => (k_here; (with_reducible show wpAny _ _ (compareOp CmpOp.NotEq (Value.ref _) (Value.ref _)) _ _ _); k_dflt (refine' neTold ?a_r173 ?b_r173 ?c_r173 ?d_r173 ?e_r173 ?f_r173 ?g_r173 ?i_r173 ?u1_r173 ?u2_r173 ?n1_r173 ?n2_r173 ?f1_r173 ?f2_r173 ?k_r173 ?un_r173 ?_; (case a_r173 => walk_at "m_get"); (case b_r173 => walk_at "m_get"); (case c_r173 => walk_at "m_get"); (case d_r173 => walk_at "m_get"); (case e_r173 => walk_at "m_get"); (case f_r173 => walk_at "m_get"); (case g_r173 => walk_at "m_get"); (case i_r173 => walk_at "m_get"); (case u1_r173 => with_reducible assumption); (case u2_r173 => with_reducible assumption); (case n1_r173 => with_reducible assumption); (case n2_r173 => with_reducible assumption); (case f1_r173 => exact .cons ⟨_, rfl⟩ .nil); (case f2_r173 => exact .cons ⟨_, rfl⟩ .nil); (case k_r173 => with_reducible assumption); (case un_r173 => k_units); k_whole)))
  trivial
theorem told_two {w : World} {A : Around} {base : Heap} {outer : List Env} {loose : List Str} {mean : ExcName → Option Value} {mg mb : Str → Option Value} {s : Shared} {E : Value → Shared → Prop} {Q : Value → Shared → Prop} {al pl x1 l1 x2 l2 : Addr} {v1 w1 v2 w2 : List Value} {c1 c2 cs : List (Option Int)} {xs1 xs2 ns : List Str} {k1 k2 : Nat}
    (hal : s.heap.get? al = some (W.listOf [Value.ref pl].toArray k1)) (hpl : s.heap.get? pl = some (W.listOf [Value.ref x1, Value.ref x2].toArray k2)) (hf : FacAt w s.heap x1 l1 v1 w1) (hg : FacAt w s.heap x2 l2 v2 w2)
    (q1 : Paired IsS w1 xs1) (p1 : Paired (IsCode w1.length) v1 c1) (z1 : v1.length ≤ 10) (y1 : w1.length ≤ 10) (q2 : Paired IsS w2 xs2) (p2 : Paired (IsCode w2.length) v2 c2) (z2 : v2.length ≤ 10) (y2 : w2.length ≤ 10)
    (ecs : combCodes [⟨x1, l1, v1, w1, c1, xs1⟩, ⟨x2, l2, v2, w2, c2, xs2⟩] = cs) (ens : combNames [⟨x1, l1, v1, w1, c1, xs1⟩, ⟨x2, l2, v2, w2, c2, xs2⟩] = ns)
    (C : Cx w A base outer loose mean mg mb s.heap) (hd : A.depth + 27 ≤ 700) (hu : A.units + 270 ≤ 8000)
    (hret : ∀ a l' lt ct us vs n0 n1 n2 t h' tk', Kept s.heap h' → (∀ p ∈ toldNews a l' lt ct us vs n0 n1 n2 t, Fresh s.heap h' p.1 p.2) → Paired IsOI us cs → Paired IsS vs ns → Q (.ref a) { s with heap := h', toks := tk' }) :
    wpAny (model pw w) A (call (.ref 647) [.ref 579, .ref al]) Q E s := by
  subst ecs ens
  refine told_comb (ps := [⟨x1, l1, v1, w1, c1, xs1⟩, ⟨x2, l2, v2, w2, c2, xs2⟩]) hal hpl ?_ (Nat.le_of_ble_eq_true rfl) (Nat.le_of_ble_eq_true rfl) C hd hu hret
  intro p hp
  rcases List.mem_cons.mp hp with rfl | hp
  · exact ⟨hf, q1, p1, y1, z1⟩
  · obtain rfl := List.mem_singleton.mp hp
    exact ⟨hg, q2, p2, y2, z2⟩
/-! names and codes -/
noncomputable def namesC (c : String) (n : Nat) : List Str := (List.range n).map fun i : Nat => Str.ofString c ++ Str.ofString (toString (i : Int))
theorem namesC_len (c : String) (n : Nat) : (namesC c n).length = n := by unfold namesC; rw [List.length_map, List.length_range]
theorem namesC_next (c : String) (n : Nat) : namesC c (n + 1) = namesC c n ++ [Str.ofString c ++ Str.ofString (toString (n : Int))] := by
  unfold namesC; rw [List.range_succ, List.map_append]; rfl
theorem namesC_ok (c : String) (n : Nat) : ∀ x ∈ namesC c n, PyData.strOk x = true := by
  intro x hx
  refine letG ?_
  intro P9
  obtain ⟨i, _, rfl⟩ := List.mem_map.mp hx
  k_unfold
  try clear P9
  exact okApp (okOf _) (okOf _)
structure In4 (n : Nat) : Prop where
  mem : n ∈ [1, 2, 3, 4]
theorem In4.le {n : Nat} (h : In4 n) : 1 ≤ n ∧ n ≤ 4 := by have := h.mem; simp at this; omega
theorem names_nodup : ∀ a ∈ [1, 2, 3, 4], ∀ b ∈ [1, 2, 3, 4], (namesC "a" a ++ namesC "b" b).Nodup := by decide +kernel
theorem names_short : ∀ a ∈ [1, 2, 3, 4], (∀ x ∈ namesC "a" a, x.length ≤ 10) ∧ (∀ x ∈ namesC "b" a, x.length ≤ 10) := by decide +kernel
theorem distinctT_of_nodup : ∀ (ns : List Str), ns.Nodup → distinctT (ns.map some) = ns := by
  have go : ∀ (ns acc : List Str), (acc ++ ns).Nodup → (ns.map some).foldl dstep acc = acc ++ ns := by
    intro ns
    induction ns with
    | nil => intro acc _; simp
    | cons x ns ih =>
      intro acc h
      rw [List.map_cons, List.foldl_cons]
      have hx : x ∉ acc := fun hm => (List.nodup_append.mp h).2.2 x hm x (.head _) rfl
      have e : dstep acc (some x) = acc ++ [x] := by
        unfold dstep
        simp [hx]
      rw [e, ih (acc ++ [x]) (by simpa using h)]
      simp
  intro ns h
  exact go ns [] (by simpa using h)
theorem codeOf_at {ns : List Str} (h : ns.Nodup) {k : Nat} {x : Str} (hk : ns[k]? = some x) : codeOf ns x = some ((k : Int) + 1) := by
  unfold codeOf
  have e : ns.findIdx? (fun y => decide (y = x)) = some k := by
    obtain ⟨hlt, hx⟩ := List.getElem?_eq_some_iff.mp hk
    rw [List.findIdx?_eq_some_iff_getElem]
    refine ⟨hlt, by simp [hx], fun j hj => ?_⟩
    simp only [decide_eq_true_eq]
    intro q
    exact absurd ((List.getElem_inj h).mp (q.trans hx.symm)) (by omega)
  rw [e]; rfl
theorem combAt_left {n : Nat} {xs ys : List Str} (hn : (xs ++ ys).Nodup) (hl : xs.length = n) {vs : List Value} {cs : List (Option Int)} (p : Paired (IsCode n) vs cs) : (cs.map (codeText xs)).map (·.bind (codeOf (xs ++ ys))) = cs := by
  induction p with
  | nil => rfl
  | @cons a b _ _ hv t ih =>
    rw [List.map_cons, List.map_cons, ih]
    cases b with
    | none => rfl
    | some i =>
      refine letG ?_
      intro P9
      obtain ⟨u, _, h1, h2⟩ := hv
      k_unfold
      try clear P9
      congr 1
      have hlt : (i - 1).toNat < xs.length := by omega
      show (xs[(i - 1).toNat]?).bind _ = _
      rw [List.getElem?_eq_getElem hlt, Option.bind_some, codeOf_at hn (k := (i - 1).toNat) (by rw [List.getElem?_append_left hlt]; exact List.getElem?_eq_getElem hlt)]
      congr 1; omega
theorem combAt_right {n : Nat} {xs ys : List Str} (hn : (xs ++ ys).Nodup) (hl : ys.length = n) {vs : List Value} {cs : List (Option Int)} (p : Paired (IsCode n) vs cs) : (cs.map (codeText ys)).map (·.bind (codeOf (xs ++ ys))) = cs.map (Option.map (· + (xs.length : Int))) := by
  induction p with
  | nil => rfl
  | @cons a b _ _ hv t ih =>
    rw [List.map_cons, List.map_cons, ih, List.map_cons]
    cases b with
    | none => rfl
    | some i =>
      refine letG ?_
      intro P9
      obtain ⟨u, _, h1, h2⟩ := hv
      k_unfold
      try clear P9
      congr 1
      have hlt : (i - 1).toNat < ys.length := by omega
      show (ys[(i - 1).toNat]?).bind _ = _
      rw [List.getElem?_eq_getElem hlt, Option.bind_some, codeOf_at hn (k := xs.length + (i - 1).toNat) (by rw [List.getElem?_append_right (by omega), Nat.add_sub_cancel_left]; exact List.getElem?_eq_getElem hlt)]
      show some (((xs.length + (i - 1).toNat : Nat) : Int) + 1) = some (i + (xs.length : Int))
      congr 1; omega
theorem row66 : True := by
  (k_with "m_backT" => (intro a'ρ l'ρ lt'ρ ct'ρ us'ρ ns'ρ n0'ρ n1'ρ n2'ρ t'ρ h'ρ tk'ρ kp'ρ hfr'ρ; (with_reducible rename Fr _ _ _ _ => mFρ); (with_reducible rename News _ _ _ _ => mNρ); (refine toldBack mFρ mNρ kp'ρ hfr'ρ ?_); intro F'ρ N'ρ ne'ρ; (try clear mNρ); (try clear mFρ); (try clear kp'ρ); (try clear hfr'ρ); intro hc'ρ hn'ρ))
  trivial
theorem opOf {a b : Nat} {i : Nat} {v : Value} (h : [Value.str (Str.ofString "==") a, Value.str (Str.ofString "!=") b][i]? = some v) : ∃ op t, v = .str op t ∧ (op = Str.ofString "==" ∨ op = Str.ofString "!=") := by
  rcases i with _ | _ | i
  · obtain rfl := Option.some.inj h; exact ⟨_, _, rfl, .inl rfl⟩
  · obtain rfl := Option.some.inj h; exact ⟨_, _, rfl, .inr rfl⟩
  · simp at h
section
variable {w : World} {A : Around} {loose : List Str} {mean : ExcName → Option Value} {mg mb : Str → Option Value} {s : Shared} {E : Value → Shared → Prop} {Q : Value → Shared → Prop}
theorem law_24 {L tk : Nat} {h h₀ : Heap} {m : Str → Option Value} {R : List (Addr × Obj)} {fx gx l1 l2 fa sa : Addr} {fv sv w1 w2 : List Value} {cs1 cs2 : List (Option Int)} {m3 m4 : Nat}
    (B : Below A h₀ [] h₀) (X : (K w.params).In h₀) (T : Top q loose mean mg mb h₀) (hh : A.handled = none) (hd : A.depth + 60 ≤ 700) (hu : A.units + 600 ≤ 8000)
    (F : Fr h₀ L h (fun y => if y = Str.ofString "f" then some (.ref fx) else if y = Str.ofString "g" then some (.ref gx) else if y = Str.ofString "first" then some (.ref fa) else if y = Str.ofString "second" then some (.ref sa) else m y))
    (N : News h₀ L h R) (fi : FacIn w R fx l1 fv w1) (gi : FacIn w R gx l2 sv w2) (mf : (fa, W.listOf fv.toArray m3) ∈ R) (ms : (sa, W.listOf sv.toArray m4) ∈ R)
    (p1 : Paired IsOI fv cs1) (p2 : Paired IsOI sv cs2) (z1 : fv.length ≤ 10) (z2 : sv.length ≤ 10)
    (hret : ∀ h' tk', Kept h₀ h' → Q (.bool true) { s with heap := h', toks := tk' }) :
    LawGoal w A L (lawB (restOf_of 103 24 rfl)) (lawSc (restOf_of 103 24 rfl)) Q noE { s with heap := h, toks := tk } := by
  unfold LawGoal
  dsimp only [lawB, lawSc]
  k_dflt k_whole
  k_fold
  have calm9 : Calm := trivial
  refine fi.vec ?_
  intro fdx ad1 f0 f1 f2 f3 f4 f5 f6 f7 fm1 fm2 fm3
  refine gi.vec ?_
  intro gdx ad2 g0 g1 g2 g3 g4 g5 g6 g7 gm1 gm2 gm3
  clear fi gi
  have st9 : StopCall 647 := trivial
  k_steps
  clear st9
  refine Halt.of ?_
  rename _ = 15000000 => hz9
  rename Str => z9
  k_dflt (refine' told_inter_r (xs1 := [z9]) (xs2 := [z9]) (cs1 := [some 1]) (cs2 := [some 1]) ?al ?f ?g ?q1 ?q2 ?p1 ?p2 ?z1 ?z2 ?y1 ?y2 ?n1 ?n2 ?s ?b ?C ?X ?T ?d ?u ?_)
  case al => walk_at "m_get"
  case f => walk_at "m_fac"
  case g => walk_at "m_fac"
  case q1 => exact .cons ⟨_, rfl⟩ .nil
  case q2 => exact .cons ⟨_, rfl⟩ .nil
  case p1 => exact .cons ⟨_, rfl, Int.le_refl 1, Int.le_refl 1⟩ .nil
  case p2 => exact .cons ⟨_, rfl, Int.le_refl 1, Int.le_refl 1⟩ .nil
  case z1 => exact Nat.le_of_ble_eq_true rfl
  case z2 => exact Nat.le_of_ble_eq_true rfl
  case y1 => exact Nat.le_of_ble_eq_true rfl
  case y2 => exact Nat.le_of_ble_eq_true rfl
  case n1 => intro x hx; rw [List.mem_singleton.mp hx, hz9]; omega
  case n2 => intro x hx; rw [List.mem_singleton.mp hx, hz9]; omega
  case s => exact Nat.le_of_ble_eq_true rfl
  case b => (simp only [List.map_cons, List.map_nil, List.sum_cons, List.sum_nil, List.length_cons, List.length_nil, hz9]; omega)
  case C => walk_at "m_cx"
  case X => exact X
  case T => exact T
  case d => walk_at "m_dep"
  case u => walk_at "m_dep"
  k_whole
  walk_at "m_backX"
  k_steps
  rename News _ _ _ _ => N1
  rename Fr _ _ _ _ => F1
  refine' forListN (vs := [Value.str (Str.ofString "==") _, Value.str (Str.ofString "!=") _]) [] (fun i u nw => nw = _) hh ?hl F1 N1 rfl ?_ ?_
  case hl =>
    rintro i u nw rfl
    k_mem
  · rintro i v u nw I oI h₂ tk₂ hi rfl F2 N2 hne
    intros
    clear N1 F1
    refine letG ?_
    intro P9
    obtain ⟨op, top, rfl, hop⟩ := opOf hi
    k_unfold
    try clear P9
    k_steps
    walk_at "m_tend"
    exact ⟨_, rfl, by lcg_sub, hne⟩
  · rintro u nw h₂ tk₂ rfl F2 N2
    clear N1 F1
    k_steps
    exact hret _ _ (Fr.keep (by assumption))
end
theorem codeReplicate {t : Tok} : ∀ n : Nat, Paired (IsCode 1) (List.replicate n (Value.int 1 t)) (List.replicate n (some 1))
  | 0 => .nil
  | n + 1 => .cons ⟨t, rfl, Int.le_refl 1, Int.le_refl 1⟩ (codeReplicate n)
theorem told_long {w : World} {A : Around} {base : Heap} {outer : List Env} {loose : List Str} {mean : ExcName → Option Value} {mg mb : Str → Option Value} {s : Shared} {E : Value → Shared → Prop} {Q : Value → Shared → Prop} {al pl x1 l1 x2 l2 : Addr} {v1 w1 : List Value} {c1 : List (Option Int)} {xs1 : List Str} {n k1 k2 : Nat} {t t2 : Tok} {y : Str}
    (hal : s.heap.get? al = some (W.listOf [Value.ref pl].toArray k1)) (hpl : s.heap.get? pl = some (W.listOf [Value.ref x1, Value.ref x2, Value.ref x2].toArray k2)) (hf : FacAt w s.heap x1 l1 v1 w1) (hg : FacAt w s.heap x2 l2 (List.replicate n (Value.int 1 t)) [Value.str y t2])
    (q1 : Paired IsS w1 xs1) (p1 : Paired (IsCode w1.length) v1 c1) (z1 : v1.length ≤ 10) (y1 : w1.length ≤ 10) (hn : (n : Int) = 600000)
    (C : Cx w A base outer loose mean mg mb s.heap) (X0 : (K w.params).In base) (T0 : Top q loose mean mg mb base) (hd : A.depth + 27 ≤ 700) (hu : A.units + 270 ≤ 8000)
    (hret : ∀ h' tk' tv, KeptX outer s.heap h' → Upto s.heap h' → Q (.str (Str.ofString "cannot allocate vector of length " ++ Str.ofString (toString (1200000 + (v1.length : Int)))) tv) { s with heap := h', toks := tk' }) :
    wpAny (model pw w) A (call (.ref 647) [.ref 579, .ref al]) Q E s := by
  have hP : PartAt w s.heap 1000000 ⟨x2, l2, List.replicate n (Value.int 1 t), [Value.str y t2], List.replicate n (some 1), [y]⟩ := ⟨hg, .cons ⟨_, rfl⟩ .nil, codeReplicate n, Nat.le_of_ble_eq_true rfl, by rw [List.length_replicate]; omega⟩
  have hsum : (([⟨x1, l1, v1, w1, c1, xs1⟩, ⟨x2, l2, List.replicate n (Value.int 1 t), [Value.str y t2], List.replicate n (some 1), [y]⟩, ⟨x2, l2, List.replicate n (Value.int 1 t), [Value.str y t2], List.replicate n (some 1), [y]⟩] : List Part).map fun p => (p.vs.length : Int)).sum = 1200000 + (v1.length : Int) := by
    simp only [List.map_cons, List.map_nil, List.sum_cons, List.sum_nil, List.length_replicate]; omega
  refine told_comb_r (ps := [⟨x1, l1, v1, w1, c1, xs1⟩, ⟨x2, l2, List.replicate n (Value.int 1 t), [Value.str y t2], List.replicate n (some 1), [y]⟩, ⟨x2, l2, List.replicate n (Value.int 1 t), [Value.str y t2], List.replicate n (some 1), [y]⟩]) hal hpl ?_ (Nat.le_of_ble_eq_true rfl) (Nat.le_of_ble_eq_true rfl) (by rw [hsum]; omega) C X0 T0 hd hu (by rw [hsum]; exact hret)
  intro p hp
  rcases List.mem_cons.mp hp with rfl | hp
  · exact ⟨hf, q1, p1, y1, by show v1.length ≤ _; omega⟩
  · rcases List.mem_cons.mp hp with rfl | hp
    · exact hP
    · obtain rfl := List.mem_singleton.mp hp
      exact hP
section
variable {w : World} {A : Around} {loose : List Str} {mean : ExcName → Option Value} {mg mb : Str → Option Value} {s : Shared} {E : Value → Shared → Prop} {Q : Value → Shared → Prop}
theorem law_22 {L tk : Nat} {h h₀ : Heap} {m : Str → Option Value} {R : List (Addr × Obj)} {fx fl : Addr} {fv fw : List Value} {fcs : List (Option Int)} {fxs : List Str} {gx gl : Addr} {gv gw : List Value} {gcs : List (Option Int)} {gxs : List Str} {fa sa : Addr} {m3 m4 : Nat}
    (B : Below A h₀ [] h₀) (X : (K w.params).In h₀) (T : Top q loose mean mg mb h₀) (hh : A.handled = none) (hd : A.depth + 60 ≤ 700) (hu : A.units + 600 ≤ 8000)
    (F : Fr h₀ L h (fun y => if y = Str.ofString "f" then some (.ref fx) else if y = Str.ofString "g" then some (.ref gx) else if y = Str.ofString "first" then some (.ref fa) else if y = Str.ofString "second" then some (.ref sa) else m y))
    (N : News h₀ L h R) (fi : FacIn w R fx fl fv fw) (gi : FacIn w R gx gl gv gw) (mf : (fa, W.listOf fv.toArray m3) ∈ R) (ms : (sa, W.listOf gv.toArray m4) ∈ R)
    (fp : Paired IsOI fv fcs) (fc : Paired (IsCode fw.length) fv fcs) (fq : Paired IsS fw fxs) (fz : fv.length ≤ 10) (fy : fw.length ≤ 10) (fk : ∀ x ∈ fxs, x.length ≤ 10) (gp : Paired IsOI gv gcs) (gz : gv.length ≤ 10)
    (hret : ∀ h' tk', Kept h₀ h' → Q (.bool true) { s with heap := h', toks := tk' }) :
    LawGoal w A L (lawB (restOf_of 103 22 rfl)) (lawSc (restOf_of 103 22 rfl)) Q noE { s with heap := h, toks := tk } := by
  unfold LawGoal
  dsimp only [lawB, lawSc]
  k_dflt k_whole
  k_fold
  have calm9 : Calm := trivial
  have st9 : StopCall 647 := trivial
  k_steps
  clear st9
  refine Halt.of ?_
  rename (_ : Int) = 600000 => hn9
  k_dflt (refine' told_long ?al ?l ?f ?g ?q1 ?p1 ?z1 ?y1 ?n ?C ?X ?T ?d ?u ?_)
  case al => walk_at "m_get"
  case l => walk_at "m_get"
  case f => walk_at "m_fac"
  case g => walk_at "m_fac"
  case q1 => exact fq
  case p1 => exact fc
  case z1 => exact fz
  case y1 => exact fy
  case n => exact hn9
  case C => walk_at "m_cx"
  case X => exact X
  case T => exact T
  case d => walk_at "m_dep"
  case u => walk_at "m_dep"
  k_whole
  walk_at "m_backX"
  have st9 : StopAt (Str.ofString "wordy") := trivial
  have hb9 : (Str.ofString "cannot allocate vector of length " ++ Str.ofString (toString (1200000 + (fv.length : Int))) != Str.ofString "cannot allocate vector of length " ++ Str.ofString (toString (1200000 + (fv.length : Int)))) = false := bne_self_eq_false _
  k_steps
  clear st9
  refine Halt.of ?_
  rename News _ _ _ _ => N1
  rename Fr _ _ _ _ => F1
  refine' law_24 B X T hh hd hu ?F ?N fi gi mf ms fp gp fz gz hret
  case F => exact frName (by with_unfolding_all rfl) (frName (by with_unfolding_all rfl) (frName (by with_unfolding_all rfl) (frName (by with_unfolding_all rfl) F1)))
  case N =>
    exact subNews N1 (by walk_at "m_sub")
end
section
variable {w : World} {A : Around} {loose : List Str} {mean : ExcName → Option Value} {mg mb : Str → Option Value} {s : Shared} {E : Value → Shared → Prop} {Q : Value → Shared → Prop}
theorem law_20 {L tk : Nat} {h h₀ : Heap} {m : Str → Option Value} {R : List (Addr × Obj)} {fx fl : Addr} {fv fw : List Value} {fcs : List (Option Int)} {fxs : List Str} {gx gl : Addr} {gv gw : List Value} {gcs : List (Option Int)} {gxs : List Str} {fa sa : Addr} {m3 m4 wide high tw th : Nat} {o6 o7 : Obj}
    (B : Below A h₀ [] h₀) (X : (K w.params).In h₀) (T : Top q loose mean mg mb h₀) (hh : A.handled = none) (hd : A.depth + 60 ≤ 700) (hu : A.units + 600 ≤ 8000)
    (F : Fr h₀ L h (fun y => if y = Str.ofString "f" then some (.ref fx) else if y = Str.ofString "g" then some (.ref gx) else if y = Str.ofString "first" then some (.ref fa) else if y = Str.ofString "second" then some (.ref sa) else m y))
    (N : News h₀ L h R) (fi : FacIn w R fx fl fv fw) (gi : FacIn w R gx gl gv gw) (mf : (fa, W.listOf fv.toArray m3) ∈ R) (ms : (sa, W.listOf gv.toArray m4) ∈ R) (mo7 : (L + 1 + 1 + 1 + 1 + 1 + 1 + 1, o7) ∈ R) (mo6 : (L + 1 + 1 + 1 + 1 + 1 + 1, o6) ∈ R)
    (fp : Paired IsOI fv fcs) (fc : Paired (IsCode fw.length) fv fcs) (fq : Paired IsS fw fxs) (fz : fv.length ≤ 10) (fy : fw.length ≤ 10) (fk : ∀ x ∈ fxs, x.length ≤ 10) (gp : Paired IsOI gv gcs) (gc : Paired (IsCode gw.length) gv gcs) (gq : Paired IsS gw gxs) (gz : gv.length ≤ 10) (gy : gw.length ≤ 10) (gk : ∀ x ∈ gxs, x.length ≤ 10) (fxe : fxs = namesC "a" wide) (gxe : gxs = namesC "b" high) (hw : In4 wide) (hh4 : In4 high) (d6 : o6.data = .cell (some (.int (wide : Int) tw))) (d7 : o7.data = .cell (some (.int (high : Int) th)))
    (hret : ∀ h' tk', Kept h₀ h' → Q (.bool true) { s with heap := h', toks := tk' }) :
    LawGoal w A L (lawB (restOf_of 103 20 rfl)) (lawSc (restOf_of 103 20 rfl)) Q noE { s with heap := h, toks := tk } := by
  unfold LawGoal
  dsimp only [lawB, lawSc]
  k_dflt k_whole
  k_fold
  have calm9 : Calm := trivial
  have hw4 : 1 ≤ wide ∧ wide ≤ 4 := hw.le
  have hh5 : 1 ≤ high ∧ high ≤ 4 := hh4.le
  have hnd : (fxs ++ gxs).Nodup := by rw [fxe, gxe]; exact names_nodup _ hw.mem _ hh4.mem
  have fxl : fxs.length = wide := by rw [fxe]; exact namesC_len _ _
  have gxl : gxs.length = high := by rw [gxe]; exact namesC_len _ _
  have fwl := fq.length
  have gwl := gq.length
  have ens : combNames [⟨fx, fl, fv, fw, fcs, fxs⟩, ⟨gx, gl, gv, gw, gcs, gxs⟩] = fxs ++ gxs := by
    show distinctT ((combTexts _).map some) = _
    rw [show combTexts [⟨fx, fl, fv, fw, fcs, fxs⟩, ⟨gx, gl, gv, gw, gcs, gxs⟩] = fxs ++ gxs by simp [combTexts]]
    exact distinctT_of_nodup _ hnd
  have ecs : combCodes [⟨fx, fl, fv, fw, fcs, fxs⟩, ⟨gx, gl, gv, gw, gcs, gxs⟩] = fcs ++ gcs.map (Option.map (· + (wide : Int))) := by
    unfold combCodes
    rw [ens]
    show combAt _ _ ++ (combAt _ _ ++ []) = _
    rw [List.append_nil]
    unfold combAt
    rw [combAt_left hnd fwl.symm fc, combAt_right hnd gwl.symm gc, fxl]
  have hok : ∀ x ∈ fxs ++ gxs, PyData.strOk x = true := by
    intro x hx
    rw [fxe, gxe] at hx
    exact (List.mem_append.mp hx).elim (namesC_ok _ _ x) (namesC_ok _ _ x)
  have st9 : StopCall 647 := trivial
  k_steps
  clear st9
  refine Halt.of ?_
  k_dflt (refine' told_two ?al ?l ?f ?g ?q1 ?p1 ?z1 ?y1 ?q2 ?p2 ?z2 ?y2 ecs ens ?C ?d ?u ?_)
  case al => walk_at "m_get"
  case l => walk_at "m_get"
  case f => walk_at "m_fac"
  case g => walk_at "m_fac"
  case q1 => exact fq
  case p1 => exact fc
  case z1 => exact fz
  case y1 => exact fy
  case q2 => exact gq
  case p2 => exact gc
  case z2 => exact gz
  case y2 => exact gy
  case C => walk_at "m_cx"
  case d => walk_at "m_dep"
  case u => walk_at "m_dep"
  k_whole
  walk_at "m_backT"
  rename Paired IsOI _ (fcs ++ _) => htc
  rename Paired IsS _ (fxs ++ gxs) => htn
  k_steps
  refine compMap (fun i ys => Paired IsOI ys ((gcs.take i).map (Option.map (· + (wide : Int))))) .nil ?_ ?_
  · rintro i ys hi hR
    intro v I oI Cc oC D m₂ h₂ tk₂ E' hi' hC hx' F' N' off ne
    intros
    simp only [List.getElem?_toArray] at hi'
    refine letG ?_
    intro P9
    obtain ⟨z, hz1, hzv⟩ := Paired.get gp hi'
    k_unfold
    try clear P9
    cases z with
    | none =>
      cases hzv
      k_steps
      all_goals (rw [take_map_next hz1]; refine pairedSnoc (F := IsOI) ?_ hR; exact rfl)
    | some z =>
      obtain ⟨tz, rfl⟩ := hzv
      k_steps
      all_goals (rw [take_map_next hz1]; refine pairedSnoc (F := IsOI) ?_ hR; exact ⟨_, rfl⟩)
  · rintro ys hR
    rw [List.size_toArray, gp.length, List.take_length] at hR
    have hall := pairedApp hR fp
    have hyl : ys.length ≤ 10 := by have a := hR.length; rw [List.length_map] at a; have b := gp.length; omega
    k_steps
    refine compMap (fun i ys => Paired IsS ys (namesC "a" i)) .nil ?_ ?_
    · rintro i ys2 hi hR2
      intro v I oI Cc oC D m₂ h₂ tk₂ E' hi' hC hx' F' N' off ne
      intros
      obtain ⟨ti, rfl⟩ := hi'
      rw [Int.zero_add] at hx'
      k_steps
      all_goals (rw [namesC_next]; exact pairedSnoc ⟨_, rfl⟩ hR2)
    · rintro as has
      have hasl : as.length ≤ 10 := by have a := has.length; rw [namesC_len] at a; omega
      k_steps
      refine compMap (fun i ys => Paired IsS ys (namesC "b" i)) .nil ?_ ?_
      · rintro i ys3 hi hR3
        intro v I oI Cc oC D m₂ h₂ tk₂ E' hi' hC hx' F' N' off ne
        intros
        obtain ⟨ti, rfl⟩ := hi'
        rw [Int.zero_add] at hx'
        k_steps
        all_goals (rw [namesC_next]; exact pairedSnoc ⟨_, rfl⟩ hR3)
      · rintro bs hbs
        have hbsl : bs.length ≤ 10 := by have a := hbs.length; rw [namesC_len] at a; omega
        have hab := pairedApp hbs has
        rw [← fxe, ← gxe] at hab
        have st9 : StopAt (Str.ofString "long_one") := trivial
        k_steps
        clear st9
        refine Halt.of ?_
        rename News _ _ _ _ => N1
        rename Fr _ _ _ _ => F1
        refine' law_22 (gxs := gxs) B X T hh hd hu ?F ?N fi gi mf ms fp fc fq fz fy fk gp gz hret
        case F => exact frName (by with_unfolding_all rfl) (frName (by with_unfolding_all rfl) (frName (by with_unfolding_all rfl) (frName (by with_unfolding_all rfl) F1)))
        case N => exact subNews N1 (by walk_at "m_sub")
end
theorem row67 : True := by
  (k_with "m_backF" => (intro x'ρ l'ρ lt'ρ ct'ρ us'ρ ns'ρ h'ρ tk'ρ kp'ρ ff'ρ; (with_reducible rename Fr _ _ _ _ => mFρ); (with_reducible rename News _ _ _ _ => mNρ); (refine FacFresh.back mFρ mNρ kp'ρ ff'ρ ?_); intro dx0'ρ dx1'ρ dx2'ρ dx3'ρ dx4'ρ dx5'ρ dx6'ρ n0'ρ n1'ρ n2'ρ n3'ρ n4'ρ n5'ρ n6'ρ n7'ρ n8'ρ n9'ρ n10'ρ n11'ρ n12'ρ n13'ρ n14'ρ n15'ρ n16'ρ n17'ρ n18'ρ n19'ρ n20'ρ n21'ρ n22'ρ n23'ρ n24'ρ F'ρ N'ρ ne'ρ hD'ρ lo'ρ; (try clear mNρ); (try clear mFρ); (try clear kp'ρ); (try clear ff'ρ); (try dsimp only [vecEs] at N'ρ); intro hc'ρ hn'ρ))
  trivial
section
variable {w : World} {A : Around} {loose : List Str} {mean : ExcName → Option Value} {mg mb : Str → Option Value} {s : Shared} {E : Value → Shared → Prop} {Q : Value → Shared → Prop}
theorem law_19 {L tk : Nat} {h h₀ : Heap} {m : Str → Option Value} {R : List (Addr × Obj)} {fx fl : Addr} {fv fw : List Value} {fcs : List (Option Int)} {fxs : List Str} {gx gl : Addr} {gv gw : List Value} {gcs : List (Option Int)} {gxs : List Str} {fa sa na ca : Addr} {nv cv : List Value} {m3 m4 m5 m6 wide high tw th : Nat} {o6 o7 : Obj}
    (B : Below A h₀ [] h₀) (X : (K w.params).In h₀) (T : Top q loose mean mg mb h₀) (hh : A.handled = none) (hd : A.depth + 60 ≤ 700) (hu : A.units + 600 ≤ 8000)
    (F : Fr h₀ L h (fun y => if y = Str.ofString "f" then some (.ref fx) else if y = Str.ofString "g" then some (.ref gx) else if y = Str.ofString "first" then some (.ref fa) else if y = Str.ofString "second" then some (.ref sa) else if y = Str.ofString "names" then some (.ref na) else if y = Str.ofString "codes" then some (.ref ca) else m y))
    (N : News h₀ L h R) (fi : FacIn w R fx fl fv fw) (gi : FacIn w R gx gl gv gw) (mf : (fa, W.listOf fv.toArray m3) ∈ R) (ms : (sa, W.listOf gv.toArray m4) ∈ R) (mo7 : (L + 1 + 1 + 1 + 1 + 1 + 1 + 1, o7) ∈ R) (mo6 : (L + 1 + 1 + 1 + 1 + 1 + 1, o6) ∈ R) (mn : (na, W.listOf nv.toArray m5) ∈ R) (mc : (ca, W.listOf cv.toArray m6) ∈ R)
    (fp : Paired IsOI fv fcs) (fc : Paired (IsCode fw.length) fv fcs) (fq : Paired IsS fw fxs) (fz : fv.length ≤ 10) (fy : fw.length ≤ 10) (fk : ∀ x ∈ fxs, x.length ≤ 10) (gp : Paired IsOI gv gcs) (gc : Paired (IsCode gw.length) gv gcs) (gq : Paired IsS gw gxs) (gz : gv.length ≤ 10) (gy : gw.length ≤ 10) (gk : ∀ x ∈ gxs, x.length ≤ 10) (fxe : fxs = namesC "a" wide) (gxe : gxs = namesC "b" high) (hw : In4 wide) (hh4 : In4 high) (d6 : o6.data = .cell (some (.int (wide : Int) tw))) (d7 : o7.data = .cell (some (.int (high : Int) th)))
    (np : Paired IsS nv (interNames fxs gxs (Str.ofString ":"))) (cp : Paired IsOI cv (interCodes fcs gcs fw.length))
    (hret : ∀ h' tk', Kept h₀ h' → Q (.bool true) { s with heap := h', toks := tk' }) :
    LawGoal w A L (lawB (restOf_of 103 19 rfl)) (lawSc (restOf_of 103 19 rfl)) Q noE { s with heap := h, toks := tk } := by
  unfold LawGoal
  dsimp only [lawB, lawSc]
  k_dflt k_whole
  k_fold
  have calm9 : Calm := trivial
  have hs0 : (Str.ofString "").length ≤ 10 := by decide
  have hs1 : (Str.ofString ":").length ≤ 10 := by decide
  have hok : ∀ x ∈ interNames fxs gxs (Str.ofString ":"), PyData.strOk x = true := by
    intro x hx
    refine letG ?_
    intro P9
    obtain ⟨r, hr, hx⟩ := List.mem_flatMap.mp hx
    k_unfold
    try clear P9
    refine letG ?_
    intro P9
    obtain ⟨l, hl, rfl⟩ := List.mem_map.mp hx
    k_unfold
    try clear P9
    rw [fxe] at hl
    rw [gxe] at hr
    exact okApp (okApp (namesC_ok _ _ l hl) (okOf _)) (namesC_ok _ _ r hr)
  have st9 : StopCall 567 := trivial
  k_steps
  clear st9
  refine Halt.of ?_
  k_dflt (refine' interaction_c ?f ?g ?q1 ?q2 ?p1 ?p2 ?z1 ?z2 ?y1 ?y2 ?n1 ?n2 ?s ?C ?d ?u ?_)
  case f => walk_at "m_fac"
  case g => walk_at "m_fac"
  case q1 => exact fq
  case q2 => exact gq
  case p1 => exact fc
  case p2 => exact gc
  case z1 => exact fz
  case z2 => exact gz
  case y1 => exact fy
  case y2 => exact gy
  case n1 => exact fk
  case n2 => exact gk
  case s => exact hs0
  case C => walk_at "m_cx"
  case d => walk_at "m_dep"
  case u => walk_at "m_dep"
  k_whole
  walk_at "m_backF"
  have st9 : StopCall 647 := trivial
  k_steps
  clear st9
  refine Halt.of ?_
  k_dflt (refine' told_inter ?al ?f ?g ?q1 ?q2 ?p1 ?p2 ?z1 ?z2 ?y1 ?y2 ?n1 ?n2 ?s ?C ?d ?u ?_)
  case al => walk_at "m_get"
  case f => walk_at "m_fac"
  case g => walk_at "m_fac"
  case q1 => exact fq
  case q2 => exact gq
  case p1 => exact fc
  case p2 => exact gc
  case z1 => exact fz
  case z2 => exact gz
  case y1 => exact fy
  case y2 => exact gy
  case n1 => exact fk
  case n2 => exact gk
  case s => exact hs1
  case C => walk_at "m_cx"
  case d => walk_at "m_dep"
  case u => walk_at "m_dep"
  k_whole
  walk_at "m_backT"
  have st9 : StopAt (Str.ofString "put_behind") := trivial
  k_steps
  clear st9
  refine Halt.of ?_
  rename News _ _ _ _ => N1
  rename Fr _ _ _ _ => F1
  refine' law_20 B X T hh hd hu ?F ?N fi gi mf ms mo7 mo6 fp fc fq fz fy fk gp gc gq gz gy gk fxe gxe hw hh4 d6 d7 hret
  case F => exact frName (by with_unfolding_all rfl) (frName (by with_unfolding_all rfl) (frName (by with_unfolding_all rfl) (frName (by with_unfolding_all rfl) F1)))
  case N => exact subNews N1 (by walk_at "m_sub")
end
theorem row68 : True := by
  (k_with "call type:range" => (k_here; (with_reducible show wpAny _ _ (call _ [_]) _ _ _); (rename Fr _ _ _ _ => F'ρ); (rename News _ _ _ _ => N'ρ); (with_unfolding_all refine range1_rows F'ρ N'ρ ?_; intro _ _ _ _ _ _ _ _ _)))
  trivial
theorem strAssoc (a b c : Str) : a ++ b ++ c = a ++ (b ++ c) := by
  obtain ⟨⟨a⟩⟩ := a; obtain ⟨⟨b⟩⟩ := b; obtain ⟨⟨c⟩⟩ := c
  show (⟨_⟩ : Str) = ⟨_⟩
  congr 1
  exact Array.append_assoc
theorem interNames_snoc (xs ys : List Str) (r sep : Str) : interNames xs (ys ++ [r]) sep = interNames xs ys sep ++ xs.map fun l => l ++ sep ++ r := by
  unfold interNames
  rw [List.flatMap_append]; simp
theorem eqLenF {w : World} {A : Around} {E : Value → Shared → Prop} {s : Shared} {a b : Addr} {vs : List Value} {Q : Value → Shared → Prop} (hne : 0 < vs.length) (hl : s.heap.IsList a vs.toArray) (hl' : s.heap.IsList b ([] : List Value).toArray) (hu : A.units < cLine) (h : Q (.bool false) s) :
    wpAny (model pw w) A (compareOp .Eq (.ref a) (.ref b)) Q E s :=
  SeqAt.eq_list_lengthsAt hl hl' (by simp only [List.size_toArray, List.length_nil]; exact bne_iff_ne.mpr (by omega)) hu h
theorem row69 : True := by
  (k_with "compareOp Eq ref ref" => (k_here; (with_reducible show wpAny _ _ (compareOp CmpOp.Eq (Value.ref _) (Value.ref _)) _ _ _); k_dflt (refine' eqLenF ?n_r177 ?a_r177 ?b_r177 ?u_r177 ?_; (case a_r177 => is_list); (case b_r177 => is_list); (case n_r177 => assumption); (case u_r177 => k_units); k_whole)))
  trivial
theorem noneEq {A : Around} {s : Shared} {x : Value} {c : Option Int} (h : IsOI x c) : SeqAt.EqAt A s x .none c.isNone := by
  cases c with
  | none => cases h; exact SeqAt.EqAt.same _
  | some i => obtain ⟨t, rfl⟩ := h; exact SeqAt.EqAt.int_none _ _
theorem noneIn {w : World} {A : Around} {E : Value → Shared → Prop} {s : Shared} {l : Addr} {x y : Value} {cx cy : Option Int} {Q : Value → Shared → Prop} (hx : IsOI x cx) (hy : IsOI y cy) (hl : s.heap.IsTuple l [x, y].toArray) (h : Q (.bool (cx.isNone || cy.isNone)) s) : wpAny (model pw w) A (compareOp .In .none (.ref l)) Q E s := by
  by_cases e : cx = cy ∧ x = y
  · refine SeqAt.in_tupleAt (fun _ => cx.isNone) hl (fun z hz => ?_) ?_
    · have : z = x := by
        rcases (show z = x ∨ z = y by simpa using hz) with h | h
        · exact h
        · exact h.trans e.2.symm
      rw [this]; exact noneEq hx
    · have q : ([x, y].toArray.any fun _ => cx.isNone) = (cx.isNone || cy.isNone) := by rw [← e.1]; simp
      rw [q]; exact h
  · have isNone (v : Value) : Bool := match v with | .none => true | _ => false
    have key : ∀ {v : Value} {c : Option Int}, IsOI v c → c.isNone = (match v with | .none => true | _ => false) := by
      intro v c hv
      cases c with
      | none => cases hv; rfl
      | some i => obtain ⟨t, rfl⟩ := hv; rfl
    refine SeqAt.in_tupleAt (fun v => match v with | .none => true | _ => false) hl (fun z hz => ?_) ?_
    · rcases (show z = x ∨ z = y by simpa using hz) with h | h
      · rw [h, ← key hx]; exact noneEq hx
      · rw [h, ← key hy]; exact noneEq hy
    · have q : ([x, y].toArray.any fun v => match v with | .none => true | _ => false) = (cx.isNone || cy.isNone) := by
        rw [key hx, key hy]; simp
      rw [q]; exact h
theorem noneInB {w : World} {A : Around} {E : Value → Shared → Prop} {s : Shared} {l : Addr} {x y : Value} {cx cy : Option Int} {Q : Value → Shared → Prop} (hx : IsOI x cx) (hy : IsOI y cy) (hl : s.heap.IsTuple l [x, y].toArray) (b : Bool) (e : (cx.isNone || cy.isNone) = b) (h : Q (.bool b) s) : wpAny (model pw w) A (compareOp .In .none (.ref l)) Q E s :=
  noneIn hx hy hl (e.symm ▸ h)
theorem row70 : True := by
  (k_with "m_oi" => first | exact (show IsOI Value.none none from rfl) | exact (show IsOI (Value.int _ _) (some _) from ⟨_, rfl⟩))
  (k_with "compareOp In none ref" => (k_here; k_dflt (first | (refine' noneInB ?x_r179 ?y_r179 ?l_r179 true ?e_r179 ?_; (case l_r179 => first | exact News.isTuple (by k_asm) (by k_mem) | exact ⟨_, News.get (by k_asm) (by k_mem), rfl, _, rfl⟩); (case x_r179 => walk_at "m_oi"); (case y_r179 => walk_at "m_oi"); (case e_r179 => exact rfl); k_whole) | (refine' noneInB ?x_r179 ?y_r179 ?l_r179 false ?e_r179 ?_; (case l_r179 => first | exact News.isTuple (by k_asm) (by k_mem) | exact ⟨_, News.get (by k_asm) (by k_mem), rfl, _, rfl⟩); (case x_r179 => walk_at "m_oi"); (case y_r179 => walk_at "m_oi"); (case e_r179 => exact rfl); k_whole))))
  (k_with "compareOp In" => (k_here; (with_reducible show wpAny _ _ (compareOp CmpOp.In Value.none (Value.ref _)) _ _ _); walk_at "compareOp In none ref"))
  trivial
section
variable {w : World} {A : Around} {loose : List Str} {mean : ExcName → Option Value} {mg mb : Str → Option Value} {s : Shared} {E : Value → Shared → Prop} {Q : Value → Shared → Prop}
theorem law_17 {L tk : Nat} {h h₀ : Heap} {m : Str → Option Value} {R : List (Addr × Obj)} {fx fl : Addr} {fv fw : List Value} {fcs : List (Option Int)} {fxs : List Str} {gx gl : Addr} {gv gw : List Value} {gcs : List (Option Int)} {gxs : List Str} {fa sa na : Addr} {nv : List Value} {m3 m4 m5 wide high tw th n tt : Nat} {o6 o7 : Obj}
    (B : Below A h₀ [] h₀) (X : (K w.params).In h₀) (T : Top q loose mean mg mb h₀) (hh : A.handled = none) (hd : A.depth + 60 ≤ 700) (hu : A.units + 600 ≤ 8000)
    (F : Fr h₀ L h (fun y => if y = Str.ofString "f" then some (.ref fx) else if y = Str.ofString "g" then some (.ref gx) else if y = Str.ofString "first" then some (.ref fa) else if y = Str.ofString "second" then some (.ref sa) else if y = Str.ofString "names" then some (.ref na) else if y = Str.ofString "total" then some (.int (n : Int) tt) else m y))
    (N : News h₀ L h R) (fi : FacIn w R fx fl fv fw) (gi : FacIn w R gx gl gv gw) (mf : (fa, W.listOf fv.toArray m3) ∈ R) (ms : (sa, W.listOf gv.toArray m4) ∈ R) (mo7 : (L + 1 + 1 + 1 + 1 + 1 + 1 + 1, o7) ∈ R) (mo6 : (L + 1 + 1 + 1 + 1 + 1 + 1, o6) ∈ R) (mn : (na, W.listOf nv.toArray m5) ∈ R)
    (fp : Paired IsOI fv fcs) (fc : Paired (IsCode fw.length) fv fcs) (fq : Paired IsS fw fxs) (fz : fv.length ≤ 10) (fy : fw.length ≤ 10) (fk : ∀ x ∈ fxs, x.length ≤ 10) (gp : Paired IsOI gv gcs) (gc : Paired (IsCode gw.length) gv gcs) (gq : Paired IsS gw gxs) (gz : gv.length ≤ 10) (gy : gw.length ≤ 10) (gk : ∀ x ∈ gxs, x.length ≤ 10) (fxe : fxs = namesC "a" wide) (gxe : gxs = namesC "b" high) (hw : In4 wide) (hh4 : In4 high) (d6 : o6.data = .cell (some (.int (wide : Int) tw))) (d7 : o7.data = .cell (some (.int (high : Int) th)))
    (np : Paired IsS nv (interNames fxs gxs (Str.ofString ":"))) (hn : n = interLen fcs.length gcs.length) (hnz : n ≤ 10) (hpos : ∀ i, i < n → 0 < fv.length ∧ 0 < gv.length)
    (hret : ∀ h' tk', Kept h₀ h' → Q (.bool true) { s with heap := h', toks := tk' }) :
    LawGoal w A L (lawB (restOf_of 103 17 rfl)) (lawSc (restOf_of 103 17 rfl)) Q noE { s with heap := h, toks := tk } := by
  unfold LawGoal
  dsimp only [lawB, lawSc]
  k_dflt k_whole
  k_fold
  have calm9 : Calm := trivial
  have hw4 : 1 ≤ wide ∧ wide ≤ 4 := hw.le
  have fwl : fw.length = wide := by rw [fq.length, fxe]; exact namesC_len _ _
  k_steps
  rename IsRange _ _ _ _ _ _ _ _ => hr
  rename News _ _ _ _ => N1
  rename Fr _ _ _ _ => F1
  refine' Halt.of (forLenL (n := n) [Str.ofString "pair"] (fun i u nw => ∃ cv kq, nw = (_, W.listOf (List.toArray cv) kq) :: _ ∧ Paired IsOI cv ((List.range i).map (interAt fcs gcs wide))) hh hr (by omega) F1 N1 ⟨[], _, rfl, .nil⟩ ?_ ?_)
  · rintro i t u nw I oI h₂ tk₂ hi hJ9
    refine letG ?_
    intro P9
    obtain ⟨cv, kq, rfl, hcv⟩ := hJ9
    k_unfold
    try clear P9
    rintro F2 N2 hne
    intros
    clear N1 F1 hr
    obtain ⟨e1, e2⟩ := hpos i hi
    have hcl : cv.length ≤ 1000 := by have a := hcv.length; rw [List.length_map, List.length_range] at a; omega
    have fm1 : Int.fmod (i : Int) (fv.length : Int) = ((i % fv.length : Nat) : Int) := fmodNat i (by omega)
    have fm2 : Int.fmod (i : Int) (gv.length : Int) = ((i % gv.length : Nat) : Int) := fmodNat i (by omega)
    have fl1 := Nat.mod_lt i (show fv.length > 0 by omega)
    have fl2 := Nat.mod_lt i (show gv.length > 0 by omega)
    have fb1 : 0 ≤ Int.fmod (i : Int) (fv.length : Int) ∧ Int.fmod (i : Int) (fv.length : Int) < fv.length := by omega
    have fb2 : 0 ≤ Int.fmod (i : Int) (gv.length : Int) ∧ Int.fmod (i : Int) (gv.length : Int) < gv.length := by omega
    obtain ⟨v1, hv1⟩ : ∃ v1, fv[(Int.fmod (i : Int) (fv.length : Int)).toNat]? = some v1 := ⟨_, List.getElem?_eq_getElem (by omega)⟩
    obtain ⟨v2, hv2⟩ : ∃ v2, gv[(Int.fmod (i : Int) (gv.length : Int)).toNat]? = some v2 := ⟨_, List.getElem?_eq_getElem (by omega)⟩
    refine letG ?_
    intro P9
    obtain ⟨c1, hc1, hvc1⟩ := Paired.get fp hv1
    k_unfold
    try clear P9
    refine letG ?_
    intro P9
    obtain ⟨c2, hc2, hvc2⟩ := Paired.get gp hv2
    k_unfold
    try clear P9
    have hat : interAt fcs gcs wide i = c1.bind fun a => c2.map fun b => a + (b - 1) * (wide : Nat) := by
      unfold interAt
      rw [← fp.length, ← gp.length, show i % fv.length = (Int.fmod (i : Int) (fv.length : Int)).toNat by omega, show i % gv.length = (Int.fmod (i : Int) (gv.length : Int)).toNat by omega, hc1, hc2]
      rfl
    have st9 : StopIfExp := trivial
    k_steps
    clear st9
    refine Halt.of ?_
    cases c1 with
    | none =>
      cases hvc1
      cases c2 with
      | none =>
        cases hvc2
        k_steps
        walk_at "m_tend"
        refine ⟨_, ⟨_, _, rfl, ?_⟩, by lcg_sub, by walk_at "m_off"⟩
        rw [List.range_succ, List.map_append]
        exact pairedSnoc (F := IsOI) (by rw [hat]; exact rfl) hcv
      | some c2 =>
        obtain ⟨tc2, rfl⟩ := hvc2
        k_steps
        walk_at "m_tend"
        refine ⟨_, ⟨_, _, rfl, ?_⟩, by lcg_sub, by walk_at "m_off"⟩
        rw [List.range_succ, List.map_append]
        exact pairedSnoc (F := IsOI) (by rw [hat]; exact rfl) hcv
    | some c1 =>
      obtain ⟨tc1, rfl⟩ := hvc1
      cases c2 with
      | none =>
        cases hvc2
        k_steps
        walk_at "m_tend"
        refine ⟨_, ⟨_, _, rfl, ?_⟩, by lcg_sub, by walk_at "m_off"⟩
        rw [List.range_succ, List.map_append]
        exact pairedSnoc (F := IsOI) (by rw [hat]; exact rfl) hcv
      | some c2 =>
        obtain ⟨tc2, rfl⟩ := hvc2
        k_steps
        walk_at "m_tend"
        refine ⟨_, ⟨_, _, rfl, ?_⟩, by lcg_sub, by walk_at "m_off"⟩
        rw [List.range_succ, List.map_append]
        exact pairedSnoc (F := IsOI) (by rw [hat]; exact ⟨_, rfl⟩) hcv
  · rintro u nw h₂ tk₂ hJ9
    refine letG ?_
    intro P9
    obtain ⟨cv, kq, rfl, hcv⟩ := hJ9
    k_unfold
    try clear P9
    rintro F2 N2
    clear N1 F1 hr
    have hfin : Paired IsOI cv (interCodes fcs gcs fw.length) := by
      unfold interCodes
      rw [← hn, fwl]
      exact hcv
    refine' law_19 B X T hh hd hu ?F N2 (fi.mono (by walk_at "m_sub")) (gi.mono (by walk_at "m_sub")) ?mf ?ms ?mo7 ?mo6 ?mn ?mc fp fc fq fz fy fk gp gc gq gz gy gk fxe gxe hw hh4 d6 d7 np hfin hret
    case F => exact frName (by with_unfolding_all rfl) (frName (by with_unfolding_all rfl) (frName (by with_unfolding_all rfl) (frName (by with_unfolding_all rfl) (frName (by with_unfolding_all rfl) (frName (by with_unfolding_all rfl) F2)))))
    case mf => k_mem
    case ms => k_mem
    case mo7 => k_mem
    case mo6 => k_mem
    case mn => k_mem
    case mc => k_mem
theorem law_14 {L tk : Nat} {h h₀ : Heap} {m : Str → Option Value} {R : List (Addr × Obj)} {fx fl : Addr} {fv fw : List Value} {fcs : List (Option Int)} {fxs : List Str} {gx gl : Addr} {gv gw : List Value} {gcs : List (Option Int)} {gxs : List Str} {fa sa : Addr} {m3 m4 wide high tw th : Nat} {o6 o7 : Obj}
    (B : Below A h₀ [] h₀) (X : (K w.params).In h₀) (T : Top q loose mean mg mb h₀) (hh : A.handled = none) (hd : A.depth + 60 ≤ 700) (hu : A.units + 600 ≤ 8000)
    (F : Fr h₀ L h (fun y => if y = Str.ofString "f" then some (.ref fx) else if y = Str.ofString "g" then some (.ref gx) else if y = Str.ofString "first" then some (.ref fa) else if y = Str.ofString "second" then some (.ref sa) else m y))
    (N : News h₀ L h R) (fi : FacIn w R fx fl fv fw) (gi : FacIn w R gx gl gv gw) (mf : (fa, W.listOf fv.toArray m3) ∈ R) (ms : (sa, W.listOf gv.toArray m4) ∈ R) (mo7 : (L + 1 + 1 + 1 + 1 + 1 + 1 + 1, o7) ∈ R) (mo6 : (L + 1 + 1 + 1 + 1 + 1 + 1, o6) ∈ R)
    (fp : Paired IsOI fv fcs) (fc : Paired (IsCode fw.length) fv fcs) (fq : Paired IsS fw fxs) (fz : fv.length ≤ 10) (fy : fw.length ≤ 10) (fk : ∀ x ∈ fxs, x.length ≤ 10) (gp : Paired IsOI gv gcs) (gc : Paired (IsCode gw.length) gv gcs) (gq : Paired IsS gw gxs) (gz : gv.length ≤ 10) (gy : gw.length ≤ 10) (gk : ∀ x ∈ gxs, x.length ≤ 10) (fxe : fxs = namesC "a" wide) (gxe : gxs = namesC "b" high) (hw : In4 wide) (hh4 : In4 high) (d6 : o6.data = .cell (some (.int (wide : Int) tw))) (d7 : o7.data = .cell (some (.int (high : Int) th)))
    (hret : ∀ h' tk', Kept h₀ h' → Q (.bool true) { s with heap := h', toks := tk' }) :
    LawGoal w A L (lawB (restOf_of 103 14 rfl)) (lawSc (restOf_of 103 14 rfl)) Q noE { s with heap := h, toks := tk } := by
  unfold LawGoal
  dsimp only [lawB, lawSc]
  k_dflt k_whole
  k_fold
  have calm9 : Calm := trivial
  have hw4 : 1 ≤ wide ∧ wide ≤ 4 := hw.le
  have hh5 : 1 ≤ high ∧ high ≤ 4 := hh4.le
  have fwl : fw.length = wide := by rw [fq.length, fxe]; exact namesC_len _ _
  k_steps
  rename IsRange _ _ _ _ _ _ _ _ => hr
  rename News _ _ _ _ => N1
  rename Fr _ _ _ _ => F1
  refine' Halt.of (forLenL (n := high) [Str.ofString "early"] (fun i u nw => ∃ nv kq, nw = (_, W.listOf (List.toArray nv) kq) :: _ ∧ Paired IsS nv (interNames (namesC "a" wide) (namesC "b" i) (Str.ofString ":")) ∧ nv.length ≤ 4 * i) hh hr (by omega) F1 N1 ⟨[], _, rfl, .nil, Nat.zero_le _⟩ ?_ ?_)
  · rintro i t u nw I oI h₂ tk₂ hi hJ9
    refine letG ?_
    intro P9
    obtain ⟨nv, kq, rfl, hnv, hnl⟩ := hJ9
    k_unfold
    try clear P9
    rintro F2 N2 hne
    intros
    clear N1 F1 hr
    k_steps
    rename IsRange _ _ _ _ _ _ _ _ => hr
    rename News _ _ _ _ => N1
    rename Fr _ _ _ _ => F1
    refine' Halt.of (forLenL (n := wide) [] (fun k u nw => ∃ nv kq, nw = _ :: (_, W.listOf (List.toArray nv) kq) :: _ ∧ Paired IsS nv (interNames (namesC "a" wide) (namesC "b" i) (Str.ofString ":") ++ (namesC "a" k).map fun l => l ++ Str.ofString ":" ++ (Str.ofString "b" ++ Str.ofString (toString (i : Int)))) ∧ nv.length ≤ 4 * i + k) hh hr (by omega) F1 N1 ⟨_, _, rfl, by simpa [namesC] using hnv, hnl⟩ ?_ ?_)
    · rintro k t' u' nw I' oI' h₃ tk₃ hk hJ9
      refine letG ?_
      intro P9
      obtain ⟨nv', kq', rfl, hnv', hnl'⟩ := hJ9
      k_unfold
      try clear P9
      rintro F3 N3 hne'
      intros
      clear N1 F1 hr
      have hnv1 : nv'.length ≤ 1000 := by omega
      k_steps
      walk_at "m_tend"
      refine ⟨_, ⟨_, _, rfl, ?_, ?_⟩, by lcg_sub, by walk_at "m_off"⟩
      · rw [namesC_next, List.map_append, ← List.append_assoc]
        refine pairedSnoc ?_ hnv'
        exact ⟨_, by rw [strAssoc (Str.ofString "a" ++ _ ++ _)]⟩
      · rw [List.length_append]; simp only [List.length_cons, List.length_nil]; omega
    · rintro u' nw h₃ tk₃ hJ9
      refine letG ?_
      intro P9
      obtain ⟨nv', kq', rfl, hnv', hnl'⟩ := hJ9
      k_unfold
      try clear P9
      rintro F3 N3
      clear N1 F1 hr
      k_steps
      walk_at "m_tend"
      refine ⟨_, ⟨_, _, rfl, ?_, ?_⟩, by lcg_sub, by walk_at "m_off"⟩
      · rw [namesC_next, interNames_snoc]
        exact hnv'
      · omega
  · rintro u nw h₂ tk₂ hJ9
    refine letG ?_
    intro P9
    obtain ⟨nv, kq, rfl, hnv, hnl⟩ := hJ9
    k_unfold
    try clear P9
    rintro F2 N2
    clear N1 F1 hr
    rw [← fxe, ← gxe] at hnv
    have fcl := fp.length
    have gcl := gp.length
    by_cases e1 : 0 < fv.length
    · by_cases e2 : 0 < gv.length
      · have st9 : StopAt (Str.ofString "codes") := trivial
        k_steps
        clear st9
        refine Halt.of ?_
        rename News _ _ _ _ => N1
        rename Fr _ _ _ _ => F1
        refine' law_17 (n := max fv.length gv.length) B X T hh hd hu ?F N1 (fi.mono (by walk_at "m_sub")) (gi.mono (by walk_at "m_sub")) ?mf ?ms ?mo7 ?mo6 ?mn fp fc fq fz fy fk gp gc gq gz gy gk fxe gxe hw hh4 d6 d7 hnv ?hn ?hnz ?hpos hret
        case F => exact frName (by with_unfolding_all rfl) (frName (by with_unfolding_all rfl) (frName (by with_unfolding_all rfl) (frName (by with_unfolding_all rfl) (frName (by with_unfolding_all rfl) (frName (by with_unfolding_all rfl) F1)))))
        case mf => k_mem
        case ms => k_mem
        case mo7 => k_mem
        case mo6 => k_mem
        case mn => k_mem
        case hn => unfold interLen; rw [if_neg (by omega), fcl, gcl]
        case hnz => omega
        case hpos => exact fun _ _ => ⟨e1, e2⟩
      · obtain rfl : gv = [] := List.eq_nil_of_length_eq_zero (by omega)
        have st9 : StopAt (Str.ofString "codes") := trivial
        k_steps
        clear st9
        refine Halt.of ?_
        rename News _ _ _ _ => N1
        rename Fr _ _ _ _ => F1
        refine' law_17 (n := 0) B X T hh hd hu ?F N1 (fi.mono (by walk_at "m_sub")) (gi.mono (by walk_at "m_sub")) ?mf ?ms ?mo7 ?mo6 ?mn fp fc fq fz fy fk gp gc gq gz gy gk fxe gxe hw hh4 d6 d7 hnv ?hn ?hnz ?hpos hret
        case F => exact frName (by with_unfolding_all rfl) (frName (by with_unfolding_all rfl) (frName (by with_unfolding_all rfl) (frName (by with_unfolding_all rfl) (frName (by with_unfolding_all rfl) (frName (by with_unfolding_all rfl) F1)))))
        case mf => k_mem
        case ms => k_mem
        case mo7 => k_mem
        case mo6 => k_mem
        case mn => k_mem
        case hn => unfold interLen; rw [if_pos (by simp only [List.length_nil] at fcl gcl; omega)]
        case hnz => exact Nat.zero_le _
        case hpos => exact fun i hi => absurd hi (Nat.not_lt_zero _)
    · obtain rfl : fv = [] := List.eq_nil_of_length_eq_zero (by omega)
      have st9 : StopAt (Str.ofString "codes") := trivial
      k_steps
      clear st9
      refine Halt.of ?_
      rename News _ _ _ _ => N1
      rename Fr _ _ _ _ => F1
      refine' law_17 (n := 0) B X T hh hd hu ?F N1 (fi.mono (by walk_at "m_sub")) (gi.mono (by walk_at "m_sub")) ?mf ?ms ?mo7 ?mo6 ?mn fp fc fq fz fy fk gp gc gq gz gy gk fxe gxe hw hh4 d6 d7 hnv ?hn ?hnz ?hpos hret
      case F => exact frName (by with_unfolding_all rfl) (frName (by with_unfolding_all rfl) (frName (by with_unfolding_all rfl) (frName (by with_unfolding_all rfl) (frName (by with_unfolding_all rfl) (frName (by with_unfolding_all rfl) F1)))))
      case mf => k_mem
      case ms => k_mem
      case mo7 => k_mem
      case mo6 => k_mem
      case mn => k_mem
      case hn => unfold interLen; rw [if_pos (by simp only [List.length_nil] at fcl gcl; omega)]
      case hnz => exact Nat.zero_le _
      case hpos => exact fun i hi => absurd hi (Nat.not_lt_zero _)
end
structure PickEx : Prop where
  mk ::
theorem pickEx (_ : PickEx) : True := trivial
theorem row71 : True := by
  (k_with "subscriptTail" => (k_here; (have pk9ρ := pickEx (by with_reducible assumption)); (clear pk9ρ); walk_at "m_itemEx"))
  (k_with "CompEnd" => (k_here; (have pk9ρ := pickEx (by with_reducible assumption)); (clear pk9ρ); (with_reducible refine Halt.out ?_)))
  trivial
theorem onePlus (r : Nat) : (1 + (r : Int)) = ((1 + r : Nat) : Int) := by omega
theorem in4Of {r : Nat} (h : (r : Int) < 4) : In4 (1 + r) := by
  have : r = 0 ∨ r = 1 ∨ r = 2 ∨ r = 3 := by omega
  rcases this with rfl | rfl | rfl | rfl <;> exact ⟨by decide⟩
theorem wideOf {o : Obj} {r t : Nat} (d : o.data = .cell (some (.int (1 + (r : Int)) t))) (h : (r : Int) < 4) : ∃ wide t', o.data = .cell (some (.int ((wide : Nat) : Int) t')) ∧ In4 wide := ⟨1 + r, t, by rw [d, onePlus], in4Of h⟩
theorem codeOI {n : Nat} {vs : List Value} {cs : List (Option Int)} (p : Paired (IsCode n) vs cs) : Paired IsOI vs cs := p.mono fun _ _ => IsCode.oi
theorem codeMenu {a b k n : Nat} {v : Value} (hn : 1 ≤ n) (h : [Value.none, Value.int 1 a, Value.int (n : Int) b][k]? = some v) : ∃ c, IsCode n v c := by
  rcases k with _ | _ | _ | k
  · obtain rfl := Option.some.inj h; exact ⟨none, rfl⟩
  · obtain rfl := Option.some.inj h; exact ⟨some 1, _, rfl, by omega, by omega⟩
  · obtain rfl := Option.some.inj h; exact ⟨some n, _, rfl, by omega, by omega⟩
  · simp at h
section
variable {w : World} {A : Around} {loose : List Str} {mean : ExcName → Option Value} {mg mb : Str → Option Value} {s : Shared} {E : Value → Shared → Prop} {Q : Value → Shared → Prop}
theorem law_8 {L tk : Nat} {h h₀ : Heap} {m : Str → Option Value} {b : Addr} {bv : List Value} {bz : List Int} {kb : Nat} {o1 o6 o7 : Obj}
    (B : Below A h₀ [] h₀) (X : (K w.params).In h₀) (T : Top q loose mean mg mb h₀) (hh : A.handled = none) (hd : A.depth + 60 ≤ 700) (hu : A.units + 600 ≤ 8000)
    (F : Fr h₀ L h m)
    (N : News h₀ L h [(b, W.listOf bv.toArray kb), (L + 1 + 1 + 1 + 1 + 1 + 1 + 1, o7), (L + 1 + 1 + 1 + 1 + 1 + 1, o6), (L + 1, o1)])
    (hb : AllNe b [(L + 1 + 1 + 1 + 1 + 1 + 1 + 1, o7), (L + 1 + 1 + 1 + 1 + 1 + 1, o6), (L + 1, o1)]) (d1 : o1.data = .cell (some (.ref b))) (d6 : o6.data = .cell none) (d7 : o7.data = .cell none) (hi : IntsAre bv bz) (hz : bv.length ≤ 1000)
    (hret : ∀ h' tk', Kept h₀ h' → Q (.bool true) { s with heap := h', toks := tk' }) :
    LawGoal w A L (lawB (restOf_of 103 8 rfl)) (lawSc (restOf_of 103 8 rfl)) Q noE { s with heap := h, toks := tk } := by
  unfold LawGoal
  dsimp only [lawB, lawSc]
  k_dflt k_whole
  k_fold
  have calm9 : Calm := trivial
  have st9 : StopAt (Str.ofString "high") := trivial
  k_steps
  clear st9
  refine Halt.of ?_
  rename _ = Data.cell (some (Value.int (1 + _) _)) => dw
  rename (_ : Int) < 4 => hr4
  refine letG ?_
  intro P9
  obtain ⟨wide, tw, dw', hw⟩ := wideOf dw hr4
  k_unfold
  try clear P9
  clear dw hr4
  have hwl := hw.le
  have st9 : StopAt (Str.ofString "first") := trivial
  k_steps
  clear st9
  refine Halt.of ?_
  rename _ = Data.cell (some (Value.int (1 + _) _)) => dh
  rename (_ : Int) < 4 => hr4
  refine letG ?_
  intro P9
  obtain ⟨high, th, dh', hg⟩ := wideOf dh hr4
  k_unfold
  try clear P9
  clear dh hr4
  have hhl := hg.le
  have pk : PickEx := ⟨⟩
  k_steps
  rename IntsAre _ _ => hi9
  rename List.length _ ≤ List.length _ => hl9
  rename (_ : Int) < 5 => hr5
  refine' compInd (fun i ys nw => ∃ vs' ns' n' cs, nw = (b, W.listOf (List.toArray vs') n') :: _ ∧ IntsAre vs' ns' ∧ vs'.length ≤ 1000 ∧ Paired (IsCode wide) ys cs ∧ ys.length = i) _ ⟨_, _, _, [], rfl, hi9, by omega, .nil, rfl⟩ ?_ ?_
  · rintro i ys nw hin hJ9
    refine letG ?_
    intro P9
    obtain ⟨vs', ns', n', cs, rfl, hi', hl', hp, hyl⟩ := hJ9
    k_unfold
    try clear P9
    rintro v I oI Cc oC D m₂ h₂ tk₂ E' hi2 hC hx' F' N' off ne
    intros
    obtain ⟨ti, rfl⟩ := hi2
    rw [Int.zero_add] at hx'
    have q1 : @Ne Nat b I := off.1.1
    have q2 : @Ne Nat b Cc := off.1.2.1
    have q3 : @Ne Nat b D := off.1.2.2
    k_steps
    refine Halt.of ?_
    rename _ = some _ => hget
    obtain ⟨c, hcv⟩ := codeMenu hwl.1 hget
    rename IntsAre _ _ => hi8
    rename _ ≤ vs'.length => hl8
    rename News _ _ _ _ => NN
    rename Fr _ _ _ _ => FF
    refine' LCg.CompEnd.intro FF NN ((b, W.listOf (List.toArray _) _) :: [(L + 1 + 1 + 1 + 1 + 1 + 1 + 1, _), (L + 1 + 1 + 1 + 1 + 1 + 1, _), (L + 1, _)]) ?sfv ?ofv ?cfv ?ifv
    case sfv => walk_at "m_pick"
    case ofv => exact off
    case cfv => exact trivial
    case ifv => exact ⟨_, _, _, cs ++ [c], rfl, hi8, Nat.le_trans hl8 hl', pairedSnoc hcv hp, by rw [List.length_append, hyl]; rfl⟩
  · rintro fv nw hJ9
    refine letG ?_
    intro P9
    obtain ⟨vs', ns', n', fcs, rfl, hi', hl', fhp, hyl⟩ := hJ9
    k_unfold
    try clear P9
    have fpo := codeOI fhp
    have fhz : fv.length ≤ 10 := by omega
    clear hyl hi9 hl9 hr5
    k_steps
    rename IntsAre _ _ => hi9
    rename List.length _ ≤ List.length _ => hl9
    rename (_ : Int) < 5 => hr5
    refine' compInd (fun i ys nw => ∃ vs' ns' n' cs, nw = _ :: (b, W.listOf (List.toArray vs') n') :: _ ∧ IntsAre vs' ns' ∧ vs'.length ≤ 1000 ∧ Paired (IsCode high) ys cs ∧ ys.length = i) _ ⟨_, _, _, [], rfl, hi9, by omega, .nil, rfl⟩ ?_ ?_
    · rintro i ys nw hin hJ9
      refine letG ?_
      intro P9
      obtain ⟨vs', ns', n', cs, rfl, hi', hl', hp, hyl⟩ := hJ9
      k_unfold
      try clear P9
      rintro v I oI Cc oC D m₂ h₂ tk₂ E' hi2 hC hx' F' N' off ne
      intros
      obtain ⟨ti, rfl⟩ := hi2
      rw [Int.zero_add] at hx'
      have q1 : @Ne Nat b I := off.2.1.1
      have q2 : @Ne Nat b Cc := off.2.1.2.1
      have q3 : @Ne Nat b D := off.2.1.2.2
      k_steps
      refine Halt.of ?_
      rename _ = some _ => hget
      obtain ⟨c, hcv⟩ := codeMenu hhl.1 hget
      rename IntsAre _ _ => hi8
      rename _ ≤ vs'.length => hl8
      rename News _ _ _ _ => NN
      rename Fr _ _ _ _ => FF
      refine' LCg.CompEnd.intro FF NN ((_, LCg.lst fv) :: (b, W.listOf (List.toArray _) _) :: [(L + 1 + 1 + 1 + 1 + 1 + 1 + 1, _), (L + 1 + 1 + 1 + 1 + 1 + 1, _), (L + 1, _)]) ?sgv ?ogv ?cgv ?igv
      case sgv => walk_at "m_pick"
      case ogv => exact off
      case cgv => exact trivial
      case igv => exact ⟨_, _, _, cs ++ [c], rfl, hi8, Nat.le_trans hl8 hl', pairedSnoc hcv hp, by rw [List.length_append, hyl]; rfl⟩
    · rintro gv nw hJ9
      refine letG ?_
      intro P9
      obtain ⟨vs', ns', n', gcs, rfl, hi', hl', ghp, hyl⟩ := hJ9
      k_unfold
      try clear P9
      have gpo := codeOI ghp
      have ghz : gv.length ≤ 10 := by omega
      clear hyl hi9 hl9 hr5
      clear pk
      have fkl := names_short _ hw.mem
      have gkl := names_short _ hg.mem
      have st9 : StopAt (Str.ofString "f") := trivial
      k_steps
      clear st9
      refine Halt.of ?_
      rename News _ _ _ _ => N1
      refine sealN N1 ?_
      intro R N2 hR
      have ms := hR (_, W.listOf gv.toArray _) (by k_mem)
      have mf := hR (_, W.listOf fv.toArray _) (by k_mem)
      have mo7 := hR (L + 1 + 1 + 1 + 1 + 1 + 1 + 1, _) (by k_mem)
      have mo6 := hR (L + 1 + 1 + 1 + 1 + 1 + 1, _) (by k_mem)
      clear hR N1
      k_steps
      refine compMap (fun i ys => Paired IsS ys (namesC "a" i)) .nil ?_ ?_
      · rintro i ys2 hi hR2
        intro v I oI Cc oC D m₂ h₂ tk₂ E' hi' hC hx' F' N' off ne
        intros
        obtain ⟨ti, rfl⟩ := hi'
        rw [Int.zero_add] at hx'
        k_steps
        all_goals (rw [namesC_next]; exact pairedSnoc ⟨_, rfl⟩ hR2)
      · rintro as has
        have hasl : as.length = wide := by rw [has.length, namesC_len]
        k_steps
        refine compMap (fun i ys => Paired IsS ys (namesC "b" i)) .nil ?_ ?_
        · rintro i ys3 hi hR3
          intro v I oI Cc oC D m₂ h₂ tk₂ E' hi' hC hx' F' N' off ne
          intros
          obtain ⟨ti, rfl⟩ := hi'
          rw [Int.zero_add] at hx'
          k_steps
          all_goals (rw [namesC_next]; exact pairedSnoc ⟨_, rfl⟩ hR3)
        · rintro bs hbs
          have hbsl : bs.length = high := by rw [hbs.length, namesC_len]
          have st9 : StopAt (Str.ofString "names") := trivial
          k_steps
          clear st9
          refine Halt.of ?_
          rename News _ _ _ _ => N1
          rename Fr _ _ _ _ => F1
          rename FacIn _ _ _ _ gv _ => gi
          rename FacIn _ _ _ _ fv _ => fi
          have fc : Paired (IsCode as.length) fv fcs := by rw [hasl]; exact fhp
          have gc : Paired (IsCode bs.length) gv gcs := by rw [hbsl]; exact ghp
          refine' law_14 B X T hh hd hu ?F N1 (fi.mono (by walk_at "m_sub")) gi ?mf ?ms ?mo7 ?mo6 fpo fc has fhz ?fy fkl.1 gpo gc hbs ghz ?gy gkl.2 rfl rfl hw hg dw' dh' hret
          case F => exact frName (by with_unfolding_all rfl) (frName (by with_unfolding_all rfl) (frName (by with_unfolding_all rfl) (frName (by with_unfolding_all rfl) F1)))
          case mf => k_mem
          case ms => k_mem
          case mo7 => k_mem
          case mo6 => k_mem
          case fy => omega
          case gy => omega
end
theorem row72 : True := by
  (k_with "subscriptTail Name Call ref int" => walk_at "m_item")
  (k_with "getMethod ref" => (k_here; (with_reducible show wpAny _ _ (getMethod (Value.ref _) (PySem.Str.ofString "index") _) _ _ _); k_dflt (refine' kl_method ?N_r184 ?m_r184 PySem.F.slot_list_index PySem.F.type_list_index ?_; (case N_r184 => k_asm); (case m_r184 => k_mem))))
  (k_with "call builtin:list.index" => (k_here; (with_reducible show wpAny _ _ (call (Value.builtin _) [Value.ref _, Value.str _ _]) _ _ _); k_dflt (refine' idxS ?p_r185 ?l_r185 ?x_r185 ?z_r185 ?_; (case l_r185 => is_list); (case p_r185 => with_reducible assumption); (case x_r185 => assumption); (case z_r185 => omega); k_whole)))
  trivial
/-- the code that the law itself reckons -/
noncomputable def dueCode (lxs : List (Option Str)) (ws : List Str) (x : Option Str) : Option Int := x.bind fun w => ((lxs[ws.idxOf w]?).getD none).map fun _ => ((ws.idxOf w : Nat) : Int) + 1
section
variable {w : World} {A : Around} {loose : List Str} {mean : ExcName → Option Value} {mg mb : Str → Option Value} {s : Shared} {E : Value → Shared → Prop} {Q : Value → Shared → Prop}
theorem law_5a {L tk : Nat} {h h₀ : Heap} {m : Str → Option Value} {R : List (Addr × Obj)} {b c ra wa : Addr} {bv lv rv wv : List Value} {bz : List Int} {xs lxs : List (Option Str)} {ws : List Str} {kb kc kr kw tw : Nat} {way : Int} {o1 o2 o3 o4 o5 o6 o7 : Obj}
    (B : Below A h₀ [] h₀) (X : (K w.params).In h₀) (T : Top q loose mean mg mb h₀) (hh : A.handled = none) (hd : A.depth + 60 ≤ 700) (hu : A.units + 600 ≤ 8000)
    (F : Fr h₀ L h m)
    (N : News h₀ L h R) (mc : (c, W.listOf lv.toArray kc) ∈ R) (mr : (ra, W.listOf rv.toArray kr) ∈ R) (mw : (wa, W.listOf wv.toArray kw) ∈ R) (mb9 : (b, W.listOf bv.toArray kb) ∈ R) (mo7 : (L + 1 + 1 + 1 + 1 + 1 + 1 + 1, o7) ∈ R) (mo6 : (L + 1 + 1 + 1 + 1 + 1 + 1, o6) ∈ R) (mo5 : (L + 1 + 1 + 1 + 1 + 1, o5) ∈ R) (mo4 : (L + 1 + 1 + 1 + 1, o4) ∈ R) (mo3 : (L + 1 + 1 + 1, o3) ∈ R) (mo2 : (L + 1 + 1, o2) ∈ R) (mo1 : (L + 1, o1) ∈ R)
    (hb : AllNe b [(L + 1 + 1 + 1 + 1 + 1 + 1 + 1, o7), (L + 1 + 1 + 1 + 1 + 1 + 1, o6), (L + 1, o1)]) (d1 : o1.data = .cell (some (.ref b))) (d2 : o2.data = .cell (some (.ref wa))) (d3 : o3.data = .cell (some (.ref ra))) (d4 : o4.data = .cell (some (.int way tw))) (d5 : o5.data = .cell (some (.ref c))) (d6 : o6.data = .cell none) (d7 : o7.data = .cell none) (hi : IntsAre bv bz) (hz : bv.length ≤ 1000)
    (wp : Paired IsOS wv xs) (rp : Paired IsS rv ws) (hr : IsRanks xs ws) (lp : Paired IsOS lv lxs) (wz : wv.length ≤ 5) (rz : rv.length ≤ 4) (lz : lv.length ≤ 10)
    (hlen : lv.length = rv.length) (hmc : madeCodes xs lxs ws = xs.map (dueCode lxs ws)) (hdl : distinctT lxs = lxs.filterMap id) (hok : ∀ x ∈ lxs.filterMap id, PyData.strOk x = true)
    (hret : ∀ h' tk', Kept h₀ h' → Q (.bool true) { s with heap := h', toks := tk' }) :
    LawGoal w A L (lawB (restOf_of 103 5 rfl)) (lawSc (restOf_of 103 5 rfl)) Q noE { s with heap := h, toks := tk } := by
  unfold LawGoal
  dsimp only [lawB, lawSc]
  k_dflt k_whole
  k_fold
  have calm9 : Calm := trivial
  have hwl : ws.length ≤ 4 := by rw [← rp.length]; exact rz
  have hcal : calledOf lxs ws.length = lxs := by unfold calledOf; rw [if_pos (by rw [← lp.length, hlen, rp.length])]
  have hle : ((lv.length : Int) == (rv.length : Int)) = true := beq_iff_eq.mpr (by omega)
  have st9 : StopCall 647 := trivial
  k_steps
  clear st9
  refine Halt.of ?_
  k_dflt (refine' told_make ?al hr ?v ?l wp ?vl ?ll (.inl ⟨lp, ?y, ?he⟩) ?e ?z ?wl ?C ?d ?u ?_)
  case al => walk_at "m_get"
  case v => walk_at "m_vec"
  case l => walk_at "m_get"
  case vl => walk_at "m_vec"
  case ll => walk_at "m_get"
  case e => walk_at "m_get"
  case z => omega
  case y => omega
  case wl => omega
  case he => rw [hlen, rp.length]
  case C => walk_at "m_cx"
  case d => walk_at "m_dep"
  case u => walk_at "m_dep"
  k_whole
  rw [hcal, hmc, hdl]
  walk_at "m_backT"
  rename Paired IsOI _ (xs.map (dueCode lxs ws)) => htc
  rename Paired IsS _ (lxs.filterMap id) => htn
  k_steps
  refine compIf (fun i ys => Paired IsS ys ((lxs.take i).filterMap id)) .nil ?_ ?_
  · rintro i ys hi hR
    intro v I oI Cc oC D m₂ h₂ tk₂ E' hi' hC hx' F' N' off ne
    intros
    simp only [List.getElem?_toArray] at hi'
    refine letG ?_
    intro P9
    obtain ⟨z, hz1, hzv⟩ := Paired.get lp hi'
    k_unfold
    try clear P9
    cases z with
    | none =>
      cases hzv
      k_steps
      all_goals (rw [take_next hz1, List.filterMap_append]; simpa using hR)
    | some z =>
      obtain ⟨tz, rfl⟩ := hzv
      k_steps
      all_goals (rw [take_next hz1, List.filterMap_append]; exact pairedSnoc ⟨_, rfl⟩ hR)
  · rintro cl hcl
    rw [List.size_toArray, lp.length, List.take_length] at hcl
    k_steps
    refine compMap (fun i ys => Paired IsOI ys ((xs.take i).map (dueCode lxs ws))) .nil ?_ ?_
    · rintro i ys hi hR
      intro v I oI Cc oC D m₂ h₂ tk₂ E' hi' hC hx' F' N' off ne
      intros
      simp only [List.getElem?_toArray] at hi'
      refine letG ?_
      intro P9
      obtain ⟨z, hz1, hzv⟩ := Paired.get wp hi'
      k_unfold
      try clear P9
      cases z with
      | none =>
        cases hzv
        k_steps
        all_goals (rw [take_map_next hz1]; refine pairedSnoc (F := IsOI) ?_ hR; exact rfl)
      | some z =>
        obtain ⟨tz, rfl⟩ := hzv
        have hzw : z ∈ ws := (hr.mem z).mpr (List.mem_of_getElem? hz1)
        have hj : ws.idxOf z < ws.length := List.idxOf_lt_length_iff.mpr hzw
        have hrl := rp.length
        obtain ⟨v, hv⟩ : ∃ v, lv[((ws.idxOf z : Nat) : Int).toNat]? = some v := ⟨_, List.getElem?_eq_getElem (by omega)⟩
        refine letG ?_
        intro P9
        obtain ⟨y, hy, hyv⟩ := Paired.get lp hv
        k_unfold
        try clear P9
        have hdue : dueCode lxs ws (some z) = y.map fun _ => ((ws.idxOf z : Nat) : Int) + 1 := by
          unfold dueCode
          rw [Option.bind_some, ← Int.toNat_natCast (ws.idxOf z), hy]; rfl
        cases y with
        | none =>
          cases hyv
          k_steps
          all_goals (rw [take_map_next hz1]; refine pairedSnoc (F := IsOI) ?_ hR; rw [hdue]; exact rfl)
        | some y =>
          obtain ⟨ty, rfl⟩ := hyv
          k_steps
          all_goals (rw [take_map_next hz1]; refine pairedSnoc (F := IsOI) ?_ hR; rw [hdue]; exact ⟨_, rfl⟩)
    · rintro cd hcd
      rw [List.size_toArray, wp.length, List.take_length] at hcd
      have st9 : StopAt (Str.ofString "wide") := trivial
      k_steps
      clear st9
      refine Halt.of ?_
      rename News _ _ _ _ => N1
      rename Fr _ _ _ _ => F1
      exact law_8 B X T hh hd hu F1 (subNews N1 (by walk_at "m_pick")) hb d1 d6 d7 hi hz hret
end
section
variable {w : World} {A : Around} {loose : List Str} {mean : ExcName → Option Value} {mg mb : Str → Option Value} {s : Shared} {E : Value → Shared → Prop} {Q : Value → Shared → Prop}
theorem law_5c {L tk : Nat} {h h₀ : Heap} {m : Str → Option Value} {R : List (Addr × Obj)} {b c ra wa : Addr} {bv lv rv wv : List Value} {bz : List Int} {xs lxs : List (Option Str)} {ws : List Str} {kb kc kr kw tw : Nat} {way : Int} {o1 o2 o3 o4 o5 o6 o7 : Obj}
    (B : Below A h₀ [] h₀) (X : (K w.params).In h₀) (T : Top q loose mean mg mb h₀) (hh : A.handled = none) (hd : A.depth + 60 ≤ 700) (hu : A.units + 600 ≤ 8000)
    (F : Fr h₀ L h m)
    (N : News h₀ L h R) (mc : (c, W.listOf lv.toArray kc) ∈ R) (mr : (ra, W.listOf rv.toArray kr) ∈ R) (mw : (wa, W.listOf wv.toArray kw) ∈ R) (mb9 : (b, W.listOf bv.toArray kb) ∈ R) (mo7 : (L + 1 + 1 + 1 + 1 + 1 + 1 + 1, o7) ∈ R) (mo6 : (L + 1 + 1 + 1 + 1 + 1 + 1, o6) ∈ R) (mo5 : (L + 1 + 1 + 1 + 1 + 1, o5) ∈ R) (mo4 : (L + 1 + 1 + 1 + 1, o4) ∈ R) (mo3 : (L + 1 + 1 + 1, o3) ∈ R) (mo2 : (L + 1 + 1, o2) ∈ R) (mo1 : (L + 1, o1) ∈ R)
    (hb : AllNe b [(L + 1 + 1 + 1 + 1 + 1 + 1 + 1, o7), (L + 1 + 1 + 1 + 1 + 1 + 1, o6), (L + 1, o1)]) (d1 : o1.data = .cell (some (.ref b))) (d2 : o2.data = .cell (some (.ref wa))) (d3 : o3.data = .cell (some (.ref ra))) (d4 : o4.data = .cell (some (.int way tw))) (d5 : o5.data = .cell (some (.ref c))) (d6 : o6.data = .cell none) (d7 : o7.data = .cell none) (hi : IntsAre bv bz) (hz : bv.length ≤ 1000)
    (wp : Paired IsOS wv xs) (rp : Paired IsS rv ws) (hr : IsRanks xs ws) (lp : Paired IsOS lv lxs) (wz : wv.length ≤ 5) (rz : rv.length ≤ 4) (lz : lv.length ≤ 10)
    (hlen : lv.length ≠ rv.length) (h1 : lv.length ≠ 1) (hway : 2 ≤ way)
    (hret : ∀ h' tk', Kept h₀ h' → Q (.bool true) { s with heap := h', toks := tk' }) :
    LawGoal w A L (lawB (restOf_of 103 5 rfl)) (lawSc (restOf_of 103 5 rfl)) Q noE { s with heap := h, toks := tk } := by
  unfold LawGoal
  dsimp only [lawB, lawSc]
  k_dflt k_whole
  k_fold
  have calm9 : Calm := trivial
  have hwl : ws.length ≤ 4 := by rw [← rp.length]; exact rz
  have hle : ((lv.length : Int) == (rv.length : Int)) = false := beq_eq_false_iff_ne.mpr (by omega)
  have hbad : badLabels lv.length ws.length = Str.ofString "invalid 'labels'; length " ++ Str.ofString (toString (lv.length : Int)) ++ Str.ofString " should be 1 or " ++ Str.ofString (toString (rv.length : Int)) := by
    rw [rp.length]; rfl
  have hb9 : (Str.ofString "invalid 'labels'; length " ++ Str.ofString (toString (lv.length : Int)) ++ Str.ofString " should be 1 or " ++ Str.ofString (toString (rv.length : Int)) != Str.ofString "invalid 'labels'; length " ++ Str.ofString (toString (lv.length : Int)) ++ Str.ofString " should be 1 or " ++ Str.ofString (toString (rv.length : Int))) = false := bne_self_eq_false _
  have st9 : StopCall 647 := trivial
  k_steps
  clear st9
  refine Halt.of ?_
  k_dflt (refine' told_make_r ?al hr ?v ?l wp ?vl ?ll lp ?e ?z ?y ?wl ?he h1 ?C ?X ?T ?d ?u ?_)
  case al => walk_at "m_get"
  case v => walk_at "m_vec"
  case l => walk_at "m_get"
  case vl => walk_at "m_vec"
  case ll => walk_at "m_get"
  case e => walk_at "m_get"
  case z => omega
  case y => omega
  case wl => omega
  case he => rw [← rp.length]; exact hlen
  case C => walk_at "m_cx"
  case X => exact X
  case T => exact T
  case d => walk_at "m_dep"
  case u => walk_at "m_dep"
  k_whole
  rw [hbad]
  walk_at "m_backX"
  have st9 : StopAt (Str.ofString "wide") := trivial
  k_steps
  clear st9
  refine Halt.of ?_
  rename News _ _ _ _ => N1
  rename Fr _ _ _ _ => F1
  exact law_8 B X T hh hd hu F1 (subNews N1 (by walk_at "m_pick")) hb d1 d6 d7 hi hz hret
end
noncomputable def idxCode (ws : List Str) (x : Option Str) : Option Int := x.map fun w => ((ws.idxOf w : Nat) : Int) + 1
noncomputable def oneNames (p : Str) (n : Nat) : List Str := (List.range n).map fun i : Nat => p ++ Str.ofString (toString ((i : Int) + 1))
theorem oneNames_next (p : Str) (n : Nat) : oneNames p (n + 1) = oneNames p n ++ [p ++ Str.ofString (toString ((n : Int) + 1))] := by
  unfold oneNames; rw [List.range_succ, List.map_append]; rfl
theorem oneNames_ok {p : Str} (hp : PyData.strOk p = true) (n : Nat) : ∀ x ∈ oneNames p n, PyData.strOk x = true := by
  intro x hx
  refine letG ?_
  intro P9
  obtain ⟨i, _, rfl⟩ := List.mem_map.mp hx
  k_unfold
  try clear P9
  exact okApp hp (okOf _)
section
variable {w : World} {A : Around} {loose : List Str} {mean : ExcName → Option Value} {mg mb : Str → Option Value} {s : Shared} {E : Value → Shared → Prop} {Q : Value → Shared → Prop}
theorem law_5b {L tk : Nat} {h h₀ : Heap} {m : Str → Option Value} {R : List (Addr × Obj)} {b c ra wa : Addr} {bv rv wv : List Value} {v0 : Value} {x0 : Option Str} {pre : Str} {bz : List Int} {xs : List (Option Str)} {ws : List Str} {kb kc kr kw tw : Nat} {way : Int} {o1 o2 o3 o4 o5 o6 o7 : Obj}
    (B : Below A h₀ [] h₀) (X : (K w.params).In h₀) (T : Top q loose mean mg mb h₀) (hh : A.handled = none) (hd : A.depth + 60 ≤ 700) (hu : A.units + 600 ≤ 8000)
    (F : Fr h₀ L h m)
    (N : News h₀ L h R) (mc : (c, W.listOf [v0].toArray kc) ∈ R) (mr : (ra, W.listOf rv.toArray kr) ∈ R) (mw : (wa, W.listOf wv.toArray kw) ∈ R) (mb9 : (b, W.listOf bv.toArray kb) ∈ R) (mo7 : (L + 1 + 1 + 1 + 1 + 1 + 1 + 1, o7) ∈ R) (mo6 : (L + 1 + 1 + 1 + 1 + 1 + 1, o6) ∈ R) (mo5 : (L + 1 + 1 + 1 + 1 + 1, o5) ∈ R) (mo4 : (L + 1 + 1 + 1 + 1, o4) ∈ R) (mo3 : (L + 1 + 1 + 1, o3) ∈ R) (mo2 : (L + 1 + 1, o2) ∈ R) (mo1 : (L + 1, o1) ∈ R)
    (hb : AllNe b [(L + 1 + 1 + 1 + 1 + 1 + 1 + 1, o7), (L + 1 + 1 + 1 + 1 + 1 + 1, o6), (L + 1, o1)]) (d1 : o1.data = .cell (some (.ref b))) (d2 : o2.data = .cell (some (.ref wa))) (d3 : o3.data = .cell (some (.ref ra))) (d4 : o4.data = .cell (some (.int way tw))) (d5 : o5.data = .cell (some (.ref c))) (d6 : o6.data = .cell none) (d7 : o7.data = .cell none) (hi : IntsAre bv bz) (hz : bv.length ≤ 1000)
    (wp : Paired IsOS wv xs) (rp : Paired IsS rv ws) (hr : IsRanks xs ws) (lp0 : IsOS v0 x0) (wz : wv.length ≤ 5) (rz : rv.length ≤ 4)
    (hw2 : (way = 0 ∧ x0 = some (Str.ofString "z") ∧ pre = Str.ofString "z") ∨ (way = 1 ∧ x0 = none ∧ pre = Str.ofString "NA")) (hlen : 1 ≠ rv.length) (hmc : madeCodes xs (calledOf [x0] ws.length) ws = xs.map (idxCode ws)) (hdl : distinctT (calledOf [x0] ws.length) = oneNames pre ws.length)
    (hret : ∀ h' tk', Kept h₀ h' → Q (.bool true) { s with heap := h', toks := tk' }) :
    LawGoal w A L (lawB (restOf_of 103 5 rfl)) (lawSc (restOf_of 103 5 rfl)) Q noE { s with heap := h, toks := tk } := by
  unfold LawGoal
  dsimp only [lawB, lawSc]
  k_dflt k_whole
  k_fold
  have calm9 : Calm := trivial
  have hrl0 := rp.length
  have hwl : ws.length ≤ 4 := by omega
  have hway2 : 0 ≤ way ∧ way < 2 := by rcases hw2 with ⟨h9, -⟩ | ⟨h9, -⟩ <;> omega
  have hle : ((([v0] : List Value).length : Int) == (rv.length : Int)) = false := beq_eq_false_iff_ne.mpr (by simp only [List.length_singleton]; omega)
  have hx0 : ∀ y, x0 = some y → y.length ≤ 100 := by
    intro y hy
    rcases hw2 with ⟨-, h9, -⟩ | ⟨-, h9, -⟩
    · rw [h9] at hy; cases hy; decide
    · rw [h9] at hy; cases hy
  have hpk : PyData.strOk pre = true := by rcases hw2 with ⟨-, -, h9⟩ | ⟨-, -, h9⟩ <;> (rw [h9]; exact okOf _)
  have hok : ∀ x ∈ oneNames pre ws.length, PyData.strOk x = true := oneNames_ok hpk _
  have st9 : StopCall 647 := trivial
  k_steps
  clear st9
  refine Halt.of ?_
  k_dflt (refine' told_make ?al hr ?v ?l wp ?vl ?ll (.inr ⟨_, _, rfl, rfl, lp0, ?he, ?hx⟩) ?e ?z ?wl ?C ?d ?u ?_)
  case al => walk_at "m_get"
  case v => walk_at "m_vec"
  case l => walk_at "m_get"
  case vl => walk_at "m_vec"
  case ll => walk_at "m_get"
  case hx => exact hx0
  case e => walk_at "m_get"
  case z => omega
  case wl => omega
  case he => omega
  case C => walk_at "m_cx"
  case d => walk_at "m_dep"
  case u => walk_at "m_dep"
  k_whole
  rw [hmc, hdl]
  walk_at "m_backT"
  rename Paired IsOI _ (xs.map _) => htc
  rename Paired IsS _ (oneNames _ _) => htn
  k_steps
  refine compMap (fun i ys => Paired IsS ys (oneNames pre i)) .nil ?_ ?_
  · rintro i ys hi hR
    intro v I oI Cc oC D m₂ h₂ tk₂ E' hi' hC hx' F' N' off ne
    intros
    obtain ⟨ti, rfl⟩ := hi'
    rw [Int.zero_add] at hx'
    rcases hw2 with ⟨rfl, -, rfl⟩ | ⟨rfl, -, rfl⟩
    · k_steps
      all_goals (rw [oneNames_next]; exact pairedSnoc ⟨_, rfl⟩ hR)
    · k_steps
      all_goals (rw [oneNames_next]; exact pairedSnoc ⟨_, rfl⟩ hR)
  · rintro cl hcl
    rw [rp.length] at hcl
    k_steps
    refine compMap (fun i ys => Paired IsOI ys ((xs.take i).map (idxCode ws))) .nil ?_ ?_
    · rintro i ys hi hR
      intro v I oI Cc oC D m₂ h₂ tk₂ E' hi' hC hx' F' N' off ne
      intros
      simp only [List.getElem?_toArray] at hi'
      refine letG ?_
      intro P9
      obtain ⟨z, hz1, hzv⟩ := Paired.get wp hi'
      k_unfold
      try clear P9
      cases z with
      | none =>
        cases hzv
        k_steps
        all_goals (rw [take_map_next hz1]; refine pairedSnoc (F := IsOI) ?_ hR; exact rfl)
      | some z =>
        obtain ⟨tz, rfl⟩ := hzv
        have hzw : z ∈ ws := (hr.mem z).mpr (List.mem_of_getElem? hz1)
        have hrl := rp.length
        k_steps
        all_goals (rw [take_map_next hz1]; refine pairedSnoc (F := IsOI) ?_ hR; exact ⟨_, rfl⟩)
    · rintro cd hcd
      rw [List.size_toArray, wp.length, List.take_length] at hcd
      have st9 : StopAt (Str.ofString "wide") := trivial
      k_steps
      clear st9
      refine Halt.of ?_
      rename News _ _ _ _ => N1
      rename Fr _ _ _ _ => F1
      exact law_8 B X T hh hd hu F1 (subNews N1 (by walk_at "m_pick")) hb d1 d6 d7 hi hz hret
end
/-! the codes that make_factor gives beside those that the law reckons -/
theorem madeOf {xs : List (Option Str)} {ws ys : List Str} (hr : IsRanks xs ws) (hn : ws.Nodup) (hy : ys.Nodup) (hl : ys.length = ws.length) : madeCodes xs (ys.map some) ws = xs.map (idxCode ws) := by
  unfold madeCodes
  refine List.map_congr_left fun x hx => ?_
  cases x with
  | none => rfl
  | some v =>
    have hv : v ∈ ws := (hr.mem v).mpr hx
    have hk : ws.idxOf v < ws.length := List.idxOf_lt_length_iff.mpr hv
    have e : ws[ws.idxOf v]? = some v := by rw [List.getElem?_eq_getElem hk, List.getElem_idxOf]
    have ey : ys[ws.idxOf v]? = some (ys[ws.idxOf v]'(by omega)) := List.getElem?_eq_getElem (by omega)
    have t : ((((ws.idxOf v : Nat) : Int) + 1) - 1).toNat = ws.idxOf v := by omega
    rw [Option.bind_some, codeOf_at hn e, Option.bind_some, t, distinctT_of_nodup ys hy, List.getElem?_map, List.getElem?_map, ey, Option.map_some, Option.map_some, Option.bind_some, codeOf_at hy ey]
    rfl
theorem dueOf {xs : List (Option Str)} {ws ys : List Str} (hr : IsRanks xs ws) (hl : ys.length = ws.length) : xs.map (dueCode (ys.map some) ws) = xs.map (idxCode ws) := by
  refine List.map_congr_left fun x hx => ?_
  cases x with
  | none => rfl
  | some v =>
    have hv : v ∈ ws := (hr.mem v).mpr hx
    have hk : ws.idxOf v < ws.length := List.idxOf_lt_length_iff.mpr hv
    unfold dueCode idxCode
    rw [Option.bind_some, List.getElem?_map, List.getElem?_eq_getElem (show ws.idxOf v < ys.length by omega)]
    rfl
theorem made_due {xs : List (Option Str)} {ws ys : List Str} (hr : IsRanks xs ws) (hn : ws.Nodup) (hy : ys.Nodup) (hl : ys.length = ws.length) : madeCodes xs (ys.map some) ws = xs.map (dueCode (ys.map some) ws) :=
  (madeOf hr hn hy hl).trans (dueOf hr hl).symm
theorem made_none {xs : List (Option Str)} {ws : List Str} (hr : IsRanks xs ws) (hl : ws.length = 1) : madeCodes xs [none] ws = xs.map (dueCode [none] ws) := by
  unfold madeCodes
  refine List.map_congr_left fun x hx => ?_
  cases x with
  | none => rfl
  | some v =>
    have hv : v ∈ ws := (hr.mem v).mpr hx
    have hk : ws.idxOf v < ws.length := List.idxOf_lt_length_iff.mpr hv
    have e0 : ws.idxOf v = 0 := by omega
    unfold dueCode
    rw [Option.bind_some, Option.bind_some, e0]
    cases codeOf ws v with
    | none => rfl
    | some c =>
      rw [Option.bind_some]
      cases hc : (c - 1).toNat with
      | zero => rfl
      | succ k => rfl
theorem filterId (ys : List Str) : (ys.map some).filterMap id = ys := by
  induction ys with
  | nil => rfl
  | cons y ys ih => rw [List.map_cons, List.filterMap_cons]; exact congrArg (y :: ·) ih
theorem oneZ : ∀ n ∈ [0, 1, 2, 3, 4], (oneNames (Str.ofString "z") n).Nodup := by decide +kernel
theorem oneNA : ∀ n ∈ [0, 1, 2, 3, 4], (oneNames (Str.ofString "NA") n).Nodup := by decide +kernel
theorem namesL : ∀ n ∈ [0, 1, 2, 3, 4], (namesC "l" n).Nodup := by decide +kernel
theorem five {n : Nat} (h : n ≤ 4) : n ∈ [0, 1, 2, 3, 4] := by
  simp only [List.mem_cons, List.not_mem_nil, or_false]; omega
theorem oneNames_len (p : Str) (n : Nat) : (oneNames p n).length = n := by unfold oneNames; rw [List.length_map, List.length_range]
theorem calledOne {x0 : Option Str} {n : Nat} (h : 1 ≠ n) : calledOf [x0] n = (oneNames (x0.getD (Str.ofString "NA")) n).map some := by
  unfold calledOf oneNames
  rw [if_neg (by simpa using h), List.map_map]
  rfl
theorem made_one {xs : List (Option Str)} {ws : List Str} {x0 : Option Str} {p : Str} (hr : IsRanks xs ws) (hn : ws.Nodup) (h : 1 ≠ ws.length) (hp : x0.getD (Str.ofString "NA") = p) (hy : (oneNames p ws.length).Nodup) :
    madeCodes xs (calledOf [x0] ws.length) ws = xs.map (idxCode ws) ∧ distinctT (calledOf [x0] ws.length) = oneNames p ws.length := by
  subst hp
  rw [calledOne h]
  exact ⟨madeOf hr hn hy (oneNames_len _ _), distinctT_of_nodup _ hy⟩
theorem eqOr {vs : List Value} {ws : List Str} (h : Paired IsS vs ws) : (vs.length = 1 ∧ ws.length = 1) ∨ (1 ≠ vs.length ∧ 1 ≠ ws.length) := by
  have := h.length
  omega
theorem repP {v : Value} {x : Option Str} (h : IsOS v x) : ∀ n : Nat, Paired IsOS (List.replicate n v) (List.replicate n x)
  | 0 => .nil
  | n + 1 => .cons h (repP h n)
theorem labelsDistinct {ys : List Str} (h : ys.Nodup) : distinctT (ys.map some) = (ys.map some).filterMap id := by rw [filterId, distinctT_of_nodup ys h]
theorem namesL_eq (n : Nat) : ((List.range n).map fun i : Nat => some (Str.ofString "l" ++ Str.ofString (toString (i : Int)))) = (namesC "l" n).map some := by
  unfold namesC; rw [List.map_map]; rfl
section
variable {w : World} {A : Around} {loose : List Str} {mean : ExcName → Option Value} {mg mb : Str → Option Value} {s : Shared} {E : Value → Shared → Prop} {Q : Value → Shared → Prop}
theorem law_c {l : Addr} {vs : List Value} {ns : List Int} (hl : s.heap.IsList l vs.toArray) (hi : IntsAre vs ns) (hz : vs.length ≤ 63)
    (C : Cx w A s.heap [] loose mean mg mb s.heap) (hd : A.depth + 60 ≤ 700) (hu : A.units + 600 ≤ 8000)
    (hret : ∀ h' tk', Kept s.heap h' → Q (.bool true) { s with heap := h', toks := tk' }) :
    wpAny (model pw w) A (call (.ref 652) [.ref l]) Q E s := by
  obtain ⟨B, X, T, hh⟩ := C
  walk_at "m_goC"
  rename Paired IsOS _ _ => hwp
  rename List (Option Str) => xs
  refine compIf (fun i ys => Paired IsS ys ((menuS.take i).filter fun x => decide (some x ∈ xs))) .nil ?_ ?_
  · rintro i ys hi2 hR
    intro v I oI Cc oC D m₂ h₂ tk₂ E' hi' hC hx' F' N' off ne
    intros
    simp only [List.getElem?_toArray] at hi'
    refine letG ?_
    intro P9
    obtain ⟨z, hz1, tz, rfl⟩ := Paired.get (F := IsS) (r := menuS) (.cons ⟨_, rfl⟩ (.cons ⟨_, rfl⟩ (.cons ⟨_, rfl⟩ (.cons ⟨_, rfl⟩ .nil)))) hi'
    k_unfold
    try clear P9
    by_cases hz2 : some z ∈ xs
    · have hzd : decide (some z ∈ xs) = true := decide_eq_true hz2
      k_steps
      all_goals (rw [take_filter_next _ hz1, if_pos hzd]; exact pairedSnoc ⟨_, rfl⟩ hR)
    · have hzd : decide (some z ∈ xs) = false := decide_eq_false hz2
      k_steps
      all_goals (rw [take_filter_next _ hz1, if_neg (by rw [hzd]; decide), List.append_nil]; exact hR)
  · rintro ys hR
    have hR : Paired IsS ys (ranksOf xs) := hR
    have hyl : ys.length ≤ 4 := by rw [hR.length]; exact List.length_filter_le _ _
    k_steps
    rename sortedS _ = true => hss
    rename List.Perm _ (ranksOf xs) => hpm
    rename Paired IsS _ _ => hrp
    have hranks : IsRanks xs _ := isRanks_sorted hss hpm (List.filter_sublist.nodup (by decide)) (ranksOf_mem (by assumption))
    have hrl := hrp.length
    rename _ = ys.length => hvl
    refine compMap (fun i ys => Paired IsOS ys ((List.range i).map fun i : Nat => some (Str.ofString "l" ++ Str.ofString (toString (i : Int))))) .nil ?_ ?_
    · rintro i ys hi hR
      intro v I oI Cc oC D m₂ h₂ tk₂ E' hi' hC hx' F' N' off ne
      intros
      obtain ⟨ti, rfl⟩ := hi'
      rw [Int.zero_add] at hx'
      k_steps
      all_goals (rw [List.range_succ, List.map_append]; exact pairedSnoc ⟨_, rfl⟩ hR)
    · rintro lv hlv
      have st9 : StopAt (Str.ofString "told") := trivial
      rename (_ : Int) < 4 => hr4
      rcases wayCases hr4 with e | e | e | e
      · subst e
        k_steps
        clear st9
        refine Halt.of ?_
        rename News _ _ _ _ => N1
        rename Fr _ _ _ _ => F1
        rcases eqOr hrp with ⟨e1, e2⟩ | ⟨e1, e2⟩
        · refine' law_5a B X T hh hd hu F1 N1 ?j4 ?j3 ?j2 ?j1 ?k7 ?k6 ?k5 ?k4 ?k3 ?k2 ?k1 ?hb ?d1 ?d2 ?d3 ?d4 ?d5 ?d6 ?d7 ?hi ?hz hwp hrp hranks ?lp ?wz ?rz ?lz ?hlen ?hmc ?hdl ?hok hret
          case k1 => k_mem
          case k2 => k_mem
          case k3 => k_mem
          case k4 => k_mem
          case k5 => k_mem
          case k6 => k_mem
          case k7 => k_mem
          case d1 => assumption
          case d2 => assumption
          case d3 => assumption
          case d4 => assumption
          case d5 => assumption
          case d6 => assumption
          case d7 => assumption
          case j1 => k_mem
          case j2 => k_mem
          case j3 => k_mem
          case j4 => k_mem
          case hb => exact allNeCons (by k_ne) (allNeCons (by k_ne) (allNeCons (by k_ne) trivial))
          case hi => assumption
          case hz => omega
          case wz => assumption
          case rz => omega
          case lp => exact .cons (b := some (Str.ofString "z")) ⟨_, rfl⟩ .nil
          case lz => exact Nat.le_of_ble_eq_true rfl
          case hlen => exact e1.symm
          case hmc => exact made_due (ys := [Str.ofString "z"]) hranks hranks.nodup (by decide) e2.symm
          case hdl => exact labelsDistinct (ys := [Str.ofString "z"]) (by decide)
          case hok =>
            intro x hx
            rw [show [some (Str.ofString "z")].filterMap id = [Str.ofString "z"] from rfl] at hx
            obtain rfl := List.mem_singleton.mp hx
            exact okOf _
        · refine' law_5b B X T hh hd hu F1 N1 ?j4 ?j3 ?j2 ?j1 ?k7 ?k6 ?k5 ?k4 ?k3 ?k2 ?k1 ?hb ?d1 ?d2 ?d3 ?d4 ?d5 ?d6 ?d7 ?hi ?hz hwp hrp hranks ?lp ?wz ?rz ?hw2 ?hlen ?hmc ?hdl hret
          case k1 => k_mem
          case k2 => k_mem
          case k3 => k_mem
          case k4 => k_mem
          case k5 => k_mem
          case k6 => k_mem
          case k7 => k_mem
          case d1 => assumption
          case d2 => assumption
          case d3 => assumption
          case d4 => assumption
          case d5 => assumption
          case d6 => assumption
          case d7 => assumption
          case j1 => k_mem
          case j2 => k_mem
          case j3 => k_mem
          case j4 => k_mem
          case hb => exact allNeCons (by k_ne) (allNeCons (by k_ne) (allNeCons (by k_ne) trivial))
          case hi => assumption
          case hz => omega
          case wz => assumption
          case rz => omega
          case hw2 => exact .inl ⟨rfl, rfl, rfl⟩
          case lp => exact ⟨_, rfl⟩
          case hlen => exact e1
          case hmc => exact (made_one (x0 := some (Str.ofString "z")) (p := Str.ofString "z") hranks hranks.nodup e2 rfl (oneZ _ (five (by omega)))).1
          case hdl => exact (made_one (x0 := some (Str.ofString "z")) (p := Str.ofString "z") hranks hranks.nodup e2 rfl (oneZ _ (five (by omega)))).2
      · subst e
        k_steps
        clear st9
        refine Halt.of ?_
        rename News _ _ _ _ => N1
        rename Fr _ _ _ _ => F1
        rcases eqOr hrp with ⟨e1, e2⟩ | ⟨e1, e2⟩
        · refine' law_5a B X T hh hd hu F1 N1 ?j4 ?j3 ?j2 ?j1 ?k7 ?k6 ?k5 ?k4 ?k3 ?k2 ?k1 ?hb ?d1 ?d2 ?d3 ?d4 ?d5 ?d6 ?d7 ?hi ?hz hwp hrp hranks ?lp ?wz ?rz ?lz ?hlen ?hmc ?hdl ?hok hret
          case k1 => k_mem
          case k2 => k_mem
          case k3 => k_mem
          case k4 => k_mem
          case k5 => k_mem
          case k6 => k_mem
          case k7 => k_mem
          case d1 => assumption
          case d2 => assumption
          case d3 => assumption
          case d4 => assumption
          case d5 => assumption
          case d6 => assumption
          case d7 => assumption
          case j1 => k_mem
          case j2 => k_mem
          case j3 => k_mem
          case j4 => k_mem
          case hb => exact allNeCons (by k_ne) (allNeCons (by k_ne) (allNeCons (by k_ne) trivial))
          case hi => assumption
          case hz => omega
          case wz => assumption
          case rz => omega
          case lp => exact .cons (b := none) rfl .nil
          case lz => exact Nat.le_of_ble_eq_true rfl
          case hlen => exact e1.symm
          case hmc => exact made_none hranks e2
          case hdl => rfl
          case hok => intro x hx; cases hx
        · refine' law_5b B X T hh hd hu F1 N1 ?j4 ?j3 ?j2 ?j1 ?k7 ?k6 ?k5 ?k4 ?k3 ?k2 ?k1 ?hb ?d1 ?d2 ?d3 ?d4 ?d5 ?d6 ?d7 ?hi ?hz hwp hrp hranks ?lp ?wz ?rz ?hw2 ?hlen ?hmc ?hdl hret
          case k1 => k_mem
          case k2 => k_mem
          case k3 => k_mem
          case k4 => k_mem
          case k5 => k_mem
          case k6 => k_mem
          case k7 => k_mem
          case d1 => assumption
          case d2 => assumption
          case d3 => assumption
          case d4 => assumption
          case d5 => assumption
          case d6 => assumption
          case d7 => assumption
          case j1 => k_mem
          case j2 => k_mem
          case j3 => k_mem
          case j4 => k_mem
          case hb => exact allNeCons (by k_ne) (allNeCons (by k_ne) (allNeCons (by k_ne) trivial))
          case hi => assumption
          case hz => omega
          case wz => assumption
          case rz => omega
          case hw2 => exact .inr ⟨rfl, rfl, rfl⟩
          case lp => exact rfl
          case hlen => exact e1
          case hmc => exact (made_one (x0 := none) (p := Str.ofString "NA") hranks hranks.nodup e2 rfl (oneNA _ (five (by omega)))).1
          case hdl => exact (made_one (x0 := none) (p := Str.ofString "NA") hranks hranks.nodup e2 rfl (oneNA _ (five (by omega)))).2
      · subst e
        k_steps
        clear st9
        refine Halt.of ?_
        rename News _ _ _ _ => N1
        rename Fr _ _ _ _ => F1
        rw [namesL_eq] at hlv
        have hll := hlv.length
        rw [List.length_map, namesC_len] at hll
        refine' law_5a B X T hh hd hu F1 N1 ?j4 ?j3 ?j2 ?j1 ?k7 ?k6 ?k5 ?k4 ?k3 ?k2 ?k1 ?hb ?d1 ?d2 ?d3 ?d4 ?d5 ?d6 ?d7 ?hi ?hz hwp hrp hranks hlv ?wz ?rz ?lz ?hlen ?hmc ?hdl ?hok hret
        case k1 => k_mem
        case k2 => k_mem
        case k3 => k_mem
        case k4 => k_mem
        case k5 => k_mem
        case k6 => k_mem
        case k7 => k_mem
        case d1 => assumption
        case d2 => assumption
        case d3 => assumption
        case d4 => assumption
        case d5 => assumption
        case d6 => assumption
        case d7 => assumption
        case j1 => k_mem
        case j2 => k_mem
        case j3 => k_mem
        case j4 => k_mem
        case hb => exact allNeCons (by k_ne) (allNeCons (by k_ne) (allNeCons (by k_ne) trivial))
        case hi => assumption
        case hz => omega
        case wz => assumption
        case rz => omega
        case lz => omega
        case hlen => omega
        case hmc => exact made_due hranks hranks.nodup (namesL _ (five (by omega))) (by rw [namesC_len]; omega)
        case hdl => exact labelsDistinct (namesL _ (five (by omega)))
        case hok => intro x hx; rw [filterId] at hx; exact namesC_ok _ _ x hx
      · subst e
        k_steps
        clear st9
        refine Halt.of ?_
        rename News _ _ _ _ => N1
        rename Fr _ _ _ _ => F1
        refine' law_5c B X T hh hd hu F1 N1 ?j4 ?j3 ?j2 ?j1 ?k7 ?k6 ?k5 ?k4 ?k3 ?k2 ?k1 ?hb ?d1 ?d2 ?d3 ?d4 ?d5 ?d6 ?d7 ?hi ?hz hwp hrp hranks (repP (x := some (Str.ofString "y")) ⟨_, rfl⟩ _) ?wz ?rz ?lz ?hlen ?h1 ?hway hret
        case k1 => k_mem
        case k2 => k_mem
        case k3 => k_mem
        case k4 => k_mem
        case k5 => k_mem
        case k6 => k_mem
        case k7 => k_mem
        case d1 => assumption
        case d2 => assumption
        case d3 => assumption
        case d4 => assumption
        case d5 => assumption
        case d6 => assumption
        case d7 => assumption
        case j1 => k_mem
        case j2 => k_mem
        case j3 => k_mem
        case j4 => k_mem
        case hb => exact allNeCons (by k_ne) (allNeCons (by k_ne) (allNeCons (by k_ne) trivial))
        case hi => assumption
        case hz => omega
        case wz => assumption
        case rz => omega
        case lz => rw [List.length_replicate]; omega
        case hlen => rw [List.length_replicate]; omega
        case h1 => rw [List.length_replicate]; omega
        case hway => decide
end
theorem atLaw {w : World} {h : Heap} {mg : Str → Option Value} {a : Addr} (X : (K w.params).In h) (G : h.Ns mainGlobals mg) (e : mg (Str.ofString "law") = some (.ref a)) : a = 652 := by
  have q := mg_of (n := Str.ofString "law") (v := .ref 652) X G (by kernel_rfl)
  rw [e] at q
  exact Value.ref.inj (Option.some.inj q)
theorem holds_of : PySem.Challenge.rw_pq1411_01.Holds := by
  w_on
  refine holds_law said0 fun said => ?_
  refine holds_open (q := q) (loose := looseQ) (Xt := fun s => xlAt q [] s && recOk (RowW.records (OpenRow.toRowW (OpenLaw.row PySem.Challenge.rw_pq1411_01))) s) (XP := XL q []) (Yf := Hook.obs kH) (Ya := Hook.val kH) (YP := Hook.says kH) (N := 4000) left (Hook.of kH) (Hook.keeps kH) (fun s e => xl_of s (Bool.and_eq_true_iff.mp e).1) XL.keeps (by rfl) (by rfl) (by rfl) (fun s e => recFacts_of (Bool.and_eq_true_iff.mp e).2) (by first | rfl | fail "a") (by first | assumption | decide +kernel) (by decide +kernel) ⟨rfl, rfl, rfl, rfl, rfl, tables0⟩ ?hw ?hc
  case hw => w_witness2
  case hc =>
    intro w s₀ s₁ mg mb G Y fa o pm cd doc dV kV ho hd hcd hD hmg hg args vals as hpre hlay hrd hwl hlo
    have KX := kIn_of Y
    clear ho hd hcd hD Y
    refine Ground.open G ?_
    intro T B D TE TW
    have ef := atLaw KX T.g hmg
    subst ef
    have K0 := below_caller s₁.heap
    clear hmg G B D TE TW
    wrow_args hpre hlay hrd hwl hlo
    rename_i ns _ _ _ _ _ _ _ _ vs _ hL _ _ _ hI _ hc _
    have hz : vs.length ≤ 63 := by have := hI.length; omega
    refine law_c hL hI hz ⟨K0, KX, T, rfl⟩ (by decide) (by decide) ?_
    intro h' tk' kp
    refine GoodW.toG ?_
    refine ⟨.inl ⟨_, .bool true, [], rfl, ?hn, .bool _, ?hp, unshared_nil⟩, kp, rfl, hg⟩
    case hn => exact raisesW_false (by wrow_none_raised)
    case hp => wrow_post
end Mine
theorem PySem.Challenge.cw_pq1411_01_holds : PySem.Challenge.rw_pq1411_01.Holds :=
  Mine.holds_of
