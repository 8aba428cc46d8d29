import PyProof.Rows.All
import Wide.All
import OpenK.AllK
import Wide.FinOn
import HandS.ForMost
import HandS.Evl
import HandS.Codes
import HandS.IsInst
import HandS.Property
import HandS.WideBits
import HandS.TupAny
import HandS.SetKeys
import HandS.DictTup
import HandS.Strs
import HandS.SetFor
import KE.KDictKeyed
import KE.KDictWalk
import HandS.Lambda
import KE.SortKeyHeap
import KE.KSortKey
import PyProof.StrLawsRepr
import HandS.EndTab
import KE.KNestM
import KE.RegKIsAll
import PySem.Challenge.RW_closerworks_k31_whole_roots_and_lots_of
set_option Elab.async false
set_option linter.all false
set_option maxRecDepth 100000
set_option maxHeartbeats 4000000
/-! The text by places, what its defs stand for. -/
namespace K31
open PySem PySem.Spec PyProof.Rows L2 Evl
open C8 (InsC call_isC pe_gc)
def topS (i : Nat) : Stmt := PySem.Challenge.pw_closerworks_k31_whole_roots_and_lots_of.main.body.getD i (.Pass ⟨0, 0, 0, 0⟩)
abbrev sis_letter : Stmt := topS 11
theorem scis_letter : FnScope ["value"] ["value"] (defScope sis_letter) := ⟨rfl, rfl, rfl, by decide +kernel, rfl, by decide +kernel, by decide +kernel⟩
abbrev sis_rising : Stmt := topS 12
theorem scis_rising : FnScope ["value", "sign", "k"] ["value"] (defScope sis_rising) := ⟨rfl, rfl, rfl, by decide +kernel, rfl, by decide +kernel, by decide +kernel⟩
abbrev sare_things : Stmt := topS 13
theorem scare_things : FnScope ["value"] ["value"] (defScope sare_things) := ⟨rfl, rfl, rfl, by decide +kernel, rfl, by decide +kernel, by decide +kernel⟩
abbrev scheck_things : Stmt := topS 14
theorem sccheck_things : FnScope ["value"] ["value"] (defScope scheck_things) := ⟨rfl, rfl, rfl, by decide +kernel, rfl, by decide +kernel, by decide +kernel⟩
abbrev sis_lot : Stmt := topS 15
theorem scis_lot : FnScope ["things", "value", "sign"] ["things", "value"] (defScope sis_lot) := ⟨rfl, rfl, rfl, by decide +kernel, rfl, by decide +kernel, by decide +kernel⟩
abbrev swrong_in_family : Stmt := topS 17
theorem scwrong_in_family : FnScope ["things", "value", "index"] ["things", "value"] (defScope swrong_in_family) := ⟨rfl, rfl, rfl, by decide +kernel, rfl, by decide +kernel, by decide +kernel⟩
abbrev smask_of : Stmt := topS 18
theorem scmask_of : FnScope ["things", "lot", "k"] ["things", "lot"] (defScope smask_of) := ⟨rfl, rfl, rfl, by decide +kernel, rfl, by decide +kernel, by decide +kernel⟩
abbrev slot_of : Stmt := topS 19
theorem sclot_of : FnScope ["things", "mask", "k"] ["things", "mask"] (defScope slot_of) := ⟨rfl, rfl, rfl, by decide +kernel, rfl, by decide +kernel, by decide +kernel⟩
abbrev swhole_of : Stmt := topS 20
theorem scwhole_of : FnScope ["things"] ["things"] (defScope swhole_of) := ⟨rfl, rfl, rfl, by decide +kernel, rfl, by decide +kernel, by decide +kernel⟩
abbrev smasks_of : Stmt := topS 21
theorem scmasks_of : FnScope ["things", "family", "lot"] ["things", "family"] (defScope smasks_of) := ⟨rfl, rfl, rfl, by decide +kernel, rfl, by decide +kernel, by decide +kernel⟩
abbrev sfamily_of : Stmt := topS 22
theorem scfamily_of : FnScope ["things", "masks", "mask"] ["things", "masks"] (defScope sfamily_of) := ⟨rfl, rfl, rfl, by decide +kernel, rfl, by decide +kernel, by decide +kernel⟩
abbrev sis_inside : Stmt := topS 23
theorem scis_inside : FnScope ["one", "other"] ["one", "other"] (defScope sis_inside) := ⟨rfl, rfl, rfl, by decide +kernel, rfl, by decide +kernel, by decide +kernel⟩
abbrev smeets_of : Stmt := topS 24
theorem scmeets_of : FnScope ["things", "masks", "found", "mask", "more", "each"] ["things", "masks"] (defScope smeets_of) := ⟨rfl, rfl, rfl, by decide +kernel, rfl, by decide +kernel, by decide +kernel⟩
abbrev sis_closed_family : Stmt := topS 26
theorem scis_closed_family : FnScope ["things", "family", "masks"] ["things", "family"] (defScope sis_closed_family) := ⟨rfl, rfl, rfl, by decide +kernel, rfl, by decide +kernel, by decide +kernel⟩
abbrev scheck_closed : Stmt := topS 27
theorem sccheck_closed : FnScope ["things", "family", "index"] ["things", "family"] (defScope scheck_closed) := ⟨rfl, rfl, rfl, by decide +kernel, rfl, by decide +kernel, by decide +kernel⟩
abbrev srounds_of : Stmt := topS 28
theorem scrounds_of : FnScope ["things", "masks", "whole", "closed", "found", "mask", "k"] ["things", "masks"] (defScope srounds_of) := ⟨rfl, rfl, rfl, by decide +kernel, rfl, by decide +kernel, by decide +kernel⟩
abbrev s__init__ : Stmt := inClass (topS 32) 0
theorem sc__init__ : FnScope ["self", "things", "closed"] ["self", "things", "closed"] (defScope s__init__) := ⟨rfl, rfl, rfl, by decide +kernel, rfl, by decide +kernel, by decide +kernel⟩
abbrev sthings : Stmt := inClass (topS 32) 2
theorem scthings : FnScope ["self"] ["self"] (defScope sthings) := ⟨rfl, rfl, rfl, by decide +kernel, rfl, by decide +kernel, by decide +kernel⟩
abbrev sclosed : Stmt := inClass (topS 32) 3
theorem scclosed : FnScope ["self"] ["self"] (defScope sclosed) := ⟨rfl, rfl, rfl, by decide +kernel, rfl, by decide +kernel, by decide +kernel⟩
abbrev sclosed_masks : Stmt := topS 34
theorem scclosed_masks : FnScope ["closer", "mask"] ["closer"] (defScope sclosed_masks) := ⟨rfl, rfl, rfl, by decide +kernel, rfl, by decide +kernel, by decide +kernel⟩
abbrev scheck_closer : Stmt := topS 35
theorem sccheck_closer : FnScope ["value"] ["value"] (defScope scheck_closer) := ⟨rfl, rfl, rfl, by decide +kernel, rfl, by decide +kernel, by decide +kernel⟩
abbrev scovers_of : Stmt := topS 37
theorem sccovers_of : FnScope ["closer", "closed", "found", "mask", "under", "each", "one"] ["closer"] (defScope scovers_of) := ⟨rfl, rfl, rfl, by decide +kernel, rfl, by decide +kernel, by decide +kernel⟩
abbrev sspan_of : Stmt := topS 38
theorem scspan_of : FnScope ["closer", "one", "other"] ["closer", "one", "other"] (defScope sspan_of) := ⟨rfl, rfl, rfl, by decide +kernel, rfl, by decide +kernel, by decide +kernel⟩
abbrev sroot_masks : Stmt := topS 39
theorem scroot_masks : FnScope ["closer", "found", "mask", "under"] ["closer"] (defScope sroot_masks) := ⟨rfl, rfl, rfl, by decide +kernel, rfl, by decide +kernel, by decide +kernel⟩
abbrev sroots : Stmt := topS 40
theorem scroots : FnScope ["closer"] ["closer"] (defScope sroots) := ⟨rfl, rfl, rfl, by decide +kernel, rfl, by decide +kernel, by decide +kernel⟩
abbrev scount_down : Stmt := topS 41
theorem sccount_down : FnScope ["closer", "some", "many", "number", "taken", "k", "one", "each"] ["closer"] (defScope scount_down) := ⟨rfl, rfl, rfl, by decide +kernel, rfl, by decide +kernel, by decide +kernel⟩
abbrev spentagon_masks : Stmt := topS 42
theorem scpentagon_masks : FnScope ["closer", "closed", "middle", "known", "mask", "some", "low", "above", "each"] ["closer"] (defScope spentagon_masks) := ⟨rfl, rfl, rfl, by decide +kernel, rfl, by decide +kernel, by decide +kernel⟩
abbrev sdiamond_lots : Stmt := topS 43
theorem scdiamond_lots : FnScope ["closer", "things", "some", "i", "known", "j", "mark", "lot", "mask"] ["closer"] (defScope sdiamond_lots) := ⟨rfl, rfl, rfl, by decide +kernel, rfl, by decide +kernel, by decide +kernel⟩
abbrev sis_distributive : Stmt := topS 44
theorem scis_distributive : FnScope ["closer"] ["closer"] (defScope sis_distributive) := ⟨rfl, rfl, rfl, by decide +kernel, rfl, by decide +kernel, by decide +kernel⟩
abbrev s_law_well : Stmt := topS 46
theorem sc_law_well : FnScope ["_law_script", "_law_k", "_law_cell", "_law_stirred", "_law_each"] ["_law_script", "_law_k"] (defScope s_law_well) := ⟨rfl, rfl, rfl, by decide +kernel, rfl, by decide +kernel, by decide +kernel⟩
abbrev s_law_dip : Stmt := topS 47
theorem sc_law_dip : FnScope ["_law_well_here", "_law_size", "_law_digit"] ["_law_well_here", "_law_size"] (defScope s_law_dip) := ⟨rfl, rfl, rfl, by decide +kernel, rfl, by decide +kernel, by decide +kernel⟩
abbrev s_law_one_of : Stmt := topS 48
theorem sc_law_one_of : FnScope ["_law_well_here", "_law_menu"] ["_law_well_here", "_law_menu"] (defScope s_law_one_of) := ⟨rfl, rfl, rfl, by decide +kernel, rfl, by decide +kernel, by decide +kernel⟩
abbrev s_law_whole : Stmt := topS 49
theorem sc_law_whole : FnScope ["_law_well_here", "_law_menu", "_law_bag", "_law_found", "_law_turn"] ["_law_well_here", "_law_menu"] (defScope s_law_whole) := ⟨rfl, rfl, rfl, by decide +kernel, rfl, by decide +kernel, by decide +kernel⟩
abbrev s_law_lot : Stmt := topS 50
theorem sc_law_lot : FnScope ["_law_well_here", "_law_whole_here", "_law_sign"] ["_law_well_here", "_law_whole_here"] (defScope s_law_lot) := ⟨rfl, rfl, rfl, by decide +kernel, rfl, by decide +kernel, by decide +kernel⟩
abbrev s_law_in : Stmt := topS 51
theorem sc_law_in : FnScope ["_law_near", "_law_far", "_law_sign"] ["_law_near", "_law_far"] (defScope s_law_in) := ⟨rfl, rfl, rfl, by decide +kernel, rfl, by decide +kernel, by decide +kernel⟩
abbrev s_law_both : Stmt := topS 52
theorem sc_law_both : FnScope ["_law_near", "_law_far", "_law_sign"] ["_law_near", "_law_far"] (defScope s_law_both) := ⟨rfl, rfl, rfl, by decide +kernel, rfl, by decide +kernel, by decide +kernel⟩
abbrev s_law_any : Stmt := topS 53
theorem sc_law_any : FnScope ["_law_near", "_law_far"] ["_law_near", "_law_far"] (defScope s_law_any) := ⟨rfl, rfl, rfl, by decide +kernel, rfl, by decide +kernel, by decide +kernel⟩
abbrev s_law_meets : Stmt := topS 54
theorem sc_law_meets : FnScope ["_law_whole_here", "_law_menu", "_law_found", "_law_lot_here", "_law_each"] ["_law_whole_here", "_law_menu"] (defScope s_law_meets) := ⟨rfl, rfl, rfl, by decide +kernel, rfl, by decide +kernel, by decide +kernel⟩
abbrev s_law_round : Stmt := topS 55
theorem sc_law_round : FnScope ["_law_whole_here", "_law_closed_ones", "_law_near", "_law_found", "_law_each"] ["_law_whole_here", "_law_closed_ones", "_law_near"] (defScope s_law_round) := ⟨rfl, rfl, rfl, by decide +kernel, rfl, by decide +kernel, by decide +kernel⟩
abbrev s_law_family : Stmt := topS 56
theorem sc_law_family : FnScope ["_law_well_here", "_law_whole_here", "_law_most", "_law_turn"] ["_law_well_here", "_law_whole_here", "_law_most"] (defScope s_law_family) := ⟨rfl, rfl, rfl, by decide +kernel, rfl, by decide +kernel, by decide +kernel⟩
abbrev s_law_lots : Stmt := topS 57
theorem sc_law_lots : FnScope ["_law_whole_here", "_law_found", "_law_sign", "_law_each"] ["_law_whole_here"] (defScope s_law_lots) := ⟨rfl, rfl, rfl, by decide +kernel, rfl, by decide +kernel, by decide +kernel⟩
abbrev s_law_roots : Stmt := topS 58
theorem sc_law_roots : FnScope ["_law_whole_here", "_law_closed_ones", "_law_found", "_law_each", "_law_held", "_law_under", "_law_near"] ["_law_whole_here", "_law_closed_ones"] (defScope s_law_roots) := ⟨rfl, rfl, rfl, by decide +kernel, rfl, by decide +kernel, by decide +kernel⟩
abbrev s_law_downs : Stmt := topS 59
theorem sc_law_downs : FnScope ["_law_roots_here", "_law_found", "_law_each", "_law_under", "_law_near", "_law_lots_here"] ["_law_roots_here"] (defScope s_law_downs) := ⟨rfl, rfl, rfl, by decide +kernel, rfl, by decide +kernel, by decide +kernel⟩
abbrev s_law_right : Stmt := topS 60
theorem sc_law_right : FnScope ["_law_well_here", "_law_again", "_law_whole_here", "_law_menu", "_law_closed_ones", "_law_mine", "_law_due", "_law_many", "_law_each", "_law_held", "_law_near", "_law_k"] ["_law_well_here"] (defScope s_law_right) := ⟨rfl, rfl, rfl, by decide +kernel, rfl, by decide +kernel, by decide +kernel⟩
abbrev slaw : Stmt := topS 61
theorem sclaw : FnScope ["_law_script", "_law_k"] ["_law_script"] (defScope slaw) := ⟨rfl, rfl, rfl, by decide +kernel, rfl, by decide +kernel, by decide +kernel⟩
structure Defs (K : PySem.W.Frag) (mg : Str → Option Value) where
  a_is_letter : Addr
  d_is_letter : FuncData
  F_is_letter : Fun K "is_letter" "is_letter" sis_letter a_is_letter d_is_letter
  g_is_letter : mg "is_letter" = some (.ref a_is_letter)
  a_is_rising : Addr
  d_is_rising : FuncData
  F_is_rising : Fun K "is_rising" "is_rising" sis_rising a_is_rising d_is_rising
  g_is_rising : mg "is_rising" = some (.ref a_is_rising)
  a_are_things : Addr
  d_are_things : FuncData
  F_are_things : Fun K "are_things" "are_things" sare_things a_are_things d_are_things
  g_are_things : mg "are_things" = some (.ref a_are_things)
  a_check_things : Addr
  d_check_things : FuncData
  F_check_things : Fun K "check_things" "check_things" scheck_things a_check_things d_check_things
  g_check_things : mg "check_things" = some (.ref a_check_things)
  a_is_lot : Addr
  d_is_lot : FuncData
  F_is_lot : Fun K "is_lot" "is_lot" sis_lot a_is_lot d_is_lot
  g_is_lot : mg "is_lot" = some (.ref a_is_lot)
  a_wrong_in_family : Addr
  d_wrong_in_family : FuncData
  F_wrong_in_family : Fun K "wrong_in_family" "wrong_in_family" swrong_in_family a_wrong_in_family d_wrong_in_family
  g_wrong_in_family : mg "wrong_in_family" = some (.ref a_wrong_in_family)
  a_mask_of : Addr
  d_mask_of : FuncData
  F_mask_of : Fun K "mask_of" "mask_of" smask_of a_mask_of d_mask_of
  g_mask_of : mg "mask_of" = some (.ref a_mask_of)
  a_lot_of : Addr
  d_lot_of : FuncData
  F_lot_of : Fun K "lot_of" "lot_of" slot_of a_lot_of d_lot_of
  g_lot_of : mg "lot_of" = some (.ref a_lot_of)
  a_whole_of : Addr
  d_whole_of : FuncData
  F_whole_of : Fun K "whole_of" "whole_of" swhole_of a_whole_of d_whole_of
  g_whole_of : mg "whole_of" = some (.ref a_whole_of)
  a_masks_of : Addr
  d_masks_of : FuncData
  F_masks_of : Fun K "masks_of" "masks_of" smasks_of a_masks_of d_masks_of
  g_masks_of : mg "masks_of" = some (.ref a_masks_of)
  a_family_of : Addr
  d_family_of : FuncData
  F_family_of : Fun K "family_of" "family_of" sfamily_of a_family_of d_family_of
  g_family_of : mg "family_of" = some (.ref a_family_of)
  a_is_inside : Addr
  d_is_inside : FuncData
  F_is_inside : Fun K "is_inside" "is_inside" sis_inside a_is_inside d_is_inside
  g_is_inside : mg "is_inside" = some (.ref a_is_inside)
  a_meets_of : Addr
  d_meets_of : FuncData
  F_meets_of : Fun K "meets_of" "meets_of" smeets_of a_meets_of d_meets_of
  g_meets_of : mg "meets_of" = some (.ref a_meets_of)
  a_is_closed_family : Addr
  d_is_closed_family : FuncData
  F_is_closed_family : Fun K "is_closed_family" "is_closed_family" sis_closed_family a_is_closed_family d_is_closed_family
  g_is_closed_family : mg "is_closed_family" = some (.ref a_is_closed_family)
  a_check_closed : Addr
  d_check_closed : FuncData
  F_check_closed : Fun K "check_closed" "check_closed" scheck_closed a_check_closed d_check_closed
  g_check_closed : mg "check_closed" = some (.ref a_check_closed)
  a_rounds_of : Addr
  d_rounds_of : FuncData
  F_rounds_of : Fun K "rounds_of" "rounds_of" srounds_of a_rounds_of d_rounds_of
  g_rounds_of : mg "rounds_of" = some (.ref a_rounds_of)
  a___init__ : Addr
  d___init__ : FuncData
  F___init__ : Fun K "__init__" "Closer.__init__" s__init__ a___init__ d___init__
  a_things : Addr
  d_things : FuncData
  F_things : Fun K "things" "Closer.things" sthings a_things d_things
  a_closed : Addr
  d_closed : FuncData
  F_closed : Fun K "closed" "Closer.closed" sclosed a_closed d_closed
  a_closed_masks : Addr
  d_closed_masks : FuncData
  F_closed_masks : Fun K "closed_masks" "closed_masks" sclosed_masks a_closed_masks d_closed_masks
  g_closed_masks : mg "closed_masks" = some (.ref a_closed_masks)
  a_check_closer : Addr
  d_check_closer : FuncData
  F_check_closer : Fun K "check_closer" "check_closer" scheck_closer a_check_closer d_check_closer
  g_check_closer : mg "check_closer" = some (.ref a_check_closer)
  a_covers_of : Addr
  d_covers_of : FuncData
  F_covers_of : Fun K "covers_of" "covers_of" scovers_of a_covers_of d_covers_of
  g_covers_of : mg "covers_of" = some (.ref a_covers_of)
  a_span_of : Addr
  d_span_of : FuncData
  F_span_of : Fun K "span_of" "span_of" sspan_of a_span_of d_span_of
  g_span_of : mg "span_of" = some (.ref a_span_of)
  a_root_masks : Addr
  d_root_masks : FuncData
  F_root_masks : Fun K "root_masks" "root_masks" sroot_masks a_root_masks d_root_masks
  g_root_masks : mg "root_masks" = some (.ref a_root_masks)
  a_roots : Addr
  d_roots : FuncData
  F_roots : Fun K "roots" "roots" sroots a_roots d_roots
  g_roots : mg "roots" = some (.ref a_roots)
  a_count_down : Addr
  d_count_down : FuncData
  F_count_down : Fun K "count_down" "count_down" scount_down a_count_down d_count_down
  g_count_down : mg "count_down" = some (.ref a_count_down)
  a_pentagon_masks : Addr
  d_pentagon_masks : FuncData
  F_pentagon_masks : Fun K "pentagon_masks" "pentagon_masks" spentagon_masks a_pentagon_masks d_pentagon_masks
  g_pentagon_masks : mg "pentagon_masks" = some (.ref a_pentagon_masks)
  a_diamond_lots : Addr
  d_diamond_lots : FuncData
  F_diamond_lots : Fun K "diamond_lots" "diamond_lots" sdiamond_lots a_diamond_lots d_diamond_lots
  g_diamond_lots : mg "diamond_lots" = some (.ref a_diamond_lots)
  a_is_distributive : Addr
  d_is_distributive : FuncData
  F_is_distributive : Fun K "is_distributive" "is_distributive" sis_distributive a_is_distributive d_is_distributive
  g_is_distributive : mg "is_distributive" = some (.ref a_is_distributive)
  a__law_well : Addr
  d__law_well : FuncData
  F__law_well : Fun K "_law_well" "_law_well" s_law_well a__law_well d__law_well
  g__law_well : mg "_law_well" = some (.ref a__law_well)
  a__law_dip : Addr
  d__law_dip : FuncData
  F__law_dip : Fun K "_law_dip" "_law_dip" s_law_dip a__law_dip d__law_dip
  g__law_dip : mg "_law_dip" = some (.ref a__law_dip)
  a__law_one_of : Addr
  d__law_one_of : FuncData
  F__law_one_of : Fun K "_law_one_of" "_law_one_of" s_law_one_of a__law_one_of d__law_one_of
  g__law_one_of : mg "_law_one_of" = some (.ref a__law_one_of)
  a__law_whole : Addr
  d__law_whole : FuncData
  F__law_whole : Fun K "_law_whole" "_law_whole" s_law_whole a__law_whole d__law_whole
  g__law_whole : mg "_law_whole" = some (.ref a__law_whole)
  a__law_lot : Addr
  d__law_lot : FuncData
  F__law_lot : Fun K "_law_lot" "_law_lot" s_law_lot a__law_lot d__law_lot
  g__law_lot : mg "_law_lot" = some (.ref a__law_lot)
  a__law_in : Addr
  d__law_in : FuncData
  F__law_in : Fun K "_law_in" "_law_in" s_law_in a__law_in d__law_in
  g__law_in : mg "_law_in" = some (.ref a__law_in)
  a__law_both : Addr
  d__law_both : FuncData
  F__law_both : Fun K "_law_both" "_law_both" s_law_both a__law_both d__law_both
  g__law_both : mg "_law_both" = some (.ref a__law_both)
  a__law_any : Addr
  d__law_any : FuncData
  F__law_any : Fun K "_law_any" "_law_any" s_law_any a__law_any d__law_any
  g__law_any : mg "_law_any" = some (.ref a__law_any)
  a__law_meets : Addr
  d__law_meets : FuncData
  F__law_meets : Fun K "_law_meets" "_law_meets" s_law_meets a__law_meets d__law_meets
  g__law_meets : mg "_law_meets" = some (.ref a__law_meets)
  a__law_round : Addr
  d__law_round : FuncData
  F__law_round : Fun K "_law_round" "_law_round" s_law_round a__law_round d__law_round
  g__law_round : mg "_law_round" = some (.ref a__law_round)
  a__law_family : Addr
  d__law_family : FuncData
  F__law_family : Fun K "_law_family" "_law_family" s_law_family a__law_family d__law_family
  g__law_family : mg "_law_family" = some (.ref a__law_family)
  a__law_lots : Addr
  d__law_lots : FuncData
  F__law_lots : Fun K "_law_lots" "_law_lots" s_law_lots a__law_lots d__law_lots
  g__law_lots : mg "_law_lots" = some (.ref a__law_lots)
  a__law_roots : Addr
  d__law_roots : FuncData
  F__law_roots : Fun K "_law_roots" "_law_roots" s_law_roots a__law_roots d__law_roots
  g__law_roots : mg "_law_roots" = some (.ref a__law_roots)
  a__law_downs : Addr
  d__law_downs : FuncData
  F__law_downs : Fun K "_law_downs" "_law_downs" s_law_downs a__law_downs d__law_downs
  g__law_downs : mg "_law_downs" = some (.ref a__law_downs)
  a__law_right : Addr
  d__law_right : FuncData
  F__law_right : Fun K "_law_right" "_law_right" s_law_right a__law_right d__law_right
  g__law_right : mg "_law_right" = some (.ref a__law_right)
  a_law : Addr
  d_law : FuncData
  F_law : Fun K "law" "law" slaw a_law d_law
  g_law : mg "law" = some (.ref a_law)
  n_abs : mg "abs" = none
  n_all : mg "all" = none
  n_any : mg "any" = none
  n_divmod : mg "divmod" = none
  n_int : mg "int" = none
  n_isinstance : mg "isinstance" = none
  n_len : mg "len" = none
  n_list : mg "list" = none
  n_max : mg "max" = none
  n_min : mg "min" = none
  n_range : mg "range" = none
  n_repr : mg "repr" = none
  n_set : mg "set" = none
  n_sorted : mg "sorted" = none
  n_str : mg "str" = none
  n_sum : mg "sum" = none
  n_tuple : mg "tuple" = none
  C : Addr
  cl : Cls K C
  mkC : Mk K C a___init__
  insC : InsC K C
  g_Closer : mg "Closer" = some (.ref C)
  na_letters : NoAttr K C "letters"
  na_family : NoAttr K C "family"
  na_table : NoAttr K C "table"
  pa_things : Addr
  pa_closed : Addr
  p_things : PropOf K C "things" pa_things a_things
  p_closed : PropOf K C "closed" pa_closed a_closed
  g_LETTERS : ∃ t, mg "LETTERS" = some (.str "abcdefghijklmnopqrstuvwxyz" t)
  g_MOST : ∃ t, mg "MOST_THINGS" = some (.int 7 t)
section
variable {K : PySem.W.Frag} {mg : Str → Option Value}
theorem b_is_letter (D : Defs K mg) : Binds K D.d_is_letter ["value"] [] := D.F_is_letter.binds fun _ _ _ _ _ _ us hl => match us, hl with | [_], _ => rfl
theorem b_is_rising (D : Defs K mg) : Binds K D.d_is_rising ["value"] [] := D.F_is_rising.binds fun _ _ _ _ _ _ us hl => match us, hl with | [_], _ => rfl
theorem b_are_things (D : Defs K mg) : Binds K D.d_are_things ["value"] [] := D.F_are_things.binds fun _ _ _ _ _ _ us hl => match us, hl with | [_], _ => rfl
theorem b_check_things (D : Defs K mg) : Binds K D.d_check_things ["value"] [] := D.F_check_things.binds fun _ _ _ _ _ _ us hl => match us, hl with | [_], _ => rfl
theorem b_is_lot (D : Defs K mg) : Binds K D.d_is_lot ["things", "value"] [] := D.F_is_lot.binds fun _ _ _ _ _ _ us hl => match us, hl with | [_, _], _ => rfl
theorem b_wrong_in_family (D : Defs K mg) : Binds K D.d_wrong_in_family ["things", "value"] [] := D.F_wrong_in_family.binds fun _ _ _ _ _ _ us hl => match us, hl with | [_, _], _ => rfl
theorem b_mask_of (D : Defs K mg) : Binds K D.d_mask_of ["things", "lot"] [] := D.F_mask_of.binds fun _ _ _ _ _ _ us hl => match us, hl with | [_, _], _ => rfl
theorem b_lot_of (D : Defs K mg) : Binds K D.d_lot_of ["things", "mask"] [] := D.F_lot_of.binds fun _ _ _ _ _ _ us hl => match us, hl with | [_, _], _ => rfl
theorem b_whole_of (D : Defs K mg) : Binds K D.d_whole_of ["things"] [] := D.F_whole_of.binds fun _ _ _ _ _ _ us hl => match us, hl with | [_], _ => rfl
theorem b_masks_of (D : Defs K mg) : Binds K D.d_masks_of ["things", "family"] [] := D.F_masks_of.binds fun _ _ _ _ _ _ us hl => match us, hl with | [_, _], _ => rfl
theorem b_family_of (D : Defs K mg) : Binds K D.d_family_of ["things", "masks"] [] := D.F_family_of.binds fun _ _ _ _ _ _ us hl => match us, hl with | [_, _], _ => rfl
theorem b_is_inside (D : Defs K mg) : Binds K D.d_is_inside ["one", "other"] [] := D.F_is_inside.binds fun _ _ _ _ _ _ us hl => match us, hl with | [_, _], _ => rfl
theorem b_meets_of (D : Defs K mg) : Binds K D.d_meets_of ["things", "masks"] [] := D.F_meets_of.binds fun _ _ _ _ _ _ us hl => match us, hl with | [_, _], _ => rfl
theorem b_is_closed_family (D : Defs K mg) : Binds K D.d_is_closed_family ["things", "family"] [] := D.F_is_closed_family.binds fun _ _ _ _ _ _ us hl => match us, hl with | [_, _], _ => rfl
theorem b_check_closed (D : Defs K mg) : Binds K D.d_check_closed ["things", "family"] [] := D.F_check_closed.binds fun _ _ _ _ _ _ us hl => match us, hl with | [_, _], _ => rfl
theorem b_rounds_of (D : Defs K mg) : Binds K D.d_rounds_of ["things", "masks"] [] := D.F_rounds_of.binds fun _ _ _ _ _ _ us hl => match us, hl with | [_, _], _ => rfl
theorem b___init__ (D : Defs K mg) : Binds K D.d___init__ ["self", "things", "closed"] [] := D.F___init__.binds fun _ _ _ _ _ _ us hl => match us, hl with | [_, _, _], _ => rfl
theorem b_things (D : Defs K mg) : Binds K D.d_things ["self"] [] := D.F_things.binds fun _ _ _ _ _ _ us hl => match us, hl with | [_], _ => rfl
theorem b_closed (D : Defs K mg) : Binds K D.d_closed ["self"] [] := D.F_closed.binds fun _ _ _ _ _ _ us hl => match us, hl with | [_], _ => rfl
theorem b_closed_masks (D : Defs K mg) : Binds K D.d_closed_masks ["closer"] [] := D.F_closed_masks.binds fun _ _ _ _ _ _ us hl => match us, hl with | [_], _ => rfl
theorem b_check_closer (D : Defs K mg) : Binds K D.d_check_closer ["value"] [] := D.F_check_closer.binds fun _ _ _ _ _ _ us hl => match us, hl with | [_], _ => rfl
theorem b_covers_of (D : Defs K mg) : Binds K D.d_covers_of ["closer"] [] := D.F_covers_of.binds fun _ _ _ _ _ _ us hl => match us, hl with | [_], _ => rfl
theorem b_span_of (D : Defs K mg) : Binds K D.d_span_of ["closer", "one", "other"] [] := D.F_span_of.binds fun _ _ _ _ _ _ us hl => match us, hl with | [_, _, _], _ => rfl
theorem b_root_masks (D : Defs K mg) : Binds K D.d_root_masks ["closer"] [] := D.F_root_masks.binds fun _ _ _ _ _ _ us hl => match us, hl with | [_], _ => rfl
theorem b_roots (D : Defs K mg) : Binds K D.d_roots ["closer"] [] := D.F_roots.binds fun _ _ _ _ _ _ us hl => match us, hl with | [_], _ => rfl
theorem b_count_down (D : Defs K mg) : Binds K D.d_count_down ["closer"] [] := D.F_count_down.binds fun _ _ _ _ _ _ us hl => match us, hl with | [_], _ => rfl
theorem b_pentagon_masks (D : Defs K mg) : Binds K D.d_pentagon_masks ["closer"] [] := D.F_pentagon_masks.binds fun _ _ _ _ _ _ us hl => match us, hl with | [_], _ => rfl
theorem b_diamond_lots (D : Defs K mg) : Binds K D.d_diamond_lots ["closer"] [] := D.F_diamond_lots.binds fun _ _ _ _ _ _ us hl => match us, hl with | [_], _ => rfl
theorem b_is_distributive (D : Defs K mg) : Binds K D.d_is_distributive ["closer"] [] := D.F_is_distributive.binds fun _ _ _ _ _ _ us hl => match us, hl with | [_], _ => rfl
theorem b__law_well (D : Defs K mg) : Binds K D.d__law_well ["_law_script", "_law_k"] [] := D.F__law_well.binds fun _ _ _ _ _ _ us hl => match us, hl with | [_, _], _ => rfl
theorem b__law_dip (D : Defs K mg) : Binds K D.d__law_dip ["_law_well_here", "_law_size"] [] := D.F__law_dip.binds fun _ _ _ _ _ _ us hl => match us, hl with | [_, _], _ => rfl
theorem b__law_one_of (D : Defs K mg) : Binds K D.d__law_one_of ["_law_well_here", "_law_menu"] [] := D.F__law_one_of.binds fun _ _ _ _ _ _ us hl => match us, hl with | [_, _], _ => rfl
theorem b__law_whole (D : Defs K mg) : Binds K D.d__law_whole ["_law_well_here", "_law_menu"] [] := D.F__law_whole.binds fun _ _ _ _ _ _ us hl => match us, hl with | [_, _], _ => rfl
theorem b__law_lot (D : Defs K mg) : Binds K D.d__law_lot ["_law_well_here", "_law_whole_here"] [] := D.F__law_lot.binds fun _ _ _ _ _ _ us hl => match us, hl with | [_, _], _ => rfl
theorem b__law_in (D : Defs K mg) : Binds K D.d__law_in ["_law_near", "_law_far"] [] := D.F__law_in.binds fun _ _ _ _ _ _ us hl => match us, hl with | [_, _], _ => rfl
theorem b__law_both (D : Defs K mg) : Binds K D.d__law_both ["_law_near", "_law_far"] [] := D.F__law_both.binds fun _ _ _ _ _ _ us hl => match us, hl with | [_, _], _ => rfl
theorem b__law_any (D : Defs K mg) : Binds K D.d__law_any ["_law_near", "_law_far"] [] := D.F__law_any.binds fun _ _ _ _ _ _ us hl => match us, hl with | [_, _], _ => rfl
theorem b__law_meets (D : Defs K mg) : Binds K D.d__law_meets ["_law_whole_here", "_law_menu"] [] := D.F__law_meets.binds fun _ _ _ _ _ _ us hl => match us, hl with | [_, _], _ => rfl
theorem b__law_round (D : Defs K mg) : Binds K D.d__law_round ["_law_whole_here", "_law_closed_ones", "_law_near"] [] := D.F__law_round.binds fun _ _ _ _ _ _ us hl => match us, hl with | [_, _, _], _ => rfl
theorem b__law_family (D : Defs K mg) : Binds K D.d__law_family ["_law_well_here", "_law_whole_here", "_law_most"] [] := D.F__law_family.binds fun _ _ _ _ _ _ us hl => match us, hl with | [_, _, _], _ => rfl
theorem b__law_lots (D : Defs K mg) : Binds K D.d__law_lots ["_law_whole_here"] [] := D.F__law_lots.binds fun _ _ _ _ _ _ us hl => match us, hl with | [_], _ => rfl
theorem b__law_roots (D : Defs K mg) : Binds K D.d__law_roots ["_law_whole_here", "_law_closed_ones"] [] := D.F__law_roots.binds fun _ _ _ _ _ _ us hl => match us, hl with | [_, _], _ => rfl
theorem b__law_downs (D : Defs K mg) : Binds K D.d__law_downs ["_law_roots_here"] [] := D.F__law_downs.binds fun _ _ _ _ _ _ us hl => match us, hl with | [_], _ => rfl
theorem b__law_right (D : Defs K mg) : Binds K D.d__law_right ["_law_well_here"] [] := D.F__law_right.binds fun _ _ _ _ _ _ us hl => match us, hl with | [_], _ => rfl
theorem b_law (D : Defs K mg) : Binds K D.d_law ["_law_script"] [] := D.F_law.binds fun _ _ _ _ _ _ us hl => match us, hl with | [_], _ => rfl
end
theorem Defs.v_LETTERS {K : PySem.W.Frag} {mg : Str → Option Value} (D : Defs K mg) : ∃ u, mg "LETTERS" = some u ∧ RelV (.str "abcdefghijklmnopqrstuvwxyz") u := by
  obtain ⟨t, e⟩ := D.g_LETTERS
  exact ⟨_, e, t, rfl⟩
theorem Defs.v_MOST {K : PySem.W.Frag} {mg : Str → Option Value} (D : Defs K mg) : ∃ u, mg "MOST_THINGS" = some u ∧ RelV (.int 7) u := by
  obtain ⟨t, e⟩ := D.g_MOST
  exact ⟨_, e, t, rfl⟩
end K31

set_option linter.all false
set_option maxHeartbeats 1000000
/-! Lots as masks: plain Lean, no program in sight. -/
namespace K31
/-- the lot of the things T that the number m tells: its code points -/
def lot : List Nat → Nat → List Nat
  | [], _ => []
  | c :: T, m => if m % 2 = 1 then c :: lot T (m / 2) else lot T (m / 2)
/-- a is within b -/
def inc (a b : Nat) : Bool := (a &&& b) == a
structure Tg (T : List Nat) : Prop where
  asc : T.Pairwise (· < ·)
  pos : 1 ≤ T.length
  len : T.length ≤ 4
  alp : ∀ c ∈ T, 97 ≤ c ∧ c ≤ 122

theorem lot_sub : ∀ {T : List Nat} {m c : Nat}, c ∈ lot T m → c ∈ T
  | [], _, _, h => by simp [lot] at h
  | d :: T, m, c, h => by
    unfold lot at h
    split at h
    · rcases List.mem_cons.mp h with e | h
      · exact e ▸ List.mem_cons_self
      · exact List.mem_cons_of_mem _ (lot_sub h)
    · exact List.mem_cons_of_mem _ (lot_sub h)
theorem lot_asc : ∀ {T : List Nat} (m : Nat), T.Pairwise (· < ·) → (lot T m).Pairwise (· < ·)
  | [], _, _ => List.Pairwise.nil
  | d :: T, m, h => by
    obtain ⟨h1, h2⟩ := List.pairwise_cons.mp h
    unfold lot
    split
    · exact List.pairwise_cons.mpr ⟨fun x hx => h1 x (lot_sub hx), lot_asc _ h2⟩
    · exact lot_asc _ h2
theorem lot_len : ∀ (T : List Nat) (m : Nat), (lot T m).length ≤ T.length
  | [], _ => Nat.le_refl _
  | d :: T, m => by
    unfold lot
    split
    · exact Nat.succ_le_succ (lot_len T _)
    · exact Nat.le_succ_of_le (lot_len T _)
theorem lot_cons (d : Nat) (T : List Nat) (m : Nat) : lot (d :: T) m = if m % 2 = 1 then d :: lot T (m / 2) else lot T (m / 2) := rfl
theorem lot_mem_cons {d : Nat} {T : List Nat} {m c : Nat} (h : (d :: T).Pairwise (· < ·)) (hc : c ∈ T) : c ∈ lot (d :: T) m ↔ c ∈ lot T (m / 2) := by
  have ne : c ≠ d := fun e => Nat.lt_irrefl d (e ▸ (List.pairwise_cons.mp h).1 c hc)
  rw [lot_cons]
  split
  · simp [ne]
  · exact Iff.rfl
theorem lot_mem_head {d : Nat} {T : List Nat} {m : Nat} (h : (d :: T).Pairwise (· < ·)) : d ∈ lot (d :: T) m ↔ m % 2 = 1 := by
  have nt : d ∉ lot T (m / 2) := fun e => Nat.lt_irrefl d ((List.pairwise_cons.mp h).1 d (lot_sub e))
  unfold lot
  split
  · rename_i h1; simp [h1]
  · rename_i h1; simp [nt, h1]
theorem mem_and : ∀ {T : List Nat} {a b c : Nat}, T.Pairwise (· < ·) → (c ∈ lot T (a &&& b) ↔ c ∈ lot T a ∧ c ∈ lot T b)
  | [], _, _, _, _ => by simp [lot]
  | d :: T, a, b, c, h => by
    have h2 := (List.pairwise_cons.mp h).2
    by_cases e : c = d
    · subst e
      rw [lot_mem_head h, lot_mem_head h, lot_mem_head h, Nat.and_mod_two_eq_one]
    · by_cases hc : c ∈ T
      · rw [lot_mem_cons h hc, lot_mem_cons h hc, lot_mem_cons h hc, Nat.and_div_two, mem_and h2]
      · have no : ∀ m, c ∉ lot (d :: T) m := fun m q => by
          rcases List.mem_cons.mp (lot_sub q) with q | q
          · exact e q
          · exact hc q
        exact ⟨fun q => absurd q (no _), fun q => absurd q.1 (no _)⟩
theorem mem_or : ∀ {T : List Nat} {a b c : Nat}, T.Pairwise (· < ·) → (c ∈ lot T (a ||| b) ↔ c ∈ lot T a ∨ c ∈ lot T b)
  | [], _, _, _, _ => by simp [lot]
  | d :: T, a, b, c, h => by
    have h2 := (List.pairwise_cons.mp h).2
    by_cases e : c = d
    · subst e
      rw [lot_mem_head h, lot_mem_head h, lot_mem_head h, Nat.or_mod_two_eq_one]
    · by_cases hc : c ∈ T
      · rw [lot_mem_cons h hc, lot_mem_cons h hc, lot_mem_cons h hc, Nat.or_div_two, mem_or h2]
      · have no : ∀ m, c ∉ lot (d :: T) m := fun m q => by
          rcases List.mem_cons.mp (lot_sub q) with q | q
          · exact e q
          · exact hc q
        exact ⟨fun q => absurd q (no _), fun q => q.elim (fun q => absurd q (no _)) fun q => absurd q (no _)⟩
theorem lot_inj : ∀ {T : List Nat} {a b : Nat}, T.Pairwise (· < ·) → a < 2 ^ T.length → b < 2 ^ T.length → (∀ c, c ∈ lot T a ↔ c ∈ lot T b) → a = b
  | [], a, b, _, ha, hb, _ => by
    simp only [List.length_nil, Nat.pow_zero] at ha hb
    omega
  | d :: T, a, b, h, ha, hb, e => by
    have h2 := (List.pairwise_cons.mp h).2
    have e1 : a % 2 = 1 ↔ b % 2 = 1 := by rw [← lot_mem_head h, ← lot_mem_head h]; exact e d
    have hp : 2 ^ (d :: T).length = 2 * 2 ^ T.length := by rw [List.length_cons, Nat.pow_succ, Nat.mul_comm]
    rw [hp] at ha hb
    have e2 : a / 2 = b / 2 := lot_inj h2 (by omega) (by omega) fun c => by
      by_cases hc : c ∈ T
      · rw [← lot_mem_cons h hc, ← lot_mem_cons h hc]; exact e c
      · exact ⟨fun q => absurd (lot_sub q) hc, fun q => absurd (lot_sub q) hc⟩
    omega
theorem lot_inj' {T : List Nat} {a b : Nat} (h : T.Pairwise (· < ·)) (ha : a < 2 ^ T.length) (hb : b < 2 ^ T.length) (e : lot T a = lot T b) : a = b :=
  lot_inj h ha hb fun c => by rw [e]
theorem and_lt {a b n : Nat} (h : a < n) : a &&& b < n := Nat.lt_of_le_of_lt Nat.and_le_left h
theorem inc_iff {T : List Nat} {a b : Nat} (h : T.Pairwise (· < ·)) (ha : a < 2 ^ T.length) : (∀ c ∈ lot T a, c ∈ lot T b) ↔ inc a b = true := by
  unfold inc
  rw [beq_iff_eq]
  constructor
  · intro q
    refine lot_inj h (and_lt ha) ha fun c => ?_
    rw [mem_and h]
    exact ⟨fun z => z.1, fun z => ⟨z, q c z⟩⟩
  · intro e c hc
    rw [← e, mem_and h] at hc
    exact hc.2
/-- two rising lists with the same members -/
theorem asc_ext : ∀ {l r : List Nat}, l.Pairwise (· < ·) → r.Pairwise (· < ·) → (∀ c, c ∈ l ↔ c ∈ r) → l = r
  | [], [], _, _, _ => rfl
  | [], y :: r, _, _, e => by have := (e y).mpr List.mem_cons_self; cases this
  | x :: l, [], _, _, e => by have := (e x).mp List.mem_cons_self; cases this
  | x :: l, y :: r, h1, h2, e => by
    obtain ⟨a1, a2⟩ := List.pairwise_cons.mp h1
    obtain ⟨b1, b2⟩ := List.pairwise_cons.mp h2
    have exy : x = y := by
      rcases List.mem_cons.mp ((e x).mp List.mem_cons_self) with q | q
      · exact q
      · rcases List.mem_cons.mp ((e y).mpr List.mem_cons_self) with q' | q'
        · exact q'.symm
        · have := a1 y q'; have := b1 x q; omega
    subst exy
    refine congrArg (List.cons x) (asc_ext a2 b2 fun c => ?_)
    have q := e c
    simp only [List.mem_cons] at q
    constructor
    · intro hc
      rcases q.mp (.inr hc) with z | z
      · have := a1 c hc; omega
      · exact z
    · intro hc
      rcases q.mpr (.inr hc) with z | z
      · have := b1 c hc; omega
      · exact z
theorem lot_filter {T : List Nat} {a b : Nat} (h : T.Pairwise (· < ·)) : (lot T a).filter (fun c => decide (c ∈ lot T b)) = lot T (a &&& b) := by
  refine asc_ext ((lot_asc a h).sublist List.filter_sublist) (lot_asc _ h) fun c => ?_
  rw [List.mem_filter, mem_and h, decide_eq_true_eq]
theorem lot_whole : ∀ (T : List Nat), lot T (2 ^ T.length - 1) = T
  | [] => rfl
  | d :: T => by
    have hp : 2 ^ (d :: T).length = 2 * 2 ^ T.length := by rw [List.length_cons, Nat.pow_succ, Nat.mul_comm]
    have h1 : 0 < 2 ^ T.length := Nat.pow_pos (by decide)
    unfold lot
    rw [hp, if_pos (by omega), show (2 * 2 ^ T.length - 1) / 2 = 2 ^ T.length - 1 by omega, lot_whole T]
theorem lot_zero : ∀ (T : List Nat), lot T 0 = []
  | [] => rfl
  | d :: T => by unfold lot; rw [if_neg (by decide)]; exact lot_zero T
/-- the places that a mask takes -/
theorem lot_places : ∀ (T : List Nat) (m : Nat), ((List.range T.length).filter fun k => decide (m / 2 ^ k % 2 = 1)).map (fun k => T.getD k 0) = lot T m
  | [], _ => rfl
  | d :: T, m => by
    have ih := lot_places T (m / 2)
    rw [List.length_cons, List.range_succ_eq_map, List.filter_cons]
    have e : ((List.map Nat.succ (List.range T.length)).filter fun k => decide (m / 2 ^ k % 2 = 1)).map (fun k => (d :: T).getD k 0) = lot T (m / 2) := by
      rw [List.filter_map, List.map_map, ← ih]
      have e1 : (fun k => (d :: T).getD k 0) ∘ Nat.succ = fun k => T.getD k 0 := by funext k; simp
      have e2 : (fun k => decide (m / 2 ^ k % 2 = 1)) ∘ Nat.succ = fun k => decide (m / 2 / 2 ^ k % 2 = 1) := by
        funext k
        simp only [Function.comp]
        rw [Nat.succ_eq_add_one, Nat.pow_succ, Nat.mul_comm, Nat.div_div_eq_div_mul]
      rw [e1, e2]
    unfold lot
    simp only [Nat.pow_zero, Nat.div_one]
    by_cases h : m % 2 = 1
    · rw [if_pos (decide_eq_true h), if_pos h, List.map_cons, e]
      rfl
    · rw [if_neg (by simpa using h), if_neg h, e]
theorem sum_two : ∀ (l : List Nat), (l.map fun k => 2 ^ (k + 1)).sum = 2 * (l.map fun k => 2 ^ k).sum
  | [] => rfl
  | x :: l => by rw [List.map_cons, List.sum_cons, List.map_cons, List.sum_cons, sum_two l, Nat.pow_succ]; omega
/-- the number of a lot -/
theorem mask_sum : ∀ (T : List Nat) (m : Nat), T.Pairwise (· < ·) → m < 2 ^ T.length → (((List.range T.length).filter fun k => decide (T.getD k 0 ∈ lot T m)).map (fun k => 2 ^ k)).sum = m
  | [], m, _, h => by simp only [List.length_nil, Nat.pow_zero] at h; simp; omega
  | d :: T, m, h, hm => by
    have h2 := (List.pairwise_cons.mp h).2
    have hp : 2 ^ (d :: T).length = 2 * 2 ^ T.length := by rw [List.length_cons, Nat.pow_succ, Nat.mul_comm]
    rw [hp] at hm
    have ih := mask_sum T (m / 2) h2 (by omega)
    rw [List.length_cons, List.range_succ_eq_map, List.filter_cons, List.filter_map]
    have e2 : (List.range T.length).filter ((fun k => decide ((d :: T).getD k 0 ∈ lot (d :: T) m)) ∘ Nat.succ) = (List.range T.length).filter fun k => decide (T.getD k 0 ∈ lot T (m / 2)) := by
      refine List.filter_congr fun k hk => ?_
      have hk' : k < T.length := List.mem_range.mp hk
      have hc : T.getD k 0 ∈ T := by rw [List.getD_eq_getElem?_getD, List.getElem?_eq_getElem hk']; exact List.getElem_mem hk'
      simp only [Function.comp, Nat.succ_eq_add_one, List.getD_cons_succ]
      exact decide_eq_decide.mpr (lot_mem_cons h hc)
    rw [e2]
    have e3 : ∀ l : List Nat, (List.map Nat.succ l).map (fun k => 2 ^ k) = l.map fun k => 2 ^ (k + 1) := fun l => by rw [List.map_map]; rfl
    by_cases hb : m % 2 = 1
    · rw [if_pos (decide_eq_true (by rw [List.getD_cons_zero]; exact (lot_mem_head h).mpr hb)), List.map_cons, List.sum_cons, e3, sum_two, ih]
      simp; omega
    · rw [if_neg (by rw [decide_eq_true_eq, List.getD_cons_zero]; exact fun q => hb ((lot_mem_head h).mp q)), e3, sum_two, ih]
      omega
/-- all masks, in the order of their lots -/
def lexR : Nat → List Nat
  | 0 => []
  | n + 1 => ((0 :: lexR n).map fun m => 2 * m + 1) ++ (lexR n).map fun m => 2 * m
theorem lexR_succ (n : Nat) : lexR (n + 1) = ((0 :: lexR n).map fun m => 2 * m + 1) ++ (lexR n).map fun m => 2 * m := rfl
def lexO (n : Nat) : List Nat := 0 :: lexR n
theorem mem_lexR : ∀ {n m : Nat}, m ∈ lexR n ↔ 0 < m ∧ m < 2 ^ n
  | 0, m => by simp [lexR]; omega
  | n + 1, m => by
    unfold lexR
    rw [List.mem_append, List.mem_map, List.mem_map, Nat.pow_succ]
    constructor
    · rintro (⟨a, ha, rfl⟩ | ⟨a, ha, rfl⟩)
      · rcases List.mem_cons.mp ha with rfl | ha
        · have : 0 < 2 ^ n := Nat.pow_pos (by decide)
          omega
        · have := mem_lexR.mp ha; omega
      · have := mem_lexR.mp ha; omega
    · rintro ⟨h0, h1⟩
      by_cases hb : m % 2 = 1
      · refine .inl ⟨m / 2, ?_, by omega⟩
        by_cases hz : m / 2 = 0
        · rw [hz]; exact List.mem_cons_self
        · exact List.mem_cons_of_mem _ (mem_lexR.mpr ⟨by omega, by omega⟩)
      · exact .inr ⟨m / 2, mem_lexR.mpr ⟨by omega, by omega⟩, by omega⟩
theorem mem_lexO {n m : Nat} : m ∈ lexO n ↔ m < 2 ^ n := by
  unfold lexO
  rw [List.mem_cons, mem_lexR]
  have : 0 < 2 ^ n := Nat.pow_pos (by decide)
  omega
theorem lot_odd {d : Nat} {T : List Nat} {m : Nat} : lot (d :: T) (2 * m + 1) = d :: lot T m := by
  show (if (2 * m + 1) % 2 = 1 then _ else _) = _
  rw [if_pos (by omega), show (2 * m + 1) / 2 = m by omega]
theorem lot_even {d : Nat} {T : List Nat} {m : Nat} : lot (d :: T) (2 * m) = lot T m := by
  show (if (2 * m) % 2 = 1 then _ else _) = _
  rw [if_neg (by omega), show (2 * m) / 2 = m by omega]
theorem nil_lt {x : Nat} {l : List Nat} : ([] : List Nat) < x :: l := List.Lex.nil
theorem lot_ne {T : List Nat} {m : Nat} (h : T.Pairwise (· < ·)) (h0 : 0 < m) (h1 : m < 2 ^ T.length) : ∃ c r, lot T m = c :: r ∧ c ∈ T := by
  cases e : lot T m with
  | nil =>
    have := lot_inj' h h1 (Nat.pow_pos (by decide)) (e.trans (lot_zero T).symm)
    omega
  | cons c r => exact ⟨c, r, rfl, lot_sub (m := m) (by rw [e]; exact List.mem_cons_self)⟩
/-- the lots in that order rise -/
theorem lex_asc : ∀ {T : List Nat}, T.Pairwise (· < ·) → ((lexO T.length).map (lot T)).Pairwise (· < ·)
  | [], _ => by simp [lexO, lexR]
  | d :: T, h => by
    obtain ⟨h1, h2⟩ := List.pairwise_cons.mp h
    have ih := lex_asc h2
    have ihR := (List.pairwise_cons.mp (show ((lot T 0) :: (lexR T.length).map (lot T)).Pairwise (· < ·) from ih)).2
    unfold lexO
    rw [List.map_cons, lot_zero, List.length_cons]
    have e : (lexR (T.length + 1)).map (lot (d :: T)) = ((lexO T.length).map (lot T)).map (fun l => d :: l) ++ (lexR T.length).map (lot T) := by
      rw [lexR_succ, List.map_append, List.map_map, List.map_map, List.map_map]
      congr 1
      · refine List.map_congr_left fun m _ => ?_
        exact lot_odd
      · refine List.map_congr_left fun m _ => ?_
        exact lot_even
    rw [e]
    refine List.pairwise_cons.mpr ⟨fun x hx => ?_, List.pairwise_append.mpr ⟨?_, ihR, ?_⟩⟩
    · rcases List.mem_append.mp hx with hx | hx
      · obtain ⟨l, _, rfl⟩ := List.mem_map.mp hx
        exact nil_lt
      · obtain ⟨m, hm, rfl⟩ := List.mem_map.mp hx
        obtain ⟨a, b⟩ := mem_lexR.mp hm
        obtain ⟨c, r, e, _⟩ := lot_ne h2 a b
        rw [e]; exact nil_lt
    · exact List.Pairwise.map _ (fun a b q => List.Lex.cons q) ih
    · intro x hx y hy
      obtain ⟨l, _, rfl⟩ := List.mem_map.mp hx
      obtain ⟨m, hm, rfl⟩ := List.mem_map.mp hy
      obtain ⟨a, b⟩ := mem_lexR.mp hm
      obtain ⟨c, r, e, hc⟩ := lot_ne h2 a b
      rw [e]; exact List.Lex.rel (h1 c hc)
theorem lexO_nodup (n : Nat) : (lexO n).Nodup := by
  have go : ∀ n, (lexR n).Nodup := by
    intro n
    induction n with
    | zero => exact List.nodup_nil
    | succ n ih =>
      unfold lexR
      refine List.nodup_append.mpr ⟨?_, ?_, ?_⟩
      · refine List.Pairwise.map _ (fun a b q => ?_) (List.nodup_cons.mpr ⟨fun z => absurd (mem_lexR.mp z).1 (by decide), ih⟩)
        omega
      · exact List.Pairwise.map _ (fun a b q => by omega) ih
      · intro a ha b hb
        obtain ⟨x, _, rfl⟩ := List.mem_map.mp ha
        obtain ⟨y, _, rfl⟩ := List.mem_map.mp hb
        omega
  exact List.nodup_cons.mpr ⟨fun z => absurd (mem_lexR.mp z).1 (by decide), go n⟩
/-- a list of lots sorted: the masks in the order of their lots -/
def srt (n : Nat) (M : List Nat) : List Nat := (lexO n).filter fun m => decide (m ∈ M)
theorem mem_srt {n : Nat} {M : List Nat} {m : Nat} : m ∈ srt n M ↔ m < 2 ^ n ∧ m ∈ M := by
  unfold srt
  rw [List.mem_filter, mem_lexO, decide_eq_true_eq]
theorem lot_lt_trans {a b c : List Nat} (h1 : a < b) (h2 : b < c) : a < c := List.lt_trans h1 h2
theorem lot_lt_irrefl (a : List Nat) : ¬ a < a := List.lt_irrefl a
/-- two rising lists of lists with the same members -/
theorem ascL_ext : ∀ {l r : List (List Nat)}, l.Pairwise (· < ·) → r.Pairwise (· < ·) → (∀ c, c ∈ l ↔ c ∈ r) → l = r
  | [], [], _, _, _ => rfl
  | [], y :: r, _, _, e => by have := (e y).mpr List.mem_cons_self; cases this
  | x :: l, [], _, _, e => by have := (e x).mp List.mem_cons_self; cases this
  | x :: l, y :: r, h1, h2, e => by
    obtain ⟨a1, a2⟩ := List.pairwise_cons.mp h1
    obtain ⟨b1, b2⟩ := List.pairwise_cons.mp h2
    have exy : x = y := by
      rcases List.mem_cons.mp ((e x).mp List.mem_cons_self) with q | q
      · exact q
      · rcases List.mem_cons.mp ((e y).mpr List.mem_cons_self) with q' | q'
        · exact q'.symm
        · exact absurd (lot_lt_trans (a1 y q') (b1 x q)) (lot_lt_irrefl x)
    subst exy
    refine congrArg (List.cons x) (ascL_ext a2 b2 fun c => ?_)
    have q := e c
    simp only [List.mem_cons] at q
    constructor
    · intro hc
      rcases q.mp (.inr hc) with z | z
      · exact absurd (z ▸ a1 c hc) (lot_lt_irrefl x)
      · exact z
    · intro hc
      rcases q.mpr (.inr hc) with z | z
      · exact absurd (z ▸ b1 c hc) (lot_lt_irrefl x)
      · exact z
theorem srt_asc {T : List Nat} (h : T.Pairwise (· < ·)) (M : List Nat) : ((srt T.length M).map (lot T)).Pairwise (· < ·) :=
  (lex_asc h).sublist (List.Sublist.map _ List.filter_sublist)
/-- any rising list of the lots of M is that of srt -/
theorem srt_of {T : List Nat} (h : T.Pairwise (· < ·)) {M : List Nat} (hM : ∀ m ∈ M, m < 2 ^ T.length) {ys : List (List Nat)} (hy : ys.Pairwise (· < ·)) (e : ∀ y, y ∈ ys ↔ ∃ m ∈ M, lot T m = y) : ys = (srt T.length M).map (lot T) := by
  refine ascL_ext hy (srt_asc h M) fun c => ?_
  rw [e c, List.mem_map]
  constructor
  · rintro ⟨m, hm, rfl⟩
    exact ⟨m, mem_srt.mpr ⟨hM m hm, hm⟩, rfl⟩
  · rintro ⟨m, hm, rfl⟩
    exact ⟨m, (mem_srt.mp hm).2, rfl⟩
end K31

set_option Elab.async false
set_option linter.all false
set_option maxRecDepth 100000
set_option maxHeartbeats 4000000
/-! Words over Evl: promises, calls, comprehensions by their items. -/
namespace K31
open PySem PySem.Spec PyProof.Rows L2 Evl
open C8 (InsC call_isC pe_gc)
abbrev S (l : List Nat) : Str := SX.S l
/-- a promise: the arguments by a, what must hold ahead, what is wanted behind -/
def Pm {α : Type} (args : α → List V) (pre : α → Hp → Prop) (post : α → Hp → VK → Prop) : Sp := fun vs H Q _ => ∃ a, vs = args a ∧ pre a H ∧ post a H Q
/-- a list, a tuple made -/
def RetU (xs : List V) (H : Hp) (Q : VK) : Prop := ∀ p H2, H p = none → Ex H H2 → H2 p = some (.tup xs) → Q (.ref p) H2
theorem pmV {α : Type} {args : α → List V} {pre : α → Hp → Prop} {res : α → V} {vs : List V} {H : Hp} (a : α) (e : vs = args a) (h : ∀ H', Ex H H' → pre a H') :
    SpV (Pm args pre fun a H Q => RetV (res a) H Q) vs H (res a) := fun H1 e1 Q q _ => ⟨a, e, h H1 e1, fun H2 e2 => q H2 e2⟩
theorem pmL {α : Type} {args : α → List V} {pre : α → Hp → Prop} {res : α → List V} {vs : List V} {H : Hp} (a : α) (e : vs = args a) (h : ∀ H', Ex H H' → pre a H') :
    SpL (Pm args pre fun a H Q => RetL (res a) H Q) vs H (res a) := fun H1 e1 Q q _ => ⟨a, e, h H1 e1, fun p H2 hp e2 h2 => q p H2 hp e2 h2⟩
def SpU (sp : Sp) (vs : List V) (H : Hp) (xs : List V) : Prop := ∀ H1, Ex H H1 → ∀ Q : VK, (∀ p H2, H1 p = none → Ex H1 H2 → H2 p = some (.tup xs) → Q (.ref p) H2) → ∀ E : XK, sp vs H1 Q E
theorem pmU {α : Type} {args : α → List V} {pre : α → Hp → Prop} {res : α → List V} {vs : List V} {H : Hp} (a : α) (e : vs = args a) (h : ∀ H', Ex H H' → pre a H') :
    SpU (Pm args pre fun a H Q => RetU (res a) H Q) vs H (res a) := fun H1 e1 Q q _ => ⟨a, e, h H1 e1, fun p H2 hp e2 h2 => q p H2 hp e2 h2⟩
section
variable {K : PySem.W.Frag} {σ : L2.St} {H H' : Hp} {ta tb te tx : TE} {t u : TT} {x y z v : V} {r : R2}
theorem EvU.mono {xs : List V} (e : Ex H H') (h : EvU te σ H xs) : EvU te σ H' xs := fun H1 a Q q => h H1 (e.trans a) Q q
theorem eu_call {sp : Sp} {dvs vs xs : List V} {E : XK} {ta : TA} (h : EvA ta σ H vs) (hs : SpU sp (vs ++ dvs) H xs) : EvU (tCall sp dvs E ta) σ H xs := fun H1 e Q q =>
  h H1 e _ fun H2 e2 => hs H2 (e.trans e2) Q (fun p H3 hp e3 h3 => q p H3 (fresh_back e2 hp) (e2.trans e3) h3) E
theorem ea1 (h : Ev ta σ H x) : EvA (tCons ta tNil) σ H [x] := ea_cons h ea_nil
theorem ea2 (h : Ev ta σ H x) (h2 : Ev tb σ H y) : EvA (tCons ta (tCons tb tNil)) σ H [x, y] := ea_cons h (ea1 h2)
theorem ea3 (h : Ev ta σ H x) (h2 : Ev tb σ H y) (h3 : Ev te σ H z) : EvA (tCons ta (tCons tb (tCons te tNil))) σ H [x, y, z] := ea_cons h (ea2 h2 h3)
theorem et_yes : EvT tYes σ H true := fun H1 _ _ q => q H1 (Ex.refl H1)
theorem rc_lenS {z : Str} (hz : z.length ≤ 100000) : RC (fun xs H Q => ∃ z, xs = [.str z] ∧ z.length ≤ sizeLine ∧ Q (.int z.length) H) [.str z] H (.int z.length) := fun H1 _ _ q => ⟨z, rfl, sz_of hz, q H1 (Ex.refl H1)⟩
theorem rc_len {p : Addr} {xs : List V} (h : SqL K H p xs ∨ SqT K H p xs) : RC (fun vs H Q => ∃ p ys, vs = [.ref p] ∧ (SqL K H p ys ∨ SqT K H p ys) ∧ Q (.int ys.length) H) [.ref p] H (.int xs.length) := fun H1 e _ q =>
  ⟨p, xs, rfl, h.imp (ex_l e) (ex_t e), q H1 (Ex.refl H1)⟩
theorem rc_isi {n m : String} {b : Bool} (h : ∀ H1, Ex H H1 → TyX K H1 x (.type n)) (k : kitB n m = some b) : RC (rIsi K) [x, .ty m] H (.bl b) := fun H1 e _ q =>
  ⟨x, .ty m, .type n, .type m, b, rfl, .ty m, h H1 e, kit_ty k, q H1 (Ex.refl H1)⟩
theorem ev_all {bs : List Bool} (h : EvL te σ H (bs.map V.bl)) : Ev (tCB (rAll K) (tCons te tNil)) σ H (.bl (bs.all id)) := fun H1 e Q q =>
  h H1 e _ fun p H2 _ e2 h2 => ⟨p, bs, rfl, sq_of h2, q H2 e2⟩
theorem ev_any {bs : List Bool} (h : EvL te σ H (bs.map V.bl)) : Ev (tCB (rAny K) (tCons te tNil)) σ H (.bl (bs.any id)) := fun H1 e Q q =>
  h H1 e _ fun p H2 _ e2 h2 => ⟨p, bs, rfl, sq_of h2, q H2 e2⟩
theorem ev_sum {ns : List Int} (h : EvL te σ H (ns.map V.int)) : Ev (tCB (rSum K) (tCons te tNil)) σ H (.int ns.sum) := fun H1 e Q q =>
  h H1 e _ fun p H2 _ e2 h2 => ⟨p, ns, rfl, sq_of h2, q H2 e2⟩
theorem ev_join {a : Str} {ys : List Str} (ho : Ev ta σ H (.str a)) (h : EvL te σ H (ys.map V.str)) (hz : (ys.map (·.length)).sum + ys.length * a.length ≤ 16777216) :
    Ev (tM1 (fun x xs H Q => ∃ a p, ∃ ys : List Str, x = .str a ∧ xs = [.ref p] ∧ (SqL K H p (ys.map V.str) ∨ SqT K H p (ys.map V.str)) ∧ (ys.map (·.length)).sum + ys.length * a.length ≤ 16777216 ∧ Q (.str (Txt.join a ys)) H) ta te) σ H (.str (Txt.join a ys)) := fun H1 e Q q =>
  ho H1 e _ fun H2 e2 => ⟨⟨a, rfl⟩, h H2 (e.trans e2) _ fun p H3 _ e3 h3 => ⟨a, p, ys, rfl, rfl, .inl (sq_of h3), hz, q H3 (e2.trans e3)⟩⟩
/-- list in list: len of a new list -/
theorem ev_lenL {xs : List V} (ha : EvL ta σ H xs) : Ev (tCB (fun vs H Q => ∃ p ys, vs = [.ref p] ∧ (SqL K H p ys ∨ SqT K H p ys) ∧ Q (.int ys.length) H) (tCons ta tNil)) σ H (.int xs.length) := fun H1 e Q q =>
  ha H1 e _ fun p H2 _ e2 h2 => ⟨p, xs, rfl, .inl (sq_of h2), q H2 e2⟩
theorem ev_chain {r r' : R2} {a b : Bool} (ha : Ev ta σ H x) (hb : Ev tb σ H y) (hr : RV r x y H (.bl a)) (hc : a = true → Ev te σ H z) (hr' : a = true → RV r' y z H (.bl b)) : Ev (tChain r r' ta tb te) σ H (.bl (a && b)) := fun H1 e Q q =>
  ha H1 e _ fun H2 e2 => hb H2 (e.trans e2) _ fun H3 e3 => hr H3 ((e.trans e2).trans e3) _ fun H4 e4 => ⟨a, rfl, by
    cases a with
    | true =>
      show te σ H4 _
      exact hc rfl H4 (((e.trans e2).trans e3).trans e4) _ fun H5 e5 => hr' rfl H5 ((((e.trans e2).trans e3).trans e4).trans e5) Q fun H6 e6 => q H6 ((((e2.trans e3).trans e4).trans e5).trans e6)
    | false => exact q H4 ((e2.trans e3).trans e4)⟩
theorem rv_isN : RV (fun x y H Q => y = .non ∧ Q (.bl (decide (x = .non))) H) x .non H (.bl (decide (x = .non))) := fun H1 _ _ q => ⟨rfl, q H1 (Ex.refl H1)⟩
theorem rv_notN : RV (fun x y H Q => y = .non ∧ Q (.bl (!decide (x = .non))) H) x .non H (.bl (!decide (x = .non))) := fun H1 _ _ q => ⟨rfl, q H1 (Ex.refl H1)⟩
theorem rv_inSign {c : Nat} {z : Str} : RV (fun x y H Q => ∃ (c : Nat) (z : Str), x = .str ⟨#[c]⟩ ∧ y = .str z ∧ Q (.bl (decide (c ∈ z.cps.toList))) H) (.str (S [c])) (.str z) H (.bl (decide (c ∈ z.cps.toList))) := fun H1 _ _ q => ⟨c, z, rfl, rfl, q H1 (Ex.refl H1)⟩
theorem rv_notInSign {c : Nat} {z : Str} : RV (fun x y H Q => ∃ (c : Nat) (z : Str), x = .str ⟨#[c]⟩ ∧ y = .str z ∧ Q (.bl (!decide (c ∈ z.cps.toList))) H) (.str (S [c])) (.str z) H (.bl (!decide (c ∈ z.cps.toList))) := fun H1 _ _ q => ⟨c, z, rfl, rfl, q H1 (Ex.refl H1)⟩
theorem rv_ltS {a b : List Nat} : RV (fun x y H Q => ∃ i j, x = .str i ∧ y = .str j ∧ Q (.bl (decide (i.cps.toList < j.cps.toList))) H) (.str (S a)) (.str (S b)) H (.bl (decide (a < b))) := fun H1 _ _ q => ⟨S a, S b, rfl, rfl, q H1 (Ex.refl H1)⟩
theorem rv_leS {a b : List Nat} : RV (fun x y H Q => ∃ i j, x = .str i ∧ y = .str j ∧ Q (.bl (!decide (j.cps.toList < i.cps.toList))) H) (.str (S a)) (.str (S b)) H (.bl (!decide (b < a))) := fun H1 _ _ q => ⟨S a, S b, rfl, rfl, q H1 (Ex.refl H1)⟩
theorem rv_catS {a b : List Nat} (hz : a.length + b.length ≤ 100000) : RV (fun x y H Q => ∃ i j, x = .str i ∧ y = .str j ∧ i.length + j.length ≤ sizeLine ∧ Q (.str (i ++ j)) H) (.str (S a)) (.str (S b)) H (.str (S (a ++ b))) := fun H1 _ _ q =>
  ⟨S a, S b, rfl, rfl, by rw [SX.S_len, SX.S_len]; exact sz_of hz, by rw [SX.S_cat]; exact q H1 (Ex.refl H1)⟩
theorem rv_and {a b : Nat} : RV (rI0 fun i j => .int (Builtin.bitAnd i j)) (.int a) (.int b) H (.int ((a &&& b : Nat) : Int)) := fun H1 _ _ q =>
  ⟨a, b, rfl, rfl, by dsimp only; rw [bitAnd_pp (Int.natCast_nonneg a) (Int.natCast_nonneg b), Int.toNat_natCast, Int.toNat_natCast]; exact q H1 (Ex.refl H1)⟩
theorem rv_shl {a k : Nat} (ha : a < 2 ^ 64) (hk : k ≤ 1000000) : RV (rI CPow fun i j => .int (i * 2 ^ j.toNat)) (.int a) (.int k) H (.int ((a * 2 ^ k : Nat) : Int)) := fun H1 _ _ q =>
  ⟨a, k, rfl, rfl, ⟨Int.natCast_nonneg k, by omega, by omega⟩, by
    have e : ((a : Int) * 2 ^ (k : Int).toNat) = ((a * 2 ^ k : Nat) : Int) := by rw [Int.toNat_natCast, Int.natCast_mul, Int.natCast_pow]; rfl
    dsimp only; rw [e]; exact q H1 (Ex.refl H1)⟩
theorem rv_shr {a k : Nat} : RV (rI (fun _ j => 0 ≤ j) fun i j => .int (i / 2 ^ j.toNat)) (.int a) (.int k) H (.int ((a / 2 ^ k : Nat) : Int)) := fun H1 _ _ q =>
  ⟨a, k, rfl, rfl, Int.natCast_nonneg k, by
    have e : ((a : Int) / 2 ^ (k : Int).toNat) = ((a / 2 ^ k : Nat) : Int) := by rw [Int.toNat_natCast, Int.natCast_ediv, Int.natCast_pow]; rfl
    dsimp only; rw [e]; exact q H1 (Ex.refl H1)⟩
theorem bitOr_nat (a b : Nat) : Builtin.bitOr (a : Int) (b : Int) = ((a ||| b : Nat) : Int) := by
  rw [Bits.bitOr_pp (Int.natCast_nonneg a) (Int.natCast_nonneg b), Int.toNat_natCast, Int.toNat_natCast]
theorem rv_or {a b : Nat} : RV (rI0 fun i j => .int (Builtin.bitOr i j)) (.int a) (.int b) H (.int ((a ||| b : Nat) : Int)) := fun H1 _ _ q =>
  ⟨a, b, rfl, rfl, by dsimp only; rw [bitOr_nat]; exact q H1 (Ex.refl H1)⟩
/-- items by place -/
theorem rv_ixLn {p : Addr} {xs : List V} {i : Nat} (h : SqL K H p xs) (ha : xs[i]? = some v) : RV (rIxL K) (.ref p) (.int (i : Int)) H v := rv_ixL h (atI_nat ha)
theorem rv_ixTn {p : Addr} {xs : List V} {i : Nat} (h : SqT K H p xs) (ha : xs[i]? = some v) : RV (rIxT K) (.ref p) (.int (i : Int)) H v := rv_ixT h (atI_nat ha)
theorem rv_ixSn {l : List Nat} {i c : Nat} (hz : l.length ≤ 100000) (ha : l[i]? = some c) : RV rIxS (.str (S l)) (.int (i : Int)) H (.str (S [c])) := rv_ixS (w := S l) (by rw [SX.S_len]; exact hz) (atI_nat ha)

/-! ### comprehensions by their items -/
variable {α : Type}
def Cg (H : Hp) (ys : List α) (p : α → Bool) (q : α → V) (Dl : Addr) (i : Nat) (H' : Hp) : Prop := H Dl = none ∧ Ex H H' ∧ H' Dl = some (.lst (((ys.take i).filter p).map q))
theorem take_next {l : List α} {i : Nat} {x : α} (h : l[i]? = some x) : l.take (i + 1) = l.take i ++ [x] := by
  obtain ⟨hi, e⟩ := List.getElem?_eq_some_iff.mp h
  rw [List.take_add_one, h]
  rfl
theorem cg_turn {ys : List α} {p : α → Bool} {q : α → V} {Dl : Addr} {i : Nat} {y : α} {σ2 : L2.St} (c : Cg H ys p q Dl i H') (hz : ys.length ≤ 50000) (hy : ys[i]? = some y) (ht : EvT t σ2 H (p y)) (he : p y = true → Ev te σ2 H (q y)) :
    t σ2 H' fun b H3 => if b = true then te σ2 H3 fun w H4 => ∃ acc, H4 Dl = some (.lst acc) ∧ acc.length < sizeLine ∧ Cg H ys p q Dl (i + 1) (upd H4 Dl (.lst (acc ++ [w]))) else Cg H ys p q Dl (i + 1) H3 := by
  obtain ⟨c1, c2, c3⟩ := c
  refine ht H' c2 _ fun H3 e3 => ?_
  cases hp : p y with
  | true =>
    show te σ2 H3 _
    refine he hp H3 (c2.trans e3) _ fun H4 e4 => ⟨_, e4 Dl _ (e3 Dl _ c3), sz_lt ?_, c1, Ex.mut ((c2.trans e3).trans e4) c1, ?_⟩
    · rw [List.length_map]
      have h1 := List.length_filter_le p (ys.take i)
      have h2 := List.length_take_le i ys
      rw [List.length_take] at h1
      omega
    · rw [upd_same, take_next hy, List.filter_append, List.map_append, List.filter_cons, if_pos hp]
      rfl
  | false =>
    show Cg H ys p q Dl (i + 1) H3
    refine ⟨c1, c2.trans e3, ?_⟩
    rw [take_next hy, List.filter_append, List.map_append, List.filter_cons, if_neg (by rw [hp]; decide), List.filter_nil, List.map_nil, List.append_nil]
    exact e3 Dl _ c3
theorem el_L {a : Addr} {ys : List α} {φ : α → V} {tl : TE} {j : Nat} {vs : List Nat} (p : α → Bool) (q : α → V) (h : Ev tl σ H (.ref a)) (hx : SqL K H a (ys.map φ)) (hz : ys.length ≤ 50000) (hw : ∀ x, wipe ((wipe σ vs).set j (some x)) vs = wipe σ vs)
    (ht : ∀ y ∈ ys, ∀ H1, Ex H H1 → EvT t ((wipe σ vs).set j (some (φ y))) H1 (p y)) (he : ∀ y ∈ ys, ∀ H1, Ex H H1 → p y = true → Ev te ((wipe σ vs).set j (some (φ y))) H1 (q y)) :
    EvL (tLc (iList K tl) (gName j) t te vs) σ H ((ys.filter p).map q) := fun H0 e Q k => h H0 e _ fun H1 e1 => ⟨a, rfl, ⟨_, ex_l (e.trans e1) hx⟩, fun Dl hD =>
  lc_list (xs := ys.map φ) (Cg H1 ys p q Dl) ⟨hD, Ex.new hD, by rw [List.take_zero]; exact upd_same⟩ (fun i H' _ c => ex_l ((e.trans e1).trans c.2.1) hx) (fun i x H' hi c => by
    rw [List.getElem?_map] at hi
    obtain ⟨y, hy, rfl⟩ := Option.map_eq_some_iff.mp hi
    have hm : y ∈ ys := List.mem_of_getElem? hy
    exact ⟨hw _, cg_turn c hz hy (ht y hm H1 (e.trans e1)) fun hp => he y hm H1 (e.trans e1) hp⟩)
    (fun H' c => k Dl H' (fresh_back e1 c.1) (e1.trans c.2.1) (by
      have z := c.2.2
      rw [List.length_map, List.take_length] at z
      exact z))⟩
/-- over a new list -/
theorem el_NL {ys : List α} {φ : α → V} {tl : TE} {j : Nat} {vs : List Nat} (p : α → Bool) (q : α → V) (h : EvL tl σ H (ys.map φ)) (hz : ys.length ≤ 50000) (hw : ∀ x, wipe ((wipe σ vs).set j (some x)) vs = wipe σ vs)
    (ht : ∀ y ∈ ys, ∀ H1, Ex H H1 → EvT t ((wipe σ vs).set j (some (φ y))) H1 (p y)) (he : ∀ y ∈ ys, ∀ H1, Ex H H1 → p y = true → Ev te ((wipe σ vs).set j (some (φ y))) H1 (q y)) :
    EvL (tLc (iList K tl) (gName j) t te vs) σ H ((ys.filter p).map q) := fun H0 e Q k => h H0 e _ fun a H1 ha e1 hx => ⟨a, rfl, ⟨_, sq_of hx⟩, fun Dl hD =>
  lc_list (xs := ys.map φ) (Cg H1 ys p q Dl) ⟨hD, Ex.new hD, by rw [List.take_zero]; exact upd_same⟩ (fun i H' _ c => sq_of (c.2.1 a _ hx)) (fun i x H' hi c => by
    rw [List.getElem?_map] at hi
    obtain ⟨y, hy, rfl⟩ := Option.map_eq_some_iff.mp hi
    have hm : y ∈ ys := List.mem_of_getElem? hy
    exact ⟨hw _, cg_turn c hz hy (ht y hm H1 (e.trans e1)) fun hp => he y hm H1 (e.trans e1) hp⟩)
    (fun H' c => k Dl H' (fresh_back e1 c.1) (e1.trans c.2.1) (by
      have z := c.2.2
      rw [List.length_map, List.take_length] at z
      exact z))⟩
theorem el_T {a : Addr} {ys : List α} {φ : α → V} {tl : TE} {j : Nat} {vs : List Nat} (p : α → Bool) (q : α → V) (h : Ev tl σ H (.ref a)) (hx : SqT K H a (ys.map φ)) (hz : ys.length ≤ 50000) (hw : ∀ x, wipe ((wipe σ vs).set j (some x)) vs = wipe σ vs)
    (ht : ∀ y ∈ ys, ∀ H1, Ex H H1 → EvT t ((wipe σ vs).set j (some (φ y))) H1 (p y)) (he : ∀ y ∈ ys, ∀ H1, Ex H H1 → p y = true → Ev te ((wipe σ vs).set j (some (φ y))) H1 (q y)) :
    EvL (tLc (iTup K tl) (gName j) t te vs) σ H ((ys.filter p).map q) := fun H0 e Q k => h H0 e _ fun H1 e1 => ⟨a, rfl, ⟨_, ex_t (e.trans e1) hx⟩, fun Dl hD =>
  lc_tup (xs := ys.map φ) (Cg H1 ys p q Dl) ⟨hD, Ex.new hD, by rw [List.take_zero]; exact upd_same⟩ (fun i H' _ c => ex_t ((e.trans e1).trans c.2.1) hx) (fun i x H' hi c => by
    rw [List.getElem?_map] at hi
    obtain ⟨y, hy, rfl⟩ := Option.map_eq_some_iff.mp hi
    have hm : y ∈ ys := List.mem_of_getElem? hy
    exact ⟨hw _, cg_turn c hz hy (ht y hm H1 (e.trans e1)) fun hp => he y hm H1 (e.trans e1) hp⟩)
    (fun H' c => k Dl H' (fresh_back e1 c.1) (e1.trans c.2.1) (by
      have z := c.2.2
      rw [List.length_map, List.take_length] at z
      exact z))⟩
theorem el_R {ta : TA} {j : Nat} {vs : List Nat} {m : Int} {n : Nat} (p : Nat → Bool) (q : Nat → V) (h : EvA ta σ H [.int m]) (hm : m.toNat = n) (hn : -1000000 ≤ m ∧ n ≤ 50000) (hw : ∀ x, wipe ((wipe σ vs).set j (some x)) vs = wipe σ vs)
    (ht : ∀ i, i < n → ∀ H1, Ex H H1 → EvT t ((wipe σ vs).set j (some (.int (i : Int)))) H1 (p i)) (he : ∀ i, i < n → ∀ H1, Ex H H1 → p i = true → Ev te ((wipe σ vs).set j (some (.int (i : Int)))) H1 (q i)) :
    EvL (tLc (iRng1 ta) (gName j) t te vs) σ H (((List.range n).filter p).map q) := fun H0 e Q k => h H0 e _ fun H1 e1 => ⟨m, rfl, by omega, by omega, fun Dl hD => by
  rw [hm]
  exact lc_range (lo := 0) (n := n) (Cg H1 (List.range n) p q Dl) ⟨hD, Ex.new hD, by rw [List.take_zero]; exact upd_same⟩ (fun i H' hi c => by
    have e0 : (0 : Int) + (i : Int) = (i : Int) := Int.zero_add _
    show wipe ((wipe σ vs).set j (some (.int ((0 : Int) + (i : Int))))) vs = wipe σ vs ∧ t ((wipe σ vs).set j (some (.int ((0 : Int) + (i : Int))))) H' fun b H3 => if b = true then te ((wipe σ vs).set j (some (.int ((0 : Int) + (i : Int))))) H3 fun y H4 => ∃ acc, H4 Dl = some (.lst acc) ∧ acc.length < sizeLine ∧ Cg H1 (List.range n) p q Dl (i + 1) (upd H4 Dl (.lst (acc ++ [y]))) else Cg H1 (List.range n) p q Dl (i + 1) H3
    rw [e0]
    exact ⟨hw _, cg_turn c (by rw [List.length_range]; omega) (by rw [List.getElem?_range hi]) (ht i hi H1 (e.trans e1)) fun hp => he i hi H1 (e.trans e1) hp⟩)
    (fun H' c => k Dl H' (fresh_back e1 c.1) (e1.trans c.2.1) (by
      have z := c.2.2
      rw [List.take_of_length_le (by rw [List.length_range]; exact Nat.le_refl _)] at z
      exact z))⟩
/-- over the signs of a text -/
theorem lc_str {l : List Nat} {g : TG} {tt : TT} {te : TE} {vs : List Nat} {σ : L2.St} {H1 : Hp} {D : Addr} {Qd : Hp → Prop} (Pv : Nat → Hp → Prop) (h0 : Pv 0 (upd H1 D (.lst [])))
    (hs : ∀ i c H, l[i]? = some c → Pv i H → g (.str (S [c])) (wipe σ vs) H fun σ2 H2 => wipe σ2 vs = wipe σ vs ∧ tt σ2 H2 fun b H3 =>
      if b = true then te σ2 H3 fun y H4 => ∃ acc, H4 D = some (.lst acc) ∧ acc.length < sizeLine ∧ Pv (i + 1) (upd H4 D (.lst (acc ++ [y]))) else Pv (i + 1) H3) (hd : ∀ H, Pv l.length H → Qd H) :
    ∃ W : Nat → Nat → Hp → Prop, (∃ m, W 0 m (upd H1 D (.lst []))) ∧ ∀ i m H, W i m H →
      ((Its (S l)).stop i H ∧ Qd H) ∨ ((Its (S l)).go i H ∧ ∃ Nx : Hp → Prop, (∀ H', Nx H' → ∃ m', m' < m ∧ W (i + 1) m' H') ∧ ∀ x H', (Its (S l)).yld i H x H' → g x (wipe σ vs) H' fun σ2 H2 => wipe σ2 vs = wipe σ vs ∧ tt σ2 H2 fun b H3 =>
        if b = true then te σ2 H3 fun y H4 => ∃ acc, H4 D = some (.lst acc) ∧ acc.length < sizeLine ∧ Nx (upd H4 D (.lst (acc ++ [y]))) else Nx H3) := by
  have hsz : (S l).cps.size = l.length := by show l.toArray.size = _; rw [List.size_toArray]
  refine ⟨fun i m H => m = l.length - i ∧ i ≤ l.length ∧ Pv i H, ⟨l.length, by simp, Nat.zero_le _, h0⟩, ?_⟩
  rintro i m H ⟨rfl, hi, p⟩
  by_cases hlt : i < l.length
  · refine .inr ⟨show i < (S l).cps.size by rw [hsz]; exact hlt, Pv (i + 1), fun H' p' => ⟨l.length - (i + 1), by omega, rfl, hlt, p'⟩, fun x H' y => ?_⟩
    obtain ⟨rfl, c, hc, rfl⟩ := y
    refine hs i c _ ?_ p
    rw [← hc]
    show l[i]? = l.toArray[i]?
    simp
  · have e : i = l.length := by omega
    subst e
    exact .inl ⟨show (S l).cps.size ≤ _ by rw [hsz]; exact Nat.le_refl _, hd H p⟩
theorem el_S {l : List Nat} {tl : TE} {j : Nat} {vs : List Nat} (p : Nat → Bool) (q : Nat → V) (h : Ev tl σ H (.str (S l))) (hz : l.length ≤ 50000) (hw : ∀ x, wipe ((wipe σ vs).set j (some x)) vs = wipe σ vs)
    (ht : ∀ y ∈ l, ∀ H1, Ex H H1 → EvT t ((wipe σ vs).set j (some (.str (S [y])))) H1 (p y)) (he : ∀ y ∈ l, ∀ H1, Ex H H1 → p y = true → Ev te ((wipe σ vs).set j (some (.str (S [y])))) H1 (q y)) :
    EvL (tLc (iStr tl) (gName j) t te vs) σ H ((l.filter p).map q) := fun H0 e Q k => h H0 e _ fun H1 e1 => ⟨S l, rfl, fun Dl hD =>
  lc_str (l := l) (Cg H1 l p q Dl) ⟨hD, Ex.new hD, by rw [List.take_zero]; exact upd_same⟩ (fun i c H' hi cg => by
    have hm : c ∈ l := List.mem_of_getElem? hi
    exact ⟨hw _, cg_turn cg hz hi (ht c hm H1 (e.trans e1)) fun hp => he c hm H1 (e.trans e1) hp⟩)
    (fun H' c => k Dl H' (fresh_back e1 c.1) (e1.trans c.2.1) (by
      have z := c.2.2
      rw [List.take_length] at z
      exact z))⟩
theorem filter_yes {l : List α} : l.filter (fun _ => true) = l := List.filter_eq_self.mpr fun _ _ => rfl
end

section
variable {K : PySem.W.Frag} {σ : L2.St} {H H' : Hp} {ta tb te tx : TE} {t u : TT} {x y z v : V} {r : R2} {α : Type}
theorem el_is {xs ys : List V} (h : EvL te σ H xs) (e : xs = ys) : EvL te σ H ys := e ▸ h
theorem eu_is {xs ys : List V} (h : EvU te σ H xs) (e : xs = ys) : EvU te σ H ys := e ▸ h
theorem rv_eqI {a b : Int} : RV rEq (.int a) (.int b) H (.bl (decide (a = b))) := by
  have h : RV rEq (.int a) (.int b) H (.bl (decide (V.int a = V.int b))) := rv_eq rfl
  rw [show decide (V.int a = V.int b) = decide (a = b) from decide_eq_decide.mpr ⟨V.int.inj, congrArg V.int⟩] at h
  exact h
theorem rv_eqN {a b : Nat} : RV rEq (.int (a : Int)) (.int (b : Int)) H (.bl (decide (a = b))) := by
  have h : RV rEq (.int (a : Int)) (.int (b : Int)) H (.bl (decide ((a : Int) = (b : Int)))) := rv_eqI
  rw [show decide ((a : Int) = (b : Int)) = decide (a = b) from decide_eq_decide.mpr Int.ofNat_inj] at h
  exact h
theorem rv_neI {a b : Int} : RV rNe (.int a) (.int b) H (.bl (!decide (a = b))) := by
  have h : RV rNe (.int a) (.int b) H (.bl (!decide (V.int a = V.int b))) := rv_ne rfl
  rw [show decide (V.int a = V.int b) = decide (a = b) from decide_eq_decide.mpr ⟨V.int.inj, congrArg V.int⟩] at h
  exact h
theorem rv_neN {a b : Nat} : RV rNe (.int (a : Int)) (.int (b : Int)) H (.bl (!decide (a = b))) := by
  have h : RV rNe (.int (a : Int)) (.int (b : Int)) H (.bl (!decide ((a : Int) = (b : Int)))) := rv_neI
  rw [show decide ((a : Int) = (b : Int)) = decide (a = b) from decide_eq_decide.mpr Int.ofNat_inj] at h
  exact h
theorem dec_S (a b : List Nat) : decide (V.str (S a) = V.str (S b)) = decide (a = b) := decide_eq_decide.mpr ⟨fun e => SX.S_inj (V.str.inj e), fun e => by rw [e]⟩
theorem rv_eqS {a b : List Nat} : RV rEq (.str (S a)) (.str (S b)) H (.bl (decide (a = b))) := by
  have h : RV rEq (.str (S a)) (.str (S b)) H (.bl (decide (V.str (S a) = V.str (S b)))) := rv_eq rfl
  rw [dec_S] at h
  exact h
theorem rv_neS {a b : List Nat} : RV rNe (.str (S a)) (.str (S b)) H (.bl (!decide (a = b))) := by
  have h : RV rNe (.str (S a)) (.str (S b)) H (.bl (!decide (V.str (S a) = V.str (S b)))) := rv_ne rfl
  rw [dec_S] at h
  exact h
theorem rv_neB {a b : Bool} : RV rNe (.bl a) (.bl b) H (.bl (!decide (a = b))) := by
  have h : RV rNe (.bl a) (.bl b) H (.bl (!decide (V.bl a = V.bl b))) := rv_ne rfl
  rw [show decide (V.bl a = V.bl b) = decide (a = b) from decide_eq_decide.mpr ⟨V.bl.inj, congrArg V.bl⟩] at h
  exact h
theorem rv_addN {a b : Nat} : RV (rI0 fun i j => .int (i + j)) (.int (a : Int)) (.int (b : Int)) H (.int ((a + b : Nat) : Int)) := fun H1 _ _ q => ⟨a, b, rfl, rfl, by dsimp only; rw [← Int.natCast_add]; exact q H1 (Ex.refl H1)⟩
theorem rv_add1 {a : Nat} : RV (rI0 fun i j => .int (i + j)) (.int (a : Int)) (.int 1) H (.int ((a + 1 : Nat) : Int)) := rv_addN (b := 1)
theorem rv_ltN {a b : Nat} : RV (rI0 fun i j => .bl (decide (i < j))) (.int (a : Int)) (.int (b : Int)) H (.bl (decide (a < b))) := fun H1 _ _ q => ⟨a, b, rfl, rfl, by
  dsimp only; rw [show decide ((a : Int) < (b : Int)) = decide (a < b) from decide_eq_decide.mpr Int.ofNat_lt]; exact q H1 (Ex.refl H1)⟩
theorem rv_leN {a b : Nat} : RV (rI0 fun i j => .bl (decide (i ≤ j))) (.int (a : Int)) (.int (b : Int)) H (.bl (decide (a ≤ b))) := fun H1 _ _ q => ⟨a, b, rfl, rfl, by
  dsimp only; rw [show decide ((a : Int) ≤ (b : Int)) = decide (a ≤ b) from decide_eq_decide.mpr Int.ofNat_le]; exact q H1 (Ex.refl H1)⟩
theorem rv_gtN {a b : Nat} : RV (rI0 fun i j => .bl (decide (j < i))) (.int (a : Int)) (.int (b : Int)) H (.bl (decide (b < a))) := fun H1 _ _ q => ⟨a, b, rfl, rfl, by
  dsimp only; rw [show decide ((b : Int) < (a : Int)) = decide (b < a) from decide_eq_decide.mpr Int.ofNat_lt]; exact q H1 (Ex.refl H1)⟩
theorem ev_allM {ys : List α} {b : α → Bool} (h : EvL te σ H (ys.map fun y => V.bl (b y))) : Ev (tCB (rAll K) (tCons te tNil)) σ H (.bl (ys.all b)) := by
  have h2 : EvL te σ H ((ys.map b).map V.bl) := by rw [List.map_map]; exact h
  have h3 := ev_all (K := K) h2
  rw [List.all_map] at h3
  exact h3
theorem ev_anyM {ys : List α} {b : α → Bool} (h : EvL te σ H (ys.map fun y => V.bl (b y))) : Ev (tCB (rAny K) (tCons te tNil)) σ H (.bl (ys.any b)) := by
  have h2 : EvL te σ H ((ys.map b).map V.bl) := by rw [List.map_map]; exact h
  have h3 := ev_any (K := K) h2
  rw [List.any_map] at h3
  exact h3
theorem sum_cast : ∀ l : List Nat, (l.map fun n : Nat => (n : Int)).sum = ((l.sum : Nat) : Int)
  | [] => rfl
  | x :: l => by rw [List.map_cons, List.sum_cons, sum_cast l, List.sum_cons, Int.natCast_add]
theorem ev_sumM {ys : List α} {f : α → Nat} (h : EvL te σ H (ys.map fun y => V.int (f y : Nat))) : Ev (tCB (rSum K) (tCons te tNil)) σ H (.int (((ys.map f).sum : Nat) : Int)) := by
  have h2 : EvL te σ H (((ys.map f).map fun n : Nat => (n : Int)).map V.int) := by rw [List.map_map, List.map_map]; exact h
  have h3 := ev_sum (K := K) h2
  rw [sum_cast] at h3
  exact h3
theorem joinL_signs : ∀ (l : List Nat), TL.joinL [] (l.map fun c => [c]) = l
  | [] => rfl
  | [c] => rfl
  | c :: d :: l => by
    show [c] ++ ([] ++ TL.joinL [] ([d] :: l.map fun c => [c])) = _
    have h := joinL_signs (d :: l)
    rw [List.map_cons] at h
    rw [h]; rfl
theorem join_signs (l : List Nat) : Txt.join (S []) (l.map fun c => S [c]) = S l := by
  have h := SX.join_S [] (l.map fun c => [c])
  rw [List.map_map, joinL_signs] at h
  exact h
/-- ''.join of signs -/
theorem ev_joinS {l : List Nat} (ho : Ev ta σ H (.str (S []))) (h : EvL te σ H (l.map fun c => V.str (S [c]))) (hz : l.length ≤ 100000) :
    Ev (tM1 (fun x xs H Q => ∃ a p, ∃ ys : List Str, x = .str a ∧ xs = [.ref p] ∧ (SqL K H p (ys.map V.str) ∨ SqT K H p (ys.map V.str)) ∧ (ys.map (·.length)).sum + ys.length * a.length ≤ 16777216 ∧ Q (.str (Txt.join a ys)) H) ta te) σ H (.str (S l)) := by
  have h2 : EvL te σ H ((l.map fun c => S [c]).map V.str) := by rw [List.map_map]; exact h
  have hs : ∀ l : List Nat, ((l.map fun c => S [c]).map (·.length)).sum = l.length := by
    intro l
    induction l with
    | nil => rfl
    | cons c l ih => rw [List.map_cons, List.map_cons, List.sum_cons, ih, List.length_cons, SX.S_len]; simp; omega
  have h3 := ev_join (K := K) ho h2 (by rw [hs, SX.S_len]; simp; omega)
  rw [join_signs] at h3
  exact h3
end
end K31

set_option Elab.async false
set_option linter.all false
set_option maxRecDepth 100000
set_option maxHeartbeats 4000000
namespace K31
open PySem PySem.Spec PyProof.Rows L2 Evl
open C8 (InsC call_isC pe_gc)
section
variable {P : Program} {w : World} {K : PySem.W.Frag} {mg : Str → Option Value} {base : Heap}
/-- a sign from a to z -/
def Lt (c : Nat) : Prop := 97 ≤ c ∧ c ≤ 122
def spis_letter (K : PySem.W.Frag) (C : Addr) : Sp := Pm (fun c : Nat => [.str (S [c])]) (fun c _ => Lt c) fun _ H Q => RetV (.bl true) H Q
theorem letters_at : (PySem.Str.ofString "abcdefghijklmnopqrstuvwxyz").cps.toList = List.range' 97 26 := by decide +kernel
theorem lt_in {c : Nat} (h : Lt c) : decide (c ∈ (PySem.Str.ofString "abcdefghijklmnopqrstuvwxyz").cps.toList) = true := by
  rw [letters_at, decide_eq_true_eq, List.mem_range'_1]
  unfold Lt at h
  omega
theorem okis_letter (D : Defs K mg) : FnOk P w K mg base CX0 1 D.a_is_letter D.d_is_letter ["value"] (spis_letter K D.C) := by
  refine D.F_is_letter.ok scis_letter (fun vs H Q E h => ?_) (fun cdv A outer s H vs Q E hr h => ?_)
  · obtain ⟨_, rfl, _⟩ := h; rfl
  · obtain ⟨c, rfl, hc, k⟩ := h
    refine ⟨_, 
          (pss_one (ps_ret (pe_and (pe_callB call_isi (by rfl) D.n_isinstance PyProof.Rows.boot_isinstance (pa_cons (pv 0) (pa_cons (pe_bltn (v := .ty "str") rfl D.n_str PyProof.Rows.boot_str rfl) pa_nil))) (pe_and (pe_cmpR op_eq (pe_callB call_len_str (by rfl) D.n_len PySem.boot_len (pa_cons (pv 0) pa_nil)) pe_int (nomark _)) (pe_one (pe_cmpR op_in_sign (pv 0) (pe_gc rfl D.v_LETTERS) rfl)))))), ?_⟩
    have hi := lt_in hc
    refine s_ret (v := .bl true) (ev_is (ev_andV (ev_cb (ea2 (ev_var rfl) ev_c) (rc_isi (b := true) (fun H1 _ => .base (.str _)) (by decide +kernel))) fun _ =>
      ev_andV (ev_op (ev_cb (ea1 (ev_var rfl)) (rc_lenS (by rw [SX.S_len]; simp))) ev_c rv_eqI) fun _ => ev_op (ev_var rfl) ev_c rv_inSign) ?_) k
    rw [hi]
    rfl

/-- a rising word of letters -/
structure Ri (l : List Nat) : Prop where
  asc : l.Pairwise (· < ·)
  len : l.length ≤ 1000
  alp : ∀ c ∈ l, Lt c
def spis_rising (K : PySem.W.Frag) (C : Addr) : Sp := Pm (fun l : List Nat => [.str (S l)]) (fun l _ => Ri l) fun _ H Q => RetV (.bl true) H Q
theorem all_true {α : Type} (l : List α) : l.all (fun _ => true) = true := List.all_eq_true.mpr fun _ _ => rfl
theorem getD_at {l : List Nat} {i : Nat} (h : i < l.length) : l[i]? = some (l.getD i 0) := by
  rw [List.getD_eq_getElem?_getD, List.getElem?_eq_getElem h]; rfl
theorem asc_next {l : List Nat} (h : l.Pairwise (· < ·)) {i : Nat} (hi : i + 1 < l.length) : l.getD i 0 < l.getD (i + 1) 0 := by
  have h1 := List.pairwise_iff_getElem.mp h i (i + 1) (by omega) hi (Nat.lt_succ_self i)
  rw [List.getD_eq_getElem?_getD, List.getD_eq_getElem?_getD, List.getElem?_eq_getElem hi, List.getElem?_eq_getElem (show i < l.length by omega)]
  exact h1
theorem lt_one {a b : Nat} (h : a < b) : decide (([a] : List Nat) < [b]) = true := decide_eq_true (List.Lex.rel h)
theorem okis_rising (D : Defs K mg) : FnOk P w K mg base CX0 2 D.a_is_rising D.d_is_rising ["value"] (spis_rising K D.C) := by
  have G_is_letter : FnOk P w K mg base CX0 1 D.a_is_letter D.d_is_letter ["value"] (spis_letter K D.C) := okis_letter D
  refine D.F_is_rising.ok scis_rising (fun vs H Q E h => ?_) (fun cdv A outer s H vs Q E hr h => ?_)
  · obtain ⟨_, rfl, _⟩ := h; rfl
  · obtain ⟨l, rfl, hl, k⟩ := h
    refine ⟨_, 
          (pss_cons (ps_if (PW.pt (pw_or (pt_not (pt_val (pe_callB call_isi (by rfl) D.n_isinstance PyProof.Rows.boot_isinstance (pa_cons (pv 0) (pa_cons (pe_bltn (v := .ty "str") rfl D.n_str PyProof.Rows.boot_str rfl) pa_nil))))) (pw_or1 (pt_not (pt_val (pe_callB (cr_all rfl) (by rfl) D.n_all (by decide +kernel) (pa_cons (pe_lc rfl scis_rising.nd (pi_str (pv 0)) (blkOk_by (own := [("sign", 1)]) (by kernel_rfl)) (fun _ _ _ _ _ => (pg_name (i := 1) scis_rising.nd rfl (Or.inl rfl))) (fun _ _ _ _ _ => pts_nil) (fun _ _ _ _ _ => (pe_call G_is_letter (hr.mono (by decide)) rfl D.g_is_letter D.F_is_letter.kp (b_is_letter D) .nil pass0 (pa_cons (pv 1) pa_nil)))) pa_nil)))))))
            (pss_one (ps_ret pe_bl))
            (pss_nil))
          (pss_one (ps_ret (pe_callB (cr_all rfl) (by rfl) D.n_all (by decide +kernel) (pa_cons (pe_lc rfl scis_rising.nd (pi_range1 rfl D.n_range (pa_cons (pe_op op_sub (pe_callB call_len_str (by rfl) D.n_len PySem.boot_len (pa_cons (pv 0) pa_nil)) pe_int) pa_nil)) (blkOk_by (own := [("k", 2)]) (by kernel_rfl)) (fun _ _ _ _ _ => (pg_name (i := 2) scis_rising.nd rfl (Or.inl rfl))) (fun _ _ _ _ _ => pts_nil) (fun _ _ _ _ _ => (pe_cmpR op_lt_str (pe_ix ix_str (pv 0) (pv 2) (fun _ _ => rfl)) (pe_ix ix_str (pv 0) (pe_op op_add (pv 2) pe_int) (fun _ _ => rfl)) (nomark _)))) pa_nil))))), ?_⟩
    have hz : l.length ≤ 50000 := Nat.le_trans hl.len (by decide)
    refine q_when (b := false) (et_is (et_or (et_not (et_B (ev_cb (ea2 (ev_var rfl) ev_c) (rc_isi (b := true) (fun H1 _ => .base (.str _)) (by decide +kernel))))) fun _ =>
      et_not (et_B (ev_allM (b := fun _ : Nat => true) (el_S (fun _ => true) (fun _ => .bl true) (ev_var rfl) hz (fun _ => rfl) (fun _ _ _ _ => et_yes) fun c hc H1 e1 _ =>
        ev_call (ea1 (ev_var rfl)) (pmV c rfl fun _ _ => hl.alp c hc))))) (by rw [all_true]; rfl)) (fun e => nomatch e) fun _ H1 e1 => ?_
    refine s_ret (v := .bl true) (ev_is (ev_allM (b := fun i => decide ([l.getD i 0] < [l.getD (i + 1) 0])) (el_R (m := (l.length : Int) - 1) (n := l.length - 1) (fun _ => true) (fun i => .bl (decide ([l.getD i 0] < [l.getD (i + 1) 0])))
      (ea1 (ev_op (ev_is (ev_cb (ea1 (ev_var rfl)) (rc_lenS (by rw [SX.S_len]; omega))) (by rw [SX.S_len])) ev_c rv_I0)) (by omega) (by omega) (fun _ => rfl) (fun _ _ _ _ => et_yes) fun i hi H2 e2 _ =>
        ev_op (ev_op (ev_var rfl) (ev_var rfl) (rv_ixSn (by omega) (getD_at (by omega)))) (ev_op (ev_var rfl) (ev_op (ev_var rfl) ev_c rv_add1) (rv_ixSn (by omega) (getD_at (by omega)))) rv_ltS)) ?_) fun H2 e2 => k H2 (e1.trans e2)
    rw [filter_yes, List.all_eq_true.mpr fun i hi => lt_one (asc_next hl.asc (by have := List.mem_range.mp hi; omega))]

end
end K31

set_option Elab.async false
set_option linter.all false
set_option maxRecDepth 100000
set_option maxHeartbeats 4000000
namespace K31
open PySem PySem.Spec PyProof.Rows L2 Evl
open C8 (InsC call_isC pe_gc)
section
variable {P : Program} {w : World} {K : PySem.W.Frag} {mg : Str → Option Value} {base : Heap}
theorem Tg.ri {T : List Nat} (h : Tg T) : Ri T := ⟨h.asc, Nat.le_trans h.len (by decide), h.alp⟩
def spare_things (K : PySem.W.Frag) (C : Addr) : Sp := Pm (fun T : List Nat => [.str (S T)]) (fun T _ => Tg T) fun _ H Q => RetV (.bl true) H Q
theorem okare_things (D : Defs K mg) : FnOk P w K mg base CX0 3 D.a_are_things D.d_are_things ["value"] (spare_things K D.C) := by
  have G_is_rising : FnOk P w K mg base CX0 2 D.a_is_rising D.d_is_rising ["value"] (spis_rising K D.C) := okis_rising D
  refine D.F_are_things.ok scare_things (fun vs H Q E h => ?_) (fun cdv A outer s H vs Q E hr h => ?_)
  · obtain ⟨_, rfl, _⟩ := h; rfl
  · obtain ⟨T, rfl, hT, k⟩ := h
    refine ⟨_, 
          (pss_one (ps_ret (pe_and (pe_call G_is_rising (hr.mono (by decide)) rfl D.g_is_rising D.F_is_rising.kp (b_is_rising D) .nil pass0 (pa_cons (pv 0) pa_nil)) (pe_one (pe_chain op_le op_le pe_int (pe_callB call_len_str (by rfl) D.n_len PySem.boot_len (pa_cons (pv 0) pa_nil)) (pe_gc rfl D.v_MOST)))))), ?_⟩
    have h1 := hT.pos
    have h2 := hT.len
    refine s_ret (v := .bl true) (ev_is (ev_andV (a := true) (ev_call (ea1 (ev_var rfl)) (pmV T rfl fun _ _ => hT.ri)) fun _ =>
      ev_chain (a := decide (1 ≤ T.length)) (b := decide (T.length ≤ 7)) (y := .int (T.length : Int)) (z := .int 7) ev_c (ev_is (ev_cb (ea1 (ev_var rfl)) (rc_lenS (by rw [SX.S_len]; omega))) (by rw [SX.S_len])) (rv_leN (a := 1)) (fun _ => ev_c) fun _ => rv_leN (b := 7)) ?_) k
    rw [decide_eq_true h1, decide_eq_true (show T.length ≤ 7 by omega)]
    rfl

def spcheck_things (K : PySem.W.Frag) (C : Addr) : Sp := Pm (fun T : List Nat => [.str (S T)]) (fun T _ => Tg T) fun _ H Q => RetV .non H Q
theorem okcheck_things (D : Defs K mg) : FnOk P w K mg base CX0 4 D.a_check_things D.d_check_things ["value"] (spcheck_things K D.C) := by
  have G_are_things : FnOk P w K mg base CX0 3 D.a_are_things D.d_are_things ["value"] (spare_things K D.C) := okare_things D
  refine D.F_check_things.ok sccheck_things (fun vs H Q E h => ?_) (fun cdv A outer s H vs Q E hr h => ?_)
  · obtain ⟨_, rfl, _⟩ := h; rfl
  · obtain ⟨T, rfl, hT, k⟩ := h
    refine ⟨_, 
          (pss_one (ps_if (pt_not (pt_val (pe_call G_are_things (hr.mono (by decide)) rfl D.g_are_things D.F_are_things.kp (b_are_things D) .nil pass0 (pa_cons (pv 0) pa_nil))))
            (pss_one (ps_never))
            (pss_nil))), ?_⟩
    exact s_when (b := false) (et_not (a := true) (et_B (ev_call (ea1 (ev_var rfl)) (pmV T rfl fun _ _ => hT)))) (fun e => nomatch e) fun _ H1 e1 => k H1 e1

def spis_lot (K : PySem.W.Frag) (C : Addr) : Sp := Pm (fun a : List Nat × List Nat => [.str (S a.1), .str (S a.2)]) (fun a _ => Ri a.2 ∧ ∀ c ∈ a.2, c ∈ a.1) fun _ H Q => RetV (.bl true) H Q
theorem okis_lot (D : Defs K mg) : FnOk P w K mg base CX0 3 D.a_is_lot D.d_is_lot ["things", "value"] (spis_lot K D.C) := by
  have G_is_rising : FnOk P w K mg base CX0 2 D.a_is_rising D.d_is_rising ["value"] (spis_rising K D.C) := okis_rising D
  refine D.F_is_lot.ok scis_lot (fun vs H Q E h => ?_) (fun cdv A outer s H vs Q E hr h => ?_)
  · obtain ⟨_, rfl, _⟩ := h; rfl
  · obtain ⟨⟨T, l⟩, rfl, ⟨hl, ht⟩, k⟩ := h
    have hl : Ri l := hl
    have ht : ∀ c ∈ l, c ∈ T := ht
    refine ⟨_, 
          (pss_one (ps_ret (pe_and (pe_call G_is_rising (hr.mono (by decide)) rfl D.g_is_rising D.F_is_rising.kp (b_is_rising D) .nil pass0 (pa_cons (pv 1) pa_nil)) (pe_one (pe_callB (cr_all rfl) (by rfl) D.n_all (by decide +kernel) (pa_cons (pe_lc rfl scis_lot.nd (pi_str (pv 1)) (blkOk_by (own := [("sign", 2)]) (by kernel_rfl)) (fun _ _ _ _ _ => (pg_name (i := 2) scis_lot.nd rfl (Or.inl rfl))) (fun _ _ _ _ _ => pts_nil) (fun _ _ _ _ _ => (pe_cmpR op_in_sign (pv 2) (pv 0) rfl))) pa_nil)))))), ?_⟩
    refine s_ret (v := .bl true) (ev_is (ev_andV (a := true) (ev_call (ea1 (ev_var rfl)) (pmV l rfl fun _ _ => hl)) fun _ =>
      ev_allM (b := fun c => decide (c ∈ T)) (el_S (fun _ => true) (fun c => .bl (decide (c ∈ T))) (ev_var rfl) (Nat.le_trans hl.len (by decide)) (fun _ => rfl) (fun _ _ _ _ => et_yes) fun c hc H1 e1 _ => ev_op (ev_var rfl) (ev_var rfl) rv_inSign)) ?_) k
    rw [filter_yes, List.all_eq_true.mpr fun c hc => decide_eq_true (ht c hc)]
    rfl

/-- a lot's value -/
abbrev sv (T : List Nat) (m : Nat) : V := .str (S (lot T m))
/-- masks in the order of their lots -/
structure Fm (T : List Nat) (F : List Nat) : Prop where
  asc : (F.map (lot T)).Pairwise (· < ·)
  lt : ∀ m ∈ F, m < 2 ^ T.length
  len : F.length ≤ 16
theorem Tg.lot {T : List Nat} (h : Tg T) (m : Nat) : Ri (lot T m) := ⟨lot_asc m h.asc, Nat.le_trans (lot_len T m) (Nat.le_trans h.len (by decide)), fun c hc => h.alp c (lot_sub hc)⟩
theorem lot_cmp {T F : List Nat} (h : (F.map (lot T)).Pairwise (· < ·)) {i : Nat} (h0 : 0 < i) (hi : i < F.length) : decide (lot T (F.getD (i - 1) 0) < lot T (F.getD i 0)) = true := by
  have h1 := List.pairwise_iff_getElem.mp h (i - 1) i (by rw [List.length_map]; omega) (by rw [List.length_map]; omega) (by omega)
  rw [List.getElem_map, List.getElem_map] at h1
  rw [List.getD_eq_getElem?_getD, List.getD_eq_getElem?_getD, List.getElem?_eq_getElem hi, List.getElem?_eq_getElem (show i - 1 < F.length by omega)]
  exact decide_eq_true h1
theorem map_at {F : List Nat} {φ : Nat → V} {i : Nat} (hi : i < F.length) : (F.map φ)[i]? = some (φ (F.getD i 0)) := by
  rw [List.getElem?_map, getD_at hi]; rfl
def spwrong_in_family (K : PySem.W.Frag) (C : Addr) : Sp := Pm (fun a : List Nat × List Nat × Addr => [.str (S a.1), .ref a.2.2]) (fun a H => Tg a.1 ∧ Fm a.1 a.2.1 ∧ SqT K H a.2.2 (a.2.1.map (sv a.1))) fun _ H Q => RetV .non H Q
theorem okwrong_in_family (D : Defs K mg) : FnOk P w K mg base CX0 4 D.a_wrong_in_family D.d_wrong_in_family ["things", "value"] (spwrong_in_family K D.C) := by
  have G_is_lot : FnOk P w K mg base CX0 3 D.a_is_lot D.d_is_lot ["things", "value"] (spis_lot K D.C) := okis_lot D
  refine D.F_wrong_in_family.ok scwrong_in_family (fun vs H Q E h => ?_) (fun cdv A outer s H vs Q E hr h => ?_)
  · obtain ⟨_, rfl, _⟩ := h; rfl
  · obtain ⟨⟨T, F, a⟩, rfl, ⟨hT, hF, ha⟩, k⟩ := h
    have hT : Tg T := hT
    have hF : Fm T F := hF
    have ha : SqT K H a (F.map (sv T)) := ha
    have h16 := hF.len
    have hlen : (F.map (sv T)).length = F.length := List.length_map _
    refine ⟨_, 
          (pss_cons (ps_for PassesOwn.never rfl (pi_range1 rfl D.n_range (pa_cons (pe_callB call_len_seq (by rfl) D.n_len PySem.boot_len (pa_cons (pv 1) pa_nil)) pa_nil)) (pg_name (i := 2) scwrong_in_family.nd rfl (Or.inl rfl))
            (pss_one (ps_if (PW.pt (pw_or (pt_not (pt_val (pe_call G_is_lot (hr.mono (by decide)) rfl D.g_is_lot D.F_is_lot.kp (b_is_lot D) .nil pass0 (pa_cons (pv 0) (pa_cons (pe_ix ix_tup (pv 1) (pv 2) (fun _ _ => rfl)) pa_nil))))) (pw_or1 (PW.pt (pw_and (pt_cmpR op_gt (pv 2) pe_int (nomark _)) (pw_and1 (pt_cmpR op_le_str (pe_ix ix_tup (pv 1) (pv 2) (fun _ _ => rfl)) (pe_ix ix_tup (pv 1) (pe_op op_sub (pv 2) pe_int) (fun _ _ => rfl)) (nomark _))))))))
              (pss_one (ps_ret (pv 2)))
              (pss_nil))))
          (pss_one (ps_ret pe_non))), ?_⟩
    refine q_forR1 (n := (F.length : Int)) (ea1 (ev_is (ev_cb (ea1 (ev_var rfl)) (rc_len (.inr ha))) (by rw [hlen]))) (by omega) (fun i σ H' => ∃ v, σ = [some (.str (S T)), some (.ref a), v] ∧ Ex H H')
      (fun H1 e1 => ⟨none, rfl, e1⟩) (fun i σ H' hi ⟨v, e, e1⟩ => ?_) (fun σ H' ⟨v, e, e1⟩ => s_ret ev_c fun H2 e2 => k H2 (e1.trans e2))
    subst e
    have hi' : i < F.length := by omega
    have hx : Ev (tOp (rIxT K) (tVar 1) (tVar 2)) [some (.str (S T)), some (.ref a), some (.int (i : Int))] H' (sv T (F.getD i 0)) := ev_op (ev_var rfl) (ev_var rfl) (rv_ixTn (ex_t e1 ha) (map_at hi'))
    refine s_when (b := false) (et_is (et_or (et_not (a := true) (et_B (ev_call (ea2 (ev_var rfl) hx) (pmV (T, lot T (F.getD i 0)) rfl fun _ _ => ⟨hT.lot _, fun c hc => lot_sub hc⟩)))) fun _ =>
      et_and (a := decide (0 < i)) (b := false) (et_test (ev_op (ev_var rfl) ev_c (rv_gtN (b := 0)))) fun h0 =>
        et_is (et_test (ev_op hx (ev_op (ev_var rfl) (ev_is (ev_op (ev_var rfl) ev_c rv_I0) (by
          have : 0 < i := of_decide_eq_true h0
          rw [show (i : Int) - 1 = ((i - 1 : Nat) : Int) by omega])) (rv_ixTn (ex_t e1 ha) (map_at (i := i - 1) (by omega)))) rv_leS)) (by
          rw [lot_cmp hF.asc (of_decide_eq_true h0) hi']; rfl)) (by cases decide (0 < i) <;> rfl)) (fun e => nomatch e) fun _ H1 e2 => ⟨_, rfl, e1.trans e2⟩

def spmask_of (K : PySem.W.Frag) (C : Addr) : Sp := Pm (fun a : List Nat × Nat => [.str (S a.1), sv a.1 a.2]) (fun a _ => Tg a.1 ∧ a.2 < 2 ^ a.1.length) fun a H Q => RetV (.int (a.2 : Int)) H Q
theorem okmask_of (D : Defs K mg) : FnOk P w K mg base CX0 1 D.a_mask_of D.d_mask_of ["things", "lot"] (spmask_of K D.C) := by
  refine D.F_mask_of.ok scmask_of (fun vs H Q E h => ?_) (fun cdv A outer s H vs Q E hr h => ?_)
  · obtain ⟨_, rfl, _⟩ := h; rfl
  · obtain ⟨⟨T, m⟩, rfl, ⟨hT, hm⟩, k⟩ := h
    have hT : Tg T := hT
    have hm : m < 2 ^ T.length := hm
    have h4 := hT.len
    refine ⟨_, 
          (pss_one (ps_ret (pe_callB (cr_sum rfl) (by rfl) D.n_sum (by decide +kernel) (pa_cons (pe_lc rfl scmask_of.nd (pi_range1 rfl D.n_range (pa_cons (pe_callB call_len_str (by rfl) D.n_len PySem.boot_len (pa_cons (pv 0) pa_nil)) pa_nil)) (blkOk_by (own := [("k", 2)]) (by kernel_rfl)) (fun _ _ _ _ _ => (pg_name (i := 2) scmask_of.nd rfl (Or.inl rfl))) (fun _ _ _ _ _ => (pts_one (pt_cmpR op_in_sign (pe_ix ix_str (pv 0) (pv 2) (fun _ _ => rfl)) (pv 1) rfl))) (fun _ _ _ _ _ => (pe_op op_shl pe_int (pv 2)))) pa_nil)))), ?_⟩
    refine s_ret (v := .int (m : Int)) (ev_is (ev_sumM (f := fun k => 1 * 2 ^ k) (el_R (m := (T.length : Int)) (n := T.length) (fun k => decide (T.getD k 0 ∈ lot T m)) (fun k => .int ((1 * 2 ^ k : Nat) : Int))
      (ea1 (ev_is (ev_cb (ea1 (ev_var rfl)) (rc_lenS (z := S T) (by rw [SX.S_len]; omega))) (by rw [SX.S_len]))) (by omega) (by omega) (fun _ => rfl)
      (fun i hi H1 e1 => et_test (ev_op (ev_op (ev_var rfl) (ev_var rfl) (rv_ixSn (l := T) (by omega) (getD_at hi))) (ev_var rfl) rv_inSign))
      fun i hi H1 e1 _ => ev_op ev_c (ev_var rfl) (rv_shl (a := 1) (by decide) (by omega)))) ?_) k
    have e := mask_sum T m hT.asc hm
    have e2 : (fun k => 1 * 2 ^ k) = fun k : Nat => 2 ^ k := funext fun k => Nat.one_mul _
    rw [e2, e]

def splot_of (K : PySem.W.Frag) (C : Addr) : Sp := Pm (fun a : List Nat × Nat => [.str (S a.1), .int (a.2 : Int)]) (fun a _ => Tg a.1) fun a H Q => RetV (sv a.1 a.2) H Q
theorem oklot_of (D : Defs K mg) : FnOk P w K mg base CX0 1 D.a_lot_of D.d_lot_of ["things", "mask"] (splot_of K D.C) := by
  refine D.F_lot_of.ok sclot_of (fun vs H Q E h => ?_) (fun cdv A outer s H vs Q E hr h => ?_)
  · obtain ⟨_, rfl, _⟩ := h; rfl
  · obtain ⟨⟨T, m⟩, rfl, hT, k⟩ := h
    have hT : Tg T := hT
    have h4 := hT.len
    refine ⟨_, 
          (pss_one (ps_ret (pe_join pe_str (pe_lc rfl sclot_of.nd (pi_range1 rfl D.n_range (pa_cons (pe_callB call_len_str (by rfl) D.n_len PySem.boot_len (pa_cons (pv 0) pa_nil)) pa_nil)) (blkOk_by (own := [("k", 2)]) (by kernel_rfl)) (fun _ _ _ _ _ => (pg_name (i := 2) sclot_of.nd rfl (Or.inl rfl))) (fun _ _ _ _ _ => (pts_one (pt_cmpR op_eq (pe_op op_and (pe_op op_shr (pv 1) (pv 2)) pe_int) pe_int (nomark _)))) (fun _ _ _ _ _ => (pe_ix ix_str (pv 0) (pv 2) (fun _ _ => rfl))))))), ?_⟩
    refine s_ret (v := sv T m) (ev_joinS ev_c (el_is (el_R (m := (T.length : Int)) (n := T.length) (fun k => decide (m / 2 ^ k % 2 = 1)) (fun k => .str (S [T.getD k 0]))
      (ea1 (ev_is (ev_cb (ea1 (ev_var rfl)) (rc_lenS (z := S T) (by rw [SX.S_len]; omega))) (by rw [SX.S_len]))) (by omega) (by omega) (fun _ => rfl)
      (fun i hi H1 e1 => et_is (et_test (ev_op (ev_op (ev_op (ev_var rfl) (ev_var rfl) rv_shr) ev_c (rv_and (b := 1))) ev_c (rv_eqN (b := 1)))) (by rw [Nat.and_one_is_mod]))
      fun i hi H1 e1 _ => ev_op (ev_var rfl) (ev_var rfl) (rv_ixSn (l := T) (by omega) (getD_at hi))) (by rw [← lot_places T m, List.map_map]; rfl)) (Nat.le_trans (lot_len T m) (by omega))) k

def spwhole_of (K : PySem.W.Frag) (C : Addr) : Sp := Pm (fun T : List Nat => [.str (S T)]) (fun T _ => Tg T) fun T H Q => RetV (.int ((2 ^ T.length - 1 : Nat) : Int)) H Q
theorem okwhole_of (D : Defs K mg) : FnOk P w K mg base CX0 1 D.a_whole_of D.d_whole_of ["things"] (spwhole_of K D.C) := by
  refine D.F_whole_of.ok scwhole_of (fun vs H Q E h => ?_) (fun cdv A outer s H vs Q E hr h => ?_)
  · obtain ⟨_, rfl, _⟩ := h; rfl
  · obtain ⟨T, rfl, hT, k⟩ := h
    have h4 := hT.len
    refine ⟨_, 
          (pss_one (ps_ret (pe_op op_sub (pe_op op_shl pe_int (pe_callB call_len_str (by rfl) D.n_len PySem.boot_len (pa_cons (pv 0) pa_nil))) pe_int))), ?_⟩
    refine s_ret (v := .int ((2 ^ T.length - 1 : Nat) : Int)) (ev_is (ev_op (ev_op ev_c (ev_is (ev_cb (ea1 (ev_var rfl)) (rc_lenS (by rw [SX.S_len]; omega))) (by rw [SX.S_len])) (rv_shl (a := 1) (k := T.length) (by decide) (by omega))) ev_c rv_I0) ?_) k
    have h1 : 0 < 2 ^ T.length := Nat.pow_pos (by decide)
    rw [Nat.one_mul]
    congr 1
    omega

/-- numbers as values -/
abbrev nv (m : Nat) : V := .int (m : Int)
def spmasks_of (K : PySem.W.Frag) (C : Addr) : Sp := Pm (fun a : List Nat × List Nat × Addr => [.str (S a.1), .ref a.2.2]) (fun a H => Tg a.1 ∧ Fm a.1 a.2.1 ∧ SqT K H a.2.2 (a.2.1.map (sv a.1))) fun a H Q => RetL (a.2.1.map nv) H Q
theorem okmasks_of (D : Defs K mg) : FnOk P w K mg base CX0 2 D.a_masks_of D.d_masks_of ["things", "family"] (spmasks_of K D.C) := by
  have G_mask_of : FnOk P w K mg base CX0 1 D.a_mask_of D.d_mask_of ["things", "lot"] (spmask_of K D.C) := okmask_of D
  refine D.F_masks_of.ok scmasks_of (fun vs H Q E h => ?_) (fun cdv A outer s H vs Q E hr h => ?_)
  · obtain ⟨_, rfl, _⟩ := h; rfl
  · obtain ⟨⟨T, F, a⟩, rfl, ⟨hT, hF, ha⟩, k⟩ := h
    have hT : Tg T := hT
    have hF : Fm T F := hF
    have ha : SqT K H a (F.map (sv T)) := ha
    have h16 := hF.len
    refine ⟨_, 
          (pss_one (ps_ret (pe_lc rfl scmasks_of.nd (pi_tup (pv 1)) (blkOk_by (own := [("lot", 2)]) (by kernel_rfl)) (fun _ _ _ _ _ => (pg_name (i := 2) scmasks_of.nd rfl (Or.inl rfl))) (fun _ _ _ _ _ => pts_nil) (fun _ _ _ _ _ => (pe_call G_mask_of (hr.mono (by decide)) rfl D.g_mask_of D.F_mask_of.kp (b_mask_of D) .nil pass0 (pa_cons (pv 0) (pa_cons (pv 2) pa_nil))))))), ?_⟩
    refine s_retL (xs := F.map nv) (el_is (el_T (fun _ => true) nv (ev_var rfl) ha (by omega) (fun _ => rfl) (fun _ _ _ _ => et_yes) fun m hm H1 e1 _ => ev_call (ea2 (ev_var rfl) (ev_var rfl)) (pmV (T, m) rfl fun _ _ => ⟨hT, hF.lt m hm⟩)) ?_) k
    rw [filter_yes]

def spis_inside (K : PySem.W.Frag) (C : Addr) : Sp := Pm (fun a : Nat × Nat => [nv a.1, nv a.2]) (fun _ _ => True) fun a H Q => RetV (.bl (inc a.1 a.2)) H Q
theorem okis_inside (D : Defs K mg) : FnOk P w K mg base CX0 1 D.a_is_inside D.d_is_inside ["one", "other"] (spis_inside K D.C) := by
  refine D.F_is_inside.ok scis_inside (fun vs H Q E h => ?_) (fun cdv A outer s H vs Q E hr h => ?_)
  · obtain ⟨_, rfl, _⟩ := h; rfl
  · obtain ⟨⟨a, b⟩, rfl, _, k⟩ := h
    refine ⟨_, 
          (pss_one (ps_ret (pe_cmpR op_eq (pe_op op_and (pv 0) (pv 1)) (pv 0) (nomark _)))), ?_⟩
    exact s_ret (v := .bl (inc a b)) (ev_is (ev_op (ev_op (ev_var rfl) (ev_var rfl) rv_and) (ev_var rfl) rv_eqN) rfl) k

end
end K31

set_option Elab.async false
set_option linter.all false
set_option maxRecDepth 100000
set_option maxHeartbeats 4000000
/-! sorted(set(..)) of a list of numbers, of a list of texts, of a text; sorted(text); the set itself stays untracked. -/
namespace K31
open PySem PySem.Spec PyProof.Rows L2 Evl

/-! ### entries and their keys -/
theorem paired_perm {α β : Type} {R : α → β → Prop} {l l' : List α} (p : l'.Perm l) : ∀ {ks : List β}, Paired R l ks → ∃ ks', Paired R l' ks' ∧ ks'.Perm ks := by
  induction p with
  | nil => intro ks h; exact ⟨ks, h, List.Perm.refl _⟩
  | cons x _ ih =>
    intro ks h
    cases h with
    | cons r t =>
      obtain ⟨k2, h2, p2⟩ := ih t
      exact ⟨_ :: k2, .cons r h2, p2.cons _⟩
  | swap x y l =>
    intro ks h
    cases h with
    | cons r t =>
      cases t with
      | cons r2 t2 => exact ⟨_, .cons r2 (.cons r t2), List.Perm.swap _ _ _⟩
  | trans _ _ ih1 ih2 =>
    intro ks h
    obtain ⟨k2, h2, p2⟩ := ih2 h
    obtain ⟨k1, h1, p1⟩ := ih1 h2
    exact ⟨k1, h1, p1.trans p2⟩
def has (l : List Key) (k : Key) : Bool := l.any fun j => decide (j = k)
theorem has_iff {l : List Key} {k : Key} : has l k = true ↔ k ∈ l := by
  unfold has
  rw [List.any_eq_true]
  exact ⟨fun ⟨j, hj, e⟩ => of_decide_eq_true e ▸ hj, fun h => ⟨k, h, decide_eq_true rfl⟩⟩
abbrev EnK (w : World) (e : Int × Value) (k : Key) : Prop := keyIs k e.2 = true ∧ e.1 = keyH w k
theorem enk_scan {k : Key} {u : Value} (h : keyIs k u = true) : u.scannable = true := by
  rcases keyIs_shape h with ⟨i, t, rfl, rfl⟩ | ⟨x, t, rfl, rfl⟩ <;> rfl
theorem enk_in {w : World} : ∀ {l : List (Int × Value)} {ks : List Key}, Paired (EnK w) l ks → ∀ e ∈ l, ∃ k ∈ ks, EnK w e k
  | _, _, .nil, e, h => by cases h
  | _, _, .cons r t, e, h => by
    rcases List.mem_cons.mp h with q | q
    · exact ⟨_, List.mem_cons_self, q ▸ r⟩
    · obtain ⟨k, hk, r2⟩ := enk_in t e q
      exact ⟨k, List.mem_cons_of_mem _ hk, r2⟩
theorem enk_of {w : World} : ∀ {l : List (Int × Value)} {ks : List Key}, Paired (EnK w) l ks → ∀ k ∈ ks, ∃ e ∈ l, EnK w e k
  | _, _, .nil, k, h => by cases h
  | _, _, .cons r t, k, h => by
    rcases List.mem_cons.mp h with q | q
    · exact ⟨_, List.mem_cons_self, q ▸ r⟩
    · obtain ⟨e, he, r2⟩ := enk_of t k q
      exact ⟨e, List.mem_cons_of_mem _ he, r2⟩
theorem enk_elems {P : Program} {w : World} {l : List (Int × Value)} {ks : List Key} (h : Paired (EnK w) l ks) : ElemsOf (mixKind P w) l := fun e he => by
  obtain ⟨k, _, r⟩ := enk_in h e he
  exact ⟨⟨k, r⟩, enk_scan r.1⟩
theorem enk_mem {P : Program} {w : World} {l : List (Int × Value)} {ks : List Key} (h : Paired (EnK w) l ks) {k : Key} : (∃ e ∈ l, keyIs k e.2 = true) ↔ k ∈ ks := by
  constructor
  · rintro ⟨e, he, q⟩
    obtain ⟨k2, hk, r⟩ := enk_in h e he
    exact (mixKind P w).inj e.2 k k2 q r.1 ▸ hk
  · intro hk
    obtain ⟨e, he, r⟩ := enk_of h k hk
    exact ⟨e, he, r.1⟩
/-- a set whose members are ks (in some order), which can be walked -/
def SetG (w : World) (h : Heap) (a : Addr) (ks : List Key) : Prop :=
  ∃ o es ep t ks', h.get? a = some o ∧ o.ExactSet ∧ o.data = .set es ep t ∧ Paired (EnK w) es.toList ks' ∧ ks'.Perm ks ∧ ks.Nodup ∧ es.size < scanBound ∧ t.fits es.size = true ∧ Ris t.place.toList ∧
    (w.params.followText "set-order" = true ∨ t.led = true)
theorem SetG.at {w : World} {h h' : Heap} {a : Addr} {ks : List Key} (R : SetG w h a ks) (k : ∀ o, h.get? a = some o → h'.get? a = some o) : SetG w h' a ks := by
  obtain ⟨o, es, ep, t, ks', ho, r⟩ := R
  exact ⟨o, es, ep, t, ks', k o ho, r⟩
section
variable {P : Program} {w : World} {A : Around} {E : Value → Shared → Prop} {s : Shared} {a : Addr} {ks : List Key}
theorem setG_tail {g : Bool → Sem Unit} (hg : ∀ (b : Bool) (s1 : Shared) (Q' : Unit → Shared → Prop), Q' () s1 → wpAny (model P w) A (g b) Q' E s1)
    {o : Obj} {es : Array (Int × Value)} {ep : Nat} {t : SetTable} (ho : s.heap.get? a = some o) (hex : o.ExactSet) (hd : o.data = .set es ep t)
    {e1 : Array (Int × Value)} {t1 : SetTable} {k1 : List Key} (p1 : Paired (EnK w) e1.toList k1) (q1 : k1.Perm ks) (nd : ks.Nodup) (b1 : e1.size < scanBound) (f1 : t1.fits e1.size = true) (r1 : Ris t1.place.toList)
    (l1 : w.params.followText "set-order" = true ∨ t1.led = true) {wasDummy : Bool} {R : Option Bool → Shared → Prop} (hR : ∀ h', Heap.SameBut a s.heap h' → SetG w h' a ks → R (some true) { s with heap := h' }) :
    wpAny (model P w) A (do
        storeSet a e1 t1
        if (!wasDummy && t1.tooFull) = true then do
            g (relayAll t1 e1 (SetTable.grown e1.size)).2.2
            storeSet a (relayAll t1 e1 (SetTable.grown e1.size)).1 (relayAll t1 e1 (SetTable.grown e1.size)).2.1
            pure (some true)
          else pure (some true)) R E s := by
  refine wpAny_bind (wpAny_storeSet_of ho hd ?_ (fits_of_scanBound b1))
  have o1 := store_at (es' := e1) (t' := t1) ho hd
  have sb := Heap.SameBut.update s.heap a (Obj.putSet e1 t1)
  split
  · have pm := relayAll_perm t1 e1 (SetTable.grown e1.size)
    have f2 := relayAll_fits t1 e1 (SetTable.grown e1.size)
    have r2 := relayAll_ris t1 e1 (SetTable.grown e1.size)
    have l2 := relayAll_led t1 e1 (SetTable.grown e1.size)
    generalize relayAll t1 e1 (SetTable.grown e1.size) = Z at pm f2 r2 l2 ⊢
    obtain ⟨e2, t2, gave⟩ := Z
    dsimp only at pm f2 r2 l2 ⊢
    have sz : e2.size = e1.size := by rw [← Array.length_toList, pm.length_eq, Array.length_toList]
    obtain ⟨k2, p2, q2⟩ := paired_perm pm p1
    refine wpAny_bind (hg _ _ _ (wpAny_bind (wpAny_storeSet_of o1 rfl ?_ (fits_of_scanBound (by omega)))))
    exact wpAny_pure (hR _ (sb.trans (Heap.SameBut.update _ a _)) ⟨_, e2, _, t2, k2, store_at o1 rfl, hex, rfl, p2, q2.trans q1, nd, by omega, f2, r2, l1.imp id fun z => by rw [l2]; exact z⟩)
  · exact wpAny_pure (hR _ sb ⟨_, e1, _, t1, k1, o1, hex, rfl, p1, q1, nd, b1, f1, r1, l1⟩)
theorem setG_add {k : Key} {x : Value} {Q : Bool → Shared → Prop} (hx : keyIs k x = true) (R : SetG w s.heap a ks) (room : ks.length + 1 < scanBound)
    (hQ : ∀ h' b, Heap.SameBut a s.heap h' → SetG w h' a (if has ks k = true then ks else ks ++ [k]) → Q b { s with heap := h' }) :
    wpAny (model P w) A (setAddHashed a x (keyH w k)) Q E s := by
  obtain ⟨o, es, ep, t, k0, ho, hex, hd, hp, hk, nd, hb, hf, hr, hl⟩ := R
  have hsc : x.scannable = true := enk_scan hx
  have hel : ElemsOf (mixKind P w) es.toList := enk_elems hp
  unfold setAddHashed setAddHashedIn
  refine wpAny_holding (wpAny_bind (wpAny_setState_of ho hd hf ?_))
  dsimp only
  rw [byScan_of hsc hb hel]
  simp only [↓reduceIte]
  unfold setAddByScan
  refine wpAny_bind (wpAny_bind (wpAny_rule (wpAny_bind (wpAny_setScan_of (knd := mixKind P w) (k := k) hx ho hd hf hel ?_))))
  cases hfi : List.findIdx? (fun e => (mixKind P w).is k e.2) es.toList with
  | some j =>
    dsimp only
    obtain ⟨hj, pj, _⟩ := List.findIdx?_eq_some_iff_getElem.mp hfi
    have hin : k ∈ ks := hk.mem_iff.mp ((enk_mem (P := P) hp).mp ⟨es.toList[j], List.getElem_mem hj, pj⟩)
    refine wpAny_pure (wpAny_pure (hQ s.heap _ (Heap.SameBut.refl a s.heap) ?_))
    rw [if_pos (has_iff.mpr hin)]
    exact ⟨o, es, ep, t, k0, ho, hex, hd, hp, hk, nd, hb, hf, hr, hl⟩
  | none =>
    dsimp only
    have hnk : k ∉ ks := fun z => by
      obtain ⟨e, he, q⟩ := (enk_mem (P := P) hp).mpr (hk.mem_iff.mpr z)
      have c := List.findIdx?_eq_none_iff.mp hfi e he
      rw [show (mixKind P w).is k e.2 = true from q] at c
      cases c
    have hgw : ∀ (b : Bool) {s1 : Shared} {Q' : Unit → Shared → Prop}, Q' () s1 → wpAny (model P w) A (match b with | true => rule "set.scan.the-table-gave-way" | false => pure ()) Q' E s1 :=
      fun b s1 Q' q => by cases b <;> first | exact wpAny_pure q | exact wpAny_rule q
    have pm := layNew_perm t es (keyH w k) x
    have hf1 := layNew_fits t es (keyH w k) x
    have hr1 := layNew_ris t es (keyH w k) x hr
    have hl1 := layNew_led t es (keyH w k) x
    show wpAny _ _ _ _ _ _
    generalize layNew t es (keyH w k) x = Z at pm hf1 hr1 hl1 ⊢
    obtain ⟨e1, t1, wasDummy, gave⟩ := Z
    dsimp only at pm hf1 hr1 hl1 ⊢
    rw [Array.toList_push] at pm
    have pc : e1.toList.Perm ((keyH w k, x) :: es.toList) := pm.trans (List.perm_append_singleton _ _)
    have hpc : Paired (EnK w) ((keyH w k, x) :: es.toList) (k :: k0) := .cons ⟨hx, rfl⟩ hp
    obtain ⟨k1, p1, q1⟩ := paired_perm pc hpc
    have q2 : k1.Perm (ks ++ [k]) := (q1.trans (hk.cons k)).trans (List.perm_append_singleton _ _).symm
    have nd1 : (ks ++ [k]).Nodup := (List.perm_append_singleton _ _).nodup_iff.mpr (List.nodup_cons.mpr ⟨hnk, nd⟩)
    have hsz : e1.size = ks.length + 1 := by rw [← Array.length_toList, p1.length, q2.length_eq, List.length_append]; rfl
    have hled : w.params.followText "set-order" = true ∨ t1.led = true := hl.imp id fun z => by rw [hl1]; exact z
    have fin : ∀ h', Heap.SameBut a s.heap h' → SetG w h' a (ks ++ [k]) → ∀ b, Q b { s with heap := h' } := fun h' sb r b => hQ h' b sb (by rw [if_neg fun z => hnk (has_iff.mp z)]; exact r)
    refine wpAny_bind (hgw _ ?_)
    split
    · refine wpAny_bind ?_
      rw [hashByValue_scannable 8 hsc]
      refine wpAny_pure (setG_tail (ks := ks ++ [k]) ?_ ho hex hd p1 q2 nd1 (by omega) ?_ ?_ ?_ fun h' sb r => ?_)
      · intro b s1 Q' q; cases b <;> first | exact wpAny_pure q | exact wpAny_rule q
      · first | (split <;> first | exact hf1 | exact SetTable.fits_plain_off hf1) | exact hf1
      · first | (split <;> exact hr1) | exact hr1
      · first | (split <;> exact hled) | exact hled
      · dsimp only; exact wpAny_pure (fin h' sb r _)
    · refine wpAny_bind (wpAny_pure ?_)
      simp only [↓reduceIte]
      refine setG_tail (ks := ks ++ [k]) ?_ ho hex hd p1 q2 nd1 (by omega) hf1 hr1 hled fun h' sb r => ?_
      · intro b s1 Q' q; cases b <;> first | exact wpAny_pure q | exact wpAny_rule q
      · dsimp only; exact wpAny_pure (fin h' sb r _)
/-- the keys once each, by their first turns -/
def once : List Key → List Key := fun l => l.foldl (fun acc k => if has acc k = true then acc else acc ++ [k]) []
theorem once_snoc (l : List Key) (k : Key) : once (l ++ [k]) = if has (once l) k = true then once l else once l ++ [k] := by
  unfold once
  rw [List.foldl_append]
  rfl
theorem rev_ind {α : Type} {p : List α → Prop} (h0 : p []) (h1 : ∀ l x, p l → p (l ++ [x])) : ∀ l, p l := by
  intro l
  have : ∀ r : List α, p r.reverse := by
    intro r
    induction r with
    | nil => exact h0
    | cons x r ih => rw [List.reverse_cons]; exact h1 _ _ ih
  have h := this l.reverse
  rwa [List.reverse_reverse] at h
theorem mem_once (l : List Key) : ∀ k, k ∈ once l ↔ k ∈ l := by
  refine rev_ind (p := fun l => ∀ k, k ∈ once l ↔ k ∈ l) (fun k => Iff.rfl) (fun l x ih k => ?_) l
  rw [once_snoc, List.mem_append, List.mem_singleton]
  split
  · rename_i h
    rw [ih k]
    exact ⟨.inl, fun z => z.elim id fun e => e ▸ (ih x).mp (has_iff.mp h)⟩
  · rw [List.mem_append, List.mem_singleton, ih k]
theorem once_len (l : List Key) : (once l).length ≤ l.length := by
  refine rev_ind (p := fun l => (once l).length ≤ l.length) (Nat.le_refl _) (fun l x ih => ?_) l
  rw [once_snoc, List.length_append]
  split
  · exact Nat.le_add_right_of_le ih
  · rw [List.length_append]; exact Nat.add_le_add_right ih _
theorem once_nd (l : List Key) : (once l).Nodup := by
  refine rev_ind (p := fun l => (once l).Nodup) List.nodup_nil (fun l x ih => ?_) l
  rw [once_snoc]
  split
  · exact ih
  · rename_i h
    exact (List.perm_append_singleton _ _).nodup_iff.mpr (List.nodup_cons.mpr ⟨fun z => h (has_iff.mpr z), ih⟩)
end
section
variable {P : Program} {w : World} {A : Around} {R : Result → Shared → Prop} {I : Addr} {fp wr : List Addr} {G : Array GenState → Array GenState → Prop} {n : Nat} {Y : Nat → Value → Prop} {St : Nat → Shared → Prop}
theorem setG_loop (W : WalksS P w A.in1 I fp wr G n Y St) (D : Addr) (hD : D ∉ fp) (kl : List Key) (hn : kl.length = n) (hb : n + 1 < scanBound) (hv : ∀ i v, Y i v → ∃ k, kl[i]? = some k ∧ keyIs k v = true) :
    ∀ (m i : Nat) (s : Shared), n - i = m → i ≤ n → St i s → SetG w s.heap D (once (kl.take i)) →
      (∀ s', Moved (D :: wr) G s s' → SetG w s'.heap D (once kl) → R (.ok (.ret .none)) s') →
      codeAny (model P w) A (.builtin "set.update.loop" ⟨[.ref D, .ref I], []⟩) R s := by
  have hDw : D ∉ wr := fun h => hD (W.sub _ h)
  have up : ∀ b ∈ wr, b ∈ D :: wr := fun b hb => List.mem_cons_of_mem _ hb
  intro m
  induction m with
  | zero =>
    intro i s hk hi hst hS hR
    obtain rfl : i = n := by omega
    refine codeAny_builtin PyProof.Rows.F.entry_set_update_loop ?_
    rw [Around.under_plainId PyProof.Rows.F.plain_set_update_loop _]
    show wpAny _ A.in1 (pyNext (.ref I) >>= _) _ _ s
    refine wpAny_bind (W.done s _ _ hst fun s' hm => ?_)
    show wpAny _ A.in1 (ret Value.none) _ _ s'
    refine wpAny_pure (hR s' (hm.mono up) ?_)
    rw [List.take_of_length_le (by omega)] at hS
    exact hS.at fun o ho => hm.heap D _ hDw ho
  | succ m ih =>
    intro i s hk hi hst hS hR
    have hlt : i < n := by omega
    refine codeAny_builtin PyProof.Rows.F.entry_set_update_loop ?_
    rw [Around.under_plainId PyProof.Rows.F.plain_set_update_loop _]
    show wpAny _ A.in1 (pyNext (.ref I) >>= _) _ _ s
    refine wpAny_bind (W.item i s _ _ hlt hst fun v s1 hP hst1 hm => ?_)
    obtain ⟨k, hk2, hx⟩ := hv i v hP
    have hS1 : SetG w s1.heap D (once (kl.take i)) := hS.at fun o ho => hm.heap D _ hDw ho
    show wpAny _ A.in1 (holding [v] (setAdd D v) >>= _) _ _ s1
    refine wpAny_bind (wpAny_holding ?_)
    unfold setAdd
    refine wpAny_holding (wpAny_bind ((mixKind P w).pyHash (k := k) hx ?_))
    have hroom : (once (kl.take i)).length + 1 < scanBound := by
      have h1 := once_len (kl.take i)
      rw [List.length_take] at h1
      omega
    refine setG_add (s := { s1 with toks := s1.toks + 1 }) hx hS1 hroom fun h' b hsb hS2 => ?_
    have hS3 : SetG w h' D (once (kl.take (i + 1))) := by
      rw [take_next hk2, once_snoc]
      exact hS2
    refine wpAny_pure ⟨plainId_quiet PyProof.Rows.F.plain_set_update_loop _, ih (i + 1) _ (by omega) hlt (W.frame _ s1 _ _ hst1 (Nat.le_succ _) fun b hb o e => ?_) hS3 fun s'' hm'' hS'' => ?_⟩
    · rw [hsb.2 b (fun h : b = D => hD (by rw [← h]; exact hb))]; exact e
    · refine hR s'' (Moved.trans W.gtrans ((hm.mono up).then_heap (Nat.le_succ _) fun b o hb e => ?_) hm'') hS''
      rw [hsb.2 b (fun h : b = D => hb (by rw [h]; exact List.mem_cons_self))]; exact e
end
end K31

set_option Elab.async false
set_option linter.all false
set_option maxRecDepth 100000
set_option maxHeartbeats 4000000
namespace K31
open PySem PySem.Spec PyProof.Rows L2 Evl
/-! set(..) called -/
section
variable {P : Program} {w : World} {A : Around} {E : Value → Shared → Prop} {s : Shared}
set_option maxHeartbeats 8000000 in
theorem call_setG_list {l : Addr} {items : Array Value} {Q : Value → Shared → Prop} (kl : List Key) (hh : A.handled = none) (hb : kl.length + 1 < scanBound) (hl : s.heap.IsList l items) (hz : kl.length = items.size) (hv : ∀ (i : Nat) (v : Value), items[i]? = some v → ∃ k, kl[i]? = some k ∧ keyIs k v = true)
    (h : ∀ (h' : Heap) (tk : Nat), SetG w h' s.heap.objs.size (once kl) → (∀ b o, s.heap.get? b = some o → h'.get? b = some o) → Q (.ref s.heap.objs.size) { s with heap := h', toks := tk }) :
    wpAny (model P w) A (call (.type "set") [.ref l]) Q E s := by
  obtain ⟨c, tl, hmro⟩ := PySem.F.called_set.mro
  have hmade := PySem.F.called_set.made
  have hsub := PySem.F.called_set.sub
  refine wpAny_call (codeAny_of_tree ?_)
  show wpAny _ _ (callAny (.type "set") _) _ _ _
  refine wpAny_pure ⟨Code.quiet_builtin _ (by decide +kernel), codeAny_builtin PySem.F.entry_type_call ?_⟩
  rw [Around.under_plain (weight_type_call_type "set" [.ref l] []) rfl]
  have h1 := PySem.F.called_set.notType
  have h2 := PySem.F.called_set.canCreate
  have hct := PySem.F.typeCall_set_1 (.ref l)
  repeat (any_goals (first | assumption | wp_step))
  generalize hob : ({ cls := .type "set", dict := none, data := .set #[] 0 (.fresh 0 0 (!w.params.followText "set-order")) } : Obj) = ob
  refine codeAny_mono (L2.code_set_led1 (.ref l) (E := E) (Q₁ := fun obj s1 => obj = .ref s.heap.objs.size ∧ s1 = { s with heap := s.heap.push ob }) ⟨rfl, by rw [hob]⟩) fun r s1 hr => ?_
  cases r with
  | error e => exact hr
  | ok fl =>
    cases fl with
    | ret obj =>
      obtain ⟨rfl, rfl⟩ := hr
      have hS : (s.heap.push ob).get? s.heap.objs.size = some ob := Heap.get?_push_size _ (by rw [← hob]; rfl)
      have hT : Shared.TypeIs { s with heap := s.heap.push ob } (.ref s.heap.objs.size) "set" := ⟨_, hS, by rw [← hob]⟩
      have hli := PySem.F.called_set.init.lookup
      have hbi := PySem.F.called_set.init.bind (.ref s.heap.objs.size)
      repeat (any_goals (first | assumption | wp_step))
      refine codeAny_mono (codeAny_call_builtin (R := wants (fun r s2 => r = .none ∧ ∃ h' tk, s2 = { s with heap := h', toks := tk } ∧ SetG w h' s.heap.objs.size (once kl) ∧ (∀ b o, s.heap.get? b = some o → h'.get? b = some o)) E)
        PySem.F.called_set.init.plain PySem.F.entry_set_init (check_set_init_1 hT ?_)) fun r2 s2 hr2 => ?_
      · subst hob
        obtain ⟨ol, hol, hcl, nl, hdl⟩ := hl
        obtain ⟨ocls, odict, odata, oslots⟩ := ol
        simp only at hcl hdl
        subst hcl; subst hdl
        have hol' : ∀ ob : Obj, (s.heap.push ob).get? l = some { cls := .type "list", dict := odict, data := .seq items nl, slots := oslots }   := fun ob => Heap.get?_push_of_some _ hol
        have hol' := hol' { cls := .type "set", dict := none, data := .set #[] 0 (.fresh 0 0 (!w.params.followText "set-order")) }
        have hsls := PySem.F.sub_list_set
        have hslf := PySem.F.sub_list_frozenset
        have hne : (Value.type "list" == Value.type "dict") = false := by decide
        have hl1 : (s.heap.push { cls := .type "set", dict := none, data := .set #[] 0 (.fresh 0 0 (!w.params.followText "set-order")) }).IsList l items := ⟨_, hol', rfl, nl, rfl⟩
        unfold Builtin.«set.__init__» noKeywords Builtin.Frozenset.updateFrom
        generalize hPI : pyIter = PI
        wp_walk
        subst hPI
        refine wpAny_pyIter_list hl1 ?_
        refine wpAny_bind (wpAny_runValue ?_)
        have hlS : l < s.heap.objs.size := Heap.lt_size hol
        have hh3 : A.in1.in1.in1.handled = none := by simp [hh]
        have hz1 : ∀ ob : Obj, (s.heap.push ob).objs.size = s.heap.objs.size + 1 := fun ob => Heap.size_push ..
        have hneI : ∀ ob : Obj, l ≠ (s.heap.push ob).objs.size := fun ob => by rw [hz1]; exact Nat.ne_of_lt (Nat.lt_succ_of_lt hlS)
        have hD : ∀ ob : Obj, s.heap.objs.size ∉ [(s.heap.push ob).objs.size, l] := fun ob => by
          rw [hz1]; simp only [List.mem_cons, List.mem_singleton, List.not_mem_nil, or_false, not_or]
          exact ⟨Nat.ne_of_lt (Nat.lt_succ_self _), Nat.ne_of_gt hlS⟩
        refine setG_loop ((Walks.list hh3 _ l (hneI _) items).toS) s.heap.objs.size (hD _) kl hz (by rw [← hz]; exact hb) hv _ 0 _ rfl (Nat.zero_le _) ⟨⟨_, Heap.get?_push_size _ rfl, rfl, rfl⟩, (hl1.push _)⟩ ?hS0 ?hR
        case hS0 =>
          refine ⟨_, #[], 0, .fresh 0 0 (!w.params.followText "set-order"), [], Heap.get?_push_of_some _ hS, ⟨rfl, rfl, rfl⟩, rfl, .nil, List.Perm.refl _, List.nodup_nil, by decide, by rfl, List.Pairwise.nil, ?_⟩
          show _ ∨ (!w.params.followText "set-order") = true
          cases w.params.followText "set-order"
          · exact .inr rfl
          · exact .inl rfl
        case hR =>
          intro s' hm hS'
          obtain ⟨h', g', d', tk', os'⟩ := s'
          have eg : g' = s.gens := hm.gens
          have ed : d' = s.drawn := hm.drawn
          have eo : os' = s.os := hm.os
          subst eg; subst ed; subst eo
          show wpAny _ _ _ _ _ _
          refine wpAny_pure ?_
          show wpAny _ _ (ret Value.none) _ _ _
          refine wpAny_pure ⟨rfl, h', tk', rfl, hS', fun b o e => ?_⟩
          have hlt := Heap.lt_size e
          refine hm.heap b o ?_ (Heap.get?_push_of_some _ (Heap.get?_push_of_some _ e))
          rw [hz1]
          simp only [List.mem_cons, List.mem_singleton, List.not_mem_nil, or_false, not_or]
          exact ⟨Nat.ne_of_lt hlt, Nat.ne_of_lt (Nat.lt_succ_of_lt hlt)⟩
      · cases r2 with
        | error e => exact hr2
        | ok fl2 =>
          cases fl2 with
          | ret r =>
            obtain ⟨rfl, h', tk, rfl, hS', hk'⟩ := hr2
            repeat (any_goals (first | assumption | wp_step))
            exact h _ _ hS' hk'
          | _ => exact hr2.elim
    | _ => exact hr.elim
set_option maxHeartbeats 8000000 in
theorem call_setG_str {x : Str} {t : Tok} {Q : Value → Shared → Prop} (kl : List Key) (hh : A.handled = none) (hb : kl.length + 1 < scanBound) (hz : kl.length = x.cps.size) (hv : ∀ (i : Nat) (v : Value), SignAt x i v → ∃ k, kl[i]? = some k ∧ keyIs k v = true)
    (h : ∀ (h' : Heap) (tk : Nat), SetG w h' s.heap.objs.size (once kl) → (∀ b o, s.heap.get? b = some o → h'.get? b = some o) → Q (.ref s.heap.objs.size) { s with heap := h', toks := tk }) :
    wpAny (model P w) A (call (.type "set") [.str x t]) Q E s := by
  obtain ⟨c, tl, hmro⟩ := PySem.F.called_set.mro
  have hmade := PySem.F.called_set.made
  have hsub := PySem.F.called_set.sub
  refine wpAny_call (codeAny_of_tree ?_)
  show wpAny _ _ (callAny (.type "set") _) _ _ _
  refine wpAny_pure ⟨Code.quiet_builtin _ (by decide +kernel), codeAny_builtin PySem.F.entry_type_call ?_⟩
  rw [Around.under_plain (weight_type_call_type "set" [.str x t] []) rfl]
  have h1 := PySem.F.called_set.notType
  have h2 := PySem.F.called_set.canCreate
  have hct := PySem.F.typeCall_set_1 (.str x t)
  repeat (any_goals (first | assumption | wp_step))
  generalize hob : ({ cls := .type "set", dict := none, data := .set #[] 0 (.fresh 0 0 (!w.params.followText "set-order")) } : Obj) = ob
  refine codeAny_mono (L2.code_set_led1 (.str x t) (E := E) (Q₁ := fun obj s1 => obj = .ref s.heap.objs.size ∧ s1 = { s with heap := s.heap.push ob }) ⟨rfl, by rw [hob]⟩) fun r s1 hr => ?_
  cases r with
  | error e => exact hr
  | ok fl =>
    cases fl with
    | ret obj =>
      obtain ⟨rfl, rfl⟩ := hr
      have hS : (s.heap.push ob).get? s.heap.objs.size = some ob := Heap.get?_push_size _ (by rw [← hob]; rfl)
      have hT : Shared.TypeIs { s with heap := s.heap.push ob } (.ref s.heap.objs.size) "set" := ⟨_, hS, by rw [← hob]⟩
      have hli := PySem.F.called_set.init.lookup
      have hbi := PySem.F.called_set.init.bind (.ref s.heap.objs.size)
      repeat (any_goals (first | assumption | wp_step))
      refine codeAny_mono (codeAny_call_builtin (R := wants (fun r s2 => r = .none ∧ ∃ h' tk, s2 = { s with heap := h', toks := tk } ∧ SetG w h' s.heap.objs.size (once kl) ∧ (∀ b o, s.heap.get? b = some o → h'.get? b = some o)) E)
        PySem.F.called_set.init.plain PySem.F.entry_set_init (check_set_init_1 hT ?_)) fun r2 s2 hr2 => ?_
      · subst hob
        have hsls := PySem.F.sub_str_set
        have hslf := PySem.F.sub_str_frozenset
        have hne : (Value.type "str" == Value.type "dict") = false := by decide
        unfold Builtin.«set.__init__» noKeywords Builtin.Frozenset.updateFrom
        generalize hPI : pyIter = PI
        wp_walk
        subst hPI
        refine wpAny_pyIter_str fun oi St hW hst => ?_
        refine wpAny_bind (wpAny_runValue ?_)
        have hh3 : A.in1.in1.in1.handled = none := by simp [hh]
        have hz1 : ∀ ob : Obj, (s.heap.push ob).objs.size = s.heap.objs.size + 1 := fun ob => Heap.size_push ..
        have hD : ∀ ob : Obj, s.heap.objs.size ∉ [(s.heap.push ob).objs.size] := fun ob => by
          rw [hz1]; simp only [List.mem_singleton]
          exact Nat.ne_of_lt (Nat.lt_succ_self _)
        refine setG_loop ((hW _ hh3).toS) s.heap.objs.size (hD _) kl hz (by rw [← hz]; exact hb) hv _ 0 _ rfl (Nat.zero_le _) hst ?hS0 ?hR
        case hS0 =>
          refine ⟨_, #[], 0, .fresh 0 0 (!w.params.followText "set-order"), [], Heap.get?_push_of_some _ hS, ⟨rfl, rfl, rfl⟩, rfl, .nil, List.Perm.refl _, List.nodup_nil, by decide, by rfl, List.Pairwise.nil, ?_⟩
          show _ ∨ (!w.params.followText "set-order") = true
          cases w.params.followText "set-order"
          · exact .inr rfl
          · exact .inl rfl
        case hR =>
          intro s' hm hS'
          obtain ⟨h', g', d', tk', os'⟩ := s'
          have eg : g' = s.gens := hm.gens
          have ed : d' = s.drawn := hm.drawn
          have eo : os' = s.os := hm.os
          subst eg; subst ed; subst eo
          show wpAny _ _ _ _ _ _
          refine wpAny_pure ?_
          show wpAny _ _ (ret Value.none) _ _ _
          refine wpAny_pure ⟨rfl, h', tk', rfl, hS', fun b o e => ?_⟩
          have hlt := Heap.lt_size e
          refine hm.heap b o ?_ (Heap.get?_push_of_some _ (Heap.get?_push_of_some _ e))
          rw [hz1]
          simp only [List.mem_cons, List.mem_singleton, List.not_mem_nil, or_false, not_or]
          exact ⟨Nat.ne_of_lt hlt, Nat.ne_of_lt (Nat.lt_succ_of_lt hlt)⟩
      · cases r2 with
        | error e => exact hr2
        | ok fl2 =>
          cases fl2 with
          | ret r =>
            obtain ⟨rfl, h', tk, rfl, hS', hk'⟩ := hr2
            repeat (any_goals (first | assumption | wp_step))
            exact h _ _ hS' hk'
          | _ => exact hr2.elim
    | _ => exact hr.elim
end
end K31

set_option Elab.async false
set_option linter.all false
set_option maxRecDepth 100000
set_option maxHeartbeats 4000000
namespace K31
open PySem PySem.Spec PyProof.Rows L2 Evl
/-! sorted over such a set, over a text; the rules for the two together -/
theorem paired_map {α β γ : Type} {R : β → γ → Prop} {f : α → β} : ∀ {l : List α} {ks : List γ}, Paired (fun a k => R (f a) k) l ks → Paired R (l.map f) ks
  | _, _, .nil => .nil
  | _, _, .cons r t => .cons r (paired_map t)
def keyI : Key → Int
  | .inl i => i
  | .inr _ => 0
def keyS : Key → Str
  | .inl _ => Str.empty
  | .inr x => x
theorem keys_ints {ns : List Int} {ks : List Key} (h : ks.Perm (ns.map Sum.inl)) : ks = (ks.map keyI).map Sum.inl ∧ (ks.map keyI).Perm ns := by
  constructor
  · rw [List.map_map]
    refine (List.map_id ks).symm.trans (List.map_congr_left fun k hk => ?_)
    obtain ⟨n, _, rfl⟩ := List.mem_map.mp (h.mem_iff.mp hk)
    rfl
  · have e := h.map keyI
    rw [List.map_map] at e
    have e2 : ns.map (keyI ∘ Sum.inl) = ns := (List.map_congr_left fun _ _ => rfl).trans (List.map_id ns)
    rw [e2] at e
    exact e
theorem keys_strs {ns : List Str} {ks : List Key} (h : ks.Perm (ns.map Sum.inr)) : ks = (ks.map keyS).map Sum.inr ∧ (ks.map keyS).Perm ns := by
  constructor
  · rw [List.map_map]
    refine (List.map_id ks).symm.trans (List.map_congr_left fun k hk => ?_)
    obtain ⟨n, _, rfl⟩ := List.mem_map.mp (h.mem_iff.mp hk)
    rfl
  · have e := h.map keyS
    rw [List.map_map] at e
    have e2 : ns.map (keyS ∘ Sum.inr) = ns := (List.map_congr_left fun _ _ => rfl).trans (List.map_id ns)
    rw [e2] at e
    exact e
theorem ints_paired : ∀ {ns : List Int} {vs : List Value}, Paired (fun v k => keyIs k v = true) vs (ns.map Sum.inl) → IntsAre vs ns
  | [], _, .nil => .nil
  | n :: ns, _, .cons r t => by
    rcases keyIs_shape r with ⟨i, tk, e, rfl⟩ | ⟨x, tk, e, rfl⟩
    · cases e
      exact .cons n tk (ints_paired t)
    · cases e
theorem strs_paired : ∀ {ns : List Str} {vs : List Value}, Paired (fun v k => keyIs k v = true) vs (ns.map Sum.inr) → StrsAre vs ns
  | [], _, .nil => .nil
  | n :: ns, _, .cons r t => by
    rcases keyIs_shape r with ⟨i, tk, e, rfl⟩ | ⟨x, tk, e, rfl⟩
    · cases e
    · cases e
      exact .cons n tk (strs_paired t)
theorem lex_tri {a b : List Nat} (h : ¬ b < a) : a < b ∨ a = b := by
  by_cases q : a < b
  · exact .inl q
  · exact .inr (List.le_antisymm (List.not_lt.mp h) (List.not_lt.mp q))
theorem rising_pw : ∀ (ys : List Str) (p : Str), risingS p ys = true → (∀ y ∈ ys, ¬ y.cps.toList < p.cps.toList) ∧ ys.Pairwise (fun a b => ¬ b.cps.toList < a.cps.toList)
  | [], p, _ => ⟨fun _ h => (by cases h), List.Pairwise.nil⟩
  | y :: ys, p, h => by
    unfold risingS at h
    rw [Bool.and_eq_true] at h
    obtain ⟨h1, h2⟩ := h
    have h3 : ¬ y.cps.toList < p.cps.toList := by
      have e : ltCps y.cps.toList p.cps.toList = false := by simpa using h1
      intro q
      rw [ltCps_eq] at e
      exact of_decide_eq_false e q
    obtain ⟨a, b⟩ := rising_pw ys y h2
    refine ⟨fun z hz => ?_, List.pairwise_cons.mpr ⟨a, b⟩⟩
    rcases List.mem_cons.mp hz with e | hz
    · exact e ▸ h3
    · exact fun q => a z hz ((lex_tri h3).elim (fun r => List.lt_trans q r) fun r => r ▸ q)
theorem sorted_pw {ys : List Str} (h : sortedS ys = true) : ys.Pairwise (fun a b => ¬ b.cps.toList < a.cps.toList) := by
  cases ys with
  | nil => exact List.Pairwise.nil
  | cons y ys => exact List.pairwise_cons.mpr (rising_pw ys y h)
/-- risen and without doubles -/
theorem sorted_asc {ys : List Str} (h : sortedS ys = true) (nd : ys.Nodup) : (ys.map fun x => x.cps.toList).Pairwise (· < ·) := by
  have h1 := sorted_pw h
  refine List.pairwise_map.mpr ((h1.and nd).imp fun {a b} q => ?_)
  obtain ⟨q1, q2⟩ := q
  rcases lex_tri q1 with z | z
  · exact z
  · exact absurd (by rw [← SX.S_tl a, ← SX.S_tl b, z]) q2
section
variable {P : Program} {w : World} {A : Around} {E : Value → Shared → Prop} {s : Shared} {a : Addr}
theorem sorted_setI {ns : List Int} {Q : Value → Shared → Prop} (R : SetG w s.heap a (once (ns.map Sum.inl))) (hh : A.handled = none) (h64 : ns.length < 64)
    (hQ : ∀ s' p (out : Array Value) (c : Nat) (ys : List Int), (∀ b o, s.heap.get? b = some o → s'.heap.get? b = some o) → s'.gens = s.gens → s'.os = s.os → s.heap.objs.size ≤ p →
      s'.heap.get? p = some (seqObj "list" out c) → IntsAre out.toList ys → ys.Pairwise (· < ·) → (∀ k, k ∈ ys ↔ k ∈ ns) → ys.length < 64 → Q (.ref p) s') :
    wpAny (model P w) A (call (.builtin "sorted") [.ref a]) Q E s := by
  obtain ⟨o, es, ep, t, k0, ho, hex, hd, hp, hk, nd, hb, hf, hr, hl⟩ := R
  refine Calls.call_function_entry kind_sorted plain_sorted entry_sorted (args_sorted1 _) ?_
  unfold Builtin.«sorted»
  refine wpAny_bind (m := checkCount "sorted" 1 1 _) (wpAny_pure ?_)
  refine wpAny_bind (collect_set (A := A.in1) hh ⟨o, ho, hex.1, hd⟩ hf hb hr hl fun s1 vs k1 hz g1 o1 pm => ?_)
  have hpv : Paired (fun v k => keyIs k v = true) (es.toList.map (·.2)) k0 := paired_map (R := fun v k => keyIs k v = true) (f := fun e : Int × Value => e.2) (Paired.mapP hp fun _ _ r => r.1)
  obtain ⟨k2, p2, q2⟩ := paired_perm pm hpv
  -- the keys are numbers
  have hon : ∀ k ∈ once (ns.map Sum.inl), ∃ n ∈ ns, k = Sum.inl n := fun k hk' => by
    obtain ⟨n, hn, e⟩ := List.mem_map.mp ((mem_once _ k).mp hk')
    exact ⟨n, hn, e.symm⟩
  have hpm : k2.Perm (((once (ns.map Sum.inl)).map keyI).map Sum.inl) := by
    refine (q2.trans hk).trans (List.Perm.of_eq ?_)
    rw [List.map_map]
    refine (List.map_id _).symm.trans (List.map_congr_left fun k hk' => ?_)
    obtain ⟨n, _, rfl⟩ := hon k hk'
    rfl
  obtain ⟨e1, e2⟩ := keys_ints hpm
  rw [e1] at p2
  have hI := ints_paired p2
  have hlen : vs.length = (once (ns.map Sum.inl)).length := by
    rw [hI.length, e2.length_eq, List.length_map]
  have h64' : vs.length < 64 := by
    have h := once_len (ns.map Sum.inl)
    rw [List.length_map] at h
    omega
  have mem : ∀ k, k ∈ k2.map keyI ↔ k ∈ ns := fun k => by
    rw [e2.mem_iff, List.mem_map]
    constructor
    · rintro ⟨x, hx, rfl⟩
      obtain ⟨n, hn, rfl⟩ := hon x hx
      exact hn
    · intro hn
      exact ⟨.inl k, (mem_once _ _).mpr (List.mem_map_of_mem hn), rfl⟩
  have ndI : (k2.map keyI).Nodup := by
    refine e2.nodup_iff.mpr (List.Pairwise.map _ (fun x y q => q) ?_)
    refine nd.imp_of_mem fun {x y} hx hy q e => q ?_
    obtain ⟨n, _, rfl⟩ := hon x hx
    obtain ⟨m, _, rfl⟩ := hon y hy
    exact congrArg Sum.inl e
  refine wpAny_bind (wpAny_newList ?_ (by rw [sizeLine_eq]; omega))
  have hoL : (s1.heap.push (seqObj "list" vs.toArray 0)).get? s1.heap.objs.size = some (seqObj "list" vs.toArray 0) := Heap.get?_push_size _ rfl
  refine wpAny_bind (wpAny_holding (wpAny_call_entry slot_list_sort ⟨_, hoL, rfl⟩ entry_list_sort (list_sort_tree hoL hI h64' fun out ys a1 a2 a3 => ⟨_, rfl, ?_⟩) (args_list_sort _)))
  obtain ⟨c, hc⟩ := sortedHeap_at (vs := vs) (out := out) hoL
  refine wpAny_pure ⟨_, rfl, hQ _ s1.heap.objs.size out c ys (fun b u e => ?_) g1 o1 hz hc a1 (lt_of_le_nodup ys a3 (a2.nodup_iff.mpr ndI)) (fun k => by rw [a2.mem_iff, mem k]) (by rw [a2.length_eq, ← hI.length]; exact h64')⟩
  have q := k1 b u e
  have hlt := Heap.lt_size q
  show (sortedHeap (s1.heap.push (seqObj "list" vs.toArray 0)) s1.heap.objs.size vs out).get? b = some u
  rw [sortedHeap_old (Nat.ne_of_lt hlt) (by rw [size_push']; exact Nat.lt_succ_of_lt hlt)]
  exact Heap.get?_push_of_some _ q
theorem sorted_setS {ns : List Str} {Q : Value → Shared → Prop} (R : SetG w s.heap a (once (ns.map Sum.inr))) (hh : A.handled = none) (h64 : (once (ns.map Sum.inr)).length < 64)
    (hQ : ∀ s' p (out : Array Value) (c : Nat) (ys : List Str), (∀ b o, s.heap.get? b = some o → s'.heap.get? b = some o) → s'.gens = s.gens → s'.os = s.os → s.heap.objs.size ≤ p →
      s'.heap.get? p = some (seqObj "list" out c) → StrsAre out.toList ys → (ys.map fun x => x.cps.toList).Pairwise (· < ·) → (∀ k, k ∈ ys ↔ k ∈ ns) → ys.length < 64 → Q (.ref p) s') :
    wpAny (model P w) A (call (.builtin "sorted") [.ref a]) Q E s := by
  obtain ⟨o, es, ep, t, k0, ho, hex, hd, hp, hk, nd, hb, hf, hr, hl⟩ := R
  refine Calls.call_function_entry kind_sorted plain_sorted entry_sorted (args_sorted1 _) ?_
  unfold Builtin.«sorted»
  refine wpAny_bind (m := checkCount "sorted" 1 1 _) (wpAny_pure ?_)
  refine wpAny_bind (collect_set (A := A.in1) hh ⟨o, ho, hex.1, hd⟩ hf hb hr hl fun s1 vs k1 hz g1 o1 pm => ?_)
  have hpv : Paired (fun v k => keyIs k v = true) (es.toList.map (·.2)) k0 := paired_map (R := fun v k => keyIs k v = true) (f := fun e : Int × Value => e.2) (Paired.mapP hp fun _ _ r => r.1)
  obtain ⟨k2, p2, q2⟩ := paired_perm pm hpv
  -- the keys are numbers
  have hon : ∀ k ∈ once (ns.map Sum.inr), ∃ n ∈ ns, k = Sum.inr n := fun k hk' => by
    obtain ⟨n, hn, e⟩ := List.mem_map.mp ((mem_once _ k).mp hk')
    exact ⟨n, hn, e.symm⟩
  have hpm : k2.Perm (((once (ns.map Sum.inr)).map keyS).map Sum.inr) := by
    refine (q2.trans hk).trans (List.Perm.of_eq ?_)
    rw [List.map_map]
    refine (List.map_id _).symm.trans (List.map_congr_left fun k hk' => ?_)
    obtain ⟨n, _, rfl⟩ := hon k hk'
    rfl
  obtain ⟨e1, e2⟩ := keys_strs hpm
  rw [e1] at p2
  have hI := strs_paired p2
  have hlen : vs.length = (once (ns.map Sum.inr)).length := by
    rw [StrsAre.len_eq hI, e2.length_eq, List.length_map]
  have h64' : vs.length < 64 := by omega
  have mem : ∀ k, k ∈ k2.map keyS ↔ k ∈ ns := fun k => by
    rw [e2.mem_iff, List.mem_map]
    constructor
    · rintro ⟨x, hx, rfl⟩
      obtain ⟨n, hn, rfl⟩ := hon x hx
      exact hn
    · intro hn
      exact ⟨Sum.inr k, (mem_once _ _).mpr (List.mem_map_of_mem hn), rfl⟩
  have ndI : (k2.map keyS).Nodup := by
    refine e2.nodup_iff.mpr (List.Pairwise.map _ (fun x y q => q) ?_)
    refine nd.imp_of_mem fun {x y} hx hy q e => q ?_
    obtain ⟨n, _, rfl⟩ := hon x hx
    obtain ⟨m, _, rfl⟩ := hon y hy
    exact congrArg Sum.inr e
  refine wpAny_bind (wpAny_newList ?_ (by rw [sizeLine_eq]; omega))
  have hoL : (s1.heap.push (seqObj "list" vs.toArray 0)).get? s1.heap.objs.size = some (seqObj "list" vs.toArray 0) := Heap.get?_push_size _ rfl
  refine wpAny_bind (wpAny_holding (wpAny_call_entry slot_list_sort ⟨_, hoL, rfl⟩ entry_list_sort (list_sort_treeK strKind_oneLt hoL hI.keysOf (fun v1 v2 rest e => keyKind_strs (by rw [← e]; exact hI)) h64' fun st' hp' hs' => ⟨_, rfl, ?_⟩) (args_list_sort _)))
  obtain ⟨ys, a1, a2, a3⟩ := sorted_out_str hI hp' hs'
  obtain ⟨c, hc⟩ := sortedHeap_at (vs := vs) (out := (arrOf st').map (·.2)) hoL
  refine wpAny_pure ⟨_, rfl, hQ _ s1.heap.objs.size ((arrOf st').map (·.2)) c ys (fun b u e => ?_) g1 o1 hz hc a1 (sorted_asc a3 (a2.nodup_iff.mpr ndI)) (fun k => by rw [a2.mem_iff, mem k]) (by rw [a2.length_eq, ← StrsAre.len_eq hI]; exact h64')⟩
  have q := k1 b u e
  have hlt := Heap.lt_size q
  show (sortedHeap (s1.heap.push (seqObj "list" vs.toArray 0)) s1.heap.objs.size vs ((arrOf st').map (·.2))).get? b = some u
  rw [sortedHeap_old (Nat.ne_of_lt hlt) (by rw [size_push']; exact Nat.lt_succ_of_lt hlt)]
  exact Heap.get?_push_of_some _ q
/-- sorted of a text: its signs -/
theorem signs_are : ∀ (l : List Nat) (vs : List Value), vs.length = l.length → (∀ (i : Nat) (v : Value), vs[i]? = some v → ∃ (c : Nat) (u : Tok), l[i]? = some c ∧ v = Value.str ⟨#[c]⟩ u) → StrsAre vs (l.map fun c => (⟨#[c]⟩ : Str))
  | [], [], _, _ => .nil
  | [], _ :: _, h, _ => by cases h
  | _ :: _, [], h, _ => by cases h
  | c :: l, v :: vs, h, hv => by
    obtain ⟨c', u, e1, e2⟩ := hv 0 v rfl
    have e1 : some c = some c' := e1
    cases e1
    subst e2
    exact .cons _ u (signs_are l vs (Nat.succ.inj h) fun i z hz => by simpa using hv (i + 1) z (by simpa using hz))
theorem sorted_strOf {x : Str} {t : Tok} {Q : Value → Shared → Prop} (hh : A.handled = none) (h64 : x.cps.size < 64)
    (hQ : ∀ (h1 h' : Heap) (tk : Nat) (out : Array Value) (c : Nat) (ys : List Str), (∀ b o, s.heap.get? b = some o → h1.get? b = some o) → (∀ b o, h1.get? b = some o → h'.get? b = some o) →
      h'.get? h1.objs.size = some (seqObj "list" out c) → StrsAre out.toList ys → ys.Perm (x.cps.toList.map fun c => (⟨#[c]⟩ : Str)) → sortedS ys = true → Q (.ref h1.objs.size) { s with heap := h', toks := tk }) :
    wpAny (model P w) A (call (.builtin "sorted") [.str x t]) Q E s := by
  refine Calls.call_function_entry kind_sorted plain_sorted entry_sorted (args_sorted1 _) ?_
  unfold Builtin.«sorted»
  refine wpAny_bind (m := checkCount "sorted" 1 1 _) (wpAny_pure ?_)
  refine wpAny_bind (wpAny_collect_str (A := A.in1) hh x t (fun s1 acc k1 g1 d1 o1 hit => ?_) (by rw [sizeLine_eq]; omega))
  obtain ⟨h1, gg, dd, tk, oo⟩ := s1
  simp only at k1 g1 d1 o1
  subst g1
  subst d1
  subst o1
  have hacc : acc.size = x.cps.size := hit.1
  have hI : StrsAre acc.toList (x.cps.toList.map fun c => (⟨#[c]⟩ : Str)) := signs_are _ _ (by rw [Array.length_toList, Array.length_toList, hacc]) fun i v hv => by
    rw [Array.getElem?_toList] at hv
    obtain ⟨c, u, e1, e2⟩ := hit.2 i v hv
    exact ⟨c, u, by rw [Array.getElem?_toList]; exact e1, e2⟩
  have h64' : acc.toList.length < 64 := by rw [Array.length_toList, hacc]; exact h64
  refine wpAny_bind (wpAny_newList ?_ (by rw [sizeLine_eq]; omega))
  have hoL : (h1.push (seqObj "list" acc.toList.toArray 0)).get? h1.objs.size = some (seqObj "list" acc.toList.toArray 0) := Heap.get?_push_size _ rfl
  refine wpAny_bind (wpAny_holding (wpAny_call_entry slot_list_sort ⟨_, hoL, rfl⟩ entry_list_sort (list_sort_treeK strKind_oneLt hoL hI.keysOf (fun v1 v2 rest e => keyKind_strs (by rw [← e]; exact hI)) h64' fun st' hp' hs' => ⟨_, rfl, ?_⟩) (args_list_sort _)))
  obtain ⟨ys, a1, a2, a3⟩ := sorted_out_str hI hp' hs'
  obtain ⟨c, hc⟩ := sortedHeap_at (vs := acc.toList) (out := (arrOf st').map (·.2)) hoL
  refine wpAny_pure ⟨_, rfl, hQ h1 _ _ ((arrOf st').map (·.2)) c ys k1 (fun b u e => ?_) hc a1 a2 a3⟩
  have hlt := Heap.lt_size e
  show (sortedHeap (h1.push (seqObj "list" acc.toList.toArray 0)) h1.objs.size acc.toList ((arrOf st').map (·.2))).get? b = some u
  rw [sortedHeap_old (Nat.ne_of_lt hlt) (by rw [size_push']; exact Nat.lt_succ_of_lt hlt)]
  exact Heap.get?_push_of_some _ e
end
end K31

set_option Elab.async false
set_option linter.all false
set_option maxRecDepth 100000
set_option maxHeartbeats 4000000
namespace K31
open PySem PySem.Spec PyProof.Rows L2 Evl
/-! the rules: sorted(set(a)), sorted(a text) -/
/-- what sorted(set(x)) gives: x a list of numbers, of texts, a text -/
def rSS (K : PySem.W.Frag) (x : V) (H : Hp) (Q : VK) : Prop :=
  (∃ (l : Addr) (ns : List Int), x = .ref l ∧ SqL K H l (ns.map V.int) ∧ ns.length < 64 ∧ ∀ (ys : List Int) p, ys.Pairwise (· < ·) → (∀ k, k ∈ ys ↔ k ∈ ns) → H p = none → Q (.ref p) (upd H p (.lst (ys.map V.int)))) ∨
  (∃ (l : Addr) (ss : List (List Nat)), x = .ref l ∧ SqL K H l (ss.map fun t => V.str (S t)) ∧ (ss.length < 1000 ∧ ∀ l : List (List Nat), l.Nodup → (∀ x ∈ l, x ∈ ss) → l.length < 64) ∧ ∀ (ys : List (List Nat)) p, ys.Pairwise (· < ·) → (∀ k, k ∈ ys ↔ k ∈ ss) → H p = none → Q (.ref p) (upd H p (.lst (ys.map fun t => V.str (S t))))) ∨
  (∃ t : List Nat, x = .str (S t) ∧ t.length < 64 ∧ ∀ (ys : List Nat) p, ys.Pairwise (· < ·) → (∀ c, c ∈ ys ↔ c ∈ t) → H p = none → Q (.ref p) (upd H p (.lst (ys.map fun c => V.str (S [c])))))
def tSS (K : PySem.W.Frag) (ta : TE) : TE := fun σ H Q => ta σ H fun x H1 => rSS K x H1 Q
theorem ints_keys : ∀ {ns : List Int} {us : List Value}, Vals (ns.map V.int) us → ∀ (i : Nat) (v : Value), us[i]? = some v → ∃ k, (ns.map (Sum.inl : Int → Key))[i]? = some k ∧ keyIs k v = true
  | [], _, .nil, i, v, h => by simp at h
  | n :: ns, _, .cons r t, 0, v, h => by
    obtain ⟨tk, rfl⟩ := r
    simp at h
    exact ⟨.inl n, rfl, h ▸ keyIs_int n tk⟩
  | n :: ns, _, .cons r t, i + 1, v, h => by
    obtain ⟨k, h1, h2⟩ := ints_keys t i v (by simpa using h)
    exact ⟨k, by simpa using h1, h2⟩
theorem strs_keys : ∀ {ns : List Str} {us : List Value}, Vals (ns.map V.str) us → ∀ (i : Nat) (v : Value), us[i]? = some v → ∃ k, (ns.map (Sum.inr : Str → Key))[i]? = some k ∧ keyIs k v = true
  | [], _, .nil, i, v, h => by simp at h
  | n :: ns, _, .cons r t, 0, v, h => by
    obtain ⟨tk, rfl⟩ := r
    simp at h
    exact ⟨.inr n, rfl, h ▸ keyIs_str n tk⟩
  | n :: ns, _, .cons r t, i + 1, v, h => by
    obtain ⟨k, h1, h2⟩ := strs_keys t i v (by simpa using h)
    exact ⟨k, by simpa using h1, h2⟩
theorem once_nodup (l : List Key) : (once l).Nodup := by
  refine rev_ind (p := fun l => (once l).Nodup) .nil (fun l x ih => ?_) l
  rw [once_snoc]
  split
  · exact ih
  · rename_i hx
    refine List.nodup_append.mpr ⟨ih, List.nodup_cons.mpr ⟨(fun z => nomatch z), .nil⟩, fun a ha b hb e => ?_⟩
    rw [List.mem_singleton.mp hb] at e
    subst e
    exact hx (has_iff.mpr ha)
theorem once_lt {ss : List (List Nat)} {n : Nat} (h : ∀ l : List (List Nat), l.Nodup → (∀ x ∈ l, x ∈ ss) → l.length < n) : (once ((ss.map S).map Sum.inr)).length < n := by
  have hm : ∀ k ∈ once ((ss.map S).map Sum.inr), ∃ t ∈ ss, k = Sum.inr (S t) := fun k hk => by
    obtain ⟨y, hy, rfl⟩ := List.mem_map.mp ((mem_once _ k).mp hk)
    obtain ⟨t, ht, rfl⟩ := List.mem_map.mp hy
    exact ⟨t, ht, rfl⟩
  have q := h ((once ((ss.map S).map Sum.inr)).map fun k => (keyS k).cps.toList) ?_ ?_
  · rw [List.length_map] at q
    exact q
  · refine List.Pairwise.map _ (fun x y q => q) ((once_nodup _).imp_of_mem fun {x y} hx hy q e => q ?_)
    obtain ⟨t, _, rfl⟩ := hm x hx
    obtain ⟨u, _, rfl⟩ := hm y hy
    have e : (S t).cps.toList = (S u).cps.toList := e
    rw [show (S t).cps.toList = t from rfl, show (S u).cps.toList = u from rfl] at e
    rw [e]
  · intro x hx
    obtain ⟨k, hk, rfl⟩ := List.mem_map.mp hx
    obtain ⟨t, ht, rfl⟩ := hm k hk
    exact ht
theorem scan64 {n : Nat} (h : n < 64) : n + 1 < scanBound := Nat.lt_of_le_of_lt (Nat.succ_le_of_lt h) (by decide)
section
variable {X : Cx} {pins : List (Addr × Obj)} {σ : L2.St} {H : Hp} {s : Shared}
/-- a list laid by such a call -/
theorem inv_made {xs : List V} {vs : List Value} {s' : Shared} {p : Addr} {c : Nat} {out : Array Value} (I : Inv X pins σ H s) (k : ∀ b o, s.heap.get? b = some o → s'.heap.get? b = some o) (g : s'.gens = s.gens) (o : s'.os = s.os) (hp : s.heap.objs.size ≤ p)
    (hg : s'.heap.get? p = some (seqObj "list" out c)) (r : Vals xs out.toList) (hl : xs.length ≤ sizeLine) : Inv X pins σ (upd H p (.lst xs)) s' := by
  have hn : H p = none := I.hok.fresh hp
  have J : Inv X pins σ (upd H p (.lst xs)) { s with heap := s'.heap, gens := s'.gens, drawn := s'.drawn, toks := s'.toks } :=
    I.call (ch := []) (Un.laid k hp hn) (I.hok.laid k hp ⟨hl, out.toList, c, r, hg⟩) (by rw [g]; exact I.bare) (fun _ z => nomatch z)
  have e : s' = { s with heap := s'.heap, gens := s'.gens, drawn := s'.drawn, toks := s'.toks } := by
    cases s'
    cases s
    cases o
    rfl
  rw [e]
  exact J
theorem vals_strs {ys : List Str} {us : List Value} (h : StrsAre us ys) : Vals (ys.map V.str) us := by
  induction h with
  | nil => exact .nil
  | cons n t _ ih => exact .cons ⟨t, rfl⟩ ih
/-- sorted(set(v)) by values -/
theorem ss_ok {x : V} {v : Value} {Q : VK} {E : Value → Shared → Prop} (I : Inv X pins σ H s) (hc : X.calm = true) (r : RelV x v) (h : rSS X.K x H Q) :
    wpAny (model X.prog X.w) X.A (call (.type "set") [v]) (fun u s1 => wpAny (model X.prog X.w) X.A (call (.builtin "sorted") [u]) (EP X pins σ Q) E s1) E s := by
  have hh := I.ok.hd hc
  rcases h with ⟨l, ns, rfl, hq, h64, q⟩ | ⟨l, ss, rfl, hq, h64, q⟩ | ⟨t, rfl, h64, q⟩
  · cases r
    obtain ⟨its, rv, pl, hz⟩ := I.list hq
    have hlen : its.length = ns.length := by have := rv.length; rw [List.length_map] at this; exact this.symm
    refine call_setG_list (ns.map Sum.inl) hh (by rw [List.length_map]; exact scan64 h64) pl.isList (by rw [List.length_map, List.size_toArray, hlen]) (fun i v hv => ints_keys rv i v (by simpa using hv)) fun h' tk hS hk => ?_
    have I1 : Inv X pins σ H { s with heap := h', toks := tk } := I.kept hk
    refine sorted_setI hS hh h64 fun s' p out c ys k g o hp hg hi ha hm hl => ?_
    exact ⟨.ref p, _, inv_made (vs := its) I1 k g o hp hg (vals_of_ints hi) (by rw [List.length_map, sizeLine_eq]; omega), rfl, q ys p ha hm (I1.hok.fresh hp)⟩
  · cases r
    obtain ⟨its, rv, pl, hz⟩ := I.list hq
    have e : (ss.map fun t => V.str (S t)) = (ss.map S).map V.str := by rw [List.map_map]; rfl
    rw [e] at rv
    have hlen : its.length = ss.length := by have := rv.length; rw [List.length_map, List.length_map] at this; exact this.symm
    refine call_setG_list ((ss.map S).map Sum.inr) hh (by rw [List.length_map, List.length_map]; exact Nat.lt_of_le_of_lt (Nat.succ_le_of_lt h64.1) (by decide)) pl.isList (by rw [List.length_map, List.length_map, List.size_toArray, hlen]) (fun i v hv => strs_keys rv i v (by simpa using hv)) fun h' tk hS hk => ?_
    have I1 : Inv X pins σ H { s with heap := h', toks := tk } := I.kept hk
    refine sorted_setS hS hh (once_lt h64.2) fun s' p out c ys k g o hp hg hi ha hm hl => ?_
    have ey : (ys.map fun x => x.cps.toList).map (fun t => V.str (S t)) = ys.map V.str := by
      rw [List.map_map]
      exact List.map_congr_left fun y _ => congrArg V.str (SX.S_tl y)
    refine ⟨.ref p, _, inv_made (vs := its) I1 k g o hp hg (xs := ys.map V.str) (vals_strs hi) (by rw [List.length_map, sizeLine_eq]; omega), rfl, ?_⟩
    rw [← ey]
    refine q _ p ha (fun t => ?_) (I1.hok.fresh hp)
    rw [List.mem_map]
    constructor
    · rintro ⟨y, hy, rfl⟩
      obtain ⟨t, ht, e⟩ := List.mem_map.mp ((hm y).mp hy)
      rw [← e]
      show (S t).cps.toList ∈ ss
      rw [show (S t).cps.toList = t from rfl]
      exact ht
    · intro ht
      exact ⟨S t, (hm _).mpr (List.mem_map_of_mem ht), rfl⟩
  · obtain ⟨tk0, rfl⟩ := r
    have hs : (S t).cps.size = t.length := List.size_toArray ..
    refine call_setG_str (t.map fun c => Sum.inr (S [c])) hh (by rw [List.length_map]; exact scan64 h64) (by rw [List.length_map, hs]) (fun i v hv => ?_) fun h' tk hS hk => ?_
    · obtain ⟨c, u, e1, rfl⟩ := hv
      refine ⟨.inr (S [c]), ?_, keyIs_str _ _⟩
      have e2 : t[i]? = some c := by
        have : t.toArray[i]? = some c := e1
        simpa using this
      rw [List.getElem?_map, e2]
      rfl
    have I1 : Inv X pins σ H { s with heap := h', toks := tk } := I.kept hk
    have hS2 : SetG X.w h' s.heap.objs.size (once ((t.map fun c => S [c]).map Sum.inr)) := by
      rw [List.map_map]
      exact hS
    refine sorted_setS hS2 hh (Nat.lt_of_le_of_lt (once_len _) (by rw [List.length_map, List.length_map]; exact h64)) fun s' p out c ys k g o hp hg hi ha hm hl => ?_
    -- the members are signs
    have hsg : ∀ y ∈ ys, ∃ c ∈ t, y = S [c] := fun y hy => by
      obtain ⟨c, hc', e⟩ := List.mem_map.mp ((hm y).mp hy)
      exact ⟨c, hc', e.symm⟩
    have ey : (ys.map fun x => x.cps.toList.getD 0 0).map (fun c => V.str (S [c])) = ys.map V.str := by
      rw [List.map_map]
      refine List.map_congr_left fun y hy => ?_
      obtain ⟨c, _, rfl⟩ := hsg y hy
      rfl
    refine ⟨.ref p, _, inv_made (vs := []) I1 k g o hp hg (xs := ys.map V.str) (vals_strs hi) (by rw [List.length_map, sizeLine_eq]; omega), rfl, ?_⟩
    rw [← ey]
    refine q _ p ?_ (fun c => ?_) (I1.hok.fresh hp)
    · refine List.pairwise_map.mpr ((List.pairwise_map.mp ha).imp_of_mem fun {a b} h1 h2 r => ?_)
      obtain ⟨c1, _, rfl⟩ := hsg a h1
      obtain ⟨c2, _, rfl⟩ := hsg b h2
      have r : ([c1] : List Nat) < [c2] := r
      show c1 < c2
      cases r with
      | rel z => exact z
      | cons z => cases z
    · rw [List.mem_map]
      constructor
      · rintro ⟨y, hy, rfl⟩
        obtain ⟨c, hc', rfl⟩ := hsg y hy
        exact hc'
      · intro hc'
        exact ⟨S [c], (hm _).mpr (List.mem_map_of_mem hc'), rfl⟩
theorem pe_sortedSet {a : Expr} {ta : TE} {p p2 q pos : Pos} (hc : X.calm = true) (hg : Gl X "sorted") (hm : X.mg "sorted" = none) (hg2 : Gl X "set") (hm2 : X.mg "set" = none) (ha : PE X a ta)
    (na : starEach [a] X.env = (false, eval a X.env) :: starEach [] X.env := by rfl) : PE X (.Call (.Name "sorted" p) [.Call (.Name "set" p2) [a] [] q] [] pos) (tSS X.K ta) := by
  refine ⟨fun pins s σ H Q I h => ?_⟩
  refine Call_ (ld_blt I hg hm boot_sorted ?_)
  refine PyProof.Rows.callWith_builtin1 (PyProof.Rows.args_cons ?_ rfl) rfl rfl
  refine Call_ (ld_blt I hg2 hm2 boot_set ?_)
  refine PyProof.Rows.callWith_type1 (PyProof.Rows.args_cons (thn (ha.run pins s σ H _ I h) fun v s1 ⟨x, H1, I1, r1, q1⟩ => PyProof.Rows.args_nil ?_) na) na rfl
  exact thn (ss_ok (E := X.xe) I1 hc r1 q1) fun u s2 h2 => PyProof.Rows.args_nil h2
/-- sorted(a text) -/
def rSt : List V → Hp → VK → Prop := fun vs H Q => ∃ t : List Nat, vs = [.str (S t)] ∧ t.length < 64 ∧ ∀ (ys : List Nat) p, ys.Perm t → ys.Pairwise (· ≤ ·) → H p = none → Q (.ref p) (upd H p (.lst (ys.map fun c => V.str (S [c]))))
theorem cr_sortedStr (hc : X.calm = true) : CallR X (.builtin "sorted") rSt := by
  intro pins s σ H vs us Q I r h
  obtain ⟨t, rfl, h64, q⟩ := h
  obtain ⟨u, rfl, tk0, rfl⟩ := vals1 r
  have hs : (S t).cps.size = t.length := List.size_toArray ..
  refine sorted_strOf (I.ok.hd hc) (by rw [hs]; exact h64) fun h1 h' tk out c ys k1 k2 hg hi hp hso => ?_
  have hsg : ∀ y ∈ ys, ∃ c ∈ t, y = S [c] := fun y hy => by
    obtain ⟨c, hc', e⟩ := List.mem_map.mp (hp.mem_iff.mp hy)
    exact ⟨c, hc', e.symm⟩
  have ey : (ys.map fun x => x.cps.toList.getD 0 0).map (fun c => V.str (S [c])) = ys.map V.str := by
    rw [List.map_map]
    refine List.map_congr_left fun y hy => ?_
    obtain ⟨c, _, rfl⟩ := hsg y hy
    rfl
  have hl : (ys.map V.str).length ≤ sizeLine := by
    rw [List.length_map, hp.length_eq, List.length_map, sizeLine_eq]
    show t.length ≤ _
    omega
  have I1 : Inv X pins σ H { s with heap := h1, toks := tk } := I.kept k1
  have I2 : Inv X pins σ (upd H h1.objs.size (.lst (ys.map V.str))) { s with heap := h', toks := tk } := I1.laid (t' := tk) k2 (Nat.le_refl _) ⟨hl, out.toList, c, vals_strs hi, hg⟩
  refine ⟨.ref h1.objs.size, _, I2, rfl, ?_⟩
  rw [← ey]
  refine q _ _ ?_ ?_ (I1.hok.fresh (Nat.le_refl _))
  · have e := hp.map fun x => x.cps.toList.getD 0 0
    rw [List.map_map] at e
    have e2 : ((S t).cps.toList.map ((fun x : Str => x.cps.toList.getD 0 0) ∘ fun c => (⟨#[c]⟩ : Str))) = t := (List.map_congr_left fun _ _ => rfl).trans (List.map_id t)
    rw [e2] at e
    exact e
  · refine List.pairwise_map.mpr ((sorted_pw hso).imp_of_mem fun {a b} h1 h2 r => ?_)
    obtain ⟨c1, _, rfl⟩ := hsg a h1
    obtain ⟨c2, _, rfl⟩ := hsg b h2
    exact Nat.le_of_not_lt fun z => r (List.Lex.rel z)
end
end K31

set_option linter.all false
set_option maxHeartbeats 1000000
/-! The mirror of the program over masks: plain Lean. -/
namespace K31
/-- closed under meets, the whole among them -/
structure Cl (n : Nat) (F : List Nat) : Prop where
  whole : 2 ^ n - 1 ∈ F
  meet : ∀ a ∈ F, ∀ b ∈ F, a &&& b ∈ F
/-- rounds_of: one thing of one lot; one lot; all -/
def tblIn (m : Nat) (t : List Nat) (k : Nat) : List Nat := if m / 2 ^ k % 2 = 0 then t.set m (t.getD m 0 &&& t.getD (m ||| 2 ^ k) 0) else t
def tblStep (n : Nat) (F : List Nat) (t : List Nat) (m : Nat) : List Nat := if decide (m ∈ F) = true then t.set m m else (List.range n).foldl (tblIn m) t
def tblIx (n : Nat) : List Nat := (List.range (2 ^ n)).map fun i => 2 ^ n - 1 - i
def tbl (n : Nat) (F : List Nat) : List Nat := (tblIx n).foldl (tblStep n F) (List.replicate (2 ^ n) (2 ^ n - 1))
theorem foldl_take {α β : Type} {f : β → α → β} {a : β} {l : List α} {i : Nat} {x : α} (h : l[i]? = some x) : (l.take (i + 1)).foldl f a = f ((l.take i).foldl f a) x := by
  rw [List.take_add_one, h, List.foldl_append]
  rfl
theorem foldl_len {α : Type} {f : List Nat → α → List Nat} (hf : ∀ t x, (f t x).length = t.length) (l : List α) : ∀ t, (l.foldl f t).length = t.length := by
  induction l with
  | nil => intro t; rfl
  | cons x l ih => intro t; rw [List.foldl_cons, ih, hf]
theorem tblIn_len (m : Nat) (t : List Nat) (k : Nat) : (tblIn m t k).length = t.length := by
  unfold tblIn
  split
  · exact List.length_set ..
  · rfl
theorem tblStep_len (n : Nat) (F t : List Nat) (m : Nat) : (tblStep n F t m).length = t.length := by
  unfold tblStep
  split
  · exact List.length_set ..
  · exact foldl_len (tblIn_len m) _ _
theorem tbl_len (n : Nat) (F : List Nat) : (tbl n F).length = 2 ^ n := by
  unfold tbl
  rw [foldl_len (tblStep_len n F), List.length_replicate]
theorem foldl_all {α β : Type} {f : β → α → β} {p : β → Prop} {l : List α} (hf : ∀ t, ∀ x ∈ l, p t → p (f t x)) : ∀ t, p t → p (l.foldl f t) := by
  induction l with
  | nil => intro t h; exact h
  | cons x l ih => intro t h; exact ih (fun t y hy => hf t y (List.mem_cons_of_mem _ hy)) _ (hf t x List.mem_cons_self h)
/-- all values of the table are masks -/
theorem getD_lt {t : List Nat} {b : Nat} (h : ∀ x ∈ t, x < b) (h0 : 0 < b) (i : Nat) : t.getD i 0 < b := by
  rw [List.getD_eq_getElem?_getD]
  cases e : t[i]? with
  | none => exact h0
  | some x => exact h x (List.mem_of_getElem? e)
theorem set_lt {t : List Nat} {b : Nat} (h : ∀ x ∈ t, x < b) {v : Nat} (hv : v < b) (i : Nat) : ∀ x ∈ t.set i v, x < b := fun x hx => by
  rcases List.mem_or_eq_of_mem_set hx with q | q
  · exact h x q
  · exact q ▸ hv
theorem tbl_lt {n : Nat} {F : List Nat} (hF : ∀ m ∈ F, m < 2 ^ n) : ∀ x ∈ tbl n F, x < 2 ^ n := by
  have h0 : 0 < 2 ^ n := Nat.pow_pos (by decide)
  refine foldl_all (p := fun t => ∀ x ∈ t, x < 2 ^ n) (fun t m _ ht => ?_) _ (fun x hx => by have := List.eq_of_mem_replicate hx; omega)
  unfold tblStep
  split
  · rename_i h
    exact set_lt ht (hF m (of_decide_eq_true h)) m
  · refine foldl_all (p := fun t => ∀ x ∈ t, x < 2 ^ n) (fun t k _ ht => ?_) _ ht
    unfold tblIn
    split
    · exact set_lt ht (and_lt (getD_lt ht h0 m)) m
    · exact ht
/-- closed_masks -/
def clM (n : Nat) (F : List Nat) : List Nat := (List.range (2 ^ n)).filter fun m => decide ((tbl n F).getD m 0 = m)
/-- covers_of, for one lot: what is right below it -/
def undM (n : Nat) (F : List Nat) (m : Nat) : List Nat := (clM n F).filter fun e => !decide (e = m) && inc e m
def covM (n : Nat) (F : List Nat) (m : Nat) : List Nat := (undM n F m).filter fun e => !(undM n F m).any fun o => !decide (e = o) && inc e o
def rootM (n : Nat) (F : List Nat) : List Nat := (clM n F).filter fun m => decide ((covM n F m).length = 1)
theorem filter_len {α : Type} (p : α → Bool) (l : List α) : (l.filter p).length ≤ l.length := List.length_filter_le p l
theorem clM_len (n : Nat) (F : List Nat) : (clM n F).length ≤ 2 ^ n := by
  have h := filter_len (fun m => decide ((tbl n F).getD m 0 = m)) (List.range (2 ^ n))
  rw [List.length_range] at h
  exact h
theorem clM_lt {n : Nat} {F : List Nat} {m : Nat} (h : m ∈ clM n F) : m < 2 ^ n := List.mem_range.mp (List.mem_filter.mp h).1
theorem clM_nodup (n : Nat) (F : List Nat) : (clM n F).Nodup := List.Nodup.sublist List.filter_sublist List.nodup_range
theorem undM_len (n : Nat) (F : List Nat) (m : Nat) : (undM n F m).length ≤ 2 ^ n := Nat.le_trans (filter_len _ _) (clM_len n F)
theorem covM_len (n : Nat) (F : List Nat) (m : Nat) : (covM n F m).length ≤ 2 ^ n := Nat.le_trans (filter_len _ _) (undM_len n F m)
theorem rootM_len (n : Nat) (F : List Nat) : (rootM n F).length ≤ 2 ^ n := Nat.le_trans (filter_len _ _) (clM_len n F)
theorem rootM_lt {n : Nat} {F : List Nat} {m : Nat} (h : m ∈ rootM n F) : m < 2 ^ n := clM_lt (List.mem_filter.mp h).1
/-- count_down -/
def takM (some : List Nat) (num : Nat) : List Nat := ((List.range some.length).filter fun k => decide (num / 2 ^ k % 2 = 1)).map fun k => some.getD k 0
def dnOk (some t : List Nat) : Bool := t.all fun one => some.all fun e => !inc e one || decide (e ∈ t)
def cdM (some : List Nat) : Nat := ((List.range (2 ^ some.length)).filter fun num => dnOk some (takM some num)).length
end K31

set_option Elab.async false
set_option linter.all false
set_option maxRecDepth 100000
set_option maxHeartbeats 4000000
namespace K31
open PySem PySem.Spec PyProof.Rows L2 Evl
/-! words over Evl for sorts, tuples -/
/-- some numbers sorted, each once -/
def asc (n : Nat) (M : List Nat) : List Nat := (List.range (2 ^ n)).filter fun m => decide (m ∈ M)
theorem mem_asc {n : Nat} {M : List Nat} {m : Nat} : m ∈ asc n M ↔ m < 2 ^ n ∧ m ∈ M := by
  unfold asc
  rw [List.mem_filter, List.mem_range, decide_eq_true_eq]
theorem asc_asc (n : Nat) (M : List Nat) : (asc n M).Pairwise (· < ·) := List.Pairwise.sublist List.filter_sublist List.pairwise_lt_range
theorem ints_asc {M : List Nat} {n : Nat} (hM : ∀ m ∈ M, m < 2 ^ n) {ys : List Int} (ha : ys.Pairwise (· < ·)) (hm : ∀ k, k ∈ ys ↔ k ∈ M.map fun m : Nat => (m : Int)) : ys = (asc n M).map fun m : Nat => (m : Int) := by
  have hc : ys = (ys.map Int.toNat).map fun m : Nat => (m : Int) := by
    rw [List.map_map]
    refine (List.map_id ys).symm.trans (List.map_congr_left fun y hy => ?_)
    obtain ⟨m, _, rfl⟩ := List.mem_map.mp ((hm y).mp hy)
    rfl
  have he : ys.map Int.toNat = asc n M := by
    refine asc_ext ?_ (asc_asc n M) fun m => ?_
    · refine List.pairwise_map.mpr (ha.imp_of_mem fun {a b} h1 h2 r => ?_)
      obtain ⟨x, _, rfl⟩ := List.mem_map.mp ((hm a).mp h1)
      obtain ⟨y, _, rfl⟩ := List.mem_map.mp ((hm b).mp h2)
      show x < y
      omega
    · rw [mem_asc, List.mem_map]
      constructor
      · rintro ⟨y, hy, rfl⟩
        obtain ⟨x, hx, rfl⟩ := List.mem_map.mp ((hm y).mp hy)
        exact ⟨hM x hx, hx⟩
      · rintro ⟨_, hx⟩
        exact ⟨(m : Int), (hm _).mpr (List.mem_map_of_mem hx), rfl⟩
  rw [hc, he]
section
variable {K : PySem.W.Frag} {σ : L2.St} {H H' : Hp} {ta tb te tx : TE} {v : V} {T : List Nat} {M : List Nat} {n : Nat}
theorem nv_eq (M : List Nat) : M.map nv = (M.map fun m : Nat => (m : Int)).map V.int := by rw [List.map_map]; rfl
theorem rss_N {l : Addr} {Q : VK} (hM : ∀ m ∈ M, m < 2 ^ n) (h64 : M.length < 64) (hl : SqL K H l (M.map nv)) (q : ∀ p, H p = none → Q (.ref p) (upd H p (.lst ((asc n M).map nv)))) : rSS K (.ref l) H Q :=
  .inl ⟨l, M.map fun m : Nat => (m : Int), rfl, nv_eq M ▸ hl, by rw [List.length_map]; exact h64, fun ys p ha hm hp => by
    rw [ints_asc hM ha hm, ← nv_eq]
    exact q p hp⟩
theorem el_ssN (hM : ∀ m ∈ M, m < 2 ^ n) (h64 : M.length < 64) (h : EvL te σ H (M.map nv)) : EvL (tSS K te) σ H ((asc n M).map nv) := fun H1 e Q q =>
  h H1 e _ fun l H2 _ e2 h2 => rss_N hM h64 (sq_of h2) fun p hp => q p _ (fresh_back e2 hp) (e2.trans (Ex.new hp)) upd_same
theorem el_ssV {l : Addr} (hM : ∀ m ∈ M, m < 2 ^ n) (h64 : M.length < 64) (h : Ev te σ H (.ref l)) (hl : SqL K H l (M.map nv)) : EvL (tSS K te) σ H ((asc n M).map nv) := fun H1 e Q q =>
  h H1 e _ fun H2 e2 => rss_N hM h64 (ex_l (e.trans e2) hl) fun p hp => q p _ (fresh_back e2 hp) (e2.trans (Ex.new hp)) upd_same
theorem sv_eq (T M : List Nat) : M.map (sv T) = (M.map (lot T)).map fun t => V.str (S t) := by rw [List.map_map]; rfl
theorem lots_lt (hM : ∀ m ∈ M, m < 2 ^ T.length) (h4 : T.length ≤ 4) {ls : List (List Nat)} (nd : ls.Nodup) (hs : ∀ x ∈ ls, x ∈ M.map (lot T)) : ls.length < 64 := by
  have h16 : 2 ^ T.length ≤ 16 := Nat.pow_le_pow_right (n := 2) (by decide) h4
  have h := List.Nodup.length_le_of_subset nd (l₂ := (List.range (2 ^ T.length)).map (lot T)) fun x hx => by
    obtain ⟨m, hm, rfl⟩ := List.mem_map.mp (hs x hx)
    exact List.mem_map_of_mem (List.mem_range.mpr (hM m hm))
  rw [List.length_map, List.length_range] at h
  omega
theorem rss_S {l : Addr} {Q : VK} (hT : T.Pairwise (· < ·)) (hM : ∀ m ∈ M, m < 2 ^ T.length) (h64 : M.length < 1000) (h4 : T.length ≤ 4) (hl : SqL K H l (M.map (sv T))) (q : ∀ p, H p = none → Q (.ref p) (upd H p (.lst ((srt T.length M).map (sv T))))) : rSS K (.ref l) H Q :=
  .inr (.inl ⟨l, M.map (lot T), rfl, sv_eq T M ▸ hl, ⟨by rw [List.length_map]; exact h64, fun ls hnd hls => lots_lt hM h4 hnd hls⟩, fun ys p ha hm hp => by
    rw [srt_of hT hM ha (fun y => by rw [hm y, List.mem_map]), ← sv_eq]
    exact q p hp⟩)
theorem el_ssS {l : Addr} (hT : T.Pairwise (· < ·)) (hM : ∀ m ∈ M, m < 2 ^ T.length) (h64 : M.length < 1000) (h4 : T.length ≤ 4) (h : Ev te σ H (.ref l)) (hl : SqL K H l (M.map (sv T))) : EvL (tSS K te) σ H ((srt T.length M).map (sv T)) := fun H1 e Q q =>
  h H1 e _ fun H2 e2 => rss_S hT hM h64 h4 (ex_l (e.trans e2) hl) fun p hp => q p _ (fresh_back e2 hp) (e2.trans (Ex.new hp)) upd_same
theorem el_ssT {t : List Nat} (ys : List Nat) (h64 : t.length < 64) (h : Ev te σ H (.str (S t))) (ha : ys.Pairwise (· < ·)) (hm : ∀ c, c ∈ ys ↔ c ∈ t) : EvL (tSS K te) σ H (ys.map fun c => V.str (S [c])) := fun H1 e Q q =>
  h H1 e _ fun H2 e2 => .inr (.inr ⟨t, rfl, h64, fun zs p hz hmz hp => by
    rw [asc_ext hz ha fun c => by rw [hmz, hm]]
    exact q p _ (fresh_back e2 hp) (e2.trans (Ex.new hp)) upd_same⟩)
/-- sorted of texts, no two alike -/
theorem sorted_lots {l : Addr} {Q : VK} (hT : T.Pairwise (· < ·)) (hM : ∀ m ∈ M, m < 2 ^ T.length) (nd : M.Nodup) (h64 : M.length < 64) (hl : SqL K H l (M.map (sv T))) (q : ∀ p, H p = none → Q (.ref p) (upd H p (.lst ((srt T.length M).map (sv T))))) : rSortedS K [.ref l] H Q := by
  refine ⟨l, M.map fun m => S (lot T m), rfl, by rw [List.map_map]; exact hl, by rw [List.length_map]; exact h64, fun ys p hp hs hn => ?_⟩
  have ndy : ys.Nodup := hp.nodup_iff.mpr (List.pairwise_map.mpr (nd.imp_of_mem fun {a b} ha hb r z => r (lot_inj' hT (hM a ha) (hM b hb) (SX.S_inj z))))
  have ey := srt_of hT hM (sorted_asc hs ndy) fun y => by
    rw [List.mem_map]
    constructor
    · rintro ⟨x, hx, rfl⟩
      obtain ⟨m, hm, e⟩ := List.mem_map.mp (hp.mem_iff.mp hx)
      exact ⟨m, hm, by rw [← e]⟩
    · rintro ⟨m, hm, rfl⟩
      exact ⟨S (lot T m), hp.mem_iff.mpr (List.mem_map_of_mem hm), rfl⟩
  have ez : ys.map V.str = (srt T.length M).map (sv T) := by
    rw [sv_eq, ← ey, List.map_map]
    exact List.map_congr_left fun y _ => congrArg V.str (SX.S_tl y).symm
  rw [ez]
  exact q p hn
theorem el_sortedS (hT : T.Pairwise (· < ·)) (hM : ∀ m ∈ M, m < 2 ^ T.length) (nd : M.Nodup) (h64 : M.length < 64) (h : EvL te σ H (M.map (sv T))) : EvL (tCB (rSortedS K) (tCons te tNil)) σ H ((srt T.length M).map (sv T)) := fun H1 e Q q =>
  h H1 e _ fun l H2 _ e2 h2 => sorted_lots hT hM nd h64 (sq_of h2) fun p hn => q p _ (fresh_back e2 hn) (e2.trans (Ex.new hn)) upd_same
abbrev rTupOf (K : PySem.W.Frag) : List V → Hp → VK → Prop := fun xs H Q => ∃ a ys, xs = [.ref a] ∧ ((SqL K H a ys ∧ ∀ l, H l = none → Q (.ref l) (upd H l (.tup ys))) ∨ (SqT K H a ys ∧ Q (.ref a) H))
theorem eu_tupOf {xs : List V} (h : EvL te σ H xs) : EvU (tCB (rTupOf K) (tCons te tNil)) σ H xs := fun H1 e Q q =>
  h H1 e _ fun l H2 _ e2 h2 => ⟨l, xs, rfl, .inl ⟨sq_of h2, fun p hp => q p _ (fresh_back e2 hp) (e2.trans (Ex.new hp)) upd_same⟩⟩
theorem eu_tupOfV {xs : List V} {l : Addr} (h : Ev te σ H (.ref l)) (hl : SqL K H l xs) : EvU (tCB (rTupOf K) (tCons te tNil)) σ H xs := fun H1 e Q q =>
  h H1 e _ fun H2 e2 => ⟨l, xs, rfl, .inl ⟨ex_l (e.trans e2) hl, fun p hp => q p _ (fresh_back e2 hp) (e2.trans (Ex.new hp)) upd_same⟩⟩
theorem el_cat {l : Addr} {xs zs : List V} (ha : Ev ta σ H (.ref l)) (hl : H l = some (.lst xs)) (hb : EvL tb σ H zs) (hz : xs.length + zs.length ≤ 100000) : EvL (tOp rCat ta tb) σ H (xs ++ zs) := fun H1 e Q q =>
  ha H1 e _ fun H2 e2 => hb H2 (e.trans e2) _ fun b H3 _ e3 h3 => ⟨l, b, xs, zs, rfl, rfl, ((e.trans e2).trans e3) l _ hl, h3, sz_of hz, fun p hp => q p _ (fresh_back (e2.trans e3) hp) ((e2.trans e3).trans (Ex.new hp)) upd_same⟩
theorem el_rep {xs : List V} {k : Nat} (ha : EvL ta σ H xs) (hb : Ev tb σ H (.int (k : Int))) (hz : xs.length * k ≤ 100000) (hk : k ≤ 100000) : EvL (tOp rRep ta tb) σ H (List.replicate k xs).flatten := fun H1 e Q q =>
  ha H1 e _ fun l H2 _ e2 h2 => hb H2 (e.trans e2) _ fun H3 e3 => ⟨l, k, xs, rfl, rfl, e3 l _ h2, by omega, by omega, by rw [Int.toNat_natCast]; exact sz_of hz, fun p hp => by
    rw [Int.toNat_natCast]
    exact q p _ (fresh_back (e2.trans e3) hp) ((e2.trans e3).trans (Ex.new hp)) upd_same⟩
theorem ev_fld {a C dx : Addr} {fs : List (Str × V)} {f : Str} (ha : Ev ta σ H (.ref a)) (c : Cls K C) (n : NoAttr K C f) (h : H a = some (.ins C dx fs)) (hl : fs.lookup f = some v) : Ev (tFld K ta f) σ H v := fun H1 e Q q =>
  ha H1 e _ fun H2 e2 => ⟨a, C, dx, fs, v, rfl, (e.trans e2) a _ h, c, n, hl, q H2 e2⟩
theorem inV_nv (m : Nat) (M : List Nat) : inV (nv m) (M.map nv) = decide (m ∈ M) := by
  unfold inV
  rw [List.any_map]
  have e : ((fun y => eqV y (nv m)) ∘ nv) = fun y : Nat => decide (y = m) := by
    funext y
    show ((y : Int) == (m : Int)) = decide (y = m)
    by_cases h : y = m
    · subst h; simp
    · rw [decide_eq_false h]; simp; omega
  rw [e]
  by_cases h : m ∈ M
  · rw [decide_eq_true h]; exact List.any_eq_true.mpr ⟨m, h, decide_eq_true rfl⟩
  · rw [decide_eq_false h]
    exact List.any_eq_false.mpr fun y hy => by simpa using fun z : y = m => h (z ▸ hy)
theorem inV_str (t : List Nat) (L : List (List Nat)) : inV (.str (S t)) (L.map fun l => V.str (S l)) = decide (t ∈ L) := by
  unfold inV
  rw [List.any_map]
  have e : ((fun y => eqV y (.str (S t))) ∘ fun l => V.str (S l)) = fun y : List Nat => decide (y = t) := by
    funext y
    show (S y == S t) = decide (y = t)
    exact SX.S_beq_eq
  rw [e]
  by_cases h : t ∈ L
  · rw [decide_eq_true h]; exact List.any_eq_true.mpr ⟨t, h, decide_eq_true rfl⟩
  · rw [decide_eq_false h]
    exact List.any_eq_false.mpr fun y hy => by simpa using fun z : y = t => h (z ▸ hy)
theorem inV_sv (hT : T.Pairwise (· < ·)) {m : Nat} (hm : m < 2 ^ T.length) (hM : ∀ x ∈ M, x < 2 ^ T.length) : inV (sv T m) (M.map (sv T)) = decide (m ∈ M) := by
  rw [sv_eq, inV_str]
  refine decide_eq_decide.mpr ⟨fun h => ?_, fun h => List.mem_map_of_mem h⟩
  obtain ⟨x, hx, e⟩ := List.mem_map.mp h
  exact lot_inj' hT (hM x hx) hm e ▸ hx
theorem flat_nv (M : List Nat) : (M.map nv).all flatV = true := by rw [List.all_map]; exact List.all_eq_true.mpr fun _ _ => rfl
theorem flat_sv (T M : List Nat) : (M.map (sv T)).all flatV = true := by rw [List.all_map]; exact List.all_eq_true.mpr fun _ _ => rfl
theorem rv_inN {l : Addr} {m : Nat} (h : SqL K H l (M.map nv)) : RV (rIn K false) (nv m) (.ref l) H (.bl (decide (m ∈ M))) := by
  rw [← inV_nv]; exact rv_isL h rfl (flat_nv M)
theorem rv_niN {l : Addr} {m : Nat} (h : SqL K H l (M.map nv)) : RV (rIn K true) (nv m) (.ref l) H (.bl (!decide (m ∈ M))) := by
  rw [← inV_nv]; exact rv_niL h rfl (flat_nv M)
theorem rv_niS {l : Addr} {m : Nat} (hT : T.Pairwise (· < ·)) (hm : m < 2 ^ T.length) (hM : ∀ x ∈ M, x < 2 ^ T.length) (h : SqL K H l (M.map (sv T))) : RV (rIn K true) (sv T m) (.ref l) H (.bl (!decide (m ∈ M))) := by
  rw [← inV_sv hT hm hM]; exact rv_niL h rfl (flat_sv T M)
/-- for over a range with a step -/
theorem s_forC {D : Ends} {tu : TS} {ta : TA} {j : Nat} {lo hi c : Int} {n : Nat} (h : EvA ta σ H [.int lo, .int hi, .int c]) (hr : RgC lo hi c n) (Pv : Nat → L2.St → Hp → Prop) (h0 : ∀ H1, Ex H H1 → Pv 0 σ H1)
    (hs : ∀ (i : Nat) σ' H', i < n → Pv i σ' H' → tu { D with nx := Pv (i + 1), ct := Pv (i + 1), bk := D.nx } (σ'.set j (some (.int (lo + (i : Int) * c)))) H') (hd : ∀ σ' H', Pv n σ' H' → D.nx σ' H') : tFor (iRng3 ta) (gName j) tu D σ H :=
  h H (Ex.refl H) _ fun H1 e => ⟨lo, hi, c, n, rfl, hr, for_rangeC (lo := lo) (c := c) (n := n) Pv (h0 H1 e) (fun i σ' H' hi p => hs i σ' H' hi p) hd⟩
theorem q_forC {D : Ends} {tu tz : TS} {ta : TA} {j : Nat} {lo hi c : Int} {n : Nat} (h : EvA ta σ H [.int lo, .int hi, .int c]) (hr : RgC lo hi c n) (Pv : Nat → L2.St → Hp → Prop) (h0 : ∀ H1, Ex H H1 → Pv 0 σ H1)
    (hs : ∀ (i : Nat) σ' H', i < n → Pv i σ' H' → tu { D with nx := Pv (i + 1), ct := Pv (i + 1), bk := tz D } (σ'.set j (some (.int (lo + (i : Int) * c)))) H') (hd : ∀ σ' H', Pv n σ' H' → tz D σ' H') : tSeq (tFor (iRng3 ta) (gName j) tu) tz D σ H :=
  s_forC (D := { D with nx := tz D }) h hr Pv h0 hs hd
/-- a pair of names from a written pair -/
theorem q_par {D : Ends} {tz : TS} {ta : TA} {i j : Nat} {x y : V} (h : EvA ta σ H [x, y]) (k : ∀ H1, Ex H H1 → tz D ((σ.set i (some x)).set j (some y)) H1) : tSeq (tPar i j ta) tz D σ H := h H (Ex.refl H) _ fun H1 e => ⟨x, y, rfl, k H1 e⟩
theorem nv_set (t : List Nat) (i v : Nat) : (t.map nv).set i (nv v) = (t.set i v).map nv := by rw [List.map_set]
theorem nv_getD {t : List Nat} {i : Nat} (h : i < t.length) : (t.map nv)[i]? = some (nv (t.getD i 0)) := map_at h
end
/-! ### a dict locked from the moment it is walked (it is never written again) -/
def tFrz (t : TE) : TE := fun σ H Q => t σ H fun v H1 => ∃ d u, v = .ref d ∧ H1 d = some u ∧ Mut (some u) ∧ ∀ o, Q v (upd H1 d (.frz o u))
theorem pe_frz {X : Cx} {e : Expr} {t : TE} (he : PE X e t) : PE X e (tFrz t) := by
  refine ⟨fun pins s σ H Q I h => ?_⟩
  refine thn (he.run pins s σ H _ I h) fun v s1 ⟨x, H1, I1, r, d, u, ex, hd, mu, q⟩ => ?_
  obtain ⟨od, I2⟩ := I1.lock hd mu
  exact ⟨x, _, I2, r, q od⟩
theorem for_items {d : Addr} {o : Obj} {kvs : List (Key × V)} {g : TG} {tb : TS} {D : Ends} {σ : L2.St} {H : Hp} (Pv : Nat → L2.St → Hp → Prop) (h0 : Pv 0 σ H) (hl : ∀ i σ H, i ≤ kvs.length → Pv i σ H → H d = some (.frz o (.dK kvs)))
    (hs : ∀ i k v T σ H, kvs[i]? = some (k, v) → Pv i σ H → H T = none → g (.ref T) σ (upd H T (.tup [kV k, v])) fun σ2 H2 => tb { D with nx := Pv (i + 1), ct := Pv (i + 1), bk := D.nx } σ2 H2) (hd : ∀ σ H, Pv kvs.length σ H → D.nx σ H) :
    ∃ W : Nat → Nat → L2.St → Hp → Prop, (∃ m, W 0 m σ H) ∧ ∀ i m σ H, W i m σ H →
      ((Iti d o kvs).stop i H ∧ D.nx σ H) ∨ ((Iti d o kvs).go i H ∧ ∃ N : L2.St → Hp → Prop, (∀ σ' H', N σ' H' → ∃ m', m' < m ∧ W (i + 1) m' σ' H') ∧ ∀ x H', (Iti d o kvs).yld i H x H' → g x σ H' fun σ2 H2 => tb { D with nx := N, ct := N, bk := D.nx } σ2 H2) := by
  refine ⟨fun i m σ H => m = kvs.length - i ∧ i ≤ kvs.length ∧ Pv i σ H, ⟨kvs.length, by simp, Nat.zero_le _, h0⟩, ?_⟩
  rintro i m σ H ⟨rfl, hi, p⟩
  have q := hl i σ H hi p
  by_cases hlt : i < kvs.length
  · refine .inr ⟨⟨q, hlt⟩, Pv (i + 1), fun σ' H' p' => ⟨kvs.length - (i + 1), by omega, rfl, hlt, p'⟩, fun x H' y => ?_⟩
    obtain ⟨T, k, v, hk, rfl, hT, rfl⟩ := y
    exact hs i k v T σ H hk p hT
  · have e : i = kvs.length := by omega
    subst e
    exact .inl ⟨⟨q, Nat.le_refl _⟩, hd σ H p⟩
/-! ### a comprehension with two sources -/
section
variable {K : PySem.W.Frag} {σ : L2.St} {H H' : Hp} {te : TE} {α β : Type}
def Cg2 (H : Hp) (xs : List V) (D : Addr) (H' : Hp) : Prop := H D = none ∧ Ex H H' ∧ H' D = some (.lst xs)
theorem flat_len {ys : List α} {zs : List β} {p : α → β → Bool} {q : α → β → V} (hz : zs.length ≤ 200) : (ys.flatMap fun y => (zs.filter (p y)).map (q y)).length ≤ 200 * ys.length := by
  induction ys with
  | nil => exact Nat.le_refl _
  | cons y ys ih =>
    rw [List.flatMap_cons, List.length_append, List.length_map, List.length_cons]
    have := List.length_filter_le (p y) zs
    omega
theorem yes_go {σ : L2.St} {H : Hp} {A B : Hp → Prop} (h : A H) : tYes σ H fun b H3 => if b = true then A H3 else B H3 := iteT (A := A H) (B := B H) h
theorem el_LL {a b : Addr} {ys : List α} {zs : List β} {φ : α → V} {ψ : β → V} {tl tl1 : TE} {tt1 : TT} {j j1 : Nat} {vs vs1 : List Nat} (p : α → β → Bool) (q : α → β → V) (h : Ev tl σ H (.ref a)) (hx : SqL K H a (ys.map φ)) (hy : ys.length ≤ 200) (hz : zs.length ≤ 200)
    (hw : ∀ x, wipe ((wipe σ vs).set j (some x)) vs = wipe σ vs) (h1 : ∀ y ∈ ys, ∀ H1, Ex H H1 → Ev tl1 ((wipe σ vs).set j (some (φ y))) H1 (.ref b)) (hx1 : SqL K H b (zs.map ψ))
    (hw1 : ∀ x z, wipe ((wipe ((wipe σ vs).set j (some x)) vs1).set j1 (some z)) vs1 = wipe ((wipe σ vs).set j (some x)) vs1)
    (ht : ∀ y ∈ ys, ∀ z ∈ zs, ∀ H1, Ex H H1 → EvT tt1 ((wipe ((wipe σ vs).set j (some (φ y))) vs1).set j1 (some (ψ z))) H1 (p y z))
    (he : ∀ y ∈ ys, ∀ z ∈ zs, ∀ H1, Ex H H1 → p y z = true → Ev te ((wipe ((wipe σ vs).set j (some (φ y))) vs1).set j1 (some (ψ z))) H1 (q y z)) :
    EvL (tLc2 (iList K tl) (gName j) tYes (iList K tl1) (gName j1) tt1 te vs vs1) σ H (ys.flatMap fun y => (zs.filter (p y)).map (q y)) := by
  intro H0 e Q k
  refine h H0 e _ fun H1 e1 => ⟨a, rfl, ⟨_, ex_l (e.trans e1) hx⟩, fun D hD => ?_⟩
  have f01 := e.trans e1
  refine ⟨fun i m H' => m = ys.length - i ∧ i ≤ ys.length ∧ Cg2 H1 ((ys.take i).flatMap fun y => (zs.filter (p y)).map (q y)) D H', ⟨ys.length, rfl, Nat.zero_le _, hD, Ex.new hD, by rw [List.take_zero]; exact upd_same⟩, ?_⟩
  rintro i m H' ⟨rfl, hi, c1, c2, c3⟩
  have hxs : SqL K H' a (ys.map φ) := ex_l (f01.trans c2) hx
  by_cases hlt : i < ys.length
  · obtain ⟨y, hyi⟩ : ∃ y, ys[i]? = some y := ⟨_, List.getElem?_eq_getElem hlt⟩
    have hym : y ∈ ys := List.mem_of_getElem? hyi
    have hmi : (ys.map φ)[i]? = some (φ y) := by rw [List.getElem?_map, hyi]; rfl
    refine .inr ⟨⟨_, _, hxs, hmi⟩, Cg2 H1 ((ys.take (i + 1)).flatMap fun y => (zs.filter (p y)).map (q y)) D, fun H2 c => ⟨ys.length - (i + 1), by omega, rfl, hlt, c⟩, fun x H2 hyl => ?_⟩
    obtain ⟨rfl, hyl⟩ := hyl
    have ex : x = φ y := Option.some.inj ((hyl _ hxs).symm.trans hmi)
    subst ex
    refine ⟨hw _, ?_⟩
    refine yes_go ?_
    refine h1 y hym H2 (f01.trans c2) H2 (Ex.refl H2) _ fun H3 e3 => ⟨b, rfl, ⟨_, ex_l ((f01.trans c2).trans e3) hx1⟩, ?_⟩
    refine ⟨fun r n H4 => n = zs.length - r ∧ r ≤ zs.length ∧ Cg2 H1 (((ys.take i).flatMap fun y => (zs.filter (p y)).map (q y)) ++ ((zs.take r).filter (p y)).map (q y)) D H4,
      ⟨zs.length, rfl, Nat.zero_le _, c1, c2.trans e3, by rw [List.take_zero]; simp only [List.filter_nil, List.map_nil, List.append_nil]; exact e3 D _ c3⟩, ?_⟩
    rintro r n H4 ⟨rfl, hr, d1, d2, d3⟩
    have hzs : SqL K H4 b (zs.map ψ) := ex_l (f01.trans d2) hx1
    by_cases hlr : r < zs.length
    · obtain ⟨z, hzi⟩ : ∃ z, zs[r]? = some z := ⟨_, List.getElem?_eq_getElem hlr⟩
      have hzm : z ∈ zs := List.mem_of_getElem? hzi
      have hmz : (zs.map ψ)[r]? = some (ψ z) := by rw [List.getElem?_map, hzi]; rfl
      refine .inr ⟨⟨_, _, hzs, hmz⟩, Cg2 H1 (((ys.take i).flatMap fun y => (zs.filter (p y)).map (q y)) ++ ((zs.take (r + 1)).filter (p y)).map (q y)) D, fun H5 c => ⟨zs.length - (r + 1), by omega, rfl, hlr, c⟩, fun x H5 hyl => ?_⟩
      obtain ⟨rfl, hyl⟩ := hyl
      have ex : x = ψ z := Option.some.inj ((hyl _ hzs).symm.trans hmz)
      subst ex
      refine ⟨hw1 _ _, ?_⟩
      refine ht y hym z hzm H5 (f01.trans d2) H5 (Ex.refl H5) _ fun H6 e6 => ?_
      cases hp : p y z with
      | true =>
        show te _ H6 _
        refine he y hym z hzm H6 ((f01.trans d2).trans e6) hp H6 (Ex.refl H6) _ fun H7 e7 => ⟨_, e7 D _ (e6 D _ d3), sz_lt ?_, d1, ((d2.trans e6).trans e7).mut d1, ?_⟩
        · have g1 := flat_len (ys := ys.take i) (p := p) (q := q) hz
          have g2 := List.length_filter_le (p y) (zs.take r)
          rw [List.length_take] at g1 g2
          rw [List.length_append, List.length_map]
          omega
        · rw [upd_same, take_next hzi, List.filter_append, List.map_append, List.filter_cons, if_pos hp, List.append_assoc]
          rfl
      | false =>
        refine ⟨d1, d2.trans e6, ?_⟩
        rw [take_next hzi, List.filter_append, List.map_append, List.filter_cons, if_neg (by rw [hp]; decide), List.filter_nil, List.map_nil, List.append_nil]
        exact e6 D _ d3
    · have er : r = zs.length := by omega
      subst er
      refine .inl ⟨⟨_, hzs, by rw [List.length_map]; exact Nat.le_refl _⟩, d1, d2, ?_⟩
      rw [take_next hyi, List.flatMap_append, d3, List.take_length]
      simp only [List.flatMap_cons, List.flatMap_nil, List.append_nil]
  · have ei : i = ys.length := by omega
    subst ei
    rw [List.take_length] at c3
    exact .inl ⟨⟨_, hxs, by rw [List.length_map]; exact Nat.le_refl _⟩, k D H' (fresh_back e1 c1) (e1.trans c2) c3⟩
end
end K31

set_option Elab.async false
set_option linter.all false
set_option maxRecDepth 100000
set_option maxHeartbeats 4000000
namespace K31
open PySem PySem.Spec PyProof.Rows L2 Evl
open C8 (InsC call_isC pe_gc)
section
variable {P : Program} {w : World} {K : PySem.W.Frag} {mg : Str → Option Value} {base : Heap}
def spfamily_of (K : PySem.W.Frag) (C : Addr) : Sp := Pm (fun a : List Nat × List Nat × Addr => [.str (S a.1), .ref a.2.2]) (fun a H => Tg a.1 ∧ SqL K H a.2.2 (a.2.1.map nv) ∧ (∀ m ∈ a.2.1, m < 2 ^ a.1.length) ∧ a.2.1.length < 64)
  fun a H Q => RetU ((srt a.1.length a.2.1).map (sv a.1)) H Q
theorem srt_asc_eq (n : Nat) (M : List Nat) : srt n (asc n M) = srt n M := by
  refine List.filter_congr fun m hm => decide_eq_decide.mpr ?_
  rw [mem_asc]
  exact ⟨fun h => h.2, fun h => ⟨mem_lexO.mp hm, h⟩⟩
theorem pow16 {T : List Nat} (h : Tg T) : 2 ^ T.length ≤ 16 := Nat.pow_le_pow_right (by decide) h.len
theorem asc_nodup (n : Nat) (M : List Nat) : (asc n M).Nodup := (asc_asc n M).imp fun h => Nat.ne_of_lt h
theorem asc_len (n : Nat) (M : List Nat) : (asc n M).length ≤ 2 ^ n := by
  have h := List.length_filter_le (fun m => decide (m ∈ M)) (List.range (2 ^ n))
  rw [List.length_range] at h
  exact h
theorem okfamily_of (D : Defs K mg) : FnOk P w K mg base CX0 2 D.a_family_of D.d_family_of ["things", "masks"] (spfamily_of K D.C) := by
  have G_lot_of : FnOk P w K mg base CX0 1 D.a_lot_of D.d_lot_of ["things", "mask"] (splot_of K D.C) := oklot_of D
  refine D.F_family_of.ok scfamily_of (fun vs H Q E h => ?_) (fun cdv A outer s H vs Q E hr h => ?_)
  · obtain ⟨_, rfl, _⟩ := h; rfl
  · obtain ⟨⟨T, M, l⟩, rfl, ⟨hT, hl, hM, h64⟩, k⟩ := h
    have hT : Tg T := hT
    have hl : SqL K H l (M.map nv) := hl
    have hM : ∀ m ∈ M, m < 2 ^ T.length := hM
    have h64 : M.length < 64 := h64
    have h16 := pow16 hT
    have ha := asc_len T.length M
    refine ⟨_, 
          (pss_one (ps_ret (pe_callTy call_tuple_of (by rfl) D.n_tuple PyProof.Rows.boot_tuple (pa_cons (pe_callB cr_sortedS (by rfl) D.n_sorted PyProof.Rows.boot_sorted (pa_cons (pe_lc rfl scfamily_of.nd (pi_list (pe_sortedSet rfl rfl D.n_sorted rfl D.n_set (pv 1))) (blkOk_by (own := [("mask", 2)]) (by kernel_rfl)) (fun _ _ _ _ _ => (pg_name (i := 2) scfamily_of.nd rfl (Or.inl rfl))) (fun _ _ _ _ _ => pts_nil) (fun _ _ _ _ _ => (pe_call G_lot_of (hr.mono (by decide)) rfl D.g_lot_of D.F_lot_of.kp (b_lot_of D) .nil pass0 (pa_cons (pv 0) (pa_cons (pv 2) pa_nil))))) pa_nil)) pa_nil)))), ?_⟩
    refine s_retU (xs := (srt T.length M).map (sv T)) (eu_tupOf (el_is (el_sortedS (M := asc T.length M) hT.asc (fun m hm => (mem_asc.mp hm).1) (asc_nodup _ _) (by omega)
      (el_is (el_NL (ys := asc T.length M) (φ := nv) (fun _ => true) (sv T) (el_ssV hM h64 (ev_var rfl) hl) (by omega) (fun _ => rfl) (fun _ _ _ _ => et_yes) fun m hm H1 e1 _ =>
        ev_call (ea2 (ev_var rfl) (ev_var rfl)) (pmV (T, m) rfl fun _ _ => hT)) (by rw [filter_yes]))) (by rw [srt_asc_eq]))) k

def spmeets_of (K : PySem.W.Frag) (C : Addr) : Sp := Pm (fun a : List Nat × List Nat × Addr => [.str (S a.1), .ref a.2.2]) (fun a H => Tg a.1 ∧ SqL K H a.2.2 (a.2.1.map nv) ∧ (∀ m ∈ a.2.1, m < 2 ^ a.1.length) ∧ a.2.1.length ≤ 16 ∧ a.2.1.Nodup ∧ Cl a.1.length a.2.1)
  fun a H Q => ∀ (L : List Nat) p H2, L.length = a.2.1.length → H p = none → Ex H H2 → H2 p = some (.lst (L.map nv)) → Q (.ref p) H2
theorem nodup_sub_len {l r : List Nat} (h : l.Nodup) (hs : ∀ x ∈ l, x ∈ r) : l.length ≤ r.length := by
  induction l generalizing r with
  | nil => exact Nat.zero_le _
  | cons x l ih =>
    obtain ⟨h1, h2⟩ := List.nodup_cons.mp h
    have hx := hs x List.mem_cons_self
    have h3 := ih (r := r.erase x) h2 fun y hy => (List.mem_erase_of_ne (fun e : y = x => h1 (e ▸ hy))).mpr (hs y (List.mem_cons_of_mem _ hy))
    rw [List.length_erase_of_mem hx] at h3
    have : 0 < r.length := List.length_pos_of_mem hx
    rw [List.length_cons]
    omega
theorem okmeets_of (D : Defs K mg) : FnOk P w K mg base CX0 2 D.a_meets_of D.d_meets_of ["things", "masks"] (spmeets_of K D.C) := by
  have G_whole_of : FnOk P w K mg base CX0 1 D.a_whole_of D.d_whole_of ["things"] (spwhole_of K D.C) := okwhole_of D
  refine D.F_meets_of.ok scmeets_of (fun vs H Q E h => ?_) (fun cdv A outer s H vs Q E hr h => ?_)
  · obtain ⟨_, rfl, _⟩ := h; rfl
  · obtain ⟨⟨T, F, l⟩, rfl, ⟨hT, hl, hF, h16, hnd, hc⟩, k⟩ := h
    have hT : Tg T := hT
    have hl : SqL K H l (F.map nv) := hl
    have hF : ∀ m ∈ F, m < 2 ^ T.length := hF
    have h16 : F.length ≤ 16 := h16
    have hnd : F.Nodup := hnd
    have hc : Cl T.length F := hc
    have k : ∀ (L : List Nat) p H2, L.length = F.length → H p = none → Ex H H2 → H2 p = some (.lst (L.map nv)) → Q (.ref p) H2 := k
    refine ⟨_, 
          (pss_cons (ps_set (i := 2) scmeets_of.nd rfl (Or.inr rfl) (pe_lst (pa_cons (pe_call G_whole_of (hr.mono (by decide)) rfl D.g_whole_of D.F_whole_of.kp (b_whole_of D) .nil pass0 (pa_cons (pv 0) pa_nil)) pa_nil)))
          (pss_cons (ps_for PassesOwn.never rfl (pi_list (pv 1)) (pg_name (i := 3) scmeets_of.nd rfl (Or.inr rfl))
            (pss_cons (ps_set (i := 4) scmeets_of.nd rfl (Or.inl rfl) (pe_sortedSet rfl rfl D.n_sorted rfl D.n_set (pe_lc rfl scmeets_of.nd (pi_list (pv 2)) (blkOk_by (own := [("each", 5)]) (by kernel_rfl)) (fun _ _ _ _ _ => (pg_name (i := 5) scmeets_of.nd rfl (Or.inl rfl))) (fun _ _ _ _ _ => pts_nil) (fun _ _ _ _ _ => (pe_op op_and (pv 3) (pv 5))))))
            (pss_one (ps_set (i := 2) scmeets_of.nd rfl (Or.inr rfl) (pe_op op_cat (pv 2) (pe_lc rfl scmeets_of.nd (pi_list (pv 4)) (blkOk_by (own := [("each", 5)]) (by kernel_rfl)) (fun _ _ _ _ _ => (pg_name (i := 5) scmeets_of.nd rfl (Or.inl rfl))) (fun _ _ _ _ _ => (pts_one (pt_cmpR (op_notIn_seq : OpR _ _ (rIn K true)) (pv 5) (pv 2) rfl))) (fun _ _ _ _ _ => (pv 5))))))))
          (pss_one (ps_ret (pv 2))))), ?_⟩
    refine q_asgL (xs := [2 ^ T.length - 1].map nv) (el_lst (ea1 (ev_call (ea1 (ev_var rfl)) (pmV T rfl fun _ _ => hT))) (by show 1 ≤ 100000; decide)) fun f H1 hf e1 h1 => ?_
    refine q_forLn (ev_var rfl) (ex_l e1 hl) (fun i σ H' => ∃ (L : List Nat) (g : Addr) (u v : Option V), σ = [some (.str (S T)), some (.ref l), some (.ref g), u, v, none] ∧ Ex H H' ∧ H g = none ∧ H' g = some (.lst (L.map nv)) ∧ L.Nodup ∧ (∀ x ∈ L, x ∈ F) ∧ 2 ^ T.length - 1 ∈ L ∧ ∀ x ∈ F.take i, x ∈ L)
      (fun H2 e2 => ⟨[2 ^ T.length - 1], f, none, none, rfl, e1.trans e2, hf, e2 f _ h1, List.nodup_cons.mpr ⟨by simp, List.nodup_nil⟩, fun x hx => by rw [List.mem_singleton.mp hx]; exact hc.whole, List.mem_singleton.mpr rfl, fun x hx => by rw [List.take_zero] at hx; cases hx⟩)
      (fun i σ H' _ ⟨_, _, _, _, _, e, _⟩ => ex_l e hl) (fun i x σ H' hx ⟨L, g, u, v, es, e2, hg, h2, nd, sub, wh, tk⟩ => ?_) (fun σ H' ⟨L, g, u, v, es, e2, hg, h2, nd, sub, wh, tk⟩ => ?_)
    · subst es
      rw [List.getElem?_map] at hx
      obtain ⟨m, hm, rfl⟩ := Option.map_eq_some_iff.mp hx
      have hmF : m ∈ F := List.mem_of_getElem? hm
      have hL := nodup_sub_len nd sub
      have hA : ∀ y ∈ L.map fun x => m &&& x, y ∈ F := fun y hy => by
        obtain ⟨x, hx, rfl⟩ := List.mem_map.mp hy
        exact hc.meet m hmF x (sub x hx)
      refine q_asgL (xs := (asc T.length (L.map fun x => m &&& x)).map nv) (el_ssN (fun y hy => hF y (hA y hy)) (by rw [List.length_map]; omega)
        (el_is (el_L (fun _ => true) (fun x => nv (m &&& x)) (ev_var rfl) (sq_of h2) (by omega) (fun _ => rfl) (fun _ _ _ _ => et_yes) fun x hx H3 e3 _ => ev_op (ev_var rfl) (ev_var rfl) rv_and) (by rw [filter_yes, List.map_map]; rfl))) fun mo H3 hmo e3 h3 => ?_
      have ha := asc_len T.length (L.map fun x => m &&& x)
      have h16 := pow16 hT
      have h2' := e3 g _ h2
      refine s_asgL (xs := (L ++ (asc T.length (L.map fun x => m &&& x)).filter fun x => !decide (x ∈ L)).map nv) (el_is (el_cat (xs := L.map nv) (ev_var rfl) h2' (zs := ((asc T.length (L.map fun x => m &&& x)).filter fun x => !decide (x ∈ L)).map nv)
        (el_L (fun x => !decide (x ∈ L)) nv (ev_var rfl) (sq_of h3) (by omega) (fun _ => rfl) (fun x hx H4 e4 => et_test (ev_op (ev_var rfl) (ev_var rfl) (rv_niN (ex_l e4 (sq_of h2'))))) fun x hx H4 e4 _ => ev_var rfl) ?_) (by rw [List.map_append])) fun g2 H4 hg2 e4 h4 => ?_
      · rw [List.length_map, List.length_map]
        have := List.length_filter_le (fun x => !decide (x ∈ L)) (asc T.length (L.map fun x => m &&& x))
        omega
      · refine ⟨_, g2, _, _, rfl, (e2.trans e3).trans e4, fresh_back (e2.trans e3) hg2, h4, ?_, ?_, List.mem_append_left _ wh, ?_⟩
        · refine List.nodup_append.mpr ⟨nd, (asc_nodup _ _).sublist List.filter_sublist, fun a ha b hb e => ?_⟩
          have q := (List.mem_filter.mp hb).2
          rw [e] at ha
          simp [ha] at q
        · intro x hx
          rcases List.mem_append.mp hx with q | q
          · exact sub x q
          · exact hA x (mem_asc.mp (List.mem_filter.mp q).1).2
        · intro x hx
          rw [take_next hm] at hx
          rcases List.mem_append.mp hx with q | q
          · exact List.mem_append_left _ (tk x q)
          · rw [List.mem_singleton.mp q]
            by_cases hin : m ∈ L
            · exact List.mem_append_left _ hin
            · refine List.mem_append_right _ (List.mem_filter.mpr ⟨mem_asc.mpr ⟨hF m hmF, List.mem_map.mpr ⟨2 ^ T.length - 1, wh, ?_⟩⟩, by simp [hin]⟩)
              rw [Nat.and_two_pow_sub_one_eq_mod]
              exact Nat.mod_eq_of_lt (hF m hmF)
    · subst es
      rw [List.length_map, List.take_length] at tk
      refine s_ret (v := .ref g) (ev_var rfl) fun H3 e3 => k L g H3 (Nat.le_antisymm (nodup_sub_len nd sub) (nodup_sub_len hnd tk)) hg (e2.trans e3) (e3 g _ h2)

theorem Fm.nodup {T F : List Nat} (h : Fm T F) : F.Nodup := (List.pairwise_map.mp h.asc).imp fun {a b} q (e : a = b) => by subst e; exact lot_lt_irrefl _ q
def spis_closed_family (K : PySem.W.Frag) (C : Addr) : Sp := Pm (fun a : List Nat × List Nat × Addr => [.str (S a.1), .ref a.2.2]) (fun a H => Tg a.1 ∧ Fm a.1 a.2.1 ∧ Cl a.1.length a.2.1 ∧ SqT K H a.2.2 (a.2.1.map (sv a.1))) fun _ H Q => RetV (.bl true) H Q
theorem okis_closed_family (D : Defs K mg) : FnOk P w K mg base CX0 3 D.a_is_closed_family D.d_is_closed_family ["things", "family"] (spis_closed_family K D.C) := by
  have G_masks_of : FnOk P w K mg base CX0 2 D.a_masks_of D.d_masks_of ["things", "family"] (spmasks_of K D.C) := okmasks_of D
  have G_meets_of : FnOk P w K mg base CX0 2 D.a_meets_of D.d_meets_of ["things", "masks"] (spmeets_of K D.C) := okmeets_of D
  refine D.F_is_closed_family.ok scis_closed_family (fun vs H Q E h => ?_) (fun cdv A outer s H vs Q E hr h => ?_)
  · obtain ⟨_, rfl, _⟩ := h; rfl
  · obtain ⟨⟨T, F, a⟩, rfl, ⟨hT, hF, hc, ha⟩, k⟩ := h
    have hT : Tg T := hT
    have hF : Fm T F := hF
    have hc : Cl T.length F := hc
    have ha : SqT K H a (F.map (sv T)) := ha
    have h16 := hF.len
    refine ⟨_, 
          (pss_cons (ps_set (i := 2) scis_closed_family.nd rfl (Or.inl rfl) (pe_call G_masks_of (hr.mono (by decide)) rfl D.g_masks_of D.F_masks_of.kp (b_masks_of D) .nil pass0 (pa_cons (pv 0) (pa_cons (pv 1) pa_nil))))
          (pss_one (ps_ret (pe_cmpR op_eq (pe_callB call_len_seq (by rfl) D.n_len PySem.boot_len (pa_cons (pe_call G_meets_of (hr.mono (by decide)) rfl D.g_meets_of D.F_meets_of.kp (b_meets_of D) .nil pass0 (pa_cons (pv 0) (pa_cons (pv 2) pa_nil))) pa_nil)) (pe_callB call_len_seq (by rfl) D.n_len PySem.boot_len (pa_cons (pv 2) pa_nil)) (nomark _))))), ?_⟩
    refine q_asgL (xs := F.map nv) (el_call (ea2 (ev_var rfl) (ev_var rfl)) (pmL (T, F, a) rfl fun H' e => ⟨hT, hF, ex_t e ha⟩)) fun m H1 hm e1 h1 => ?_
    refine s_ret (v := .bl true) (fun H2 e2 Q2 q2 => ⟨_, rfl, _, rfl, (T, F, m), rfl, ⟨hT, sq_of (e2 m _ h1), hF.lt, h16, hF.nodup, hc⟩, fun L p H3 hL hp e3 h3 =>
      ⟨p, L.map nv, rfl, .inl (sq_of h3), _, rfl, m, F.map nv, rfl, .inl (sq_of ((e2.trans e3) m _ h1)), rfl, ?_⟩⟩) fun H2 e2 => k H2 (e1.trans e2)
    rw [List.length_map, List.length_map, hL, decide_eq_true rfl]
    exact q2 H3 e3

def spcheck_closed (K : PySem.W.Frag) (C : Addr) : Sp := Pm (fun a : List Nat × List Nat × Addr => [.str (S a.1), .ref a.2.2]) (fun a H => Tg a.1 ∧ Fm a.1 a.2.1 ∧ Cl a.1.length a.2.1 ∧ H a.2.2 = some (.tup (a.2.1.map (sv a.1)))) fun _ H Q => RetV .non H Q
theorem okcheck_closed (D : Defs K mg) : FnOk P w K mg base CX0 5 D.a_check_closed D.d_check_closed ["things", "family"] (spcheck_closed K D.C) := by
  have G_wrong_in_family : FnOk P w K mg base CX0 4 D.a_wrong_in_family D.d_wrong_in_family ["things", "value"] (spwrong_in_family K D.C) := okwrong_in_family D
  have G_is_closed_family : FnOk P w K mg base CX0 3 D.a_is_closed_family D.d_is_closed_family ["things", "family"] (spis_closed_family K D.C) := okis_closed_family D
  refine D.F_check_closed.ok sccheck_closed (fun vs H Q E h => ?_) (fun cdv A outer s H vs Q E hr h => ?_)
  · obtain ⟨_, rfl, _⟩ := h; rfl
  · obtain ⟨⟨T, F, a⟩, rfl, ⟨hT, hF, hc, ha⟩, k⟩ := h
    have hT : Tg T := hT
    have hF : Fm T F := hF
    have hc : Cl T.length F := hc
    have ha : H a = some (.tup (F.map (sv T))) := ha
    refine ⟨_, 
          (pss_cons (ps_if (pt_not (pt_val (pe_callB call_isi (by rfl) D.n_isinstance PyProof.Rows.boot_isinstance (pa_cons (pv 1) (pa_cons (pe_bltn (v := .ty "tuple") rfl D.n_tuple PyProof.Rows.boot_tuple rfl) pa_nil)))))
            (pss_one (ps_never))
            (pss_nil))
          (pss_cons (ps_set (i := 2) sccheck_closed.nd rfl (Or.inl rfl) (pe_call G_wrong_in_family (hr.mono (by decide)) rfl D.g_wrong_in_family D.F_wrong_in_family.kp (b_wrong_in_family D) .nil pass0 (pa_cons (pv 0) (pa_cons (pv 1) pa_nil))))
          (pss_one (ps_if (PW.pt (pw_or (pt_cmpR op_notN (pv 2) pe_non (nomark _)) (pw_or1 (pt_not (pt_val (pe_call G_is_closed_family (hr.mono (by decide)) rfl D.g_is_closed_family D.F_is_closed_family.kp (b_is_closed_family D) .nil pass0 (pa_cons (pv 0) (pa_cons (pv 1) pa_nil))))))))
            (pss_one (ps_never))
            (pss_nil))))), ?_⟩
    refine q_when (b := false) (et_not (a := true) (et_B (ev_cb (ea2 (ev_var rfl) ev_c) (rc_isi (n := "tuple") (b := true) (fun H1 e1 => .base (.tup (e1 a _ ha))) (by decide +kernel))))) (fun e => nomatch e) fun _ H1 e1 => ?_
    refine q_asg (v := .non) (ev_call (ea2 (ev_var rfl) (ev_var rfl)) (pmV (T, F, a) rfl fun H' e => ⟨hT, hF, st_of ((e1.trans e) a _ ha)⟩)) fun H2 e2 => ?_
    exact s_when (b := false) (et_or (a := false) (b := false) (et_test (ev_op (ev_var rfl) ev_c rv_notN)) fun _ => et_not (a := true) (et_B (ev_call (ea2 (ev_var rfl) (ev_var rfl)) (pmV (T, F, a) rfl fun H' e => ⟨hT, hF, hc, st_of (((e1.trans e2).trans e) a _ ha)⟩))))
      (fun e => nomatch e) fun _ H3 e3 => k H3 ((e1.trans e2).trans e3)

def sprounds_of (K : PySem.W.Frag) (C : Addr) : Sp := Pm (fun a : List Nat × List Nat × Addr => [.str (S a.1), .ref a.2.2]) (fun a H => Tg a.1 ∧ SqL K H a.2.2 (a.2.1.map nv) ∧ (∀ m ∈ a.2.1, m < 2 ^ a.1.length) ∧ a.2.1.length ≤ 16)
  fun a H Q => RetU ((tbl a.1.length a.2.1).map nv) H Q
theorem bit_or_lt {m k n : Nat} (hm : m < 2 ^ n) (hk : k < n) : m ||| 2 ^ k < 2 ^ n := Nat.or_lt_two_pow hm (Nat.pow_lt_pow_right (by decide) hk)
theorem tblIx_at {n i : Nat} (h : i < 2 ^ n) : (tblIx n)[i]? = some (2 ^ n - 1 - i) := by
  unfold tblIx
  rw [List.getElem?_map, List.getElem?_range h]
  rfl
theorem rep_nv (n v : Nat) : (List.replicate n [nv v]).flatten = (List.replicate n v).map nv := by
  induction n with
  | zero => rfl
  | succ n ih => rw [List.replicate_succ, List.flatten_cons, ih, List.replicate_succ, List.map_cons]; rfl
theorem okrounds_of (D : Defs K mg) : FnOk P w K mg base CX0 2 D.a_rounds_of D.d_rounds_of ["things", "masks"] (sprounds_of K D.C) := by
  have G_whole_of : FnOk P w K mg base CX0 1 D.a_whole_of D.d_whole_of ["things"] (spwhole_of K D.C) := okwhole_of D
  refine D.F_rounds_of.ok scrounds_of (fun vs H Q E h => ?_) (fun cdv A outer s H vs Q E hr h => ?_)
  · obtain ⟨_, rfl, _⟩ := h; rfl
  · obtain ⟨⟨T, F, l⟩, rfl, ⟨hT, hl, hF, h16⟩, k⟩ := h
    have hT : Tg T := hT
    have hl : SqL K H l (F.map nv) := hl
    have hF : ∀ m ∈ F, m < 2 ^ T.length := hF
    have h16 : F.length ≤ 16 := h16
    have k : RetU ((tbl T.length F).map nv) H Q := k
    have hp := pow16 hT
    have hp0 : 0 < 2 ^ T.length := Nat.pow_pos (by decide)
    have h4 := hT.len
    refine ⟨_, 
          (pss_cons (ps_par rfl scrounds_of.nd (i := 2) (j := 3) rfl rfl (by decide) rfl rfl (pa_cons (pe_call G_whole_of (hr.mono (by decide)) rfl D.g_whole_of D.F_whole_of.kp (b_whole_of D) .nil pass0 (pa_cons (pv 0) pa_nil)) (pa_cons (pe_sortedSet rfl rfl D.n_sorted rfl D.n_set (pv 1)) pa_nil)) rfl)
          (pss_cons (ps_set (i := 4) scrounds_of.nd rfl (Or.inl rfl) (pe_op op_rep (pe_lst (pa_cons (pv 2) pa_nil)) (pe_op op_add (pv 2) pe_int)))
          (pss_cons (ps_for PassesOwn.never rfl (pi_range3 rfl D.n_range (pa_cons (pv 2) (pa_cons (pe_un un_neg pe_int) (pa_cons (pe_un un_neg pe_int) pa_nil)))) (pg_name (i := 5) scrounds_of.nd rfl (Or.inl rfl))
            (pss_one (ps_if (pt_cmpR op_in_seq (pv 5) (pv 3) rfl)
              (pss_one (ps_asg (pv 5) (pg_sub (pv 4) (pv 5) set_list)))
              (pss_one (ps_for PassesOwn.never rfl (pi_range1 rfl D.n_range (pa_cons (pe_callB call_len_str (by rfl) D.n_len PySem.boot_len (pa_cons (pv 0) pa_nil)) pa_nil)) (pg_name (i := 6) scrounds_of.nd rfl (Or.inl rfl))
                (pss_one (ps_if (pt_cmpR op_eq (pe_op op_and (pe_op op_shr (pv 5) (pv 6)) pe_int) pe_int (nomark _))
                  (pss_one (ps_asg (pe_op op_and (pe_ix ix_list (pv 4) (pv 5) (fun _ _ => rfl)) (pe_ix ix_list (pv 4) (pe_op op_or (pv 5) (pe_op op_shl pe_int (pv 6))) (fun _ _ => rfl))) (pg_sub (pv 4) (pv 5) set_list)))
                  (pss_nil))))))))
          (pss_one (ps_ret (pe_callTy call_tuple_of (by rfl) D.n_tuple PyProof.Rows.boot_tuple (pa_cons (pv 4) pa_nil))))))), ?_⟩
    refine (ev_call (z := nv (2 ^ T.length - 1)) (ea1 (ev_var rfl)) (pmV T rfl fun _ _ => hT)) H (Ex.refl H) _ fun H1 e1 => ?_
    refine el_ssV (M := F) (n := T.length) hF (by omega) (ev_var rfl) (ex_l e1 hl) H1 (Ex.refl H1) _ fun c H2 hc e2 h2 => ?_
    refine ⟨nv (2 ^ T.length - 1), .ref c, rfl, ?_⟩
    refine q_asgL (xs := (List.replicate (2 ^ T.length) (2 ^ T.length - 1)).map nv) (el_is (el_rep (xs := [nv (2 ^ T.length - 1)]) (k := 2 ^ T.length) (el_lst (ea1 (ev_var rfl)) (by show 1 ≤ 100000; decide))
      (ev_is (ev_op (ev_var rfl) ev_c rv_add1) (by rw [show 2 ^ T.length - 1 + 1 = 2 ^ T.length by omega])) (by show 1 * _ ≤ _; omega) (by omega)) (rep_nv _ _)) fun f H3 hf e3 h3 => ?_
    have hcM : ∀ m, m < 2 ^ T.length → (m ∈ asc T.length F ↔ m ∈ F) := fun m hm => by rw [mem_asc]; exact ⟨fun z => z.2, fun z => ⟨hm, z⟩⟩
    have hcf : H2 f = none := hf
    refine q_forC (n := 2 ^ T.length) (ea3 (ev_var rfl) (ev_un ev_c ru_neg) (ev_un ev_c ru_neg)) (by
        have h := RgC.neg (i := ((2 ^ T.length - 1 : Nat) : Int)) (j := -1) (by omega) (by omega) (by omega) (by omega)
        rw [show (((2 ^ T.length - 1 : Nat) : Int) - -1).toNat = 2 ^ T.length by omega] at h
        exact h)
      (fun i σ H' => ∃ u v, σ = [some (.str (S T)), some (.ref l), some (nv (2 ^ T.length - 1)), some (.ref c), some (.ref f), u, v] ∧ Ex H2 H' ∧ H' f = some (.lst (((tblIx T.length).take i).foldl (tblStep T.length F) (List.replicate (2 ^ T.length) (2 ^ T.length - 1)) |>.map nv)))
      (fun H4 e4 => ⟨none, none, rfl, e3.trans e4, e4 f _ h3⟩) (fun i σ H' hi ⟨u, v, es, e4, h4'⟩ => ?_) (fun σ H' ⟨u, v, es, e4, h4'⟩ => ?_)
    · subst es
      have hix := tblIx_at hi
      have hlen : (((tblIx T.length).take i).foldl (tblStep T.length F) (List.replicate (2 ^ T.length) (2 ^ T.length - 1))).length = 2 ^ T.length := by
        rw [foldl_len (tblStep_len T.length F), List.length_replicate]
      have hst := foldl_take (f := tblStep T.length F) (a := List.replicate (2 ^ T.length) (2 ^ T.length - 1)) hix
      generalize ht : ((tblIx T.length).take i).foldl (tblStep T.length F) (List.replicate (2 ^ T.length) (2 ^ T.length - 1)) = t at h4' hlen hst
      have hm : ((2 ^ T.length - 1 : Nat) : Int) + (i : Int) * -1 = ((2 ^ T.length - 1 - i : Nat) : Int) := by omega
      have hmlt : 2 ^ T.length - 1 - i < 2 ^ T.length := by omega
      generalize hmm : 2 ^ T.length - 1 - i = m at hm hmlt hst
      rw [hm]
      refine s_if (b := decide (m ∈ asc T.length F)) (et_test (ev_op (ev_var rfl) (ev_var rfl) (rv_inN (ex_l e4 (sq_of h2))))) (fun hb H4 e5 => ?_) fun hb H4 e5 => ?_
      · refine s_setL (xs := t.map nv) (j := m) (e5 f _ h4') (ev_var rfl) (ev_var rfl) (ev_var rfl) (by rw [List.length_map, hlen]; exact hmlt) fun H5 e6 => ⟨_, _, rfl, ((e4.trans e5).trans e6).mut hcf, ?_⟩
        rw [upd_same, nv_set, hst]
        have hin : m ∈ F := (hcM m hmlt).mp (of_decide_eq_true hb)
        unfold tblStep
        rw [if_pos (decide_eq_true hin)]
      · have hnin : ¬ m ∈ F := fun z => of_decide_eq_false hb ((hcM m hmlt).mpr z)
        have hstep : tblStep T.length F t m = (List.range T.length).foldl (tblIn m) t := by unfold tblStep; rw [if_neg (by simpa using hnin)]
        rw [hstep] at hst
        refine s_forR1 (n := (T.length : Int)) (ea1 (ev_is (ev_cb (ea1 (ev_var rfl)) (rc_lenS (z := S T) (by rw [SX.S_len]; omega))) (by rw [SX.S_len]))) (by omega)
          (fun j σ H' => ∃ v, σ = [some (.str (S T)), some (.ref l), some (nv (2 ^ T.length - 1)), some (.ref c), some (.ref f), some (nv m), v] ∧ Ex H2 H' ∧ H' f = some (.lst ((((List.range T.length).take j).foldl (tblIn m) t).map nv)))
          (fun H5 e6 => ⟨_, rfl, (e4.trans e5).trans e6, (e5.trans e6) f _ h4'⟩) (fun j σ H' hj ⟨v, es, e6, h6⟩ => ?_) (fun σ H' ⟨v, es, e6, h6⟩ => ?_)
        · subst es
          have hj' : j < T.length := by omega
          have hst2 := foldl_take (f := tblIn m) (a := t) (List.getElem?_range hj')
          have hl2 : (((List.range T.length).take j).foldl (tblIn m) t).length = 2 ^ T.length := by rw [foldl_len (tblIn_len m), hlen]
          generalize ((List.range T.length).take j).foldl (tblIn m) t = t2 at h6 hst2 hl2
          refine s_when (b := decide (m / 2 ^ j % 2 = 0)) (et_is (et_test (ev_op (ev_op (ev_op (ev_var rfl) (ev_var rfl) rv_shr) ev_c (rv_and (b := 1))) ev_c (rv_eqN (b := 0)))) (by rw [Nat.and_one_is_mod])) (fun hb H7 e7 => ?_) fun hb H7 e7 => ⟨_, rfl, e6.trans e7, ?_⟩
          · have h7 := e7 f _ h6
            have hor : m ||| 2 ^ j < 2 ^ T.length := bit_or_lt hmlt hj'
            refine s_setL (xs := t2.map nv) (j := m) (v := nv (t2.getD m 0 &&& t2.getD (m ||| 2 ^ j) 0)) h7 (ev_op (ev_op (ev_var rfl) (ev_var rfl) (rv_ixLn (sq_of h7) (nv_getD (by omega)))) (ev_op (ev_var rfl) (ev_is (ev_op (ev_var rfl) (ev_op ev_c (ev_var rfl) (rv_shl (a := 1) (by decide) (by omega))) rv_or) (by rw [Nat.one_mul])) (rv_ixLn (sq_of h7) (nv_getD (i := m ||| 2 ^ j) (by omega)))) rv_and)
              (ev_var rfl) (ev_var rfl) (by rw [List.length_map]; omega) fun H8 e8 => ⟨_, rfl, ((e6.trans e7).trans e8).mut hcf, ?_⟩
            rw [upd_same, nv_set, hst2]
            unfold tblIn
            rw [if_pos (of_decide_eq_true hb)]
          · rw [hst2]
            unfold tblIn
            rw [if_neg (of_decide_eq_false hb)]
            exact e7 f _ h6
        · subst es
          refine ⟨_, _, rfl, e6, ?_⟩
          rw [hst, h6, Int.toNat_natCast, List.take_of_length_le (by rw [List.length_range]; exact Nat.le_refl _)]
    · subst es
      have hl3 : (tblIx T.length).length = 2 ^ T.length := by unfold tblIx; rw [List.length_map, List.length_range]
      rw [List.take_of_length_le (by omega)] at h4'
      exact s_retU (xs := (tbl T.length F).map nv) (eu_tupOfV (ev_var rfl) (sq_of h4')) fun p H5 hp5 e5 h5 => k p H5 (fresh_back ((e1.trans e2).trans e4) hp5) (((e1.trans e2).trans e4).trans e5) h5

end
end K31

set_option Elab.async false
set_option linter.all false
set_option maxRecDepth 100000
set_option maxHeartbeats 4000000
namespace K31
open PySem PySem.Spec PyProof.Rows L2 Evl
open C8 (InsC call_isC pe_gc)
section
variable {P : Program} {w : World} {K : PySem.W.Frag} {mg : Str → Option Value} {base : Heap}
/-- a closer's fields -/
def flds (T : List Nat) (a t : Addr) : List (Str × V) := putF "table" (.ref t) (putF "family" (.ref a) (putF "letters" (.str (S T)) []))
theorem fl_t (T : List Nat) (a t : Addr) : (flds T a t).lookup ("table" : Str) = some (.ref t) := by unfold flds; rw [lookup_putF, if_pos rfl]
theorem fl_f (T : List Nat) (a t : Addr) : (flds T a t).lookup ("family" : Str) = some (.ref a) := by unfold flds; rw [lookup_putF, if_neg (by decide +kernel), lookup_putF, if_pos rfl]
theorem fl_l (T : List Nat) (a t : Addr) : (flds T a t).lookup ("letters" : Str) = some (.str (S T)) := by unfold flds; rw [lookup_putF, if_neg (by decide +kernel), lookup_putF, if_neg (by decide +kernel), lookup_putF, if_pos rfl]
/-- a closer of the things T with the closed lots F stands at p -/
structure Co (K : PySem.W.Frag) (C : Addr) (H : Hp) (p : Addr) (T F : List Nat) : Prop where
  tg : Tg T
  fm : Fm T F
  at_ : ∃ dx a t, H p = some (.ins C dx (flds T a t)) ∧ SqT K H a (F.map (sv T)) ∧ SqT K H t ((tbl T.length F).map nv)
theorem Co.ex {K : PySem.W.Frag} {C : Addr} {H H' : Hp} {p : Addr} {T F : List Nat} (c : Co K C H p T F) (e : Ex H H') : Co K C H' p T F := by
  obtain ⟨dx, a, t, h1, h2, h3⟩ := c.at_
  exact ⟨c.tg, c.fm, dx, a, t, e _ _ h1, ex_t e h2, ex_t e h3⟩
def sp__init__ (K : PySem.W.Frag) (C : Addr) : Sp := Pm (fun a : Addr × List Nat × List Nat × Addr => [.ref a.1, .str (S a.2.1), .ref a.2.2.2])
  (fun a H => (∃ dx, H a.1 = some (.ins C dx [])) ∧ Tg a.2.1 ∧ Fm a.2.1 a.2.2.1 ∧ Cl a.2.1.length a.2.2.1 ∧ H a.2.2.2 = some (.tup (a.2.2.1.map (sv a.2.1))))
  fun a H Q => ∀ H', Co K C H' a.1 a.2.1 a.2.2.1 → (∀ b o, H b = some o → b ≠ a.1 → H' b = some o) → Q .non H'
theorem ok__init__ (D : Defs K mg) : FnOk P w K mg base CX0 6 D.a___init__ D.d___init__ ["self", "things", "closed"] (sp__init__ K D.C) := by
  have G_check_things : FnOk P w K mg base CX0 4 D.a_check_things D.d_check_things ["value"] (spcheck_things K D.C) := okcheck_things D
  have G_check_closed : FnOk P w K mg base CX0 5 D.a_check_closed D.d_check_closed ["things", "family"] (spcheck_closed K D.C) := okcheck_closed D
  have G_rounds_of : FnOk P w K mg base CX0 2 D.a_rounds_of D.d_rounds_of ["things", "masks"] (sprounds_of K D.C) := okrounds_of D
  have G_masks_of : FnOk P w K mg base CX0 2 D.a_masks_of D.d_masks_of ["things", "family"] (spmasks_of K D.C) := okmasks_of D
  refine D.F___init__.ok sc__init__ (fun vs H Q E h => ?_) (fun cdv A outer s H vs Q E hr h => ?_)
  · obtain ⟨_, rfl, _⟩ := h; rfl
  · obtain ⟨⟨p, T, F, a⟩, rfl, ⟨⟨dx, hp⟩, hT, hF, hc, ha⟩, k⟩ := h
    have hp : H p = some (.ins D.C dx []) := hp
    have hT : Tg T := hT
    have hF : Fm T F := hF
    have hc : Cl T.length F := hc
    have ha : H a = some (.tup (F.map (sv T))) := ha
    have k : ∀ H', Co K D.C H' p T F → (∀ b o, H b = some o → b ≠ p → H' b = some o) → Q .non H' := k
    have nap : a ≠ p := ne_of ha hp (by intro z; cases z)
    refine ⟨_, 
          (pss_cons (ps_expr (pe_call G_check_things (hr.mono (by decide)) rfl D.g_check_things D.F_check_things.kp (b_check_things D) .nil pass0 (pa_cons (pv 1) pa_nil)))
          (pss_cons (ps_expr (pe_call G_check_closed (hr.mono (by decide)) rfl D.g_check_closed D.F_check_closed.kp (b_check_closed D) .nil pass0 (pa_cons (pv 1) (pa_cons (pv 2) pa_nil))))
          (pss_cons (ps_fld (pv 0) (pv 1) rfl)
          (pss_cons (ps_fld (pv 0) (pv 2) rfl)
          (pss_one (ps_fld (pv 0) (pe_call G_rounds_of (hr.mono (by decide)) rfl D.g_rounds_of D.F_rounds_of.kp (b_rounds_of D) .nil pass0 (pa_cons (pv 1) (pa_cons (pe_call G_masks_of (hr.mono (by decide)) rfl D.g_masks_of D.F_masks_of.kp (b_masks_of D) .nil pass0 (pa_cons (pv 1) (pa_cons (pv 2) pa_nil))) pa_nil))) rfl)))))), ?_⟩
    refine q_drop (v := .non) (ev_call (ea1 (ev_var rfl)) (pmV T rfl fun _ _ => hT)) fun H1 e1 => ?_
    refine q_drop (v := .non) (ev_call (ea2 (ev_var rfl) (ev_var rfl)) (pmV (T, F, a) rfl fun H' e => ⟨hT, hF, hc, (e1.trans e) _ _ ha⟩)) fun H2 e2 => ?_
    have e02 := e1.trans e2
    refine ⟨_, rfl, _, rfl, p, D.C, dx, [], rfl, e02 _ _ hp, D.cl, D.na_letters, (by show 0 < 1000; decide), ?_⟩
    refine ⟨_, rfl, _, rfl, p, D.C, dx, _, rfl, upd_same, D.cl, D.na_family, (by show 1 < 1000; decide), ?_⟩
    have h4 : ∀ b o, H b = some o → b ≠ p → (upd (upd H2 p (.ins D.C dx (putF "letters" (.str (S T)) []))) p (.ins D.C dx (putF "family" (.ref a) (putF "letters" (.str (S T)) [])))) b = some o := fun b o hb ne => by rw [upd_ne ne, upd_ne ne]; exact e02 b o hb
    generalize hH4 : (upd (upd H2 p (.ins D.C dx (putF "letters" (.str (S T)) []))) p (.ins D.C dx (putF "family" (.ref a) (putF "letters" (.str (S T)) [])))) = H4 at h4
    have h4p : H4 p = some (.ins D.C dx (putF "family" (.ref a) (putF "letters" (.str (S T)) []))) := by rw [← hH4]; exact upd_same
    refine ⟨_, rfl, el_call (xs := F.map nv) (ea2 (ev_var rfl) (ev_var rfl)) (pmL (T, F, a) rfl fun H' e => ⟨hT, hF, st_of (e _ _ (h4 _ _ ha nap))⟩) H4 (Ex.refl H4) _ fun m H5 hm e5 h5 => ⟨(T, F, m), rfl, ⟨hT, sq_of h5, hF.lt, hF.len⟩, fun t H6 ht e6 h6 => ?_⟩⟩
    have h6p := (e5.trans e6) _ _ h4p
    have ntp : t ≠ p := fun e => by rw [e] at h6; rw [h6p] at h6; cases h6
    have e46 := e5.trans e6
    refine ⟨_, rfl, p, D.C, dx, _, rfl, h6p, D.cl, D.na_table, ?_, ?_⟩
    · show 2 < 1000
      decide
    · refine k _ ⟨hT, hF, dx, a, t, upd_same, ?_, ?_⟩ fun b o hb ne => ?_
      · exact st_of (by rw [upd_ne nap]; exact e46 _ _ (h4 _ _ ha nap))
      · exact st_of (by rw [upd_ne ntp]; exact h6)
      · rw [upd_ne ne]
        exact e46 _ _ (h4 b o hb ne)

def spthings (K : PySem.W.Frag) (C : Addr) : Sp := Pm (fun a : Addr × List Nat × List Nat => [.ref a.1]) (fun a H => Co K C H a.1 a.2.1 a.2.2) fun a H Q => RetV (.str (S a.2.1)) H Q
theorem okthings (D : Defs K mg) : FnOk P w K mg base CX0 1 D.a_things D.d_things ["self"] (spthings K D.C) := by
  refine D.F_things.ok scthings (fun vs H Q E h => ?_) (fun cdv A outer s H vs Q E hr h => ?_)
  · obtain ⟨_, rfl, _⟩ := h; rfl
  · obtain ⟨⟨p, T, F⟩, rfl, hc, k⟩ := h
    have hc : Co K D.C H p T F := hc
    obtain ⟨dx, a, t, h1, h2, h3⟩ := hc.at_
    refine ⟨_, 
          (pss_one (ps_ret (pe_fld (pv 0) rfl))), ?_⟩
    exact s_ret (v := .str (S T)) (ev_fld (ev_var rfl) D.cl D.na_letters h1 (fl_l T a t)) k

def spclosed (K : PySem.W.Frag) (C : Addr) : Sp := Pm (fun a : Addr × Addr => [.ref a.1]) (fun a H => ∃ dx T t, H a.1 = some (.ins C dx (flds T a.2 t))) fun a H Q => RetV (.ref a.2) H Q
theorem okclosed (D : Defs K mg) : FnOk P w K mg base CX0 1 D.a_closed D.d_closed ["self"] (spclosed K D.C) := by
  refine D.F_closed.ok scclosed (fun vs H Q E h => ?_) (fun cdv A outer s H vs Q E hr h => ?_)
  · obtain ⟨_, rfl, _⟩ := h; rfl
  · obtain ⟨⟨p, a⟩, rfl, ⟨dx, T, t, h1⟩, k⟩ := h
    have h1 : H p = some (.ins D.C dx (flds T a t)) := h1
    refine ⟨_, 
          (pss_one (ps_ret (pe_fld (pv 0) rfl))), ?_⟩
    exact s_ret (v := .ref a) (ev_fld (ev_var rfl) D.cl D.na_family h1 (fl_f T a t)) k

def spclosed_masks (K : PySem.W.Frag) (C : Addr) : Sp := Pm (fun a : Addr × List Nat × List Nat => [.ref a.1]) (fun a H => Co K C H a.1 a.2.1 a.2.2) fun a H Q => RetL ((clM a.2.1.length a.2.2).map nv) H Q
theorem okclosed_masks (D : Defs K mg) : FnOk P w K mg base CX0 1 D.a_closed_masks D.d_closed_masks ["closer"] (spclosed_masks K D.C) := by
  refine D.F_closed_masks.ok scclosed_masks (fun vs H Q E h => ?_) (fun cdv A outer s H vs Q E hr h => ?_)
  · obtain ⟨_, rfl, _⟩ := h; rfl
  · obtain ⟨⟨p, T, F⟩, rfl, hc, k⟩ := h
    have hc : Co K D.C H p T F := hc
    obtain ⟨dx, a, t, h1, h2, h3⟩ := hc.at_
    have h16 := pow16 hc.tg
    have hl := tbl_len T.length F
    refine ⟨_, 
          (pss_one (ps_ret (pe_lc rfl scclosed_masks.nd (pi_range1 rfl D.n_range (pa_cons (pe_callB call_len_seq (by rfl) D.n_len PySem.boot_len (pa_cons (pe_fld (pv 0) rfl) pa_nil)) pa_nil)) (blkOk_by (own := [("mask", 1)]) (by kernel_rfl)) (fun _ _ _ _ _ => (pg_name (i := 1) scclosed_masks.nd rfl (Or.inl rfl))) (fun _ _ _ _ _ => (pts_one (pt_cmpR op_eq (pe_ix (ix_tup : IxR _ (rIxT K)) (show PE _ _ (tFld K _ _) from pe_fld (pv 0) rfl) (pv 1) (fun _ _ => rfl)) (pv 1) (nomark _)))) (fun _ _ _ _ _ => (pv 1))))), ?_⟩
    refine s_retL (xs := (clM T.length F).map nv) (el_R (m := ((2 ^ T.length : Nat) : Int)) (n := 2 ^ T.length) (fun m => decide ((tbl T.length F).getD m 0 = m)) nv
      (ea1 (ev_is (ev_cb (ea1 (ev_fld (ev_var rfl) D.cl D.na_table h1 (fl_t T a t))) (rc_len (.inr h3))) (by rw [List.length_map, hl]))) (by omega) (by omega) (fun _ => rfl)
      (fun i hi H1 e1 => et_test (ev_op (ev_op (ev_fld (ev_var rfl) D.cl D.na_table (e1 _ _ h1) (fl_t T a t)) (ev_var rfl) (rv_ixTn (ex_t e1 h3) (nv_getD (by omega)))) (ev_var rfl) rv_eqN)) fun i hi H1 e1 _ => ev_var rfl) k

def spcheck_closer (K : PySem.W.Frag) (C : Addr) : Sp := Pm (fun p : Addr => [.ref p]) (fun p H => ∃ dx fs, H p = some (.ins C dx fs)) fun _ H Q => RetV .non H Q
theorem okcheck_closer (D : Defs K mg) : FnOk P w K mg base CX0 1 D.a_check_closer D.d_check_closer ["value"] (spcheck_closer K D.C) := by
  refine D.F_check_closer.ok sccheck_closer (fun vs H Q E h => ?_) (fun cdv A outer s H vs Q E hr h => ?_)
  · obtain ⟨_, rfl, _⟩ := h; rfl
  · obtain ⟨p, rfl, ⟨dx, fs, h1⟩, k⟩ := h
    refine ⟨_, 
          (pss_one (ps_if (pt_not (pt_val (pe_callB (call_isC D.insC) (by rfl) D.n_isinstance PyProof.Rows.boot_isinstance (pa_cons (pv 0) (pa_cons (pe_glob (v := .ref D.C) rfl D.g_Closer rfl) pa_nil)))))
            (pss_one (ps_never))
            (pss_nil))), ?_⟩
    exact s_when (b := false) (et_not (a := true) (et_B (ev_cb (ea2 (ev_var rfl) ev_c) fun H1 e1 Q1 q1 => ⟨p, dx, fs, rfl, e1 _ _ h1, q1 H1 (Ex.refl H1)⟩))) (fun e => nomatch e) fun _ H1 e1 => k H1 e1

def spspan_of (K : PySem.W.Frag) (C : Addr) : Sp := Pm (fun a : (Addr × List Nat × List Nat) × Nat × Nat => [.ref a.1.1, nv a.2.1, nv a.2.2]) (fun a H => Co K C H a.1.1 a.1.2.1 a.1.2.2 ∧ a.2.1 < 2 ^ a.1.2.1.length ∧ a.2.2 < 2 ^ a.1.2.1.length)
  fun a H Q => RetV (nv ((tbl a.1.2.1.length a.1.2.2).getD (a.2.1 ||| a.2.2) 0)) H Q
theorem okspan_of (D : Defs K mg) : FnOk P w K mg base CX0 1 D.a_span_of D.d_span_of ["closer", "one", "other"] (spspan_of K D.C) := by
  refine D.F_span_of.ok scspan_of (fun vs H Q E h => ?_) (fun cdv A outer s H vs Q E hr h => ?_)
  · obtain ⟨_, rfl, _⟩ := h; rfl
  · obtain ⟨⟨⟨p, T, F⟩, x, y⟩, rfl, ⟨hc, hx, hy⟩, k⟩ := h
    have hc : Co K D.C H p T F := hc
    have hx : x < 2 ^ T.length := hx
    have hy : y < 2 ^ T.length := hy
    obtain ⟨dx, a, t, h1, h2, h3⟩ := hc.at_
    have hl := tbl_len T.length F
    have ho : x ||| y < 2 ^ T.length := Nat.or_lt_two_pow hx hy
    refine ⟨_, 
          (pss_one (ps_ret (pe_ix ix_tup (pe_fld (pv 0) rfl) (pe_op op_or (pv 1) (pv 2)) (fun _ _ => rfl)))), ?_⟩
    exact s_ret (v := nv ((tbl T.length F).getD (x ||| y) 0)) (ev_op (ev_fld (ev_var rfl) D.cl D.na_table h1 (fl_t T a t)) (ev_op (ev_var rfl) (ev_var rfl) rv_or) (rv_ixTn h3 (nv_getD (t := tbl T.length F) (i := x ||| y) (by omega)))) k

/-- the dict of covers at d, up to the i-th closed lot -/
structure CvAt (H0 H : Hp) (d : Addr) (n : Nat) (F : List Nat) (i : Nat) (as : List Addr) : Prop where
  len : as.length = i
  dc : H d = some (.dK (((clM n F).zip as).map fun e => ((Sum.inl (e.1 : Int) : Key), V.ref e.2)))
  cv : ∀ e ∈ (clM n F).zip as, H e.2 = some (.lst ((covM n F e.1).map nv))
  old : ∀ e ∈ (clM n F).zip as, H0 e.2 = none
def spcovers_of (K : PySem.W.Frag) (C : Addr) : Sp := Pm (fun a : Addr × List Nat × List Nat => [.ref a.1]) (fun a H => Co K C H a.1 a.2.1 a.2.2)
  fun a H Q => ∀ d as H2, H d = none → Ex H H2 → CvAt H H2 d a.2.1.length a.2.2 (clM a.2.1.length a.2.2).length as → Q (.ref d) H2
theorem zip_next {l : List Nat} : ∀ {i : Nat} {m : Nat} {as : List Addr} {a : Addr}, l[i]? = some m → as.length = i → l.zip (as ++ [a]) = l.zip as ++ [(m, a)] := by
  induction l with
  | nil => intro i m as a h _; simp at h
  | cons x l ih =>
    intro i m as a h hl
    cases as with
    | nil =>
      simp only [List.length_nil] at hl
      subst hl
      simp at h
      subst h
      simp
    | cons b as =>
      cases i with
      | zero => simp at hl
      | succ i =>
        have h2 := ih (i := i) (m := m) (as := as) (a := a) (by simpa using h) (by simpa using hl)
        simp only [List.cons_append, List.zip_cons_cons, h2]
theorem zip_fst_mem {l : List Nat} {as : List Addr} {e : Nat × Addr} (h : e ∈ l.zip as) : e.1 ∈ l.take as.length := by
  obtain ⟨i, hi, e1⟩ := List.getElem_of_mem h
  have h2 : (l.zip as)[i]? = some e := List.getElem?_eq_some_iff.mpr ⟨hi, e1⟩
  rw [List.getElem?_zip_eq_some] at h2
  refine List.mem_of_getElem? (i := i) ?_
  rw [List.getElem?_take_of_lt ((List.getElem?_eq_some_iff.mp h2.2).1)]
  exact h2.1
theorem nodup_take_not {l : List Nat} (h : l.Nodup) {i m : Nat} (hi : l[i]? = some m) : m ∉ l.take i := fun q => by
  obtain ⟨j, hj, e⟩ := List.getElem_of_mem q
  rw [List.length_take] at hj
  rw [List.getElem_take] at e
  obtain ⟨hi2, e2⟩ := List.getElem?_eq_some_iff.mp hi
  have := (List.getElem_inj h).mp (e.trans e2.symm)
  omega
theorem valV_zip {l : List (Nat × Addr)} {m : Nat} (h : ∀ e ∈ l, e.1 ≠ m) : valV (l.map fun e => ((Sum.inl (e.1 : Int) : Key), V.ref e.2)) (Sum.inl (m : Int)) = none := by
  unfold valV
  rw [List.find?_eq_none.mpr ?_]
  · rfl
  · intro kv hkv
    obtain ⟨e, he, rfl⟩ := List.mem_map.mp hkv
    have := h e he
    simp only [decide_eq_true_eq]
    intro z
    have z := Sum.inl.inj z
    omega
theorem okcovers_of (D : Defs K mg) : FnOk P w K mg base CX0 2 D.a_covers_of D.d_covers_of ["closer"] (spcovers_of K D.C) := by
  have G_closed_masks : FnOk P w K mg base CX0 1 D.a_closed_masks D.d_closed_masks ["closer"] (spclosed_masks K D.C) := okclosed_masks D
  have G_is_inside : FnOk P w K mg base CX0 1 D.a_is_inside D.d_is_inside ["one", "other"] (spis_inside K D.C) := okis_inside D
  refine D.F_covers_of.ok sccovers_of (fun vs H Q E h => ?_) (fun cdv A outer s H vs Q E hr h => ?_)
  · obtain ⟨_, rfl, _⟩ := h; rfl
  · obtain ⟨⟨p, T, F⟩, rfl, hc, k⟩ := h
    have hc : Co K D.C H p T F := hc
    have k : ∀ d as H2, H d = none → Ex H H2 → CvAt H H2 d T.length F (clM T.length F).length as → Q (.ref d) H2 := k
    have h16 := pow16 hc.tg
    have hcl := clM_len T.length F
    have hu := hu_of hr
    refine ⟨_, 
          (pss_cons (ps_par rfl sccovers_of.nd (i := 1) (j := 2) rfl rfl (by decide) rfl rfl (pa_cons (pe_call G_closed_masks (hr.mono (by decide)) rfl D.g_closed_masks D.F_closed_masks.kp (b_closed_masks D) .nil pass0 (pa_cons (pv 0) pa_nil)) (pa_cons pe_dnewK pa_nil)) rfl)
          (pss_cons (ps_for PassesOwn.never rfl (pi_list (pv 1)) (pg_name (i := 3) sccovers_of.nd rfl (Or.inr rfl))
            (pss_cons (ps_set (i := 4) sccovers_of.nd rfl (Or.inr rfl) (pe_lc rfl sccovers_of.nd (pi_list (pv 1)) (blkOk_by (own := [("each", 5)]) (by kernel_rfl)) (fun _ _ _ _ _ => (pg_name (i := 5) sccovers_of.nd rfl (Or.inl rfl))) (fun _ _ _ _ _ => (pts_one (PW.pt (pw_and (pt_cmpR op_ne (pv 5) (pv 3) (nomark _)) (pw_and1 (pt_val (pe_call G_is_inside (hr.mono (by decide)) rfl D.g_is_inside D.F_is_inside.kp (b_is_inside D) .nil pass0 (pa_cons (pv 5) (pa_cons (pv 3) pa_nil))))))))) (fun _ _ _ _ _ => (pv 5))))
            (pss_one (ps_dput hu (pv 2) (pv 3) (pe_lc rfl sccovers_of.nd (pi_list (pv 4)) (blkOk_by (own := [("each", 5)]) (by kernel_rfl)) (fun _ _ _ _ _ => (pg_name (i := 5) sccovers_of.nd rfl (Or.inr rfl))) (fun _ _ _ _ _ => (pts_one (pt_not (pt_val (pe_callB (cr_any rfl : CallR _ _ (rAny K)) (by rfl) D.n_any (by decide +kernel) (pa_cons (pe_lc rfl sccovers_of.nd (pi_list (pv 4) : PI _ _ _ (iList K _)) (blkOk_by (own := [("one", 6)]) (by kernel_rfl)) (fun _ _ _ _ _ => (pg_name (i := 6) sccovers_of.nd rfl (Or.inl rfl))) (fun _ _ _ _ _ => pts_nil) (fun _ _ _ _ _ => (pe_and (pe_cmpR op_ne (pv 5) (pv 6) (nomark _)) (pe_one (pe_call G_is_inside (hr.mono (by decide)) rfl D.g_is_inside D.F_is_inside.kp (b_is_inside D) .nil pass0 (pa_cons (pv 5) (pa_cons (pv 6) pa_nil))))))) pa_nil)))))) (fun _ _ _ _ _ => (pv 5))) rfl))))
          (pss_one (ps_ret (pv 2))))), ?_⟩
    refine el_call (xs := (clM T.length F).map nv) (ea1 (ev_var rfl)) (pmL (p, T, F) rfl fun H' e => hc.ex e) H (Ex.refl H) _ fun c H1 hcn e1 h1 => ?_
    intro d hd
    refine ⟨.ref c, .ref d, rfl, ?_⟩
    have hdn : H d = none := fresh_back e1 hd
    refine q_forLn (ev_var rfl) (sq_of (by rw [upd_ne (ne_of_none h1 hd)]; exact h1)) (fun i σ H' => ∃ as u v, σ = [some (.ref p), some (.ref c), some (.ref d), u, v, none, none] ∧ Ex H1 H' ∧ CvAt H H' d T.length F i as)
      (fun H2 e2 => ⟨[], none, none, rfl, (Ex.new hd).trans e2, rfl, by rw [List.zip_nil_right]; exact e2 _ _ upd_same, fun e he => (by rw [List.zip_nil_right] at he; cases he), fun e he => (by rw [List.zip_nil_right] at he; cases he)⟩)
      (fun i σ H' _ ⟨_, _, _, _, e, _⟩ => sq_of (e _ _ h1)) (fun i x σ H' hx ⟨as, u, v, es, e2, cv⟩ => ?_) (fun σ H' ⟨as, u, v, es, e2, cv⟩ => ?_)
    · subst es
      rw [List.getElem?_map] at hx
      obtain ⟨m, hm, rfl⟩ := Option.map_eq_some_iff.mp hx
      have hi : i < (clM T.length F).length := (List.getElem?_eq_some_iff.mp hm).1
      refine q_asgL (xs := (undM T.length F m).map nv) (el_L (fun e => !decide (e = m) && inc e m) nv (ev_var rfl) (sq_of (e2 _ _ h1)) (by omega) (fun _ => rfl)
        (fun e he H3 e3 => et_and (et_test (ev_op (ev_var rfl) (ev_var rfl) rv_neN)) fun _ => et_B (ev_call (ea2 (ev_var rfl) (ev_var rfl)) (pmV (e, m) rfl fun _ _ => trivial))) fun e he H3 e3 _ => ev_var rfl) fun u1 H3 hu1 e3 h3 => ?_
      have hul := undM_len T.length F m
      refine el_L (ys := undM T.length F m) (φ := nv) (fun e => !(undM T.length F m).any fun o => !decide (e = o) && inc e o) nv (ev_var rfl) (sq_of h3) (by omega) (fun _ => rfl)
        (fun e he H4 e4 => et_not (et_B (ev_anyM (el_is (el_L (ys := undM T.length F m) (φ := nv) (fun _ => true) (fun o => .bl (!decide (e = o) && inc e o)) (ev_var rfl) (sq_of (e4 _ _ h3)) (by omega) (fun _ => rfl) (fun _ _ _ _ => et_yes)
          fun o ho H5 e5 _ => ev_andV (ev_op (ev_var rfl) (ev_var rfl) rv_neN) fun _ => ev_call (ea2 (ev_var rfl) (ev_var rfl)) (pmV (e, o) rfl fun _ _ => trivial)) (by rw [filter_yes]))))) (fun e he H4 e4 _ => ev_var rfl) H3 (Ex.refl H3) _ fun cvl H4 hcv e4 h4 => ?_
      have e34 := e3.trans e4
      refine ⟨_, rfl, _, rfl, d, _, rfl, DPut.k (k := Sum.inl (m : Int)) (e34 _ _ cv.dc) ?_, ?_⟩
      · rw [List.length_map, List.length_zip, cv.len]
        exact Nat.lt_of_le_of_lt (Nat.min_le_right _ _) (small1000 (by omega))
      · have hnew : ∀ e ∈ (clM T.length F).zip as, e.1 ≠ m := fun e he z => by
          have h5 := zip_fst_mem he
          rw [cv.len] at h5
          exact nodup_take_not (clM_nodup _ _) hm (z ▸ h5)
        have nd : cvl ≠ d := fun z => by rw [z, e34 _ _ cv.dc] at h4; cases h4
        refine ⟨as ++ [cvl], _, _, rfl, ((e2.trans e34).mut hd), by rw [List.length_append, cv.len]; rfl, ?_, fun e he => ?_, fun e he => ?_⟩
        · rw [upd_same, putK_new _ (valV_zip hnew), zip_next hm cv.len, List.map_append]
          rfl
        · rw [zip_next hm cv.len] at he
          have ned : e.2 ≠ d := by
            rcases List.mem_append.mp he with q | q
            · intro z
              have h6 := cv.cv e q
              rw [z, cv.dc] at h6
              cases h6
            · rw [List.mem_singleton.mp q]; exact nd
          rw [upd_ne ned]
          rcases List.mem_append.mp he with q | q
          · exact e34 _ _ (cv.cv e q)
          · rw [List.mem_singleton.mp q]; exact h4
        · rw [zip_next hm cv.len] at he
          rcases List.mem_append.mp he with q | q
          · exact cv.old e q
          · rw [List.mem_singleton.mp q]
            exact fresh_back ((e1.trans e2).trans e3) hcv
    · subst es
      rw [List.length_map] at cv
      exact s_ret (v := .ref d) (ev_var rfl) fun H3 e3 => k d as H3 hdn ((e1.trans e2).trans e3) ⟨cv.len, e3 _ _ cv.dc, fun e he => e3 _ _ (cv.cv e he), cv.old⟩

end
end K31

set_option Elab.async false
set_option linter.all false
set_option maxRecDepth 100000
set_option maxHeartbeats 4000000
namespace K31
open PySem PySem.Spec PyProof.Rows L2 Evl
open C8 (InsC call_isC pe_gc)
section
variable {P : Program} {w : World} {K : PySem.W.Frag} {mg : Str → Option Value} {base : Heap}
def sproot_masks (K : PySem.W.Frag) (C : Addr) : Sp := Pm (fun a : Addr × List Nat × List Nat => [.ref a.1]) (fun a H => Co K C H a.1 a.2.1 a.2.2) fun a H Q => RetL ((rootM a.2.1.length a.2.2).map nv) H Q
theorem zip_get {l : List Nat} {as : List Addr} {i : Nat} {e : Nat × Addr} (h : (l.zip as)[i]? = some e) : l[i]? = some e.1 := by
  rw [List.getElem?_zip_eq_some] at h
  exact h.1
theorem filt_take {l : List Nat} {p : Nat → Bool} {i m : Nat} (h : l[i]? = some m) : (l.take (i + 1)).filter p = (l.take i).filter p ++ if p m = true then [m] else [] := by
  rw [take_next h, List.filter_append, List.filter_cons]
  by_cases hp : p m = true
  · rw [if_pos hp, if_pos hp]; rfl
  · rw [if_neg hp, if_neg hp]; rfl
/-- a loop over the items of a dict that a call hands back -/
theorem q_itemsC {D : Ends} {tz : TS} {sp : Sp} {dvs vs : List V} {E : XK} {ta : TA} {g : TG} {tb : TS} {σ : L2.St} {H : Hp} (h : EvA ta σ H vs)
    (k : ∀ H1, Ex H H1 → sp (vs ++ dvs) H1 (fun v H2 => ∃ d kvs, v = .ref d ∧ H2 d = some (.dK kvs) ∧ ∀ o, tFor (fun _ H' R => R (Iti d o kvs) H') g tb { D with nx := tz D } σ (upd H2 d (.frz o (.dK kvs)))) E) (mono : ∀ {A B : VK} {H1 : Hp}, (∀ v H2, A v H2 → B v H2) → sp (vs ++ dvs) H1 A E → sp (vs ++ dvs) H1 B E) :
    tSeq (tFor (iItems (tFrz (tCall sp dvs E ta))) g tb) tz D σ H := h H (Ex.refl H) _ fun H1 e1 => mono (fun v H2 ⟨d, kvs, ev, hd, q⟩ => ⟨d, _, ev, hd, True.intro, fun o => ⟨d, o, kvs, ev, upd_same, q o⟩⟩) (k H1 e1)
theorem okroot_masks (D : Defs K mg) : FnOk P w K mg base CX0 3 D.a_root_masks D.d_root_masks ["closer"] (sproot_masks K D.C) := by
  have G_covers_of : FnOk P w K mg base CX0 2 D.a_covers_of D.d_covers_of ["closer"] (spcovers_of K D.C) := okcovers_of D
  refine D.F_root_masks.ok scroot_masks (fun vs H Q E h => ?_) (fun cdv A outer s H vs Q E hr h => ?_)
  · obtain ⟨_, rfl, _⟩ := h; rfl
  · obtain ⟨⟨p, T, F⟩, rfl, hc, k⟩ := h
    have hc : Co K D.C H p T F := hc
    have k : RetL ((rootM T.length F).map nv) H Q := k
    have h16 := pow16 hc.tg
    have hcl := clM_len T.length F
    refine ⟨_, 
          (pss_cons (ps_set (i := 1) scroot_masks.nd rfl (Or.inl rfl) (pe_lst pa_nil))
          (pss_cons (ps_for PassesOwn.never rfl (pi_items (pe_frz (pe_call G_covers_of (hr.mono (by decide)) rfl D.g_covers_of D.F_covers_of.kp (b_covers_of D) .nil pass0 (pa_cons (pv 0) pa_nil)))) (pg_tup rfl (pgs_cons (pg_name (i := 2) scroot_masks.nd rfl (Or.inl rfl)) (pgs_cons (pg_name (i := 3) scroot_masks.nd rfl (Or.inl rfl)) pgs_nil)))
            (pss_one (ps_if (pt_cmpR op_eq (pe_callB call_len_seq (by rfl) D.n_len PySem.boot_len (pa_cons (pv 3) pa_nil)) pe_int (nomark _))
              (pss_one (ps_expr (pe_bm PySem.F.plainAttrs_list PySem.F.slot_list_append PySem.F.type_list_append mt_append (pv 1) (pa_cons (pv 2) pa_nil))))
              (pss_nil))))
          (pss_one (ps_ret (pv 1))))), ?_⟩
    refine q_asgL (xs := []) (el_lst ea_nil (Nat.zero_le _)) fun f H1 hf e1 h1 => ?_
    refine q_itemsC (ea1 (ev_var rfl)) (fun H2 e2 => ⟨(p, T, F), rfl, hc.ex (e1.trans e2), fun d as H3 hd e3 cv => ⟨d, _, rfl, cv.dc, fun o => ?_⟩⟩) (fun m ⟨a, ea, pre, post⟩ => ⟨a, ea, pre, fun d as H3 hd e3 cv => m _ _ (post d as H3 hd e3 cv)⟩)
    have cv : CvAt H2 H3 d T.length F (clM T.length F).length as := cv
    have hfd : f ≠ d := fun z => by rw [← z, e2 _ _ h1] at hd; cases hd
    have hdn : H d = none := fresh_back (e1.trans e2) hd
    have h3f := (e2.trans e3) _ _ h1
    have hned : ∀ e ∈ (clM T.length F).zip as, e.2 ≠ d ∧ e.2 ≠ f ∨ e.2 ≠ d := fun e he => .inr fun z => by
      have h6 := cv.cv e he
      rw [z, cv.dc] at h6
      cases h6
    have hkl : (((clM T.length F).zip as).map fun e => ((Sum.inl (e.1 : Int) : Key), V.ref e.2)).length = (clM T.length F).length := by rw [List.length_map, List.length_zip, cv.len, Nat.min_self]
    have e13 := (e1.trans e2).trans e3
    generalize hHB : upd H3 d (.frz o (.dK (((clM T.length F).zip as).map fun e => ((Sum.inl (e.1 : Int) : Key), V.ref e.2)))) = HB
    have hB1 : HB d = some (.frz o (.dK (((clM T.length F).zip as).map fun e => ((Sum.inl (e.1 : Int) : Key), V.ref e.2)))) := by rw [← hHB]; exact upd_same
    have hB2 : ∀ b, b ≠ d → HB b = H3 b := fun b hb => by rw [← hHB]; exact upd_ne hb
    refine for_items (fun i σ H' => ∃ u v, σ = [some (.ref p), some (.ref f), u, v] ∧ (∀ b u, HB b = some u → b ≠ f → H' b = some u) ∧ H' f = some (.lst ((((clM T.length F).take i).filter fun m => decide ((covM T.length F m).length = 1)).map nv)))
      ⟨none, none, rfl, fun b u hb _ => hb, by rw [hB2 f hfd]; exact h3f⟩ (fun i σ H' hi ⟨_, _, _, c1, _⟩ => c1 d _ hB1 (fun z => hfd z.symm)) (fun i kk vv Tp σ H' hk ⟨u, v, es, c1, c2⟩ hT => ?_) (fun σ H' ⟨u, v, es, c1, c2⟩ => ?_)
    · subst es
      rw [List.getElem?_map] at hk
      obtain ⟨e, he, e9⟩ := Option.map_eq_some_iff.mp hk
      obtain ⟨rfl, rfl⟩ := Prod.mk.inj e9
      have hm := zip_get he
      have hem := List.mem_of_getElem? he
      have hcov := cv.cv e hem
      have hne : e.2 ≠ d := fun z => by rw [z, cv.dc] at hcov; cases hcov
      have hTf : f ≠ Tp := fun z => by rw [← z, c2] at hT; cases hT
      refine ⟨Tp, _, rfl, st_of upd_same, rfl, _, _, rfl, _, _, rfl, rfl, ?_⟩
      have hi : i < (clM T.length F).length := (List.getElem?_eq_some_iff.mp hm).1
      have c2' : (upd H' Tp (.tup [kV (Sum.inl (e.1 : Int)), V.ref e.2])) f = some (.lst ((((clM T.length F).take i).filter fun m => decide ((covM T.length F m).length = 1)).map nv)) := by rw [upd_ne hTf]; exact c2
      have c1' : ∀ b u, HB b = some u → b ≠ f → (upd H' Tp (.tup [kV (Sum.inl (e.1 : Int)), V.ref e.2])) b = some u := fun b u hb hne => Ex.new hT b u (c1 b u hb hne)
      generalize upd H' Tp (.tup [kV (Sum.inl (e.1 : Int)), V.ref e.2]) = H4 at c1' c2'
      have hef : e.2 ≠ f ∨ e.2 = f := (Classical.em _).symm
      have hcl4 : ∃ xs : List V, xs.length = (covM T.length F e.1).length ∧ SqL K H4 e.2 xs := by
        rcases hef with q | q
        · exact ⟨_, List.length_map .., sq_of (c1' _ _ (by rw [hB2 _ hne]; exact hcov) q)⟩
        · exfalso
          have h7 := cv.old e hem
          rw [q, e2 _ _ h1] at h7
          cases h7
      obtain ⟨xs, hxl, hxs⟩ := hcl4
      refine s_when (b := decide ((covM T.length F e.1).length = 1)) (et_test (ev_op (ev_is (ev_cb (ea1 (ev_var rfl)) (rc_len (.inl hxs))) (by rw [hxl])) ev_c (rv_eqN (b := 1)))) (fun hb H5 e5 => ?_) fun hb H5 e5 => ⟨_, _, rfl, fun b u hb' hne' => e5 _ _ (c1' b u hb' hne'), ?_⟩
      · refine s_app (v := nv e.1) (e5 _ _ c2') (ev_var rfl) (ev_var rfl) ?_ fun H6 e6 => ⟨_, _, rfl, fun b u hb' hne' => by rw [upd_ne hne']; exact e6 _ _ (e5 _ _ (c1' b u hb' hne')), ?_⟩
        · rw [List.length_map]
          have := filter_len (fun m => decide ((covM T.length F m).length = 1)) ((clM T.length F).take i)
          rw [List.length_take] at this
          omega
        · rw [upd_same, filt_take hm, if_pos hb, List.map_append]
          rfl
      · rw [filt_take hm, if_neg (by rw [hb]; decide), List.append_nil]
        exact e5 _ _ c2'
    · subst es
      rw [hkl, List.take_length] at c2
      refine s_ret (v := .ref f) (ev_var rfl) fun H7 e7 => k f H7 hf (fun b u hb => ?_) (e7 _ _ c2)
      have hbf : b ≠ f := fun z => by rw [z, hf] at hb; cases hb
      have hbd : b ≠ d := fun z => by rw [z, hdn] at hb; cases hb
      exact e7 _ _ (c1 b u (by rw [hB2 b hbd]; exact e13 _ _ hb) hbf)

section
theorem ev_prop {te : TE} {σ : L2.St} {H : Hp} {C p : Addr} {dx : Addr} {fs : List (Str × V)} {sp : Sp} {E : XK} {v : V} (h : Ev te σ H (.ref p)) (hp : H p = some (.ins C dx fs)) (hs : SpV sp [.ref p] H v) : Ev (tProp C sp [] E te) σ H v := fun H1 e Q q =>
  h H1 e _ fun H2 e2 => ⟨p, dx, fs, rfl, (e.trans e2) _ _ hp, hs H2 (e.trans e2) Q (fun H3 e3 => q H3 (e2.trans e3)) E⟩
end
def sproots (K : PySem.W.Frag) (C : Addr) : Sp := Pm (fun a : Addr × List Nat × List Nat => [.ref a.1]) (fun a H => Co K C H a.1 a.2.1 a.2.2) fun a H Q => RetU ((srt a.2.1.length (rootM a.2.1.length a.2.2)).map (sv a.2.1)) H Q
theorem okroots (D : Defs K mg) : FnOk P w K mg base CX0 4 D.a_roots D.d_roots ["closer"] (sproots K D.C) := by
  have G_check_closer : FnOk P w K mg base CX0 1 D.a_check_closer D.d_check_closer ["value"] (spcheck_closer K D.C) := okcheck_closer D
  have G_family_of : FnOk P w K mg base CX0 2 D.a_family_of D.d_family_of ["things", "masks"] (spfamily_of K D.C) := okfamily_of D
  have G_root_masks : FnOk P w K mg base CX0 3 D.a_root_masks D.d_root_masks ["closer"] (sproot_masks K D.C) := okroot_masks D
  have G_things : FnOk P w K mg base CX0 1 D.a_things D.d_things ["self"] (spthings K D.C) := okthings D
  refine D.F_roots.ok scroots (fun vs H Q E h => ?_) (fun cdv A outer s H vs Q E hr h => ?_)
  · obtain ⟨_, rfl, _⟩ := h; rfl
  · obtain ⟨⟨p, T, F⟩, rfl, hc, k⟩ := h
    have hc : Co K D.C H p T F := hc
    have k : RetU ((srt T.length (rootM T.length F)).map (sv T)) H Q := k
    have h16 := pow16 hc.tg
    obtain ⟨dx, a, t, h1, h2, h3⟩ := hc.at_
    refine ⟨_, 
          (pss_cons (ps_expr (pe_call G_check_closer (hr.mono (by decide)) rfl D.g_check_closer D.F_check_closer.kp (b_check_closer D) .nil pass0 (pa_cons (pv 0) pa_nil)))
          (pss_one (ps_ret (pe_call G_family_of (hr.mono (by decide)) rfl D.g_family_of D.F_family_of.kp (b_family_of D) .nil pass0 (pa_cons (pe_prop (pv 0) D.cl D.p_things G_things (hr.mono (by decide)) (b_things D) .nil pass0 rfl) (pa_cons (pe_call G_root_masks (hr.mono (by decide)) rfl D.g_root_masks D.F_root_masks.kp (b_root_masks D) .nil pass0 (pa_cons (pv 0) pa_nil)) pa_nil)))))), ?_⟩
    refine q_drop (v := .non) (ev_call (ea1 (ev_var rfl)) (pmV p rfl fun H' e => ⟨dx, _, e _ _ h1⟩)) fun H1 e1 => ?_
    have hc1 := hc.ex e1
    refine (ev_prop (ev_var rfl) (e1 _ _ h1) (pmV (p, T, F) rfl fun H' e => hc1.ex e)) H1 (Ex.refl H1) _ fun H2 e2 => ?_
    refine (el_call (xs := (rootM T.length F).map nv) (ea1 (ev_var rfl)) (pmL (p, T, F) rfl fun H' e => hc1.ex (e2.trans e))) H2 (Ex.refl H2) _ fun l H3 hl e3 h3 => ?_
    exact ⟨(T, rootM T.length F, l), rfl, ⟨hc.tg, sq_of h3, fun m hm => rootM_lt hm, by have := rootM_len T.length F; show (rootM T.length F).length < 64; omega⟩, fun q H4 hq e4 h4 => k q H4 (fresh_back ((e1.trans e2).trans e3) hq) (((e1.trans e2).trans e3).trans e4) h4⟩

def spcount_down (K : PySem.W.Frag) (C : Addr) : Sp := Pm (fun a : Addr × List Nat × List Nat => [.ref a.1]) (fun a H => Co K C H a.1 a.2.1 a.2.2 ∧ (rootM a.2.1.length a.2.2).length ≤ 10) fun a H Q => RetV (nv (cdM (rootM a.2.1.length a.2.2))) H Q
theorem all_flat {ys zs : List Nat} {p b : Nat → Nat → Bool} : (ys.flatMap fun y => (zs.filter (p y)).map (b y)).all id = ys.all fun y => zs.all fun z => !p y z || b y z := by
  rw [List.all_flatMap]
  congr 1
  funext y
  rw [List.all_map, List.all_filter]
  rfl
theorem okcount_down (D : Defs K mg) : FnOk P w K mg base CX0 4 D.a_count_down D.d_count_down ["closer"] (spcount_down K D.C) := by
  have G_check_closer : FnOk P w K mg base CX0 1 D.a_check_closer D.d_check_closer ["value"] (spcheck_closer K D.C) := okcheck_closer D
  have G_root_masks : FnOk P w K mg base CX0 3 D.a_root_masks D.d_root_masks ["closer"] (sproot_masks K D.C) := okroot_masks D
  have G_is_inside : FnOk P w K mg base CX0 1 D.a_is_inside D.d_is_inside ["one", "other"] (spis_inside K D.C) := okis_inside D
  refine D.F_count_down.ok sccount_down (fun vs H Q E h => ?_) (fun cdv A outer s H vs Q E hr h => ?_)
  · obtain ⟨_, rfl, _⟩ := h; rfl
  · obtain ⟨⟨p, T, F⟩, rfl, ⟨hc, hr10⟩, k⟩ := h
    have hc : Co K D.C H p T F := hc
    have hr10 : (rootM T.length F).length ≤ 10 := hr10
    have k : RetV (nv (cdM (rootM T.length F))) H Q := k
    obtain ⟨dx, a, t, h1, h2, h3⟩ := hc.at_
    generalize hR : rootM T.length F = R at hr10 k
    have h2p : 2 ^ R.length ≤ 2 ^ 10 := Nat.pow_le_pow_right (by decide) hr10
    refine ⟨_, 
          (pss_cons (ps_expr (pe_call G_check_closer (hr.mono (by decide)) rfl D.g_check_closer D.F_check_closer.kp (b_check_closer D) .nil pass0 (pa_cons (pv 0) pa_nil)))
          (pss_cons (ps_asg (pe_tup (pa_cons (pe_call G_root_masks (hr.mono (by decide)) rfl D.g_root_masks D.F_root_masks.kp (b_root_masks D) .nil pass0 (pa_cons (pv 0) pa_nil)) (pa_cons pe_int pa_nil))) (pg_tup rfl (pgs_cons (pg_name (i := 1) sccount_down.nd rfl (Or.inr rfl)) (pgs_cons (pg_name (i := 2) sccount_down.nd rfl (Or.inl rfl)) pgs_nil))))
          (pss_cons (ps_for PassesOwn.never rfl (pi_range1 rfl D.n_range (pa_cons (pe_op op_shl pe_int (pe_callB call_len_seq (by rfl) D.n_len PySem.boot_len (pa_cons (pv 1) pa_nil))) pa_nil)) (pg_name (i := 3) sccount_down.nd rfl (Or.inr rfl))
            (pss_cons (ps_set (i := 4) sccount_down.nd rfl (Or.inr rfl) (pe_lc rfl sccount_down.nd (pi_range1 rfl D.n_range (pa_cons (pe_callB call_len_seq (by rfl) D.n_len PySem.boot_len (pa_cons (pv 1) pa_nil)) pa_nil)) (blkOk_by (own := [("k", 5)]) (by kernel_rfl)) (fun _ _ _ _ _ => (pg_name (i := 5) sccount_down.nd rfl (Or.inl rfl))) (fun _ _ _ _ _ => (pts_one (pt_cmpR op_eq (pe_op op_and (pe_op op_shr (pv 3) (pv 5)) pe_int) pe_int (nomark _)))) (fun _ _ _ _ _ => (pe_ix (ix_list : IxR _ (rIxL K)) (pv 1) (pv 5) (fun _ _ => rfl)))))
            (pss_one (ps_if (pt_val (pe_callB (cr_all rfl) (by rfl) D.n_all (by decide +kernel) (pa_cons (pe_lc2 (vs1 := [7]) rfl sccount_down.nd (pi_list (pv 4)) (blkOk_by (own := [("one", 6), ("each", 7)]) (by kernel_rfl)) (by decide) (fun _ _ _ _ _ => (pg_name (i := 6) sccount_down.nd rfl (Or.inl rfl))) (fun _ _ _ _ _ => pts_nil) (fun _ _ _ _ _ => (pi_list (pv 1) : PI _ _ _ (iList K _))) (fun _ _ _ _ _ => (pg_name (i := 7) sccount_down.nd rfl (Or.inl rfl))) (fun _ _ _ _ _ => (pts_one (pt_val (pe_call G_is_inside (hr.mono (by decide)) rfl D.g_is_inside D.F_is_inside.kp (b_is_inside D) .nil pass0 (pa_cons (pv 7) (pa_cons (pv 6) pa_nil)))))) (fun _ _ _ _ _ => (pe_cmpR (op_in_seq : OpR _ _ (rIn K false)) (pv 7) (pv 4) rfl))) pa_nil)))
              (pss_one (ps_set (i := 2) sccount_down.nd rfl (Or.inl rfl) (pe_op op_add (pv 2) pe_int)))
              (pss_nil)))))
          (pss_one (ps_ret (pv 2)))))), ?_⟩
    refine q_drop (v := .non) (ev_call (ea1 (ev_var rfl)) (pmV p rfl fun H' e => ⟨dx, _, e _ _ h1⟩)) fun H1 e1 => ?_
    have hc1 := hc.ex e1
    refine (el_call (xs := R.map nv) (ea1 (ev_var rfl)) (hR ▸ pmL (p, T, F) rfl fun H' e => hc1.ex e)) H1 (Ex.refl H1) _ fun l H2 hl e2 h2 => ?_
    refine ⟨by show 2 ≤ sizeLine; decide, fun tp htp => ⟨tp, _, rfl, st_of upd_same, rfl, _, _, rfl, _, _, rfl, rfl, ?_⟩⟩
    have e3 := Ex.new (o := .tup [.ref l, nv 0]) htp
    refine q_forR1 (n := ((2 ^ R.length : Nat) : Int)) (ea1 (ev_is (ev_op ev_c (ev_cb (ea1 (ev_var rfl)) (rc_len (.inl (sq_of (e3 _ _ h2))))) (rv_shl (a := 1) (by decide) (by rw [List.length_map]; omega))) (by rw [Nat.one_mul, List.length_map]))) ⟨Int.natCast_nonneg _, by omega⟩
      (fun i σ H' => ∃ u v, σ = [some (.ref p), some (.ref l), some (nv (((List.range (2 ^ R.length)).take i).filter fun num => dnOk R (takM R num)).length), u, v, none, none, none] ∧ Ex H2 H')
      (fun H4 e4 => ⟨none, none, rfl, e3.trans e4⟩) (fun i σ H' hi ⟨u, v, es, e4⟩ => ?_) (fun σ H' ⟨u, v, es, e4⟩ => ?_)
    · subst es
      have hi : i < 2 ^ R.length := by omega
      have hl4 := e4 _ _ h2
      refine q_asgL (xs := (takM R i).map nv) (el_is (el_R (m := (R.length : Int)) (n := R.length) (fun k => decide (i / 2 ^ k % 2 = 1)) (fun k => nv (R.getD k 0)) (ea1 (ev_is (ev_cb (ea1 (ev_var rfl)) (rc_len (.inl (sq_of hl4)))) (by rw [List.length_map]))) (Int.toNat_natCast _) (by omega) (fun _ => rfl)
        (fun k hk H5 e5 => et_is (et_test (ev_op (ev_op (ev_op (ev_var rfl) (ev_var rfl) rv_shr) ev_c (rv_and (b := 1))) ev_c (rv_eqN (b := 1)))) (by rw [Nat.and_one_is_mod]))
        (fun k hk H5 e5 _ => ev_op (ev_var rfl) (ev_var rfl) (rv_ixLn (sq_of (e5 _ _ hl4)) (nv_getD hk)))) (by unfold takM; rw [List.map_map]; rfl)) fun tk H5 htk e5 h5 => ?_
      have htl : (takM R i).length ≤ 10 := by
        unfold takM
        rw [List.length_map]
        have := filter_len (fun k => decide (i / 2 ^ k % 2 = 1)) (List.range R.length)
        rw [List.length_range] at this
        omega
      have hstep : ((List.range (2 ^ R.length)).take (i + 1)).filter (fun num => dnOk R (takM R num)) = ((List.range (2 ^ R.length)).take i).filter (fun num => dnOk R (takM R num)) ++ if dnOk R (takM R i) = true then [i] else [] := filt_take (List.getElem?_range hi)
      refine s_when (b := dnOk R (takM R i)) (et_B (ev_is (ev_all (bs := (takM R i).flatMap fun y => (R.filter fun z => inc z y).map fun z => decide (z ∈ takM R i)) (el_is (el_LL (ys := takM R i) (zs := R) (φ := nv) (ψ := nv) (fun y z => inc z y) (fun y z => .bl (decide (z ∈ takM R i))) (ev_var rfl) (sq_of h5) (by omega) (by omega)
        (fun _ => rfl) (fun y _ H6 e6 => ev_var rfl) (sq_of (e5 _ _ hl4)) (fun _ _ => rfl) (fun y _ z _ H6 e6 => et_B (ev_call (ea2 (ev_var rfl) (ev_var rfl)) (pmV (z, y) rfl fun _ _ => trivial))) (fun y _ z _ H6 e6 _ => ev_op (ev_var rfl) (ev_var rfl) (rv_inN (sq_of (e6 _ _ h5)))))
        (by rw [List.map_flatMap]; congr 1; funext y; rw [List.map_map]; rfl))) (by rw [all_flat]; rfl))) (fun hb H6 e6 => ?_) fun hb H6 e6 => ⟨some (nv i), some (.ref tk), ?_, (e4.trans e5).trans e6⟩
      · refine s_asg (ev_op (ev_var rfl) ev_c rv_add1) fun H7 e7 => ⟨some (nv i), some (.ref tk), ?_, ((e4.trans e5).trans e6).trans e7⟩
        rw [hstep, if_pos hb, List.length_append]
        rfl
      · rw [hstep, if_neg (by rw [hb]; decide), List.append_nil]
        rfl
    · subst es
      rw [Int.toNat_natCast, List.take_of_length_le (by rw [List.length_range]; exact Nat.le_refl _)]
      exact s_ret (v := nv (cdM R)) (ev_var rfl) fun H7 e7 => k H7 (((e1.trans e2).trans e4).trans e7)

end
end K31

set_option Elab.async false
set_option linter.all false
set_option maxRecDepth 100000
set_option maxHeartbeats 4000000
/-! Dicts keyed by tuples: setdefault, values. -/
namespace K31
open PySem PySem.Spec PyProof.Rows L2 Evl
section
variable {X : Cx} {pins : List (Addr × Obj)} {σ : L2.St} {H : Hp} {s : Shared} {a b : Addr} {r : Value} {d : V} {k : List Key} {A : Around} {E : Value → Shared → Prop}
theorem setd_tup {kvs : List (List Key × V)} {Q : Value → Shared → Prop} (hu : A.units + 1 < cLine) (I : Inv X pins σ H s) (e : H a = some (.dT kvs)) (eb : H b = some (.tup (k.map kV))) (rd : RelV d r) (hl : kvs.length < sizeLine)
    (h1 : ∀ v, valV kvs k = some v → ∀ (w' : Value) (s' : Shared), Inv X pins σ H s' → RelV v w' → Q w' s') (h2 : valV kvs k = none → ∀ (w' : Value) (s' : Shared), Inv X pins σ (upd H a (.dT (putK kvs k d))) s' → RelV d w' → Q w' s') :
    wpAny (model X.prog X.w) A (call (.builtin "dict.setdefault") [.ref a, .ref b, r]) Q E s := by
  obtain ⟨z, hd, xs, rel, dd⟩ := dt_of I.hok e
  have q := rel.val k
  have hz : xs.length ≤ sizeLine := (Paired.length rel) ▸ z
  refine call_setdefault_heap (hsz := hz) (tupleKind_room_in1 hu) (key_of I.hok eb) hd dd (fun p hp => ?_) fun hn h' dd' hs => ?_
  · rw [hp] at q
    cases q0 : valV kvs k with
    | none => rw [q0] at q; exact (show False from q).elim
    | some v0 => rw [q0] at q; exact h1 v0 q0 _ _ (I.tok _) q
  · rw [hn] at q
    cases q0 : valV kvs k with
    | some v0 => rw [q0] at q; exact (show False from q).elim
    | none =>
      have l2 : (putK kvs k d).length ≤ sizeLine := Nat.le_trans (length_putK kvs k d) hl
      obtain ⟨o9, es9, ep9, g1, g2, g3, g4, _, g5⟩ := dd'
      exact h2 q0 _ _ (d_write I (by rw [e]; exact True.intro) hs ⟨o9, g1⟩ ⟨l2, hd, _, (rel.put k eb rd).keeps fun c ys ec => (by rw [upd_ne (ne_of ec e (fun z => nomatch z))]; exact ec), o9, es9, ep9, g1, g2, g3, g4, g5⟩) rd
end
/-- d.setdefault(k, z), k a tuple -/
def tDSetdT (td ty tx : TE) : TE := fun σ H Q => td σ H fun x H1 => ∃ a, x = .ref a ∧ IsD H1 a ∧ ty σ H1 fun y H2 => tx σ H2 fun z H3 => ∃ (kvs : List (List Key × V)) (k : List Key) (b : Addr), H3 a = some (.dT kvs) ∧ y = .ref b ∧ H3 b = some (.tup (k.map kV)) ∧ kvs.length < sizeLine ∧
  (∀ v, valV kvs k = some v → Q v H3) ∧ (valV kvs k = none → Q z (upd H3 a (.dT (putK kvs k z))))
/-- the values of the locked dict at d -/
def Itdt (d : Addr) (o : Obj) (kvs : List (List Key × V)) : It :=
  ⟨fun i H => i < kvs.length ∧ H d = some (.frz o (.dT kvs)), fun i H x H' => (∃ k, kvs[i]? = some (k, x)) ∧ H' = H, fun i H => kvs.length ≤ i ∧ H d = some (.frz o (.dT kvs))⟩
def iValsT (td : TE) : TI := fun σ H R => td σ H fun x H1 => ∃ d kvs, x = .ref d ∧ H1 d = some (.dT kvs) ∧ ∀ o, R (Itdt d o kvs) (upd H1 d (.frz o (.dT kvs)))
section
variable {X : Cx} {o e f : Expr} {td ty tx : TE} {apos cpos : Pos}
theorem pe_dsetdT (hu : X.A.units + 1 < cLine) (ho : PE X o td) (he : PE X e ty) (hf : PE X f tx) (m : M2 X o "setdefault" apos e f cpos) : PE X (.Call (.Attribute o "setdefault" apos) [e, f] [] cpos) (tDSetdT td ty tx) := by
  refine ⟨fun pins s σ H Q I h => ?_⟩
  refine wpAny_Call_method m.base m.few m.line PySem.F.plainAttrs_dict PySem.F.slot_dict_setdefault PySem.F.type_dict_setdefault (thn (ho.run pins s σ H _ I h) fun v0 s1 ⟨x, H1, I1, rx, a, ex, id1, q1⟩ => ?_)
  subst ex
  cases rx
  obtain ⟨t1, t2, _⟩ := isD_at I1 id1
  refine ⟨t1, t2, ?_⟩
  rw [m.trees]
  refine Calls.callWith_builtin rfl (Calls.evalArgs_plain (Calls.spliced_cons (thn (he.run pins s1 σ H1 _ I1 q1) fun v1 s2 ⟨y, H2, I2, ry, q2⟩ =>
    Calls.spliced_cons (thn (hf.run pins s2 σ H2 _ I2 q2) fun v2 s3 ⟨z, H3, I3, rz, kvs, k, b, ea, ey, eb, hl, q3, q4⟩ => Calls.spliced_nil ?_))))
  subst ey
  cases ry
  exact setd_tup hu I3 ea eb rz hl (fun v hv w' s4 I4 rw' => ⟨v, _, I4, rw', q3 v hv⟩) fun hn w' s4 I4 rw' => ⟨z, _, I4, rw', q4 hn⟩
theorem frzT_vals {pins : List (Addr × Obj)} {σ : L2.St} {H : Hp} {s : Shared} {d : Addr} {ob : Obj} {kvs : List (List Key × V)} (I : Inv X pins σ H s) (h : H d = some (.frz ob (.dT kvs))) :
    (d == sysModules) = false ∧ ∃ (es : Array DictEntry) (ep : Nat), s.heap.get? d = some ob ∧ ob.ExactDict ∧ ob.data = .dict es ep ∧ es.size = kvs.length ∧ ∀ (i : Nat) (hi : i < es.size) (k : List Key) (v : V), kvs[i]? = some (k, v) → RelV v es[i].val := by
  obtain ⟨hd, z, hs, xs, pr, o', es, ep, ho, hx, hdt, he, _⟩ := I.hok d _ h
  rw [hd] at ho
  cases ho
  have l1 : es.size = xs.length := size_of_entries he
  refine ⟨hs, es, ep, hd, hx, hdt, l1.trans (Paired.length pr).symm, fun i hi k v e => ?_⟩
  obtain ⟨c, hc, _, _, e3⟩ := paired_get pr e
  have q := entry_at he i
  rw [hc, Array.getElem?_eq_getElem hi] at q
  have q2 := Option.some.inj q
  rw [q2]
  exact e3
theorem turn_valsT {P : Program} {w : World} {K : PySem.W.Frag} {tg : Expr} {d : Addr} {ob : Obj} {es : Array DictEntry} {ep : Nat} {kvs : List (List Key × V)} (it : Addr) (hod : ob.data = .dict es ep) : Turn P w K tg (Itdt d ob kvs) [it] it (fun i h => h.IsValIter it d i kvs.length ep) where
  mem := List.mem_singleton.mpr rfl
  obj := fun i h st b hb => by
    obtain rfl := List.mem_singleton.mp hb
    obtain ⟨oi, e, c, dd⟩ := st
    exact ⟨oi, e, fun v z => by rw [dd] at z; cases z⟩
  keep := fun i h h' st k => st.at fun oi e => k it (List.mem_singleton.mpr rfl) oi e
  item := by
    intro X hP hw hK hc i pins s σ H E I hf st hg
    subst hP hw hK
    obtain ⟨hi, hd⟩ := hg
    obtain ⟨f0, f1, f2, f3, f4, f5⟩ := hf it (List.mem_singleton.mpr rfl)
    obtain ⟨hs, es', ep', hgd, hx, hdt, hsz, ent⟩ := frzT_vals I hd
    obtain ⟨rfl, rfl⟩ := dict_ep hod hdt
    obtain ⟨⟨k, v⟩, hkv⟩ : ∃ p, kvs[i]? = some p := ⟨kvs[i], List.getElem?_eq_getElem hi⟩
    have hi' : i < es'.size := hsz.symm ▸ hi
    rw [← hsz] at st
    refine wpAny_pyNext_values_item_raw st ⟨ob, hgd, hx, hdt⟩ hi' fun h' st' sb => ?_
    have I1 : Inv X pins σ H { s with heap := h' } := I.turned (t' := s.toks) (fun b ob hb e => (sb.2 b hb).trans e) f0 f1 f3 f4 f5
    obtain ⟨oi, e, c, dd⟩ := id st'
    refine ⟨es'[i].val, rfl, go_of (s := { s with heap := h' }) e c dd (by decide) ⟨v, H, I1, ent i hi' k v hkv, ⟨⟨k, hkv⟩, rfl⟩, ?_, fun b hb => (hf b hb).1⟩⟩
    show h'.IsValIter it d (i + 1) kvs.length _
    rw [← hsz]
    exact st'
  done := by
    intro X hP hw hK hc i pins s σ H E I hf st hg
    subst hP hw hK
    obtain ⟨hi, hd⟩ := hg
    obtain ⟨f0, f1, f2, f3, f4, f5⟩ := hf it (List.mem_singleton.mpr rfl)
    obtain ⟨hs, es', ep', hgd, hx, hdt, hsz, ent⟩ := frzT_vals I hd
    obtain ⟨rfl, rfl⟩ := dict_ep hod hdt
    rw [← hsz] at st
    exact wpAny_pyNext_values_end_raw (I.ok.hd hc) st ⟨ob, hgd, hx, hdt⟩ (by omega) fun h' eb => ⟨rfl, I.turned (t' := s.toks) (fun b ob hb e => eb b ob hb e) f0 f1 f3 f4 f5⟩
  self := fun A i s Q E st h => wpAny_pyIter_valiter st h
theorem pi_valuesT {tg : Expr} (he : PE X e td) (hbase : attributeBase e "values" X.env (eval e X.env) = eval e X.env := by rfl) (hline : (apos.endLine == cpos.line) = true := by rfl) : PI X tg (.Call (.Attribute e "values" apos) [] [] cpos) (iValsT td) := by
  refine ⟨fun pins s σ H R I h => ?_⟩
  refine wpAny_Call_method (T := "dict") (id := "dict.values") hbase rfl hline F.plainAttrs_dict F.slot_dict_values F.type_dict_values (thn (he.run pins s σ H _ I h) fun v0 s1 ⟨x, H1, I1, rx, d, kvs, ex, hd0, q0⟩ => ?_)
  subst ex
  cases rx
  obtain ⟨ob, I1⟩ := I1.lock hd0 True.intro
  have q := q0 ob
  generalize hH2 : upd H1 d (.frz ob (.dT kvs)) = H2 at I1 q
  have hd : H2 d = some (.frz ob (.dT kvs)) := by rw [← hH2]; exact upd_same
  obtain ⟨hs, es, ep, hgd, hx, hdt, hsz, ent⟩ := frzT_vals I1 hd
  have raw : s1.heap.DictRaw d es ep := ⟨ob, hgd, hx, hdt⟩
  refine ⟨raw.typeIs, fun b e => ?_, ?_⟩
  · cases e
    exact ⟨ob, hgd, hx.2.1⟩
  have I2 : Inv X pins σ H2 { s1 with heap := s1.heap.push { cls := .type "dict_values", data := .fields #[.ref d] } } := I1.kept (t' := s1.toks) fun b ob q => Heap.get?_push_of_some _ q
  have fin : wpAny (model X.prog X.w) X.A (pyIter (.ref s1.heap.objs.size)) (PIE X pins σ tg R) X.xe { s1 with heap := s1.heap.push { cls := .type "dict_values", data := .fields #[.ref d] } } := by
    refine wpAny_pyIter_values_raw (d := d) ⟨_, Heap.get?_push_size _ rfl, rfl, rfl⟩ (raw.at fun _ e => Heap.get?_push_of_some _ e) (pi_one (tk := s1.toks) I2 _ (turn_valsT _ hdt) ⟨_, Heap.get?_push_size _ rfl, rfl, ?_⟩ q)
    rw [hsz] <;> rfl
  show wpAny _ _ (callWith cpos (.builtin "dict.values") [.ref d] [] []) _ X.xe s1
  exact method_meetsIn F.slot_dict_values F.entry_dict_values rfl (PySem.evalArgs_none ⟨rfl, raw.typeIs, F.args_dict_values_1 _, _, meets_dict_values_raw d hs, ⟨es, ep, raw⟩, fin⟩)
end
end K31

set_option Elab.async false
set_option linter.all false
set_option maxRecDepth 100000
set_option maxHeartbeats 4000000
/-! Words: comparing short lists, dicts that group things by pairs. -/
namespace K31
open PySem PySem.Spec PyProof.Rows L2 Evl
section
variable {K : PySem.W.Frag} {σ : L2.St} {H H' : Hp} {ta tb te tx : TE} {v : V}
def dOf : V → PyData
  | .int i => .int i
  | .str x => .str x
  | .bl b => .bool b
  | _ => .none
def plainV : V → Bool
  | .int _ => true
  | .bl _ => true
  | .str x => PyData.strOk x
  | _ => false
theorem dp_plain {v : V} (h : plainV v = true) : Dp K H v (dOf v) := by
  cases v <;> first | exact .int _ | exact .str _ | exact .bl _ | cases h
theorem dpAll_plain : ∀ {xs : List V}, xs.all plainV = true → DpAll K H xs (xs.map dOf)
  | [], _ => .nil
  | x :: xs, h => by
    rw [List.all_cons, Bool.and_eq_true] at h
    exact .cons (dp_plain h.1) (dpAll_plain h.2)
theorem lay_plain : ∀ {xs : List V}, xs.all plainV = true → PyData.canLayAll0 (xs.map dOf) = true ∧ PyData.depthAll (xs.map dOf) ≤ 1
  | [], _ => ⟨rfl, Nat.zero_le _⟩
  | x :: xs, h => by
    rw [List.all_cons, Bool.and_eq_true] at h
    obtain ⟨h1, h2⟩ := lay_plain h.2
    have hx : PyData.canLay0 (dOf x) = true ∧ PyData.depth (dOf x) ≤ 1 := by
      cases x with
      | int i => exact ⟨rfl, by show PyData.depth (.int i) ≤ 1; simp [PyData.depth]⟩
      | bl b => exact ⟨rfl, by show PyData.depth (.bool b) ≤ 1; simp [PyData.depth]⟩
      | str y => exact ⟨h.1, by show PyData.depth (.str y) ≤ 1; simp [PyData.depth]⟩
      | _ => exact (nomatch h.1)
    refine ⟨?_, ?_⟩
    · show (PyData.canLay0 (dOf x) && PyData.canLayAll0 (xs.map dOf)) = true
      rw [hx.1, h1]; rfl
    · show max (PyData.depth (dOf x)) (PyData.depthAll (xs.map dOf)) ≤ 1
      exact Nat.max_le.mpr ⟨hx.2, h2⟩
theorem shaped_list {xs : List V} (h : xs.all plainV = true) : SeqAt.shaped (.list (xs.map dOf)) = true := by
  obtain ⟨h1, h2⟩ := lay_plain h
  refine Bool.and_eq_true_iff.mpr ⟨h1, decide_eq_true ?_⟩
  show PyData.depthAll (xs.map dOf) + 1 ≤ 64
  omega
theorem shaped_tup {xs : List V} (h : xs.all plainV = true) : SeqAt.shaped (.tuple (xs.map dOf)) = true := by
  obtain ⟨h1, h2⟩ := lay_plain h
  refine Bool.and_eq_true_iff.mpr ⟨h1, decide_eq_true ?_⟩
  show PyData.depthAll (xs.map dOf) + 1 ≤ 64
  omega
theorem eqv_nil {xs : List V} : PyData.eqv (.list (xs.map dOf)) (.list []) = xs.isEmpty := by cases xs <;> rfl
theorem rv_isE {p q : Addr} {xs : List V} (hp : SqL K H p xs) (hq : SqL K H q []) (h : xs.all plainV = true) : RV (rEqD K) (.ref p) (.ref q) H (.bl xs.isEmpty) := fun H1 e _ k =>
  ⟨_, _, .lst (ex_l e hp) (dpAll_plain h), .lst (ex_l e hq) .nil, shaped_list h, rfl, by rw [eqv_nil]; exact k H1 (Ex.refl H1)⟩
theorem rv_notE {p q : Addr} {xs : List V} (hp : SqL K H p xs) (hq : SqL K H q []) (h : xs.all plainV = true) : RV (rNeD K) (.ref p) (.ref q) H (.bl !xs.isEmpty) := fun H1 e _ k =>
  ⟨_, _, .lst (ex_l e hp) (dpAll_plain h), .lst (ex_l e hq) .nil, shaped_list h, rfl, by rw [eqv_nil]; exact k H1 (Ex.refl H1)⟩
theorem ev_isE {xs : List V} (h : EvL te σ H xs) (hp : xs.all plainV = true) : Ev (tOp (rEqD K) te (tLst tNil)) σ H (.bl xs.isEmpty) := ev_opLL h (el_lst ea_nil (Nat.zero_le _)) fun _ _ _ h1 h2 _ => rv_isE (sq_of h1) (sq_of h2) hp
theorem ev_notE {a : Addr} {xs : List V} (h : Ev te σ H (.ref a)) (hl : SqL K H a xs) (hp : xs.all plainV = true) : Ev (tOp (rNeD K) te (tLst tNil)) σ H (.bl !xs.isEmpty) :=
  ev_opL h (el_lst ea_nil (Nat.zero_le _)) fun _ _ h2 e => rv_notE (ex_l e hl) (sq_of h2) hp
theorem plain_nv (M : List Nat) : (M.map nv).all plainV = true := by rw [List.all_map]; exact List.all_eq_true.mpr fun _ _ => rfl
theorem rv_eqPair {p q : Addr} {a b c d : Nat} (hp : SqT K H p [nv a, nv b]) (hq : SqT K H q [nv c, nv d]) : RV (rEqD K) (.ref p) (.ref q) H (.bl (decide ((a, b) = (c, d)))) := fun H1 e _ k =>
  ⟨_, _, .tup (ex_t e hp) (dpAll_plain rfl), .tup (ex_t e hq) (dpAll_plain rfl), shaped_tup rfl, shaped_tup rfl, by
    have z : PyData.eqv (.tuple ([nv a, nv b].map dOf)) (.tuple ([nv c, nv d].map dOf)) = decide ((a, b) = (c, d)) := by
      show (((a : Int) == (c : Int)) && (((b : Int) == (d : Int)) && true)) = _
      rw [Bool.eq_iff_iff]
      simp
      omega
    rw [z]
    exact k H1 (Ex.refl H1)⟩
end
/-! ### groups -/
def tk (k : Nat × Nat) : List L2.Key := [Sum.inl (k.1 : Int), Sum.inl (k.2 : Int)]
theorem tk_inj {a b : Nat × Nat} (h : tk a = tk b) : a = b := by
  obtain ⟨a1, a2⟩ := a
  obtain ⟨b1, b2⟩ := b
  simp [tk] at h
  exact Prod.ext (by omega) (by omega)
abbrev kvT (L : List ((Nat × Nat) × Addr)) : List (List L2.Key × V) := L.map fun t => (tk t.1, V.ref t.2)
theorem valT_none {L : List ((Nat × Nat) × Addr)} {k : Nat × Nat} (h : ∀ t ∈ L, t.1 ≠ k) : valV (kvT L) (tk k) = none := by
  unfold valV
  rw [List.find?_eq_none.mpr ?_]
  · rfl
  · intro kv hkv
    obtain ⟨t, ht, rfl⟩ := List.mem_map.mp hkv
    simp only [decide_eq_true_eq]
    exact fun z => h t ht (tk_inj z)
theorem valT_some : ∀ {L : List ((Nat × Nat) × Addr)} {t : (Nat × Nat) × Addr}, t ∈ L → (L.map (·.1)).Nodup → valV (kvT L) (tk t.1) = some (.ref t.2)
  | [], _, h, _ => (nomatch h)
  | u :: L, t, h, hn => by
    rw [List.map_cons, List.nodup_cons] at hn
    unfold valV kvT
    rw [List.map_cons, List.find?_cons]
    by_cases e : u.1 = t.1
    · rcases List.mem_cons.mp h with rfl | q
      · simp
      · exact absurd (List.mem_map_of_mem (f := (·.1)) q) (e ▸ hn.1)
    · rcases List.mem_cons.mp h with rfl | q
      · exact absurd rfl e
      · have z : decide (tk u.1 = tk t.1) = false := decide_eq_false fun y => e (tk_inj y)
        simp only [z]
        exact valT_some q hn.2
structure Grp (H0 H : Hp) (d : Addr) (key : Nat → Nat × Nat) (φ : Nat → V) (l : List Nat) (L : List ((Nat × Nat) × Addr)) : Prop where
  d0 : H0 d = none
  ex : Ex H0 H
  dt : H d = some (.dT (kvT L))
  kn : (L.map (·.1)).Nodup
  an : (L.map (·.2)).Nodup
  ln : L.length ≤ l.length
  ls : ∀ t ∈ L, H t.2 = some (.lst ((l.filter fun m => decide (key m = t.1)).map φ))
  fr : ∀ t ∈ L, H0 t.2 = none
  al : ∀ m ∈ l, ∃ t ∈ L, t.1 = key m
theorem nodup_fst {α β : Type} : ∀ {L : List (α × β)} {t u : α × β}, (L.map (·.1)).Nodup → t ∈ L → u ∈ L → t.1 = u.1 → t = u
  | [], _, _, _, h, _, _ => (nomatch h)
  | x :: L, t, u, hn, ht, hu, e => by
    rw [List.map_cons, List.nodup_cons] at hn
    rcases List.mem_cons.mp ht with rfl | ht2 <;> rcases List.mem_cons.mp hu with rfl | hu2
    · rfl
    · exact absurd (e ▸ List.mem_map_of_mem (f := (·.1)) hu2) hn.1
    · exact absurd (e ▸ List.mem_map_of_mem (f := (·.1)) ht2) hn.1
    · exact nodup_fst hn.2 ht2 hu2 e
theorem nodup_snd {α β : Type} : ∀ {L : List (α × β)} {t u : α × β}, (L.map (·.2)).Nodup → t ∈ L → u ∈ L → t.2 = u.2 → t = u
  | [], _, _, _, h, _, _ => (nomatch h)
  | x :: L, t, u, hn, ht, hu, e => by
    rw [List.map_cons, List.nodup_cons] at hn
    rcases List.mem_cons.mp ht with rfl | ht2 <;> rcases List.mem_cons.mp hu with rfl | hu2
    · rfl
    · exact absurd (e ▸ List.mem_map_of_mem (f := (·.2)) hu2) hn.1
    · exact absurd (e ▸ List.mem_map_of_mem (f := (·.2)) ht2) hn.1
    · exact nodup_snd hn.2 ht2 hu2 e
section
variable {K : PySem.W.Frag} {σ : L2.St} {H0 H H' : Hp} {td ty te : TE} {D : Ends} {d : Addr} {key : Nat → Nat × Nat} {φ : Nat → V} {l : List Nat} {L : List ((Nat × Nat) × Addr)} {m : Nat}
theorem Grp.new (h : H d = none) : Grp H (upd H d (.dT [])) d key φ [] [] :=
  ⟨h, Ex.new h, upd_same, .nil, .nil, Nat.le_refl _, fun t ht => (nomatch ht), fun t ht => (nomatch ht), fun m hm => (nomatch hm)⟩
theorem Grp.mono (G : Grp H0 H d key φ l L) (e : Ex H H') : Grp H0 H' d key φ l L :=
  ⟨G.d0, G.ex.trans e, e _ _ G.dt, G.kn, G.an, G.ln, fun t ht => e _ _ (G.ls t ht), G.fr, G.al⟩
theorem Grp.nd (G : Grp H0 H d key φ l L) {t : (Nat × Nat) × Addr} (ht : t ∈ L) : t.2 ≠ d := fun z => by
  have h := G.ls t ht
  rw [z, G.dt] at h
  cases h
theorem filt_app {p : Nat → Bool} : (l ++ [m]).filter p = l.filter p ++ if p m = true then [m] else [] := by
  rw [List.filter_append, List.filter_cons]
  cases p m <;> rfl
/-- known.setdefault(key, []).append(x) -/
theorem s_grp (G : Grp H0 H d key φ l L) (hl : l.length < 1000) (hd : Ev td σ H (.ref d)) (hk : ∀ H1, Ex H H1 → ∀ Q : VK, (∀ p H2, Ex H1 H2 → H2 p = some (.tup ((tk (key m)).map kV)) → Q (.ref p) H2) → ty σ H1 Q)
    (hv : ∀ H1, Ex H0 H1 → Ev te σ H1 (φ m)) (k : ∀ H' L', Grp H0 H' d key φ (l ++ [m]) L' → D.nx σ H') : tDrop (tBM K "list" rAppend (tDSetdT td ty (tLst tNil)) (tCons te tNil)) D σ H := by
  have hsz : ∀ p : Nat → Bool, ((l.filter p).map φ).length < 100000 := fun p => by
    rw [List.length_map]
    have := List.length_filter_le p l
    omega
  refine hd H (Ex.refl H) _ fun H1 e1 => ⟨d, rfl, .inr ⟨_, .inl (e1 _ _ G.dt)⟩, hk H1 e1 _ fun p H2 e2 hp => (show EvL (tLst tNil) σ H2 [] from el_lst ea_nil (Nat.zero_le _)) H2 (Ex.refl H2) _ fun q H3 hq e3 h3 => ?_⟩
  have hq0 : H0 q = none := fresh_back (G.ex.trans (e1.trans e2)) hq
  have G0 := G.mono (e1.trans e2)
  have G := G.mono ((e1.trans e2).trans e3)
  have hLl := G.ln
  refine ⟨_, tk (key m), p, G.dt, rfl, e3 _ _ hp, ?_, fun v hval => ?_, fun hn => ?_⟩
  · rw [List.length_map]
    exact sz_lt (by omega)
  · have ht : ∃ t ∈ L, t.1 = key m := Classical.byContradiction fun z => by
      rw [valT_none fun t ht e => z ⟨t, ht, e⟩] at hval
      cases hval
    obtain ⟨t, ht, et⟩ := ht
    rw [← et, valT_some ht G.kn] at hval
    cases hval
    have h9 := G.ls t ht
    refine ⟨.inl ⟨rfl, _, sq_of h9⟩, hv H3 G.ex H3 (Ex.refl H3) _ fun H4 e4 => ⟨t.2, _, φ m, rfl, rfl, e4 _ _ h9, sz_lt (hsz _), k _ L ⟨G.d0, (G.ex.trans e4).mut (G.fr t ht), ?_, G.kn, G.an, ?_, fun u hu => ?_, G.fr, fun x hx => ?_⟩⟩⟩
    · rw [upd_ne (G.nd ht).symm]; exact e4 _ _ G.dt
    · rw [List.length_append]; exact Nat.le_add_right_of_le G.ln
    · by_cases e : u.2 = t.2
      · obtain rfl := nodup_snd G.an hu ht e
        rw [upd_same, filt_app, if_pos (decide_eq_true et.symm), List.map_append]
        rfl
      · have e' : key m ≠ u.1 := fun z => e (by rw [nodup_fst G.kn hu ht (z.symm.trans et.symm)])
        rw [upd_ne e, filt_app, if_neg (by rw [decide_eq_false e']; decide), List.append_nil]
        exact e4 _ _ (G.ls u hu)
    · rcases List.mem_append.mp hx with q | q
      · exact G.al x q
      · rw [List.mem_singleton.mp q]; exact ⟨t, ht, et⟩
  · have hnone : ∀ t ∈ L, t.1 ≠ key m := fun t ht e => by
      rw [← e, valT_some ht G.kn] at hn
      cases hn
    have hqd : q ≠ d := fun z => by rw [z, G.dt] at h3; cases h3
    have hqL : ∀ t ∈ L, q ≠ t.2 := fun t ht z => by
      have h9 := G0.ls t ht
      rw [← z, hq] at h9
      cases h9
    have hput : putK (kvT L) (tk (key m)) (.ref q) = kvT (L ++ [(key m, q)]) := by
      rw [putK_new _ (valT_none hnone)]
      unfold kvT
      rw [List.map_append]
      rfl
    have hqu : (upd H3 d (.dT (putK (kvT L) (tk (key m)) (.ref q)))) q = some (.lst []) := by rw [upd_ne hqd]; exact h3
    have hno : l.filter (fun x => decide (key x = key m)) = [] := List.filter_eq_nil_iff.mpr fun x hx => by
      obtain ⟨t, ht, et⟩ := G.al x hx
      simp only [decide_eq_true_eq]
      exact fun z => hnone t ht (et.trans z)
    refine ⟨.inl ⟨rfl, _, sq_of hqu⟩, hv _ (G.ex.mut G.d0) _ (Ex.refl _) _ fun H4 e4 => ⟨q, [], φ m, rfl, rfl, e4 _ _ hqu, sz_lt (by decide), k _ (L ++ [(key m, q)]) ⟨G.d0, ((G.ex.mut G.d0).trans e4).mut hq0, ?_, ?_, ?_, ?_, fun u hu => ?_, fun u hu => ?_, fun x hx => ?_⟩⟩⟩
    · rw [upd_ne hqd.symm, ← hput]
      exact e4 _ _ upd_same
    · rw [List.map_append]
      refine List.nodup_append.mpr ⟨G.kn, List.nodup_cons.mpr ⟨(fun z => nomatch z), .nil⟩, fun x hx y hy e => ?_⟩
      obtain ⟨t, ht, rfl⟩ := List.mem_map.mp hx
      exact hnone t ht (e.trans (List.mem_singleton.mp hy))
    · rw [List.map_append]
      refine List.nodup_append.mpr ⟨G.an, List.nodup_cons.mpr ⟨(fun z => nomatch z), .nil⟩, fun x hx y hy e => ?_⟩
      obtain ⟨t, ht, rfl⟩ := List.mem_map.mp hx
      exact hqL t ht ((List.mem_singleton.mp hy).symm.trans e.symm)
    · rw [List.length_append, List.length_append]; exact Nat.add_le_add_right G.ln 1
    · rcases List.mem_append.mp hu with w | w
      · have hne : u.2 ≠ q := fun z => hqL u w z.symm
        rw [upd_ne hne, filt_app, if_neg (by rw [decide_eq_false fun z => hnone u w z.symm]; decide), List.append_nil]
        exact e4 _ _ (by rw [upd_ne (G.nd w)]; exact G.ls u w)
      · rw [List.mem_singleton.mp w, upd_same, filt_app, if_pos (decide_eq_true rfl), hno]
        rfl
    · rcases List.mem_append.mp hu with w | w
      · exact G.fr u w
      · rw [List.mem_singleton.mp w]; exact hq0
    · rcases List.mem_append.mp hx with w | w
      · obtain ⟨t, ht, et⟩ := G.al x w
        exact ⟨t, List.mem_append_left _ ht, et⟩
      · rw [List.mem_singleton.mp w]
        exact ⟨(key m, q), List.mem_append_right _ (List.mem_singleton.mpr rfl), rfl⟩
/-- for some in known.values() -/
theorem for_valsT {g : TG} {tb : TS} {o : Obj} (Pv : Nat → L2.St → Hp → Prop) (h0 : Pv 0 σ H) (hl : ∀ i σ H, i ≤ L.length → Pv i σ H → H d = some (.frz o (.dT (kvT L))))
    (hs : ∀ i t σ H, L[i]? = some t → Pv i σ H → g (.ref t.2) σ H fun σ2 H2 => tb { D with nx := Pv (i + 1), ct := Pv (i + 1), bk := D.nx } σ2 H2) (hd : ∀ σ H, Pv L.length σ H → D.nx σ H) :
    tFor (fun _ H R => R (Itdt d o (kvT L)) H) g tb D σ H := by
  have hkl : (kvT L).length = L.length := List.length_map ..
  refine ⟨fun i m σ H => m = L.length - i ∧ i ≤ L.length ∧ Pv i σ H, ⟨L.length, rfl, Nat.zero_le _, h0⟩, ?_⟩
  rintro i m σ H ⟨rfl, hi, p⟩
  have q := hl i σ H hi p
  by_cases hlt : i < L.length
  · refine .inr ⟨⟨hkl.symm ▸ hlt, q⟩, Pv (i + 1), fun σ' H' p' => ⟨L.length - (i + 1), by omega, rfl, hlt, p'⟩, fun x H' y => ?_⟩
    obtain ⟨⟨k, hk⟩, rfl⟩ := y
    rw [List.getElem?_map] at hk
    obtain ⟨t, ht, e⟩ := Option.map_eq_some_iff.mp hk
    cases e
    exact hs i t σ H' ht p
  · have e : i = L.length := by omega
    subst e
    exact .inl ⟨⟨hkl.symm ▸ Nat.le_refl _, q⟩, hd σ H p⟩
end
end K31

set_option Elab.async false
set_option linter.all false
set_option maxRecDepth 100000
set_option maxHeartbeats 4000000
namespace K31
open PySem PySem.Spec PyProof.Rows L2 Evl
open C8 (InsC call_isC pe_gc)
section
variable {P : Program} {w : World} {K : PySem.W.Frag} {mg : Str → Option Value} {base : Heap}
def keyM (n : Nat) (F : List Nat) (mid m : Nat) : Nat × Nat := (m &&& mid, (tbl n F).getD (m ||| mid) 0)
def pentOk (n : Nat) (F : List Nat) (mid : Nat) : Bool := (clM n F).all fun low => (clM n F).all fun e => !(decide (keyM n F mid e = keyM n F mid low) && (!decide (e = low) && inc low e))
def pentN (n : Nat) (F : List Nat) : Bool := (clM n F).all (pentOk n F)
def grpM (n : Nat) (F : List Nat) (mid : Nat) (k : Nat × Nat) : List Nat := (clM n F).filter fun m => decide (keyM n F mid m = k)
def abM (n : Nat) (F : List Nat) (mid : Nat) (k : Nat × Nat) (low : Nat) : List Nat := (grpM n F mid k).filter fun e => !decide (e = low) && inc low e
theorem mem_grpM {n : Nat} {F : List Nat} {mid m : Nat} {k : Nat × Nat} : m ∈ grpM n F mid k ↔ m ∈ clM n F ∧ keyM n F mid m = k := by
  unfold grpM
  rw [List.mem_filter, decide_eq_true_eq]
theorem pent_false {n : Nat} {F : List Nat} {mid low e : Nat} {k : Nat × Nat} (h1 : mid ∈ clM n F) (h2 : low ∈ grpM n F mid k) (h3 : e ∈ abM n F mid k low) : pentN n F = false := by
  obtain ⟨h4, h5⟩ := List.mem_filter.mp h3
  obtain ⟨a1, a2⟩ := mem_grpM.mp h2
  obtain ⟨b1, b2⟩ := mem_grpM.mp h4
  refine Bool.eq_false_iff.mpr fun z => ?_
  have z1 := List.all_eq_true.mp (List.all_eq_true.mp (List.all_eq_true.mp z mid h1) low a1) e b1
  rw [h5, decide_eq_true (b2.trans a2.symm)] at z1
  cases z1
theorem pentOk_of {n : Nat} {F : List Nat} {mid : Nat} (h : ∀ m ∈ clM n F, ∀ low ∈ grpM n F mid (keyM n F mid m), abM n F mid (keyM n F mid m) low = []) : pentOk n F mid = true := by
  refine List.all_eq_true.mpr fun low hl => List.all_eq_true.mpr fun e he => ?_
  have h1 := h low hl low (mem_grpM.mpr ⟨hl, rfl⟩)
  by_cases hk : keyM n F mid e = keyM n F mid low
  · have h2 := (List.filter_eq_nil_iff.mp h1) e (mem_grpM.mpr ⟨he, hk⟩)
    rw [Bool.not_eq_true] at h2
    rw [h2, Bool.and_false]
    rfl
  · rw [decide_eq_false hk]
    rfl
theorem s_valsT {D : Ends} {td : TE} {g : TG} {tb : TS} {σ : L2.St} {H : Hp} {d : Addr} {kvs : List (List L2.Key × V)} (h : Ev td σ H (.ref d)) (hk : H d = some (.dT kvs)) (k : ∀ H1 o, Ex H H1 → tFor (fun _ H R => R (Itdt d o kvs) H) g tb D σ (upd H1 d (.frz o (.dT kvs)))) : tFor (iValsT td) g tb D σ H :=
  h H (Ex.refl H) _ fun H1 e => ⟨d, kvs, rfl, e _ _ hk, fun o => k H1 o e⟩
def sppentagon_masks (K : PySem.W.Frag) (C : Addr) : Sp := Pm (fun a : Addr × List Nat × List Nat => [.ref a.1]) (fun a H => Co K C H a.1 a.2.1 a.2.2) fun a H Q => ∀ v H2, Ex H H2 → decide (v = .non) = pentN a.2.1.length a.2.2 → Q v H2
theorem okpentagon_masks (D : Defs K mg) : FnOk P w K mg base CX0 2 D.a_pentagon_masks D.d_pentagon_masks ["closer"] (sppentagon_masks K D.C) := by
  have G_closed_masks : FnOk P w K mg base CX0 1 D.a_closed_masks D.d_closed_masks ["closer"] (spclosed_masks K D.C) := okclosed_masks D
  have G_span_of : FnOk P w K mg base CX0 1 D.a_span_of D.d_span_of ["closer", "one", "other"] (spspan_of K D.C) := okspan_of D
  have G_is_inside : FnOk P w K mg base CX0 1 D.a_is_inside D.d_is_inside ["one", "other"] (spis_inside K D.C) := okis_inside D
  refine D.F_pentagon_masks.ok scpentagon_masks (fun vs H Q E h => ?_) (fun cdv A outer s H vs Q E hr h => ?_)
  · obtain ⟨_, rfl, _⟩ := h; rfl
  · obtain ⟨⟨p, T, F⟩, rfl, hc, k⟩ := h
    have hc : Co K D.C H p T F := hc
    have k : ∀ v H2, Ex H H2 → decide (v = V.non) = pentN T.length F → Q v H2 := k
    have h16 := pow16 hc.tg
    have hcl := clM_len T.length F
    have hu := hu_of hr
    refine ⟨_, 
          (pss_cons (ps_set (i := 1) scpentagon_masks.nd rfl (Or.inl rfl) (pe_call G_closed_masks (hr.mono (by decide)) rfl D.g_closed_masks D.F_closed_masks.kp (b_closed_masks D) .nil pass0 (pa_cons (pv 0) pa_nil)))
          (pss_cons (ps_for PassesOwn.never rfl (pi_list (pv 1)) (pg_name (i := 2) scpentagon_masks.nd rfl (Or.inl rfl))
            (pss_cons (ps_set (i := 3) scpentagon_masks.nd rfl (Or.inl rfl) pe_dnewT)
            (pss_cons (ps_for PassesOwn.never rfl (pi_list (pv 1)) (pg_name (i := 4) scpentagon_masks.nd rfl (Or.inl rfl))
              (pss_one (ps_expr (pe_bm PySem.F.plainAttrs_list PySem.F.slot_list_append PySem.F.type_list_append mt_append (pe_dsetdT hu (pv 3) (pe_tup (pa_cons (pe_op op_and (pv 4) (pv 2)) (pa_cons (pe_call G_span_of (hr.mono (by decide)) rfl D.g_span_of D.F_span_of.kp (b_span_of D) .nil pass0 (pa_cons (pv 0) (pa_cons (pv 4) (pa_cons (pv 2) pa_nil)))) pa_nil))) (pe_lst pa_nil) ⟨rfl, rfl, rfl, rfl⟩) (pa_cons (pv 4) pa_nil)))))
            (pss_one (ps_for PassesOwn.never rfl (pi_valuesT (pv 3)) (pg_name (i := 5) scpentagon_masks.nd rfl (Or.inl rfl))
              (pss_one (ps_for PassesOwn.never rfl (pi_list (pv 5)) (pg_name (i := 6) scpentagon_masks.nd rfl (Or.inr rfl))
                (pss_cons (ps_setLc (i := 7) rfl scpentagon_masks.nd rfl rfl (sw_true rfl rfl rfl (by decide +kernel)) (pi_list (pv 5)) (blkOk_by (own := [("each", 8)]) (by kernel_rfl)) (fun _ _ _ _ _ => (pg_name (i := 8) scpentagon_masks.nd rfl (Or.inl rfl))) (fun _ _ _ _ _ => (pts_one (PW.pt (pw_and (pt_cmpR op_ne (pv 8) (pv 6) (nomark _)) (pw_and1 (pt_val (pe_call G_is_inside (hr.mono (by decide)) rfl D.g_is_inside D.F_is_inside.kp (b_is_inside D) .nil pass0 (pa_cons (pv 6) (pa_cons (pv 8) pa_nil))))))))) (fun _ _ _ _ _ => (pv 8)))
                (pss_one (ps_if (pt_cmpR (op_neD hr.units) (pv 7) (pe_lst pa_nil) (nomark _))
                  (pss_one (ps_ret (pe_tup (pa_cons (pv 6) (pa_cons (pv 2) (pa_cons (pe_ix ix_list (pv 7) pe_int (fun _ _ => rfl)) pa_nil))))))
                  (pss_nil)))))))))))
          (pss_one (ps_ret pe_non)))), ?_⟩
    refine q_asgL (xs := (clM T.length F).map nv) (el_call (ea1 (ev_var rfl)) (pmL (p, T, F) rfl fun H' e => hc.ex e)) fun c H1 hcn e1 h1 => ?_
    refine q_forLn (ev_var rfl) (sq_of h1) (fun i σ H' => ∃ u2 u3 u4 u5 u6 u7, σ = [some (.ref p), some (.ref c), u2, u3, u4, u5, u6, u7, none] ∧ Ex H1 H' ∧ ∀ mid ∈ (clM T.length F).take i, pentOk T.length F mid = true)
      (fun H2 e2 => ⟨none, none, none, none, none, none, rfl, e2, fun m hm => by rw [List.take_zero] at hm; cases hm⟩)
      (fun i σ H' _ ⟨_, _, _, _, _, _, _, e, _⟩ => sq_of (e _ _ h1)) (fun i x σ H' hx ⟨u2, u3, u4, u5, u6, u7, es, e2, ok⟩ => ?_) (fun σ H' ⟨u2, u3, u4, u5, u6, u7, es, e2, ok⟩ => ?_)
    · subst es
      rw [List.getElem?_map] at hx
      obtain ⟨mid, hmid, rfl⟩ := Option.map_eq_some_iff.mp hx
      have hmm := List.mem_of_getElem? hmid
      have hmlt := clM_lt hmm
      have hc2 := hc.ex (e1.trans e2)
      intro d hd
      have G0 := Grp.new (key := keyM T.length F mid) (φ := nv) hd
      refine q_forLn (ev_var rfl) (sq_of (G0.ex _ _ (e2 _ _ h1))) (fun j σ H'' => ∃ v4 L, σ = [some (.ref p), some (.ref c), some (nv mid), some (.ref d), v4, u5, u6, u7, none] ∧ Grp H' H'' d (keyM T.length F mid) nv ((clM T.length F).take j) L)
        (fun H2 e3 => ⟨_, [], rfl, by rw [List.take_zero]; exact G0.mono e3⟩) (fun j σ H'' _ ⟨_, _, _, G⟩ => sq_of (G.ex _ _ (e2 _ _ h1))) (fun j x σ H'' hx ⟨v4, L, es, G⟩ => ?_) (fun σ H'' ⟨v4, L, es, G⟩ => ?_)
      · subst es
        rw [List.getElem?_map] at hx
        obtain ⟨m, hm, rfl⟩ := Option.map_eq_some_iff.mp hx
        have hmlt2 := clM_lt (List.mem_of_getElem? hm)
        have hc3 := hc2.ex G.ex
        refine s_grp G (by rw [List.length_take]; omega) (ev_var rfl) (fun H2 e3 Q2 q2 => (eu_tup (ea2 (ev_op (ev_var rfl) (ev_var rfl) rv_and) (ev_call (ea3 (ev_var rfl) (ev_var rfl) (ev_var rfl)) (pmV ((p, T, F), m, mid) rfl fun H4 e => ⟨hc3.ex e, hmlt2, hmlt⟩))) (by show 2 ≤ 100000; decide)) H2 e3 Q2 fun p H3 _ e h => q2 p H3 e h)
          (fun H2 e3 => ev_var rfl) fun H3 L' G' => ⟨_, L', rfl, by rw [take_next hm]; exact G'⟩
      · subst es
        rw [List.length_map, List.take_length] at G
        refine s_valsT (ev_var rfl) G.dt fun H2 o e3 => ?_
        have G := G.mono e3
        refine for_valsT (L := L) (fun i σ H4 => ∃ w5 w6 w7, σ = [some (.ref p), some (.ref c), some (nv mid), some (.ref d), v4, w5, w6, w7, none] ∧ Ex H' H4 ∧ H4 d = some (.frz o (.dT (kvT L))) ∧ (∀ t ∈ L, H4 t.2 = some (.lst ((grpM T.length F mid t.1).map nv))) ∧ ∀ t ∈ L.take i, ∀ low ∈ grpM T.length F mid t.1, abM T.length F mid t.1 low = [])
          ⟨_, _, _, rfl, G.ex.mut G.d0, upd_same, fun t ht => by rw [upd_ne (G.nd ht)]; exact G.ls t ht, fun t ht => by rw [List.take_zero] at ht; cases ht⟩ (fun i σ H4 _ ⟨_, _, _, _, _, f, _⟩ => f) (fun i t σ H4 ht ⟨w5, w6, w7, es, e4, f4, l4, k4⟩ => ?_) (fun σ H4 ⟨w5, w6, w7, es, e4, f4, l4, k4⟩ => ?_)
        · subst es
          have htL := List.mem_of_getElem? ht
          have hg := l4 t htL
          have hgl : (grpM T.length F mid t.1).length ≤ 16 := Nat.le_trans (filter_len _ _) (Nat.le_trans hcl h16)
          refine s_forLn (ev_var rfl) (sq_of hg) (fun r σ H5 => ∃ w6 w7, σ = [some (.ref p), some (.ref c), some (nv mid), some (.ref d), v4, some (.ref t.2), w6, w7, none] ∧ Ex H4 H5 ∧ ∀ low ∈ (grpM T.length F mid t.1).take r, abM T.length F mid t.1 low = [])
            (fun H5 e5 => ⟨_, _, rfl, e5, fun m hm => by rw [List.take_zero] at hm; cases hm⟩) (fun r σ H5 _ ⟨_, _, _, e, _⟩ => sq_of (e _ _ hg)) (fun r x σ H5 hx ⟨w6, w7, es, e5, k5⟩ => ?_) (fun σ H5 ⟨w6, w7, es, e5, k5⟩ => ?_)
          · subst es
            rw [List.getElem?_map] at hx
            obtain ⟨low, hlow, rfl⟩ := Option.map_eq_some_iff.mp hx
            have hlm := List.mem_of_getElem? hlow
            refine q_asgL (xs := (abM T.length F mid t.1 low).map nv) (el_L (fun e => !decide (e = low) && inc low e) nv (ev_var rfl) (sq_of (e5 _ _ hg)) (by omega) (fun _ => rfl)
              (fun e he H6 e6 => et_and (et_test (ev_op (ev_var rfl) (ev_var rfl) rv_neN)) fun _ => et_B (ev_call (ea2 (ev_var rfl) (ev_var rfl)) (pmV (low, e) rfl fun _ _ => trivial))) fun e he H6 e6 _ => ev_var rfl) fun ab H6 hab e6 h6 => ?_
            refine s_when (et_test (ev_notE (ev_var rfl) (sq_of h6) (plain_nv _))) (fun hb H7 e7 => ?_) fun hb H7 e7 => ⟨_, _, rfl, (e5.trans e6).trans e7, fun lw hlw => ?_⟩
            · obtain ⟨x, hx⟩ : ∃ x, x ∈ abM T.length F mid t.1 low := by
                cases h9 : abM T.length F mid t.1 low with
                | nil => rw [h9] at hb; cases hb
                | cons x xs => exact ⟨x, List.mem_cons_self⟩
              obtain ⟨y, hy⟩ : ∃ y, ((abM T.length F mid t.1 low).map nv)[0]? = some y := by
                cases h9 : abM T.length F mid t.1 low with
                | nil => rw [h9] at hb; cases hb
                | cons x xs => exact ⟨nv x, rfl⟩
              refine s_retU (eu_tup (ea3 (ev_var rfl) (ev_var rfl) (ev_op (ev_var rfl) ev_c (rv_ixLn (i := 0) (sq_of (e7 _ _ h6)) hy))) (by show 3 ≤ 100000; decide)) fun pp H8 hp e8 h8 => k _ H8 ((((((e1.trans e2).trans e4).trans e5).trans e6).trans e7).trans e8) ?_
              rw [pent_false hmm hlm hx]
              rfl
            · rw [take_next hlow] at hlw
              rcases List.mem_append.mp hlw with q | q
              · exact k5 lw q
              · rw [List.mem_singleton.mp q]
                cases h9 : abM T.length F mid t.1 low with
                | nil => rfl
                | cons x xs => rw [h9] at hb; cases hb
          · subst es
            rw [List.length_map, List.take_length] at k5
            refine ⟨_, _, _, rfl, e4.trans e5, e5 _ _ f4, fun u hu => e5 _ _ (l4 u hu), fun u hu => ?_⟩
            rw [take_next ht] at hu
            rcases List.mem_append.mp hu with q | q
            · exact k4 u q
            · rw [List.mem_singleton.mp q]; exact k5
        · subst es
          rw [List.take_length] at k4
          refine ⟨_, _, _, _, _, _, rfl, e2.trans e4, fun md hmd => ?_⟩
          rw [take_next hmid] at hmd
          rcases List.mem_append.mp hmd with q | q
          · exact ok md q
          · rw [List.mem_singleton.mp q]
            refine pentOk_of fun m hm low hlow => ?_
            obtain ⟨t, ht, et⟩ := G.al m hm
            rw [← et] at hlow ⊢
            exact k4 t ht low hlow
    · subst es
      rw [List.length_map, List.take_length] at ok
      exact s_ret ev_c fun H3 e3 => k _ H3 ((e1.trans e2).trans e3) (by rw [show pentN T.length F = true from List.all_eq_true.mpr ok]; rfl)

end
end K31

set_option Elab.async false
set_option linter.all false
set_option maxRecDepth 100000
set_option maxHeartbeats 4000000
namespace K31
open PySem PySem.Spec PyProof.Rows L2 Evl
open C8 (InsC call_isC pe_gc)
section
variable {P : Program} {w : World} {K : PySem.W.Frag} {mg : Str → Option Value} {base : Heap}
def keyD (n : Nat) (F : List Nat) (i j : Nat) : Nat × Nat := (F.getD i 0 &&& F.getD j 0, (tbl n F).getD (F.getD i 0 ||| F.getD j 0) 0)
def diaAt (n : Nat) (F : List Nat) (i j k : Nat) : Bool := decide (keyD n F i k = keyD n F i j) && decide (keyD n F k j = keyD n F i j)
def diaOk (n : Nat) (F : List Nat) (i : Nat) : Bool := (List.range' (i + 1) (F.length - (i + 1))).all fun j => (List.range' (i + 1) (j - (i + 1))).all fun k => !diaAt n F i j k
def diaN (n : Nat) (F : List Nat) : Bool := (List.range F.length).all (diaOk n F)
theorem dia_false {n : Nat} {F : List Nat} {i j k : Nat} (hi : i < k) (hk : k < j) (hj : j < F.length) (h : diaAt n F i j k = true) : diaN n F = false := by
  refine Bool.eq_false_iff.mpr fun z => ?_
  have z1 := List.all_eq_true.mp (List.all_eq_true.mp (List.all_eq_true.mp z i (List.mem_range.mpr (by omega))) j (List.mem_range'_1.mpr (by omega))) k (List.mem_range'_1.mpr (by omega))
  rw [h] at z1
  cases z1
section
variable {K : PySem.W.Frag} {σ : L2.St} {H H' : Hp} {te ta tb td ty : TE} {t : TT} {v y : V} {α : Type}
theorem ev_opU1 {r : R2} {xs : List V} {z : V} (ha : EvU ta σ H xs) (hb : ∀ H1, Ex H H1 → Ev tb σ H1 y) (hr : ∀ p H1, H1 p = some (.tup xs) → Ex H H1 → RV r (.ref p) y H1 z) : Ev (tOp r ta tb) σ H z := fun H1 e Q q =>
  ha H1 e _ fun p H2 _ e2 h2 => hb H2 (e.trans e2) H2 (Ex.refl H2) _ fun H3 e3 => hr p H3 (e3 p _ h2) ((e.trans e2).trans e3) H3 (Ex.refl H3) Q fun H4 e4 => q H4 ((e2.trans e3).trans e4)
/-- a list of new tuples -/
def EvLU (te : TE) (σ : L2.St) (H : Hp) (qs : List (List V)) : Prop := ∀ H1, Ex H H1 → ∀ Q : VK, (∀ (p : Addr) (as : List Addr) (H2 : Hp), H1 p = none → Ex H1 H2 → H2 p = some (.lst (as.map V.ref)) → as.length = qs.length → (∀ (i : Nat) (a : Addr) (xs : List V), as[i]? = some a → qs[i]? = some xs → H2 a = some (.tup xs)) → Q (.ref p) H2) → te σ H1 Q
theorem el_TU {a : Addr} {ys : List α} {φ : α → V} {tl : TE} {j : Nat} {vs : List Nat} (q : α → List V) (h : Ev tl σ H (.ref a)) (hx : SqT K H a (ys.map φ)) (hz : ys.length ≤ 50000) (hw : ∀ x, wipe ((wipe σ vs).set j (some x)) vs = wipe σ vs)
    (he : ∀ y ∈ ys, ∀ H1, Ex H H1 → EvU te ((wipe σ vs).set j (some (φ y))) H1 (q y)) : EvLU (tLc (iTup K tl) (gName j) tYes te vs) σ H (ys.map q) := fun H0 e Q k => h H0 e _ fun H1 e1 => ⟨a, rfl, ⟨_, ex_t (e.trans e1) hx⟩, fun Dl hD =>
  lc_tup (xs := ys.map φ) (fun i H' => Ex H1 H' ∧ ∃ as, H' Dl = some (.lst (as.map V.ref)) ∧ as.length = i ∧ ∀ r b xs, as[r]? = some b → (ys.map q)[r]? = some xs → H' b = some (.tup xs))
    ⟨Ex.new hD, [], upd_same, rfl, fun r b xs hb => by cases hb⟩ (fun i H' _ c => ex_t ((e.trans e1).trans c.1) hx) (fun i x H' hi ⟨c1, as, c2, c3, c4⟩ => by
      rw [List.getElem?_map] at hi
      obtain ⟨y, hy, rfl⟩ := Option.map_eq_some_iff.mp hi
      have hil : i < ys.length := (List.getElem?_eq_some_iff.mp hy).1
      refine ⟨hw _, yes_go (he y (List.mem_of_getElem? hy) H1 (e.trans e1) H' c1 _ fun b H2 hb e2 h2 => ⟨_, e2 _ _ c2, sz_lt ?_, (c1.trans e2).mut hD, as ++ [b], ?_, ?_, fun r b' xs hb' hxs => ?_⟩)⟩
      · rw [List.length_map, c3]; omega
      · rw [upd_same, List.map_append]; rfl
      · rw [List.length_append, c3]; rfl
      · have hne : ∀ (u : Addr) (zs : List V), H2 u = some (.tup zs) → u ≠ Dl := fun u zs hu z => by
          rw [z, e2 _ _ c2] at hu
          cases hu
        rcases Nat.lt_or_ge r as.length with hr | hr
        · rw [List.getElem?_append_left hr] at hb'
          have h5 := e2 _ _ (c4 r b' xs hb' hxs)
          rw [upd_ne (hne _ _ h5)]
          exact h5
        · rw [List.getElem?_append_right hr] at hb'
          have hr0 : r - as.length = 0 := Classical.byContradiction fun z => by
            rw [List.getElem?_eq_none (by simp; omega)] at hb'
            cases hb'
          rw [hr0] at hb'
          cases hb'
          rw [upd_ne (hne _ _ h2), h2]
          have : r = i := by omega
          rw [this, List.getElem?_map, hy] at hxs
          cases hxs
          rfl)
    (fun H' ⟨c1, as, c2, c3, c4⟩ => k Dl as H' (fresh_back e1 hD) (e1.trans c1) c2 (by rw [c3, List.length_map, List.length_map]) c4)⟩
theorem tk_eq {a b : Nat × Nat} (h : a = b) : tk a = tk b := h ▸ rfl
theorem q_asgLU {D : Ends} {tz : TS} {i : Nat} {qs : List (List V)} (h : EvLU te σ H qs) (k : ∀ (p : Addr) (as : List Addr) (H2 : Hp), H p = none → Ex H H2 → H2 p = some (.lst (as.map V.ref)) → as.length = qs.length → (∀ (i : Nat) (a : Addr) (xs : List V), as[i]? = some a → qs[i]? = some xs → H2 a = some (.tup xs)) → tz D (σ.set i (some (.ref p))) H2) :
    tSeq (tAsg te (gName i)) tz D σ H := h H (Ex.refl H) _ k
theorem ev_isNone {sp : Sp} {dvs vs : List V} {E : XK} {ta : TA} {b : Bool} (h : EvA ta σ H vs) (hs : ∀ H1, Ex H H1 → ∀ Q : VK, (∀ v H2, Ex H1 H2 → decide (v = .non) = b → Q v H2) → sp (vs ++ dvs) H1 Q E) :
    Ev (tOp (fun x y H Q => y = .non ∧ Q (.bl (decide (x = .non))) H) (tCall sp dvs E ta) (tC .non)) σ H (.bl b) := fun H1 e Q q => h H1 e _ fun H2 e2 => hs H2 (e.trans e2) _ fun v H3 e3 hv => ⟨rfl, hv ▸ q H3 (e2.trans e3)⟩
/-- known.get(mark, []) -/
theorem grp_get {H0 : Hp} {d : Addr} {key : Nat → Nat × Nat} {φ : Nat → V} {l : List Nat} {L : List ((Nat × Nat) × Addr)} {m : Nat} {b : Addr} {Q : VK} (G : Grp H0 H d key φ l L) (hd : Ev td σ H (.ref d)) (hk : Ev ty σ H (.ref b)) (hb : H b = some (.tup ((tk (key m)).map kV)))
    (q : ∀ g H3, Ex H H3 → H3 g = some (.lst ((l.filter fun x => decide (key x = key m)).map φ)) → Q (.ref g) H3) : tDGet2 td ty (tLst tNil) σ H Q := by
  refine hd H (Ex.refl H) _ fun H1 e1 => ⟨d, rfl, .inr ⟨_, .inl (e1 _ _ G.dt)⟩, hk H1 e1 _ fun H2 e2 => (show EvL (tLst tNil) σ H2 [] from el_lst ea_nil (Nat.zero_le _)) H2 (Ex.refl H2) _ fun z H3 hz e3 h3 => ?_⟩
  have e03 := (e1.trans e2).trans e3
  have G3 := G.mono e03
  refine ⟨valV (kvT L) (tk (key m)), DGet.t G3.dt (e03 _ _ hb), ?_⟩
  by_cases ht : ∃ t ∈ L, t.1 = key m
  · obtain ⟨t, ht, et⟩ := ht
    rw [← et, valT_some ht G.kn]
    refine q t.2 H3 e03 ?_
    rw [← et]
    exact G3.ls t ht
  · rw [valT_none fun t h e => ht ⟨t, h, e⟩]
    refine q z H3 e03 ?_
    rw [List.filter_eq_nil_iff.mpr fun x hx => ?_]
    · exact h3
    · obtain ⟨t, h1, h2⟩ := G.al x hx
      rw [decide_eq_true_eq]
      exact fun z => ht ⟨t, h1, h2.trans z⟩
theorem q_forGet {D : Ends} {gg : TG} {tu tz : TS} {H0 : Hp} {d : Addr} {key : Nat → Nat × Nat} {φ : Nat → V} {l : List Nat} {L : List ((Nat × Nat) × Addr)} {m : Nat} {b : Addr} (G : Grp H0 H d key φ l L) (hd : Ev td σ H (.ref d)) (hk : Ev ty σ H (.ref b)) (hb : H b = some (.tup ((tk (key m)).map kV)))
    (q : ∀ g H3, Ex H H3 → H3 g = some (.lst ((l.filter fun x => decide (key x = key m)).map φ)) → tFor (iList K fun _ H Q => Q (.ref g) H) gg tu { D with nx := tz D } σ H3) : tSeq (tFor (iList K (tDGet2 td ty (tLst tNil))) gg tu) tz D σ H := by
  unfold tSeq tFor iList
  refine grp_get G hd hk hb fun g H3 e h => ?_
  have q3 := q g H3 e h
  unfold tFor iList at q3
  exact q3
end
theorem keyD_comm {n : Nat} {F : List Nat} {i j : Nat} : (F.getD i 0 &&& F.getD j 0, (tbl n F).getD (F.getD i 0 ||| F.getD j 0) 0) = keyD n F i j := rfl
def spdiamond_lots (K : PySem.W.Frag) (C : Addr) : Sp := Pm (fun a : Addr × List Nat × List Nat => [.ref a.1]) (fun a H => Co K C H a.1 a.2.1 a.2.2) fun a H Q => ∀ v H2, Ex H H2 → decide (v = .non) = diaN a.2.1.length a.2.2 → Q v H2
theorem okdiamond_lots (D : Defs K mg) : FnOk P w K mg base CX0 3 D.a_diamond_lots D.d_diamond_lots ["closer"] (spdiamond_lots K D.C) := by
  have G_things : FnOk P w K mg base CX0 1 D.a_things D.d_things ["self"] (spthings K D.C) := okthings D
  have G_closed : FnOk P w K mg base CX0 1 D.a_closed D.d_closed ["self"] (spclosed K D.C) := okclosed D
  have G_mask_of : FnOk P w K mg base CX0 1 D.a_mask_of D.d_mask_of ["things", "lot"] (spmask_of K D.C) := okmask_of D
  have G_span_of : FnOk P w K mg base CX0 1 D.a_span_of D.d_span_of ["closer", "one", "other"] (spspan_of K D.C) := okspan_of D
  refine D.F_diamond_lots.ok scdiamond_lots (fun vs H Q E h => ?_) (fun cdv A outer s H vs Q E hr h => ?_)
  · obtain ⟨_, rfl, _⟩ := h; rfl
  · obtain ⟨⟨p, T, F⟩, rfl, hc, k⟩ := h
    have hc : Co K D.C H p T F := hc
    have k : ∀ v H2, Ex H H2 → decide (v = V.non) = diaN T.length F → Q v H2 := k
    have hF16 := hc.fm.len
    have hFlt : ∀ i, i < F.length → F.getD i 0 < 2 ^ T.length := fun i hi => hc.fm.lt _ (List.mem_of_getElem? (getD_at hi))
    have hu := hu_of hr
    obtain ⟨dx, fa, ft, hp, hfa, hft⟩ := hc.at_
    refine ⟨_, 
          (pss_cons (ps_set (i := 1) scdiamond_lots.nd rfl (Or.inr rfl) (pe_prop (pv 0) D.cl D.p_things G_things (hr.mono (by decide)) (b_things D) .nil pass0 rfl))
          (pss_cons (ps_setLc (i := 2) rfl scdiamond_lots.nd rfl rfl (sw_true rfl rfl rfl (by decide +kernel)) (pi_tup (pe_prop (pv 0) D.cl D.p_closed G_closed (hr.mono (by decide)) (b_closed D) .nil pass0 rfl)) (blkOk_by (own := [("lot", 7)]) (by kernel_rfl)) (fun _ _ _ _ _ => (pg_name (i := 7) scdiamond_lots.nd rfl (Or.inl rfl))) (fun _ _ _ _ _ => pts_nil) (fun _ _ _ _ _ => (pe_tup (pa_cons (pv 7) (pa_cons (pe_call G_mask_of (hr.mono (by decide)) rfl D.g_mask_of D.F_mask_of.kp (b_mask_of D) .nil pass0 (pa_cons (pv 1) (pa_cons (pv 7) pa_nil))) pa_nil)))))
          (pss_cons (ps_for PassesOwn.never rfl (pi_range1 rfl D.n_range (pa_cons (pe_callB call_len_seq (by rfl) D.n_len PySem.boot_len (pa_cons (pv 2) pa_nil)) pa_nil)) (pg_name (i := 3) scdiamond_lots.nd rfl (Or.inl rfl))
            (pss_cons (ps_set (i := 4) scdiamond_lots.nd rfl (Or.inl rfl) pe_dnewT)
            (pss_one (ps_for PassesOwn.never rfl (pi_range2 rfl D.n_range (pa_cons (pe_op op_add (pv 3) pe_int) (pa_cons (pe_callB call_len_seq (by rfl) D.n_len PySem.boot_len (pa_cons (pv 2) pa_nil)) pa_nil))) (pg_name (i := 5) scdiamond_lots.nd rfl (Or.inl rfl))
              (pss_cons (ps_set (i := 6) scdiamond_lots.nd rfl (Or.inl rfl) (pe_tup (pa_cons (pe_op op_and (pe_ix ix_tup (pe_ix ix_list (pv 2) (pv 3) (fun _ _ => rfl)) pe_int (fun _ _ => rfl)) (pe_ix ix_tup (pe_ix ix_list (pv 2) (pv 5) (fun _ _ => rfl)) pe_int (fun _ _ => rfl))) (pa_cons (pe_call G_span_of (hr.mono (by decide)) rfl D.g_span_of D.F_span_of.kp (b_span_of D) .nil pass0 (pa_cons (pv 0) (pa_cons (pe_ix ix_tup (pe_ix ix_list (pv 2) (pv 3) (fun _ _ => rfl)) pe_int (fun _ _ => rfl)) (pa_cons (pe_ix ix_tup (pe_ix ix_list (pv 2) (pv 5) (fun _ _ => rfl)) pe_int (fun _ _ => rfl)) pa_nil)))) pa_nil))))
              (pss_cons (ps_for PassesOwn.never rfl (pi_list (pe_dget2 hu (pv 4) (pv 6) (pe_lst pa_nil) ⟨rfl, rfl, rfl, rfl⟩)) (pg_tup rfl (pgs_cons (pg_name (i := 7) scdiamond_lots.nd rfl (Or.inl rfl)) (pgs_cons (pg_name (i := 8) scdiamond_lots.nd rfl (Or.inl rfl)) pgs_nil)))
                (pss_one (ps_if (pt_cmpR (op_eqD hr.units) (pe_tup (pa_cons (pe_op op_and (pv 8) (pe_ix ix_tup (pe_ix ix_list (pv 2) (pv 5) (fun _ _ => rfl)) pe_int (fun _ _ => rfl))) (pa_cons (pe_call G_span_of (hr.mono (by decide)) rfl D.g_span_of D.F_span_of.kp (b_span_of D) .nil pass0 (pa_cons (pv 0) (pa_cons (pv 8) (pa_cons (pe_ix ix_tup (pe_ix ix_list (pv 2) (pv 5) (fun _ _ => rfl)) pe_int (fun _ _ => rfl)) pa_nil)))) pa_nil))) (pv 6) (nomark _))
                  (pss_one (ps_ret (pe_tup (pa_cons (pe_ix ix_tup (pe_ix ix_list (pv 2) (pv 3) (fun _ _ => rfl)) pe_int (fun _ _ => rfl)) (pa_cons (pv 7) (pa_cons (pe_ix ix_tup (pe_ix ix_list (pv 2) (pv 5) (fun _ _ => rfl)) pe_int (fun _ _ => rfl)) pa_nil))))))
                  (pss_nil))))
              (pss_one (ps_expr (pe_bm PySem.F.plainAttrs_list PySem.F.slot_list_append PySem.F.type_list_append mt_append (pe_dsetdT hu (pv 4) (pv 6) (pe_lst pa_nil) ⟨rfl, rfl, rfl, rfl⟩) (pa_cons (pe_ix ix_list (pv 2) (pv 5) (fun _ _ => rfl)) pa_nil))))))))))
          (pss_one (ps_ret pe_non))))), ?_⟩
    refine q_asg (ev_prop (ev_var rfl) hp (pmV (p, T, F) rfl fun H' e => hc.ex e)) fun H1 e1 => ?_
    refine q_asgLU (el_TU (ys := F) (φ := sv T) (fun m => [sv T m, nv m]) (ev_prop (ev_var rfl) (e1 _ _ hp) (pmV (p, fa) rfl fun H' e => ⟨dx, T, ft, e _ _ (e1 _ _ hp)⟩)) (ex_t e1 hfa) (by omega) (fun _ => rfl)
      (fun m hm H2 e2 => eu_tup (ea2 (ev_var rfl) (ev_call (ea2 (ev_var rfl) (ev_var rfl)) (pmV (T, m) rfl fun _ _ => ⟨hc.tg, hc.fm.lt m hm⟩))) (by show 2 ≤ 100000; decide))) fun l as H2 hl e2 h2 hlen hat => ?_
    rw [List.length_map] at hlen
    have e12 := e1.trans e2
    have hat : ∀ i, i < F.length → ∃ b, as[i]? = some b ∧ H2 b = some (.tup [sv T (F.getD i 0), nv (F.getD i 0)]) := fun i hi => by
      have hi2 : i < as.length := by omega
      refine ⟨as[i], List.getElem?_eq_getElem hi2, hat i _ _ (List.getElem?_eq_getElem hi2) ?_⟩
      rw [List.getElem?_map, getD_at hi]
      rfl
    have hasm : ∀ (i : Nat) (b : Addr), as[i]? = some b → (as.map V.ref)[i]? = some (V.ref b) := fun i b hb => by rw [List.getElem?_map, hb]; rfl
    have pick : ∀ {σ : L2.St} {H' : Hp} {s i : Nat}, Ex H2 H' → σ[2]? = some (some (V.ref l)) → σ[s]? = some (some (nv i)) → i < F.length → ∃ b, as[i]? = some b ∧ H2 b = some (.tup [sv T (F.getD i 0), nv (F.getD i 0)]) ∧ Ev (tOp (rIxL K) (tVar 2) (tVar s)) σ H' (.ref b) := fun {σ H' s i} e h3 h4 hi => by
      obtain ⟨b, hb, hb2⟩ := hat i hi
      exact ⟨b, hb, hb2, ev_op (ev_var h3) (ev_var h4) (rv_ixLn (sq_of (e _ _ h2)) (hasm i b hb))⟩
    have mk : ∀ {σ : L2.St} {H' : Hp} {s i : Nat}, Ex H2 H' → σ[2]? = some (some (V.ref l)) → σ[s]? = some (some (nv i)) → i < F.length → Ev (tOp (rIxT K) (tOp (rIxL K) (tVar 2) (tVar s)) (tC (.int 1))) σ H' (nv (F.getD i 0)) := fun {σ H' s i} e h3 h4 hi => by
      obtain ⟨b, hb, hb2, hev⟩ := pick e h3 h4 hi
      exact ev_op hev ev_c (rv_ixTn (i := 1) (st_of (e _ _ hb2)) rfl)
    have ls : ∀ {σ : L2.St} {H' : Hp} {s i : Nat}, Ex H2 H' → σ[2]? = some (some (V.ref l)) → σ[s]? = some (some (nv i)) → i < F.length → Ev (tOp (rIxT K) (tOp (rIxL K) (tVar 2) (tVar s)) (tC (.int 0))) σ H' (sv T (F.getD i 0)) := fun {σ H' s i} e h3 h4 hi => by
      obtain ⟨b, hb, hb2, hev⟩ := pick e h3 h4 hi
      exact ev_op hev ev_c (rv_ixTn (i := 0) (st_of (e _ _ hb2)) rfl)
    refine q_forR1 (n := (F.length : Int)) (ea1 (ev_is (ev_cb (ea1 (ev_var rfl)) (rc_len (.inl (sq_of h2)))) (by rw [List.length_map, hlen]))) (by omega)
      (fun i σ H' => ∃ u3 u4 u5 u6 u7 u8, σ = [some (.ref p), some (.str (S T)), some (.ref l), u3, u4, u5, u6, u7, u8] ∧ Ex H2 H' ∧ ∀ i' ∈ (List.range F.length).take i, diaOk T.length F i' = true)
      (fun H3 e3 => ⟨none, none, none, none, none, none, rfl, e3, fun m hm => by rw [List.take_zero] at hm; cases hm⟩) (fun i σ H' hi ⟨u3, u4, u5, u6, u7, u8, es, e3, ok⟩ => ?_) (fun σ H' ⟨u3, u4, u5, u6, u7, u8, es, e3, ok⟩ => ?_)
    · subst es
      have hi : i < F.length := by omega
      intro d hd
      have G0 := Grp.new (key := keyD T.length F i) (φ := fun j => V.ref (as.getD j 0)) hd
      have hlenD : (F.length - (i + 1)) ≤ 16 := by omega
      refine s_forR2 (lo := ((i + 1 : Nat) : Int)) (n := (F.length : Int)) (ea2 (ev_op (ev_var rfl) ev_c rv_add1) (ev_is (ev_cb (ea1 (ev_var rfl)) (rc_len (.inl (sq_of (G0.ex _ _ (e3 _ _ h2)))))) (by rw [List.length_map, hlen]))) (by omega)
        (fun c σ H'' => ∃ v5 v6 v7 v8 L, σ = [some (.ref p), some (.str (S T)), some (.ref l), some (nv i), some (.ref d), v5, v6, v7, v8] ∧ Grp H' H'' d (keyD T.length F i) (fun j => V.ref (as.getD j 0)) (List.range' (i + 1) c) L ∧ ∀ j ∈ List.range' (i + 1) c, ∀ k ∈ List.range' (i + 1) (j - (i + 1)), diaAt T.length F i j k = false)
        (fun H3 e4 => ⟨_, _, _, _, [], rfl, G0.mono e4, fun j hj => by cases hj⟩) (fun c σ H'' hcl ⟨v5, v6, v7, v8, L, es, G, dk⟩ => ?_) (fun σ H'' ⟨v5, v6, v7, v8, L, es, G, dk⟩ => ?_)
      · subst es
        have hj0 : ((i + 1 : Nat) : Int) + (c : Int) = ((i + 1 + c : Nat) : Int) := by omega
        rw [hj0]
        have hj : i + 1 + c < F.length := by omega
        generalize hjj : i + 1 + c = j at hj
        have eG := e3.trans G.ex
        have hcG := hc.ex (e12.trans eG)
        refine q_asgU (xs := [nv (keyD T.length F i j).1, nv (keyD T.length F i j).2]) (eu_tup (ea2 (ev_op (mk (i := i) eG rfl rfl hi) (mk (i := j) eG rfl rfl hj) rv_and) (ev_call (ea3 (ev_var rfl) (mk (i := i) eG rfl rfl hi) (mk (i := j) eG rfl rfl hj)) (pmV ((p, T, F), F.getD i 0, F.getD j 0) rfl fun H4 e => ⟨hcG.ex e, hFlt i hi, hFlt j hj⟩))) (by show 2 ≤ 100000; decide)) fun mk0 H3 hmk e4 h4 => ?_
        have G3 := G.mono e4
        have eG3 := eG.trans e4
        refine q_forGet (m := j) G3 (ev_var rfl) (ev_var rfl) h4 fun g H4 e5 h5 => ?_
        have hsub : ∀ x ∈ (List.range' (i + 1) c).filter (fun x => decide (keyD T.length F i x = keyD T.length F i j)), i < x ∧ x < j ∧ keyD T.length F i x = keyD T.length F i j := fun x hx => by
          obtain ⟨h6, h7⟩ := List.mem_filter.mp hx
          rw [List.mem_range'_1] at h6
          exact ⟨by omega, by omega, of_decide_eq_true h7⟩
        generalize hcand : (List.range' (i + 1) c).filter (fun x => decide (keyD T.length F i x = keyD T.length F i j)) = cand at h5 hsub
        refine s_forL (D := _) (a := g) (xs := cand.map fun j => V.ref (as.getD j 0)) (tl := fun _ H Q => Q (.ref g) H) (fun H5 _ Q q => q H5 (Ex.refl H5)) (sq_of h5)
          (fun r σ H5 => ∃ v7 v8, σ = [some (.ref p), some (.str (S T)), some (.ref l), some (nv i), some (.ref d), some (nv j), some (.ref mk0), v7, v8] ∧ Ex H4 H5 ∧ ∀ k ∈ cand.take r, diaAt T.length F i j k = false)
          (fun H5 e6 => ⟨_, _, rfl, e6, fun m hm => by rw [List.take_zero] at hm; cases hm⟩) (fun r σ H5 _ ⟨_, _, _, e, _⟩ => sq_of (e _ _ h5)) (fun r x σ H5 hx ⟨v7, v8, es, e6, k6⟩ => ?_) (fun σ H5 ⟨v7, v8, es, e6, k6⟩ => ?_)
        · subst es
          rw [List.getElem?_map] at hx
          obtain ⟨kk, hkk, rfl⟩ := Option.map_eq_some_iff.mp hx
          obtain ⟨hk1, hk2, hk3⟩ := hsub kk (List.mem_of_getElem? hkk)
          have hkF : kk < F.length := by omega
          obtain ⟨b, hb, hb2⟩ := hat kk hkF
          have hbD : as.getD kk 0 = b := by rw [List.getD_eq_getElem?_getD, hb]; rfl
          have eG5 := (eG3.trans e5).trans e6
          have hc5 := hc.ex (e12.trans eG5)
          rw [hbD]
          refine ⟨b, _, rfl, st_of (eG5 _ _ hb2), rfl, _, _, rfl, _, _, rfl, rfl, ?_⟩
          have hm5 := e6 _ _ (e5 _ _ h4)
          refine s_when (b := decide (keyD T.length F kk j = keyD T.length F i j)) (et_test (ev_opU1 (xs := [nv (keyD T.length F kk j).1, nv (keyD T.length F kk j).2]) (eu_tup (ea2 (ev_op (ev_var rfl) (mk (i := j) eG5 rfl rfl hj) rv_and) (ev_call (ea3 (ev_var rfl) (ev_var rfl) (mk (i := j) eG5 rfl rfl hj)) (pmV ((p, T, F), F.getD kk 0, F.getD j 0) rfl fun H7 e => ⟨hc5.ex e, hFlt kk hkF, hFlt j hj⟩))) (by show 2 ≤ 100000; decide))
            (fun H6 e7 => ev_var rfl) fun q H6 hq e7 => rv_eqPair (st_of hq) (st_of (e7 _ _ hm5)))) (fun hbt H6 e7 => ?_) fun hbf H6 e7 => ⟨_, _, rfl, e6.trans e7, fun kx hkx => ?_⟩
          · have hdia : diaAt T.length F i j kk = true := by unfold diaAt; rw [decide_eq_true hk3, hbt]; rfl
            refine s_retU (eu_tup (ea3 (ls (i := i) (eG5.trans e7) rfl rfl hi) (ev_var rfl) (ls (i := j) (eG5.trans e7) rfl rfl hj)) (by show 3 ≤ 100000; decide)) fun pp H8 hp e8 h8 => k _ H8 (((e12.trans eG5).trans e7).trans e8) ?_
            rw [dia_false hk1 hk2 hj hdia]
            rfl
          · rw [take_next hkk] at hkx
            rcases List.mem_append.mp hkx with q | q
            · exact k6 kx q
            · rw [List.mem_singleton.mp q]
              unfold diaAt
              rw [hbf, Bool.and_false]
        · subst es
          rw [List.length_map, List.take_length] at k6
          have G5 := G3.mono (e5.trans e6)
          obtain ⟨b, hb, hb2⟩ := hat j hj
          have hbD : as.getD j 0 = b := by rw [List.getD_eq_getElem?_getD, hb]; rfl
          refine s_grp (m := j) G5 (by rw [List.length_range']; omega) (ev_var rfl) (fun H6 e7 Q2 q2 => (show Ev (tVar 6) [some (.ref p), some (.str (S T)), some (.ref l), some (nv i), some (.ref d), some (nv j), some (.ref mk0), v7, v8] H6 (.ref mk0) from ev_var rfl) H6 (Ex.refl H6) Q2 fun H7 e8 => q2 mk0 H7 e8 (e8 _ _ (e7 _ _ (e6 _ _ (e5 _ _ h4)))))
            (fun H6 e7 => ev_op (ev_var rfl) (ev_var rfl) (rv_ixLn (sq_of (e7 _ _ (e3 _ _ h2))) (by rw [hbD]; exact hasm j b hb))) fun H6 L' G' => ⟨_, _, _, _, L', rfl, by rw [List.range'_concat, Nat.one_mul, hjj]; exact G', fun jx hjx kx hkx => ?_⟩
          rw [List.range'_concat, Nat.one_mul, hjj] at hjx
          rcases List.mem_append.mp hjx with q | q
          · exact dk jx q kx hkx
          · rw [List.mem_singleton.mp q] at hkx ⊢
            rw [List.mem_range'_1] at hkx
            by_cases hkk : keyD T.length F i kx = keyD T.length F i j
            · exact k6 kx (by rw [← hcand]; exact List.mem_filter.mpr ⟨List.mem_range'_1.mpr (by omega), decide_eq_true hkk⟩)
            · unfold diaAt
              rw [decide_eq_false hkk]
              rfl
      · subst es
        refine ⟨_, _, _, _, _, _, rfl, e3.trans G.ex, fun ix hix => ?_⟩
        rw [take_next (List.getElem?_range hi)] at hix
        rcases List.mem_append.mp hix with q | q
        · exact ok ix q
        · rw [List.mem_singleton.mp q]
          refine List.all_eq_true.mpr fun jx hjx => List.all_eq_true.mpr fun kx hkx => ?_
          rw [dk jx (by rw [show ((F.length : Int) - ((i + 1 : Nat) : Int)).toNat = F.length - (i + 1) by omega]; exact hjx) kx hkx]
          rfl
    · subst es
      rw [Int.toNat_natCast, List.take_of_length_le (by rw [List.length_range]; exact Nat.le_refl _)] at ok
      exact s_ret ev_c fun H3 e4 => k _ H3 ((e12.trans e3).trans e4) (by rw [show diaN T.length F = true from List.all_eq_true.mpr ok]; rfl)

def spis_distributive (K : PySem.W.Frag) (C : Addr) : Sp := Pm (fun a : Addr × List Nat × List Nat => [.ref a.1]) (fun a H => Co K C H a.1 a.2.1 a.2.2) fun a H Q => RetV (.bl (pentN a.2.1.length a.2.2 && diaN a.2.1.length a.2.2)) H Q
theorem okis_distributive (D : Defs K mg) : FnOk P w K mg base CX0 4 D.a_is_distributive D.d_is_distributive ["closer"] (spis_distributive K D.C) := by
  have G_check_closer : FnOk P w K mg base CX0 1 D.a_check_closer D.d_check_closer ["value"] (spcheck_closer K D.C) := okcheck_closer D
  have G_diamond_lots : FnOk P w K mg base CX0 3 D.a_diamond_lots D.d_diamond_lots ["closer"] (spdiamond_lots K D.C) := okdiamond_lots D
  have G_pentagon_masks : FnOk P w K mg base CX0 2 D.a_pentagon_masks D.d_pentagon_masks ["closer"] (sppentagon_masks K D.C) := okpentagon_masks D
  refine D.F_is_distributive.ok scis_distributive (fun vs H Q E h => ?_) (fun cdv A outer s H vs Q E hr h => ?_)
  · obtain ⟨_, rfl, _⟩ := h; rfl
  · obtain ⟨⟨p, T, F⟩, rfl, hc, k⟩ := h
    have hc : Co K D.C H p T F := hc
    have k : RetV (.bl (pentN T.length F && diaN T.length F)) H Q := k
    obtain ⟨dx, fa, ft, hp, hfa, hft⟩ := hc.at_
    refine ⟨_, 
          (pss_cons (ps_expr (pe_call G_check_closer (hr.mono (by decide)) rfl D.g_check_closer D.F_check_closer.kp (b_check_closer D) .nil pass0 (pa_cons (pv 0) pa_nil)))
          (pss_one (ps_ret (pe_and (pe_cmpR op_isN (pe_call G_pentagon_masks (hr.mono (by decide)) rfl D.g_pentagon_masks D.F_pentagon_masks.kp (b_pentagon_masks D) .nil pass0 (pa_cons (pv 0) pa_nil)) pe_non (nomark _)) (pe_one (pe_cmpR op_isN (pe_call G_diamond_lots (hr.mono (by decide)) rfl D.g_diamond_lots D.F_diamond_lots.kp (b_diamond_lots D) .nil pass0 (pa_cons (pv 0) pa_nil)) pe_non (nomark _))))))), ?_⟩
    refine q_drop (v := .non) (ev_call (ea1 (ev_var rfl)) (pmV p rfl fun H' e => ⟨dx, _, e _ _ hp⟩)) fun H1 e1 => ?_
    have hc1 := hc.ex e1
    exact s_ret (v := .bl (pentN T.length F && diaN T.length F)) (ev_andV (ev_isNone (ea1 (ev_var rfl)) fun H2 e2 Q2 q2 => ⟨(p, T, F), rfl, hc1.ex e2, fun v H4 e4 hv => q2 v H4 e4 hv⟩) fun _ =>
      ev_isNone (ea1 (ev_var rfl)) fun H2 e2 Q2 q2 => ⟨(p, T, F), rfl, hc1.ex e2, fun v H4 e4 hv => q2 v H4 e4 hv⟩) fun H2 e2 => k H2 (e1.trans e2)

end
end K31

set_option Elab.async false
set_option linter.all false
set_option maxRecDepth 100000
set_option maxHeartbeats 4000000
namespace K31
open PySem PySem.Spec PyProof.Rows L2 Evl
open C8 (InsC call_isC pe_gc)
section
variable {P : Program} {w : World} {K : PySem.W.Frag} {mg : Str → Option Value} {base : Heap}
section
variable {K : PySem.W.Frag} {σ : L2.St} {H H' : Hp} {ta tb te tx : TE} {D : Ends} {tu tz : TS}
theorem plain_signs {T : List Nat} (hT : Tg T) {l : List Nat} (h : ∀ c ∈ l, c ∈ T) : (l.map fun c => V.str (S [c])).all plainV = true := by
  rw [List.all_map]
  refine List.all_eq_true.mpr fun c hc => ?_
  have h1 := (hT.alp c (h c hc)).2
  show PyData.strOk (S [c]) = true
  show ((S [c]).cps.all fun c => decide (c < 0x110000)) = true
  simp [S, SX.S]
  omega
theorem sv_whole (T : List Nat) : sv T (2 ^ T.length - 1) = .str (S T) := by show V.str (S (lot T (2 ^ T.length - 1))) = _; rw [lot_whole]
theorem sv_zero (T : List Nat) : sv T 0 = .str (S []) := by show V.str (S (lot T 0)) = _; rw [lot_zero]
theorem rv_neL {T : List Nat} (hT : T.Pairwise (· < ·)) {a b : Nat} (ha : a < 2 ^ T.length) (hb : b < 2 ^ T.length) : RV rNe (sv T a) (sv T b) H (.bl (!decide (a = b))) := by
  have h : RV rNe (sv T a) (sv T b) H (.bl (!decide (lot T a = lot T b))) := rv_neS
  rw [show decide (lot T a = lot T b) = decide (a = b) from decide_eq_decide.mpr ⟨fun e => lot_inj' hT ha hb e, fun e => by rw [e]⟩] at h
  exact h
/-- for over the signs of a text -/
theorem s_forS {l : List Nat} {tl : TE} {j : Nat} (h : Ev tl σ H (.str (S l))) (Pv : Nat → L2.St → Hp → Prop) (h0 : ∀ H1, Ex H H1 → Pv 0 σ H1)
    (hs : ∀ i c σ' H', l[i]? = some c → Pv i σ' H' → tu { D with nx := Pv (i + 1), ct := Pv (i + 1), bk := D.nx } (σ'.set j (some (.str (S [c])))) H') (hd : ∀ σ' H', Pv l.length σ' H' → D.nx σ' H') : tFor (iStr tl) (gName j) tu D σ H := h H (Ex.refl H) _ fun H1 e => ⟨S l, rfl, by
  have hsz : (S l).cps.size = l.length := by show l.toArray.size = _; rw [List.size_toArray]
  refine ⟨fun i m σ H => m = l.length - i ∧ i ≤ l.length ∧ Pv i σ H, ⟨l.length, rfl, Nat.zero_le _, h0 H1 e⟩, ?_⟩
  rintro i m σ' H' ⟨rfl, hi, p⟩
  by_cases hlt : i < l.length
  · refine .inr ⟨show i < (S l).cps.size by rw [hsz]; exact hlt, Pv (i + 1), fun σ2 H2 p' => ⟨l.length - (i + 1), by omega, rfl, hlt, p'⟩, fun x H2 y => ?_⟩
    obtain ⟨rfl, c, hc, rfl⟩ := y
    refine hs i c σ' _ ?_ p
    rw [← hc]
    show l[i]? = l.toArray[i]?
    simp
  · have e : i = l.length := by omega
    subst e
    exact .inl ⟨show (S l).cps.size ≤ _ by rw [hsz]; exact Nat.le_refl _, hd σ' H' p⟩⟩
theorem q_forS {l : List Nat} {tl : TE} {j : Nat} (h : Ev tl σ H (.str (S l))) (Pv : Nat → L2.St → Hp → Prop) (h0 : ∀ H1, Ex H H1 → Pv 0 σ H1)
    (hs : ∀ i c σ' H', l[i]? = some c → Pv i σ' H' → tu { D with nx := Pv (i + 1), ct := Pv (i + 1), bk := tz D } (σ'.set j (some (.str (S [c])))) H') (hd : ∀ σ' H', Pv l.length σ' H' → tz D σ' H') : tSeq (tFor (iStr tl) (gName j) tu) tz D σ H :=
  s_forS (D := { D with nx := tz D }) h Pv h0 hs hd
theorem q_parCL {i j : Nat} {x : V} {xs : List V} (h : EvL te σ H xs) (k : ∀ p H1, H p = none → Ex H H1 → H1 p = some (.lst xs) → tz D ((σ.set i (some x)).set j (some (.ref p))) H1) : tSeq (tPar i j (tCons (tC x) (tCons te tNil))) tz D σ H :=
  h H (Ex.refl H) _ fun p H1 hp e h1 => ⟨x, .ref p, rfl, k p H1 hp e h1⟩
theorem q_parLC {i j : Nat} {x : V} {xs : List V} (h : EvL te σ H xs) (k : ∀ p H1, H p = none → Ex H H1 → H1 p = some (.lst xs) → tz D ((σ.set i (some (.ref p))).set j (some x)) H1) : tSeq (tPar i j (tCons te (tCons (tC x) tNil))) tz D σ H :=
  h H (Ex.refl H) _ fun p H1 hp e h1 => ⟨.ref p, x, rfl, k p H1 hp e h1⟩
end
def sp_law_in (K : PySem.W.Frag) (C : Addr) : Sp := Pm (fun a : List Nat × Nat × Nat => [sv a.1 a.2.1, sv a.1 a.2.2]) (fun a _ => Tg a.1 ∧ a.2.1 < 2 ^ a.1.length) fun a H Q => RetV (.bl (inc a.2.1 a.2.2)) H Q
theorem ok_law_in (D : Defs K mg) : FnOk P w K mg base CX0 1 D.a__law_in D.d__law_in ["_law_near", "_law_far"] (sp_law_in K D.C) := by
  refine D.F__law_in.ok sc_law_in (fun vs H Q E h => ?_) (fun cdv A outer s H vs Q E hr h => ?_)
  · obtain ⟨_, rfl, _⟩ := h; rfl
  · obtain ⟨⟨T, a, b⟩, rfl, ⟨hT, ha⟩, k⟩ := h
    have hT : Tg T := hT
    have ha : a < 2 ^ T.length := ha
    have k : RetV (.bl (inc a b)) H Q := k
    have hl := lot_len T a
    have h4 := hT.len
    refine ⟨_, 
          (pss_one (ps_ret (pe_cmpR (op_eqD hr.units) (pe_lc rfl sc_law_in.nd (pi_str (pv 0)) (blkOk_by (own := [("_law_sign", 2)]) (by kernel_rfl)) (fun _ _ _ _ _ => (pg_name (i := 2) sc_law_in.nd rfl (Or.inl rfl))) (fun _ _ _ _ _ => (pts_one (pt_cmpR op_notIn_sign (pv 2) (pv 1) rfl))) (fun _ _ _ _ _ => (pv 2))) (pe_lst pa_nil) (nomark _)))), ?_⟩
    refine s_ret (v := .bl (inc a b)) (ev_is (ev_isE (xs := ((lot T a).filter fun c => !decide (c ∈ lot T b)).map fun c => V.str (S [c])) (el_S (l := lot T a) (fun c => !decide (c ∈ lot T b)) (fun c => .str (S [c])) (ev_var rfl) (by omega) (fun _ => rfl) (fun c hc H1 e1 => et_test (ev_op (ev_var rfl) (ev_var rfl) rv_notInSign)) fun c hc H1 e1 _ => ev_var rfl)
      (plain_signs hT fun c hc => lot_sub (List.mem_filter.mp hc).1)) ?_) k
    refine congrArg V.bl ?_
    rw [List.isEmpty_map, Bool.eq_iff_iff, List.isEmpty_iff, List.filter_eq_nil_iff, ← inc_iff hT.asc ha]
    refine ⟨fun h c hc => ?_, fun h c hc => ?_⟩
    · have := h c hc
      simpa using this
    · simpa using h c hc

def sp_law_both (K : PySem.W.Frag) (C : Addr) : Sp := Pm (fun a : List Nat × Nat × Nat => [sv a.1 a.2.1, sv a.1 a.2.2]) (fun a _ => Tg a.1) fun a H Q => RetV (sv a.1 (a.2.1 &&& a.2.2)) H Q
theorem ok_law_both (D : Defs K mg) : FnOk P w K mg base CX0 1 D.a__law_both D.d__law_both ["_law_near", "_law_far"] (sp_law_both K D.C) := by
  refine D.F__law_both.ok sc_law_both (fun vs H Q E h => ?_) (fun cdv A outer s H vs Q E hr h => ?_)
  · obtain ⟨_, rfl, _⟩ := h; rfl
  · obtain ⟨⟨T, a, b⟩, rfl, hT, k⟩ := h
    have hT : Tg T := hT
    have k : RetV (sv T (a &&& b)) H Q := k
    have hl := lot_len T a
    have hl2 := lot_len T (a &&& b)
    have h4 := hT.len
    refine ⟨_, 
          (pss_one (ps_ret (pe_join pe_str (pe_lc rfl sc_law_both.nd (pi_str (pv 0)) (blkOk_by (own := [("_law_sign", 2)]) (by kernel_rfl)) (fun _ _ _ _ _ => (pg_name (i := 2) sc_law_both.nd rfl (Or.inl rfl))) (fun _ _ _ _ _ => (pts_one (pt_cmpR op_in_sign (pv 2) (pv 1) rfl))) (fun _ _ _ _ _ => (pv 2)))))), ?_⟩
    exact s_ret (v := sv T (a &&& b)) (ev_joinS (l := lot T (a &&& b)) ev_c (el_is (el_S (l := lot T a) (fun c => decide (c ∈ lot T b)) (fun c => .str (S [c])) (ev_var rfl) (by omega) (fun _ => rfl) (fun c hc H1 e1 => et_test (ev_op (ev_var rfl) (ev_var rfl) rv_inSign)) fun c hc H1 e1 _ => ev_var rfl) (by rw [lot_filter hT.asc])) (by omega)) k

def sp_law_any (K : PySem.W.Frag) (C : Addr) : Sp := Pm (fun a : List Nat × Nat × Nat => [sv a.1 a.2.1, sv a.1 a.2.2]) (fun a _ => Tg a.1) fun a H Q => RetV (sv a.1 (a.2.1 ||| a.2.2)) H Q
theorem ok_law_any (D : Defs K mg) : FnOk P w K mg base CX0 1 D.a__law_any D.d__law_any ["_law_near", "_law_far"] (sp_law_any K D.C) := by
  refine D.F__law_any.ok sc_law_any (fun vs H Q E h => ?_) (fun cdv A outer s H vs Q E hr h => ?_)
  · obtain ⟨_, rfl, _⟩ := h; rfl
  · obtain ⟨⟨T, a, b⟩, rfl, hT, k⟩ := h
    have hT : Tg T := hT
    have k : RetV (sv T (a ||| b)) H Q := k
    have hl := lot_len T a
    have hl2 := lot_len T b
    have hl3 := lot_len T (a ||| b)
    have h4 := hT.len
    refine ⟨_, 
          (pss_one (ps_ret (pe_join pe_str (pe_sortedSet rfl rfl D.n_sorted rfl D.n_set (pe_op op_add_str (pv 0) (pv 1)))))), ?_⟩
    exact s_ret (v := sv T (a ||| b)) (ev_joinS (l := lot T (a ||| b)) ev_c (el_ssT (t := lot T a ++ lot T b) (lot T (a ||| b)) (by rw [List.length_append]; omega) (ev_op (ev_var rfl) (ev_var rfl) (rv_catS (a := lot T a) (b := lot T b) (by omega))) (lot_asc _ hT.asc) fun c => by rw [mem_or hT.asc, List.mem_append]) (by omega)) k

def mtStep (fd : List Nat) (m : Nat) : List Nat := fd ++ (fd.filter fun e => !decide (m &&& e ∈ fd)).map fun e => m &&& e
def mtM (n : Nat) (M : List Nat) : List Nat := M.foldl mtStep [2 ^ n - 1]
theorem mtStep_lt {fd : List Nat} {m b : Nat} (h : ∀ x ∈ fd, x < b) : ∀ x ∈ mtStep fd m, x < b := fun x hx => by
  rcases List.mem_append.mp hx with q | q
  · exact h x q
  · obtain ⟨e, he, rfl⟩ := List.mem_map.mp q
    exact Nat.lt_of_le_of_lt Nat.and_le_right (h e (List.mem_filter.mp he).1)
theorem mtFold_lt {M fd : List Nat} {b : Nat} (h : ∀ x ∈ fd, x < b) : ∀ x ∈ M.foldl mtStep fd, x < b := by
  induction M generalizing fd with
  | nil => exact h
  | cons m M ih => exact ih (mtStep_lt h)
theorem mtFold_len {M fd : List Nat} : (M.foldl mtStep fd).length ≤ fd.length * 2 ^ M.length := by
  induction M generalizing fd with
  | nil => exact Nat.le_of_eq (Nat.mul_one _).symm
  | cons m M ih =>
    refine Nat.le_trans (ih (fd := mtStep fd m)) ?_
    have h1 : (mtStep fd m).length ≤ fd.length * 2 := by
      unfold mtStep
      rw [List.length_append, List.length_map]
      have := List.length_filter_le (fun e => !decide (m &&& e ∈ fd)) fd
      omega
    rw [List.length_cons, Nat.pow_succ, Nat.mul_comm (2 ^ M.length) 2, ← Nat.mul_assoc]
    exact Nat.mul_le_mul_right _ h1
def sp_law_meets (K : PySem.W.Frag) (C : Addr) : Sp := Pm (fun a : List Nat × List Nat × Addr => [.str (S a.1), .ref a.2.2]) (fun a H => Tg a.1 ∧ SqL K H a.2.2 (a.2.1.map (sv a.1)) ∧ (∀ m ∈ a.2.1, m < 2 ^ a.1.length) ∧ a.2.1.length ≤ 7)
  fun a H Q => RetL ((srt a.1.length (mtM a.1.length a.2.1)).map (sv a.1)) H Q
theorem ok_law_meets (D : Defs K mg) : FnOk P w K mg base CX0 2 D.a__law_meets D.d__law_meets ["_law_whole_here", "_law_menu"] (sp_law_meets K D.C) := by
  have G__law_both : FnOk P w K mg base CX0 1 D.a__law_both D.d__law_both ["_law_near", "_law_far"] (sp_law_both K D.C) := ok_law_both D
  refine D.F__law_meets.ok sc_law_meets (fun vs H Q E h => ?_) (fun cdv A outer s H vs Q E hr h => ?_)
  · obtain ⟨_, rfl, _⟩ := h; rfl
  · obtain ⟨⟨T, M, l⟩, rfl, ⟨hT, hl, hM, h7⟩, k⟩ := h
    have hT : Tg T := hT
    have hl : SqL K H l (M.map (sv T)) := hl
    have hM : ∀ m ∈ M, m < 2 ^ T.length := hM
    have h7 : M.length ≤ 7 := h7
    have k : RetL ((srt T.length (mtM T.length M)).map (sv T)) H Q := k
    have hw : ∀ x ∈ [2 ^ T.length - 1], x < 2 ^ T.length := fun x hx => by
      rw [List.mem_singleton.mp hx]
      have : 0 < 2 ^ T.length := Nat.pow_pos (by decide)
      omega
    have hlen : ∀ i, ((M.take i).foldl mtStep [2 ^ T.length - 1]).length ≤ 128 := fun i => by
      have h := mtFold_len (M := M.take i) (fd := [2 ^ T.length - 1])
      have h2 : 2 ^ (M.take i).length ≤ 2 ^ 7 := Nat.pow_le_pow_right (by decide) (by rw [List.length_take]; omega)
      rw [List.length_singleton, Nat.one_mul] at h
      exact Nat.le_trans h h2
    refine ⟨_, 
          (pss_cons (ps_set (i := 2) sc_law_meets.nd rfl (Or.inr rfl) (pe_lst (pa_cons (pv 0) pa_nil)))
          (pss_cons (ps_for PassesOwn.never rfl (pi_list (pv 1)) (pg_name (i := 3) sc_law_meets.nd rfl (Or.inr rfl))
            (pss_one (ps_set (i := 2) sc_law_meets.nd rfl (Or.inr rfl) (pe_op op_cat (pv 2) (pe_lc rfl sc_law_meets.nd (pi_list (pv 2)) (blkOk_by (own := [("_law_each", 4)]) (by kernel_rfl)) (fun _ _ _ _ _ => (pg_name (i := 4) sc_law_meets.nd rfl (Or.inl rfl))) (fun _ _ _ _ _ => (pts_one (pt_cmpR (op_notIn_seq : OpR _ _ (rIn K true)) (pe_call G__law_both (hr.mono (by decide)) rfl D.g__law_both D.F__law_both.kp (b__law_both D) .nil pass0 (pa_cons (pv 3) (pa_cons (pv 4) pa_nil))) (pv 2) rfl))) (fun _ _ _ _ _ => (pe_call G__law_both (hr.mono (by decide)) rfl D.g__law_both D.F__law_both.kp (b__law_both D) .nil pass0 (pa_cons (pv 3) (pa_cons (pv 4) pa_nil)))))))))
          (pss_one (ps_ret (pe_sortedSet rfl rfl D.n_sorted rfl D.n_set (pv 2)))))), ?_⟩
    refine q_asgL (xs := [2 ^ T.length - 1].map (sv T)) (el_is (el_lst (ea1 (ev_var rfl)) (by show 1 ≤ 100000; decide)) (by rw [List.map_singleton, sv_whole])) fun f H1 hf e1 h1 => ?_
    refine q_forLn (ev_var rfl) (ex_l e1 hl) (fun i σ H' => ∃ f u, σ = [some (.str (S T)), some (.ref l), some (.ref f), u, none] ∧ Ex H H' ∧ H' f = some (.lst (((M.take i).foldl mtStep [2 ^ T.length - 1]).map (sv T))))
      (fun H2 e2 => ⟨f, none, rfl, e1.trans e2, e2 _ _ h1⟩) (fun i σ H' _ ⟨_, _, _, e, _⟩ => ex_l e hl) (fun i x σ H' hx ⟨f, u, es, e2, h2⟩ => ?_) (fun σ H' ⟨f, u, es, e2, h2⟩ => ?_)
    · subst es
      rw [List.getElem?_map] at hx
      obtain ⟨m, hm, rfl⟩ := Option.map_eq_some_iff.mp hx
      have hmlt := hM m (List.mem_of_getElem? hm)
      have hst := foldl_take (f := mtStep) (a := [2 ^ T.length - 1]) hm
      have hlt := mtFold_lt (M := M.take i) hw
      have hle := hlen i
      generalize (M.take i).foldl mtStep [2 ^ T.length - 1] = fd at h2 hst hlt hle
      refine s_asgL (xs := (mtStep fd m).map (sv T)) (el_is (el_cat (ev_var rfl) h2 (el_L (ys := fd) (φ := sv T) (fun e => !decide (m &&& e ∈ fd)) (fun e => sv T (m &&& e)) (ev_var rfl) (sq_of h2) (by omega) (fun _ => rfl)
        (fun e he H3 e3 => et_test (ev_op (ev_call (ea2 (ev_var rfl) (ev_var rfl)) (pmV (T, m, e) rfl fun _ _ => hT)) (ev_var rfl) (rv_niS (m := m &&& e) hT.asc (and_lt hmlt) hlt (sq_of (e3 _ _ h2)))))
        (fun e he H3 e3 _ => ev_call (ea2 (ev_var rfl) (ev_var rfl)) (pmV (T, m, e) rfl fun _ _ => hT))) (by
          rw [List.length_map, List.length_map]
          have := List.length_filter_le (fun e => !decide (m &&& e ∈ fd)) fd
          omega)) (by unfold mtStep; rw [List.map_append, List.map_map]; rfl)) fun g H3 hg e3 h3 => ⟨g, _, rfl, e2.trans e3, ?_⟩
      rw [hst]
      exact h3
    · subst es
      have hle := hlen (M.map (sv T)).length
      have hlt := mtFold_lt (M := M) hw
      rw [List.length_map, List.take_length] at h2 hle
      exact s_retL (xs := (srt T.length (mtM T.length M)).map (sv T)) (el_ssS (M := mtM T.length M) hT.asc hlt (by show (M.foldl mtStep [2 ^ T.length - 1]).length < 1000; omega) hT.len (ev_var rfl) (sq_of h2)) fun p H3 hp e3 h3 => k p H3 (fresh_back e2 hp) (e2.trans e3) h3

def rndStep (x acc e : Nat) : Nat := if inc x e = true then acc &&& e else acc
def rndM (n : Nat) (F : List Nat) (x : Nat) : Nat := F.foldl (rndStep x) (2 ^ n - 1)
def sp_law_round (K : PySem.W.Frag) (C : Addr) : Sp := Pm (fun a : List Nat × List Nat × Addr × Nat => [.str (S a.1), .ref a.2.2.1, sv a.1 a.2.2.2]) (fun a H => Tg a.1 ∧ SqL K H a.2.2.1 (a.2.1.map (sv a.1)) ∧ a.2.2.2 < 2 ^ a.1.length)
  fun a H Q => RetV (sv a.1 (rndM a.1.length a.2.1 a.2.2.2)) H Q
theorem ok_law_round (D : Defs K mg) : FnOk P w K mg base CX0 2 D.a__law_round D.d__law_round ["_law_whole_here", "_law_closed_ones", "_law_near"] (sp_law_round K D.C) := by
  have G__law_in : FnOk P w K mg base CX0 1 D.a__law_in D.d__law_in ["_law_near", "_law_far"] (sp_law_in K D.C) := ok_law_in D
  have G__law_both : FnOk P w K mg base CX0 1 D.a__law_both D.d__law_both ["_law_near", "_law_far"] (sp_law_both K D.C) := ok_law_both D
  refine D.F__law_round.ok sc_law_round (fun vs H Q E h => ?_) (fun cdv A outer s H vs Q E hr h => ?_)
  · obtain ⟨_, rfl, _⟩ := h; rfl
  · obtain ⟨⟨T, F, l, x⟩, rfl, ⟨hT, hl, hx⟩, k⟩ := h
    have hT : Tg T := hT
    have hl : SqL K H l (F.map (sv T)) := hl
    have hx : x < 2 ^ T.length := hx
    have k : RetV (sv T (rndM T.length F x)) H Q := k
    refine ⟨_, 
          (pss_cons (ps_set (i := 3) sc_law_round.nd rfl (Or.inl rfl) (pv 0))
          (pss_cons (ps_for PassesOwn.never rfl (pi_list (pv 1)) (pg_name (i := 4) sc_law_round.nd rfl (Or.inl rfl))
            (pss_one (ps_if (pt_val (pe_call G__law_in (hr.mono (by decide)) rfl D.g__law_in D.F__law_in.kp (b__law_in D) .nil pass0 (pa_cons (pv 2) (pa_cons (pv 4) pa_nil))))
              (pss_one (ps_set (i := 3) sc_law_round.nd rfl (Or.inl rfl) (pe_call G__law_both (hr.mono (by decide)) rfl D.g__law_both D.F__law_both.kp (b__law_both D) .nil pass0 (pa_cons (pv 3) (pa_cons (pv 4) pa_nil)))))
              (pss_nil))))
          (pss_one (ps_ret (pv 3))))), ?_⟩
    refine q_asg (v := sv T (2 ^ T.length - 1)) (ev_is (ev_var rfl) (sv_whole T).symm) fun H1 e1 => ?_
    refine q_forLn (ev_var rfl) (ex_l e1 hl) (fun i σ H' => ∃ u, σ = [some (.str (S T)), some (.ref l), some (sv T x), some (sv T ((F.take i).foldl (rndStep x) (2 ^ T.length - 1))), u] ∧ Ex H H')
      (fun H2 e2 => ⟨none, rfl, e1.trans e2⟩) (fun i σ H' _ ⟨_, _, e⟩ => ex_l e hl) (fun i y σ H' hy ⟨u, es, e2⟩ => ?_) (fun σ H' ⟨u, es, e2⟩ => ?_)
    · subst es
      rw [List.getElem?_map] at hy
      obtain ⟨e, he, rfl⟩ := Option.map_eq_some_iff.mp hy
      have hst := foldl_take (f := rndStep x) (a := 2 ^ T.length - 1) he
      refine s_when (b := inc x e) (et_B (ev_call (ea2 (ev_var rfl) (ev_var rfl)) (pmV (T, x, e) rfl fun _ _ => ⟨hT, hx⟩))) (fun hb H3 e3 => ?_) fun hb H3 e3 => ⟨some (sv T e), ?_, e2.trans e3⟩
      · refine s_asg (ev_call (ea2 (ev_var rfl) (ev_var rfl)) (pmV (T, (F.take i).foldl (rndStep x) (2 ^ T.length - 1), e) rfl fun _ _ => hT)) fun H4 e4 => ⟨some (sv T e), ?_, (e2.trans e3).trans e4⟩
        rw [hst]
        unfold rndStep
        rw [if_pos hb]
        rfl
      · rw [hst]
        unfold rndStep
        rw [if_neg (by rw [hb]; decide)]
        rfl
    · subst es
      rw [List.length_map, List.take_length]
      exact s_ret (v := sv T (rndM T.length F x)) (ev_var rfl) fun H3 e3 => k H3 (e2.trans e3)

theorem lot_next : ∀ {T : List Nat} {i e c : Nat}, e < 2 ^ i → T[i]? = some c → lot T e ++ [c] = lot T (e + 2 ^ i)
  | [], i, e, c, _, h => by simp at h
  | d :: T, 0, e, c, he, h => by
    have e0 : e = 0 := by simpa using he
    have ec : d = c := by simpa using h
    subst e0 ec
    rw [lot_zero, Nat.zero_add, Nat.pow_zero, lot_cons, if_pos rfl, show 1 / 2 = 0 from rfl, lot_zero]
    rfl
  | d :: T, i + 1, e, c, he, h => by
    have h2 : T[i]? = some c := by simpa using h
    have hp : (2 : Nat) ^ (i + 1) = 2 * 2 ^ i := by rw [Nat.pow_succ, Nat.mul_comm]
    have ih := lot_next (T := T) (i := i) (e := e / 2) (c := c) (by omega) h2
    rw [lot_cons, lot_cons, show (e + 2 ^ (i + 1)) % 2 = e % 2 by omega, show (e + 2 ^ (i + 1)) / 2 = e / 2 + 2 ^ i by omega, ← ih]
    split <;> rfl
theorem range_two (i : Nat) : List.range (2 ^ i) ++ (List.range (2 ^ i)).map (fun e => e + 2 ^ i) = List.range (2 ^ (i + 1)) := by
  rw [Nat.pow_succ, Nat.mul_two, List.range_add]
  congr 1
  exact List.map_congr_left fun e _ => Nat.add_comm _ _
theorem el_sortedSV {K : PySem.W.Frag} {σ : L2.St} {H : Hp} {te : TE} {T M : List Nat} {l : Addr} (hT : T.Pairwise (· < ·)) (hM : ∀ m ∈ M, m < 2 ^ T.length) (nd : M.Nodup) (h64 : M.length < 64) (h : Ev te σ H (.ref l)) (hl : H l = some (.lst (M.map (sv T)))) : EvL (tCB (rSortedS K) (tCons te tNil)) σ H ((srt T.length M).map (sv T)) := fun H1 e Q q =>
  h H1 e _ fun H2 e2 => sorted_lots hT hM nd h64 (sq_of ((e.trans e2) _ _ hl)) fun p hn => q p _ (fresh_back e2 hn) (e2.trans (Ex.new hn)) upd_same
def sp_law_lots (K : PySem.W.Frag) (C : Addr) : Sp := Pm (fun T : List Nat => [.str (S T)]) (fun T _ => Tg T) fun T H Q => RetL ((srt T.length (List.range (2 ^ T.length))).map (sv T)) H Q
theorem ok_law_lots (D : Defs K mg) : FnOk P w K mg base CX0 1 D.a__law_lots D.d__law_lots ["_law_whole_here"] (sp_law_lots K D.C) := by
  refine D.F__law_lots.ok sc_law_lots (fun vs H Q E h => ?_) (fun cdv A outer s H vs Q E hr h => ?_)
  · obtain ⟨_, rfl, _⟩ := h; rfl
  · obtain ⟨T, rfl, hT, k⟩ := h
    have hT : Tg T := hT
    have k : RetL ((srt T.length (List.range (2 ^ T.length))).map (sv T)) H Q := k
    have h4 := hT.len
    refine ⟨_, 
          (pss_cons (ps_set (i := 1) sc_law_lots.nd rfl (Or.inl rfl) (pe_lst (pa_cons pe_str pa_nil)))
          (pss_cons (ps_for PassesOwn.never rfl (pi_str (pv 0)) (pg_name (i := 2) sc_law_lots.nd rfl (Or.inr rfl))
            (pss_one (ps_set (i := 1) sc_law_lots.nd rfl (Or.inl rfl) (pe_op op_cat (pv 1) (pe_lc rfl sc_law_lots.nd (pi_list (pv 1)) (blkOk_by (own := [("_law_each", 3)]) (by kernel_rfl)) (fun _ _ _ _ _ => (pg_name (i := 3) sc_law_lots.nd rfl (Or.inl rfl))) (fun _ _ _ _ _ => pts_nil) (fun _ _ _ _ _ => (pe_op op_add_str (pv 3) (pv 2))))))))
          (pss_one (ps_ret (pe_callB cr_sortedS (by rfl) D.n_sorted PyProof.Rows.boot_sorted (pa_cons (pv 1) pa_nil)))))), ?_⟩
    refine q_asgL (xs := [0].map (sv T)) (el_is (el_lst (ea1 ev_c) (by show 1 ≤ 100000; decide)) (by rw [List.map_singleton, sv_zero]; rfl)) fun f H1 hf e1 h1 => ?_
    refine q_forS (l := T) (ev_var rfl) (fun i σ H' => ∃ f u, σ = [some (.str (S T)), some (.ref f), u, none] ∧ Ex H H' ∧ H' f = some (.lst ((List.range (2 ^ i)).map (sv T))))
      (fun H2 e2 => ⟨f, none, rfl, e1.trans e2, e2 _ _ h1⟩) (fun i c σ H' hc ⟨f, u, es, e2, h2⟩ => ?_) (fun σ H' ⟨f, u, es, e2, h2⟩ => ?_)
    · subst es
      have hi : i < T.length := (List.getElem?_eq_some_iff.mp hc).1
      have h16 : 2 ^ i ≤ 2 ^ 4 := Nat.pow_le_pow_right (by decide) (by omega)
      refine s_asgL (xs := (List.range (2 ^ (i + 1))).map (sv T)) (el_is (el_cat (ev_var rfl) h2 (el_L (ys := List.range (2 ^ i)) (φ := sv T) (fun _ => true) (fun e => sv T (e + 2 ^ i)) (ev_var rfl) (sq_of h2) (by rw [List.length_range]; omega) (fun _ => rfl)
        (fun e he H3 e3 => et_yes) (fun e he H3 e3 _ => ev_is (ev_op (ev_var rfl) (ev_var rfl) (rv_catS (a := lot T e) (b := [c]) (by have := lot_len T e; rw [List.length_singleton]; omega))) (by rw [lot_next (List.mem_range.mp he) hc]))) (by
          rw [List.length_map, List.length_map, List.length_range, filter_yes, List.length_range]
          omega)) (by rw [filter_yes, ← range_two, List.map_append, List.map_map]; rfl)) fun g H3 hg e3 h3 => ⟨g, _, rfl, e2.trans e3, h3⟩
    · subst es
      have h16 : 2 ^ T.length ≤ 2 ^ 4 := Nat.pow_le_pow_right (by decide) h4
      exact s_retL (xs := (srt T.length (List.range (2 ^ T.length))).map (sv T)) (el_sortedSV hT.asc (fun m hm => List.mem_range.mp hm) List.nodup_range (by rw [List.length_range]; omega) (ev_var rfl) h2) fun p H3 hp e3 h3 => k p H3 (fresh_back e2 hp) (e2.trans e3) h3

def udL (F : List Nat) (e : Nat) : List Nat := F.filter fun x => !decide (x = e) && inc x e
def hdM (l : List Nat) : Nat := l.foldl (· ||| ·) 0
def rtOk (n : Nat) (F : List Nat) (e : Nat) : Bool := !(udL F e).isEmpty && !decide (rndM n F (hdM (udL F e)) = e)
def rtL (n : Nat) (F : List Nat) : List Nat := F.filter (rtOk n F)
theorem plain_lots {T : List Nat} (hT : Tg T) (M : List Nat) : (M.map (sv T)).all plainV = true := by
  rw [List.all_map]
  refine List.all_eq_true.mpr fun m _ => ?_
  show ((S (lot T m)).cps.all fun c => decide (c < 0x110000)) = true
  rw [← Array.all_toList, show (S (lot T m)).cps.toList = lot T m from rfl]
  refine List.all_eq_true.mpr fun c hc => decide_eq_true ?_
  have := (hT.alp c (lot_sub hc)).2
  omega
theorem or_fold_lt {l : List Nat} {n a : Nat} (ha : a < 2 ^ n) (h : ∀ x ∈ l, x < 2 ^ n) : l.foldl (· ||| ·) a < 2 ^ n := by
  induction l generalizing a with
  | nil => exact ha
  | cons x l ih => exact ih (Nat.or_lt_two_pow ha (h x List.mem_cons_self)) fun y hy => h y (List.mem_cons_of_mem _ hy)
theorem rnd_lt {n x : Nat} {F : List Nat} {a : Nat} (ha : a < 2 ^ n) : F.foldl (rndStep x) a < 2 ^ n := by
  induction F generalizing a with
  | nil => exact ha
  | cons e F ih =>
    refine ih ?_
    unfold rndStep
    split
    · exact and_lt ha
    · exact ha
theorem whole_lt (n : Nat) : 2 ^ n - 1 < 2 ^ n := by
  have : 0 < 2 ^ n := Nat.pow_pos (by decide)
  omega
def sp_law_roots (K : PySem.W.Frag) (C : Addr) : Sp := Pm (fun a : List Nat × List Nat × Addr => [.str (S a.1), .ref a.2.2]) (fun a H => Tg a.1 ∧ SqL K H a.2.2 (a.2.1.map (sv a.1)) ∧ (∀ m ∈ a.2.1, m < 2 ^ a.1.length) ∧ a.2.1.length ≤ 16)
  fun a H Q => RetL ((rtL a.1.length a.2.1).map (sv a.1)) H Q
theorem ok_law_roots (D : Defs K mg) : FnOk P w K mg base CX0 3 D.a__law_roots D.d__law_roots ["_law_whole_here", "_law_closed_ones"] (sp_law_roots K D.C) := by
  have G__law_in : FnOk P w K mg base CX0 1 D.a__law_in D.d__law_in ["_law_near", "_law_far"] (sp_law_in K D.C) := ok_law_in D
  have G__law_any : FnOk P w K mg base CX0 1 D.a__law_any D.d__law_any ["_law_near", "_law_far"] (sp_law_any K D.C) := ok_law_any D
  have G__law_round : FnOk P w K mg base CX0 2 D.a__law_round D.d__law_round ["_law_whole_here", "_law_closed_ones", "_law_near"] (sp_law_round K D.C) := ok_law_round D
  refine D.F__law_roots.ok sc_law_roots (fun vs H Q E h => ?_) (fun cdv A outer s H vs Q E hr h => ?_)
  · obtain ⟨_, rfl, _⟩ := h; rfl
  · obtain ⟨⟨T, F, l⟩, rfl, ⟨hT, hl, hF, h16⟩, k⟩ := h
    have hT : Tg T := hT
    have hl : SqL K H l (F.map (sv T)) := hl
    have hF : ∀ m ∈ F, m < 2 ^ T.length := hF
    have h16 : F.length ≤ 16 := h16
    have k : RetL ((rtL T.length F).map (sv T)) H Q := k
    refine ⟨_, 
          (pss_cons (ps_set (i := 2) sc_law_roots.nd rfl (Or.inl rfl) (pe_lst pa_nil))
          (pss_cons (ps_for PassesOwn.never rfl (pi_list (pv 1)) (pg_name (i := 3) sc_law_roots.nd rfl (Or.inr rfl))
            (pss_cons (ps_par rfl sc_law_roots.nd (i := 4) (j := 5) rfl rfl (by decide) rfl rfl (pa_cons pe_str (pa_cons (pe_lc rfl sc_law_roots.nd (pi_list (pv 1)) (blkOk_by (own := [("_law_near", 6)]) (by kernel_rfl)) (fun _ _ _ _ _ => (pg_name (i := 6) sc_law_roots.nd rfl (Or.inl rfl))) (fun _ _ _ _ _ => (pts_one (PW.pt (pw_and (pt_cmpR op_ne (pv 6) (pv 3) (nomark _)) (pw_and1 (pt_val (pe_call G__law_in (hr.mono (by decide)) rfl D.g__law_in D.F__law_in.kp (b__law_in D) .nil pass0 (pa_cons (pv 6) (pa_cons (pv 3) pa_nil))))))))) (fun _ _ _ _ _ => (pv 6))) pa_nil)) rfl)
            (pss_cons (ps_for PassesOwn.never rfl (pi_list (pv 5)) (pg_name (i := 6) sc_law_roots.nd rfl (Or.inl rfl))
              (pss_one (ps_set (i := 4) sc_law_roots.nd rfl (Or.inl rfl) (pe_call G__law_any (hr.mono (by decide)) rfl D.g__law_any D.F__law_any.kp (b__law_any D) .nil pass0 (pa_cons (pv 4) (pa_cons (pv 6) pa_nil))))))
            (pss_one (ps_if (PW.pt (pw_and (pt_cmpR (op_neD hr.units) (pv 5) (pe_lst pa_nil) (nomark _)) (pw_and1 (pt_cmpR op_ne (pe_call G__law_round (hr.mono (by decide)) rfl D.g__law_round D.F__law_round.kp (b__law_round D) .nil pass0 (pa_cons (pv 0) (pa_cons (pv 1) (pa_cons (pv 4) pa_nil)))) (pv 3) (nomark _)))))
              (pss_one (ps_expr (pe_bm PySem.F.plainAttrs_list PySem.F.slot_list_append PySem.F.type_list_append mt_append (pv 2) (pa_cons (pv 3) pa_nil))))
              (pss_nil))))))
          (pss_one (ps_ret (pv 2))))), ?_⟩
    refine q_asgL (xs := []) (el_lst ea_nil (Nat.zero_le _)) fun f H1 hf e1 h1 => ?_
    refine q_forLn (ev_var rfl) (ex_l e1 hl) (fun i σ H' => ∃ u3 u4 u5 u6, σ = [some (.str (S T)), some (.ref l), some (.ref f), u3, u4, u5, u6] ∧ Ex H H' ∧ H' f = some (.lst (((F.take i).filter (rtOk T.length F)).map (sv T))))
      (fun H2 e2 => ⟨none, none, none, none, rfl, e1.trans e2, e2 _ _ h1⟩) (fun i σ H' _ ⟨_, _, _, _, _, e, _⟩ => ex_l e hl) (fun i x σ H' hx ⟨u3, u4, u5, u6, es, e2, h2⟩ => ?_) (fun σ H' ⟨u3, u4, u5, u6, es, e2, h2⟩ => ?_)
    · subst es
      rw [List.getElem?_map] at hx
      obtain ⟨e, he, rfl⟩ := Option.map_eq_some_iff.mp hx
      have heF := List.mem_of_getElem? he
      have helt := hF e heF
      have hul : (udL F e).length ≤ 16 := Nat.le_trans (filter_len _ _) h16
      have hult : ∀ x ∈ udL F e, x < 2 ^ T.length := fun x hx => hF x (List.mem_filter.mp hx).1
      refine q_parCL (xs := (udL F e).map (sv T)) (el_L (ys := F) (φ := sv T) (fun x => !decide (x = e) && inc x e) (sv T) (ev_var rfl) (ex_l e2 hl) (by omega) (fun _ => rfl)
        (fun x hx H3 e3 => et_and (et_test (ev_op (ev_var rfl) (ev_var rfl) (rv_neL hT.asc (hF x hx) helt))) fun _ => et_B (ev_call (ea2 (ev_var rfl) (ev_var rfl)) (pmV (T, x, e) rfl fun _ _ => ⟨hT, hF x hx⟩))) fun x hx H3 e3 _ => ev_var rfl) fun ud H3 hud e3 h3 => ?_
      refine q_forLn (ev_var rfl) (sq_of h3) (fun r σ H' => ∃ u6, σ = [some (.str (S T)), some (.ref l), some (.ref f), some (sv T e), some (sv T (((udL F e).take r).foldl (· ||| ·) 0)), some (.ref ud), u6] ∧ Ex H3 H')
        (fun H4 e4 => ⟨_, by rw [List.take_zero, List.foldl_nil, sv_zero]; rfl, e4⟩) (fun r σ H' _ ⟨_, _, e⟩ => sq_of (e _ _ h3)) (fun r y σ H4 hy ⟨u6, es, e4⟩ => ?_) (fun σ H4 ⟨u6, es, e4⟩ => ?_)
      · subst es
        rw [List.getElem?_map] at hy
        obtain ⟨x, hx, rfl⟩ := Option.map_eq_some_iff.mp hy
        refine s_asg (ev_call (ea2 (ev_var rfl) (ev_var rfl)) (pmV (T, ((udL F e).take r).foldl (· ||| ·) 0, x) rfl fun _ _ => hT)) fun H5 e5 => ⟨some (sv T x), ?_, e4.trans e5⟩
        rw [foldl_take (f := (· ||| ·)) hx]
        rfl
      · subst es
        rw [List.length_map, List.take_length]
        have hh : hdM (udL F e) < 2 ^ T.length := or_fold_lt (Nat.pow_pos (by decide)) hult
        have e24 := (e2.trans e3).trans e4
        refine s_when (b := rtOk T.length F e) (et_and (et_test (ev_is (ev_notE (ev_var rfl) (sq_of (e4 _ _ h3)) (plain_lots hT _)) (by rw [List.isEmpty_map]))) fun _ => et_test (ev_op (ev_call (ea3 (ev_var rfl) (ev_var rfl) (ev_var rfl)) (pmV (T, F, l, hdM (udL F e)) rfl fun H5 e5 => ⟨hT, ex_l (e24.trans e5) hl, hh⟩)) (ev_var rfl) (rv_neL hT.asc (rnd_lt (whole_lt _)) helt))) (fun hb H5 e5 => ?_) fun hb H5 e5 => ⟨_, _, _, _, rfl, e24.trans e5, ?_⟩
        · have h6 := e5 _ _ (e4 _ _ (e3 _ _ h2))
          refine s_app h6 (ev_var rfl) (ev_var rfl) ?_ fun H6 e6 => ⟨_, _, _, _, rfl, ((e24.trans e5).trans e6).mut hf, ?_⟩
          · rw [List.length_map]
            have := filter_len (rtOk T.length F) (F.take i)
            rw [List.length_take] at this
            omega
          · rw [upd_same, filt_take he, if_pos hb, List.map_append]
            rfl
        · rw [filt_take he, if_neg (by rw [hb]; decide), List.append_nil]
          exact e5 _ _ (e4 _ _ (e3 _ _ h2))
    · subst es
      rw [List.length_map, List.take_length] at h2
      exact s_ret (v := .ref f) (ev_var rfl) fun H3 e3 => k f H3 hf (e2.trans e3) (e3 _ _ h2)

end
end K31

set_option Elab.async false
set_option linter.all false
set_option maxRecDepth 100000
set_option maxHeartbeats 4000000
namespace K31
open PySem PySem.Spec PyProof.Rows L2 Evl
open C8 (InsC call_isC pe_gc)
section
variable {P : Program} {w : World} {K : PySem.W.Frag} {mg : Str → Option Value} {base : Heap}
/-- the well at w, with what it may hold -/
def Wl (H : Hp) (w : Addr) : Prop := ∃ a b : Int, H w = some (.lst [.int a, .int b]) ∧ 0 ≤ a ∧ 0 ≤ b ∧ b < 2147483489
/-- only the well's list has changed -/
structure Dw (w : Addr) (H H' : Hp) : Prop where
  wl : Wl H' w
  keep : ∀ b o, b ≠ w → H b = some o → H' b = some o
section
variable {w : Addr} {H H1 H2 : Hp}
theorem Wl.ex (h : Wl H w) (e : Ex H H1) : Wl H1 w := let ⟨a, b, h1, r⟩ := h; ⟨a, b, e _ _ h1, r⟩
theorem Dw.of (h : Wl H w) (e : Ex H H1) : Dw w H H1 := ⟨h.ex e, fun b o _ hb => e b o hb⟩
theorem Dw.trans (a : Dw w H H1) (b : Dw w H1 H2) : Dw w H H2 := ⟨b.wl, fun c o n hc => b.keep c o n (a.keep c o n hc)⟩
theorem Dw.ex (a : Dw w H H1) (e : Ex H1 H2) : Dw w H H2 := ⟨a.wl.ex e, fun c o n hc => e c o (a.keep c o n hc)⟩
theorem Dw.fresh (a : Dw w H H1) {p : Addr} (hp : H1 p = none) : H p = none := by
  cases e : H p with
  | none => rfl
  | some o =>
    by_cases hpw : p = w
    · obtain ⟨x, y, h, _⟩ := a.wl
      rw [hpw] at hp
      rw [hp] at h
      cases h
    · rw [a.keep p o hpw e] at hp
      cases hp
theorem Dw.mut (a : Dw w H H1) {p : Addr} {o : HO} (hp : H p = none) (hpw : p ≠ w) : Dw w H (upd H1 p o) := ⟨let ⟨x, y, h, r⟩ := a.wl; ⟨x, y, by rw [upd_ne hpw.symm]; exact h, r⟩, fun b u n hb => by
  have hbp : b ≠ p := fun z => by rw [z, hp] at hb; cases hb
  rw [upd_ne hbp]
  exact a.keep b u n hb⟩
end
theorem small_div {i j : Int} (h0 : 0 < j) (h : j < 1000) : CDivP i j := by
  refine ⟨h0, ?_⟩
  have hj : j.natAbs.log2 / 30 + 1 = 1 := by
    have h1 : j.natAbs < 2 ^ 10 := by omega
    have h2 : j.natAbs.log2 < 10 := (Nat.log2_lt (by omega)).mpr h1
    omega
  show (decide ((if j == 0 then 0 else j.natAbs.log2 / 30 + 1) > 300) && _) = false
  rw [if_neg (show ¬ (j == 0) = true by simpa using (show j ≠ 0 by omega)), hj]
  rfl
section
variable {K : PySem.W.Frag} {σ : L2.St} {H H' : Hp} {ta tb te tx : TE} {D : Ends} {tu tz : TS} {v : V}
theorem rc_int {i : Int} : RC (fun xs H Q => (∃ i, xs = [.int i] ∧ Q (.int i) H) ∨ ∃ k, xs = [.bl k] ∧ Q (.int (if k then 1 else 0)) H) [.int i] H (.int i) := fun H1 _ _ q => .inl ⟨i, rfl, q H1 (Ex.refl H1)⟩
theorem q_divG {g : TG} {ta : TA} {i j : Int} (h : EvA ta σ H [.int i, .int j]) (hc : CDivP i j) (k : ∀ p H1, H1 p = none → Ex H H1 → g (.ref p) σ (upd H1 p (.tup [.int (i / j), .int (i % j)])) fun σ' H' => tz D σ' H') :
    tSeq (tAsg (tCB (fun xs H Q => ∃ i j, xs = [.int i, .int j] ∧ CDivP i j ∧ ∀ p, H p = none → Q (.ref p) (upd H p (.tup [.int (i / j), .int (i % j)]))) ta) g) tz D σ H := h H (Ex.refl H) _ fun H1 e => ⟨i, j, rfl, hc, fun p hp => k p H1 hp e⟩
theorem g_setL {l : Addr} {xs : List V} {j : Nat} {Q : L2.St → Hp → Prop} (hl : H l = some (.lst xs)) (ho : Ev ta σ H (.ref l)) (hi : Ev tb σ H (.int (j : Int))) (hj : j < xs.length) (k : ∀ H1, Ex H H1 → Q σ (upd H1 l (.lst (xs.set j v)))) : gSub ta tb rSetL v σ H Q :=
  ho H (Ex.refl H) _ fun H1 e1 => hi H1 e1 _ fun H2 e2 => ⟨l, xs, (j : Int), j, rfl, rfl, (e1.trans e2) l _ hl, ixN_nat hj, k H2 (e1.trans e2)⟩
end
def sp_law_dip (K : PySem.W.Frag) (C : Addr) : Sp := Pm (fun a : Addr × Nat => [.ref a.1, nv a.2]) (fun a H => Wl H a.1 ∧ 0 < a.2 ∧ a.2 < 1000) fun a H Q => ∀ (d : Nat) H2, d < a.2 → Dw a.1 H H2 → Q (nv d) H2
theorem ok_law_dip (D : Defs K mg) : FnOk P w K mg base CX0 1 D.a__law_dip D.d__law_dip ["_law_well_here", "_law_size"] (sp_law_dip K D.C) := by
  refine D.F__law_dip.ok sc_law_dip (fun vs H Q E h => ?_) (fun cdv A outer s H vs Q E hr h => ?_)
  · obtain ⟨_, rfl, _⟩ := h; rfl
  · obtain ⟨⟨w, n⟩, rfl, ⟨hwl, h0, hn⟩, k⟩ := h
    have h0 : 0 < n := h0
    have hn : n < 1000 := hn
    have k : ∀ (d : Nat) H2, d < n → Dw w H H2 → Q (nv d) H2 := k
    obtain ⟨a, b, hw, ha, hb, hb2⟩ : Wl H w := hwl
    refine ⟨_, 
          (pss_cons (ps_if (pt_cmpR op_gt (pe_ix ix_list (pv 0) pe_int (fun _ _ => rfl)) pe_int (nomark _))
            (pss_cons (ps_asg (pe_callB call_divmodW (by rfl) D.n_divmod (by decide +kernel) (pa_cons (pe_ix ix_list (pv 0) pe_int (fun _ _ => rfl)) (pa_cons (pv 1) pa_nil))) (pg_tup rfl (pgs_cons (pg_sub (pv 0) pe_int set_list) (pgs_cons (pg_name (i := 2) sc_law_dip.nd rfl (Or.inl rfl)) pgs_nil))))
            (pss_one (ps_ret (pv 2))))
            (pss_nil))
          (pss_cons (ps_asg (pe_op op_mod (pe_callTy call_int1 (by rfl) D.n_int PyProof.Rows.boot_int (pa_cons (pe_op op_add (pe_op op_mul (pe_ix ix_list (pv 0) pe_int (fun _ _ => rfl)) pe_int) pe_int) pa_nil)) pe_int) (pg_sub (pv 0) pe_int set_list))
          (pss_one (ps_ret (pe_op op_mod (pe_callTy call_int1 (by rfl) D.n_int PyProof.Rows.boot_int (pa_cons (pe_op op_fdiv (pe_ix ix_list (pv 0) pe_int (fun _ _ => rfl)) pe_int) pa_nil)) (pv 1)))))), ?_⟩
    refine q_when (b := decide (0 < a)) (et_test (ev_op (ev_op (ev_var rfl) ev_c (rv_ixLn (i := 0) (sq_of hw) rfl)) ev_c rv_I0)) (fun hb H1 e1 => ?_) fun hb H1 e1 => ?_
    · have hw1 := e1 _ _ hw
      refine q_divG (i := a) (j := (n : Int)) (ea2 (ev_op (ev_var rfl) ev_c (rv_ixLn (i := 0) (sq_of hw1) rfl)) (ev_var rfl)) (small_div (by omega) (by omega)) fun p H2 hp e2 => ?_
      have hpw : p ≠ w := fun z => by rw [z, e2 _ _ hw1] at hp; cases hp
      refine ⟨p, _, rfl, st_of upd_same, rfl, _, _, rfl, ?_⟩
      refine g_setL (l := w) (xs := [.int a, .int b]) (j := 0) (by rw [upd_ne hpw.symm]; exact e2 _ _ hw1) (ev_var rfl) ev_c (by show 0 < 2; decide) fun H3 e3 => ⟨_, _, rfl, rfl, ?_⟩
      have hm : a % (n : Int) = ((a % (n : Int)).toNat : Int) := (Int.toNat_of_nonneg (Int.emod_nonneg _ (by omega))).symm
      have hlt := Int.emod_lt_of_pos a (show (0 : Int) < n by omega)
      refine s_ret (v := nv (a % (n : Int)).toNat) (ev_is (ev_var rfl) (congrArg V.int hm)) fun H4 e4 => k _ H4 (by omega) ⟨⟨a / (n : Int), b, e4 _ _ upd_same, Int.ediv_nonneg ha (by omega), ‹0 ≤ b›, hb2⟩, fun c o hc ho => e4 _ _ ?_⟩
      rw [upd_ne hc]
      exact e3 _ _ (Ex.new hp c o (e2 _ _ (e1 _ _ ho)))
    · have hw1 := e1 _ _ hw
      have hmm : (0 : Int) ≤ (b * 61027 + 13007) % 2147483489 := Int.emod_nonneg _ (by decide)
      have hml : (b * 61027 + 13007) % 2147483489 < 2147483489 := Int.emod_lt_of_pos _ (by decide)
      refine q_setL (l := w) (xs := [.int a, .int b]) (j := 1) (v := .int ((b * 61027 + 13007) % 2147483489)) hw1 (ev_op (ev_cb (ea1 (ev_op (ev_op (ev_op (ev_var rfl) ev_c (rv_ixLn (i := 1) (sq_of hw1) rfl)) ev_c (rv_I (.inr (by decide)))) ev_c rv_I0)) rc_int) ev_c (rv_I (by decide))) (ev_var rfl) ev_c (by show 1 < 2; decide) fun H2 e2 => ?_
      generalize (b * 61027 + 13007) % 2147483489 = b2 at hmm hml
      have hw2 : (upd H2 w (.lst ([V.int a, V.int b].set 1 (.int b2)))) w = some (.lst [.int a, .int b2]) := upd_same
      have hm : (b2 / 701) % (n : Int) = (((b2 / 701) % (n : Int)).toNat : Int) := (Int.toNat_of_nonneg (Int.emod_nonneg _ (by omega))).symm
      have hlt := Int.emod_lt_of_pos (b2 / 701) (show (0 : Int) < n by omega)
      refine s_ret (v := nv ((b2 / 701) % (n : Int)).toNat) (ev_is (ev_op (ev_cb (ea1 (ev_op (ev_op (ev_var rfl) ev_c (rv_ixLn (i := 1) (sq_of hw2) rfl)) ev_c (rv_I ⟨by decide, by decide⟩))) rc_int) (ev_var rfl) (rv_I (by show (0 : Int) < (n : Int); omega))) (congrArg V.int hm)) fun H3 e3 => k _ H3 (by omega) ⟨⟨a, b2, e3 _ _ hw2, ha, hmm, hml⟩, fun c o hc ho => e3 _ _ ?_⟩
      rw [upd_ne hc]
      exact e2 _ _ (e1 _ _ ho)

theorem s_retC {D : Ends} {sp : Sp} {dvs vs : List V} {E : XK} {ta : TA} {σ : L2.St} {H : Hp} (h : EvA ta σ H vs) (k : ∀ H1, Ex H H1 → sp (vs ++ dvs) H1 D.rt E) : tRet (tCall sp dvs E ta) D σ H := h H (Ex.refl H) _ k
theorem q_asgC {D : Ends} {tz : TS} {i : Nat} {sp : Sp} {dvs vs : List V} {E : XK} {ta : TA} {σ : L2.St} {H : Hp} (h : EvA ta σ H vs) (k : ∀ H1, Ex H H1 → sp (vs ++ dvs) H1 (fun v H2 => tz D (σ.set i (some v)) H2) E) : tSeq (tAsg (tCall sp dvs E ta) (gName i)) tz D σ H := h H (Ex.refl H) _ k
theorem s_retIx {D : Ends} {K : PySem.W.Frag} {t1 : TE} {l : Addr} {sp : Sp} {dvs vs : List V} {E : XK} {ta : TA} {σ : L2.St} {H : Hp} (h1 : Ev t1 σ H (.ref l)) (h : EvA ta σ H vs) (k : ∀ H1, Ex H H1 → sp (vs ++ dvs) H1 (fun v H2 => rIxL K (.ref l) v H2 D.rt) E) : tRet (tOp (rIxL K) t1 (tCall sp dvs E ta)) D σ H :=
  h1 H (Ex.refl H) _ fun H1 e1 => h H1 e1 _ fun H2 e2 => k H2 (e1.trans e2)
def sp_law_one_of (K : PySem.W.Frag) (C : Addr) : Sp := Pm (fun a : Addr × Addr × List V => [.ref a.1, .ref a.2.1]) (fun a H => Wl H a.1 ∧ a.2.1 ≠ a.1 ∧ H a.2.1 = some (.lst a.2.2) ∧ 0 < a.2.2.length ∧ a.2.2.length < 1000) fun a H Q => ∀ v H2, v ∈ a.2.2 → Dw a.1 H H2 → Q v H2
theorem ok_law_one_of (D : Defs K mg) : FnOk P w K mg base CX0 2 D.a__law_one_of D.d__law_one_of ["_law_well_here", "_law_menu"] (sp_law_one_of K D.C) := by
  have G__law_dip : FnOk P w K mg base CX0 1 D.a__law_dip D.d__law_dip ["_law_well_here", "_law_size"] (sp_law_dip K D.C) := ok_law_dip D
  refine D.F__law_one_of.ok sc_law_one_of (fun vs H Q E h => ?_) (fun cdv A outer s H vs Q E hr h => ?_)
  · obtain ⟨_, rfl, _⟩ := h; rfl
  · obtain ⟨⟨w, l, xs⟩, rfl, ⟨hw, hne, hl, h0, h1⟩, k⟩ := h
    have hw : Wl H w := hw
    have hne : l ≠ w := hne
    have hl : H l = some (.lst xs) := hl
    have h0 : 0 < xs.length := h0
    have h1 : xs.length < 1000 := h1
    have k : ∀ v H2, v ∈ xs → Dw w H H2 → Q v H2 := k
    refine ⟨_, 
          (pss_one (ps_ret (pe_ix ix_list (pv 1) (pe_call G__law_dip (hr.mono (by decide)) rfl D.g__law_dip D.F__law_dip.kp (b__law_dip D) .nil pass0 (pa_cons (pv 0) (pa_cons (pe_callB call_len_seq (by rfl) D.n_len PySem.boot_len (pa_cons (pv 1) pa_nil)) pa_nil))) (fun _ _ => rfl)))), ?_⟩
    refine s_retIx (ev_var rfl) (ea2 (ev_var rfl) (ev_cb (ea1 (ev_var rfl)) (rc_len (.inl (sq_of hl))))) fun H1 e1 => ⟨(w, xs.length), rfl, ⟨hw.ex e1, h0, h1⟩, fun d H2 hd dw => ?_⟩
    have hd : d < xs.length := hd
    have dw : Dw w H1 H2 := dw
    have hg : xs[d]? = some xs[d] := List.getElem?_eq_getElem hd
    exact ⟨l, xs, d, xs[d], rfl, rfl, sq_of (dw.keep _ _ hne (e1 _ _ hl)), atI_nat hg, k _ H2 (List.getElem_mem hd) ((Dw.of hw e1).trans dw)⟩

section
variable {K : PySem.W.Frag} {σ : L2.St} {H : Hp} {tl te : TE} {tt : TT} {D : Ends} {Q : VK}
/-- a comprehension over a text whose parts change more than its own list -/
theorem lcS_go {l : List Nat} {j : Nat} {vs : List Nat} (h : Ev tl σ H (.str (S l))) (hw : ∀ x, wipe ((wipe σ vs).set j (some x)) vs = wipe σ vs) (Pv : Addr → Nat → Hp → Prop) (h0 : ∀ Dl H1, H1 Dl = none → Ex H H1 → Pv Dl 0 (upd H1 Dl (.lst [])))
    (hs : ∀ Dl i c H', l[i]? = some c → Pv Dl i H' → tt ((wipe σ vs).set j (some (.str (S [c])))) H' fun b H3 => if b = true then te ((wipe σ vs).set j (some (.str (S [c])))) H3 fun y H4 => ∃ acc, H4 Dl = some (.lst acc) ∧ acc.length < sizeLine ∧ Pv Dl (i + 1) (upd H4 Dl (.lst (acc ++ [y]))) else Pv Dl (i + 1) H3)
    (hd : ∀ Dl H', Pv Dl l.length H' → Q (.ref Dl) H') : tLc (iStr tl) (gName j) tt te vs σ H Q :=
  h H (Ex.refl H) _ fun H1 e1 => ⟨S l, rfl, fun Dl hD => lc_str (l := l) (Pv Dl) (h0 Dl H1 hD e1) (fun i c H' hc p => ⟨hw _, hs Dl i c H' hc p⟩) (hd Dl)⟩
theorem sum_signs (l : List Nat) : ((l.map fun c => S [c]).map (·.length)).sum = l.length := by
  induction l with
  | nil => rfl
  | cons c l ih => rw [List.map_cons, List.map_cons, List.sum_cons, ih, List.length_cons, SX.S_len]; simp; omega
abbrev rJoin (K : PySem.W.Frag) : V → List V → Hp → VK → Prop := fun x xs H Q => ∃ a p, ∃ ys : List Str, x = .str a ∧ xs = [.ref p] ∧ (SqL K H p (ys.map V.str) ∨ SqT K H p (ys.map V.str)) ∧ (ys.map (·.length)).sum + ys.length * a.length ≤ 16777216 ∧ Q (.str (Txt.join a ys)) H
theorem join_go {ls : List Nat} {p : Addr} (h : H p = some (.lst (ls.map fun c => V.str (S [c])))) (hz : ls.length ≤ 100000) (q : Q (.str (S ls)) H) : rJoin K (.str (S [])) [.ref p] H Q :=
  ⟨S [], p, ls.map fun c => S [c], rfl, rfl, .inl (sq_of (by rw [List.map_map]; exact h)), by rw [sum_signs, SX.S_len]; simp; omega, by rw [join_signs]; exact q⟩
theorem s_retJoinS {l : List Nat} {j : Nat} {vs : List Nat} (h : Ev tl σ H (.str (S l))) (hw : ∀ x, wipe ((wipe σ vs).set j (some x)) vs = wipe σ vs) (Pv : Addr → Nat → Hp → Prop) (h0 : ∀ Dl H1, H1 Dl = none → Ex H H1 → Pv Dl 0 (upd H1 Dl (.lst [])))
    (hs : ∀ Dl i c H', l[i]? = some c → Pv Dl i H' → tt ((wipe σ vs).set j (some (.str (S [c])))) H' fun b H3 => if b = true then te ((wipe σ vs).set j (some (.str (S [c])))) H3 fun y H4 => ∃ acc, H4 Dl = some (.lst acc) ∧ acc.length < sizeLine ∧ Pv Dl (i + 1) (upd H4 Dl (.lst (acc ++ [y]))) else Pv Dl (i + 1) H3)
    (hd : ∀ Dl H', Pv Dl l.length H' → ∃ ls, H' Dl = some (.lst (ls.map fun c => V.str (S [c]))) ∧ ls.length ≤ 100000 ∧ D.rt (.str (S ls)) H') : tRet (tM1 (rJoin K) (tC (.str (S []))) (tLc (iStr tl) (gName j) tt te vs)) D σ H :=
  ⟨⟨_, rfl⟩, lcS_go h hw Pv h0 hs fun Dl H' p => let ⟨ls, h1, h2, h3⟩ := hd Dl H' p; join_go h1 h2 h3⟩
theorem t_callEq {sp : Sp} {dvs vs : List V} {E : XK} {ta : TA} {c : V} {Q : Bool → Hp → Prop} (h : EvA ta σ H vs) (k : ∀ H1, Ex H H1 → sp (vs ++ dvs) H1 (fun v H2 => rEq v c H2 fun x H3 => ∃ b, x = .bl b ∧ Q b H3) E) : tTest (tOp rEq (tCall sp dvs E ta) (tC c)) σ H Q := h H (Ex.refl H) _ k
end
def sp_law_lot (K : PySem.W.Frag) (C : Addr) : Sp := Pm (fun a : Addr × List Nat => [.ref a.1, .str (S a.2)]) (fun a H => Wl H a.1 ∧ Tg a.2) fun a H Q => ∀ m H2, m < 2 ^ a.2.length → Dw a.1 H H2 → Q (sv a.2 m) H2
theorem ok_law_lot (D : Defs K mg) : FnOk P w K mg base CX0 2 D.a__law_lot D.d__law_lot ["_law_well_here", "_law_whole_here"] (sp_law_lot K D.C) := by
  have G__law_dip : FnOk P w K mg base CX0 1 D.a__law_dip D.d__law_dip ["_law_well_here", "_law_size"] (sp_law_dip K D.C) := ok_law_dip D
  refine D.F__law_lot.ok sc_law_lot (fun vs H Q E h => ?_) (fun cdv A outer s H vs Q E hr h => ?_)
  · obtain ⟨_, rfl, _⟩ := h; rfl
  · obtain ⟨⟨w, T⟩, rfl, ⟨hw, hT⟩, k⟩ := h
    have hw : Wl H w := hw
    have hT : Tg T := hT
    have h4 := hT.len
    have k : ∀ m H2, m < 2 ^ T.length → Dw w H H2 → Q (sv T m) H2 := k
    refine ⟨_, 
          (pss_one (ps_ret (pe_join pe_str (pe_lc rfl sc_law_lot.nd (pi_str (pv 1)) (blkOk_by (own := [("_law_sign", 2)]) (by kernel_rfl)) (fun _ _ _ _ _ => (pg_name (i := 2) sc_law_lot.nd rfl (Or.inl rfl))) (fun _ _ _ _ _ => (pts_one (pt_cmpR op_eq (pe_call G__law_dip (hr.mono (by decide)) rfl D.g__law_dip D.F__law_dip.kp (b__law_dip D) .nil pass0 (pa_cons (pv 0) (pa_cons pe_int pa_nil))) pe_int (nomark _)))) (fun _ _ _ _ _ => (pv 2)))))), ?_⟩
    have nw : ∀ {H1 : Hp} {Dl : Addr}, Ex H H1 → H1 Dl = none → Dl ≠ w := fun {H1 Dl} e hD z => by
      obtain ⟨x, y, h, _⟩ := hw
      rw [z, e _ _ h] at hD
      cases hD
    refine s_retJoinS (l := T) (ev_var rfl) (fun _ => rfl) (fun Dl i H' => Dl ≠ w ∧ H Dl = none ∧ Dw w H H' ∧ ∃ m, m < 2 ^ i ∧ H' Dl = some (.lst ((lot T m).map fun c => V.str (S [c])))) (fun Dl H1 hD e1 => ⟨nw e1 hD, fresh_back e1 hD, (Dw.of hw e1).mut (fresh_back e1 hD) (nw e1 hD), 0, Nat.pow_pos (by decide), by rw [lot_zero]; exact upd_same⟩)
      (fun Dl i c H' hc ⟨hDw, hD, dw, m, hm, hl⟩ => ?_) fun Dl H' ⟨hDw, hD, dw, m, hm, hl⟩ => ⟨lot T m, hl, by have := lot_len T m; omega, k m H' hm dw⟩
    refine t_callEq (ea2 (ev_var rfl) ev_c) fun H1 e1 => ⟨(w, 2), rfl, ⟨dw.wl.ex e1, (by show 0 < 2; decide), (by show 2 < 1000; decide)⟩, fun d H2 hd dw2 => ⟨rfl, _, rfl, ?_⟩⟩
    have dw2 : Dw w H1 H2 := dw2
    have hl2 := dw2.keep _ _ hDw (e1 _ _ hl)
    have dw3 := (dw.ex e1).trans dw2
    by_cases hd1 : V.int (d : Int) = V.int 1
    · rw [decide_eq_true hd1, if_pos rfl]
      refine (show Ev (tVar 2) [some (.ref w), some (.str (S T)), some (.str (S [c]))] H2 (.str (S [c])) from ev_var rfl) H2 (Ex.refl H2) _ fun H3 e3 => ⟨_, e3 _ _ hl2, sz_lt (by rw [List.length_map]; have := lot_len T m; omega), hDw, hD, (dw3.ex e3).mut hD hDw, m + 2 ^ i, by rw [Nat.pow_succ]; omega, ?_⟩
      rw [upd_same, ← lot_next hm hc, List.map_append]
      rfl
    · rw [decide_eq_false hd1, if_neg (by decide)]
      exact ⟨hDw, hD, dw3, m, by rw [Nat.pow_succ]; omega, hl2⟩

section
variable {K : PySem.W.Frag} {σ : L2.St} {H : Hp} {ta tb te : TE}
theorem el_cat2 {xs zs : List V} (ha : EvL ta σ H xs) (hb : EvL tb σ H zs) (hz : xs.length + zs.length ≤ sizeLine) : EvL (tOp rCat ta tb) σ H (xs ++ zs) := fun H1 e Q q =>
  ha H1 e _ fun l H2 _ e2 h2 => hb H2 (e.trans e2) _ fun b H3 _ e3 h3 => ⟨l, b, xs, zs, rfl, rfl, e3 l _ h2, h3, hz, fun p hp => q p _ (fresh_back (e2.trans e3) hp) ((e2.trans e3).trans (Ex.new hp)) upd_same⟩
theorem rc_abs {i : Int} : RC (fun xs H Q => ∃ i, xs = [.int i] ∧ Q (.int (if i < 0 then -i else i)) H) [.int i] H (.int (if i < 0 then -i else i)) := fun H1 _ _ q => ⟨i, rfl, q H1 (Ex.refl H1)⟩
theorem cutV_ints (ns : List Int) (lo hi : Option Int) : ∃ ms : List Int, cutV (ns.map V.int) lo hi = ms.map V.int := by
  unfold cutV
  exact ⟨_, by rw [← List.map_drop, ← List.map_take]⟩
theorem script_at {ns : List Int} {k : Nat} {z : Int} (h : k < ns.length) : (ns.map V.int)[k]? = some (.int (ns.getD k z)) := by
  rw [List.getElem?_map, List.getD_eq_getElem?_getD, List.getElem?_eq_getElem h]
  rfl
end
def sp_law_well (K : PySem.W.Frag) (C : Addr) : Sp := Pm (fun a : Addr × Nat × List Int => [.ref a.1, nv a.2.1]) (fun a H => SqL K H a.1 (a.2.2.map V.int) ∧ a.2.1 < 1000 ∧ a.2.2.length < 100000) fun a H Q => ∀ p H2, H p = none → Ex H H2 → Wl H2 p → Q (.ref p) H2
theorem ok_law_well (D : Defs K mg) : FnOk P w K mg base CX0 1 D.a__law_well D.d__law_well ["_law_script", "_law_k"] (sp_law_well K D.C) := by
  refine D.F__law_well.ok sc_law_well (fun vs H Q E h => ?_) (fun cdv A outer s H vs Q E hr h => ?_)
  · obtain ⟨_, rfl, _⟩ := h; rfl
  · obtain ⟨⟨l, n, ns⟩, rfl, ⟨hl, hn, hz⟩, k⟩ := h
    have hl : SqL K H l (ns.map V.int) := hl
    have hn : n < 1000 := hn
    have hz : ns.length < 100000 := hz
    have k : ∀ p H2, H p = none → Ex H H2 → Wl H2 p → Q (.ref p) H2 := k
    have hn1 : CMul (9203 : Int) (n : Int) := .inl (by decide)
    have hn2 : CMul (8009 : Int) (n : Int) := .inl (by decide)
    refine ⟨_, 
          (pss_cons (ps_set (i := 2) sc_law_well.nd rfl (Or.inl rfl) (pe_ifExp (pt_cmpR op_lt (pv 1) (pe_callB call_len_seq (by rfl) D.n_len PySem.boot_len (pa_cons (pv 0) pa_nil)) (nomark _)) (pe_ix ix_list (pv 0) (pv 1) (fun _ _ => rfl)) (pe_op op_add (pe_op op_mul pe_int (pv 1)) pe_int)))
          (pss_cons (ps_set (i := 3) sc_law_well.nd rfl (Or.inl rfl) (pe_op op_add pe_int (pe_op op_mul pe_int (pv 1))))
          (pss_cons (ps_for PassesOwn.never rfl (pi_list (pe_op op_cat (pe_slice sl_list (pv 0) po_none (po_some pe_int)) (pe_lst (pa_cons (pv 2) pa_nil)))) (pg_name (i := 4) sc_law_well.nd rfl (Or.inl rfl))
            (pss_one (ps_set (i := 3) sc_law_well.nd rfl (Or.inl rfl) (pe_op op_mod (pe_callTy call_int1 (by rfl) D.n_int PyProof.Rows.boot_int (pa_cons (pe_op op_add (pe_op op_add (pe_op op_mul (pv 3) pe_int) (pe_op op_mod (pe_callTy call_int1 (by rfl) D.n_int PyProof.Rows.boot_int (pa_cons (pv 4) pa_nil)) pe_int)) pe_int) pa_nil)) pe_int))))
          (pss_one (ps_ret (pe_lst (pa_cons (pe_ifExp (PW.pt (pw_or (pt_cmpR op_lt (pv 2) pe_int (nomark _)) (pw_or1 (pt_cmpR op_ge (pv 2) (pe_op op_pow pe_int pe_int) (nomark _))))) (pe_callB call_abs (by rfl) D.n_abs (by decide +kernel) (pa_cons (pv 2) pa_nil)) pe_int) (pa_cons (pv 3) pa_nil)))))))), ?_⟩
    refine q_asg (v := .int (ns.getD n (9203 * (n : Int) + 4129))) (ev_if (b := decide (n < ns.length)) (et_is (et_test (ev_op (ev_var rfl) (ev_cb (ea1 (ev_var rfl)) (rc_len (.inl hl))) rv_ltN)) (by rw [List.length_map]))
      (fun hb => ev_op (ev_var rfl) (ev_var rfl) (rv_ixLn hl (script_at (of_decide_eq_true hb)))) fun hb => ev_is (ev_op (ev_op ev_c (ev_var rfl) (rv_I hn1)) ev_c rv_I0) (by
        rw [List.getD_eq_getElem?_getD, List.getElem?_eq_none (by have := of_decide_eq_false hb; omega)]
        rfl)) fun H1 e1 => ?_
    generalize ns.getD n (9203 * (n : Int) + 4129) = c
    refine q_asg (v := .int (30011 + 8009 * (n : Int))) (ev_op ev_c (ev_op ev_c (ev_var rfl) (rv_I hn2)) rv_I0) fun H2 e2 => ?_
    generalize (30011 + 8009 * (n : Int)) = s0
    obtain ⟨ms, hms⟩ := cutV_ints ns none (some 6)
    have hmsl : ms.length ≤ ns.length := by
      have h := cutV_length (ns.map V.int) none (some 6)
      rw [hms, List.length_map, List.length_map] at h
      exact h
    have e02 := e1.trans e2
    refine q_forNLn (xs := (ms ++ [c]).map V.int) (el_is (el_cat2 (el_is (el_sl (ev_var rfl) eo_none (eo_some ev_c) (ex_l e02 hl)) hms) (el_lst (ea1 (ev_var rfl)) (by show 1 ≤ 100000; decide)) (by rw [List.length_map]; show ms.length + 1 ≤ _; exact sz_of (by omega))) (by rw [List.map_append]; rfl))
      (fun q i σ H' => ∃ (s : Int) (u : Option V), σ = [some (.ref l), some (nv n), some (.int c), some (.int s), u] ∧ Ex H H' ∧ H' q = some (.lst ((ms ++ [c]).map V.int)) ∧ (i = 0 ∨ 0 ≤ s ∧ s < 2147483489))
      (fun q H3 hq e3 h3 => ⟨s0, none, rfl, e02.trans e3, h3, .inl rfl⟩) (fun q i σ H' _ ⟨_, _, _, _, h, _⟩ => sq_of h) (fun q i x σ H' hx ⟨s, u, es, e3, h3, hs⟩ => ?_) (fun q σ H' ⟨s, u, es, e3, h3, hs⟩ => ?_)
    · subst es
      rw [List.getElem?_map] at hx
      obtain ⟨y, hy, rfl⟩ := Option.map_eq_some_iff.mp hx
      refine s_asg (ev_op (ev_cb (ea1 (ev_op (ev_op (ev_op (ev_var rfl) ev_c (rv_I (.inr (by decide)))) (ev_op (ev_cb (ea1 (ev_var rfl)) rc_int) ev_c (rv_I (by decide))) rv_I0) ev_c rv_I0)) rc_int) ev_c (rv_I (by decide))) fun H4 e4 => ⟨_, _, rfl, e3.trans e4, e4 _ _ h3, .inr ⟨Int.emod_nonneg _ (by decide), Int.emod_lt_of_pos _ (by decide)⟩⟩
    · subst es
      have hs : 0 ≤ s ∧ s < 2147483489 := by
        rcases hs with h | h
        · rw [List.length_map, List.length_append] at h
          simp at h
        · exact h
      refine s_retL (xs := [.int (if decide (c < 0) || decide ((10 : Int) ^ (18 : Int).toNat ≤ c) then (if c < 0 then -c else c) else 0), .int s]) (el_lst (ea2 (ev_if (b := decide (c < 0) || decide ((10 : Int) ^ (18 : Int).toNat ≤ c)) (et_or (et_test (ev_op (ev_var rfl) ev_c rv_I0)) fun _ => et_test (ev_op (ev_var rfl) (ev_op ev_c ev_c (rv_I ⟨by decide, by decide, by decide⟩)) rv_I0))
        (fun hb => ev_is (ev_cb (ea1 (ev_var rfl)) rc_abs) (by rw [if_pos hb])) fun hb => ev_is ev_c (by rw [if_neg (by rw [hb]; decide)])) (ev_var rfl)) (by show 2 ≤ 100000; decide)) fun p H4 hp e4 h4 => k p H4 (fresh_back e3 hp) (e3.trans e4) ⟨_, s, h4, ?_, hs.1, hs.2⟩
      split
      · split <;> omega
      · exact Int.le_refl _

section
variable {K : PySem.W.Frag} {σ : L2.St} {H : Hp} {ta te tl : TE} {tt : TT} {D : Ends} {Q : VK}
theorem s_retC2 {sp : Sp} {dvs : List V} {E : XK} {x : V} (h1 : Ev ta σ H x) (h2 : ∀ H1, Ex H H1 → te σ H1 fun y H2 => sp ([x, y] ++ dvs) H2 D.rt E) : tRet (tCall sp dvs E (tCons ta (tCons te tNil))) D σ H := h1 H (Ex.refl H) _ fun H1 e1 => h2 H1 e1
theorem lcC_go {sp : Sp} {dvs vs : List V} {E : XK} {ta : TA} {g : TG} {ws : List Nat} (h : EvA ta σ H vs) (k : ∀ H1, Ex H H1 → sp (vs ++ dvs) H1 (fun v H2 => tLc (iRng1 fun _ H Q => Q [v] H) g tt te ws σ H2 Q) E) : tLc (iRng1 (tCons (tCall sp dvs E ta) tNil)) g tt te ws σ H Q := h H (Ex.refl H) _ k
theorem lcR_go {d : Nat} {j : Nat} {vs : List Nat} (hd : d ≤ 1000) (hw : ∀ x, wipe ((wipe σ vs).set j (some x)) vs = wipe σ vs) (Pv : Addr → Nat → Hp → Prop) (h0 : ∀ Dl, H Dl = none → Pv Dl 0 (upd H Dl (.lst [])))
    (hs : ∀ Dl i H', i < d → Pv Dl i H' → te ((wipe σ vs).set j (some (nv i))) H' fun y H4 => ∃ acc, H4 Dl = some (.lst acc) ∧ acc.length < sizeLine ∧ Pv Dl (i + 1) (upd H4 Dl (.lst (acc ++ [y]))))
    (hq : ∀ Dl H', Pv Dl d H' → Q (.ref Dl) H') : tLc (iRng1 fun _ H Q => Q [nv d] H) (gName j) tYes te vs σ H Q := ⟨(d : Int), rfl, by omega, by omega, fun Dl hD => by
  rw [Int.toNat_natCast]
  exact lc_range (lo := 0) (n := d) (Pv Dl) (h0 Dl hD) (fun i H' hi p => by
    have e0 : (0 : Int) + (i : Int) = (i : Int) := Int.zero_add _
    refine ⟨?_, ?_⟩
    · show wipe ((wipe σ vs).set j (some (.int ((0 : Int) + (i : Int))))) vs = wipe σ vs
      rw [e0]
      exact hw _
    · refine yes_go ?_
      show te ((wipe σ vs).set j (some (.int ((0 : Int) + (i : Int))))) H' _
      rw [e0]
      exact hs Dl i H' hi p) (hq Dl)⟩
theorem te_callG {sp : Sp} {dvs vs : List V} {E : XK} {ta : TA} (h : EvA ta σ H vs) (k : ∀ H1, Ex H H1 → sp (vs ++ dvs) H1 Q E) : tCall sp dvs E ta σ H Q := h H (Ex.refl H) _ k
end
def sp_law_family (K : PySem.W.Frag) (C : Addr) : Sp := Pm (fun a : Addr × List Nat × Nat => [.ref a.1, .str (S a.2.1), nv a.2.2]) (fun a H => Wl H a.1 ∧ Tg a.2.1 ∧ a.2.2 ≤ 7)
  fun a H Q => ∀ (M : List Nat) p H2, (∀ m ∈ M, m < 2 ^ a.2.1.length) → M.length ≤ 7 → H p = none → Dw a.1 H H2 → H2 p = some (.lst ((srt a.2.1.length (mtM a.2.1.length M)).map (sv a.2.1))) → Q (.ref p) H2
theorem ok_law_family (D : Defs K mg) : FnOk P w K mg base CX0 3 D.a__law_family D.d__law_family ["_law_well_here", "_law_whole_here", "_law_most"] (sp_law_family K D.C) := by
  have G__law_meets : FnOk P w K mg base CX0 2 D.a__law_meets D.d__law_meets ["_law_whole_here", "_law_menu"] (sp_law_meets K D.C) := ok_law_meets D
  have G__law_dip : FnOk P w K mg base CX0 1 D.a__law_dip D.d__law_dip ["_law_well_here", "_law_size"] (sp_law_dip K D.C) := ok_law_dip D
  have G__law_lot : FnOk P w K mg base CX0 2 D.a__law_lot D.d__law_lot ["_law_well_here", "_law_whole_here"] (sp_law_lot K D.C) := ok_law_lot D
  refine D.F__law_family.ok sc_law_family (fun vs H Q E h => ?_) (fun cdv A outer s H vs Q E hr h => ?_)
  · obtain ⟨_, rfl, _⟩ := h; rfl
  · obtain ⟨⟨w, T, n⟩, rfl, ⟨hw, hT, hn⟩, k⟩ := h
    have hw : Wl H w := hw
    have hT : Tg T := hT
    have hn : n ≤ 7 := hn
    have k : ∀ (M : List Nat) p H2, (∀ m ∈ M, m < 2 ^ T.length) → M.length ≤ 7 → H p = none → Dw w H H2 → H2 p = some (.lst ((srt T.length (mtM T.length M)).map (sv T))) → Q (.ref p) H2 := k
    refine ⟨_, 
          (pss_one (ps_ret (pe_call G__law_meets (hr.mono (by decide)) rfl D.g__law_meets D.F__law_meets.kp (b__law_meets D) .nil pass0 (pa_cons (pv 1) (pa_cons (pe_lc rfl sc_law_family.nd (pi_range1 rfl D.n_range (pa_cons (pe_call G__law_dip (hr.mono (by decide)) rfl D.g__law_dip D.F__law_dip.kp (b__law_dip D) .nil pass0 (pa_cons (pv 0) (pa_cons (pe_op op_add (pv 2) pe_int) pa_nil))) pa_nil)) (blkOk_by (own := [("_law_turn", 3)]) (by kernel_rfl)) (fun _ _ _ _ _ => (pg_name (i := 3) sc_law_family.nd rfl (Or.inl rfl))) (fun _ _ _ _ _ => pts_nil) (fun _ _ _ _ _ => (pe_call G__law_lot (hr.mono (by decide)) rfl D.g__law_lot D.F__law_lot.kp (b__law_lot D) .nil pass0 (pa_cons (pv 0) (pa_cons (pv 1) pa_nil))))) pa_nil))))), ?_⟩
    refine s_retC2 (ev_var rfl) fun H1 e1 => ?_
    refine lcC_go (ea2 (ev_var rfl) (ev_op (ev_var rfl) ev_c rv_add1)) fun H2 e2 => ⟨(w, n + 1), rfl, ⟨hw.ex (e1.trans e2), Nat.succ_pos n, by show n + 1 < 1000; omega⟩, fun d H3 hd dw => ?_⟩
    have hd : d < n + 1 := hd
    have dw : Dw w H2 H3 := dw
    have dw3 := (Dw.of hw (e1.trans e2)).trans dw
    have nw : ∀ {Dl : Addr}, H3 Dl = none → Dl ≠ w := fun {Dl} hD z => by
      obtain ⟨x, y, h, _⟩ := dw3.wl
      rw [z, h] at hD
      cases hD
    refine lcR_go (by omega) (fun _ => rfl) (fun Dl i H' => Dl ≠ w ∧ H Dl = none ∧ Dw w H H' ∧ ∃ M : List Nat, M.length = i ∧ (∀ m ∈ M, m < 2 ^ T.length) ∧ H' Dl = some (.lst (M.map (sv T)))) (fun Dl hD => ⟨nw hD, dw3.fresh hD, dw3.mut (dw3.fresh hD) (nw hD), [], rfl, (fun m hm => nomatch hm), upd_same⟩)
      (fun Dl i H' hi ⟨hDw, hD, dw4, M, hM, hlt, hl⟩ => ?_) fun Dl H' ⟨hDw, hD, dw4, M, hM, hlt, hl⟩ => ?_
    · refine te_callG (ea2 (ev_var rfl) (ev_var rfl)) fun H5 e5 => ⟨(w, T), rfl, ⟨dw4.wl.ex e5, hT⟩, fun m H6 hm dw6 => ?_⟩
      have dw6 : Dw w H5 H6 := dw6
      have hm : m < 2 ^ T.length := hm
      refine ⟨_, dw6.keep _ _ hDw (e5 _ _ hl), sz_lt (by rw [List.length_map]; omega), hDw, hD, ((dw4.ex e5).trans dw6).mut hD hDw, M ++ [m], by rw [List.length_append, hM]; rfl, fun x hx => ?_, by rw [upd_same, List.map_append]; rfl⟩
      rcases List.mem_append.mp hx with q | q
      · exact hlt x q
      · rw [List.mem_singleton.mp q]; exact hm
    · exact ⟨(T, M, Dl), rfl, ⟨hT, sq_of hl, hlt, by show M.length ≤ 7; omega⟩, fun p H5 hp e5 h5 => k M p H5 hlt (by omega) (dw4.fresh hp) (dw4.ex e5) h5⟩

def rLs : List V → Hp → VK → Prop := fun vs H Q => ∃ t : List Nat, vs = [.str (S t)] ∧ t.length < 1000 ∧ ∀ p, H p = none → Q (.ref p) (upd H p (.lst (t.map fun c => V.str (S [c]))))
theorem call_listStr {X : Cx} (hc : X.calm = true) : CallR X (.type "list") rLs := by
  intro pins s σ H vs us Q I r h
  obtain ⟨t, rfl, hz, q⟩ := h
  obtain ⟨u, rfl, tk0, rfl⟩ := vals1 r
  have hs : (S t).cps.size = t.length := List.size_toArray ..
  refine PySem.call_list_str (I.ok.hd hc) (S t) tk0 (fun h' tk acc c k hg hit => ?_) (by rw [hs]; exact Nat.le_trans (Nat.le_of_lt hz) (by decide))
  have hI : StrsAre acc.toList ((S t).cps.toList.map fun c => (⟨#[c]⟩ : Str)) := signs_are _ _ (by rw [Array.length_toList, Array.length_toList, hit.1]) fun i v hv => by
    rw [Array.getElem?_toList] at hv
    obtain ⟨c, u, e1, e2⟩ := hit.2 i v hv
    exact ⟨c, u, by rw [Array.getElem?_toList]; exact e1, e2⟩
  have rv := vals_strs hI
  have ex : ((S t).cps.toList.map fun c => (⟨#[c]⟩ : Str)).map V.str = t.map fun c => V.str (S [c]) := by
    rw [List.map_map]
    rfl
  rw [ex] at rv
  exact ⟨.ref s.heap.objs.size, _, I.laid (o := .lst (t.map fun c => V.str (S [c]))) (t' := tk) k (Nat.le_refl _) ⟨by rw [List.length_map]; exact Nat.le_trans (Nat.le_of_lt hz) (by decide), acc.toList, c, rv, hg⟩, rfl, q _ (I.hok.fresh (Nat.le_refl _))⟩
section
variable {K : PySem.W.Frag} {σ : L2.St} {H : Hp} {te t1 t2 : TE} {D : Ends} {tu tz : TS}
theorem el_listS {t : List Nat} (h : Ev te σ H (.str (S t))) (hz : t.length < 1000) : EvL (tCB rLs (tCons te tNil)) σ H (t.map fun c => V.str (S [c])) := fun H1 e Q q =>
  h H1 e _ fun H2 e2 => ⟨t, rfl, hz, fun p hp => q p _ (fresh_back e2 hp) (e2.trans (Ex.new hp)) upd_same⟩
theorem el_srtStr {l T : List Nat} (h : Ev te σ H (.str (S l))) (hz : l.length < 64) (nd : l.Nodup) (hT : T.Pairwise (· < ·)) (hm : ∀ c, c ∈ T ↔ c ∈ l) : EvL (tCB rSt (tCons te tNil)) σ H (T.map fun c => V.str (S [c])) := fun H1 e Q q =>
  h H1 e _ fun H2 e2 => ⟨l, rfl, hz, fun ys p hp hs hn => by
    have ndy : ys.Nodup := hp.nodup_iff.mpr nd
    have ha : ys.Pairwise (· < ·) := (hs.and ndy).imp fun {a b} z => Nat.lt_of_le_of_ne z.1 z.2
    rw [asc_ext ha hT fun c => by rw [hp.mem_iff, hm]]
    exact q p _ (fresh_back e2 hn) (e2.trans (Ex.new hn)) upd_same⟩
theorem q_forR1C {sp : Sp} {dvs vs : List V} {E : XK} {ta : TA} {j : Nat} (h : EvA ta σ H vs) (k : ∀ H1, Ex H H1 → sp (vs ++ dvs) H1 (fun v H2 => tFor (iRng1 fun _ H Q => Q [v] H) (gName j) tu { D with nx := tz D } σ H2) E) : tSeq (tFor (iRng1 (tCons (tCall sp dvs E ta) tNil)) (gName j) tu) tz D σ H := h H (Ex.refl H) _ k
theorem s_asgPop {sp : Sp} {dvs vs : List V} {E : XK} {ta : TA} {r : R2} {i : Nat} {x : V} {l : Addr} {xs : List V} (h1 : Ev t1 σ H x) (h2 : Ev t2 σ H (.ref l)) (hl : H l = some (.lst xs)) (h : EvA ta σ H vs)
    (k : ∀ H1, Ex H H1 → sp (vs ++ dvs) H1 (fun d H2 => rPopAt (.ref l) [d] H2 fun z H3 => r x z H3 fun v H4 => D.nx (σ.set i (some v)) H4) E) : tAsg (tOp r t1 (tBM K "list" rPopAt t2 (tCons (tCall sp dvs E ta) tNil))) (gName i) D σ H :=
  h1 H (Ex.refl H) _ fun H1 e1 => h2 H1 e1 _ fun H2 e2 => ⟨Or.inl ⟨rfl, xs, sq_of ((e1.trans e2) l _ hl)⟩, h H2 (e1.trans e2) _ fun H3 e3 => k H3 ((e1.trans e2).trans e3)⟩
end
theorem erase_map {α β : Type} (f : α → β) : ∀ (l : List α) (j : Nat), (l.map f).eraseIdx j = (l.eraseIdx j).map f
  | [], _ => rfl
  | _ :: _, 0 => rfl
  | x :: l, j + 1 => congrArg (f x :: ·) (erase_map f l j)
theorem erase_perm {α : Type} : ∀ (l : List α) (i : Nat) (h : i < l.length), (l[i] :: l.eraseIdx i).Perm l
  | x :: l, 0, _ => List.Perm.refl _
  | x :: l, i + 1, h => (List.Perm.swap x (l[i]'(Nat.lt_of_succ_lt_succ h)) _).trans ((erase_perm l i (Nat.lt_of_succ_lt_succ h)).cons x)
def L7 : List Nat := [97, 98, 99, 100, 109, 121, 122]
theorem l7_asc : L7.Pairwise (· < ·) := by decide
theorem seqIx {d n : Nat} (h : d < n) : seqIndex? (d : Int) n = some d := by
  unfold seqIndex?
  have h0 : ¬ ((d : Int) < 0) := by omega
  simp only [h0, if_false]
  rw [if_pos (by simp; omega)]
  simp
theorem tg_of {l B : List Nat} (hp : (l ++ B).Perm L7) (h1 : 1 ≤ l.length) (h4 : l.length ≤ 4) : l.Nodup ∧ Tg (L7.filter fun c => decide (c ∈ l)) ∧ ∀ c, c ∈ (L7.filter fun c => decide (c ∈ l)) ↔ c ∈ l := by
  have nd : (l ++ B).Nodup := hp.nodup_iff.mpr (by decide)
  have ndl := (List.nodup_append.mp nd).1
  have hm : ∀ c, c ∈ (L7.filter fun c => decide (c ∈ l)) ↔ c ∈ l := fun c => by
    rw [List.mem_filter, decide_eq_true_eq]
    exact ⟨fun z => z.2, fun z => ⟨hp.mem_iff.mp (List.mem_append_left _ z), z⟩⟩
  have ndT : (L7.filter fun c => decide (c ∈ l)).Nodup := List.Nodup.sublist List.filter_sublist (by decide)
  have le1 := List.Nodup.length_le_of_subset ndT (l₂ := l) fun c hc => (hm c).mp hc
  have le2 := List.Nodup.length_le_of_subset ndl (l₂ := L7.filter fun c => decide (c ∈ l)) fun c hc => (hm c).mpr hc
  refine ⟨ndl, ⟨List.Pairwise.sublist List.filter_sublist l7_asc, by omega, by omega, fun c hc => ?_⟩, hm⟩
  have h := (List.mem_filter.mp hc).1
  have all : ∀ c ∈ L7, 97 ≤ c ∧ c ≤ 122 := by decide
  exact all c h
def sp_law_whole (K : PySem.W.Frag) (C : Addr) : Sp := Pm (fun a : Addr × Addr × List Nat => [.ref a.1, .ref a.2.1]) (fun a H => Wl H a.1 ∧ a.2.1 ≠ a.1 ∧ H a.2.1 = some (.lst (a.2.2.map nv)) ∧ 0 < a.2.2.length ∧ a.2.2.length < 1000 ∧ ∀ m ∈ a.2.2, 1 ≤ m ∧ m ≤ 4)
  fun a H Q => ∀ T H2, Tg T → Dw a.1 H H2 → Q (.str (S T)) H2
theorem ok_law_whole (D : Defs K mg) : FnOk P w K mg base CX0 3 D.a__law_whole D.d__law_whole ["_law_well_here", "_law_menu"] (sp_law_whole K D.C) := by
  have G__law_one_of : FnOk P w K mg base CX0 2 D.a__law_one_of D.d__law_one_of ["_law_well_here", "_law_menu"] (sp_law_one_of K D.C) := ok_law_one_of D
  have G__law_dip : FnOk P w K mg base CX0 1 D.a__law_dip D.d__law_dip ["_law_well_here", "_law_size"] (sp_law_dip K D.C) := ok_law_dip D
  refine D.F__law_whole.ok sc_law_whole (fun vs H Q E h => ?_) (fun cdv A outer s H vs Q E hr h => ?_)
  · obtain ⟨_, rfl, _⟩ := h; rfl
  · obtain ⟨⟨w, mn, ms⟩, rfl, ⟨hw, hne, hl, h0, h1, hms⟩, k⟩ := h
    have hw : Wl H w := hw
    have hne : mn ≠ w := hne
    have hl : H mn = some (.lst (ms.map nv)) := hl
    have h0 : 0 < ms.length := h0
    have h1 : ms.length < 1000 := h1
    have hms : ∀ m ∈ ms, 1 ≤ m ∧ m ≤ 4 := hms
    have k : ∀ T H2, Tg T → Dw w H H2 → Q (.str (S T)) H2 := k
    refine ⟨_, 
          (pss_cons (ps_par rfl sc_law_whole.nd (i := 2) (j := 3) rfl rfl (by decide) rfl rfl (pa_cons (pe_callTy (call_listStr rfl) (by rfl) D.n_list PyProof.Rows.boot_list (pa_cons pe_str pa_nil)) (pa_cons pe_str pa_nil)) rfl)
          (pss_cons (ps_for PassesOwn.never rfl (pi_range1 rfl D.n_range (pa_cons (pe_call G__law_one_of (hr.mono (by decide)) rfl D.g__law_one_of D.F__law_one_of.kp (b__law_one_of D) .nil pass0 (pa_cons (pv 0) (pa_cons (pv 1) pa_nil))) pa_nil)) (pg_name (i := 4) sc_law_whole.nd rfl (Or.inl rfl))
            (pss_one (ps_set (i := 3) sc_law_whole.nd rfl (Or.inl rfl) (pe_op op_add_str (pv 3) (pe_bm PySem.F.plainAttrs_list PySem.F.slot_list_pop PySem.F.type_list_pop mt_popAt (pv 2) (pa_cons (pe_call G__law_dip (hr.mono (by decide)) rfl D.g__law_dip D.F__law_dip.kp (b__law_dip D) .nil pass0 (pa_cons (pv 0) (pa_cons (pe_callB call_len_seq (by rfl) D.n_len PySem.boot_len (pa_cons (pv 2) pa_nil)) pa_nil))) pa_nil))))))
          (pss_one (ps_ret (pe_join pe_str (pe_callB (cr_sortedStr rfl) (by rfl) D.n_sorted PyProof.Rows.boot_sorted (pa_cons (pv 3) pa_nil))))))), ?_⟩
    refine q_parLC (xs := L7.map fun c => V.str (S [c])) (el_listS (t := L7) (ev_is ev_c (by decide +kernel)) (by decide)) fun bag H1 hb e1 h1b => ?_
    have hbw : bag ≠ w := fun z => by
      obtain ⟨x, y, h, _⟩ := hw
      rw [z, h] at hb
      cases hb
    refine q_forR1C (ea2 (ev_var rfl) (ev_var rfl)) fun H2 e2 => ⟨(w, mn, ms.map nv), rfl, ⟨hw.ex (e1.trans e2), hne, (e1.trans e2) _ _ hl, by show 0 < (ms.map nv).length; rw [List.length_map]; exact h0, by show (ms.map nv).length < 1000; rw [List.length_map]; exact h1⟩, fun v H3 hv dw => ?_⟩
    obtain ⟨n, hn, rfl⟩ := List.mem_map.mp hv
    obtain ⟨hn1, hn4⟩ := hms n hn
    have dw : Dw w H2 H3 := dw
    have dw3 := (Dw.of hw (e1.trans e2)).trans dw
    refine s_forR1 (n := (n : Int)) (fun H4 e4 Q4 q4 => q4 H4 (Ex.refl H4)) (by omega) (fun i σ H' => ∃ u B l, σ = [some (.ref w), some (.ref mn), some (.ref bag), some (.str (S l)), u] ∧ Dw w H H' ∧ H' bag = some (.lst (B.map fun c => V.str (S [c]))) ∧ (l ++ B).Perm L7 ∧ l.length = i)
      (fun H4 e4 => ⟨none, L7, [], rfl, dw3.ex e4, e4 _ _ (dw.keep _ _ hbw (e2 _ _ h1b)), List.Perm.refl _, rfl⟩) (fun i σ H' hi ⟨u, B, l, es, dw4, hB, hp, hli⟩ => ?_) (fun σ H' ⟨u, B, l, es, dw4, hB, hp, hli⟩ => ?_)
    · subst es
      have hlen := hp.length_eq
      rw [List.length_append] at hlen
      have h7 : L7.length = 7 := rfl
      have hBl : 0 < B.length ∧ B.length < 1000 := by omega
      refine s_asgPop (l := bag) (ev_var rfl) (ev_var rfl) hB (ea2 (ev_var rfl) (ev_is (ev_cb (ea1 (ev_var rfl)) (rc_len (.inl (sq_of hB)))) (by rw [List.length_map]))) fun H5 e5 => ⟨(w, B.length), rfl, ⟨dw4.wl.ex e5, hBl⟩, fun d H6 hd dw6 => ?_⟩
      have hd : d < B.length := hd
      have dw6 : Dw w H5 H6 := dw6
      have hB6 := dw6.keep _ _ hbw (e5 _ _ hB)
      refine ⟨bag, _, (d : Int), d, .str (S [B[d]]), rfl, rfl, hB6, by omega, by omega, by rw [List.length_map]; exact seqIx hd, by rw [List.getElem?_map, List.getElem?_eq_getElem hd]; rfl, ?_⟩
      refine ⟨S l, S [B[d]], rfl, rfl, by rw [SX.S_len, SX.S_len, List.length_singleton]; exact sz_of (by omega), ?_⟩
      rw [SX.S_cat]
      refine ⟨_, B.eraseIdx d, l ++ [B[d]], rfl, ((dw4.ex e5).trans dw6).mut hb hbw, ?_, ?_, by rw [List.length_append, hli]; rfl⟩
      · rw [upd_same, erase_map]
      · refine List.Perm.trans ?_ hp
        rw [List.append_assoc]
        exact List.Perm.append_left l (erase_perm B d hd)
    · subst es
      rw [Int.toNat_natCast] at hli
      obtain ⟨ndl, hT, hm⟩ := tg_of hp (by omega) (by omega)
      have h4 := hT.len
      generalize (L7.filter fun c => decide (c ∈ l)) = T at hT hm h4
      exact s_ret (v := .str (S T)) (ev_joinS (l := T) ev_c (el_srtStr (ev_var rfl) (by omega) ndl hT.asc hm) (by omega)) fun H5 e5 => k T H5 hT (dw4.ex e5)

end
end K31

set_option Elab.async false
set_option linter.all false
set_option maxRecDepth 100000
set_option maxHeartbeats 4000000
/-! sorted(texts, key=lambda x: (len(x), x)) inside a def. -/
namespace K31
open PySem PySem.Spec PyProof.Rows L2 Evl LamX
def lotN : Str := Str.ofString "_law_lot_here"
abbrev lamP (p : Pos) : Arguments := { posonlyargs := [], args := [⟨lotN, none, p⟩], vararg := none, kwonlyargs := [], kw_defaults := [], kwarg := none, defaults := [] }
abbrev lamBody (p1 p2 p3 p4 p5 : Pos) (kk : Nat) : Expr := .Tuple [.Call (.Name (Str.ofString "len") p1) [.Name lotN p2] [] p3, .Name lotN p4] kk p5
abbrev lamSc : Scope := { kind := .function, names := [(lotN, .local), (Str.ofString "len", .globalImplicit)], isGenerator := false, isCoroutine := false, more := [] }
section
variable {prog : Program} {w : World} {A : Around} {s : Shared} {mg mb : Str → Option Value}
theorem lam_turn {q : Str} {f c' : Addr} {cl : List (Str × Addr)} {pm ctv : Value} {pa p1 p2 p3 p4 p5 : Pos} {kk : Nat} {z : Str} {t : Tok} (hroom : A.depth < recursionLimit) (hlim : s.heap.NoLimit)
    (of : s.heap.get? f = some (PySem.W.kla_obj "<lambda>" q (lamP pa) (lamBody p1 p2 p3 p4 p5 kk) lamSc cl pm c' ctv)) (hcd : s.heap.CodeRec (.ref c') q)
    (hg : s.heap.Ns mainGlobals mg) (hm : mg (Str.ofString "len") = none) (hb : s.heap.Ns builtinsNs mb) (hbv : mb (Str.ofString "len") = some (.builtin "len")) (hz : z.length ≤ 100000) :
    wpAny (model prog w) A (call (.ref f) [.str z t]) (PySem.W.KeyPure (.tuple [.int z.length, .str z]) s) (fun _ _ => False) s := by
  refine wpAny_call (PySem.W.kla_callFunE hroom of rfl rfl rfl rfl hcd ?_)
  have hbind : bindArgs (PySem.W.kla_fn "<lambda>" q (lamP pa) (lamBody p1 p2 p3 p4 p5 kk) lamSc cl pm (.ref c') ctv) ⟨[.str z t], []⟩ = pure [(lotN, .str z t)] := by rfl
  rw [hbind]
  have hc : ∀ x ∈ lamSc.names, x.2 ≠ .cell := by decide
  have hl : ∀ x ∈ [(lotN, Value.str z t)], lamSc.names.lookup x.1 = some .local := fun x hx => by rw [List.mem_singleton.mp hx]; rfl
  refine wpAny_pure (wpAny_newFunctionEnv hc hl (fun h₁ hns hsb => ⟨hlim.fresh _ hsb, ?_⟩) rfl)
  have kp : ∀ b o, s.heap.get? b = some o → h₁.get? b = some o := fun b o e => hsb.extBut b o (Nat.ne_of_lt (Heap.lt_size e)) (Heap.get?_push_of_some _ e)
  show codeAny _ _ (.expr _ (PySem.W.envX q lamSc s.heap.objs.size f (.ref c') cl)) _ _
  refine PySem.W.kla_codeExpr (wpAny_mono (Q := fun v s' => PySem.W.KeyPure (.tuple [.int z.length, .str z]) s v s') (E := fun _ _ => False) ?_ (fun v s' h => h) fun _ _ h => h.elim)
  have hmx : ([(lotN, Value.str z t)] : List (Str × Value)).reverse.lookup lotN = some (.str z t) := by rfl
  have line := line63
  refine wpAny_Tuple_spliced (args_cons (Call_ (Calls.Name_function_global rfl rfl (Calls.loadGlobal_builtin (hg.keeps kp) hm (hb.keeps kp) hbv ?_)) rfl) rfl)
  refine PyProof.Rows.callWith_builtin1 (args_cons (wpAny_Name (wpAny_loadName_local rfl rfl hns hmx ?_) rfl) rfl) rfl rfl
  refine args_nil (len_str (by omega) ?_)
  refine args_cons (wpAny_Name (wpAny_loadName_local rfl rfl hns hmx ?_) rfl) rfl
  refine args_nil ⟨by show 2 ≤ sizeLine; decide, ?_⟩
  exact ⟨_, _, rfl, fun b o e => Heap.get?_push_of_some _ (kp b o e), Reads.tuple (Heap.get?_push_size _ rfl) rfl rfl (ReadsAll.cons (Reads.int _ _) (ReadsAll.cons (Reads.str _ _) ReadsAll.nil))⟩
end
/-! ### the order -/
def klt (a b : List Nat) : Prop := a.length < b.length ∨ a.length = b.length ∧ a < b
instance (a b : List Nat) : Decidable (klt a b) := by unfold klt; infer_instance
abbrev kOf (t : List Nat) : PyData := .tuple [.int (S t).length, .str (S t)]
theorem dataLt_kOf (a b : List Nat) : PySem.W.dataLt (kOf a) (kOf b) = decide (klt a b) := by
  rw [PySem.W.dataLt_pair (by simp [PySem.W.alike]) (by simp [PySem.W.alike]), PySem.W.dataLt_int, PySem.W.dataLt_str]
  simp only [PyData.eqv, beq_iff_eq, SX.S_len]
  show (if (a.length : Int) = (b.length : Int) then (if S a = S b then false else decide (a < b)) else decide ((a.length : Int) < (b.length : Int))) = _
  unfold klt
  by_cases h1 : a.length = b.length
  · rw [if_pos (by omega)]
    by_cases h2 : S a = S b
    · rw [if_pos h2]
      have e := SX.S_inj h2
      subst e
      simp [List.lt_irrefl]
    · rw [if_neg h2]
      simp [h1]
  · rw [if_neg (by omega)]
    simp [h1]
theorem klt_irr (a : List Nat) : ¬ klt a a := by
  unfold klt
  rintro (h | ⟨_, h⟩)
  · omega
  · exact List.lt_irrefl _ h
theorem klt_trans {a b c : List Nat} (h1 : klt a b) (h2 : klt b c) : klt a c := by
  unfold klt at *
  rcases h1 with h1 | ⟨h1, h3⟩ <;> rcases h2 with h2 | ⟨h2, h4⟩
  · exact .inl (by omega)
  · exact .inl (by omega)
  · exact .inl (by omega)
  · exact .inr ⟨by omega, List.lt_trans h3 h4⟩
theorem klt_total {a b : List Nat} (h1 : ¬ klt a b) (h2 : ¬ klt b a) : a = b := by
  unfold klt at *
  have hl : a.length = b.length := by
    rcases Nat.lt_trichotomy a.length b.length with h | h | h
    · exact absurd (.inl h) h1
    · exact h
    · exact absurd (.inl h) h2
  have h3 : ¬ a < b := fun z => h1 (.inr ⟨hl, z⟩)
  have h4 : ¬ b < a := fun z => h2 (.inr ⟨hl.symm, z⟩)
  exact List.le_antisymm (List.not_lt.mp h4) (List.not_lt.mp h3)
theorem kle_eq : PySem.W.dataLe false kOf = fun a b => !decide (klt b a) := by
  funext a b
  show (!PySem.W.dataLt (kOf b) (kOf a)) = _
  rw [dataLt_kOf]
theorem ksort (ls : List (List Nat)) : (ls.mergeSort (PySem.W.dataLe false kOf)).Pairwise fun a b => ¬ klt b a := by
  have h := List.pairwise_mergeSort (le := PySem.W.dataLe false kOf) (fun a b c h1 h2 => ?_) (fun a b => ?_) ls
  · refine h.imp fun {a b} z => ?_
    rw [kle_eq] at z
    simpa using z
  · rw [kle_eq] at h1 h2 ⊢
    simp only [Bool.not_eq_true', decide_eq_false_iff_not] at h1 h2 ⊢
    intro z
    by_cases hab : a = b
    · subst hab; exact h2 z
    · have hlt : klt a b := Classical.byContradiction fun y => hab (klt_total y h1)
      exact h2 (klt_trans z hlt)
  · rw [kle_eq]
    show (!decide (klt b a) || !decide (klt a b)) = true
    by_cases h1 : klt b a
    · have h2 : ¬ klt a b := fun z => klt_irr a (klt_trans z h1)
      simp [h2]
    · simp [h1]
/-! ### the rule -/
def tSK (P : Addr) (q : Str) (ta : TE) : TE := fun σ H Q => ta σ H fun x H1 => ∃ (l : Addr) (ls : List (List Nat)), x = .ref l ∧ H1 l = some (.lst (ls.map fun t => V.str (S t))) ∧ ls.length < 1000 ∧ (∀ t ∈ ls, t.length < 1000) ∧ TabS H1 P q ∧
  ∀ H2 (ys : List (List Nat)) p, ExtN H1 H2 → TabS H2 P q → ys.Perm ls → (ys.Pairwise fun a b => ¬ klt b a) → H2 p = none → Q (.ref p) (upd H2 p (.lst (ys.map fun t => V.str (S t))))
theorem each_strs : ∀ {ls : List (List Nat)} {vs : List Value}, Vals (ls.map fun t => V.str (S t)) vs → PySem.W.EachIs (fun v (t : List Nat) => ∃ k, v = Value.str (S t) k) vs ls
  | [], [], _ => .nil
  | t :: ls, v :: vs, h => by
    cases h with
    | cons h1 h2 => exact .cons h1 (each_strs h2)
theorem vals_each : ∀ {ls : List (List Nat)} {vs : List Value}, PySem.W.EachIs (fun v (t : List Nat) => ∃ k, v = Value.str (S t) k) vs ls → Vals (ls.map fun t => V.str (S t)) vs
  | [], [], _ => .nil
  | t :: ls, v :: vs, .cons h1 h2 => .cons h1 (vals_each h2)
section
variable {X : Cx} {a : Expr} {ta : TE} {p pa p1 p2 p3 p4 p5 lpos kpos pos : Pos} {kk k : Nat} {c P : Addr}
theorem pe_sortedKey (hr : Room k X.A) (TB : TabB X.base X.mg c P) (hcode : X.env.code = .ref c) (hg : Gl X "sorted") (hm : X.mg "sorted" = none) (hml : X.mg (Str.ofString "len") = none) (ha : PE X a ta)
    (he : starEach [a] X.env = (false, eval a X.env) :: starEach [] X.env := by rfl) :
    PE X (.Call (.Name "sorted" p) [a] [⟨some (Str.ofString "key"), .Lambda (lamP pa) (lamBody p1 p2 p3 p4 p5 kk) lamSc lpos, kpos⟩] pos) (tSK P (X.env.qual ++ "<lambda>") ta) := by
  refine ⟨fun pins s σ H Q I h => ?_⟩
  refine wpAny_Call_Name_kw (ld_blt I hg hm boot_sorted ?_)
  refine PyProof.Rows.callWith_kw (args_cons (thn (ha.run pins s σ H _ I h) fun v s1 ⟨x, H1, I1, rx, l, ls, ex, hl, hz, hzt, tb, q⟩ => args_nil ?_) he) (by rw [he]; rfl) (by rw [he]; rfl) rfl rfl
  subst ex
  cases rx
  show wpAny _ _ (evalAll ((do let v ← eval (.Lambda (lamP pa) (lamBody p1 p2 p3 p4 p5 kk) lamSc lpos) X.env; standAt pos; pure v) :: [])) _ _ s1
  have hfree : ∀ y ∈ lamSc.names, y.2 ≠ .free := by decide
  refine wpAny_evalAll_cons (wpAny_bind (lam_make2 (T := [(P, X.env.qual ++ "<lambda>")]) I1 TB hcode (List.mem_singleton.mpr rfl) (fun p hp _ => by rw [List.mem_singleton.mp hp]) (fun p hp => by rw [List.mem_singleton.mp hp]; exact tb) rfl (fun y hy e => absurd e (hfree y hy)) fun f c' pm ctv H2 s2 I2 eN T2 hf hfn hfr hco => ?_))
  refine wpAny_bind (wpAny_standAt (wpAny_pure (wpAny_evalAll_nil ?_)))
  show wpAny _ _ (call (.builtin "sorted") [.ref l] [(Str.ofString "key", .ref f)]) _ _ s2
  have hl2 : H2 l = some (.lst (ls.map fun t => V.str (S t))) := eN l _ hl fun ps z => by cases z
  obtain ⟨its, rv, pl, hz2⟩ := I2.list (sq_of hl2)
  have e := each_strs rv
  have tb2 : TabS H2 P (X.env.qual ++ "<lambda>") := T2 _ (List.mem_singleton.mpr rfl)
  obtain ⟨⟨oc, vs, t0, hoc, hdc, hvc⟩, _, _⟩ := I2.hok c' _ hco
  obtain ⟨mb, hb1, hb2⟩ := I2.mod.blt
  have h1000 : 1000 ≤ sizeLine := by decide
  refine PySem.W.sorted_key_data (b := false) kOf pl.isList e (PySem.W.AllAlike.of fun _ _ => by simp [PySem.W.alike, PySem.W.alikeAll]) (PySem.W.Sortable.tuples fun _ => ⟨_, _, rfl⟩) (by omega) (fun t _ => ?_) (PyProof.Rows.ksk_s1 _ _) (fun _ => PyProof.Rows.ksk_l1 _ _) (fun _ => PyProof.Rows.ksk_t1 _ _)
    (fun v t ⟨tk0, ev⟩ ht h tk kp => ?_) fun out c2 h' tk kp nf hD hlen eo => ?_
  · have hd : (kOf t).depth = 1 := by simp [kOf, PyData.depth, PyData.depthAll]
    have := hr.un
    omega
  · subst ev
    have hdp := hr.dp
    refine lam_turn (mg := X.mg) (mb := mb) (by show X.A.depth < _; omega) (I2.nolimit.keeps kp) (kp _ _ hf) ⟨c', oc, vs, t0, rfl, kp _ _ hoc, hdc, hvc⟩ ((I2.mod.glob.keeps I2.bk).keeps kp) hml ((hb1.keeps I2.bk).keeps kp) ((hb2 _ (by decide)).trans PySem.boot_len) ?_
    rw [SX.S_len]
    exact Nat.le_trans (Nat.le_of_lt (hzt t ht)) (by decide)
  · have hp := List.mergeSort_perm ls (PySem.W.dataLe false kOf)
    have hn : H2 (s2.heap.objs.size + 1) = none := I2.hok.fresh (Nat.le_succ _)
    have rv2 := vals_each eo
    refine ⟨.ref (s2.heap.objs.size + 1), _, I2.laid (t' := tk) (o := .lst ((ls.mergeSort (PySem.W.dataLe false kOf)).map fun t => V.str (S t))) kp (Nat.le_succ _) ⟨?_, out, c2, rv2, hD⟩, rfl, q H2 _ _ eN tb2 hp (ksort ls) hn⟩
    rw [List.length_map, hp.length_eq]
    omega
end
end K31

set_option Elab.async false
set_option linter.all false
set_option maxRecDepth 100000
set_option maxHeartbeats 4000000
namespace K31
open PySem PySem.Spec PyProof.Rows L2 Evl
open C8 (InsC call_isC pe_gc)
section
variable {P : Program} {w : World} {K : PySem.W.Frag} {mg : Str → Option Value} {base : Heap}
/-- a def whose code object is known -/
structure FunC (K : PySem.W.Frag) (x qual : Str) (st : Stmt) (f : Addr) (fd : FuncData) (c : Addr) : Prop where
  ex : ∃ (oc : Value) (od : Option Addr) (kV doc pm : Value) (an : Option Addr) (ct : Value) (osl : Array (Option Value)),
    fd = PySem.W.fnOf x qual (defArgs st) (defBody st) (defScope st) .none kV doc pm an (.ref c) ct ∧ K.lookup f = some ⟨oc, od, .func fd, osl⟩ ∧ PySem.W.codeIn K (.ref c) qual = true
theorem FunC.ok {x qual : Str} {st : Stmt} {f c : Addr} {fd : FuncData} {N ps : List Str} {k : Nat} {sp : Sp} (F : FunC K x qual st f fd c) (S : FnScope N ps (defScope st)) (len : ∀ vs H Q E, sp vs H Q E → vs.length = ps.length)
    (walk : ∀ (A : Around) (outer : List Env) (s : Shared) (H : Hp) (vs : List V) (Q : VK) (E : XK), Room k (A.deeper (envOfC qual (defScope st) s.heap.objs.size f (.ref c))) → sp vs H Q E →
      ∃ t, PSs (cxOf CX0 P w K mg base N qual (defScope st) f (.ref c) A outer s H E).nox (defBody st) t ∧ t { nx := fun _ H' => Q .non H', rt := Q } (L2.start N vs) H) : FnOk P w K mg base CX0 (k + 1) f fd ps sp := by
  obtain ⟨oc, od, kV, doc, pm, an, ct, osl, rfl, look, code⟩ := F.ex
  exact fn_of look code S len fun A outer s H vs Q E hr h => let ⟨t, h1, h2⟩ := walk A outer s H vs Q E hr h; ⟨t, h1.nox, h2⟩
/-- the table of _law_downs' code objects -/
structure Tb (D : Defs K mg) where
  c : Addr
  P : Addr
  fc : FunC K "_law_downs" "_law_downs" s_law_downs D.a__law_downs D.d__law_downs c
abbrev qL : Str := (Str.ofString "_law_downs" ++ ".<locals>.") ++ "<lambda>"
/-! ### the order by length, then by letters -/
def popc : Nat → Nat → Nat
  | 0, _ => 0
  | n + 1, m => m % 2 + popc n (m / 2)
theorem lot_popc : ∀ (T : List Nat) (m : Nat), (lot T m).length = popc T.length m
  | [], _ => rfl
  | d :: T, m => by
    rw [lot_cons, List.length_cons]
    show _ = m % 2 + popc T.length (m / 2)
    rw [← lot_popc T (m / 2)]
    by_cases h : m % 2 = 1
    · rw [if_pos h, List.length_cons]; omega
    · rw [if_neg h]; omega
def lenO (n : Nat) : List Nat := (List.range (n + 1)).flatMap fun c => (lexO n).filter fun m => decide (popc n m = c)
theorem popc_le : ∀ (n m : Nat), popc n m ≤ n
  | 0, _ => Nat.le_refl 0
  | n + 1, m => by
    show m % 2 + popc n (m / 2) ≤ n + 1
    have := popc_le n (m / 2)
    omega
theorem mem_lenO {n m : Nat} : m ∈ lenO n ↔ m < 2 ^ n := by
  unfold lenO
  rw [List.mem_flatMap]
  constructor
  · rintro ⟨c, _, h⟩
    exact mem_lexO.mp (List.mem_filter.mp h).1
  · intro h
    exact ⟨popc n m, List.mem_range.mpr (Nat.lt_succ_of_le (popc_le n m)), List.mem_filter.mpr ⟨mem_lexO.mpr h, decide_eq_true rfl⟩⟩
theorem lenO_klt {T : List Nat} (hT : T.Pairwise (· < ·)) : ((lenO T.length).map (lot T)).Pairwise klt := by
  refine List.pairwise_map.mpr ?_
  unfold lenO
  refine List.pairwise_flatMap.mpr ⟨fun c _ => ?_, ?_⟩
  · have h := List.pairwise_map.mp (lex_asc hT)
    refine (List.Pairwise.sublist List.filter_sublist h).imp_of_mem fun {a b} ha hb r => .inr ⟨?_, r⟩
    rw [lot_popc, lot_popc, of_decide_eq_true (List.mem_filter.mp ha).2, of_decide_eq_true (List.mem_filter.mp hb).2]
  · refine (List.pairwise_lt_range).imp fun {c d} hcd x hx y hy => .inl ?_
    rw [lot_popc, lot_popc, of_decide_eq_true (List.mem_filter.mp hx).2, of_decide_eq_true (List.mem_filter.mp hy).2]
    exact hcd
theorem kext : ∀ {l r : List (List Nat)}, l.Pairwise klt → r.Pairwise klt → (∀ c, c ∈ l ↔ c ∈ r) → l = r
  | [], [], _, _, _ => rfl
  | [], y :: r, _, _, h => absurd ((h y).mpr List.mem_cons_self) (by simp)
  | x :: l, [], _, _, h => absurd ((h x).mp List.mem_cons_self) (by simp)
  | x :: l, y :: r, hl, hr, h => by
    rw [List.pairwise_cons] at hl hr
    have e : x = y := by
      rcases List.mem_cons.mp ((h x).mp List.mem_cons_self) with e | hx
      · exact e
      · rcases List.mem_cons.mp ((h y).mpr List.mem_cons_self) with e | hy
        · exact e.symm
        · exact absurd (klt_trans (hl.1 y hy) (hr.1 x hx)) (klt_irr x)
    subst e
    rw [kext hl.2 hr.2 fun c => ⟨fun hc => ?_, fun hc => ?_⟩]
    · rcases List.mem_cons.mp ((h c).mp (List.mem_cons_of_mem _ hc)) with e | q
      · subst e; exact absurd (hl.1 c hc) (klt_irr c)
      · exact q
    · rcases List.mem_cons.mp ((h c).mpr (List.mem_cons_of_mem _ hc)) with e | q
      · subst e; exact absurd (hr.1 c hc) (klt_irr c)
      · exact q
def byLen (n : Nat) (R : List Nat) : List Nat := (lenO n).filter fun m => decide (m ∈ R)
theorem byLen_of {T : List Nat} (hT : T.Pairwise (· < ·)) {R : List Nat} (hR : ∀ m ∈ R, m < 2 ^ T.length) (nd : R.Nodup) {ys : List (List Nat)} (hp : ys.Perm (R.map (lot T))) (hs : ys.Pairwise fun a b => ¬ klt b a) : ys = (byLen T.length R).map (lot T) := by
  have ndR : (R.map (lot T)).Nodup := List.pairwise_map.mpr (nd.imp_of_mem fun {a b} ha hb r z => r (lot_inj' hT (hR a ha) (hR b hb) z))
  have ndy : ys.Nodup := hp.nodup_iff.mpr ndR
  refine kext ((hs.and ndy).imp fun {a b} z => Classical.byContradiction fun y => z.2 (klt_total y z.1)) ?_ fun c => ?_
  · exact List.Pairwise.sublist (List.Sublist.map _ List.filter_sublist) (lenO_klt hT)
  · rw [hp.mem_iff, List.mem_map, List.mem_map]
    constructor
    · rintro ⟨m, hm, rfl⟩
      exact ⟨m, List.mem_filter.mpr ⟨mem_lenO.mpr (hR m hm), decide_eq_true hm⟩, rfl⟩
    · rintro ⟨m, hm, rfl⟩
      exact ⟨m, of_decide_eq_true (List.mem_filter.mp hm).2, rfl⟩
/-! ### the mirror -/
def dwStep (R : List Nat) (fd : List (List Nat)) (e : Nat) : List (List Nat) := fd ++ (fd.filter fun s => (udL R e).all fun x => decide (x ∈ s)).map fun s => s ++ [e]
def dwM (n : Nat) (R : List Nat) : Nat := ((byLen n R).foldl (dwStep R) [[]]).length
theorem dwStep_len (R : List Nat) (fd : List (List Nat)) (e : Nat) : (dwStep R fd e).length ≤ 2 * fd.length := by
  unfold dwStep
  rw [List.length_append, List.length_map]
  have := List.length_filter_le (fun s => (udL R e).all fun x => decide (x ∈ s)) fd
  omega
theorem dwFold_len (R : List Nat) : ∀ (l : List Nat) (fd : List (List Nat)), (l.foldl (dwStep R) fd).length ≤ 2 ^ l.length * fd.length
  | [], fd => by simp
  | e :: l, fd => by
    have h1 := dwFold_len R l (dwStep R fd e)
    have h2 := dwStep_len R fd e
    rw [List.foldl_cons, List.length_cons, Nat.pow_succ]
    refine Nat.le_trans h1 (Nat.le_trans (Nat.mul_le_mul_left _ h2) (Nat.le_of_eq ?_))
    rw [Nat.mul_assoc]
theorem dwStep_all {R : List Nat} {fd : List (List Nat)} {e b k : Nat} (he : e < b) (h : ∀ s ∈ fd, (∀ x ∈ s, x < b) ∧ s.length ≤ k) : ∀ s ∈ dwStep R fd e, (∀ x ∈ s, x < b) ∧ s.length ≤ k + 1 := fun s hs => by
  rcases List.mem_append.mp hs with q | q
  · exact ⟨(h s q).1, Nat.le_succ_of_le (h s q).2⟩
  · obtain ⟨t, ht, rfl⟩ := List.mem_map.mp q
    obtain ⟨h1, h2⟩ := h t (List.mem_filter.mp ht).1
    refine ⟨fun x hx => ?_, by rw [List.length_append]; exact Nat.succ_le_succ h2⟩
    rcases List.mem_append.mp hx with z | z
    · exact h1 x z
    · rw [List.mem_singleton.mp z]; exact he
theorem zip_snd {α β γ : Type} : ∀ (N : List α) (L : List β) (f : β → γ), L.length ≤ N.length → (N.zip L).map (fun z => f z.2) = L.map f
  | _, [], _, _ => by simp
  | [], b :: L, _, h => by simp at h
  | a :: N, b :: L, f, h => by rw [List.zip_cons_cons, List.map_cons, List.map_cons, zip_snd N L f (Nat.le_of_succ_le_succ h)]
theorem zip_left {α β γ : Type} : ∀ (N : List α) (L : List β) (f : α → γ), N.length ≤ L.length → (N.zip L).map (fun z => f z.1) = N.map f
  | [], _, _, _ => by simp
  | a :: N, [], _, h => by simp at h
  | a :: N, b :: L, f, h => by rw [List.zip_cons_cons, List.map_cons, List.map_cons, zip_left N L f (Nat.le_of_succ_le_succ h)]
theorem zip_rel {α β γ : Type} {f : β → γ} : ∀ {N : List (α × γ)} {L : List β}, N.map (·.2) = L.map f → ∀ z ∈ N.zip L, z.1.2 = f z.2
  | [], _, _, z, hz => by simp at hz
  | a :: N, [], h, z, hz => by simp at hz
  | a :: N, b :: L, h, z, hz => by
    rw [List.map_cons, List.map_cons] at h
    injection h with h1 h2
    rw [List.zip_cons_cons] at hz
    rcases List.mem_cons.mp hz with e | q
    · rw [e]; exact h1
    · exact zip_rel h2 z q
/-! ### words -/
section
variable {σ : L2.St} {H : Hp} {ta te : TE} {tu tz : TS} {D : Ends} {α : Type} {T : List Nat}
/-- a list of new tuples, with their addresses -/
def EvN (te : TE) (σ : L2.St) (H : Hp) (qs : List (List V)) : Prop := ∀ H1, Ex H H1 → ∀ Q : VK, (∀ (p : Addr) (N : List (Addr × List V)) (H2 : Hp), H1 p = none → Ex H1 H2 → N.map (·.2) = qs → H2 p = some (.lst (N.map fun t => V.ref t.1)) → (∀ t ∈ N, H2 t.1 = some (.tup t.2)) → Q (.ref p) H2) → te σ H1 Q
theorem q_asgN {i : Nat} {qs : List (List V)} (h : EvN te σ H qs) (k : ∀ (p : Addr) (N : List (Addr × List V)) (H2 : Hp), H p = none → Ex H H2 → N.map (·.2) = qs → H2 p = some (.lst (N.map fun t => V.ref t.1)) → (∀ t ∈ N, H2 t.1 = some (.tup t.2)) → tz D (σ.set i (some (.ref p))) H2) :
    tSeq (tAsg te (gName i)) tz D σ H := h H (Ex.refl H) _ k
theorem s_asgCatN {i : Nat} {l : Addr} {xs : List V} {qs : List (List V)} (ha : Ev ta σ H (.ref l)) (hl : H l = some (.lst xs)) (hb : EvN te σ H qs) (hz : xs.length + qs.length ≤ 100000)
    (k : ∀ (p : Addr) (N : List (Addr × List V)) (H2 : Hp), H p = none → Ex H H2 → N.map (·.2) = qs → H2 p = some (.lst (xs ++ N.map fun t => V.ref t.1)) → (∀ t ∈ N, H2 t.1 = some (.tup t.2)) → D.nx (σ.set i (some (.ref p))) H2) : tAsg (tOp rCat ta te) (gName i) D σ H :=
  ha H (Ex.refl H) _ fun H1 e1 => hb H1 e1 _ fun b N H2 _ e2 hN hb2 hat => ⟨l, b, xs, N.map fun t => V.ref t.1, rfl, rfl, (e1.trans e2) l _ hl, hb2, by
    have hNl : N.length = qs.length := by rw [← hN, List.length_map]
    rw [List.length_map, hNl]
    exact sz_of hz, fun p hp => k p N _ (fresh_back (e1.trans e2) hp) ((e1.trans e2).trans (Ex.new hp)) hN upd_same fun t ht => by
      rw [upd_ne (ne_of_none (hat t ht) hp)]
      exact hat t ht⟩
theorem en_one : EvN (tLst (tCons (tTup tNil) tNil)) σ H [[]] := fun H1 e Q q => by
  unfold tLst tCons
  refine (show EvU (tTup tNil) σ H1 [] from eu_tup ea_nil (Nat.zero_le _)) H1 (Ex.refl H1) _ fun p H2 hp e2 h2 => ⟨by show 1 ≤ sizeLine; decide, fun l hl => q l [(p, [])] _ (fresh_back e2 hl) (e2.trans (Ex.new hl)) rfl upd_same fun t ht => ?_⟩
  rw [List.mem_singleton.mp ht]
  show (upd H2 l _) p = _
  rw [upd_ne (ne_of_none h2 hl)]
  exact h2
theorem en_L {a : Addr} {ys : List α} {φ : α → V} {tl : TE} {j : Nat} {vs : List Nat} {tt : TT} (pr : α → Bool) (q : α → List V) (h : Ev tl σ H (.ref a)) (hx : SqL K H a (ys.map φ)) (hz : ys.length ≤ 50000) (hw : ∀ x, wipe ((wipe σ vs).set j (some x)) vs = wipe σ vs)
    (ht : ∀ y ∈ ys, ∀ H1, Ex H H1 → EvT tt ((wipe σ vs).set j (some (φ y))) H1 (pr y)) (he : ∀ y ∈ ys, ∀ H1, Ex H H1 → pr y = true → EvU te ((wipe σ vs).set j (some (φ y))) H1 (q y)) : EvN (tLc (iList K tl) (gName j) tt te vs) σ H ((ys.filter pr).map q) := fun H0 e Q k => h H0 e _ fun H1 e1 => ⟨a, rfl, ⟨_, ex_l (e.trans e1) hx⟩, fun Dl hD =>
  lc_list (xs := ys.map φ) (fun i H' => Ex H1 H' ∧ ∃ N : List (Addr × List V), N.map (·.2) = ((ys.take i).filter pr).map q ∧ H' Dl = some (.lst (N.map fun t => V.ref t.1)) ∧ ∀ t ∈ N, H' t.1 = some (.tup t.2))
    ⟨Ex.new hD, [], by rw [List.take_zero]; rfl, upd_same, fun t ht => nomatch ht⟩ (fun i H' _ c => ex_l ((e.trans e1).trans c.1) hx) (fun i x H' hi ⟨c1, N, c2, c3, c4⟩ => by
      rw [List.getElem?_map] at hi
      obtain ⟨y, hy, rfl⟩ := Option.map_eq_some_iff.mp hi
      have hm := List.mem_of_getElem? hy
      have hil : i < ys.length := (List.getElem?_eq_some_iff.mp hy).1
      have hNl : N.length ≤ i := by
        have h1 : N.length = ((ys.take i).filter pr).length := by rw [← List.length_map (f := fun t : Addr × List V => t.2) (as := N), c2, List.length_map]
        have h2 := List.length_filter_le pr (ys.take i)
        rw [List.length_take] at h2
        omega
      refine ⟨hw _, ht y hm H1 (e.trans e1) H' c1 _ fun H3 e3 => ?_⟩
      cases hp : pr y with
      | true =>
        show te _ H3 _
        refine he y hm H1 (e.trans e1) hp H3 (c1.trans e3) _ fun b H4 hb e4 h4 => ⟨_, e4 _ _ (e3 _ _ c3), sz_lt (by rw [List.length_map]; omega), ((c1.trans e3).trans e4).mut hD, N ++ [(b, q y)], ?_, ?_, fun t ht => ?_⟩
        · rw [List.map_append, c2, take_next hy, List.filter_append, List.map_append, List.filter_cons, if_pos hp]
          rfl
        · rw [upd_same, List.map_append]
          rfl
        · have hne : ∀ (u : Addr) (zs : List V), H4 u = some (.tup zs) → u ≠ Dl := fun u zs hu z => by
            rw [z, e4 _ _ (e3 _ _ c3)] at hu
            cases hu
          rcases List.mem_append.mp ht with w | w
          · have h5 := e4 _ _ (e3 _ _ (c4 t w))
            rw [upd_ne (hne _ _ h5)]
            exact h5
          · rw [List.mem_singleton.mp w]
            show (upd H4 Dl _) b = _
            rw [upd_ne (hne _ _ h4)]
            exact h4
      | false =>
        refine ⟨c1.trans e3, N, ?_, e3 _ _ c3, fun t ht => e3 _ _ (c4 t ht)⟩
        rw [c2, take_next hy, List.filter_append, List.map_append, List.filter_cons, if_neg (by rw [hp]; decide), List.filter_nil, List.map_nil, List.append_nil])
    (fun H' ⟨c1, N, c2, c3, c4⟩ => k Dl N H' (fresh_back e1 hD) (e1.trans c1) (by
      rw [List.length_map, List.take_length] at c2
      exact c2) c3 c4)⟩
/-- lots + (each,) -/
theorem eu_catA {a : Addr} {xs : List V} {y : V} (h : Ev ta σ H (.ref a)) (hx : SqT K H a xs) (hy : Ev te σ H y) (hz : xs.length ≤ 1000) : EvU (tOp (rCatA K) ta (tTup (tCons te tNil))) σ H (xs ++ [y]) := fun H1 e Q q =>
  h H1 e _ fun H2 e2 => (show EvU (tTup (tCons te tNil)) σ H [y] from eu_tup (ea1 hy) (by show 1 ≤ 100000; decide)) H2 (e.trans e2) _ fun b H3 hb e3 h3 => ⟨a, b, xs, [y], rfl, rfl, ex_t ((e.trans e2).trans e3) hx, st_of h3, sz_of (by rw [List.length_singleton]; omega),
    fun e0 => q b H3 (fresh_back e2 hb) (e2.trans e3) (by rw [e0]; exact h3), (fun _ e0 => nomatch e0), fun _ _ p hp => q p _ (fresh_back (e2.trans e3) hp) ((e2.trans e3).trans (Ex.new hp)) upd_same⟩
theorem rv_niST {M : List Nat} {l : Addr} {m : Nat} (hT : T.Pairwise (· < ·)) (hm : m < 2 ^ T.length) (hM : ∀ x ∈ M, x < 2 ^ T.length) (h : SqT K H l (M.map (sv T))) : RV (rIn K true) (sv T m) (.ref l) H (.bl (!decide (m ∈ M))) := by
  rw [← inV_sv hT hm hM]; exact rv_niT h rfl (flat_sv T M)
theorem q_forSK {Pt : Addr} {q : Str} {l : Addr} {ls : List (List Nat)} {j : Nat} (h : Ev ta σ H (.ref l)) (hl : H l = some (.lst (ls.map fun t => V.str (S t)))) (hz : ls.length < 1000) (hzt : ∀ t ∈ ls, t.length < 1000) (tb : LamX.TabS H Pt q)
    (k : ∀ H2 (ys : List (List Nat)) p, LamX.ExtN H H2 → LamX.TabS H2 Pt q → ys.Perm ls → (ys.Pairwise fun a b => ¬ klt b a) → H2 p = none → tFor (iList K fun _ H Q => Q (.ref p) H) (gName j) tu { D with nx := tz D } σ (upd H2 p (.lst (ys.map fun t => V.str (S t))))) :
    tSeq (tFor (iList K (tSK Pt q ta)) (gName j) tu) tz D σ H := h H (Ex.refl H) _ fun H1 e1 => ⟨l, ls, rfl, e1 _ _ hl, hz, hzt, tb.ext e1, fun H2 ys p eN t2 hp hs hn => k H2 ys p ((LamX.ExtN.of e1).trans eN) t2 hp hs hn⟩
end
def sp_law_downs (K : PySem.W.Frag) (C Pt : Addr) : Sp := Pm (fun a : List Nat × List Nat × Addr => [.ref a.2.2]) (fun a H => Tg a.1 ∧ H a.2.2 = some (.lst (a.2.1.map (sv a.1))) ∧ (∀ m ∈ a.2.1, m < 2 ^ a.1.length) ∧ a.2.1.Nodup ∧ a.2.1.length ≤ 10 ∧ LamX.TabS H Pt qL)
  fun a H Q => ∀ H2, LamX.ExtN H H2 → LamX.TabS H2 Pt qL → Q (nv (dwM a.1.length a.2.1)) H2
theorem ok_law_downs (D : Defs K mg) (B : Tb D) (TB : LamX.TabB base mg B.c B.P) : FnOk P w K mg base CX0 2 D.a__law_downs D.d__law_downs ["_law_roots_here"] (sp_law_downs K D.C B.P) := by
  have G__law_in : FnOk P w K mg base CX0 1 D.a__law_in D.d__law_in ["_law_near", "_law_far"] (sp_law_in K D.C) := ok_law_in D
  refine B.fc.ok sc_law_downs (fun vs H Q E h => ?_) (fun A outer s H vs Q E hr h => ?_)
  · obtain ⟨_, rfl, _⟩ := h; rfl
  · obtain ⟨⟨T, R, l⟩, rfl, ⟨hT, hl, hR, nd, h10, tb⟩, k⟩ := h
    have hT : Tg T := hT
    have hl : H l = some (.lst (R.map (sv T))) := hl
    have hR : ∀ m ∈ R, m < 2 ^ T.length := hR
    have nd : R.Nodup := nd
    have h10 : R.length ≤ 10 := h10
    have k : ∀ H2, LamX.ExtN H H2 → LamX.TabS H2 B.P qL → Q (nv (dwM T.length R)) H2 := k
    have hlS : (R.map (sv T)) = (R.map (lot T)).map fun t => V.str (S t) := sv_eq T R
    have hbl : (byLen T.length R).length ≤ 10 := by
      have h1 : (byLen T.length R).Nodup := List.Nodup.sublist List.filter_sublist (by
        have h := lenO_klt hT.asc
        exact (List.pairwise_map.mp h).imp fun {a b} z e => by subst e; exact klt_irr _ z)
      have h2 := List.Nodup.length_le_of_subset h1 (l₂ := R) fun x hx => of_decide_eq_true (List.mem_filter.mp hx).2
      omega
    have hbR : ∀ e ∈ byLen T.length R, e ∈ R := fun e he => of_decide_eq_true (List.mem_filter.mp he).2
    refine ⟨_, 
          (pss_cons (ps_set (i := 1) sc_law_downs.nd rfl (Or.inl rfl) (pe_lst (pa_cons (pe_tup pa_nil) pa_nil)))
          (pss_cons (ps_for PassesOwn.never rfl (pi_list (pe_sortedKey hr TB rfl rfl D.n_sorted D.n_len (pv 0))) (pg_name (i := 2) sc_law_downs.nd rfl (Or.inr rfl))
            (pss_cons (ps_set (i := 3) sc_law_downs.nd rfl (Or.inr rfl) (pe_lc rfl sc_law_downs.nd (pi_list (pv 0)) (blkOk_by (own := [("_law_near", 4)]) (by kernel_rfl)) (fun _ _ _ _ _ => (pg_name (i := 4) sc_law_downs.nd rfl (Or.inl rfl))) (fun _ _ _ _ _ => (pts_one (PW.pt (pw_and (pt_cmpR op_ne (pv 4) (pv 2) (nomark _)) (pw_and1 (pt_val (pe_call G__law_in (hr.mono (by decide)) rfl D.g__law_in D.F__law_in.kp (b__law_in D) .nil pass0 (pa_cons (pv 4) (pa_cons (pv 2) pa_nil))))))))) (fun _ _ _ _ _ => (pv 4))))
            (pss_one (ps_set (i := 1) sc_law_downs.nd rfl (Or.inl rfl) (pe_op op_cat (pv 1) (pe_lc rfl sc_law_downs.nd (pi_list (pv 1)) (blkOk_by (own := [("_law_lots_here", 5)]) (by kernel_rfl)) (fun _ _ _ _ _ => (pg_name (i := 5) sc_law_downs.nd rfl (Or.inr rfl))) (fun _ _ _ _ _ => (pts_one (pt_cmpR (op_eqD hr.units : OpR _ _ (rEqD K)) (pe_lc rfl sc_law_downs.nd (pi_list (pv 3) : PI _ _ _ (iList K _)) (blkOk_by (own := [("_law_near", 4)]) (by kernel_rfl)) (fun _ _ _ _ _ => (pg_name (i := 4) sc_law_downs.nd rfl (Or.inl rfl))) (fun _ _ _ _ _ => (pts_one (pt_cmpR (op_notIn_seq : OpR _ _ (rIn K true)) (pv 4) (pv 5) rfl))) (fun _ _ _ _ _ => (pv 4))) (pe_lst pa_nil) (nomark _)))) (fun _ _ _ _ _ => (pe_op (op_catA : OpR _ _ (rCatA K)) (pv 5) (pe_tup (pa_cons (pv 2) pa_nil))))))))))
          (pss_one (ps_ret (pe_callB call_len_seq (by rfl) D.n_len PySem.boot_len (pa_cons (pv 1) pa_nil)))))), ?_⟩
    refine q_asgN (qs := [[]]) en_one fun f0 N0 H1 hf0 e1 hN0 h1 hat0 => ?_
    refine q_forSK (ls := R.map (lot T)) (ev_var rfl) (by rw [← hlS]; exact e1 _ _ hl) (by rw [List.length_map]; omega) (fun t ht => ?_) (tb.ext e1) fun H2 ys p eN t2 hp hs hn => ?_
    · obtain ⟨m, _, rfl⟩ := List.mem_map.mp ht
      have := lot_len T m
      have := hT.len
      omega
    rw [byLen_of hT.asc hR nd hp hs, ← sv_eq]
    have hl2 : H2 l = some (.lst (R.map (sv T))) := eN _ _ (e1 _ _ hl) fun ps z => by cases z
    have h2f : H2 f0 = some (.lst (N0.map fun t => V.ref t.1)) := eN _ _ h1 fun ps z => by cases z
    have hat2 : ∀ t ∈ N0, H2 t.1 = some (.tup t.2) := fun t ht => eN _ _ (hat0 t ht) fun ps z => by cases z
    have eP := Ex.new (o := .lst ((byLen T.length R).map (sv T))) hn
    have eN2 : LamX.ExtN H (upd H2 p (.lst ((byLen T.length R).map (sv T)))) := ((LamX.ExtN.of e1).trans eN).trans (LamX.ExtN.of eP)
    have hp3 : (upd H2 p (.lst ((byLen T.length R).map (sv T)))) p = some (.lst ((byLen T.length R).map (sv T))) := upd_same
    have t3 := t2.ext eP
    have hl3 := eP _ _ hl2
    have hf3 := eP _ _ h2f
    have hat3 : ∀ t ∈ N0, (upd H2 p (.lst ((byLen T.length R).map (sv T)))) t.1 = some (.tup t.2) := fun t ht => eP _ _ (hat2 t ht)
    generalize upd H2 p (.lst ((byLen T.length R).map (sv T))) = H3 at eN2 hp3 t3 hl3 hf3 hat3
    refine s_forL (a := p) (xs := (byLen T.length R).map (sv T)) (tl := fun _ H Q => Q (.ref p) H) (fun H5 _ Q q => q H5 (Ex.refl H5)) (sq_of hp3)
      (fun i σ H' => ∃ (f : Addr) (u2 u3 : Option V) (L : List (Addr × List Nat)), σ = [some (.ref l), some (.ref f), u2, u3, none, none] ∧ Ex H3 H' ∧ H' f = some (.lst (L.map fun t : Addr × List Nat => V.ref t.1)) ∧ (∀ t ∈ L, H' t.1 = some (.tup (t.2.map (sv T)))) ∧ L.map (·.2) = ((byLen T.length R).take i).foldl (dwStep R) [[]] ∧ ∀ s ∈ L.map (·.2), (∀ x ∈ s, x < 2 ^ T.length) ∧ s.length ≤ i)
      (fun H4 e4 => ?_) (fun i σ H' _ ⟨_, _, _, _, _, e, _⟩ => sq_of (e _ _ hp3)) (fun i x σ H' hx ⟨f, u2, u3, L, es, e4, hf, hat, hL, hLs⟩ => ?_) (fun σ H' ⟨f, u2, u3, L, es, e4, hf, hat, hL, hLs⟩ => ?_)
    · match N0, hN0, hf3, hat3 with
      | [(a0, s0)], hN0, hf3, hat3 =>
        have hs0 : s0 = [] := by simpa using hN0
        subst hs0
        refine ⟨f0, none, none, [(a0, [])], rfl, e4, e4 _ _ hf3, fun t ht => ?_, rfl, fun s hs => ?_⟩
        · rw [List.mem_singleton.mp ht]
          exact e4 _ _ (hat3 (a0, []) (List.mem_singleton.mpr rfl))
        · rw [List.mem_singleton.mp hs]
          exact ⟨(fun x hx => nomatch hx), Nat.zero_le _⟩
    · subst es
      rw [List.getElem?_map] at hx
      obtain ⟨e, he, rfl⟩ := Option.map_eq_some_iff.mp hx
      have hem := hbR e (List.mem_of_getElem? he)
      have helt := hR e hem
      have hi : i < (byLen T.length R).length := (List.getElem?_eq_some_iff.mp he).1
      have hul : (udL R e).length ≤ 10 := Nat.le_trans (filter_len _ _) h10
      have hult : ∀ x ∈ udL R e, x < 2 ^ T.length := fun x hx => hR x (List.mem_filter.mp hx).1
      have hLlen : L.length ≤ 1024 := by
        have h := dwFold_len R ((byLen T.length R).take i) [[]]
        rw [← hL, List.length_map, List.length_singleton, Nat.mul_one, List.length_take] at h
        exact Nat.le_trans h (show _ ≤ 2 ^ 10 from Nat.pow_le_pow_right (by decide) (by omega))
      show tSeq _ _ _ _ _
      refine q_asgL (xs := (udL R e).map (sv T)) (el_L (ys := R) (φ := sv T) (fun x => !decide (x = e) && inc x e) (sv T) (ev_var rfl) (sq_of (e4 _ _ hl3)) (by omega) (fun _ => rfl)
        (fun x hx H5 e5 => et_and (et_test (ev_op (ev_var rfl) (ev_var rfl) (rv_neL hT.asc (hR x hx) helt))) fun _ => et_B (ev_call (ea2 (ev_var rfl) (ev_var rfl)) (pmV (T, x, e) rfl fun _ _ => ⟨hT, hR x hx⟩))) fun x hx H5 e5 _ => ev_var rfl) fun ud H5 hud e5 h5 => ?_
      have hf5 := e5 _ _ hf
      refine s_asgCatN (xs := L.map fun t => V.ref t.1) (qs := ((L.filter fun t => (udL R e).all fun x => decide (x ∈ t.2)).map fun t => t.2.map (sv T) ++ [sv T e])) (ev_var rfl) hf5 (en_L (ys := L) (φ := fun t => V.ref t.1) (fun t => (udL R e).all fun x => decide (x ∈ t.2)) (fun t => t.2.map (sv T) ++ [sv T e]) (ev_var rfl) (sq_of hf5) (by omega) (fun _ => rfl)
          (fun t ht H6 e6 => ?_) (fun t ht H6 e6 _ => ?_)) ?_ fun g N H6 hg e6 hN h6 hat6 => ?_
      · have hts := (hLs t.2 (List.mem_map_of_mem (f := (·.2)) ht)).1
        refine et_test (ev_is (ev_isE (xs := ((udL R e).filter fun x => !decide (x ∈ t.2)).map (sv T)) (el_L (ys := udL R e) (φ := sv T) (fun x => !decide (x ∈ t.2)) (sv T) (ev_var rfl) (sq_of (e6 _ _ h5)) (by omega) (fun _ => rfl)
          (fun x hx H7 e7 => et_test (ev_op (ev_var rfl) (ev_var rfl) (rv_niST hT.asc (hult x hx) hts (st_of (e7 _ _ (e6 _ _ (e5 _ _ (hat t ht)))))))) fun x hx H7 e7 _ => ev_var rfl) (plain_lots hT _)) (congrArg V.bl ?_))
        rw [List.isEmpty_map, Bool.eq_iff_iff, List.isEmpty_iff, List.filter_eq_nil_iff, List.all_eq_true]
        refine ⟨fun z x hx => ?_, fun z x hx => ?_⟩
        · simpa using z x hx
        · simpa using z x hx
      · have hts := (hLs t.2 (List.mem_map_of_mem (f := (·.2)) ht)).2
        exact eu_catA (ev_var rfl) (st_of (e6 _ _ (e5 _ _ (hat t ht)))) (ev_var rfl) (by rw [List.length_map]; omega)
      · rw [List.length_map, List.length_map]
        have := List.length_filter_le (fun t : Addr × List Nat => (udL R e).all fun x => decide (x ∈ t.2)) L
        omega
      · have hstep : ((byLen T.length R).take (i + 1)).foldl (dwStep R) [[]] = dwStep R (L.map (·.2)) e := by rw [foldl_take he, hL]
        have hNl : N.length = (L.filter fun t => (udL R e).all fun x => decide (x ∈ t.2)).length := by rw [← List.length_map (f := fun t : Addr × List V => t.2) (as := N), hN, List.length_map]
        have hnew : (L ++ (N.zip (L.filter fun t => (udL R e).all fun x => decide (x ∈ t.2))).map (fun z => ((z.1.1, z.2.2 ++ [e]) : Addr × List Nat))).map (fun t => t.2) = dwStep R (L.map (·.2)) e := by
          unfold dwStep
          rw [List.map_append, List.map_map]
          congr 1
          rw [show ((fun t : Addr × List Nat => t.2) ∘ fun z : (Addr × List V) × Addr × List Nat => (z.1.1, z.2.2 ++ [e])) = fun z => z.2.2 ++ [e] from rfl, zip_snd N _ (fun t : Addr × List Nat => t.2 ++ [e]) (by omega), List.filter_map, List.map_map]
          rfl
        refine ⟨g, _, _, L ++ (N.zip (L.filter fun t => (udL R e).all fun x => decide (x ∈ t.2))).map (fun z => (z.1.1, z.2.2 ++ [e])), rfl, (e4.trans e5).trans e6, ?_, fun t ht => ?_, hnew.trans hstep.symm, fun s hs => ?_⟩
        · rw [h6, List.map_append, List.map_map]
          congr 3
          exact (zip_left N _ (fun t => V.ref t.1) (by omega)).symm
        · rcases List.mem_append.mp ht with q | q
          · exact e6 _ _ (e5 _ _ (hat t q))
          · obtain ⟨z, hz, rfl⟩ := List.mem_map.mp q
            have h8 := hat6 z.1 (List.of_mem_zip hz).1
            show H6 z.1.1 = _
            rw [h8, zip_rel hN z hz, List.map_append]
            rfl
        · rw [hnew] at hs
          exact dwStep_all helt hLs s hs
    · subst es
      rw [List.length_map, List.take_length] at hL
      refine s_ret (v := nv (dwM T.length R)) (ev_is (ev_cb (ea1 (ev_var rfl)) (rc_len (.inl (sq_of hf)))) ?_) fun H5 e5 => k H5 (eN2.trans (LamX.ExtN.of (e4.trans e5))) (t3.ext (e4.trans e5))
      unfold dwM
      rw [← hL, List.length_map, List.length_map]

end
end K31

set_option Elab.async false
set_option linter.all false
set_option maxRecDepth 100000
set_option maxHeartbeats 4000000
/-! Promises that ask for an empty list of guards (repr); repr; calls by keyword. -/
namespace K31
open PySem PySem.Spec PyProof.Rows L2 Evl
structure FnOkG (P : Program) (w : World) (K : PySem.W.Frag) (mg : Str → Option Value) (base : Heap) (k : Nat) (f : Addr) (fd : FuncData) (ps : List Str) (sp : Sp) : Prop where
  wide : ∀ vs H Q E, sp vs H Q E → vs.length = ps.length
  go : ∀ (A : Around) (outer : List Env) (s : Shared) (H : Hp) (args : Args) (us : List Value) (vs : List V) (Q : VK) (E : XK), A.guards = some [] → Room k A → Env0 P w K mg base A outer s H → BindsTo s fd args (ps.zip us) → Vals vs us → sp vs H Q E →
    codeAny (model P w) A (.call (.ref f) args) (CR CX0 outer P w H s Q E) s
section
variable {P : Program} {w : World} {K : PySem.W.Frag} {mg : Str → Option Value} {base : Heap}
theorem fnG {x qual : Str} {st : Stmt} {f : Addr} {fd : FuncData} {N ps : List Str} {k : Nat} {sp : Sp} (F : Fun K x qual st f fd) (S : FnScope N ps (defScope st)) (len : ∀ vs H Q E, sp vs H Q E → vs.length = ps.length)
    (walk : ∀ (cdv : Value) (A : Around) (outer : List Env) (s : Shared) (H : Hp) (vs : List V) (Q : VK) (E : XK), A.guards = some [] → Room k (A.deeper (envOfC qual (defScope st) s.heap.objs.size f cdv)) → sp vs H Q E →
      ∃ t, PSs (cxOf CX0 P w K mg base N qual (defScope st) f cdv A outer s H E).nox (defBody st) t ∧ t { nx := fun _ H' => Q .non H', rt := Q } (L2.start N vs) H) : FnOkG P w K mg base (k + 1) f fd ps sp := by
  obtain ⟨oc, od, kV, doc, pm, an, cdv, ct, osl, rfl, look, code⟩ := F.ex
  exact ⟨len, fun A outer s H args us vs Q E hgd hr e0 hb r h => LamX.run_ofS look code S hr e0 hb r (len _ _ _ _ h) fun hr' => let ⟨t, h1, h2⟩ := walk cdv A outer s H vs Q E hgd hr' h; ⟨t, h1.nox, h2⟩⟩
end
section
variable {X : Cx} {k : Nat} {f : Addr} {fd : FuncData} {ps ks : List Str} {sp : Sp} {E : XK} {x : Str} {p pos : Pos} {e : Expr} {es : List Expr} {kws : List Keyword} {t tk : TA} {dvs : List V} {ds : List Value}
theorem pe_callG (F : FnOkG X.prog X.w X.K X.mg X.base k f fd ps sp) (hgd : X.A.guards = some []) (hr : Room k X.A) (hg : Gl X x) (hm : X.mg x = some (.ref f)) (hk : PySem.W.keepIn X.K (.ref f) = true) (hb : Binds X.K fd ps ds) (hd : Vals dvs ds) (hx : Passes CX0 X E)
    (ha : PA X (e :: es) t) (hdb : (x == ("__debug__" : Str)) = false := by decide) (he : starEach (e :: es) X.env = (false, eval e X.env) :: starEach es X.env := by rfl) (hpl : (backTo pos (starEach es X.env)).any (·.1) = false := by rfl) :
    PE X (.Call (.Name x p) (e :: es) [] pos) (tCall sp dvs E t) := by
  refine ⟨fun pins s σ H Q I h => wpAny_Call_Name_kw (ld_glob I hg hm ?_ hdb)⟩
  refine PySem.W.callWith_K (h₀ := X.base) I.ok.mod.kin hk (thn (ha.run pos pins s σ H _ I h) fun us s1 ⟨vs, H1, I1, r1, q1⟩ => ⟨I1.kIn, ?_⟩) he hpl
  have r2 := r1.append hd
  have wd : (us ++ ds).length = ps.length := r2.length ▸ F.wide _ _ _ _ q1
  refine wpAny_call (codeAny_mono (F.go X.A X.stack s1 H1 ⟨us, []⟩ (us ++ ds) _ Q E hgd hr I1.env0 (hb s1 us I1.kIn wd) r2 q1) fun r s' z => ?_)
  match r, z with
  | .error e, z => exact hx pins σ H1 s1 e s' I1 z
  | .ok (.ret u), z => exact I1.after z
  | .ok .next, z => exact z.elim
  | .ok .brk, z => exact z.elim
  | .ok .cont, z => exact z.elim
/-- f(k = v) -/
theorem pe_callKW {kn : Str} {kpos : Pos} {te : TE} (F : FnOk X.prog X.w X.K X.mg X.base CX0 k f fd [kn] sp) (hr : Room k X.A) (hg : Gl X x) (hm : X.mg x = some (.ref f)) (hk : PySem.W.keepIn X.K (.ref f) = true) (hb : ∀ u, bindArgs fd ⟨[], [(kn, u)]⟩ = pure [(kn, u)]) (hx : Passes CX0 X E)
    (he : PE X e te) (hdb : (x == ("__debug__" : Str)) = false := by decide) (hall : (backToKw pos (keywordEach [⟨some kn, e, kpos⟩] X.env)).all (·.1.isSome) = true := by rfl) (hks : (backToKw pos (keywordEach [⟨some kn, e, kpos⟩] X.env)).filterMap (·.1) = [kn] := by rfl)
    (hpl : ((backTo pos (starEach [] X.env)).any (·.1) || (backToKw pos (keywordEach [⟨some kn, e, kpos⟩] X.env)).any (·.1.isNone)) = false := by rfl) :
    PE X (.Call (.Name x p) [] [⟨some kn, e, kpos⟩] pos) (tCall sp [] E (tCons te tNil)) := by
  refine ⟨fun pins s σ H Q I h => wpAny_Call_Name_kw (ld_glob I hg hm ?_ hdb)⟩
  refine PySem.W.callWith_KW0 (h₀ := X.base) I.ok.mod.kin hk hall (thn ((pk_cons (nm := some kn) (kpos := kpos) he pk_nil).run pos pins s σ H _ I h) fun ws s2 ⟨zs, H2, I2, rz, q2⟩ => ⟨I2.kIn, ?_⟩) hpl
  rw [hks]
  have q2 : sp (zs ++ []) H2 Q E := q2
  rw [List.append_nil] at q2
  have wd := F.len _ _ _ _ q2
  obtain ⟨z, rfl⟩ : ∃ z, zs = [z] := List.length_eq_one_iff.mp wd
  obtain ⟨u, rfl, ru⟩ := vals1 rz
  have bt : BindsTo s2 fd ⟨[], [(kn, u)]⟩ ([kn].zip [u]) := BindsTo.of_eq (hb u)
  have run := F.run X.A X.stack s2 H2 ⟨[], [(kn, u)]⟩ [u] [z] Q E hr I2.env0 bt rz q2
  refine wpAny_call (codeAny_mono run fun r s' z => ?_)
  cases r with
  | error e => exact hx pins σ H2 s2 e s' I2 z
  | ok fl =>
    cases fl with
    | ret u => exact I2.after z
    | _ => exact False.elim z
end
/-! ### repr -/
def rRepr (K : PySem.W.Frag) : List V → Hp → VK → Prop := fun vs H Q => ∃ a d, vs = [.ref a] ∧ Dp K H (.ref a) d ∧ d.showable = true ∧ d.hasDict = false ∧ d.depth ≤ 10 ∧ d.shown.length ≤ 100000 ∧ Q (.str d.shown) H
theorem cr_repr {X : Cx} (hgd : X.A.guards = some []) (hu : X.A.units + 64 < cLine) : CallR X (.builtin "repr") (rRepr X.K) := by
  intro pins s σ H xs us Q I r h
  obtain ⟨a, d, rfl, hd, h1, h2, h3, h4, q⟩ := h
  obtain rfl := Vals.ref1 r
  obtain ⟨as, rd⟩ := Dp.reads I d (.ref a) (.ref a) hd rfl
  exact PySem.repr_of_reads' rd h1 (PySem.PyData.noDict_hsm h2) hgd (by omega) (fun _ _ z => z) (fun h' u tk kp => ⟨.str d.shown, H, I.kept kp, ⟨_, rfl⟩, q⟩) (sz_of h4)
section
variable {K : PySem.W.Frag} {σ : L2.St} {H : Hp} {te : TE} {d : PyData}
theorem ev_repr (h1 : d.showable = true) (h2 : d.hasDict = false) (h3 : d.depth ≤ 10) (h4 : d.shown.length ≤ 100000) (h : ∀ H1, Ex H H1 → ∀ Q : VK, (∀ a H2, Ex H1 H2 → Dp K H2 (.ref a) d → Q (.ref a) H2) → te σ H1 Q) : Ev (tCB (rRepr K) (tCons te tNil)) σ H (.str d.shown) := fun H1 e Q q =>
  h H1 e _ fun a H2 e2 hd => ⟨a, d, rfl, hd, h1, h2, h3, h4, q H2 e2⟩
end
section
variable {K : PySem.W.Frag} {mg : Str → Option Value}
theorem kb_roots (D : Defs K mg) : ∀ u, bindArgs D.d_roots ⟨[], [(Str.ofString "closer", u)]⟩ = pure [(Str.ofString "closer", u)] := fun u => by
  obtain ⟨oc, od, kV, doc, pm, an, cdv, ct, osl, e, _, _⟩ := D.F_roots.ex
  rw [e]
  rfl
theorem kb_count_down (D : Defs K mg) : ∀ u, bindArgs D.d_count_down ⟨[], [(Str.ofString "closer", u)]⟩ = pure [(Str.ofString "closer", u)] := fun u => by
  obtain ⟨oc, od, kV, doc, pm, an, cdv, ct, osl, e, _, _⟩ := D.F_count_down.ex
  rw [e]
  rfl
end
/-! ### what is shown -/
theorem shown_all (xs : List PyData) : PyData.shownAll xs = xs.map PyData.shown := by
  induction xs with
  | nil => rfl
  | cons x xs ih => rw [List.map_cons, ← ih]; rfl
theorem showable_all (xs : List PyData) : PyData.showableAll xs = xs.all PyData.showable := by
  induction xs with
  | nil => rfl
  | cons x xs ih => rw [List.all_cons, ← ih]; rfl
theorem dict_all (xs : List PyData) : PyData.hasDictAll xs = xs.any PyData.hasDict := by
  induction xs with
  | nil => rfl
  | cons x xs ih => rw [List.any_cons, ← ih]; rfl
theorem listText_le (ts : List Str) : (listText ts).length ≤ piled ts + 2 := by
  cases ts with
  | nil => exact Nat.le_refl 2
  | cons t r =>
    have h := textFrom_length_pos r 1 (("[" : Str) ++ (if (0 : Nat) > 0 then ", " else "" : String) ++ t) (Nat.succ_pos 0)
    have e : ((("[" : Str) ++ (if (0 : Nat) > 0 then ", " else "" : String) ++ t)).length = 1 + t.length := by
      rw [strLen_append, strLen_append]
      rfl
    show (textFrom 1 (("[" : Str) ++ (if (0 : Nat) > 0 then ", " else "" : String) ++ t) r ++ "]").length ≤ _
    rw [strLen_append, h, e, piled_cons]
    show 1 + t.length + piled r + 1 ≤ _
    omega
theorem tupleText_le (ts : List Str) : (tupleText ts).length ≤ piled ts + 3 := by
  unfold tupleText
  rw [strLen_append, strLen_append]
  have h1 : ((if ts.length == 1 then ",)" else ")" : String) : Str).length ≤ 2 := by split <;> decide
  have h2 : (Str.join ", " ts).length ≤ piled ts := by
    cases ts with
    | nil => exact Nat.zero_le _
    | cons t r => have := join_length_add (t :: r) (by simp); omega
  have h3 : (("(" : String) : Str).length = 1 := rfl
  omega
theorem piled_le {ts : List Str} {b : Nat} (h : ∀ t ∈ ts, t.length ≤ b) : piled ts ≤ ts.length * (b + 2) := by
  induction ts with
  | nil => exact Nat.zero_le _
  | cons t r ih =>
    rw [piled_cons, List.length_cons, Nat.succ_mul]
    have h1 := ih fun u hu => h u (List.mem_cons_of_mem _ hu)
    have h2 := h t List.mem_cons_self
    omega
/-- the datum of a tuple of lots -/
abbrev dLots (T M : List Nat) : PyData := .tuple (M.map fun m => .str (S (lot T m)))
theorem lots_shown {T M : List Nat} (hT : Tg T) (h : M.length ≤ 16) : (dLots T M).showable = true ∧ (dLots T M).hasDict = false ∧ (dLots T M).depth ≤ 1 ∧ (dLots T M).shown.length ≤ 1000 := by
  refine ⟨?_, ?_, ?_, ?_⟩
  · show PyData.showableAll _ = true
    rw [showable_all, List.all_map]
    exact List.all_eq_true.mpr fun _ _ => rfl
  · show PyData.hasDictAll _ = false
    rw [dict_all, List.any_map]
    exact List.any_eq_false.mpr fun _ _ => by simp [PyData.hasDict]
  · show PyData.depthAll _ + 1 ≤ 1
    have : PyData.depthAll (M.map fun m => PyData.str (S (lot T m))) = 0 := by
      induction M with
      | nil => rfl
      | cons m M ih =>
        have := ih (by rw [List.length_cons] at h; omega)
        show max (PyData.depth (.str (S (lot T m)))) (PyData.depthAll _) = 0
        rw [this]
        rfl
    omega
  · show (tupleText (PyData.shownAll _)).length ≤ 1000
    refine Nat.le_trans (tupleText_le _) ?_
    rw [shown_all, List.map_map]
    have h2 := piled_le (ts := M.map (PyData.shown ∘ fun m => .str (S (lot T m)))) (b := 42) fun t ht => by
      obtain ⟨m, _, rfl⟩ := List.mem_map.mp ht
      show (reprText (S (lot T m))).length ≤ 42
      have h3 := PySem.StrLaws.reprText_len (S (lot T m)) fun c hc => by
        have := (hT.alp c (lot_sub hc)).2
        omega
      have h4 := lot_len T m
      have h5 := hT.len
      have h6 : (S (lot T m)).length = (lot T m).length := SX.S_len _
      omega
    rw [List.length_map] at h2
    have h6 : M.length * 44 ≤ 16 * 44 := Nat.mul_le_mul_right _ h
    omega
theorem two_shown {d : PyData} (h1 : d.showable = true) (h2 : d.hasDict = false) (h3 : d.depth ≤ 1) (h4 : d.shown.length ≤ 1000) : (PyData.list [d, d]).showable = true ∧ (PyData.list [d, d]).hasDict = false ∧ (PyData.list [d, d]).depth ≤ 10 ∧ (PyData.list [d, d]).shown.length ≤ 100000 := by
  refine ⟨?_, ?_, ?_, ?_⟩
  · show PyData.showableAll [d, d] = true
    rw [showable_all]
    simp [h1]
  · show PyData.hasDictAll [d, d] = false
    rw [dict_all]
    simp [h2]
  · show max d.depth (max d.depth 0) + 1 ≤ 10
    omega
  · show (listText (PyData.shownAll [d, d])).length ≤ 100000
    refine Nat.le_trans (listText_le _) ?_
    rw [shown_all]
    have h5 := piled_le (ts := [d, d].map PyData.shown) (b := 1000) fun t ht => by
      simp at ht
      rw [ht]
      exact h4
    rw [List.length_map] at h5
    have : ([d, d] : List PyData).length = 2 := rfl
    omega
theorem int_shown {n : Nat} (h : n < 1100) : (PyData.int (n : Int)).showable = true ∧ (PyData.int (n : Int)).hasDict = false ∧ (PyData.int (n : Int)).depth ≤ 1 ∧ (PyData.int (n : Int)).shown.length ≤ 1000 := by
  refine ⟨?_, rfl, by show PyData.depth (.int (n : Int)) ≤ 1; simp [PyData.depth], ?_⟩
  · show decide ((n : Int).natAbs.log2 < 1920) = true
    rw [Int.natAbs_natCast]
    refine decide_eq_true (Nat.lt_of_le_of_lt (Nat.log2_le_self n) (by omega))
  · rw [PyData.shown_int]
    have h1 := int_text_length_le10 (a := (n : Int)) (k := 4) (by decide) (by rw [Int.natAbs_natCast]; omega)
    have h2 : (Str.ofString (toString (n : Int))).length = (toString (n : Int)).length := PySem.ofString_length _
    show (Str.ofString (toString (n : Int))).length ≤ 1000
    omega
end K31

set_option Elab.async false
set_option linter.all false
set_option maxRecDepth 100000
set_option maxHeartbeats 4000000
namespace K31
open PySem PySem.Spec PyProof.Rows L2 Evl
open C8 (InsC call_isC pe_gc)
section
variable {P : Program} {w : World} {K : PySem.W.Frag} {mg : Str → Option Value} {base : Heap}
/-! ### plain: the families that are drawn -/
def Gd (n : Nat) (F : List Nat) : Prop := ∃ X : List Nat, Cl n X ∧ (∀ m ∈ X, m < 2 ^ n) ∧ F = srt n X
structure Chk (n : Nat) (F : List Nat) : Prop where
  roots : srt n (rootM n F) = rtL n F
  few : (rootM n F).length ≤ 10
  few2 : (rtL n F).length ≤ 10
  count : cdM (rootM n F) = dwM n (rtL n F)
  many : F.length ≤ dwM n (rtL n F)
  dist : (pentN n F && diaN n F) = decide (dwM n (rtL n F) = F.length)
  round : ∀ e ∈ F, rndM n F (hdM ((rtL n F).filter fun x => inc x e)) = e
theorem lexO_len (n : Nat) : (lexO n).length ≤ 2 ^ n := by
  have h := List.Nodup.length_le_of_subset (lexO_nodup n) (l₂ := List.range (2 ^ n)) fun x hx => List.mem_range.mpr (mem_lexO.mp hx)
  rw [List.length_range] at h
  exact h
theorem srt_len (n : Nat) (X : List Nat) : (srt n X).length ≤ 2 ^ n := Nat.le_trans (List.length_filter_le _ _) (lexO_len n)
theorem Gd.fm {T F : List Nat} (hT : Tg T) (g : Gd T.length F) : Fm T F := by
  obtain ⟨X, _, hX, rfl⟩ := g
  exact ⟨srt_asc hT.asc X, fun m hm => (mem_srt.mp hm).1, Nat.le_trans (srt_len _ _) (pow16 hT)⟩
theorem Gd.cl {n : Nat} {F : List Nat} (g : Gd n F) : Cl n F := by
  obtain ⟨X, c, hX, rfl⟩ := g
  refine ⟨mem_srt.mpr ⟨whole_lt n, c.whole⟩, fun a ha b hb => mem_srt.mpr ⟨and_lt (mem_srt.mp ha).1, c.meet a (mem_srt.mp ha).2 b (mem_srt.mp hb).2⟩⟩
theorem mtStep_cl {n : Nat} {fd : List Nat} (m : Nat) (c : Cl n fd) : Cl n (mtStep fd m) := by
  have new : ∀ e ∈ fd, m &&& e ∈ mtStep fd m := fun e he => by
    by_cases h : m &&& e ∈ fd
    · exact List.mem_append_left _ h
    · exact List.mem_append_right _ (List.mem_map.mpr ⟨e, List.mem_filter.mpr ⟨he, by simpa using h⟩, rfl⟩)
  have old : ∀ x ∈ mtStep fd m, x ∈ fd ∨ ∃ e ∈ fd, x = m &&& e := fun x hx => by
    rcases List.mem_append.mp hx with q | q
    · exact .inl q
    · obtain ⟨e, he, rfl⟩ := List.mem_map.mp q
      exact .inr ⟨e, (List.mem_filter.mp he).1, rfl⟩
  refine ⟨List.mem_append_left _ c.whole, fun a ha b hb => ?_⟩
  rcases old a ha with ha | ⟨x, hx, rfl⟩ <;> rcases old b hb with hb | ⟨y, hy, rfl⟩
  · exact List.mem_append_left _ (c.meet a ha b hb)
  · rw [show a &&& (m &&& y) = m &&& (a &&& y) from by rw [← Nat.and_assoc, Nat.and_comm a m, Nat.and_assoc]]
    exact new _ (c.meet a ha y hy)
  · rw [Nat.and_assoc]
    exact new _ (c.meet x hx b hb)
  · rw [show (m &&& x) &&& (m &&& y) = m &&& (x &&& y) from by rw [Nat.and_assoc, ← Nat.and_assoc x m y, Nat.and_comm x m, Nat.and_assoc m x y, ← Nat.and_assoc m m, Nat.and_self]]
    exact new _ (c.meet x hx y hy)
theorem mtFold_cl {n : Nat} : ∀ (M : List Nat) {fd : List Nat}, Cl n fd → Cl n (M.foldl mtStep fd)
  | [], _, c => c
  | m :: M, _, c => mtFold_cl M (mtStep_cl m c)
theorem gd_meets {n : Nat} {M : List Nat} : Gd n (srt n (mtM n M)) := by
  refine ⟨mtM n M, mtFold_cl M ⟨List.mem_singleton.mpr rfl, fun a ha b hb => ?_⟩, mtFold_lt fun x hx => by rw [List.mem_singleton.mp hx]; exact whole_lt n, rfl⟩
  rw [List.mem_singleton.mp ha, List.mem_singleton.mp hb, Nat.and_self]
  exact List.mem_singleton.mpr rfl
theorem gd_lots {n : Nat} : Gd n (srt n (List.range (2 ^ n))) := ⟨_, ⟨List.mem_range.mpr (whole_lt n), fun a ha b _ => List.mem_range.mpr (and_lt (List.mem_range.mp ha))⟩, fun m hm => List.mem_range.mp hm, rfl⟩
theorem lot_take : ∀ (T : List Nat) (k : Nat), k ≤ T.length → lot T (2 ^ k - 1) = T.take k
  | T, 0, _ => by rw [List.take_zero]; exact lot_zero T
  | [], k + 1, h => by simp at h
  | d :: T, k + 1, h => by
    have hp : 2 ^ (k + 1) = 2 * 2 ^ k := by rw [Nat.pow_succ, Nat.mul_comm]
    have h0 : 0 < 2 ^ k := Nat.pow_pos (by decide)
    rw [lot_cons, if_pos (by omega), List.take_succ_cons, show (2 ^ (k + 1) - 1) / 2 = 2 ^ k - 1 by omega, lot_take T k (by simpa using h)]
/-! ### what may change -/
/-- all but the well and the tables stays -/
structure Rk (w : Addr) (H H' : Hp) : Prop where
  wl : Wl H' w
  keep : ∀ b o, b ≠ w → H b = some o → (∀ ps, o ≠ .tbl ps) → H' b = some o
section
variable {w : Addr} {H H1 H2 : Hp} {Pt : Addr} {q : Str}
theorem Rk.of (h : Wl H w) (e : Ex H H1) : Rk w H H1 := ⟨h.ex e, fun b o _ hb _ => e b o hb⟩
theorem Rk.trans (a : Rk w H H1) (b : Rk w H1 H2) : Rk w H H2 := ⟨b.wl, fun c o n hc ht => b.keep c o n (a.keep c o n hc ht) ht⟩
theorem Rk.ex (a : Rk w H H1) (e : Ex H1 H2) : Rk w H H2 := a.trans (.of a.wl e)
theorem Rk.dw (a : Rk w H H1) (d : Dw w H1 H2) : Rk w H H2 := a.trans ⟨d.wl, fun b o n hb _ => d.keep b o n hb⟩
theorem Wl.exN (h : Wl H w) (e : LamX.ExtN H H1) : Wl H1 w := let ⟨a, b, h1, r⟩ := h; ⟨a, b, e _ _ h1 (fun ps z => by cases z), r⟩
theorem Rk.exN (a : Rk w H H1) (e : LamX.ExtN H1 H2) : Rk w H H2 := a.trans ⟨a.wl.exN e, fun b o _ hb ht => e b o hb ht⟩
theorem Rk.mut (a : Rk w H H1) {p : Addr} {o : HO} (hp : ∀ u, H p = some u → (∀ ps, u ≠ .tbl ps) → False) (hpw : p ≠ w) : Rk w H (upd H1 p o) := ⟨let ⟨x, y, h, r⟩ := a.wl; ⟨x, y, by rw [upd_ne hpw.symm]; exact h, r⟩, fun b u n hb ht => by
  have hbp : b ≠ p := fun z => hp u (z ▸ hb) ht
  rw [upd_ne hbp]
  exact a.keep b u n hb ht⟩
theorem Rk.new (a : Rk w H H1) {p : Addr} (hp : H1 p = none) (hpw : p ≠ w) : ∀ u, H p = some u → (∀ ps, u ≠ .tbl ps) → False := fun u hu ht => by
  rw [a.keep p u hpw hu ht] at hp
  cases hp
theorem Wl.ne {p : Addr} (h : Wl H w) (hp : H p = none) : p ≠ w := fun z => by
  obtain ⟨x, y, h1, _⟩ := h
  rw [z, h1] at hp
  cases hp
theorem tab_dw (t : LamX.TabS H Pt q) (h : Wl H w) (d : Dw w H H1) : LamX.TabS H1 Pt q := by
  obtain ⟨x, y, hw, _⟩ := h
  obtain ⟨ps, h1, h2, h3⟩ := t
  refine ⟨ps, d.keep _ _ (fun z => by rw [z, hw] at h1; cases h1) h1, h2, fun pos cv hc => ?_⟩
  obtain ⟨c, e1, e2⟩ := h3 pos cv hc
  exact ⟨c, e1, d.keep _ _ (fun z => by rw [z, hw] at e2; cases e2) e2⟩
theorem tab_mut (t : LamX.TabS H Pt q) {p : Addr} {o u : HO} (hp : H p = some u) (h1 : ∀ ps, u ≠ .tbl ps) (h2 : ∀ φ, u ≠ .ext φ) : LamX.TabS (upd H p o) Pt q := by
  obtain ⟨ps, k1, k2, k3⟩ := t
  refine ⟨ps, by rw [upd_ne (fun z => by rw [z, hp] at k1; cases k1; exact h1 _ rfl)]; exact k1, k2, fun pos cv hc => ?_⟩
  obtain ⟨c, e1, e2⟩ := k3 pos cv hc
  exact ⟨c, e1, by rw [upd_ne (fun z => by rw [z, hp] at e2; cases e2; exact h2 _ rfl)]; exact e2⟩
end
section
variable {K : PySem.W.Frag} {σ : L2.St} {H : Hp} {ta tb te t1 t2 t3 : TE} {D : Ends} {tu tz : TS} {d : PyData}
theorem exN_t {H' : Hp} {a : Addr} {xs : List V} (e : LamX.ExtN H H') (h : SqT K H a xs) : SqT K H' a xs := by
  rcases h with (h | ⟨o, h⟩) | h
  · exact .inl (.inl (e _ _ h fun ps z => by cases z))
  · exact .inl (.inr ⟨o, e _ _ h fun ps z => by cases z⟩)
  · exact .inr h
theorem Co.exN {C p : Addr} {T F : List Nat} {H' : Hp} (c : Co K C H p T F) (e : LamX.ExtN H H') : Co K C H' p T F := by
  obtain ⟨dx, a, t, h1, h2, h3⟩ := c.at_
  exact ⟨c.tg, c.fm, dx, a, t, e _ _ h1 (fun ps z => by cases z), exN_t e h2, exN_t e h3⟩
theorem q_asgCL {i : Nat} {sp : Sp} {dvs : List V} {E : XK} {x : V} {xs : List V} (h1 : Ev ta σ H x) (h2 : EvL te σ H xs) (k : ∀ p H1, H p = none → Ex H H1 → H1 p = some (.lst xs) → sp ([x, .ref p] ++ dvs) H1 (fun v H2 => tz D (σ.set i (some v)) H2) E) :
    tSeq (tAsg (tCall sp dvs E (tCons ta (tCons te tNil))) (gName i)) tz D σ H := h1 H (Ex.refl H) _ fun H1 e1 => h2 H1 e1 _ fun p H2 hp e2 hl => k p H2 (fresh_back e1 hp) (e1.trans e2) hl
theorem q_lst3C {i : Nat} {sp1 : Sp} {dvs1 vs1 : List V} {E1 : XK} {a1 : TA} (h1 : EvA a1 σ H vs1) (k : ∀ H1, Ex H H1 → sp1 (vs1 ++ dvs1) H1 (fun x1 H2 => t2 σ H2 fun x2 H3 => t3 σ H3 fun x3 H4 => [x1, x2, x3].length ≤ sizeLine ∧ ∀ p, H4 p = none → tz D (σ.set i (some (.ref p))) (upd H4 p (.lst [x1, x2, x3]))) E1) :
    tSeq (tAsg (tLst (tCons (tCall sp1 dvs1 E1 a1) (tCons t2 (tCons t3 tNil)))) (gName i)) tz D σ H := h1 H (Ex.refl H) _ k
theorem el_callL {sp : Sp} {dvs : List V} {E : XK} {x : V} {xs ys : List V} (h1 : Ev ta σ H x) (h2 : EvL te σ H xs) (hs : ∀ p H1, H1 p = some (.lst xs) → Ex H H1 → SpL sp ([x, .ref p] ++ dvs) H1 ys) : EvL (tCall sp dvs E (tCons ta (tCons te tNil))) σ H ys := fun H0 e Q q =>
  h1 H0 e _ fun H1 e1 => h2 H1 (e.trans e1) _ fun p H2 hp e2 hl => hs p H2 hl ((e.trans e1).trans e2) H2 (Ex.refl H2) Q (fun r H3 hr e3 h3 => q r H3 (fresh_back (e1.trans e2) hr) ((e1.trans e2).trans e3) h3) E
theorem q_parMC {i j : Nat} {C : Addr} {sp : Sp} {E : XK} {x : V} {xs : List V} (h1 : Ev ta σ H x) (h2 : EvU te σ H xs)
    (k : ∀ a H1, H a = none → Ex H H1 → H1 a = some (.tup xs) → ∀ p dx, H1 p = none → H1 dx = none → dx ≠ p → sp (.ref p :: ([x, .ref a] ++ [])) (upd (upd H1 dx (.own p)) p (.ins C dx [])) (fun v H2 => v = .non ∧ t2 σ H2 fun y H3 => ∃ v w', [.ref p, y] = [v, w'] ∧ tz D ((σ.set i (some v)).set j (some w')) H3) E) :
    tSeq (tPar i j (tCons (tMake C sp [] E (tCons ta (tCons te tNil))) (tCons t2 tNil))) tz D σ H := h1 H (Ex.refl H) _ fun H1 e1 => h2 H1 e1 _ fun a H2 ha e2 hl => k a H2 (fresh_back e1 ha) (e1.trans e2) hl
/-- a list of two tuples, the same shown -/
theorem re_two {xs : List V} {ds : List PyData} (h1 : EvU t1 σ H xs) (h2 : EvU t2 σ H xs) (hp : ∀ H', DpAll K H' xs ds) : ∀ H1, Ex H H1 → ∀ Q : VK, (∀ a H2, Ex H1 H2 → Dp K H2 (.ref a) (.list [.tuple ds, .tuple ds]) → Q (.ref a) H2) → tLst (tCons t1 (tCons t2 tNil)) σ H1 Q := fun H1 e Q q =>
  h1 H1 e _ fun a H2 _ e2 ha => h2 H2 (e.trans e2) _ fun b H3 _ e3 hb => ⟨by show 2 ≤ sizeLine; decide, fun l hl => q l _ ((e2.trans e3).trans (Ex.new hl)) (.lst (sq_of upd_same) (.cons (.tup (st_of (Ex.new hl _ _ (e3 _ _ ha))) (hp _)) (.cons (.tup (st_of (Ex.new hl _ _ hb)) (hp _)) .nil)))⟩
theorem re_rep {xs : List V} {ds : List PyData} (h1 : EvU t1 σ H xs) (hp : ∀ H', DpAll K H' xs ds) : ∀ H1, Ex H H1 → ∀ Q : VK, (∀ a H2, Ex H1 H2 → Dp K H2 (.ref a) (.list [.tuple ds, .tuple ds]) → Q (.ref a) H2) → tOp rRep (tLst (tCons t1 tNil)) (tC (.int 2)) σ H1 Q := fun H1 e Q q =>
  h1 H1 e _ fun a H2 _ e2 ha => ⟨by show 1 ≤ sizeLine; decide, fun l hl => ⟨l, 2, [.ref a], rfl, rfl, upd_same, by decide, by decide, by show 1 * 2 ≤ sizeLine; decide, fun r hr => q r _ ((e2.trans (Ex.new hl)).trans (Ex.new hr))
    (.lst (sq_of upd_same) (.cons (.tup (st_of (Ex.new hr _ _ (Ex.new hl _ _ ha))) (hp _)) (.cons (.tup (st_of (Ex.new hr _ _ (Ex.new hl _ _ ha))) (hp _)) .nil)))⟩⟩
theorem re_ints {n : Nat} (h1 : Ev t1 σ H (nv n)) (h2 : Ev t2 σ H (nv n)) : ∀ H1, Ex H H1 → ∀ Q : VK, (∀ a H2, Ex H1 H2 → Dp K H2 (.ref a) (.list [.int n, .int n]) → Q (.ref a) H2) → tLst (tCons t1 (tCons t2 tNil)) σ H1 Q := fun H1 e Q q =>
  (show EvL (tLst (tCons t1 (tCons t2 tNil))) σ H [nv n, nv n] from el_lst (ea2 h1 h2) (by show 2 ≤ 100000; decide)) H1 e Q fun a H2 _ e2 ha => q a H2 e2 (.lst (sq_of ha) (.cons (.int _) (.cons (.int _) .nil)))
theorem dp_lots (T M : List Nat) (H' : Hp) : DpAll K H' (M.map (sv T)) (M.map fun m => .str (S (lot T m))) := by
  induction M with
  | nil => exact .nil
  | cons m M ih => exact .cons (.str _) ih
theorem ev_takeS {T : List Nat} {i : Nat} (hi : i ≤ T.length) (hz : T.length ≤ 1000) (h1 : Ev ta σ H (.str (S T))) (h2 : Ev te σ H (nv i)) : Ev (tSl rSlS ta tNoPart (tPart te)) σ H (sv T (2 ^ i - 1)) := fun H1 e Q q =>
  h1 H1 e _ fun H2 e2 => h2 H2 (e.trans e2) _ fun H3 e3 => ⟨(i : Int), rfl, S T, rfl, by rw [SX.S_len]; exact sz_of (by omega), by
    have hc : cutS (S T) none (some (i : Int)) = S (lot T (2 ^ i - 1)) := by
      rw [lot_take T i hi]
      unfold cutS
      rw [HT.sIx_nat, SX.S_len]
      show Str.mk (((T.drop 0).take (min i T.length - 0)).toArray) = _
      rw [List.drop_zero, Nat.sub_zero, Nat.min_eq_left hi]
    rw [hc]
    exact q H3 (e2.trans e3)⟩
end
def sp_law_right (K : PySem.W.Frag) (C Pt : Addr) : Sp := Pm (fun w : Addr => [.ref w]) (fun w H => Wl H w ∧ LamX.TabS H Pt qL) fun w H Q => ∀ H2, Rk w H H2 → LamX.TabS H2 Pt qL → Q (.bl true) H2
theorem ok_law_right (D : Defs K mg) (B : Tb D) (TB : LamX.TabB base mg B.c B.P) (CH : ∀ n F, 1 ≤ n → n ≤ 4 → Gd n F → Chk n F) : FnOkG P w K mg base 8 D.a__law_right D.d__law_right ["_law_well_here"] (sp_law_right K D.C B.P) := by
  have G__law_whole : FnOk P w K mg base CX0 3 D.a__law_whole D.d__law_whole ["_law_well_here", "_law_menu"] (sp_law_whole K D.C) := ok_law_whole D
  have G__law_lots : FnOk P w K mg base CX0 1 D.a__law_lots D.d__law_lots ["_law_whole_here"] (sp_law_lots K D.C) := ok_law_lots D
  have G__law_family : FnOk P w K mg base CX0 3 D.a__law_family D.d__law_family ["_law_well_here", "_law_whole_here", "_law_most"] (sp_law_family K D.C) := ok_law_family D
  have G__law_meets : FnOk P w K mg base CX0 2 D.a__law_meets D.d__law_meets ["_law_whole_here", "_law_menu"] (sp_law_meets K D.C) := ok_law_meets D
  have G__law_one_of : FnOk P w K mg base CX0 2 D.a__law_one_of D.d__law_one_of ["_law_well_here", "_law_menu"] (sp_law_one_of K D.C) := ok_law_one_of D
  have G__law_roots : FnOk P w K mg base CX0 3 D.a__law_roots D.d__law_roots ["_law_whole_here", "_law_closed_ones"] (sp_law_roots K D.C) := ok_law_roots D
  have G___init__ : FnOk P w K mg base CX0 6 D.a___init__ D.d___init__ ["self", "things", "closed"] (sp__init__ K D.C) := ok__init__ D
  have G_roots : FnOk P w K mg base CX0 4 D.a_roots D.d_roots ["closer"] (sproots K D.C) := okroots D
  have G__law_downs : FnOk P w K mg base CX0 2 D.a__law_downs D.d__law_downs ["_law_roots_here"] (sp_law_downs K D.C B.P) := ok_law_downs D B TB
  have G_count_down : FnOk P w K mg base CX0 4 D.a_count_down D.d_count_down ["closer"] (spcount_down K D.C) := okcount_down D
  have G_is_distributive : FnOk P w K mg base CX0 4 D.a_is_distributive D.d_is_distributive ["closer"] (spis_distributive K D.C) := okis_distributive D
  have G__law_in : FnOk P w K mg base CX0 1 D.a__law_in D.d__law_in ["_law_near", "_law_far"] (sp_law_in K D.C) := ok_law_in D
  have G__law_any : FnOk P w K mg base CX0 1 D.a__law_any D.d__law_any ["_law_near", "_law_far"] (sp_law_any K D.C) := ok_law_any D
  have G__law_round : FnOk P w K mg base CX0 2 D.a__law_round D.d__law_round ["_law_whole_here", "_law_closed_ones", "_law_near"] (sp_law_round K D.C) := ok_law_round D
  refine fnG D.F__law_right sc_law_right (fun vs H Q E h => ?_) (fun cdv A outer s H vs Q E hgd hr h => ?_)
  · obtain ⟨_, rfl, _⟩ := h; rfl
  · obtain ⟨w0, rfl, ⟨hw, tb⟩, k⟩ := h
    have hw : Wl H w0 := hw
    have tb : LamX.TabS H B.P qL := tb
    have k : ∀ H2, Rk w0 H H2 → LamX.TabS H2 B.P qL → Q (.bl true) H2 := k
    have hgd' := hgd
    refine ⟨_, 
          (pss_cons (ps_for PassesOwn.never rfl (pi_range1 rfl D.n_range (pa_cons pe_int pa_nil)) (pg_name (i := 1) sc_law_right.nd rfl (Or.inl rfl))
            (pss_cons (ps_set (i := 2) sc_law_right.nd rfl (Or.inr rfl) (pe_call G__law_whole (hr.mono (by decide)) rfl D.g__law_whole D.F__law_whole.kp (b__law_whole D) .nil pass0 (pa_cons (pv 0) (pa_cons (pe_lst (pa_cons pe_int (pa_cons pe_int (pa_cons pe_int (pa_cons pe_int (pa_cons pe_int (pa_cons pe_int pa_nil))))))) pa_nil))))
            (pss_cons (ps_set (i := 3) sc_law_right.nd rfl (Or.inl rfl) (pe_lst (pa_cons (pe_call G__law_family (hr.mono (by decide)) rfl D.g__law_family D.F__law_family.kp (b__law_family D) .nil pass0 (pa_cons (pv 0) (pa_cons (pv 2) (pa_cons pe_int pa_nil)))) (pa_cons (pe_call G__law_family (hr.mono (by decide)) rfl D.g__law_family D.F__law_family.kp (b__law_family D) .nil pass0 (pa_cons (pv 0) (pa_cons (pv 2) (pa_cons pe_int pa_nil)))) (pa_cons (pe_call G__law_lots (hr.mono (by decide)) rfl D.g__law_lots D.F__law_lots.kp (b__law_lots D) .nil pass0 (pa_cons (pv 2) pa_nil)) pa_nil)))))
            (pss_cons (ps_expr (pe_bm PySem.F.plainAttrs_list PySem.F.slot_list_append PySem.F.type_list_append mt_append (pv 3) (pa_cons (pe_call G__law_meets (hr.mono (by decide)) rfl D.g__law_meets D.F__law_meets.kp (b__law_meets D) .nil pass0 (pa_cons (pv 2) (pa_cons (pe_lc rfl sc_law_right.nd (pi_range1 rfl D.n_range (pa_cons (pe_callB call_len_str (by rfl) D.n_len PySem.boot_len (pa_cons (pv 2) pa_nil)) pa_nil)) (blkOk_by (own := [("_law_k", 11)]) (by kernel_rfl)) (fun _ _ _ _ _ => (pg_name (i := 11) sc_law_right.nd rfl (Or.inl rfl))) (fun _ _ _ _ _ => pts_nil) (fun _ _ _ _ _ => (pe_slice sl_str (pv 2) po_none (po_some (pv 11))))) pa_nil))) pa_nil)))
            (pss_cons (ps_set (i := 4) sc_law_right.nd rfl (Or.inl rfl) (pe_call G__law_one_of (hr.mono (by decide)) rfl D.g__law_one_of D.F__law_one_of.kp (b__law_one_of D) .nil pass0 (pa_cons (pv 0) (pa_cons (pe_op op_cat (pv 3) (pe_op op_rep (pe_slice sl_list (pv 3) po_none (po_some pe_int)) pe_int)) pa_nil))))
            (pss_cons (ps_par rfl sc_law_right.nd (i := 5) (j := 6) rfl rfl (by decide) rfl rfl (pa_cons (pe_make D.mkC G___init__ (hr.mono (by decide)) rfl D.g_Closer (b___init__ D) .nil pass0 (pa_cons (pv 2) (pa_cons (pe_callTy call_tuple_of (by rfl) D.n_tuple PyProof.Rows.boot_tuple (pa_cons (pv 4) pa_nil)) pa_nil))) (pa_cons (pe_call G__law_roots (hr.mono (by decide)) rfl D.g__law_roots D.F__law_roots.kp (b__law_roots D) .nil pass0 (pa_cons (pv 2) (pa_cons (pv 4) pa_nil))) pa_nil)) rfl)
            (pss_cons (ps_if (pt_cmpR op_ne (pe_callB (cr_repr hgd hr.units) (by rfl) D.n_repr (by decide +kernel) (pa_cons (pe_lst (pa_cons (pe_call G_roots (hr.mono (by decide)) rfl D.g_roots D.F_roots.kp (b_roots D) .nil pass0 (pa_cons (pv 5) pa_nil)) (pa_cons (pe_callKW G_roots (hr.mono (by decide)) rfl D.g_roots D.F_roots.kp (kb_roots D) pass0 (pv 5)) pa_nil))) pa_nil)) (pe_callB (cr_repr hgd hr.units) (by rfl) D.n_repr (by decide +kernel) (pa_cons (pe_op op_rep (pe_lst (pa_cons (pe_callTy call_tuple_of (by rfl) D.n_tuple PyProof.Rows.boot_tuple (pa_cons (pv 6) pa_nil)) pa_nil)) pe_int) pa_nil)) (nomark _))
              (pss_one (ps_ret pe_bl))
              (pss_nil))
            (pss_cons (ps_set (i := 7) sc_law_right.nd rfl (Or.inl rfl) (pe_call G__law_downs (hr.mono (by decide)) rfl D.g__law_downs D.F__law_downs.kp (b__law_downs D) .nil pass0 (pa_cons (pv 6) pa_nil)))
            (pss_cons (ps_if (PW.pt (pw_or (pt_cmpR op_ne (pe_callB (cr_repr hgd hr.units) (by rfl) D.n_repr (by decide +kernel) (pa_cons (pe_lst (pa_cons (pe_call G_count_down (hr.mono (by decide)) rfl D.g_count_down D.F_count_down.kp (b_count_down D) .nil pass0 (pa_cons (pv 5) pa_nil)) (pa_cons (pe_callKW G_count_down (hr.mono (by decide)) rfl D.g_count_down D.F_count_down.kp (kb_count_down D) pass0 (pv 5)) pa_nil))) pa_nil)) (pe_callB (cr_repr hgd hr.units) (by rfl) D.n_repr (by decide +kernel) (pa_cons (pe_lst (pa_cons (pv 7) (pa_cons (pv 7) pa_nil))) pa_nil)) (nomark _)) (pw_or1 (pt_cmpR op_lt (pv 7) (pe_callB call_len_seq (by rfl) D.n_len PySem.boot_len (pa_cons (pv 4) pa_nil)) (nomark _)))))
              (pss_one (ps_ret pe_bl))
              (pss_nil))
            (pss_cons (ps_if (pt_cmpR op_ne (pe_call G_is_distributive (hr.mono (by decide)) rfl D.g_is_distributive D.F_is_distributive.kp (b_is_distributive D) .nil pass0 (pa_cons (pv 5) pa_nil)) (pe_cmpR op_eq (pv 7) (pe_callB call_len_seq (by rfl) D.n_len PySem.boot_len (pa_cons (pv 4) pa_nil)) (nomark _)) (nomark _))
              (pss_one (ps_ret pe_bl))
              (pss_nil))
            (pss_one (ps_for PassesOwn.never rfl (pi_list (pv 4)) (pg_name (i := 8) sc_law_right.nd rfl (Or.inr rfl))
              (pss_cons (ps_set (i := 9) sc_law_right.nd rfl (Or.inl rfl) pe_str)
              (pss_cons (ps_for PassesOwn.never rfl (pi_list (pe_lc rfl sc_law_right.nd (pi_list (pv 6)) (blkOk_by (own := [("_law_near", 10)]) (by kernel_rfl)) (fun _ _ _ _ _ => (pg_name (i := 10) sc_law_right.nd rfl (Or.inl rfl))) (fun _ _ _ _ _ => (pts_one (pt_val (pe_call G__law_in (hr.mono (by decide)) rfl D.g__law_in D.F__law_in.kp (b__law_in D) .nil pass0 (pa_cons (pv 10) (pa_cons (pv 8) pa_nil)))))) (fun _ _ _ _ _ => (pv 10)))) (pg_name (i := 10) sc_law_right.nd rfl (Or.inl rfl))
                (pss_one (ps_set (i := 9) sc_law_right.nd rfl (Or.inl rfl) (pe_call G__law_any (hr.mono (by decide)) rfl D.g__law_any D.F__law_any.kp (b__law_any D) .nil pass0 (pa_cons (pv 9) (pa_cons (pv 10) pa_nil))))))
              (pss_one (ps_if (pt_cmpR op_ne (pe_call G__law_round (hr.mono (by decide)) rfl D.g__law_round D.F__law_round.kp (b__law_round D) .nil pass0 (pa_cons (pv 2) (pa_cons (pv 4) (pa_cons (pv 9) pa_nil)))) (pv 8) (nomark _))
                (pss_one (ps_ret pe_bl))
                (pss_nil)))))))))))))))))
          (pss_one (ps_ret pe_bl))), ?_⟩
    refine q_forR1 (n := 2) (ea1 ev_c) (by decide) (fun i σ H' => ∃ u1 u2 u3 u4 u5 u6 u7 u8 u9 u10 : Option V, σ = [some (.ref w0), u1, u2, u3, u4, u5, u6, u7, u8, u9, u10, none] ∧ Rk w0 H H' ∧ LamX.TabS H' B.P qL)
      (fun H1 e1 => ⟨none, none, none, none, none, none, none, none, none, none, rfl, .of hw e1, tb.ext e1⟩) (fun i σ Ha _ ⟨u1, u2, u3, u4, u5, u6, u7, u8, u9, u10, es, ra, ta⟩ => ?_) (fun σ H' ⟨_, _, _, _, _, _, _, _, _, _, es, ra, ta⟩ => ?_)
    · subst es
      have wa := ra.wl
      -- the whole
      refine q_asgCL (xs := [1, 2, 3, 3, 3, 4].map nv) (ev_var rfl) (el_lst (ea_cons ev_c (ea_cons ev_c (ea_cons ev_c (ea_cons ev_c (ea_cons ev_c (ea_cons ev_c ea_nil)))))) (by show 6 ≤ 100000; decide)) fun p1 H1 hp1 e1 h1 => ⟨(w0, p1, [1, 2, 3, 3, 3, 4]), rfl, ⟨wa.ex e1, wa.ne hp1, h1, by show 0 < 6; decide, by show 6 < 1000; decide, by show ∀ m ∈ [1, 2, 3, 3, 3, 4], 1 ≤ m ∧ m ≤ 4; decide⟩, fun T H2 hT dw => ?_⟩
      have hT : Tg T := hT
      have dw : Dw w0 H1 H2 := dw
      have r2 := (ra.ex e1).dw dw
      have t2 := tab_dw (ta.ext e1) (wa.ex e1) dw
      have w2 := r2.wl
      have h4 := hT.len
      have h16 := pow16 hT
      -- the menu
      refine q_lst3C (ea3 (ev_var rfl) (ev_var rfl) ev_c) fun H3 e3 => ⟨(w0, T, 7), rfl, ⟨w2.ex e3, hT, Nat.le_refl 7⟩, fun M1 f1 H4 hM1 _ hf1 dw4 h41 => ?_⟩
      have dw4 : Dw w0 H3 H4 := dw4
      have r4 := (r2.ex e3).dw dw4
      have t4 := tab_dw (t2.ext e3) (w2.ex e3) dw4
      have n1 : f1 ≠ w0 := (w2.ex e3).ne hf1
      have h41 : H4 f1 = some (.lst ((srt T.length (mtM T.length M1)).map (sv T))) := h41
      refine te_callG (ea3 (ev_var rfl) (ev_var rfl) ev_c) fun H5 e5 => ⟨(w0, T, 4), rfl, ⟨r4.wl.ex e5, hT, by show 4 ≤ 7; decide⟩, fun M2 f2 H6 hM2 _ hf2 dw6 h62 => ?_⟩
      have dw6 : Dw w0 H5 H6 := dw6
      have r6 := (r4.ex e5).dw dw6
      have t6 := tab_dw (t4.ext e5) (r4.wl.ex e5) dw6
      have n2 : f2 ≠ w0 := (r4.wl.ex e5).ne hf2
      have h61 := dw6.keep _ _ n1 (e5 _ _ h41)
      have h62 : H6 f2 = some (.lst ((srt T.length (mtM T.length M2)).map (sv T))) := h62
      refine te_callG (ea1 (ev_var rfl)) fun H7 e7 => ⟨T, rfl, hT, fun f3 H8 hf3 e8 h83 => ⟨by show 3 ≤ sizeLine; decide, fun mn hmn => ?_⟩⟩
      have e78 := e7.trans e8
      have n3 : f3 ≠ w0 := (r6.wl.ex e7).ne hf3
      have e9 := Ex.new (o := .lst [.ref f1, .ref f2, .ref f3]) hmn
      have nm : mn ≠ w0 := (r6.wl.ex e78).ne hmn
      have hm9 : (upd H8 mn (.lst [.ref f1, .ref f2, .ref f3])) mn = some (.lst [.ref f1, .ref f2, .ref f3]) := upd_same
      have h91 := e9 _ _ (e78 _ _ h61)
      have h92 := e9 _ _ (e78 _ _ h62)
      have h93 : (upd H8 mn (.lst [.ref f1, .ref f2, .ref f3])) f3 = some (.lst ((srt T.length (List.range (2 ^ T.length))).map (sv T))) := e9 _ _ h83
      have r9 := (r6.ex e78).ex e9
      have t9 := (t6.ext e78).ext e9
      have hmnH := (r6.ex e78).new hmn nm
      have nf1 : f1 ≠ mn := fun z => by rw [← z, e78 _ _ h61] at hmn; cases hmn
      have nf2 : f2 ≠ mn := fun z => by rw [← z, e78 _ _ h62] at hmn; cases hmn
      have nf3 : f3 ≠ mn := fun z => by
        have h83 : H8 f3 = some (.lst ((srt T.length (List.range (2 ^ T.length))).map (sv T))) := h83
        rw [← z, h83] at hmn
        cases hmn
      generalize upd H8 mn (.lst [.ref f1, .ref f2, .ref f3]) = H9 at hm9 h91 h92 h93 r9 t9
      -- the fourth of the menu
      refine q_appL (ys := (srt T.length (mtM T.length ((List.range T.length).map fun k => 2 ^ k - 1))).map (sv T)) hm9 (ev_var rfl) (el_callL (xs := ((List.range T.length).map fun k => 2 ^ k - 1).map (sv T)) (ev_var rfl)
          (el_is (el_R (m := (T.length : Int)) (n := T.length) (fun _ => true) (fun i => sv T (2 ^ i - 1)) (ea1 (ev_is (ev_cb (ea1 (ev_var rfl)) (rc_lenS (z := S T) (by rw [SX.S_len]; omega))) (by rw [SX.S_len]))) (Int.toNat_natCast _) (by omega) (fun _ => rfl) (fun i hi H' e' => et_yes)
            (fun i hi H' e' _ => ev_takeS (by omega) (by omega) (ev_var rfl) (ev_var rfl))) (by rw [filter_yes, List.map_map]; rfl))
          (fun p H' hl' e' => pmL (T, (List.range T.length).map fun k => 2 ^ k - 1, p) rfl fun H'' e'' => ⟨hT, sq_of (e'' _ _ hl'), fun m hm => ?_, by show ((List.range T.length).map fun k => 2 ^ k - 1).length ≤ 7; rw [List.length_map, List.length_range]; omega⟩)) (by show 3 < 100000; decide) fun f4 H10 hf4 e10 h104 => ?_
      · obtain ⟨i, hi, rfl⟩ := List.mem_map.mp hm
        have h1 := List.mem_range.mp hi
        have h2 : 2 ^ i < 2 ^ T.length := Nat.pow_lt_pow_right (by decide) h1
        exact Nat.lt_of_le_of_lt (Nat.sub_le _ _) h2
      have n4 : f4 ≠ w0 := r9.wl.ne hf4
      have hm10 := e10 _ _ hm9
      have r10 := r9.ex e10
      have t10 := t9.ext e10
      have nf4 : f4 ≠ mn := fun z => by rw [z, hm9] at hf4; cases hf4
      have rb := r10.mut (o := .lst ([V.ref f1, .ref f2, .ref f3] ++ [.ref f4])) hmnH nm
      have tb' := tab_mut (o := .lst ([V.ref f1, .ref f2, .ref f3] ++ [.ref f4])) t10 hm10 (fun ps z => by cases z) (fun φ z => by cases z)
      have hbm : (upd H10 mn (.lst ([V.ref f1, .ref f2, .ref f3] ++ [.ref f4]))) mn = some (.lst [.ref f1, .ref f2, .ref f3, .ref f4]) := upd_same
      have hb1 : (upd H10 mn (.lst ([V.ref f1, .ref f2, .ref f3] ++ [.ref f4]))) f1 = _ := (upd_ne nf1).trans (e10 _ _ h91)
      have hb2 : (upd H10 mn (.lst ([V.ref f1, .ref f2, .ref f3] ++ [.ref f4]))) f2 = _ := (upd_ne nf2).trans (e10 _ _ h92)
      have hb3 : (upd H10 mn (.lst ([V.ref f1, .ref f2, .ref f3] ++ [.ref f4]))) f3 = _ := (upd_ne nf3).trans (e10 _ _ h93)
      have hb4 : (upd H10 mn (.lst ([V.ref f1, .ref f2, .ref f3] ++ [.ref f4]))) f4 = _ := (upd_ne nf4).trans h104
      generalize upd H10 mn (.lst ([V.ref f1, .ref f2, .ref f3] ++ [.ref f4])) = Hb at rb tb' hbm hb1 hb2 hb3 hb4
      -- one of the families
      refine q_asgCL (xs := [V.ref f1, .ref f2, .ref f3, .ref f4] ++ (List.replicate 3 [V.ref f1, .ref f2]).flatten) (ev_var rfl) (el_cat (ev_var rfl) hbm (el_rep (xs := [V.ref f1, .ref f2]) (k := 3) (el_is (el_sl (ev_var rfl) eo_none (eo_some ev_c) (sq_of hbm)) rfl) ev_c (by show 2 * 3 ≤ 100000; decide) (by decide)) (by show 4 + 6 ≤ 100000; decide))
        fun p2 Hc hp2 ec hc => ⟨(w0, p2, _), rfl, ⟨rb.wl.ex ec, rb.wl.ne hp2, hc, by show 0 < 10; decide, by show 10 < 1000; decide⟩, fun v Hd hv dwd => ?_⟩
      have dwd : Dw w0 Hc Hd := dwd
      have rd := (rb.ex ec).dw dwd
      have td := tab_dw (tb'.ext ec) (rb.wl.ex ec) dwd
      obtain ⟨l, F, rfl, hl, gd, nl⟩ : ∃ l F, v = .ref l ∧ Hd l = some (.lst (F.map (sv T))) ∧ Gd T.length F ∧ l ≠ w0 := by
        have hv : v ∈ [V.ref f1, .ref f2, .ref f3, .ref f4] ++ (List.replicate 3 [V.ref f1, .ref f2]).flatten := hv
        have g1 : ∃ l F, V.ref f1 = .ref l ∧ Hd l = some (.lst (F.map (sv T))) ∧ Gd T.length F ∧ l ≠ w0 := ⟨f1, _, rfl, dwd.keep _ _ n1 (ec _ _ hb1), gd_meets, n1⟩
        have g2 : ∃ l F, V.ref f2 = .ref l ∧ Hd l = some (.lst (F.map (sv T))) ∧ Gd T.length F ∧ l ≠ w0 := ⟨f2, _, rfl, dwd.keep _ _ n2 (ec _ _ hb2), gd_meets, n2⟩
        have g3 : ∃ l F, V.ref f3 = .ref l ∧ Hd l = some (.lst (F.map (sv T))) ∧ Gd T.length F ∧ l ≠ w0 := ⟨f3, _, rfl, dwd.keep _ _ n3 (ec _ _ hb3), gd_lots, n3⟩
        have g4 : ∃ l F, V.ref f4 = .ref l ∧ Hd l = some (.lst (F.map (sv T))) ∧ Gd T.length F ∧ l ≠ w0 := ⟨f4, _, rfl, dwd.keep _ _ n4 (ec _ _ hb4), gd_meets, n4⟩
        have hv : v = .ref f1 ∨ v = .ref f2 ∨ v = .ref f3 ∨ v = .ref f4 := by
          simp [List.replicate] at hv
          grind
        rcases hv with rfl | rfl | rfl | rfl
        · exact g1
        · exact g2
        · exact g3
        · exact g4
      have ck := CH T.length F hT.pos h4 gd
      have hfm := gd.fm hT
      have hcl := gd.cl
      -- the closer and its roots
      refine q_parMC (ev_var rfl) (eu_tupOfV (ev_var rfl) (sq_of hl)) fun a He ha ee hea pm dxm hpm hdx hne => ⟨(pm, T, F, a), rfl, ⟨⟨dxm, upd_same⟩, hT, hfm, hcl, ?_⟩, fun Hg co keep => ⟨rfl, ?_⟩⟩
      · show (upd (upd He dxm (.own pm)) pm (.ins D.C dxm [])) a = some (.tup (F.map (sv T)))
        rw [upd_ne (ne_of_none hea hpm), upd_ne (ne_of_none hea hdx)]
        exact hea
      have co : Co K D.C Hg pm T F := co
      have eg : Ex He Hg := fun b o hb => keep b o (by rw [upd_ne (ne_of_none hb hpm), upd_ne (ne_of_none hb hdx)]; exact hb) (ne_of_none hb hpm)
      have edg := ee.trans eg
      have hlg := edg _ _ hl
      refine te_callG (ea2 (ev_var rfl) (ev_var rfl)) fun Hh eh => ⟨(T, F, l), rfl, ⟨hT, sq_of (eh _ _ hlg), hfm.lt, hfm.len⟩, fun du Hi hdu ei hdi => ⟨_, _, rfl, ?_⟩⟩
      have hdi : Hi du = some (.lst ((rtL T.length F).map (sv T))) := hdi
      have ehi := eh.trans ei
      have hli := ehi _ _ hlg
      have coi := co.ex ehi
      have ri := (rd.ex edg).ex ehi
      have ti := (td.ext edg).ext ehi
      have nd : du ≠ w0 := (rd.ex edg).wl.ex eh |>.ne hdu
      -- roots, twice
      have hRl : (rtL T.length F).length ≤ 16 := Nat.le_trans ck.few2 (by decide)
      obtain ⟨s1, s2, s3, s4⟩ := lots_shown hT hRl
      obtain ⟨v1, v2, v3, v4⟩ := two_shown s1 s2 s3 s4
      have evR : ∀ {H' : Hp} {ta : TE} {σ : L2.St}, Ex Hi H' → Ev ta σ H' (.ref pm) → EvU (tCall (sproots K D.C) [] E0 (tCons ta tNil)) σ H' ((rtL T.length F).map (sv T)) := fun {H' ta σ} e h => eu_is (eu_call (ea1 h) (pmU (pm, T, F) rfl fun H'' e'' => (coi.ex e).ex e'')) (by show (srt T.length (rootM T.length F)).map (sv T) = _; rw [ck.roots])
      refine q_when (et_is (et_test (ev_op (ev_repr v1 v2 v3 v4 (re_two (evR (Ex.refl _) (ev_var rfl)) (evR (Ex.refl _) (ev_var rfl)) (dp_lots T _))) (ev_repr v1 v2 v3 v4 (re_rep (eu_tupOfV (ev_var rfl) (sq_of hdi)) (dp_lots T _))) (rv_ne rfl))) (b := false) (by simp)) (fun e => nomatch e) fun _ Hj ej => ?_
      -- the lots of roots
      have rj := ri.ex ej
      have tj := ti.ext ej
      have hRlt : ∀ m ∈ rtL T.length F, m < 2 ^ T.length := fun m hm => hfm.lt m (List.mem_filter.mp hm).1
      have hRnd : (rtL T.length F).Nodup := List.Nodup.sublist List.filter_sublist hfm.nodup
      refine q_asgC (ea1 (ev_var rfl)) fun Hk ek => ⟨(T, rtL T.length F, du), rfl, ⟨hT, ek _ _ (ej _ _ hdi), hRlt, hRnd, ck.few2, tj.ext ek⟩, fun Hl eN tl => ?_⟩
      have eN : LamX.ExtN Hk Hl := eN
      have tl : LamX.TabS Hl B.P qL := tl
      have ejk := ej.trans ek
      have rl := (rj.ex ek).exN eN
      have col := (coi.ex ejk).exN eN
      have hll : Hl l = some (.lst (F.map (sv T))) := eN _ _ (ejk _ _ hli) fun ps z => by cases z
      have hdl : Hl du = some (.lst ((rtL T.length F).map (sv T))) := eN _ _ (ejk _ _ hdi) fun ps z => by cases z
      generalize hmany : dwM T.length (rtL T.length F) = many at *
      have hcd : cdM (rootM T.length F) = many := ck.count.trans hmany
      have hsm : many < 1100 := by
        have h1 : cdM (rootM T.length F) ≤ 2 ^ (rootM T.length F).length := by
          have h := List.length_filter_le (fun num => dnOk (rootM T.length F) (takM (rootM T.length F) num)) (List.range (2 ^ (rootM T.length F).length))
          rw [List.length_range] at h
          exact h
        have h2 : 2 ^ (rootM T.length F).length ≤ 2 ^ 10 := Nat.pow_le_pow_right (by decide) ck.few
        rw [hcd] at h1
        exact Nat.lt_of_le_of_lt (Nat.le_trans h1 h2) (by decide)
      obtain ⟨i1, i2, i3, i4⟩ := int_shown hsm
      obtain ⟨j1, j2, j3, j4⟩ := two_shown i1 i2 i3 i4
      have evC : ∀ {H' : Hp} {ta : TE} {σ : L2.St}, Ex Hl H' → Ev ta σ H' (.ref pm) → Ev (tCall (spcount_down K D.C) [] E0 (tCons ta tNil)) σ H' (nv many) := fun {H' ta σ} e h => ev_is (ev_call (ea1 h) (pmV (pm, T, F) rfl fun H'' e'' => ⟨(col.ex e).ex e'', ck.few⟩)) (by show nv (cdM (rootM T.length F)) = _; rw [hcd])
      have hmF : decide (many < F.length) = false := decide_eq_false (by have := ck.many; rw [hmany] at this; omega)
      refine q_when (b := false) (et_or (a := false) (b := false) (et_is (et_test (ev_op (ev_repr j1 j2 j3 j4 (re_ints (evC (Ex.refl _) (ev_var rfl)) (evC (Ex.refl _) (ev_var rfl)))) (ev_repr j1 j2 j3 j4 (re_ints (ev_var rfl) (ev_var rfl))) (rv_ne rfl))) (by simp)) fun _ => et_is (et_test (ev_op (ev_var rfl) (ev_cb (ea1 (ev_var rfl)) (rc_len (.inl (sq_of hll)))) rv_ltN)) (by rw [List.length_map]; exact hmF)) (fun e => nomatch e) fun _ Hm em => ?_
      have hlm := em _ _ hll
      have hdm := em _ _ hdl
      have com := col.ex em
      refine q_when (b := false) (et_is (et_test (ev_op (ev_call (ea1 (ev_var rfl)) (pmV (pm, T, F) rfl fun H'' e'' => com.ex e'')) (ev_op (ev_var rfl) (ev_cb (ea1 (ev_var rfl)) (rc_len (.inl (sq_of hlm)))) rv_eqN) rv_neB)) ?_) (fun e => nomatch e) fun _ Hn en => ?_
      · show (!decide ((pentN T.length F && diaN T.length F) = decide (many = (F.map (sv T)).length))) = false
        have hd := ck.dist
        rw [hmany] at hd
        rw [hd, List.length_map, decide_eq_true rfl]
        rfl
      -- each closed lot is spanned by the roots below it
      have hln := en _ _ hlm
      have hdn := en _ _ hdm
      have rn := (rl.ex em).ex en
      have tn := (tl.ext em).ext en
      refine s_forLn (ev_var rfl) (sq_of hln) (fun r σ H' => ∃ u8 u9 u10 : Option V, σ = [some (.ref w0), some (nv i), some (.str (S T)), some (.ref mn), some (.ref l), some (.ref pm), some (.ref du), some (nv many), u8, u9, u10, none] ∧ Ex Hn H')
        (fun H' e' => ⟨u8, u9, u10, rfl, e'⟩) (fun r σ H' _ ⟨_, _, _, _, e⟩ => sq_of (e _ _ hln)) (fun r x σ H' hx ⟨u8, u9, u10, es, e'⟩ => ?_) (fun σ H' ⟨u8, u9, u10, es, e'⟩ => ?_)
      · subst es
        rw [List.getElem?_map] at hx
        obtain ⟨e, he, rfl⟩ := Option.map_eq_some_iff.mp hx
        have heF := List.mem_of_getElem? he
        have helt := hfm.lt e heF
        have hbl : ((rtL T.length F).filter fun x => inc x e).length ≤ 16 := Nat.le_trans (filter_len _ _) hRl
        refine q_asg (v := sv T 0) (ev_is ev_c (sv_zero T).symm) fun Ho eo => ?_
        refine q_forNLn (xs := ((rtL T.length F).filter fun x => inc x e).map (sv T)) (el_L (ys := rtL T.length F) (φ := sv T) (fun x => inc x e) (sv T) (ev_var rfl) (sq_of (eo _ _ (e' _ _ hdn))) (by omega) (fun _ => rfl)
          (fun x hx H'' e'' => et_B (ev_call (ea2 (ev_var rfl) (ev_var rfl)) (pmV (T, x, e) rfl fun _ _ => ⟨hT, hRlt x hx⟩))) fun x hx H'' e'' _ => ev_var rfl)
          (fun q c σ H'' => ∃ u10 : Option V, σ = [some (.ref w0), some (nv i), some (.str (S T)), some (.ref mn), some (.ref l), some (.ref pm), some (.ref du), some (nv many), some (sv T e), some (sv T ((((rtL T.length F).filter fun x => inc x e).take c).foldl (· ||| ·) 0)), u10, none] ∧ Ex Hn H'' ∧ H'' q = some (.lst (((rtL T.length F).filter fun x => inc x e).map (sv T))))
          (fun q Hp hq ep hp => ⟨_, rfl, (e'.trans eo).trans ep, hp⟩) (fun q c σ H'' _ ⟨_, _, _, h⟩ => sq_of h) (fun q c y σ H'' hy ⟨u10, es, e'', hq⟩ => ?_) (fun q σ H'' ⟨u10, es, e'', hq⟩ => ?_)
        · subst es
          rw [List.getElem?_map] at hy
          obtain ⟨x, hx, rfl⟩ := Option.map_eq_some_iff.mp hy
          refine s_asg (ev_call (ea2 (ev_var rfl) (ev_var rfl)) (pmV (T, (((rtL T.length F).filter fun x => inc x e).take c).foldl (· ||| ·) 0, x) rfl fun _ _ => hT)) fun Hq eq => ⟨some (sv T x), ?_, e''.trans eq, eq _ _ hq⟩
          rw [foldl_take (f := (· ||| ·)) hx]
          rfl
        · subst es
          rw [List.length_map, List.take_length]
          have hh : hdM ((rtL T.length F).filter fun x => inc x e) < 2 ^ T.length := or_fold_lt (Nat.pow_pos (by decide)) fun x hx => hRlt x (List.mem_filter.mp hx).1
          refine s_when (b := false) (et_is (et_test (ev_op (ev_call (ea3 (ev_var rfl) (ev_var rfl) (ev_var rfl)) (pmV (T, F, l, hdM ((rtL T.length F).filter fun x => inc x e)) rfl fun H3 e3 => ⟨hT, sq_of ((e''.trans e3) _ _ hln), hh⟩)) (ev_var rfl) (rv_neL hT.asc (rnd_lt (whole_lt _)) helt))) ?_) (fun e => nomatch e) fun _ Hr er => ⟨_, _, _, rfl, e''.trans er⟩
          show (!decide (rndM T.length F (hdM ((rtL T.length F).filter fun x => inc x e)) = e)) = false
          rw [ck.round e heF, decide_eq_true rfl]
          rfl
      · subst es
        exact ⟨_, _, _, _, _, _, _, _, _, _, rfl, rn.ex e', tn.ext e'⟩
    · subst es
      exact s_ret ev_c fun H3 e3 => k H3 (ra.ex e3) (ta.ext e3)

end
end K31

set_option Elab.async false
set_option linter.all false
set_option maxRecDepth 100000
set_option maxHeartbeats 4000000
namespace K31
open PySem PySem.Spec PyProof.Rows L2 Evl
open C8 (InsC call_isC pe_gc)
section
variable {P : Program} {w : World} {K : PySem.W.Frag} {mg : Str → Option Value} {base : Heap}
section
variable {K : PySem.W.Frag} {σ : L2.St} {H : Hp} {ta tb te : TE} {D : Ends} {Q : VK}
theorem exN_l {H' : Hp} {a : Addr} {xs : List V} (e : LamX.ExtN H H') (h : SqL K H a xs) : SqL K H' a xs := by
  rcases h with (h | ⟨o, h⟩) | h
  · exact .inl (.inl (e _ _ h fun ps z => by cases z))
  · exact .inl (.inr ⟨o, e _ _ h fun ps z => by cases z⟩)
  · exact .inr h
theorem s_retAllR {n j : Nat} {ta : TA} {vs : List Nat} (h : EvA ta σ H [.int (n : Int)]) (hn : n ≤ 1000) (hw : ∀ x, wipe ((wipe σ vs).set j (some x)) vs = wipe σ vs) (Pv : Addr → Nat → Hp → Prop) (h0 : ∀ Dl H1, H1 Dl = none → Ex H H1 → Pv Dl 0 (upd H1 Dl (.lst [])))
    (hs : ∀ Dl i H', i < n → Pv Dl i H' → te ((wipe σ vs).set j (some (nv i))) H' fun y H4 => ∃ acc, H4 Dl = some (.lst acc) ∧ acc.length < sizeLine ∧ Pv Dl (i + 1) (upd H4 Dl (.lst (acc ++ [y]))))
    (hd : ∀ Dl H', Pv Dl n H' → ∃ bs : List Bool, H' Dl = some (.lst (bs.map V.bl)) ∧ D.rt (.bl (bs.all id)) H') : tRet (tCB (rAll K) (tCons (tLc (iRng1 ta) (gName j) tYes te vs) tNil)) D σ H :=
  h H (Ex.refl H) _ fun H1 e1 => (lcR_go (σ := σ) (H := H1) (te := te) (d := n) (j := j) (vs := vs) (Q := fun x H2 => rAll K [x] H2 D.rt) hn hw Pv (fun Dl hD => h0 Dl H1 hD e1) hs fun Dl H' p => let ⟨bs, h1, h2⟩ := hd Dl H' p; ⟨Dl, bs, rfl, sq_of h1, h2⟩ : tLc (iRng1 fun _ H Q => Q [nv n] H) (gName j) tYes te vs σ H1 fun x H2 => rAll K [x] H2 D.rt)
theorem te_callCall {sp1 sp2 : Sp} {dvs1 dvs2 vs : List V} {E1 E2 : XK} {ta : TA} (h : EvA ta σ H vs) (k : ∀ H1, Ex H H1 → sp1 (vs ++ dvs1) H1 (fun x H2 => sp2 ([x] ++ dvs2) H2 Q E2) E1) : tCall sp2 dvs2 E2 (tCons (tCall sp1 dvs1 E1 ta) tNil) σ H Q := h H (Ex.refl H) _ k
theorem rc_max2 {i j : Int} : RC (fun xs H Q => ∃ i j, xs = [.int i, .int j] ∧ Q (.int (if j > i then j else i)) H) [.int i, .int j] H (.int (if j > i then j else i)) := fun H1 _ _ q => ⟨i, j, rfl, q H1 (Ex.refl H1)⟩
theorem rc_min2 {i j : Int} : RC (fun xs H Q => ∃ i j, xs = [.int i, .int j] ∧ Q (.int (if j < i then j else i)) H) [.int i, .int j] H (.int (if j < i then j else i)) := fun H1 _ _ q => ⟨i, j, rfl, q H1 (Ex.refl H1)⟩
end
def splaw (K : PySem.W.Frag) (C Pt : Addr) : Sp := Pm (fun a : Addr × List Int => [.ref a.1]) (fun a H => SqL K H a.1 (a.2.map V.int) ∧ a.2.length < 100000 ∧ LamX.TabS H Pt qL) fun _ _ Q => ∀ H2, Q (.bl true) H2
theorem oklaw (D : Defs K mg) (B : Tb D) (TB : LamX.TabB base mg B.c B.P) (CH : ∀ n F, 1 ≤ n → n ≤ 4 → Gd n F → Chk n F) : FnOkG P w K mg base 9 D.a_law D.d_law ["_law_script"] (splaw K D.C B.P) := by
  have G__law_right : FnOkG P w K mg base 8 D.a__law_right D.d__law_right ["_law_well_here"] (sp_law_right K D.C B.P) := ok_law_right D B TB CH
  have G__law_well : FnOk P w K mg base CX0 1 D.a__law_well D.d__law_well ["_law_script", "_law_k"] (sp_law_well K D.C) := ok_law_well D
  refine fnG D.F_law sclaw (fun vs H Q E h => ?_) (fun cdv A outer s H vs Q E hgd hr h => ?_)
  · obtain ⟨_, rfl, _⟩ := h; rfl
  · obtain ⟨⟨a, ns⟩, rfl, ⟨hs, hz, tb⟩, k⟩ := h
    have hs : SqL K H a (ns.map V.int) := hs
    have hz : ns.length < 100000 := hz
    have tb : LamX.TabS H B.P qL := tb
    refine ⟨_, 
          (pss_one (ps_ret (pe_callB (cr_all rfl) (by rfl) D.n_all (by decide +kernel) (pa_cons (pe_lc rfl sclaw.nd (pi_range1 rfl D.n_range (pa_cons (pe_callB (call_max2 rfl) (by rfl) D.n_max (by decide +kernel) (pa_cons pe_int (pa_cons (pe_callB (call_min2 rfl) (by rfl) D.n_min (by decide +kernel) (pa_cons (pe_callB call_len_seq (by rfl) D.n_len PySem.boot_len (pa_cons (pv 0) pa_nil)) (pa_cons pe_int pa_nil))) pa_nil))) pa_nil)) (blkOk_by (own := [("_law_k", 1)]) (by kernel_rfl)) (fun _ _ _ _ _ => (pg_name (i := 1) sclaw.nd rfl (Or.inl rfl))) (fun _ _ _ _ _ => pts_nil) (fun _ _ _ _ _ => (pe_callG G__law_right hgd (hr.mono (by decide)) rfl D.g__law_right D.F__law_right.kp (b__law_right D) .nil pass0 (pa_cons (pe_call G__law_well (hr.mono (by decide)) rfl D.g__law_well D.F__law_well.kp (b__law_well D) .nil pass0 (pa_cons (pv 0) (pa_cons (pv 1) pa_nil))) pa_nil)))) pa_nil)))), ?_⟩
    obtain ⟨n, hn, hn4⟩ : ∃ n : Nat, (if (if (4 : Int) < ((ns.map V.int).length : Int) then (4 : Int) else ((ns.map V.int).length : Int)) > 2 then (if (4 : Int) < ((ns.map V.int).length : Int) then (4 : Int) else ((ns.map V.int).length : Int)) else 2) = (n : Int) ∧ n ≤ 4 := by
      by_cases h1 : (4 : Int) < ((ns.map V.int).length : Int)
      · exact ⟨4, by rw [if_pos h1]; rfl, Nat.le_refl 4⟩
      · rw [if_neg h1]
        by_cases h2 : ((ns.map V.int).length : Int) > 2
        · exact ⟨(ns.map V.int).length, by rw [if_pos h2], by omega⟩
        · exact ⟨2, by rw [if_neg h2]; rfl, by decide⟩
    refine s_retAllR (n := n) (ea1 (ev_is (ev_cb (ea2 ev_c (ev_cb (ea2 (ev_cb (ea1 (ev_var rfl)) (rc_len (.inl hs))) ev_c) rc_min2)) rc_max2) (by rw [hn]))) (by omega) (fun _ => rfl)
      (fun Dl i H' => H Dl = none ∧ LamX.ExtN H H' ∧ LamX.TabS H' B.P qL ∧ H' Dl = some (.lst ((List.replicate i true).map V.bl)))
      (fun Dl H1 hD e1 => ⟨fresh_back e1 hD, .of (e1.trans (Ex.new hD)), tb.ext (e1.trans (Ex.new hD)), upd_same⟩) (fun Dl i H' hi ⟨hD, eN, tn, hl⟩ => ?_) (fun Dl H' ⟨hD, eN, tn, hl⟩ => ⟨_, hl, ?_⟩)
    · refine te_callCall (ea2 (ev_var rfl) (ev_var rfl)) fun H1 e1 => ⟨(a, i, ns), rfl, ⟨exN_l (eN.trans (.of e1)) hs, by show i < 1000; omega, hz⟩, fun w Hw hw ew wl => ⟨w, rfl, ⟨wl, (tn.ext e1).ext ew⟩, fun H3 rk t3 => ?_⟩⟩
      have rk : Rk w Hw H3 := rk
      have t3 : LamX.TabS H3 B.P qL := t3
      have hl1 := e1 _ _ hl
      have hDw : Dl ≠ w := ne_of_none hl1 hw
      have hl3 := rk.keep _ _ hDw (ew _ _ hl1) fun ps z => by cases z
      refine ⟨_, hl3, sz_lt (by rw [List.length_map, List.length_replicate]; omega), hD, fun b o hb ht => ?_, tab_mut t3 hl3 (fun ps z => by cases z) (fun φ z => by cases z), by rw [upd_same, List.replicate_succ', List.map_append]; rfl⟩
      have h1 := e1 _ _ (eN b o hb ht)
      have hbD : b ≠ Dl := fun z => by rw [z, hD] at hb; cases hb
      rw [upd_ne hbD]
      exact rk.keep b o (ne_of_none h1 hw) (ew _ _ h1) ht
    · have ha : (List.replicate n true).all id = true := List.all_eq_true.mpr fun x hx => by rw [List.eq_of_mem_replicate hx]; rfl
      rw [ha]
      exact k H'

end
end K31

set_option Elab.async false
set_option linter.all false
set_option maxRecDepth 100000
set_option maxHeartbeats 4000000
/-! The end of the law: its call by the claim's caller, whose guards are none; one table of code objects. -/
namespace K31
open PySem PySem.Spec PyProof.Rows L2 Evl LamX
section
variable {P : Program} {w : World} {K : PySem.W.Frag} {mg mb : Str → Option Value} {k : Nat} {fa a c Pt : Addr} {fd : FuncData} {x : Str} {sp : Sp} {s : Shared} {vs : List Value} {ns : List Int} {S0 : Hp}
/-- what is tracked at the start: the table, and the script's list where the text does not hold it -/
structure Start (K : PySem.W.Frag) (a Pt : Addr) (vs : List Value) (ns : List Int) (S0 : Hp) : Prop where
  tab : S0 Pt = some (.tbl #[])
  two : ∀ b u, S0 b = some u → (b = Pt ∧ u = .tbl #[]) ∨ (b = a ∧ K.lookup a = none ∧ u = .frz { cls := .type "list", data := .seq vs.toArray } (.lst (ns.map V.int)))
  seq : SqL K S0 a (ns.map V.int)
theorem Start.mk' (X : K.In s.heap) (ha : s.heap.get? a = some { cls := .type "list", data := .seq vs.toArray }) (hi : IntsAre vs ns) (hl : ns.length ≤ sizeLine) (haP : a ≠ Pt) : ∃ S0, Start K a Pt vs ns S0 := by
  cases hk : K.lookup a with
  | none =>
    refine ⟨upd (upd (fun _ => none) a (.frz { cls := .type "list", data := .seq vs.toArray } (.lst (ns.map V.int)))) Pt (.tbl #[]), upd_same, fun b u hb => ?_, .inl (.inr ⟨_, by rw [upd_ne haP]; exact upd_same⟩)⟩
    by_cases h1 : b = Pt
    · subst h1
      rw [upd_same] at hb
      exact .inl ⟨rfl, (Option.some.inj hb).symm⟩
    · rw [upd_ne h1] at hb
      by_cases h2 : b = a
      · subst h2
        rw [upd_same] at hb
        exact .inr ⟨rfl, hk, (Option.some.inj hb).symm⟩
      · rw [upd_ne h2] at hb
        cases hb
  | some o =>
    have ho := X a o hk
    rw [ha] at ho
    cases ho
    refine ⟨upd (fun _ => none) Pt (.tbl #[]), upd_same, fun b u hb => ?_, .inr ⟨_, vs.toArray, 0, hk, rfl, rfl, rfl, by rw [List.size_toArray, hi.length]; exact hl, by simpa using vals_ints hi⟩⟩
    by_cases h1 : b = Pt
    · subst h1
      rw [upd_same] at hb
      exact .inl ⟨rfl, (Option.some.inj hb).symm⟩
    · rw [upd_ne h1] at hb
      cases hb
variable (X : K.In s.heap) (hns : s.heap.Ns mainGlobals mg) (ha : s.heap.get? a = some { cls := .type "list", data := .seq vs.toArray }) (hi : IntsAre vs ns) (hl : ns.length ≤ sizeLine)
  (hT : s.heap.get? Pt = some { cls := .none, data := .fields #[] }) (nT : K.lookup Pt = none) (S : Start K a Pt vs ns S0)
include S ha hT in
theorem Start.off {b : Addr} {o : Obj} (hb : s.heap.get? b = some o) (h1 : ∀ vs n, o.data ≠ .seq vs n) (h2 : o.data ≠ .fields #[]) : S0 b = none := by
  cases e : S0 b with
  | none => rfl
  | some u =>
    rcases S.two b u e with ⟨rfl, _⟩ | ⟨rfl, _⟩
    · rw [hT] at hb
      cases hb
      exact absurd rfl h2
    · rw [ha] at hb
      cases hb
      exact absurd rfl (h1 _ _)
include X S ha hT nT in
theorem Start.inK : K.In (hidT s.heap S0) := fun b o hb => hidT_get (X b o hb) (by
  cases e : S0 b with
  | none => rfl
  | some u =>
    rcases S.two b u e with ⟨rfl, _⟩ | ⟨rfl, h, _⟩
    · rw [nT] at hb; cases hb
    · rw [h] at hb; cases hb)
include S ha hT in
theorem Start.nsp {b : Addr} {m : Str → Option Value} (h : s.heap.Ns b m) : (hidT s.heap S0).Ns b m := by
  obtain ⟨o, es, ep, h1, h2, h3⟩ := h
  exact ⟨o, es, ep, hidT_get h1 (S.off ha hT h1 (fun vs n z => by rw [h2] at z; cases z) fun z => by rw [h2] at z; cases z), h2, h3⟩
include S ha hi hl hT in
theorem Start.hk : HOk P w S0 s.heap := fun b u hb => by
  rcases S.two b u hb with ⟨rfl, rfl⟩ | ⟨rfl, _, rfl⟩
  · exact hT
  · exact ⟨ha, by rw [List.length_map]; exact hl, vs, _, vals_ints hi, ha⟩
end
theorem call_endG {P : Program} {w : World} {K : PySem.W.Frag} {mg mb : Str → Option Value} {k : Nat} {fa a c Pt : Addr} {fd : FuncData} {x : Str} {sp : Sp} {s : Shared} {vs : List Value} {ns : List Int}
    (X : K.In s.heap) (hns : s.heap.Ns mainGlobals mg) (hb : s.heap.Ns builtinsNs mb) (hbb : ∀ x : Str, x ≠ "__name__" → mb x = bootBuiltins x) (hlim : s.heap.NoLimit) (hg : s.gens = #[])
    (hT : s.heap.get? Pt = some { cls := .none, data := .fields #[] }) (nT : K.lookup Pt = none) (C : PySem.W.CodeHd s.heap c Pt)
    (hbm : ∃ (bm : Addr) (ob : Obj), mg "__builtins__" = some (.ref bm) ∧ bm ≠ builtinsNs ∧ s.heap.get? bm = some ob ∧ ob.cls = .type "module" ∧ ob.dict = some builtinsNs ∧ ob.data = .plain)
    (ha : s.heap.get? a = some { cls := .type "list", data := .seq vs.toArray }) (hi : IntsAre vs ns) (hl : ns.length ≤ sizeLine) (hr : Room k callerA)
    (F : ∀ base : Heap, K.In base → base.Ns mainGlobals mg → TabB base mg c Pt → FnOkG P w K mg base k fa fd [x] sp) (hbind : ∀ (s : Shared) (u : Value), BindsTo s fd ⟨[u], []⟩ [(x, u)])
    (hsp : ∀ H : Hp, H Pt = some (.tbl #[]) → SqL K H a (ns.map V.int) → sp [.ref a] H (fun v _ => v = .bl true) fun _ _ _ => False) :
    codeAny (model P w) callerA (.call (.ref fa) ⟨[.ref a], []⟩) (fun r s' => r = .ok (.ret (.bool true)) ∧ OldK s.heap s'.heap ∧ s'.os = s.os ∧ AllBare s'.gens) s := by
  have haP : a ≠ Pt := fun z => by rw [z, hT] at ha; cases ha
  obtain ⟨S0, S⟩ := Start.mk' (Pt := Pt) X ha hi hl haP
  have kb := S.inK X ha hT nT
  have nb := S.nsp ha hT hns
  have M : L2.Mod K mg (hidT s.heap S0) := ⟨kb, nb, ⟨mb, S.nsp ha hT hb, hbb⟩, let ⟨mc, q1, q2⟩ := hlim; ⟨mc, S.nsp ha hT q1, q2⟩⟩
  have TB : TabB (hidT s.heap S0) mg c Pt := by
    refine ⟨?_, ?_, fun z => ?_⟩
    · obtain ⟨o, us, fl, tf, fg, tg, inF, tx, tt, q1, q2, q3, q4, q5⟩ := C
      refine ⟨o, us, fl, tf, fg, tg, inF, tx, tt, hidT_get q1 (S.off ha hT q1 (fun vs n z => by rw [q3] at z; cases z) fun z => ?_), q2, q3, q4, q5⟩
      rw [q3] at z
      cases z
      simp at q4
    · obtain ⟨bm, ob, q1, q2, q3, q4, q5, q6⟩ := hbm
      refine ⟨bm, ob, q1, q2, fun z => ?_, fun z => ?_, hidT_get q3 (S.off ha hT q3 (fun vs n z => by rw [q6] at z; cases z) fun z => by rw [q6] at z; cases z), q4, q5, q6⟩
      · obtain ⟨o, es, ep, e1, e2, _⟩ := hns
        rw [z, e1] at q3
        cases q3
        rw [e2] at q6
        cases q6
      · rw [z, hT] at q3
        cases q3
        cases q6
    · obtain ⟨o, es, ep, e1, e2, _⟩ := hns
      rw [z, hT] at e1
      cases e1
      cases e2
  have hok : HOk P w S0 s.heap := S.hk ha hi hl hT
  have e0 : Env0 P w K mg (hidT s.heap S0) callerA [] s S0 := ⟨rfl, M, fun b o e => of_hidT e, Nat.le_of_eq (hidT_size _ _), trivial, fun b hb => (nomatch hb), hok, .of_eq hg⟩
  refine codeAny_mono ((F _ kb nb TB).go callerA [] s S0 ⟨[.ref a], []⟩ [.ref a] [.ref a] _ _ rfl hr e0 (hbind s (.ref a)) (.cons rfl .nil) (hsp S0 S.tab S.seq)) fun r s' z => ?_
  match r, z with
  | .error e, z => exact z.elim
  | .ok .next, z => exact z.elim
  | .ok .brk, z => exact z.elim
  | .ok .cont, z => exact z.elim
  | .ok (.ret u), z =>
    obtain ⟨v, H', os, bare, un, hok', rv, q⟩ := z
    have q : v = .bl true := q
    subst q
    have eu : u = Value.bool true := rv
    subst eu
    obtain ⟨more, g1⟩ := un.tbls Pt #[] S.tab
    have g2 : s'.heap.get? Pt = some { cls := .none, data := .fields more } := by
      have := hok' Pt _ g1
      rw [Array.empty_append] at this
      exact this
    have old : ∀ b o, b ≠ Pt → s.heap.get? b = some o → s'.heap.get? b = some o := fun b o nb e => by
      cases t : S0 b with
      | none => exact un.keep b o e t (fun z => nomatch z) (fun z => nomatch z)
      | some u =>
        rcases S.two b u t with ⟨z, _⟩ | ⟨rfl, _, rfl⟩
        · exact absurd z nb
        · have := (hok' b _ (un.frzs b _ _ t)).1
          rw [ha] at e
          cases e
          exact this
    refine ⟨rfl, ⟨fun b o e => ?_, fun b o e => ?_⟩, os, bare⟩
    · by_cases nb : b = Pt
      · subst nb
        rw [hT] at e
        cases e
        exact .inr (.inl ⟨(C.tab hT).isCodeTable, rfl, #[], more, rfl, by rw [Array.empty_append]; exact g2⟩)
      · exact .inl (old b o nb e)
    · by_cases nb : b = Pt
      · exact ⟨_, nb ▸ g2⟩
      · exact ⟨o, old b o nb e⟩
theorem walk_endG {l : PySem.W.OpenLaw} {n k : Nat} {q : Program} {loose : List Str} {XP : (Str → Option Value) → Heap → Prop} {YP : World → Heap → Prop} {d : DefRec} {K : Params → PySem.W.Frag} {x : Str}
    (hn : l.most = some n) (hn2 : n ≤ sizeLine) (hdf : d.params.defaults = []) (hr : Room k callerA) (hY : ∀ (w : World) (h : Heap), YP w h → (K w.params).In h)
    (F : ∀ (w : World) (mg : Str → Option Value) (fa : Addr) (h : Heap), YP w h → (K w.params).In h → h.Ns mainGlobals mg → mg d.name = some (.ref fa) →
      ∃ (fd : FuncData) (c Pt : Addr) (sp : Sp), h.get? Pt = some { cls := .none, data := .fields #[] } ∧ (K w.params).lookup Pt = none ∧ PySem.W.CodeHd h c Pt ∧ (∀ (s : Shared) (u : Value), BindsTo s fd ⟨[u], []⟩ [(x, u)]) ∧
        (∀ (H : Hp) (a : Addr) (ns : List Int), ns.length ≤ n → H Pt = some (.tbl #[]) → SqL (K w.params) H a (ns.map V.int) → sp [.ref a] H (fun v _ => v = .bl true) fun _ _ _ => False) ∧
        ∀ base : Heap, (K w.params).In base → base.Ns mainGlobals mg → TabB base mg c Pt → FnOkG l.prog w (K w.params) mg base k fa fd [x] sp) :
    PySem.W.WalkO q loose XP YP l.row.toRowW d [] (fun f vs => PySem.call f vs) := by
  refine Att.attach_call hn hdf fun w s₀ s₁ mg mb fa o pm cd doc a vs ns G Y ho hd hcd hmg hobj hints hlen hg => ?_
  have X := hY w _ Y
  obtain ⟨fd, c, Pt, sp, q1, q2, q3, q4, q5, q6⟩ := F w mg fa _ Y X G.T.g hmg
  exact call_endG X G.T.g G.T.b G.T.builtins G.T.nolimit hg q1 q2 q3 G.T.bmain hobj hints (Nat.le_trans hlen hn2) hr q6 q4 fun H h1 h2 => q5 H a ns hlen h1 h2
end K31

set_option Elab.async false
set_option linter.all false
set_option maxRecDepth 100000
set_option maxHeartbeats 4000000
set_option pp.maxSteps 200
namespace K31
open PySem PySem.Spec PyProof.Rows L2 Evl LamX

theorem all_mk {P : Program} {w : World} {K : PySem.W.Frag} {h : Heap} {mg : Str → Option Value} {fa C c_downs P_downs q_things q_closed : Addr} {rest_things rest_closed : List Value} {tl tm : Tok} (X : K.In h) (G : h.Ns mainGlobals mg) (hfa : mg "law" = some (.ref fa)) (hP : h.get? P_downs = some { cls := .none, data := .fields #[] })
    {f_is_letter : Addr} {oc_is_letter kV_is_letter dc_is_letter pm_is_letter cd_is_letter ct_is_letter : Value} {od_is_letter an_is_letter : Option Addr} {sl_is_letter : Array (Option Value)}
    {f_is_rising : Addr} {oc_is_rising kV_is_rising dc_is_rising pm_is_rising cd_is_rising ct_is_rising : Value} {od_is_rising an_is_rising : Option Addr} {sl_is_rising : Array (Option Value)}
    {f_are_things : Addr} {oc_are_things kV_are_things dc_are_things pm_are_things cd_are_things ct_are_things : Value} {od_are_things an_are_things : Option Addr} {sl_are_things : Array (Option Value)}
    {f_check_things : Addr} {oc_check_things kV_check_things dc_check_things pm_check_things cd_check_things ct_check_things : Value} {od_check_things an_check_things : Option Addr} {sl_check_things : Array (Option Value)}
    {f_is_lot : Addr} {oc_is_lot kV_is_lot dc_is_lot pm_is_lot cd_is_lot ct_is_lot : Value} {od_is_lot an_is_lot : Option Addr} {sl_is_lot : Array (Option Value)}
    {f_wrong_in_family : Addr} {oc_wrong_in_family kV_wrong_in_family dc_wrong_in_family pm_wrong_in_family cd_wrong_in_family ct_wrong_in_family : Value} {od_wrong_in_family an_wrong_in_family : Option Addr} {sl_wrong_in_family : Array (Option Value)}
    {f_mask_of : Addr} {oc_mask_of kV_mask_of dc_mask_of pm_mask_of cd_mask_of ct_mask_of : Value} {od_mask_of an_mask_of : Option Addr} {sl_mask_of : Array (Option Value)}
    {f_lot_of : Addr} {oc_lot_of kV_lot_of dc_lot_of pm_lot_of cd_lot_of ct_lot_of : Value} {od_lot_of an_lot_of : Option Addr} {sl_lot_of : Array (Option Value)}
    {f_whole_of : Addr} {oc_whole_of kV_whole_of dc_whole_of pm_whole_of cd_whole_of ct_whole_of : Value} {od_whole_of an_whole_of : Option Addr} {sl_whole_of : Array (Option Value)}
    {f_masks_of : Addr} {oc_masks_of kV_masks_of dc_masks_of pm_masks_of cd_masks_of ct_masks_of : Value} {od_masks_of an_masks_of : Option Addr} {sl_masks_of : Array (Option Value)}
    {f_family_of : Addr} {oc_family_of kV_family_of dc_family_of pm_family_of cd_family_of ct_family_of : Value} {od_family_of an_family_of : Option Addr} {sl_family_of : Array (Option Value)}
    {f_is_inside : Addr} {oc_is_inside kV_is_inside dc_is_inside pm_is_inside cd_is_inside ct_is_inside : Value} {od_is_inside an_is_inside : Option Addr} {sl_is_inside : Array (Option Value)}
    {f_meets_of : Addr} {oc_meets_of kV_meets_of dc_meets_of pm_meets_of cd_meets_of ct_meets_of : Value} {od_meets_of an_meets_of : Option Addr} {sl_meets_of : Array (Option Value)}
    {f_is_closed_family : Addr} {oc_is_closed_family kV_is_closed_family dc_is_closed_family pm_is_closed_family cd_is_closed_family ct_is_closed_family : Value} {od_is_closed_family an_is_closed_family : Option Addr} {sl_is_closed_family : Array (Option Value)}
    {f_check_closed : Addr} {oc_check_closed kV_check_closed dc_check_closed pm_check_closed cd_check_closed ct_check_closed : Value} {od_check_closed an_check_closed : Option Addr} {sl_check_closed : Array (Option Value)}
    {f_rounds_of : Addr} {oc_rounds_of kV_rounds_of dc_rounds_of pm_rounds_of cd_rounds_of ct_rounds_of : Value} {od_rounds_of an_rounds_of : Option Addr} {sl_rounds_of : Array (Option Value)}
    {f___init__ : Addr} {oc___init__ kV___init__ dc___init__ pm___init__ cd___init__ ct___init__ : Value} {od___init__ an___init__ : Option Addr} {sl___init__ : Array (Option Value)}
    {f_things : Addr} {oc_things kV_things dc_things pm_things cd_things ct_things : Value} {od_things an_things : Option Addr} {sl_things : Array (Option Value)}
    {f_closed : Addr} {oc_closed kV_closed dc_closed pm_closed cd_closed ct_closed : Value} {od_closed an_closed : Option Addr} {sl_closed : Array (Option Value)}
    {f_closed_masks : Addr} {oc_closed_masks kV_closed_masks dc_closed_masks pm_closed_masks cd_closed_masks ct_closed_masks : Value} {od_closed_masks an_closed_masks : Option Addr} {sl_closed_masks : Array (Option Value)}
    {f_check_closer : Addr} {oc_check_closer kV_check_closer dc_check_closer pm_check_closer cd_check_closer ct_check_closer : Value} {od_check_closer an_check_closer : Option Addr} {sl_check_closer : Array (Option Value)}
    {f_covers_of : Addr} {oc_covers_of kV_covers_of dc_covers_of pm_covers_of cd_covers_of ct_covers_of : Value} {od_covers_of an_covers_of : Option Addr} {sl_covers_of : Array (Option Value)}
    {f_span_of : Addr} {oc_span_of kV_span_of dc_span_of pm_span_of cd_span_of ct_span_of : Value} {od_span_of an_span_of : Option Addr} {sl_span_of : Array (Option Value)}
    {f_root_masks : Addr} {oc_root_masks kV_root_masks dc_root_masks pm_root_masks cd_root_masks ct_root_masks : Value} {od_root_masks an_root_masks : Option Addr} {sl_root_masks : Array (Option Value)}
    {f_roots : Addr} {oc_roots kV_roots dc_roots pm_roots cd_roots ct_roots : Value} {od_roots an_roots : Option Addr} {sl_roots : Array (Option Value)}
    {f_count_down : Addr} {oc_count_down kV_count_down dc_count_down pm_count_down cd_count_down ct_count_down : Value} {od_count_down an_count_down : Option Addr} {sl_count_down : Array (Option Value)}
    {f_pentagon_masks : Addr} {oc_pentagon_masks kV_pentagon_masks dc_pentagon_masks pm_pentagon_masks cd_pentagon_masks ct_pentagon_masks : Value} {od_pentagon_masks an_pentagon_masks : Option Addr} {sl_pentagon_masks : Array (Option Value)}
    {f_diamond_lots : Addr} {oc_diamond_lots kV_diamond_lots dc_diamond_lots pm_diamond_lots cd_diamond_lots ct_diamond_lots : Value} {od_diamond_lots an_diamond_lots : Option Addr} {sl_diamond_lots : Array (Option Value)}
    {f_is_distributive : Addr} {oc_is_distributive kV_is_distributive dc_is_distributive pm_is_distributive cd_is_distributive ct_is_distributive : Value} {od_is_distributive an_is_distributive : Option Addr} {sl_is_distributive : Array (Option Value)}
    {f__law_well : Addr} {oc__law_well kV__law_well dc__law_well pm__law_well cd__law_well ct__law_well : Value} {od__law_well an__law_well : Option Addr} {sl__law_well : Array (Option Value)}
    {f__law_dip : Addr} {oc__law_dip kV__law_dip dc__law_dip pm__law_dip cd__law_dip ct__law_dip : Value} {od__law_dip an__law_dip : Option Addr} {sl__law_dip : Array (Option Value)}
    {f__law_one_of : Addr} {oc__law_one_of kV__law_one_of dc__law_one_of pm__law_one_of cd__law_one_of ct__law_one_of : Value} {od__law_one_of an__law_one_of : Option Addr} {sl__law_one_of : Array (Option Value)}
    {f__law_whole : Addr} {oc__law_whole kV__law_whole dc__law_whole pm__law_whole cd__law_whole ct__law_whole : Value} {od__law_whole an__law_whole : Option Addr} {sl__law_whole : Array (Option Value)}
    {f__law_lot : Addr} {oc__law_lot kV__law_lot dc__law_lot pm__law_lot cd__law_lot ct__law_lot : Value} {od__law_lot an__law_lot : Option Addr} {sl__law_lot : Array (Option Value)}
    {f__law_in : Addr} {oc__law_in kV__law_in dc__law_in pm__law_in cd__law_in ct__law_in : Value} {od__law_in an__law_in : Option Addr} {sl__law_in : Array (Option Value)}
    {f__law_both : Addr} {oc__law_both kV__law_both dc__law_both pm__law_both cd__law_both ct__law_both : Value} {od__law_both an__law_both : Option Addr} {sl__law_both : Array (Option Value)}
    {f__law_any : Addr} {oc__law_any kV__law_any dc__law_any pm__law_any cd__law_any ct__law_any : Value} {od__law_any an__law_any : Option Addr} {sl__law_any : Array (Option Value)}
    {f__law_meets : Addr} {oc__law_meets kV__law_meets dc__law_meets pm__law_meets cd__law_meets ct__law_meets : Value} {od__law_meets an__law_meets : Option Addr} {sl__law_meets : Array (Option Value)}
    {f__law_round : Addr} {oc__law_round kV__law_round dc__law_round pm__law_round cd__law_round ct__law_round : Value} {od__law_round an__law_round : Option Addr} {sl__law_round : Array (Option Value)}
    {f__law_family : Addr} {oc__law_family kV__law_family dc__law_family pm__law_family cd__law_family ct__law_family : Value} {od__law_family an__law_family : Option Addr} {sl__law_family : Array (Option Value)}
    {f__law_lots : Addr} {oc__law_lots kV__law_lots dc__law_lots pm__law_lots cd__law_lots ct__law_lots : Value} {od__law_lots an__law_lots : Option Addr} {sl__law_lots : Array (Option Value)}
    {f__law_roots : Addr} {oc__law_roots kV__law_roots dc__law_roots pm__law_roots cd__law_roots ct__law_roots : Value} {od__law_roots an__law_roots : Option Addr} {sl__law_roots : Array (Option Value)}
    {f__law_downs : Addr} {oc__law_downs kV__law_downs dc__law_downs pm__law_downs ct__law_downs : Value} {od__law_downs an__law_downs : Option Addr} {sl__law_downs : Array (Option Value)}
    {f__law_right : Addr} {oc__law_right kV__law_right dc__law_right pm__law_right cd__law_right ct__law_right : Value} {od__law_right an__law_right : Option Addr} {sl__law_right : Array (Option Value)}
    {f_law : Addr} {oc_law kV_law dc_law pm_law cd_law ct_law : Value} {od_law an_law : Option Addr} {sl_law : Array (Option Value)}
    (aC : PySem.W.nsIn K mainGlobals "Closer" = some (some (.ref C)))
    (a_is_letter : PySem.W.nsIn K mainGlobals "is_letter" = some (some (.ref f_is_letter)))
    (l_is_letter : K.lookup f_is_letter = some ⟨oc_is_letter, od_is_letter, .func (PySem.W.fnOf "is_letter" "is_letter" (defArgs sis_letter) (defBody sis_letter) (defScope sis_letter) .none kV_is_letter dc_is_letter pm_is_letter an_is_letter cd_is_letter ct_is_letter), sl_is_letter⟩)
    (c_is_letter : PySem.W.codeIn K cd_is_letter "is_letter" = true)
    (k_is_letter : PySem.W.keepIn K (.ref f_is_letter) = true)
    (a_is_rising : PySem.W.nsIn K mainGlobals "is_rising" = some (some (.ref f_is_rising)))
    (l_is_rising : K.lookup f_is_rising = some ⟨oc_is_rising, od_is_rising, .func (PySem.W.fnOf "is_rising" "is_rising" (defArgs sis_rising) (defBody sis_rising) (defScope sis_rising) .none kV_is_rising dc_is_rising pm_is_rising an_is_rising cd_is_rising ct_is_rising), sl_is_rising⟩)
    (c_is_rising : PySem.W.codeIn K cd_is_rising "is_rising" = true)
    (k_is_rising : PySem.W.keepIn K (.ref f_is_rising) = true)
    (a_are_things : PySem.W.nsIn K mainGlobals "are_things" = some (some (.ref f_are_things)))
    (l_are_things : K.lookup f_are_things = some ⟨oc_are_things, od_are_things, .func (PySem.W.fnOf "are_things" "are_things" (defArgs sare_things) (defBody sare_things) (defScope sare_things) .none kV_are_things dc_are_things pm_are_things an_are_things cd_are_things ct_are_things), sl_are_things⟩)
    (c_are_things : PySem.W.codeIn K cd_are_things "are_things" = true)
    (k_are_things : PySem.W.keepIn K (.ref f_are_things) = true)
    (a_check_things : PySem.W.nsIn K mainGlobals "check_things" = some (some (.ref f_check_things)))
    (l_check_things : K.lookup f_check_things = some ⟨oc_check_things, od_check_things, .func (PySem.W.fnOf "check_things" "check_things" (defArgs scheck_things) (defBody scheck_things) (defScope scheck_things) .none kV_check_things dc_check_things pm_check_things an_check_things cd_check_things ct_check_things), sl_check_things⟩)
    (c_check_things : PySem.W.codeIn K cd_check_things "check_things" = true)
    (k_check_things : PySem.W.keepIn K (.ref f_check_things) = true)
    (a_is_lot : PySem.W.nsIn K mainGlobals "is_lot" = some (some (.ref f_is_lot)))
    (l_is_lot : K.lookup f_is_lot = some ⟨oc_is_lot, od_is_lot, .func (PySem.W.fnOf "is_lot" "is_lot" (defArgs sis_lot) (defBody sis_lot) (defScope sis_lot) .none kV_is_lot dc_is_lot pm_is_lot an_is_lot cd_is_lot ct_is_lot), sl_is_lot⟩)
    (c_is_lot : PySem.W.codeIn K cd_is_lot "is_lot" = true)
    (k_is_lot : PySem.W.keepIn K (.ref f_is_lot) = true)
    (a_wrong_in_family : PySem.W.nsIn K mainGlobals "wrong_in_family" = some (some (.ref f_wrong_in_family)))
    (l_wrong_in_family : K.lookup f_wrong_in_family = some ⟨oc_wrong_in_family, od_wrong_in_family, .func (PySem.W.fnOf "wrong_in_family" "wrong_in_family" (defArgs swrong_in_family) (defBody swrong_in_family) (defScope swrong_in_family) .none kV_wrong_in_family dc_wrong_in_family pm_wrong_in_family an_wrong_in_family cd_wrong_in_family ct_wrong_in_family), sl_wrong_in_family⟩)
    (c_wrong_in_family : PySem.W.codeIn K cd_wrong_in_family "wrong_in_family" = true)
    (k_wrong_in_family : PySem.W.keepIn K (.ref f_wrong_in_family) = true)
    (a_mask_of : PySem.W.nsIn K mainGlobals "mask_of" = some (some (.ref f_mask_of)))
    (l_mask_of : K.lookup f_mask_of = some ⟨oc_mask_of, od_mask_of, .func (PySem.W.fnOf "mask_of" "mask_of" (defArgs smask_of) (defBody smask_of) (defScope smask_of) .none kV_mask_of dc_mask_of pm_mask_of an_mask_of cd_mask_of ct_mask_of), sl_mask_of⟩)
    (c_mask_of : PySem.W.codeIn K cd_mask_of "mask_of" = true)
    (k_mask_of : PySem.W.keepIn K (.ref f_mask_of) = true)
    (a_lot_of : PySem.W.nsIn K mainGlobals "lot_of" = some (some (.ref f_lot_of)))
    (l_lot_of : K.lookup f_lot_of = some ⟨oc_lot_of, od_lot_of, .func (PySem.W.fnOf "lot_of" "lot_of" (defArgs slot_of) (defBody slot_of) (defScope slot_of) .none kV_lot_of dc_lot_of pm_lot_of an_lot_of cd_lot_of ct_lot_of), sl_lot_of⟩)
    (c_lot_of : PySem.W.codeIn K cd_lot_of "lot_of" = true)
    (k_lot_of : PySem.W.keepIn K (.ref f_lot_of) = true)
    (a_whole_of : PySem.W.nsIn K mainGlobals "whole_of" = some (some (.ref f_whole_of)))
    (l_whole_of : K.lookup f_whole_of = some ⟨oc_whole_of, od_whole_of, .func (PySem.W.fnOf "whole_of" "whole_of" (defArgs swhole_of) (defBody swhole_of) (defScope swhole_of) .none kV_whole_of dc_whole_of pm_whole_of an_whole_of cd_whole_of ct_whole_of), sl_whole_of⟩)
    (c_whole_of : PySem.W.codeIn K cd_whole_of "whole_of" = true)
    (k_whole_of : PySem.W.keepIn K (.ref f_whole_of) = true)
    (a_masks_of : PySem.W.nsIn K mainGlobals "masks_of" = some (some (.ref f_masks_of)))
    (l_masks_of : K.lookup f_masks_of = some ⟨oc_masks_of, od_masks_of, .func (PySem.W.fnOf "masks_of" "masks_of" (defArgs smasks_of) (defBody smasks_of) (defScope smasks_of) .none kV_masks_of dc_masks_of pm_masks_of an_masks_of cd_masks_of ct_masks_of), sl_masks_of⟩)
    (c_masks_of : PySem.W.codeIn K cd_masks_of "masks_of" = true)
    (k_masks_of : PySem.W.keepIn K (.ref f_masks_of) = true)
    (a_family_of : PySem.W.nsIn K mainGlobals "family_of" = some (some (.ref f_family_of)))
    (l_family_of : K.lookup f_family_of = some ⟨oc_family_of, od_family_of, .func (PySem.W.fnOf "family_of" "family_of" (defArgs sfamily_of) (defBody sfamily_of) (defScope sfamily_of) .none kV_family_of dc_family_of pm_family_of an_family_of cd_family_of ct_family_of), sl_family_of⟩)
    (c_family_of : PySem.W.codeIn K cd_family_of "family_of" = true)
    (k_family_of : PySem.W.keepIn K (.ref f_family_of) = true)
    (a_is_inside : PySem.W.nsIn K mainGlobals "is_inside" = some (some (.ref f_is_inside)))
    (l_is_inside : K.lookup f_is_inside = some ⟨oc_is_inside, od_is_inside, .func (PySem.W.fnOf "is_inside" "is_inside" (defArgs sis_inside) (defBody sis_inside) (defScope sis_inside) .none kV_is_inside dc_is_inside pm_is_inside an_is_inside cd_is_inside ct_is_inside), sl_is_inside⟩)
    (c_is_inside : PySem.W.codeIn K cd_is_inside "is_inside" = true)
    (k_is_inside : PySem.W.keepIn K (.ref f_is_inside) = true)
    (a_meets_of : PySem.W.nsIn K mainGlobals "meets_of" = some (some (.ref f_meets_of)))
    (l_meets_of : K.lookup f_meets_of = some ⟨oc_meets_of, od_meets_of, .func (PySem.W.fnOf "meets_of" "meets_of" (defArgs smeets_of) (defBody smeets_of) (defScope smeets_of) .none kV_meets_of dc_meets_of pm_meets_of an_meets_of cd_meets_of ct_meets_of), sl_meets_of⟩)
    (c_meets_of : PySem.W.codeIn K cd_meets_of "meets_of" = true)
    (k_meets_of : PySem.W.keepIn K (.ref f_meets_of) = true)
    (a_is_closed_family : PySem.W.nsIn K mainGlobals "is_closed_family" = some (some (.ref f_is_closed_family)))
    (l_is_closed_family : K.lookup f_is_closed_family = some ⟨oc_is_closed_family, od_is_closed_family, .func (PySem.W.fnOf "is_closed_family" "is_closed_family" (defArgs sis_closed_family) (defBody sis_closed_family) (defScope sis_closed_family) .none kV_is_closed_family dc_is_closed_family pm_is_closed_family an_is_closed_family cd_is_closed_family ct_is_closed_family), sl_is_closed_family⟩)
    (c_is_closed_family : PySem.W.codeIn K cd_is_closed_family "is_closed_family" = true)
    (k_is_closed_family : PySem.W.keepIn K (.ref f_is_closed_family) = true)
    (a_check_closed : PySem.W.nsIn K mainGlobals "check_closed" = some (some (.ref f_check_closed)))
    (l_check_closed : K.lookup f_check_closed = some ⟨oc_check_closed, od_check_closed, .func (PySem.W.fnOf "check_closed" "check_closed" (defArgs scheck_closed) (defBody scheck_closed) (defScope scheck_closed) .none kV_check_closed dc_check_closed pm_check_closed an_check_closed cd_check_closed ct_check_closed), sl_check_closed⟩)
    (c_check_closed : PySem.W.codeIn K cd_check_closed "check_closed" = true)
    (k_check_closed : PySem.W.keepIn K (.ref f_check_closed) = true)
    (a_rounds_of : PySem.W.nsIn K mainGlobals "rounds_of" = some (some (.ref f_rounds_of)))
    (l_rounds_of : K.lookup f_rounds_of = some ⟨oc_rounds_of, od_rounds_of, .func (PySem.W.fnOf "rounds_of" "rounds_of" (defArgs srounds_of) (defBody srounds_of) (defScope srounds_of) .none kV_rounds_of dc_rounds_of pm_rounds_of an_rounds_of cd_rounds_of ct_rounds_of), sl_rounds_of⟩)
    (c_rounds_of : PySem.W.codeIn K cd_rounds_of "rounds_of" = true)
    (k_rounds_of : PySem.W.keepIn K (.ref f_rounds_of) = true)
    (a___init__ : PySem.W.findIn K (.ref C) "__init__" = some (some (.ref f___init__)))
    (l___init__ : K.lookup f___init__ = some ⟨oc___init__, od___init__, .func (PySem.W.fnOf "__init__" "Closer.__init__" (defArgs s__init__) (defBody s__init__) (defScope s__init__) .none kV___init__ dc___init__ pm___init__ an___init__ cd___init__ ct___init__), sl___init__⟩)
    (c___init__ : PySem.W.codeIn K cd___init__ "Closer.__init__" = true)
    (k___init__ : PySem.W.keepIn K (.ref f___init__) = true)
    (pat_things : PySem.W.findIn K (.ref C) "things" = some (some (.ref q_things)))
    (pre_things : PySem.W.recIn K q_things "property" = some (.ref f_things :: rest_things))
    (pge_things : PySem.W.specialIn K (.ref q_things) "__get__" = some (some (.builtin "property.__get__")))
    (pta_things : PySem.W.takesIn K (.ref q_things) = some true)
    (l_things : K.lookup f_things = some ⟨oc_things, od_things, .func (PySem.W.fnOf "things" "Closer.things" (defArgs sthings) (defBody sthings) (defScope sthings) .none kV_things dc_things pm_things an_things cd_things ct_things), sl_things⟩)
    (c_things : PySem.W.codeIn K cd_things "Closer.things" = true)
    (k_things : PySem.W.keepIn K (.ref f_things) = true)
    (pat_closed : PySem.W.findIn K (.ref C) "closed" = some (some (.ref q_closed)))
    (pre_closed : PySem.W.recIn K q_closed "property" = some (.ref f_closed :: rest_closed))
    (pge_closed : PySem.W.specialIn K (.ref q_closed) "__get__" = some (some (.builtin "property.__get__")))
    (pta_closed : PySem.W.takesIn K (.ref q_closed) = some true)
    (l_closed : K.lookup f_closed = some ⟨oc_closed, od_closed, .func (PySem.W.fnOf "closed" "Closer.closed" (defArgs sclosed) (defBody sclosed) (defScope sclosed) .none kV_closed dc_closed pm_closed an_closed cd_closed ct_closed), sl_closed⟩)
    (c_closed : PySem.W.codeIn K cd_closed "Closer.closed" = true)
    (k_closed : PySem.W.keepIn K (.ref f_closed) = true)
    (a_closed_masks : PySem.W.nsIn K mainGlobals "closed_masks" = some (some (.ref f_closed_masks)))
    (l_closed_masks : K.lookup f_closed_masks = some ⟨oc_closed_masks, od_closed_masks, .func (PySem.W.fnOf "closed_masks" "closed_masks" (defArgs sclosed_masks) (defBody sclosed_masks) (defScope sclosed_masks) .none kV_closed_masks dc_closed_masks pm_closed_masks an_closed_masks cd_closed_masks ct_closed_masks), sl_closed_masks⟩)
    (c_closed_masks : PySem.W.codeIn K cd_closed_masks "closed_masks" = true)
    (k_closed_masks : PySem.W.keepIn K (.ref f_closed_masks) = true)
    (a_check_closer : PySem.W.nsIn K mainGlobals "check_closer" = some (some (.ref f_check_closer)))
    (l_check_closer : K.lookup f_check_closer = some ⟨oc_check_closer, od_check_closer, .func (PySem.W.fnOf "check_closer" "check_closer" (defArgs scheck_closer) (defBody scheck_closer) (defScope scheck_closer) .none kV_check_closer dc_check_closer pm_check_closer an_check_closer cd_check_closer ct_check_closer), sl_check_closer⟩)
    (c_check_closer : PySem.W.codeIn K cd_check_closer "check_closer" = true)
    (k_check_closer : PySem.W.keepIn K (.ref f_check_closer) = true)
    (a_covers_of : PySem.W.nsIn K mainGlobals "covers_of" = some (some (.ref f_covers_of)))
    (l_covers_of : K.lookup f_covers_of = some ⟨oc_covers_of, od_covers_of, .func (PySem.W.fnOf "covers_of" "covers_of" (defArgs scovers_of) (defBody scovers_of) (defScope scovers_of) .none kV_covers_of dc_covers_of pm_covers_of an_covers_of cd_covers_of ct_covers_of), sl_covers_of⟩)
    (c_covers_of : PySem.W.codeIn K cd_covers_of "covers_of" = true)
    (k_covers_of : PySem.W.keepIn K (.ref f_covers_of) = true)
    (a_span_of : PySem.W.nsIn K mainGlobals "span_of" = some (some (.ref f_span_of)))
    (l_span_of : K.lookup f_span_of = some ⟨oc_span_of, od_span_of, .func (PySem.W.fnOf "span_of" "span_of" (defArgs sspan_of) (defBody sspan_of) (defScope sspan_of) .none kV_span_of dc_span_of pm_span_of an_span_of cd_span_of ct_span_of), sl_span_of⟩)
    (c_span_of : PySem.W.codeIn K cd_span_of "span_of" = true)
    (k_span_of : PySem.W.keepIn K (.ref f_span_of) = true)
    (a_root_masks : PySem.W.nsIn K mainGlobals "root_masks" = some (some (.ref f_root_masks)))
    (l_root_masks : K.lookup f_root_masks = some ⟨oc_root_masks, od_root_masks, .func (PySem.W.fnOf "root_masks" "root_masks" (defArgs sroot_masks) (defBody sroot_masks) (defScope sroot_masks) .none kV_root_masks dc_root_masks pm_root_masks an_root_masks cd_root_masks ct_root_masks), sl_root_masks⟩)
    (c_root_masks : PySem.W.codeIn K cd_root_masks "root_masks" = true)
    (k_root_masks : PySem.W.keepIn K (.ref f_root_masks) = true)
    (a_roots : PySem.W.nsIn K mainGlobals "roots" = some (some (.ref f_roots)))
    (l_roots : K.lookup f_roots = some ⟨oc_roots, od_roots, .func (PySem.W.fnOf "roots" "roots" (defArgs sroots) (defBody sroots) (defScope sroots) .none kV_roots dc_roots pm_roots an_roots cd_roots ct_roots), sl_roots⟩)
    (c_roots : PySem.W.codeIn K cd_roots "roots" = true)
    (k_roots : PySem.W.keepIn K (.ref f_roots) = true)
    (a_count_down : PySem.W.nsIn K mainGlobals "count_down" = some (some (.ref f_count_down)))
    (l_count_down : K.lookup f_count_down = some ⟨oc_count_down, od_count_down, .func (PySem.W.fnOf "count_down" "count_down" (defArgs scount_down) (defBody scount_down) (defScope scount_down) .none kV_count_down dc_count_down pm_count_down an_count_down cd_count_down ct_count_down), sl_count_down⟩)
    (c_count_down : PySem.W.codeIn K cd_count_down "count_down" = true)
    (k_count_down : PySem.W.keepIn K (.ref f_count_down) = true)
    (a_pentagon_masks : PySem.W.nsIn K mainGlobals "pentagon_masks" = some (some (.ref f_pentagon_masks)))
    (l_pentagon_masks : K.lookup f_pentagon_masks = some ⟨oc_pentagon_masks, od_pentagon_masks, .func (PySem.W.fnOf "pentagon_masks" "pentagon_masks" (defArgs spentagon_masks) (defBody spentagon_masks) (defScope spentagon_masks) .none kV_pentagon_masks dc_pentagon_masks pm_pentagon_masks an_pentagon_masks cd_pentagon_masks ct_pentagon_masks), sl_pentagon_masks⟩)
    (c_pentagon_masks : PySem.W.codeIn K cd_pentagon_masks "pentagon_masks" = true)
    (k_pentagon_masks : PySem.W.keepIn K (.ref f_pentagon_masks) = true)
    (a_diamond_lots : PySem.W.nsIn K mainGlobals "diamond_lots" = some (some (.ref f_diamond_lots)))
    (l_diamond_lots : K.lookup f_diamond_lots = some ⟨oc_diamond_lots, od_diamond_lots, .func (PySem.W.fnOf "diamond_lots" "diamond_lots" (defArgs sdiamond_lots) (defBody sdiamond_lots) (defScope sdiamond_lots) .none kV_diamond_lots dc_diamond_lots pm_diamond_lots an_diamond_lots cd_diamond_lots ct_diamond_lots), sl_diamond_lots⟩)
    (c_diamond_lots : PySem.W.codeIn K cd_diamond_lots "diamond_lots" = true)
    (k_diamond_lots : PySem.W.keepIn K (.ref f_diamond_lots) = true)
    (a_is_distributive : PySem.W.nsIn K mainGlobals "is_distributive" = some (some (.ref f_is_distributive)))
    (l_is_distributive : K.lookup f_is_distributive = some ⟨oc_is_distributive, od_is_distributive, .func (PySem.W.fnOf "is_distributive" "is_distributive" (defArgs sis_distributive) (defBody sis_distributive) (defScope sis_distributive) .none kV_is_distributive dc_is_distributive pm_is_distributive an_is_distributive cd_is_distributive ct_is_distributive), sl_is_distributive⟩)
    (c_is_distributive : PySem.W.codeIn K cd_is_distributive "is_distributive" = true)
    (k_is_distributive : PySem.W.keepIn K (.ref f_is_distributive) = true)
    (a__law_well : PySem.W.nsIn K mainGlobals "_law_well" = some (some (.ref f__law_well)))
    (l__law_well : K.lookup f__law_well = some ⟨oc__law_well, od__law_well, .func (PySem.W.fnOf "_law_well" "_law_well" (defArgs s_law_well) (defBody s_law_well) (defScope s_law_well) .none kV__law_well dc__law_well pm__law_well an__law_well cd__law_well ct__law_well), sl__law_well⟩)
    (c__law_well : PySem.W.codeIn K cd__law_well "_law_well" = true)
    (k__law_well : PySem.W.keepIn K (.ref f__law_well) = true)
    (a__law_dip : PySem.W.nsIn K mainGlobals "_law_dip" = some (some (.ref f__law_dip)))
    (l__law_dip : K.lookup f__law_dip = some ⟨oc__law_dip, od__law_dip, .func (PySem.W.fnOf "_law_dip" "_law_dip" (defArgs s_law_dip) (defBody s_law_dip) (defScope s_law_dip) .none kV__law_dip dc__law_dip pm__law_dip an__law_dip cd__law_dip ct__law_dip), sl__law_dip⟩)
    (c__law_dip : PySem.W.codeIn K cd__law_dip "_law_dip" = true)
    (k__law_dip : PySem.W.keepIn K (.ref f__law_dip) = true)
    (a__law_one_of : PySem.W.nsIn K mainGlobals "_law_one_of" = some (some (.ref f__law_one_of)))
    (l__law_one_of : K.lookup f__law_one_of = some ⟨oc__law_one_of, od__law_one_of, .func (PySem.W.fnOf "_law_one_of" "_law_one_of" (defArgs s_law_one_of) (defBody s_law_one_of) (defScope s_law_one_of) .none kV__law_one_of dc__law_one_of pm__law_one_of an__law_one_of cd__law_one_of ct__law_one_of), sl__law_one_of⟩)
    (c__law_one_of : PySem.W.codeIn K cd__law_one_of "_law_one_of" = true)
    (k__law_one_of : PySem.W.keepIn K (.ref f__law_one_of) = true)
    (a__law_whole : PySem.W.nsIn K mainGlobals "_law_whole" = some (some (.ref f__law_whole)))
    (l__law_whole : K.lookup f__law_whole = some ⟨oc__law_whole, od__law_whole, .func (PySem.W.fnOf "_law_whole" "_law_whole" (defArgs s_law_whole) (defBody s_law_whole) (defScope s_law_whole) .none kV__law_whole dc__law_whole pm__law_whole an__law_whole cd__law_whole ct__law_whole), sl__law_whole⟩)
    (c__law_whole : PySem.W.codeIn K cd__law_whole "_law_whole" = true)
    (k__law_whole : PySem.W.keepIn K (.ref f__law_whole) = true)
    (a__law_lot : PySem.W.nsIn K mainGlobals "_law_lot" = some (some (.ref f__law_lot)))
    (l__law_lot : K.lookup f__law_lot = some ⟨oc__law_lot, od__law_lot, .func (PySem.W.fnOf "_law_lot" "_law_lot" (defArgs s_law_lot) (defBody s_law_lot) (defScope s_law_lot) .none kV__law_lot dc__law_lot pm__law_lot an__law_lot cd__law_lot ct__law_lot), sl__law_lot⟩)
    (c__law_lot : PySem.W.codeIn K cd__law_lot "_law_lot" = true)
    (k__law_lot : PySem.W.keepIn K (.ref f__law_lot) = true)
    (a__law_in : PySem.W.nsIn K mainGlobals "_law_in" = some (some (.ref f__law_in)))
    (l__law_in : K.lookup f__law_in = some ⟨oc__law_in, od__law_in, .func (PySem.W.fnOf "_law_in" "_law_in" (defArgs s_law_in) (defBody s_law_in) (defScope s_law_in) .none kV__law_in dc__law_in pm__law_in an__law_in cd__law_in ct__law_in), sl__law_in⟩)
    (c__law_in : PySem.W.codeIn K cd__law_in "_law_in" = true)
    (k__law_in : PySem.W.keepIn K (.ref f__law_in) = true)
    (a__law_both : PySem.W.nsIn K mainGlobals "_law_both" = some (some (.ref f__law_both)))
    (l__law_both : K.lookup f__law_both = some ⟨oc__law_both, od__law_both, .func (PySem.W.fnOf "_law_both" "_law_both" (defArgs s_law_both) (defBody s_law_both) (defScope s_law_both) .none kV__law_both dc__law_both pm__law_both an__law_both cd__law_both ct__law_both), sl__law_both⟩)
    (c__law_both : PySem.W.codeIn K cd__law_both "_law_both" = true)
    (k__law_both : PySem.W.keepIn K (.ref f__law_both) = true)
    (a__law_any : PySem.W.nsIn K mainGlobals "_law_any" = some (some (.ref f__law_any)))
    (l__law_any : K.lookup f__law_any = some ⟨oc__law_any, od__law_any, .func (PySem.W.fnOf "_law_any" "_law_any" (defArgs s_law_any) (defBody s_law_any) (defScope s_law_any) .none kV__law_any dc__law_any pm__law_any an__law_any cd__law_any ct__law_any), sl__law_any⟩)
    (c__law_any : PySem.W.codeIn K cd__law_any "_law_any" = true)
    (k__law_any : PySem.W.keepIn K (.ref f__law_any) = true)
    (a__law_meets : PySem.W.nsIn K mainGlobals "_law_meets" = some (some (.ref f__law_meets)))
    (l__law_meets : K.lookup f__law_meets = some ⟨oc__law_meets, od__law_meets, .func (PySem.W.fnOf "_law_meets" "_law_meets" (defArgs s_law_meets) (defBody s_law_meets) (defScope s_law_meets) .none kV__law_meets dc__law_meets pm__law_meets an__law_meets cd__law_meets ct__law_meets), sl__law_meets⟩)
    (c__law_meets : PySem.W.codeIn K cd__law_meets "_law_meets" = true)
    (k__law_meets : PySem.W.keepIn K (.ref f__law_meets) = true)
    (a__law_round : PySem.W.nsIn K mainGlobals "_law_round" = some (some (.ref f__law_round)))
    (l__law_round : K.lookup f__law_round = some ⟨oc__law_round, od__law_round, .func (PySem.W.fnOf "_law_round" "_law_round" (defArgs s_law_round) (defBody s_law_round) (defScope s_law_round) .none kV__law_round dc__law_round pm__law_round an__law_round cd__law_round ct__law_round), sl__law_round⟩)
    (c__law_round : PySem.W.codeIn K cd__law_round "_law_round" = true)
    (k__law_round : PySem.W.keepIn K (.ref f__law_round) = true)
    (a__law_family : PySem.W.nsIn K mainGlobals "_law_family" = some (some (.ref f__law_family)))
    (l__law_family : K.lookup f__law_family = some ⟨oc__law_family, od__law_family, .func (PySem.W.fnOf "_law_family" "_law_family" (defArgs s_law_family) (defBody s_law_family) (defScope s_law_family) .none kV__law_family dc__law_family pm__law_family an__law_family cd__law_family ct__law_family), sl__law_family⟩)
    (c__law_family : PySem.W.codeIn K cd__law_family "_law_family" = true)
    (k__law_family : PySem.W.keepIn K (.ref f__law_family) = true)
    (a__law_lots : PySem.W.nsIn K mainGlobals "_law_lots" = some (some (.ref f__law_lots)))
    (l__law_lots : K.lookup f__law_lots = some ⟨oc__law_lots, od__law_lots, .func (PySem.W.fnOf "_law_lots" "_law_lots" (defArgs s_law_lots) (defBody s_law_lots) (defScope s_law_lots) .none kV__law_lots dc__law_lots pm__law_lots an__law_lots cd__law_lots ct__law_lots), sl__law_lots⟩)
    (c__law_lots : PySem.W.codeIn K cd__law_lots "_law_lots" = true)
    (k__law_lots : PySem.W.keepIn K (.ref f__law_lots) = true)
    (a__law_roots : PySem.W.nsIn K mainGlobals "_law_roots" = some (some (.ref f__law_roots)))
    (l__law_roots : K.lookup f__law_roots = some ⟨oc__law_roots, od__law_roots, .func (PySem.W.fnOf "_law_roots" "_law_roots" (defArgs s_law_roots) (defBody s_law_roots) (defScope s_law_roots) .none kV__law_roots dc__law_roots pm__law_roots an__law_roots cd__law_roots ct__law_roots), sl__law_roots⟩)
    (c__law_roots : PySem.W.codeIn K cd__law_roots "_law_roots" = true)
    (k__law_roots : PySem.W.keepIn K (.ref f__law_roots) = true)
    (a__law_downs : PySem.W.nsIn K mainGlobals "_law_downs" = some (some (.ref f__law_downs)))
    (l__law_downs : K.lookup f__law_downs = some ⟨oc__law_downs, od__law_downs, .func (PySem.W.fnOf "_law_downs" "_law_downs" (defArgs s_law_downs) (defBody s_law_downs) (defScope s_law_downs) .none kV__law_downs dc__law_downs pm__law_downs an__law_downs (.ref c_downs) ct__law_downs), sl__law_downs⟩)
    (c__law_downs : PySem.W.codeIn K (.ref c_downs) "_law_downs" = true)
    (k__law_downs : PySem.W.keepIn K (.ref f__law_downs) = true)
    (a__law_right : PySem.W.nsIn K mainGlobals "_law_right" = some (some (.ref f__law_right)))
    (l__law_right : K.lookup f__law_right = some ⟨oc__law_right, od__law_right, .func (PySem.W.fnOf "_law_right" "_law_right" (defArgs s_law_right) (defBody s_law_right) (defScope s_law_right) .none kV__law_right dc__law_right pm__law_right an__law_right cd__law_right ct__law_right), sl__law_right⟩)
    (c__law_right : PySem.W.codeIn K cd__law_right "_law_right" = true)
    (k__law_right : PySem.W.keepIn K (.ref f__law_right) = true)
    (a_law : PySem.W.nsIn K mainGlobals "law" = some (some (.ref f_law)))
    (l_law : K.lookup f_law = some ⟨oc_law, od_law, .func (PySem.W.fnOf "law" "law" (defArgs slaw) (defBody slaw) (defScope slaw) .none kV_law dc_law pm_law an_law cd_law ct_law), sl_law⟩)
    (c_law : PySem.W.codeIn K cd_law "law" = true)
    (k_law : PySem.W.keepIn K (.ref f_law) = true)
    (i_init : PySem.W.isFn K (.ref f___init__) = true)
    (pg : PySem.W.plainGet K C Str.empty = true)
    (hd : PySem.W.hasDictIn K C = true)
    (po : PySem.W.plainOver K C = true)
    (sa : PySem.W.findIn K (.ref C) "__setattr__" = some (some (.builtin "object.__setattr__")))
    (mk : PySem.W.makesIn K C = true)
    (kc : PySem.W.keepIn K (.ref C) = true)
    (ha : PySem.W.findIn K (.ref C) "__class__" = some (some (.builtin "object.__class__")))
    (hn : PySem.W.specialIn K (.builtin "object.__class__") "__get__" = some (some (.builtin "getset_descriptor.__get__")))
    (htk : PySem.W.takesIn K (.builtin "object.__class__") = some true)
    (hm : PySem.W.mroIn K C (.type "object") = some true)
    (me : PySem.W.kitOne K (.ref C) (.ref C) = some true)
    (nl : PySem.W.findIn K (.ref C) "letters" = some none)
    (nf : PySem.W.findIn K (.ref C) "family" = some none)
    (nt : PySem.W.findIn K (.ref C) "table" = some none)
    (gl : PySem.W.nsIn K mainGlobals "LETTERS" = some (some (.str "abcdefghijklmnopqrstuvwxyz" tl)))
    (gm : PySem.W.nsIn K mainGlobals "MOST_THINGS" = some (some (.int 7 tm)))
    (cdh : PySem.W.codeHdIn K c_downs P_downs = true)
    (nT : K.lookup P_downs = none)
    (z_abs : PySem.W.nsIn K mainGlobals "abs" = some none)
    (z_all : PySem.W.nsIn K mainGlobals "all" = some none)
    (z_any : PySem.W.nsIn K mainGlobals "any" = some none)
    (z_divmod : PySem.W.nsIn K mainGlobals "divmod" = some none)
    (z_int : PySem.W.nsIn K mainGlobals "int" = some none)
    (z_isinstance : PySem.W.nsIn K mainGlobals "isinstance" = some none)
    (z_len : PySem.W.nsIn K mainGlobals "len" = some none)
    (z_list : PySem.W.nsIn K mainGlobals "list" = some none)
    (z_max : PySem.W.nsIn K mainGlobals "max" = some none)
    (z_min : PySem.W.nsIn K mainGlobals "min" = some none)
    (z_range : PySem.W.nsIn K mainGlobals "range" = some none)
    (z_repr : PySem.W.nsIn K mainGlobals "repr" = some none)
    (z_set : PySem.W.nsIn K mainGlobals "set" = some none)
    (z_sorted : PySem.W.nsIn K mainGlobals "sorted" = some none)
    (z_str : PySem.W.nsIn K mainGlobals "str" = some none)
    (z_sum : PySem.W.nsIn K mainGlobals "sum" = some none)
    (z_tuple : PySem.W.nsIn K mainGlobals "tuple" = some none)
    (CH : ∀ n F, 1 ≤ n → n ≤ 4 → Gd n F → Chk n F) :
    ∃ (fd : FuncData) (c Pt : Addr) (sp : Sp), h.get? Pt = some { cls := .none, data := .fields #[] } ∧ K.lookup Pt = none ∧ PySem.W.CodeHd h c Pt ∧ (∀ (s : Shared) (u : Value), BindsTo s fd ⟨[u], []⟩ [(Str.ofString "_law_script", u)]) ∧
      (∀ (H : Hp) (a : Addr) (ns : List Int), ns.length ≤ 63 → H Pt = some (.tbl #[]) → SqL K H a (ns.map V.int) → sp [.ref a] H (fun v _ => v = .bl true) fun _ _ _ => False) ∧
      ∀ base : Heap, K.In base → base.Ns mainGlobals mg → TabB base mg c Pt → FnOkG P w K mg base 9 fa fd [Str.ofString "_law_script"] sp := by
  have efa := hfa.symm.trans (PySem.W.mg_of X G a_law)
  have efb : f_law = fa := by injection efa with e; injection e with e; exact e.symm
  subst efb
  have cl : Cls K C := ⟨pg, hd, po, sa⟩
  let D : Defs K mg := {
    a_is_letter := f_is_letter
    d_is_letter := PySem.W.fnOf "is_letter" "is_letter" (defArgs sis_letter) (defBody sis_letter) (defScope sis_letter) .none kV_is_letter dc_is_letter pm_is_letter an_is_letter cd_is_letter ct_is_letter
    F_is_letter := fun_mk (st := sis_letter) l_is_letter c_is_letter k_is_letter
    g_is_letter := PySem.W.mg_of X G a_is_letter
    a_is_rising := f_is_rising
    d_is_rising := PySem.W.fnOf "is_rising" "is_rising" (defArgs sis_rising) (defBody sis_rising) (defScope sis_rising) .none kV_is_rising dc_is_rising pm_is_rising an_is_rising cd_is_rising ct_is_rising
    F_is_rising := fun_mk (st := sis_rising) l_is_rising c_is_rising k_is_rising
    g_is_rising := PySem.W.mg_of X G a_is_rising
    a_are_things := f_are_things
    d_are_things := PySem.W.fnOf "are_things" "are_things" (defArgs sare_things) (defBody sare_things) (defScope sare_things) .none kV_are_things dc_are_things pm_are_things an_are_things cd_are_things ct_are_things
    F_are_things := fun_mk (st := sare_things) l_are_things c_are_things k_are_things
    g_are_things := PySem.W.mg_of X G a_are_things
    a_check_things := f_check_things
    d_check_things := PySem.W.fnOf "check_things" "check_things" (defArgs scheck_things) (defBody scheck_things) (defScope scheck_things) .none kV_check_things dc_check_things pm_check_things an_check_things cd_check_things ct_check_things
    F_check_things := fun_mk (st := scheck_things) l_check_things c_check_things k_check_things
    g_check_things := PySem.W.mg_of X G a_check_things
    a_is_lot := f_is_lot
    d_is_lot := PySem.W.fnOf "is_lot" "is_lot" (defArgs sis_lot) (defBody sis_lot) (defScope sis_lot) .none kV_is_lot dc_is_lot pm_is_lot an_is_lot cd_is_lot ct_is_lot
    F_is_lot := fun_mk (st := sis_lot) l_is_lot c_is_lot k_is_lot
    g_is_lot := PySem.W.mg_of X G a_is_lot
    a_wrong_in_family := f_wrong_in_family
    d_wrong_in_family := PySem.W.fnOf "wrong_in_family" "wrong_in_family" (defArgs swrong_in_family) (defBody swrong_in_family) (defScope swrong_in_family) .none kV_wrong_in_family dc_wrong_in_family pm_wrong_in_family an_wrong_in_family cd_wrong_in_family ct_wrong_in_family
    F_wrong_in_family := fun_mk (st := swrong_in_family) l_wrong_in_family c_wrong_in_family k_wrong_in_family
    g_wrong_in_family := PySem.W.mg_of X G a_wrong_in_family
    a_mask_of := f_mask_of
    d_mask_of := PySem.W.fnOf "mask_of" "mask_of" (defArgs smask_of) (defBody smask_of) (defScope smask_of) .none kV_mask_of dc_mask_of pm_mask_of an_mask_of cd_mask_of ct_mask_of
    F_mask_of := fun_mk (st := smask_of) l_mask_of c_mask_of k_mask_of
    g_mask_of := PySem.W.mg_of X G a_mask_of
    a_lot_of := f_lot_of
    d_lot_of := PySem.W.fnOf "lot_of" "lot_of" (defArgs slot_of) (defBody slot_of) (defScope slot_of) .none kV_lot_of dc_lot_of pm_lot_of an_lot_of cd_lot_of ct_lot_of
    F_lot_of := fun_mk (st := slot_of) l_lot_of c_lot_of k_lot_of
    g_lot_of := PySem.W.mg_of X G a_lot_of
    a_whole_of := f_whole_of
    d_whole_of := PySem.W.fnOf "whole_of" "whole_of" (defArgs swhole_of) (defBody swhole_of) (defScope swhole_of) .none kV_whole_of dc_whole_of pm_whole_of an_whole_of cd_whole_of ct_whole_of
    F_whole_of := fun_mk (st := swhole_of) l_whole_of c_whole_of k_whole_of
    g_whole_of := PySem.W.mg_of X G a_whole_of
    a_masks_of := f_masks_of
    d_masks_of := PySem.W.fnOf "masks_of" "masks_of" (defArgs smasks_of) (defBody smasks_of) (defScope smasks_of) .none kV_masks_of dc_masks_of pm_masks_of an_masks_of cd_masks_of ct_masks_of
    F_masks_of := fun_mk (st := smasks_of) l_masks_of c_masks_of k_masks_of
    g_masks_of := PySem.W.mg_of X G a_masks_of
    a_family_of := f_family_of
    d_family_of := PySem.W.fnOf "family_of" "family_of" (defArgs sfamily_of) (defBody sfamily_of) (defScope sfamily_of) .none kV_family_of dc_family_of pm_family_of an_family_of cd_family_of ct_family_of
    F_family_of := fun_mk (st := sfamily_of) l_family_of c_family_of k_family_of
    g_family_of := PySem.W.mg_of X G a_family_of
    a_is_inside := f_is_inside
    d_is_inside := PySem.W.fnOf "is_inside" "is_inside" (defArgs sis_inside) (defBody sis_inside) (defScope sis_inside) .none kV_is_inside dc_is_inside pm_is_inside an_is_inside cd_is_inside ct_is_inside
    F_is_inside := fun_mk (st := sis_inside) l_is_inside c_is_inside k_is_inside
    g_is_inside := PySem.W.mg_of X G a_is_inside
    a_meets_of := f_meets_of
    d_meets_of := PySem.W.fnOf "meets_of" "meets_of" (defArgs smeets_of) (defBody smeets_of) (defScope smeets_of) .none kV_meets_of dc_meets_of pm_meets_of an_meets_of cd_meets_of ct_meets_of
    F_meets_of := fun_mk (st := smeets_of) l_meets_of c_meets_of k_meets_of
    g_meets_of := PySem.W.mg_of X G a_meets_of
    a_is_closed_family := f_is_closed_family
    d_is_closed_family := PySem.W.fnOf "is_closed_family" "is_closed_family" (defArgs sis_closed_family) (defBody sis_closed_family) (defScope sis_closed_family) .none kV_is_closed_family dc_is_closed_family pm_is_closed_family an_is_closed_family cd_is_closed_family ct_is_closed_family
    F_is_closed_family := fun_mk (st := sis_closed_family) l_is_closed_family c_is_closed_family k_is_closed_family
    g_is_closed_family := PySem.W.mg_of X G a_is_closed_family
    a_check_closed := f_check_closed
    d_check_closed := PySem.W.fnOf "check_closed" "check_closed" (defArgs scheck_closed) (defBody scheck_closed) (defScope scheck_closed) .none kV_check_closed dc_check_closed pm_check_closed an_check_closed cd_check_closed ct_check_closed
    F_check_closed := fun_mk (st := scheck_closed) l_check_closed c_check_closed k_check_closed
    g_check_closed := PySem.W.mg_of X G a_check_closed
    a_rounds_of := f_rounds_of
    d_rounds_of := PySem.W.fnOf "rounds_of" "rounds_of" (defArgs srounds_of) (defBody srounds_of) (defScope srounds_of) .none kV_rounds_of dc_rounds_of pm_rounds_of an_rounds_of cd_rounds_of ct_rounds_of
    F_rounds_of := fun_mk (st := srounds_of) l_rounds_of c_rounds_of k_rounds_of
    g_rounds_of := PySem.W.mg_of X G a_rounds_of
    a___init__ := f___init__
    d___init__ := PySem.W.fnOf "__init__" "Closer.__init__" (defArgs s__init__) (defBody s__init__) (defScope s__init__) .none kV___init__ dc___init__ pm___init__ an___init__ cd___init__ ct___init__
    F___init__ := fun_mk (st := s__init__) l___init__ c___init__ k___init__
    a_things := f_things
    d_things := PySem.W.fnOf "things" "Closer.things" (defArgs sthings) (defBody sthings) (defScope sthings) .none kV_things dc_things pm_things an_things cd_things ct_things
    F_things := fun_mk (st := sthings) l_things c_things k_things
    a_closed := f_closed
    d_closed := PySem.W.fnOf "closed" "Closer.closed" (defArgs sclosed) (defBody sclosed) (defScope sclosed) .none kV_closed dc_closed pm_closed an_closed cd_closed ct_closed
    F_closed := fun_mk (st := sclosed) l_closed c_closed k_closed
    a_closed_masks := f_closed_masks
    d_closed_masks := PySem.W.fnOf "closed_masks" "closed_masks" (defArgs sclosed_masks) (defBody sclosed_masks) (defScope sclosed_masks) .none kV_closed_masks dc_closed_masks pm_closed_masks an_closed_masks cd_closed_masks ct_closed_masks
    F_closed_masks := fun_mk (st := sclosed_masks) l_closed_masks c_closed_masks k_closed_masks
    g_closed_masks := PySem.W.mg_of X G a_closed_masks
    a_check_closer := f_check_closer
    d_check_closer := PySem.W.fnOf "check_closer" "check_closer" (defArgs scheck_closer) (defBody scheck_closer) (defScope scheck_closer) .none kV_check_closer dc_check_closer pm_check_closer an_check_closer cd_check_closer ct_check_closer
    F_check_closer := fun_mk (st := scheck_closer) l_check_closer c_check_closer k_check_closer
    g_check_closer := PySem.W.mg_of X G a_check_closer
    a_covers_of := f_covers_of
    d_covers_of := PySem.W.fnOf "covers_of" "covers_of" (defArgs scovers_of) (defBody scovers_of) (defScope scovers_of) .none kV_covers_of dc_covers_of pm_covers_of an_covers_of cd_covers_of ct_covers_of
    F_covers_of := fun_mk (st := scovers_of) l_covers_of c_covers_of k_covers_of
    g_covers_of := PySem.W.mg_of X G a_covers_of
    a_span_of := f_span_of
    d_span_of := PySem.W.fnOf "span_of" "span_of" (defArgs sspan_of) (defBody sspan_of) (defScope sspan_of) .none kV_span_of dc_span_of pm_span_of an_span_of cd_span_of ct_span_of
    F_span_of := fun_mk (st := sspan_of) l_span_of c_span_of k_span_of
    g_span_of := PySem.W.mg_of X G a_span_of
    a_root_masks := f_root_masks
    d_root_masks := PySem.W.fnOf "root_masks" "root_masks" (defArgs sroot_masks) (defBody sroot_masks) (defScope sroot_masks) .none kV_root_masks dc_root_masks pm_root_masks an_root_masks cd_root_masks ct_root_masks
    F_root_masks := fun_mk (st := sroot_masks) l_root_masks c_root_masks k_root_masks
    g_root_masks := PySem.W.mg_of X G a_root_masks
    a_roots := f_roots
    d_roots := PySem.W.fnOf "roots" "roots" (defArgs sroots) (defBody sroots) (defScope sroots) .none kV_roots dc_roots pm_roots an_roots cd_roots ct_roots
    F_roots := fun_mk (st := sroots) l_roots c_roots k_roots
    g_roots := PySem.W.mg_of X G a_roots
    a_count_down := f_count_down
    d_count_down := PySem.W.fnOf "count_down" "count_down" (defArgs scount_down) (defBody scount_down) (defScope scount_down) .none kV_count_down dc_count_down pm_count_down an_count_down cd_count_down ct_count_down
    F_count_down := fun_mk (st := scount_down) l_count_down c_count_down k_count_down
    g_count_down := PySem.W.mg_of X G a_count_down
    a_pentagon_masks := f_pentagon_masks
    d_pentagon_masks := PySem.W.fnOf "pentagon_masks" "pentagon_masks" (defArgs spentagon_masks) (defBody spentagon_masks) (defScope spentagon_masks) .none kV_pentagon_masks dc_pentagon_masks pm_pentagon_masks an_pentagon_masks cd_pentagon_masks ct_pentagon_masks
    F_pentagon_masks := fun_mk (st := spentagon_masks) l_pentagon_masks c_pentagon_masks k_pentagon_masks
    g_pentagon_masks := PySem.W.mg_of X G a_pentagon_masks
    a_diamond_lots := f_diamond_lots
    d_diamond_lots := PySem.W.fnOf "diamond_lots" "diamond_lots" (defArgs sdiamond_lots) (defBody sdiamond_lots) (defScope sdiamond_lots) .none kV_diamond_lots dc_diamond_lots pm_diamond_lots an_diamond_lots cd_diamond_lots ct_diamond_lots
    F_diamond_lots := fun_mk (st := sdiamond_lots) l_diamond_lots c_diamond_lots k_diamond_lots
    g_diamond_lots := PySem.W.mg_of X G a_diamond_lots
    a_is_distributive := f_is_distributive
    d_is_distributive := PySem.W.fnOf "is_distributive" "is_distributive" (defArgs sis_distributive) (defBody sis_distributive) (defScope sis_distributive) .none kV_is_distributive dc_is_distributive pm_is_distributive an_is_distributive cd_is_distributive ct_is_distributive
    F_is_distributive := fun_mk (st := sis_distributive) l_is_distributive c_is_distributive k_is_distributive
    g_is_distributive := PySem.W.mg_of X G a_is_distributive
    a__law_well := f__law_well
    d__law_well := PySem.W.fnOf "_law_well" "_law_well" (defArgs s_law_well) (defBody s_law_well) (defScope s_law_well) .none kV__law_well dc__law_well pm__law_well an__law_well cd__law_well ct__law_well
    F__law_well := fun_mk (st := s_law_well) l__law_well c__law_well k__law_well
    g__law_well := PySem.W.mg_of X G a__law_well
    a__law_dip := f__law_dip
    d__law_dip := PySem.W.fnOf "_law_dip" "_law_dip" (defArgs s_law_dip) (defBody s_law_dip) (defScope s_law_dip) .none kV__law_dip dc__law_dip pm__law_dip an__law_dip cd__law_dip ct__law_dip
    F__law_dip := fun_mk (st := s_law_dip) l__law_dip c__law_dip k__law_dip
    g__law_dip := PySem.W.mg_of X G a__law_dip
    a__law_one_of := f__law_one_of
    d__law_one_of := PySem.W.fnOf "_law_one_of" "_law_one_of" (defArgs s_law_one_of) (defBody s_law_one_of) (defScope s_law_one_of) .none kV__law_one_of dc__law_one_of pm__law_one_of an__law_one_of cd__law_one_of ct__law_one_of
    F__law_one_of := fun_mk (st := s_law_one_of) l__law_one_of c__law_one_of k__law_one_of
    g__law_one_of := PySem.W.mg_of X G a__law_one_of
    a__law_whole := f__law_whole
    d__law_whole := PySem.W.fnOf "_law_whole" "_law_whole" (defArgs s_law_whole) (defBody s_law_whole) (defScope s_law_whole) .none kV__law_whole dc__law_whole pm__law_whole an__law_whole cd__law_whole ct__law_whole
    F__law_whole := fun_mk (st := s_law_whole) l__law_whole c__law_whole k__law_whole
    g__law_whole := PySem.W.mg_of X G a__law_whole
    a__law_lot := f__law_lot
    d__law_lot := PySem.W.fnOf "_law_lot" "_law_lot" (defArgs s_law_lot) (defBody s_law_lot) (defScope s_law_lot) .none kV__law_lot dc__law_lot pm__law_lot an__law_lot cd__law_lot ct__law_lot
    F__law_lot := fun_mk (st := s_law_lot) l__law_lot c__law_lot k__law_lot
    g__law_lot := PySem.W.mg_of X G a__law_lot
    a__law_in := f__law_in
    d__law_in := PySem.W.fnOf "_law_in" "_law_in" (defArgs s_law_in) (defBody s_law_in) (defScope s_law_in) .none kV__law_in dc__law_in pm__law_in an__law_in cd__law_in ct__law_in
    F__law_in := fun_mk (st := s_law_in) l__law_in c__law_in k__law_in
    g__law_in := PySem.W.mg_of X G a__law_in
    a__law_both := f__law_both
    d__law_both := PySem.W.fnOf "_law_both" "_law_both" (defArgs s_law_both) (defBody s_law_both) (defScope s_law_both) .none kV__law_both dc__law_both pm__law_both an__law_both cd__law_both ct__law_both
    F__law_both := fun_mk (st := s_law_both) l__law_both c__law_both k__law_both
    g__law_both := PySem.W.mg_of X G a__law_both
    a__law_any := f__law_any
    d__law_any := PySem.W.fnOf "_law_any" "_law_any" (defArgs s_law_any) (defBody s_law_any) (defScope s_law_any) .none kV__law_any dc__law_any pm__law_any an__law_any cd__law_any ct__law_any
    F__law_any := fun_mk (st := s_law_any) l__law_any c__law_any k__law_any
    g__law_any := PySem.W.mg_of X G a__law_any
    a__law_meets := f__law_meets
    d__law_meets := PySem.W.fnOf "_law_meets" "_law_meets" (defArgs s_law_meets) (defBody s_law_meets) (defScope s_law_meets) .none kV__law_meets dc__law_meets pm__law_meets an__law_meets cd__law_meets ct__law_meets
    F__law_meets := fun_mk (st := s_law_meets) l__law_meets c__law_meets k__law_meets
    g__law_meets := PySem.W.mg_of X G a__law_meets
    a__law_round := f__law_round
    d__law_round := PySem.W.fnOf "_law_round" "_law_round" (defArgs s_law_round) (defBody s_law_round) (defScope s_law_round) .none kV__law_round dc__law_round pm__law_round an__law_round cd__law_round ct__law_round
    F__law_round := fun_mk (st := s_law_round) l__law_round c__law_round k__law_round
    g__law_round := PySem.W.mg_of X G a__law_round
    a__law_family := f__law_family
    d__law_family := PySem.W.fnOf "_law_family" "_law_family" (defArgs s_law_family) (defBody s_law_family) (defScope s_law_family) .none kV__law_family dc__law_family pm__law_family an__law_family cd__law_family ct__law_family
    F__law_family := fun_mk (st := s_law_family) l__law_family c__law_family k__law_family
    g__law_family := PySem.W.mg_of X G a__law_family
    a__law_lots := f__law_lots
    d__law_lots := PySem.W.fnOf "_law_lots" "_law_lots" (defArgs s_law_lots) (defBody s_law_lots) (defScope s_law_lots) .none kV__law_lots dc__law_lots pm__law_lots an__law_lots cd__law_lots ct__law_lots
    F__law_lots := fun_mk (st := s_law_lots) l__law_lots c__law_lots k__law_lots
    g__law_lots := PySem.W.mg_of X G a__law_lots
    a__law_roots := f__law_roots
    d__law_roots := PySem.W.fnOf "_law_roots" "_law_roots" (defArgs s_law_roots) (defBody s_law_roots) (defScope s_law_roots) .none kV__law_roots dc__law_roots pm__law_roots an__law_roots cd__law_roots ct__law_roots
    F__law_roots := fun_mk (st := s_law_roots) l__law_roots c__law_roots k__law_roots
    g__law_roots := PySem.W.mg_of X G a__law_roots
    a__law_downs := f__law_downs
    d__law_downs := PySem.W.fnOf "_law_downs" "_law_downs" (defArgs s_law_downs) (defBody s_law_downs) (defScope s_law_downs) .none kV__law_downs dc__law_downs pm__law_downs an__law_downs (.ref c_downs) ct__law_downs
    F__law_downs := fun_mk (st := s_law_downs) l__law_downs c__law_downs k__law_downs
    g__law_downs := PySem.W.mg_of X G a__law_downs
    a__law_right := f__law_right
    d__law_right := PySem.W.fnOf "_law_right" "_law_right" (defArgs s_law_right) (defBody s_law_right) (defScope s_law_right) .none kV__law_right dc__law_right pm__law_right an__law_right cd__law_right ct__law_right
    F__law_right := fun_mk (st := s_law_right) l__law_right c__law_right k__law_right
    g__law_right := PySem.W.mg_of X G a__law_right
    a_law := f_law
    d_law := PySem.W.fnOf "law" "law" (defArgs slaw) (defBody slaw) (defScope slaw) .none kV_law dc_law pm_law an_law cd_law ct_law
    F_law := fun_mk (st := slaw) l_law c_law k_law
    g_law := PySem.W.mg_of X G a_law
    n_abs := PySem.W.mg_none_of X G z_abs
    n_all := PySem.W.mg_none_of X G z_all
    n_any := PySem.W.mg_none_of X G z_any
    n_divmod := PySem.W.mg_none_of X G z_divmod
    n_int := PySem.W.mg_none_of X G z_int
    n_isinstance := PySem.W.mg_none_of X G z_isinstance
    n_len := PySem.W.mg_none_of X G z_len
    n_list := PySem.W.mg_none_of X G z_list
    n_max := PySem.W.mg_none_of X G z_max
    n_min := PySem.W.mg_none_of X G z_min
    n_range := PySem.W.mg_none_of X G z_range
    n_repr := PySem.W.mg_none_of X G z_repr
    n_set := PySem.W.mg_none_of X G z_set
    n_sorted := PySem.W.mg_none_of X G z_sorted
    n_str := PySem.W.mg_none_of X G z_str
    n_sum := PySem.W.mg_none_of X G z_sum
    n_tuple := PySem.W.mg_none_of X G z_tuple
    C := C
    cl := cl
    mkC := ⟨mk, a___init__, i_init, kc⟩
    insC := ⟨cl, ha, hn, htk, hm, me⟩
    g_Closer := PySem.W.mg_of X G aC
    na_letters := nl
    na_family := nf
    na_table := nt
    pa_things := q_things
    pa_closed := q_closed
    p_things := ⟨pat_things, pge_things, pta_things, _, pre_things⟩
    p_closed := ⟨pat_closed, pge_closed, pta_closed, _, pre_closed⟩
    g_LETTERS := ⟨_, PySem.W.mg_of X G gl⟩
    g_MOST := ⟨_, PySem.W.mg_of X G gm⟩ }
  let B : Tb D := { c := c_downs, P := P_downs, fc := ⟨_, _, _, _, _, _, _, _, rfl, l__law_downs, c__law_downs⟩ }
  exact ⟨D.d_law, c_downs, P_downs, splaw K C P_downs, hP, nT, PySem.W.codeHd_of_K X cdh, fun s u => .of_eq rfl, fun H a ns hl h1 h2 => ⟨(a, ns), rfl, ⟨h2, Nat.lt_of_le_of_lt hl (by decide), LamX.TabS.nil h1⟩, fun _ => rfl⟩, fun base _ _ TB => oklaw D B TB CH⟩
end K31

set_option Elab.async false
set_option linter.all false
set_option maxRecDepth 100000
set_option maxHeartbeats 4000000
/-! The table of rounds is the round of each lot. -/
namespace K31
theorem inc_bits {a b : Nat} : inc a b = true ↔ ∀ k, a.testBit k = true → b.testBit k = true := by
  unfold inc
  rw [beq_iff_eq]
  constructor
  · intro h k hk
    have := congrArg (fun x => x.testBit k) h
    simp only [Nat.testBit_and, hk, Bool.true_and] at this
    exact this
  · intro h
    refine Nat.eq_of_testBit_eq fun k => ?_
    rw [Nat.testBit_and]
    cases e : a.testBit k with
    | false => rfl
    | true => rw [h k e]; rfl
theorem rnd_bit (x b : Nat) : ∀ (F : List Nat) (a : Nat), (F.foldl (rndStep x) a).testBit b = (a.testBit b && F.all fun f => !inc x f || f.testBit b)
  | [], a => by rw [List.foldl_nil, List.all_nil, Bool.and_true]
  | f :: F, a => by
    rw [List.foldl_cons, rnd_bit x b F, List.all_cons, ← Bool.and_assoc]
    congr 1
    unfold rndStep
    cases inc x f with
    | true => simp [Nat.testBit_and]
    | false => simp
theorem getD_set {t : List Nat} {m v y : Nat} (hm : m < t.length) : (t.set m v).getD y 0 = if y = m then v else t.getD y 0 := by
  rw [List.getD_eq_getElem?_getD, List.getD_eq_getElem?_getD, List.getElem?_set]
  by_cases h : m = y
  · subst h
    rw [if_pos rfl, if_pos rfl, if_pos hm]
    rfl
  · rw [if_neg h, if_neg (fun e => h e.symm)]
theorem bit_zero {m k : Nat} : m / 2 ^ k % 2 = 0 ↔ m.testBit k = false := by
  rw [Nat.testBit_eq_decide_div_mod_eq, decide_eq_false_iff_not]
  omega
theorem or_ne {m k : Nat} (h : m.testBit k = false) : m ||| 2 ^ k ≠ m := fun e => by
  have := congrArg (fun x => x.testBit k) e
  simp [Nat.testBit_or, h, Nat.testBit_two_pow_self] at this
theorem inner_fold {m : Nat} (b : Nat) : ∀ (l : List Nat) (t : List Nat), m < t.length → (l.foldl (tblIn m) t).length = t.length ∧ (∀ y, y ≠ m → (l.foldl (tblIn m) t).getD y 0 = t.getD y 0) ∧
    ((l.foldl (tblIn m) t).getD m 0).testBit b = ((t.getD m 0).testBit b && l.all fun k => m.testBit k || (t.getD (m ||| 2 ^ k) 0).testBit b)
  | [], t, _ => ⟨rfl, fun _ _ => rfl, by rw [List.foldl_nil, List.all_nil, Bool.and_true]⟩
  | k :: l, t, hm => by
    have hl := tblIn_len m t k
    obtain ⟨h1, h2, h3⟩ := inner_fold b l (tblIn m t k) (by rw [hl]; exact hm)
    have oth : ∀ y, y ≠ m → (tblIn m t k).getD y 0 = t.getD y 0 := fun y hy => by
      unfold tblIn
      split
      · rw [getD_set hm, if_neg hy]
      · rfl
    have same : ((tblIn m t k).getD m 0).testBit b = ((t.getD m 0).testBit b && (m.testBit k || (t.getD (m ||| 2 ^ k) 0).testBit b)) := by
      unfold tblIn
      cases e : m.testBit k with
      | false => rw [if_pos (bit_zero.mpr e), getD_set hm, if_pos rfl, Nat.testBit_and, Bool.false_or]
      | true => rw [if_neg (fun z => by rw [bit_zero.mp z] at e; cases e), Bool.true_or, Bool.and_true]
    refine ⟨h1.trans hl, fun y hy => (h2 y hy).trans (oth y hy), ?_⟩
    rw [List.foldl_cons, h3, same, List.all_cons, Bool.and_assoc]
    congr 2
    refine List.all_congr rfl fun k' => ?_
    cases e : m.testBit k' with
    | true => rfl
    | false => rw [oth _ (or_ne e)]
theorem whole_bit {n b : Nat} : (2 ^ n - 1).testBit b = decide (b < n) := Nat.testBit_two_pow_sub_one n b
theorem bit_lt {f n k : Nat} (hf : f < 2 ^ n) (h : f.testBit k = true) : k < n := Classical.byContradiction fun z => by
  rw [Nat.testBit_lt_two_pow (Nat.lt_of_lt_of_le hf (Nat.pow_le_pow_right (by decide) (Nat.le_of_not_lt z)))] at h
  cases h
theorem inc_self (m : Nat) : inc m m = true := inc_bits.mpr fun _ h => h
theorem rnd_self {n m : Nat} {F : List Nat} (hF : ∀ f ∈ F, f < 2 ^ n) (hm : m ∈ F) : rndM n F m = m := by
  refine Nat.eq_of_testBit_eq fun b => ?_
  unfold rndM
  rw [rnd_bit, Bool.eq_iff_iff, Bool.and_eq_true, List.all_eq_true]
  constructor
  · rintro ⟨_, h⟩
    have := h m hm
    rw [inc_self] at this
    simpa using this
  · intro h
    refine ⟨by rw [whole_bit]; exact decide_eq_true (bit_lt (hF m hm) h), fun f _ => ?_⟩
    cases e : inc m f with
    | false => rfl
    | true => rw [inc_bits.mp e b h]; rfl
theorem rnd_up {n m : Nat} {F : List Nat} (hF : ∀ f ∈ F, f < 2 ^ n) (hm : m ∉ F) (b : Nat) : (rndM n F m).testBit b = ((2 ^ n - 1).testBit b && (List.range n).all fun k => m.testBit k || (rndM n F (m ||| 2 ^ k)).testBit b) := by
  unfold rndM
  rw [rnd_bit, Bool.eq_iff_iff, Bool.and_eq_true, Bool.and_eq_true, List.all_eq_true, List.all_eq_true]
  constructor
  · rintro ⟨h1, h2⟩
    refine ⟨h1, fun k _ => ?_⟩
    cases e : m.testBit k with
    | true => rfl
    | false =>
      rw [Bool.false_or, rnd_bit, h1, Bool.true_and, List.all_eq_true]
      intro f hf
      have := h2 f hf
      cases e2 : inc (m ||| 2 ^ k) f with
      | false => rfl
      | true =>
        have h3 : inc m f = true := inc_bits.mpr fun j hj => inc_bits.mp e2 j (by rw [Nat.testBit_or, hj]; rfl)
        rw [h3] at this
        simpa using this
  · rintro ⟨h1, h2⟩
    refine ⟨h1, fun f hf => ?_⟩
    cases e : inc m f with
    | false => rfl
    | true =>
      have hne : f ≠ m := fun z => hm (z ▸ hf)
      have hk : ∃ k, f.testBit k = true ∧ m.testBit k = false := Classical.byContradiction fun z => hne (Nat.eq_of_testBit_eq fun k => by
        cases e1 : f.testBit k with
        | true =>
          cases e2 : m.testBit k with
          | true => rfl
          | false => exact absurd ⟨k, e1, e2⟩ z
        | false =>
          cases e2 : m.testBit k with
          | false => rfl
          | true => rw [inc_bits.mp e k e2] at e1; cases e1)
      obtain ⟨k, e1, e2⟩ := hk
      have h3 := h2 k (List.mem_range.mpr (bit_lt (hF f hf) e1))
      rw [e2, Bool.false_or, rnd_bit, Bool.and_eq_true, List.all_eq_true] at h3
      have h4 := h3.2 f hf
      have h5 : inc (m ||| 2 ^ k) f = true := inc_bits.mpr fun j hj => by
        rw [Nat.testBit_or, Bool.or_eq_true] at hj
        rcases hj with hj | hj
        · exact inc_bits.mp e j hj
        · rw [Nat.testBit_two_pow, decide_eq_true_eq] at hj
          rw [← hj]
          exact e1
      rw [h5] at h4
      simpa using h4
theorem tbl_steps {n : Nat} {F : List Nat} (hF : ∀ f ∈ F, f < 2 ^ n) : ∀ i, i ≤ 2 ^ n → ∀ y, y < 2 ^ n →
    (((tblIx n).take i).foldl (tblStep n F) (List.replicate (2 ^ n) (2 ^ n - 1))).getD y 0 = if 2 ^ n - i ≤ y then rndM n F y else 2 ^ n - 1
  | 0, _, y, hy => by
    rw [List.take_zero, List.foldl_nil, if_neg (by omega), List.getD_eq_getElem?_getD, List.getElem?_replicate, if_pos hy]
    rfl
  | i + 1, hi, y, hy => by
    have ih := tbl_steps hF i (by omega)
    have hix := tblIx_at (n := n) (i := i) (by omega)
    have hlen : (((tblIx n).take i).foldl (tblStep n F) (List.replicate (2 ^ n) (2 ^ n - 1))).length = 2 ^ n := by rw [foldl_len (tblStep_len n F), List.length_replicate]
    rw [foldl_take hix]
    generalize ((tblIx n).take i).foldl (tblStep n F) (List.replicate (2 ^ n) (2 ^ n - 1)) = t at ih hlen
    have hmm : 2 ^ n - 1 - i < 2 ^ n := by omega
    generalize hm : 2 ^ n - 1 - i = m at hmm
    have oth : ∀ v : Nat, y ≠ m → (if 2 ^ n - (i + 1) ≤ y then rndM n F y else 2 ^ n - 1) = if 2 ^ n - i ≤ y then rndM n F y else 2 ^ n - 1 := fun v hne => by
      by_cases h : 2 ^ n - i ≤ y
      · rw [if_pos h, if_pos (by omega)]
      · rw [if_neg h, if_neg (by omega)]
    unfold tblStep
    by_cases hmF : m ∈ F
    · rw [if_pos (decide_eq_true hmF), getD_set (by omega)]
      by_cases hy2 : y = m
      · rw [if_pos hy2, hy2, if_pos (by omega), rnd_self hF hmF]
      · rw [if_neg hy2, ih y hy, oth 0 hy2]
    · rw [if_neg (by simpa using hmF)]
      by_cases hy2 : y = m
      · rw [hy2, if_pos (by omega)]
        refine Nat.eq_of_testBit_eq fun b => ?_
        obtain ⟨_, _, h3⟩ := inner_fold (m := m) b (List.range n) t (by omega)
        rw [h3, rnd_up hF hmF, ih m hmm, if_neg (by omega)]
        congr 1
        rw [Bool.eq_iff_iff, List.all_eq_true, List.all_eq_true]
        have key : ∀ k ∈ List.range n, (m.testBit k || (t.getD (m ||| 2 ^ k) 0).testBit b) = (m.testBit k || (rndM n F (m ||| 2 ^ k)).testBit b) := fun k hk => by
          cases e : m.testBit k with
          | true => rfl
          | false =>
            have h1 := bit_or_lt hmm (List.mem_range.mp hk)
            have h2 : m ≤ m ||| 2 ^ k := Nat.left_le_or
            have h4 := or_ne e
            rw [ih _ h1, if_pos (by omega)]
        exact ⟨fun h k hk => by rw [← key k hk]; exact h k hk, fun h k hk => by rw [key k hk]; exact h k hk⟩
      · obtain ⟨_, h2, _⟩ := inner_fold (m := m) 0 (List.range n) t (by omega)
        rw [h2 y hy2, ih y hy, oth 0 hy2]
theorem tbl_rnd {n : Nat} {F : List Nat} (hF : ∀ f ∈ F, f < 2 ^ n) {y : Nat} (hy : y < 2 ^ n) : (tbl n F).getD y 0 = rndM n F y := by
  have h := tbl_steps hF (2 ^ n) (Nat.le_refl _) y hy
  rw [if_pos (by omega), List.take_of_length_le (by unfold tblIx; rw [List.length_map, List.length_range]; exact Nat.le_refl _)] at h
  exact h
end K31

set_option Elab.async false
set_option linter.all false
set_option maxRecDepth 1000000
set_option maxHeartbeats 0
namespace K31
/-- every closed family, by its lots from the largest mask down: what the larger ones force is in -/
def forced (m : Nat) (C : List Nat) : Bool := C.any fun a => C.any fun b => a &&& b == m
def enumAll (p : List Nat → Bool) : Nat → List Nat → Bool
  | 0, C => p C
  | m + 1, C => if forced m C = true then enumAll p m (m :: C) else enumAll p m C && enumAll p m (m :: C)
theorem enum_sound {p : List Nat → Bool} {n : Nat} {X : List Nat} (c : Cl n X) (hX : ∀ m ∈ X, m < 2 ^ n) : ∀ (m : Nat) (C : List Nat), (∀ x, x ∈ C ↔ x ∈ X ∧ m ≤ x) → enumAll p m C = true → ∃ C', (∀ x, x ∈ C' ↔ x ∈ X) ∧ p C' = true
  | 0, C, h, hp => ⟨C, fun x => (h x).trans ⟨fun z => z.1, fun z => ⟨z, Nat.zero_le _⟩⟩, hp⟩
  | m + 1, C, h, hp => by
    have yes : m ∈ X → ∀ x, x ∈ m :: C ↔ x ∈ X ∧ m ≤ x := fun hm x => by
      rw [List.mem_cons, h]
      refine ⟨fun z => ?_, fun z => ?_⟩
      · rcases z with rfl | z
        · exact ⟨hm, Nat.le_refl _⟩
        · exact ⟨z.1, by omega⟩
      · by_cases e : x = m
        · exact .inl e
        · exact .inr ⟨z.1, by omega⟩
    have no : m ∉ X → ∀ x, x ∈ C ↔ x ∈ X ∧ m ≤ x := fun hm x => by
      rw [h]
      refine ⟨fun z => ⟨z.1, by omega⟩, fun z => ⟨z.1, ?_⟩⟩
      have : x ≠ m := fun e => hm (e ▸ z.1)
      omega
    unfold enumAll at hp
    by_cases hf : forced m C = true
    · rw [if_pos hf] at hp
      have hm : m ∈ X := by
        obtain ⟨a, ha, h1⟩ := List.any_eq_true.mp hf
        obtain ⟨b, hb, h2⟩ := List.any_eq_true.mp h1
        have := c.meet a ((h a).mp ha).1 b ((h b).mp hb).1
        rw [beq_iff_eq.mp h2] at this
        exact this
      exact enum_sound c hX m _ (yes hm) hp
    · rw [if_neg hf, Bool.and_eq_true] at hp
      by_cases hm : m ∈ X
      · exact enum_sound c hX m _ (yes hm) hp.2
      · exact enum_sound c hX m _ (no hm) hp.1
theorem srt_congr {n : Nat} {X Y : List Nat} (h : ∀ x, x ∈ X ↔ x ∈ Y) : srt n X = srt n Y := by
  unfold srt
  refine List.filter_congr fun m _ => ?_
  rw [decide_eq_decide]
  exact h m
theorem all_fams {n : Nat} {p : List Nat → Bool} (h : enumAll p (2 ^ n - 1) [2 ^ n - 1] = true) {F : List Nat} (g : Gd n F) : ∃ C, F = srt n C ∧ Cl n C ∧ (∀ m ∈ C, m < 2 ^ n) ∧ p C = true := by
  obtain ⟨X, c, hX, rfl⟩ := g
  obtain ⟨C, h1, h2⟩ := enum_sound c hX (2 ^ n - 1) [2 ^ n - 1] (fun x => by
    rw [List.mem_singleton]
    refine ⟨fun e => ⟨e ▸ c.whole, by omega⟩, fun z => ?_⟩
    have := hX x z.1
    omega) h
  exact ⟨C, srt_congr fun x => (h1 x).symm, ⟨(h1 _).mpr c.whole, fun a ha b hb => (h1 _).mpr (c.meet a ((h1 a).mp ha) b ((h1 b).mp hb))⟩, fun m hm => hX m ((h1 m).mp hm), h2⟩
/-! ### the same, quicker to compute -/
def clF (n : Nat) (F : List Nat) : List Nat := (List.range (2 ^ n)).filter fun m => rndM n F m == m
def rootL (cl : List Nat) : List Nat := cl.filter fun m => (((cl.filter fun e => !(e == m) && inc e m).filter fun e => !(cl.filter fun e => !(e == m) && inc e m).any fun o => !(e == o) && inc e o).length == 1)
def keyF (n : Nat) (F : List Nat) (a b : Nat) : Nat × Nat := (a &&& b, rndM n F (a ||| b))
def eqP (a b : Nat × Nat) : Bool := a.1 == b.1 && a.2 == b.2
def pentF (n : Nat) (F cl : List Nat) : Bool := cl.all fun mid => cl.all fun low => cl.all fun e => !((!(e == low) && inc low e) && eqP (keyF n F e mid) (keyF n F low mid))
def diaAtF (n : Nat) (F : List Nat) (i j k : Nat) : Bool := eqP (keyF n F (F.getD i 0) (F.getD k 0)) (keyF n F (F.getD i 0) (F.getD j 0)) && eqP (keyF n F (F.getD k 0) (F.getD j 0)) (keyF n F (F.getD i 0) (F.getD j 0))
def diaF (n : Nat) (F : List Nat) : Bool := (List.range F.length).all fun i => (List.range' (i + 1) (F.length - (i + 1))).all fun j => (List.range' (i + 1) (j - (i + 1))).all fun k => !diaAtF n F i j k
theorem dec_beq (a b : Nat) : decide (a = b) = (a == b) := by
  rw [Bool.eq_iff_iff, decide_eq_true_eq, beq_iff_eq]
theorem eqP_eq (a b : Nat × Nat) : decide (a = b) = eqP a b := by
  unfold eqP
  rw [Bool.eq_iff_iff, decide_eq_true_eq, Bool.and_eq_true, beq_iff_eq, beq_iff_eq, Prod.ext_iff]
theorem all_on {l : List Nat} {p q : Nat → Bool} (h : ∀ x ∈ l, p x = q x) : l.all p = l.all q := by
  rw [Bool.eq_iff_iff, List.all_eq_true, List.all_eq_true]
  exact ⟨fun z x hx => h x hx ▸ z x hx, fun z x hx => (h x hx).symm ▸ z x hx⟩
section
variable {n : Nat} {F : List Nat}
theorem clF_eq (hF : ∀ f ∈ F, f < 2 ^ n) : clM n F = clF n F := by
  unfold clM clF
  refine List.filter_congr fun m hm => ?_
  rw [tbl_rnd hF (List.mem_range.mp hm), dec_beq]
theorem root_eq (hF : ∀ f ∈ F, f < 2 ^ n) : rootM n F = rootL (clF n F) := by
  unfold rootM rootL covM undM
  rw [clF_eq hF]
  simp only [dec_beq]
theorem keyM_eq (hF : ∀ f ∈ F, f < 2 ^ n) {a b : Nat} (ha : a < 2 ^ n) (hb : b < 2 ^ n) : keyM n F b a = keyF n F a b := by
  unfold keyM keyF
  rw [tbl_rnd hF (Nat.or_lt_two_pow ha hb)]
theorem pent_eq (hF : ∀ f ∈ F, f < 2 ^ n) : pentN n F = pentF n F (clF n F) := by
  unfold pentN pentF
  rw [← clF_eq hF]
  refine all_on fun mid hm => ?_
  unfold pentOk
  refine all_on fun low hl => all_on fun e he => ?_
  rw [keyM_eq hF (clM_lt he) (clM_lt hm), keyM_eq hF (clM_lt hl) (clM_lt hm), eqP_eq, dec_beq, Bool.and_comm]
theorem getD_lt_of (hF : ∀ f ∈ F, f < 2 ^ n) (i : Nat) : F.getD i 0 < 2 ^ n := by
  rw [List.getD_eq_getElem?_getD]
  cases e : F[i]? with
  | none => exact Nat.pow_pos (by decide)
  | some x => exact hF x (List.mem_of_getElem? e)
theorem dia_eq (hF : ∀ f ∈ F, f < 2 ^ n) : diaN n F = diaF n F := by
  have kd : ∀ i j, keyD n F i j = keyF n F (F.getD i 0) (F.getD j 0) := fun i j => by
    unfold keyD keyF
    rw [tbl_rnd hF (Nat.or_lt_two_pow (getD_lt_of hF i) (getD_lt_of hF j))]
  unfold diaN diaF
  refine all_on fun i _ => ?_
  unfold diaOk
  refine all_on fun j _ => all_on fun k _ => ?_
  unfold diaAt diaAtF
  rw [kd, kd, kd, eqP_eq, eqP_eq]
def chkI (n : Nat) (F cl Q : List Nat) (d c : Nat) : Bool := (c == d) && Nat.ble F.length d && ((pentF n F cl && diaF n F) == (d == F.length)) && F.all fun e => rndM n F (hdM (Q.filter fun x => inc x e)) == e
def chkH (n : Nat) (F cl R Q : List Nat) : Bool := decide (srt n R = Q) && decide (R.length ≤ 10) && chkI n F cl Q (dwM n Q) (cdM R)
def chkG (n : Nat) (F cl : List Nat) : Bool := chkH n F cl (rootL cl) (rtL n F)
def chkF (n : Nat) (F : List Nat) : Bool := chkG n F (clF n F)
theorem chk_of {n : Nat} {F : List Nat} (hF : ∀ f ∈ F, f < 2 ^ n) (h : chkF n F = true) : Chk n F := by
  unfold chkF chkG chkH chkI at h
  rw [← root_eq hF, ← pent_eq hF, ← dia_eq hF] at h
  simp only [Bool.and_eq_true, decide_eq_true_eq, beq_iff_eq, List.all_eq_true, Nat.ble_eq] at h
  obtain ⟨⟨h1, h2⟩, ⟨⟨h3, h4⟩, h5⟩, h6⟩ := h
  refine ⟨h1, h2, ?_, h3, h4, by rw [h5, dec_beq], h6⟩
  have nd : (srt n (rootM n F)).Nodup := List.Nodup.sublist List.filter_sublist (lexO_nodup n)
  have := List.Nodup.length_le_of_subset nd (l₂ := rootM n F) fun x hx => (mem_srt.mp hx).2
  rw [h1] at this
  omega
end
theorem fin1 : enumAll (fun C => chkF 1 (srt 1 C)) (2 ^ 1 - 1) [2 ^ 1 - 1] = true := by decide +kernel
theorem fin2 : enumAll (fun C => chkF 2 (srt 2 C)) (2 ^ 2 - 1) [2 ^ 2 - 1] = true := by decide +kernel
theorem fin3 : enumAll (fun C => chkF 3 (srt 3 C)) (2 ^ 3 - 1) [2 ^ 3 - 1] = true := by decide +kernel
/-- the tree of families cut at a mask -/
def sts : Nat → Nat → List Nat → List (List Nat)
  | 0, _, C => [C]
  | _ + 1, 0, C => [C]
  | k + 1, m + 1, C => if forced m C = true then sts k m (m :: C) else sts k m C ++ sts k m (m :: C)
theorem sts_all (p : List Nat → Bool) : ∀ (k m : Nat) (C : List Nat), k ≤ m → enumAll p m C = (sts k m C).all (enumAll p (m - k))
  | 0, m, C, _ => by show _ = [C].all _; simp
  | k + 1, 0, _, h => by omega
  | k + 1, m + 1, C, h => by
    have e : m + 1 - (k + 1) = m - k := by omega
    rw [e]
    unfold enumAll sts
    by_cases hf : forced m C = true
    · rw [if_pos hf, if_pos hf, sts_all p k m _ (by omega)]
    · rw [if_neg hf, if_neg hf, List.all_append, sts_all p k m _ (by omega), sts_all p k m _ (by omega)]
theorem all_parts {l : List (List Nat)} {q : List Nat → Bool} (w K : Nat) (hw : 0 < w) (h : ∀ i, i < K → ((l.drop (i * w)).take w).all q = true) (hl : l.length ≤ K * w) : l.all q = true := by
  refine List.all_eq_true.mpr fun x hx => ?_
  obtain ⟨j, hj, rfl⟩ := List.getElem_of_mem hx
  have hi : j / w < K := (Nat.div_lt_iff_lt_mul hw).mpr (by omega)
  refine List.all_eq_true.mp (h (j / w) hi) _ ?_
  have h1 := Nat.div_add_mod j w
  have h2 := Nat.mod_lt j hw
  have h3 : j / w * w + j % w = j := by rw [Nat.mul_comm]; exact h1
  refine List.mem_of_getElem? (i := j % w) ?_
  rw [List.getElem?_take_of_lt h2, List.getElem?_drop, h3, List.getElem?_eq_getElem hj]
abbrev part4 (i : Nat) : Bool := (((sts 8 15 [15]).drop (i * 6)).take 6).all (enumAll (fun C => chkF 4 (srt 4 C)) 7)
theorem part4_0 : part4 0 = true := by decide +kernel
theorem part4_1 : part4 1 = true := by decide +kernel
theorem part4_2 : part4 2 = true := by decide +kernel
theorem part4_3 : part4 3 = true := by decide +kernel
theorem part4_4 : part4 4 = true := by decide +kernel
theorem part4_5 : part4 5 = true := by decide +kernel
theorem part4_6 : part4 6 = true := by decide +kernel
theorem part4_7 : part4 7 = true := by decide +kernel
theorem part4_8 : part4 8 = true := by decide +kernel
theorem part4_9 : part4 9 = true := by decide +kernel
theorem part4_10 : part4 10 = true := by decide +kernel
theorem part4_11 : part4 11 = true := by decide +kernel
theorem part4_12 : part4 12 = true := by decide +kernel
theorem part4_13 : part4 13 = true := by decide +kernel
theorem part4_14 : part4 14 = true := by decide +kernel
theorem part4_15 : part4 15 = true := by decide +kernel
theorem part4_16 : part4 16 = true := by decide +kernel
theorem part4_17 : part4 17 = true := by decide +kernel
theorem part4_18 : part4 18 = true := by decide +kernel
theorem part4_19 : part4 19 = true := by decide +kernel
theorem part4_20 : part4 20 = true := by decide +kernel
theorem sts_len : (sts 8 15 [15]).length ≤ 21 * 6 := by decide +kernel
theorem fin4 : enumAll (fun C => chkF 4 (srt 4 C)) (2 ^ 4 - 1) [2 ^ 4 - 1] = true := by
  show enumAll (fun C => chkF 4 (srt 4 C)) 15 [15] = true
  rw [sts_all _ 8 15 [15] (by decide)]
  refine all_parts 6 21 (by decide) (fun i hi => ?_) sts_len
  match i, hi with
  | 0, _ => exact part4_0
  | 1, _ => exact part4_1
  | 2, _ => exact part4_2
  | 3, _ => exact part4_3
  | 4, _ => exact part4_4
  | 5, _ => exact part4_5
  | 6, _ => exact part4_6
  | 7, _ => exact part4_7
  | 8, _ => exact part4_8
  | 9, _ => exact part4_9
  | 10, _ => exact part4_10
  | 11, _ => exact part4_11
  | 12, _ => exact part4_12
  | 13, _ => exact part4_13
  | 14, _ => exact part4_14
  | 15, _ => exact part4_15
  | 16, _ => exact part4_16
  | 17, _ => exact part4_17
  | 18, _ => exact part4_18
  | 19, _ => exact part4_19
  | 20, _ => exact part4_20
  | i + 21, h => omega
theorem CH : ∀ n F, 1 ≤ n → n ≤ 4 → Gd n F → Chk n F := fun n F h1 h4 g => by
  have hn : n = 1 ∨ n = 2 ∨ n = 3 ∨ n = 4 := by omega
  rcases hn with rfl | rfl | rfl | rfl
  · obtain ⟨C, rfl, _, _, h⟩ := all_fams fin1 g
    exact chk_of (fun f hf => (mem_srt.mp hf).1) h
  · obtain ⟨C, rfl, _, _, h⟩ := all_fams fin2 g
    exact chk_of (fun f hf => (mem_srt.mp hf).1) h
  · obtain ⟨C, rfl, _, _, h⟩ := all_fams fin3 g
    exact chk_of (fun f hf => (mem_srt.mp hf).1) h
  · obtain ⟨C, rfl, _, _, h⟩ := all_fams fin4 g
    exact chk_of (fun f hf => (mem_srt.mp hf).1) h
end K31

set_option maxHeartbeats 0
set_option maxRecDepth 100000
open PySem PySem.W PyProof.Rows in
open_top head for PySem.Challenge.rw_closerworks_k31_whole_roots_and_lots_of
open PySem PySem.W PyProof.Rows
set_option maxRecDepth 100000 in
set_option maxHeartbeats 0 in
theorem PySem.Challenge.cw_closerworks_k31_whole_roots_and_lots_of_holds : PySem.Challenge.rw_closerworks_k31_whole_roots_and_lots_of.Holds := by
  refine head ?_
  refine K31.walk_endG (l := PySem.Challenge.rw_closerworks_k31_whole_roots_and_lots_of) (n := 63) (k := 9) (x := Str.ofString "_law_script") rfl (by decide) rfl ⟨rfl, by decide, by decide⟩ (fun w h Y => PySem.W.km_in_of Y) ?F
  case F =>
    intro w mg fa h Y X G hmg
    have hP := PySem.W.km_tabs_of Y _ (List.mem_singleton.mpr rfl)
    refine' K31.all_mk X G hmg hP ?aC ?a_is_letter ?l_is_letter ?c_is_letter ?k_is_letter ?a_is_rising ?l_is_rising ?c_is_rising ?k_is_rising ?a_are_things ?l_are_things ?c_are_things ?k_are_things ?a_check_things ?l_check_things ?c_check_things ?k_check_things ?a_is_lot ?l_is_lot ?c_is_lot ?k_is_lot ?a_wrong_in_family ?l_wrong_in_family ?c_wrong_in_family ?k_wrong_in_family ?a_mask_of ?l_mask_of ?c_mask_of ?k_mask_of ?a_lot_of ?l_lot_of ?c_lot_of ?k_lot_of ?a_whole_of ?l_whole_of ?c_whole_of ?k_whole_of ?a_masks_of ?l_masks_of ?c_masks_of ?k_masks_of ?a_family_of ?l_family_of ?c_family_of ?k_family_of ?a_is_inside ?l_is_inside ?c_is_inside ?k_is_inside ?a_meets_of ?l_meets_of ?c_meets_of ?k_meets_of ?a_is_closed_family ?l_is_closed_family ?c_is_closed_family ?k_is_closed_family ?a_check_closed ?l_check_closed ?c_check_closed ?k_check_closed ?a_rounds_of ?l_rounds_of ?c_rounds_of ?k_rounds_of ?a___init__ ?l___init__ ?c___init__ ?k___init__ ?pat_things ?pre_things ?pge_things ?pta_things ?l_things ?c_things ?k_things ?pat_closed ?pre_closed ?pge_closed ?pta_closed ?l_closed ?c_closed ?k_closed ?a_closed_masks ?l_closed_masks ?c_closed_masks ?k_closed_masks ?a_check_closer ?l_check_closer ?c_check_closer ?k_check_closer ?a_covers_of ?l_covers_of ?c_covers_of ?k_covers_of ?a_span_of ?l_span_of ?c_span_of ?k_span_of ?a_root_masks ?l_root_masks ?c_root_masks ?k_root_masks ?a_roots ?l_roots ?c_roots ?k_roots ?a_count_down ?l_count_down ?c_count_down ?k_count_down ?a_pentagon_masks ?l_pentagon_masks ?c_pentagon_masks ?k_pentagon_masks ?a_diamond_lots ?l_diamond_lots ?c_diamond_lots ?k_diamond_lots ?a_is_distributive ?l_is_distributive ?c_is_distributive ?k_is_distributive ?a__law_well ?l__law_well ?c__law_well ?k__law_well ?a__law_dip ?l__law_dip ?c__law_dip ?k__law_dip ?a__law_one_of ?l__law_one_of ?c__law_one_of ?k__law_one_of ?a__law_whole ?l__law_whole ?c__law_whole ?k__law_whole ?a__law_lot ?l__law_lot ?c__law_lot ?k__law_lot ?a__law_in ?l__law_in ?c__law_in ?k__law_in ?a__law_both ?l__law_both ?c__law_both ?k__law_both ?a__law_any ?l__law_any ?c__law_any ?k__law_any ?a__law_meets ?l__law_meets ?c__law_meets ?k__law_meets ?a__law_round ?l__law_round ?c__law_round ?k__law_round ?a__law_family ?l__law_family ?c__law_family ?k__law_family ?a__law_lots ?l__law_lots ?c__law_lots ?k__law_lots ?a__law_roots ?l__law_roots ?c__law_roots ?k__law_roots ?a__law_downs ?l__law_downs ?c__law_downs ?k__law_downs ?a__law_right ?l__law_right ?c__law_right ?k__law_right ?a_law ?l_law ?c_law ?k_law ?i_init ?pg ?hd ?po ?sa ?mk ?kc ?ha ?hn ?htk ?hm ?me ?nl ?nf ?nt ?gl ?gm ?cdh ?nT ?z_abs ?z_all ?z_any ?z_divmod ?z_int ?z_isinstance ?z_len ?z_list ?z_max ?z_min ?z_range ?z_repr ?z_set ?z_sorted ?z_str ?z_sum ?z_tuple K31.CH
    (case aC => k_is)
    (case a_is_letter => k_is)
    (case l_is_letter => k_is)
    (case c_is_letter => k_is)
    (case k_is_letter => k_is)
    (case a_is_rising => k_is)
    (case l_is_rising => k_is)
    (case c_is_rising => k_is)
    (case k_is_rising => k_is)
    (case a_are_things => k_is)
    (case l_are_things => k_is)
    (case c_are_things => k_is)
    (case k_are_things => k_is)
    (case a_check_things => k_is)
    (case l_check_things => k_is)
    (case c_check_things => k_is)
    (case k_check_things => k_is)
    (case a_is_lot => k_is)
    (case l_is_lot => k_is)
    (case c_is_lot => k_is)
    (case k_is_lot => k_is)
    (case a_wrong_in_family => k_is)
    (case l_wrong_in_family => k_is)
    (case c_wrong_in_family => k_is)
    (case k_wrong_in_family => k_is)
    (case a_mask_of => k_is)
    (case l_mask_of => k_is)
    (case c_mask_of => k_is)
    (case k_mask_of => k_is)
    (case a_lot_of => k_is)
    (case l_lot_of => k_is)
    (case c_lot_of => k_is)
    (case k_lot_of => k_is)
    (case a_whole_of => k_is)
    (case l_whole_of => k_is)
    (case c_whole_of => k_is)
    (case k_whole_of => k_is)
    (case a_masks_of => k_is)
    (case l_masks_of => k_is)
    (case c_masks_of => k_is)
    (case k_masks_of => k_is)
    (case a_family_of => k_is)
    (case l_family_of => k_is)
    (case c_family_of => k_is)
    (case k_family_of => k_is)
    (case a_is_inside => k_is)
    (case l_is_inside => k_is)
    (case c_is_inside => k_is)
    (case k_is_inside => k_is)
    (case a_meets_of => k_is)
    (case l_meets_of => k_is)
    (case c_meets_of => k_is)
    (case k_meets_of => k_is)
    (case a_is_closed_family => k_is)
    (case l_is_closed_family => k_is)
    (case c_is_closed_family => k_is)
    (case k_is_closed_family => k_is)
    (case a_check_closed => k_is)
    (case l_check_closed => k_is)
    (case c_check_closed => k_is)
    (case k_check_closed => k_is)
    (case a_rounds_of => k_is)
    (case l_rounds_of => k_is)
    (case c_rounds_of => k_is)
    (case k_rounds_of => k_is)
    (case a___init__ => k_is)
    (case l___init__ => k_is)
    (case c___init__ => k_is)
    (case k___init__ => k_is)
    (case pat_things => k_is)
    (case pre_things => k_is)
    (case pge_things => k_is)
    (case pta_things => k_is)
    (case l_things => k_is)
    (case c_things => k_is)
    (case k_things => k_is)
    (case pat_closed => k_is)
    (case pre_closed => k_is)
    (case pge_closed => k_is)
    (case pta_closed => k_is)
    (case l_closed => k_is)
    (case c_closed => k_is)
    (case k_closed => k_is)
    (case a_closed_masks => k_is)
    (case l_closed_masks => k_is)
    (case c_closed_masks => k_is)
    (case k_closed_masks => k_is)
    (case a_check_closer => k_is)
    (case l_check_closer => k_is)
    (case c_check_closer => k_is)
    (case k_check_closer => k_is)
    (case a_covers_of => k_is)
    (case l_covers_of => k_is)
    (case c_covers_of => k_is)
    (case k_covers_of => k_is)
    (case a_span_of => k_is)
    (case l_span_of => k_is)
    (case c_span_of => k_is)
    (case k_span_of => k_is)
    (case a_root_masks => k_is)
    (case l_root_masks => k_is)
    (case c_root_masks => k_is)
    (case k_root_masks => k_is)
    (case a_roots => k_is)
    (case l_roots => k_is)
    (case c_roots => k_is)
    (case k_roots => k_is)
    (case a_count_down => k_is)
    (case l_count_down => k_is)
    (case c_count_down => k_is)
    (case k_count_down => k_is)
    (case a_pentagon_masks => k_is)
    (case l_pentagon_masks => k_is)
    (case c_pentagon_masks => k_is)
    (case k_pentagon_masks => k_is)
    (case a_diamond_lots => k_is)
    (case l_diamond_lots => k_is)
    (case c_diamond_lots => k_is)
    (case k_diamond_lots => k_is)
    (case a_is_distributive => k_is)
    (case l_is_distributive => k_is)
    (case c_is_distributive => k_is)
    (case k_is_distributive => k_is)
    (case a__law_well => k_is)
    (case l__law_well => k_is)
    (case c__law_well => k_is)
    (case k__law_well => k_is)
    (case a__law_dip => k_is)
    (case l__law_dip => k_is)
    (case c__law_dip => k_is)
    (case k__law_dip => k_is)
    (case a__law_one_of => k_is)
    (case l__law_one_of => k_is)
    (case c__law_one_of => k_is)
    (case k__law_one_of => k_is)
    (case a__law_whole => k_is)
    (case l__law_whole => k_is)
    (case c__law_whole => k_is)
    (case k__law_whole => k_is)
    (case a__law_lot => k_is)
    (case l__law_lot => k_is)
    (case c__law_lot => k_is)
    (case k__law_lot => k_is)
    (case a__law_in => k_is)
    (case l__law_in => k_is)
    (case c__law_in => k_is)
    (case k__law_in => k_is)
    (case a__law_both => k_is)
    (case l__law_both => k_is)
    (case c__law_both => k_is)
    (case k__law_both => k_is)
    (case a__law_any => k_is)
    (case l__law_any => k_is)
    (case c__law_any => k_is)
    (case k__law_any => k_is)
    (case a__law_meets => k_is)
    (case l__law_meets => k_is)
    (case c__law_meets => k_is)
    (case k__law_meets => k_is)
    (case a__law_round => k_is)
    (case l__law_round => k_is)
    (case c__law_round => k_is)
    (case k__law_round => k_is)
    (case a__law_family => k_is)
    (case l__law_family => k_is)
    (case c__law_family => k_is)
    (case k__law_family => k_is)
    (case a__law_lots => k_is)
    (case l__law_lots => k_is)
    (case c__law_lots => k_is)
    (case k__law_lots => k_is)
    (case a__law_roots => k_is)
    (case l__law_roots => k_is)
    (case c__law_roots => k_is)
    (case k__law_roots => k_is)
    (case a__law_downs => k_is)
    (case l__law_downs => k_is)
    (case c__law_downs => k_is)
    (case k__law_downs => k_is)
    (case a__law_right => k_is)
    (case l__law_right => k_is)
    (case c__law_right => k_is)
    (case k__law_right => k_is)
    (case a_law => k_is)
    (case l_law => k_is)
    (case c_law => k_is)
    (case k_law => k_is)
    (case i_init => k_is)
    (case pg => k_is)
    (case hd => k_is)
    (case po => k_is)
    (case sa => k_is)
    (case mk => k_is)
    (case kc => k_is)
    (case ha => k_is)
    (case hn => k_is)
    (case htk => k_is)
    (case hm => k_is)
    (case me => kit_is)
    (case nl => k_is)
    (case nf => k_is)
    (case nt => k_is)
    (case gl => k_is)
    (case gm => k_is)
    (case cdh => kernel_rfl)
    (case nT => kernel_rfl)
    (case z_abs => k_is)
    (case z_all => k_is)
    (case z_any => k_is)
    (case z_divmod => k_is)
    (case z_int => k_is)
    (case z_isinstance => k_is)
    (case z_len => k_is)
    (case z_list => k_is)
    (case z_max => k_is)
    (case z_min => k_is)
    (case z_range => k_is)
    (case z_repr => k_is)
    (case z_set => k_is)
    (case z_sorted => k_is)
    (case z_str => k_is)
    (case z_sum => k_is)
    (case z_tuple => k_is)
