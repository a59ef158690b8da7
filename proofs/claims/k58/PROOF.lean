import PyProof.Rows.All
import Wide.All
import OpenK.AllK
import Wide.FinOn
import KE.KStateDown
import Lean
import HandS.ForMost
import HandS.WordsExc
import HandS.Defaults
import HandS.Head0
import HandS.Head1
import HandS.Head2
import HandS.HeadEnd
import HandS.HeadHook1
import HandS.HeadHook2
import PySem.Challenge.RW_promotetables_k58_whole_folds_claimed
import HandS.TupAny
import HandS.Star
import HandS.Conv
import HandS.TupLen
import HandS.IsInst
import HandS.Zip
import HandS.Style
import HandS.Small
import HandS.Comp
import KE.GoesMore
import HandS.Strs
import KE.KDictZip
import HandS.SetFor
import PyProof.Rows.SortShellAny
import PyProof.Rows.StrMeet
import HandS.ReplaceLit
import HandS.ReplaceDef
import HandS.Codes
set_option Elab.async false
set_option linter.all false
set_option maxRecDepth 100000
set_option maxHeartbeats 0
namespace Hd
open PySem PySem.Spec PyProof.Rows L2
def top (i : Nat) : Stmt := PySem.Challenge.pw_promotetables_k58_whole_folds_claimed.main.body.getD i (.Pass ⟨0, 0, 0, 0⟩)
def clsBody : Stmt → List Stmt
  | .ClassDef _ _ _ body _ _ _ _ _ _ _ => body
  | _ => []

abbrev s0 : Stmt := (clsBody (top 11)).getD 0 (.Pass ⟨0, 0, 0, 0⟩)
def d0 : He.DefD := ⟨("Sheet", some "__init__"), "__init__", "Sheet.__init__", defArgs s0, defBody s0, defScope s0, [], []⟩
abbrev s1 : Stmt := top 12
def d1 : He.DefD := ⟨("is_tag", none), "is_tag", "is_tag", defArgs s1, defBody s1, defScope s1, [], []⟩
abbrev s2 : Stmt := top 13
def d2 : He.DefD := ⟨("is_cell", none), "is_cell", "is_cell", defArgs s2, defBody s2, defScope s2, [], []⟩
abbrev s3 : Stmt := top 14
def d3 : He.DefD := ⟨("read_cells", none), "read_cells", "read_cells", defArgs s3, defBody s3, defScope s3, [], []⟩
abbrev s4 : Stmt := top 15
def d4 : He.DefD := ⟨("read_grid", none), "read_grid", "read_grid", defArgs s4, defBody s4, defScope s4, [], []⟩
abbrev s5 : Stmt := top 16
def d5 : He.DefD := ⟨("fill_grids", none), "fill_grids", "fill_grids", defArgs s5, defBody s5, defScope s5, [], []⟩
abbrev s6 : Stmt := top 17
def d6 : He.DefD := ⟨("fill_rows", none), "fill_rows", "fill_rows", defArgs s6, defBody s6, defScope s6, [], []⟩
abbrev s7 : Stmt := top 18
def d7 : He.DefD := ⟨("has_fine_names", none), "has_fine_names", "has_fine_names", defArgs s7, defBody s7, defScope s7, [], []⟩
abbrev s8 : Stmt := top 19
def d8 : He.DefD := ⟨("read_sheet", none), "read_sheet", "read_sheet", defArgs s8, defBody s8, defScope s8, [], []⟩
abbrev s9 : Stmt := top 20
def d9 : He.DefD := ⟨("outcomes_of", none), "outcomes_of", "outcomes_of", defArgs s9, defBody s9, defScope s9, [], []⟩
abbrev s10 : Stmt := top 21
def d10 : He.DefD := ⟨("word_at", none), "word_at", "word_at", defArgs s10, defBody s10, defScope s10, [], []⟩
abbrev s11 : Stmt := top 22
def d11 : He.DefD := ⟨("part_at", none), "part_at", "part_at", defArgs s11, defBody s11, defScope s11, [], []⟩
abbrev s12 : Stmt := top 23
def d12 : He.DefD := ⟨("pair_at", none), "pair_at", "pair_at", defArgs s12, defBody s12, defScope s12, [], []⟩
abbrev s13 : Stmt := top 24
def d13 : He.DefD := ⟨("read_part", none), "read_part", "read_part", defArgs s13, defBody s13, defScope s13, [], []⟩
abbrev s14 : Stmt := top 25
def d14 : He.DefD := ⟨("leaves_in", none), "leaves_in", "leaves_in", defArgs s14, defBody s14, defScope s14, [], []⟩
abbrev s15 : Stmt := top 26
def d15 : He.DefD := ⟨("is_by", none), "is_by", "is_by", defArgs s15, defBody s15, defScope s15, [], []⟩
abbrev s16 : Stmt := top 28
def d16 : He.DefD := ⟨("kind_of", none), "kind_of", "kind_of", defArgs s16, defBody s16, defScope s16, [], []⟩
abbrev s17 : Stmt := top 29
def d17 : He.DefD := ⟨("marked_by", none), "marked_by", "marked_by", defArgs s17, defBody s17, defScope s17, [], []⟩
abbrev s18 : Stmt := top 30
def d18 : He.DefD := ⟨("joined", none), "joined", "joined", defArgs s18, defBody s18, defScope s18, [], []⟩
abbrev s19 : Stmt := top 31
def d19 : He.DefD := ⟨("turned", none), "turned", "turned", defArgs s19, defBody s19, defScope s19, [], []⟩
abbrev s20 : Stmt := top 32
def d20 : He.DefD := ⟨("reckoned", none), "reckoned", "reckoned", defArgs s20, defBody s20, defScope s20, [], []⟩
abbrev s21 : Stmt := top 33
def d21 : He.DefD := ⟨("led", none), "led", "led", defArgs s21, defBody s21, defScope s21, [], []⟩
abbrev s22 : Stmt := top 34
def d22 : He.DefD := ⟨("in_order", none), "in_order", "in_order", defArgs s22, defBody s22, defScope s22, [], []⟩
abbrev s23 : Stmt := top 35
def d23 : He.DefD := ⟨("closed_lot", none), "closed_lot", "closed_lot", defArgs s23, defBody s23, defScope s23, [], []⟩
abbrev s24 : Stmt := top 36
def d24 : He.DefD := ⟨("folded", none), "folded", "folded", defArgs s24, defBody s24, defScope s24, [], []⟩
abbrev s25 : Stmt := top 37
def d25 : He.DefD := ⟨("badness", none), "badness", "badness", defArgs s25, defBody s25, defScope s25, [], []⟩
abbrev s26 : Stmt := top 38
def d26 : He.DefD := ⟨("sight", none), "sight", "sight", defArgs s26, defBody s26, defScope s26, [], []⟩
abbrev s27 : Stmt := top 39
def d27 : He.DefD := ⟨("marks_of", none), "marks_of", "marks_of", defArgs s27, defBody s27, defScope s27, [], []⟩
abbrev s28 : Stmt := top 41
def d28 : He.DefD := ⟨("is_marked", none), "is_marked", "is_marked", defArgs s28, defBody s28, defScope s28, [], []⟩
abbrev s29 : Stmt := top 42
def d29 : He.DefD := ⟨("are_leaves", none), "are_leaves", "are_leaves", defArgs s29, defBody s29, defScope s29, [], []⟩
abbrev s30 : Stmt := top 43
def d30 : He.DefD := ⟨("is_outcome", none), "is_outcome", "is_outcome", defArgs s30, defBody s30, defScope s30, [], []⟩
abbrev s31 : Stmt := top 44
def d31 : He.DefD := ⟨("is_lot", none), "is_lot", "is_lot", defArgs s31, defBody s31, defScope s31, [], []⟩
abbrev s32 : Stmt := top 45
def d32 : He.DefD := ⟨("is_named", none), "is_named", "is_named", defArgs s32, defBody s32, defScope s32, [], []⟩
abbrev s33 : Stmt := top 46
def d33 : He.DefD := ⟨("is_closed", none), "is_closed", "is_closed", defArgs s33, defBody s33, defScope s33, [], []⟩
abbrev s34 : Stmt := top 47
def d34 : He.DefD := ⟨("is_two", none), "is_two", "is_two", defArgs s34, defBody s34, defScope s34, [], []⟩
abbrev s35 : Stmt := top 48
def d35 : He.DefD := ⟨("parts_by", none), "parts_by", "parts_by", defArgs s35, defBody s35, defScope s35, [], []⟩
abbrev s36 : Stmt := top 49
def d36 : He.DefD := ⟨("outcome_shown", none), "outcome_shown", "outcome_shown", defArgs s36, defBody s36, defScope s36, [], []⟩
abbrev s37 : Stmt := top 50
def d37 : He.DefD := ⟨("reach_shown", none), "reach_shown", "reach_shown", defArgs s37, defBody s37, defScope s37, [], []⟩
abbrev s38 : Stmt := top 51
def d38 : He.DefD := ⟨("agrees", none), "agrees", "agrees", defArgs s38, defBody s38, defScope s38, [], []⟩
abbrev s39 : Stmt := top 52
def d39 : He.DefD := ⟨("groups", none), "groups", "groups", defArgs s39, defBody s39, defScope s39, [], []⟩
abbrev s40 : Stmt := top 53
def d40 : He.DefD := ⟨("swaps", none), "swaps", "swaps", defArgs s40, defBody s40, defScope s40, [], []⟩
abbrev s41 : Stmt := top 54
def d41 : He.DefD := ⟨("grouping_shown", none), "grouping_shown", "grouping_shown", defArgs s41, defBody s41, defScope s41, [], []⟩
abbrev s42 : Stmt := top 55
def d42 : He.DefD := ⟨("exchange_shown", none), "exchange_shown", "exchange_shown", defArgs s42, defBody s42, defScope s42, [], []⟩
abbrev s43 : Stmt := top 56
def d43 : He.DefD := ⟨("turns_fold", none), "turns_fold", "turns_fold", defArgs s43, defBody s43, defScope s43, [], []⟩
abbrev s44 : Stmt := top 57
def d44 : He.DefD := ⟨("folds_by", none), "folds_by", "folds_by", defArgs s44, defBody s44, defScope s44, [], []⟩
abbrev s45 : Stmt := top 58
def d45 : He.DefD := ⟨("are_lists", none), "are_lists", "are_lists", defArgs s45, defBody s45, defScope s45, [], []⟩
abbrev s46 : Stmt := top 59
def d46 : He.DefD := ⟨("folds_shown", none), "folds_shown", "folds_shown", defArgs s46, defBody s46, defScope s46, [], []⟩
abbrev s47 : Stmt := top 60
def d47 : He.DefD := ⟨("variables_in", none), "variables_in", "variables_in", defArgs s47, defBody s47, defScope s47, [], []⟩
abbrev s48 : Stmt := top 61
def d48 : He.DefD := ⟨("is_equal", none), "is_equal", "is_equal", defArgs s48, defBody s48, defScope s48, [], []⟩
abbrev s49 : Stmt := top 62
def d49 : He.DefD := ⟨("all_values", none), "all_values", "all_values", defArgs s49, defBody s49, defScope s49, [], []⟩
abbrev s50 : Stmt := top 63
def d50 : He.DefD := ⟨("given_values", none), "given_values", "given_values", defArgs s50, defBody s50, defScope s50, [], []⟩
abbrev s51 : Stmt := top 64
def d51 : He.DefD := ⟨("equal_shown", none), "equal_shown", "equal_shown", defArgs s51, defBody s51, defScope s51, [], []⟩
abbrev s52 : Stmt := top 65
def d52 : He.DefD := ⟨("are_matched", none), "are_matched", "are_matched", defArgs s52, defBody s52, defScope s52, [], []⟩
abbrev s53 : Stmt := top 66
def d53 : He.DefD := ⟨("two_shown", none), "two_shown", "two_shown", defArgs s53, defBody s53, defScope s53, [], []⟩
abbrev s54 : Stmt := top 67
def d54 : He.DefD := ⟨("lots_by", none), "lots_by", "lots_by", defArgs s54, defBody s54, defScope s54, [], []⟩
abbrev s55 : Stmt := top 68
def d55 : He.DefD := ⟨("same_by", none), "same_by", "same_by", defArgs s55, defBody s55, defScope s55, [], []⟩
abbrev s56 : Stmt := top 69
def d56 : He.DefD := ⟨("same_shown", none), "same_shown", "same_shown", defArgs s56, defBody s56, defScope s56, [], []⟩
abbrev s57 : Stmt := top 70
def d57 : He.DefD := ⟨("length_of", none), "length_of", "length_of", defArgs s57, defBody s57, defScope s57, [], []⟩
abbrev s58 : Stmt := top 71
def d58 : He.DefD := ⟨("shown", none), "shown", "shown", defArgs s58, defBody s58, defScope s58, [], []⟩
abbrev s59 : Stmt := top 72
def d59 : He.DefD := ⟨("accepts", none), "accepts", "accepts", defArgs s59, defBody s59, defScope s59, [], []⟩
abbrev s60 : Stmt := top 74
def d60 : He.DefD := ⟨("_law_jar", none), "_law_jar", "_law_jar", defArgs s60, defBody s60, defScope s60, [], []⟩
abbrev s61 : Stmt := top 75
def d61 : He.DefD := ⟨("_law_scoop", none), "_law_scoop", "_law_scoop", defArgs s61, defBody s61, defScope s61, [], []⟩
abbrev s62 : Stmt := top 76
def d62 : He.DefD := ⟨("_law_any", none), "_law_any", "_law_any", defArgs s62, defBody s62, defScope s62, [], []⟩
abbrev s63 : Stmt := top 77
def d63 : He.DefD := ⟨("_law_words", none), "_law_words", "_law_words", defArgs s63, defBody s63, defScope s63, [], []⟩
abbrev s64 : Stmt := top 78
def d64 : He.DefD := ⟨("_law_cell", none), "_law_cell", "_law_cell", defArgs s64, defBody s64, defScope s64, [], []⟩
abbrev s65 : Stmt := top 79
def d65 : He.DefD := ⟨("_law_web", none), "_law_web", "_law_web", defArgs s65, defBody s65, defScope s65, [], []⟩
abbrev s66 : Stmt := top 80
def d66 : He.DefD := ⟨("_law_page", none), "_law_page", "_law_page", defArgs s66, defBody s66, defScope s66, [], []⟩
abbrev s67 : Stmt := top 81
def d67 : He.DefD := ⟨("_law_lot", none), "_law_lot", "_law_lot", defArgs s67, defBody s67, defScope s67, [], []⟩
abbrev s68 : Stmt := top 82
def d68 : He.DefD := ⟨("_law_mark", none), "_law_mark", "_law_mark", defArgs s68, defBody s68, defScope s68, [], []⟩
abbrev s69 : Stmt := top 83
def d69 : He.DefD := ⟨("_law_both", none), "_law_both", "_law_both", defArgs s69, defBody s69, defScope s69, [], []⟩
abbrev s70 : Stmt := top 84
def d70 : He.DefD := ⟨("_law_all", none), "_law_all", "_law_all", defArgs s70, defBody s70, defScope s70, [], []⟩
abbrev s71 : Stmt := top 85
def d71 : He.DefD := ⟨("_law_is_lot", none), "_law_is_lot", "_law_is_lot", defArgs s71, defBody s71, defScope s71, [], []⟩
abbrev s72 : Stmt := top 86
def d72 : He.DefD := ⟨("_law_is_leaves", none), "_law_is_leaves", "_law_is_leaves", defArgs s72, defBody s72, defScope s72, [], []⟩
abbrev s73 : Stmt := top 87
def d73 : He.DefD := ⟨("_law_is_tag", none), "_law_is_tag", "_law_is_tag", defArgs s73, defBody s73, defScope s73, [], []⟩
abbrev s74 : Stmt := top 88
def d74 : He.DefD := ⟨("_law_odd", none), "_law_odd", "_law_odd", defArgs s74, defBody s74, defScope s74, [], []⟩
abbrev s75 : Stmt := top 89
def d75 : He.DefD := ⟨("_law_bent_lot", none), "_law_bent_lot", "_law_bent_lot", defArgs s75, defBody s75, defScope s75, [], []⟩
abbrev s76 : Stmt := top 90
def d76 : He.DefD := ⟨("_law_fold_lot", none), "_law_fold_lot", "_law_fold_lot", defArgs s76, defBody s76, defScope s76, [], []⟩
abbrev s77 : Stmt := top 91
def d77 : He.DefD := ⟨("_law_turns", none), "_law_turns", "_law_turns", defArgs s77, defBody s77, defScope s77, [], []⟩
abbrev s78 : Stmt := top 92
def d78 : He.DefD := ⟨("_law_folds_by", none), "_law_folds_by", "_law_folds_by", defArgs s78, defBody s78, defScope s78, [], []⟩
abbrev s79 : Stmt := top 93
def d79 : He.DefD := ⟨("_law_right", none), "_law_right", "_law_right", defArgs s79, defBody s79, defScope s79, [], []⟩
abbrev s80 : Stmt := top 94
def d80 : He.DefD := ⟨("law", none), "law", "law", defArgs s80, defBody s80, defScope s80, [], []⟩
def fn : List He.DefD := [d0, d1, d2, d3, d4, d5, d6, d7, d8, d9, d10, d11, d12, d13, d14, d15, d16, d17, d18, d19, d20, d21, d22, d23, d24, d25, d26, d27, d28, d29, d30, d31, d32, d33, d34, d35, d36, d37, d38, d39, d40, d41, d42, d43, d44, d45, d46, d47, d48, d49, d50, d51, d52, d53, d54, d55, d56, d57, d58, d59, d60, d61, d62, d63, d64, d65, d66, d67, d68, d69, d70, d71, d72, d73, d74, d75, d76, d77, d78, d79, d80]
def faG : List He.Fa := [.glo "Sheet", .glo "is_tag", .glo "is_cell", .glo "read_cells", .glo "read_grid", .glo "fill_grids", .glo "fill_rows", .glo "has_fine_names", .glo "read_sheet", .glo "outcomes_of", .glo "word_at", .glo "part_at", .glo "pair_at", .glo "read_part", .glo "leaves_in", .glo "is_by", .glo "kind_of", .glo "marked_by", .glo "joined", .glo "turned", .glo "reckoned", .glo "led", .glo "in_order", .glo "closed_lot", .glo "folded", .glo "badness", .glo "sight", .glo "marks_of", .glo "is_marked", .glo "are_leaves", .glo "is_outcome", .glo "is_lot", .glo "is_named", .glo "is_closed", .glo "is_two", .glo "parts_by", .glo "outcome_shown", .glo "reach_shown", .glo "agrees", .glo "groups", .glo "swaps", .glo "grouping_shown", .glo "exchange_shown", .glo "turns_fold", .glo "folds_by", .glo "are_lists", .glo "folds_shown", .glo "variables_in", .glo "is_equal", .glo "all_values", .glo "given_values", .glo "equal_shown", .glo "are_matched", .glo "two_shown", .glo "lots_by", .glo "same_by", .glo "same_shown", .glo "length_of", .glo "shown", .glo "accepts", .glo "_law_jar", .glo "_law_scoop", .glo "_law_any", .glo "_law_words", .glo "_law_cell", .glo "_law_web", .glo "_law_page", .glo "_law_lot", .glo "_law_mark", .glo "_law_both", .glo "_law_all", .glo "_law_is_lot", .glo "_law_is_leaves", .glo "_law_is_tag", .glo "_law_odd", .glo "_law_bent_lot", .glo "_law_fold_lot", .glo "_law_turns", .glo "_law_folds_by", .glo "_law_right", .glo "law"]
def faB : List He.Fa := [.free "len", .free "isinstance", .free "all", .free "any", .free "range", .free "tuple", .free "list", .free "dict", .free "str", .free "int", .free "zip", .free "enumerate", .free "set", .free "repr", .free "max", .free "min", .free "sorted", .free "abs", .free "divmod"]
def faC : List He.Fa := [.cls "Sheet", .mkr "Sheet"]
def faK : List He.Fa := [.str "BAD" "error", .str "HOLE" "_", .str "LOSS" "!", .int "MOST_CASTS" 4, .int "MOST_KINDS" 8, .int "MOST_OPERATORS" 3, .int "MOST_SIGNS" 8, .str "REFUSED" "-", .str "SIGNS" "abcdefghijklmnopqrstuvwxyz"]
def faN : List He.Fa := [.noat "Sheet" "grids", .noat "Sheet" "rows", .noat "Sheet" "sorts"]
def fa : List He.Fa := faG ++ faB ++ faC ++ faK ++ faN
def names0 : List PySem.Str := ["MOST_KINDS", "MOST_OPERATORS", "MOST_CASTS", "SIGNS", "BAD", "LOSS", "REFUSED", "HOLE", "VARIABLES", "MOST_SIGNS", "Sheet", "is_tag"]
def names1 : List PySem.Str := ["is_cell", "read_cells", "read_grid", "fill_grids", "fill_rows", "has_fine_names", "read_sheet", "outcomes_of", "word_at", "part_at", "pair_at", "read_part"]
def names2 : List PySem.Str := ["leaves_in", "is_by", "kind_of", "marked_by", "joined", "turned", "reckoned", "led", "in_order", "closed_lot", "folded", "badness"]
def names3 : List PySem.Str := ["sight", "marks_of", "is_marked", "are_leaves", "is_outcome", "is_lot", "is_named", "is_closed", "is_two", "parts_by", "outcome_shown", "reach_shown"]
def names4 : List PySem.Str := ["agrees", "groups", "swaps", "grouping_shown", "exchange_shown", "turns_fold", "folds_by", "are_lists", "folds_shown", "variables_in", "is_equal", "all_values"]
def names5 : List PySem.Str := ["given_values", "equal_shown", "are_matched", "two_shown", "lots_by", "same_by", "same_shown", "length_of", "shown", "accepts", "_law_jar", "_law_scoop"]
def names6 : List PySem.Str := ["_law_any", "_law_words", "_law_cell", "_law_web", "_law_page", "_law_lot", "_law_mark", "_law_both", "_law_all", "_law_is_lot", "_law_is_leaves", "_law_is_tag"]
def names7 : List PySem.Str := ["_law_odd", "_law_bent_lot", "_law_fold_lot", "_law_turns", "_law_folds_by", "_law_right"]
def names : List PySem.Str := names0 ++ names1 ++ names2 ++ names3 ++ names4 ++ names5 ++ names6 ++ names7
abbrev R : PySem.W.OpenRow := PySem.W.OpenLaw.row PySem.Challenge.rw_promotetables_k58_whole_folds_claimed
abbrev hk : PySem.W.Hook := He.hookD 5 fa fn
def ob (s : PySem.W.SharedT) : He.AlD := He.obsDG 5 fa fn (HandSHeadRun.getT s)
theorem ob_eq (s : PySem.W.SharedT) : ob s = hk.obs s.abs := He.obsDG_eq (HandSHeadRun.getT_eq s)
theorem run (w : World) : HandSHeadRun.RunEq R (PySem.W.view R.prog [94]) hk ob 20000 names w := by
  intro os
  kernel_rfl
end Hd


set_option Elab.async false
set_option linter.all false
set_option maxRecDepth 100000
set_option maxHeartbeats 4000000
namespace Iv
open PySem PySem.Spec PyProof.Rows L2

/-! values as trees; a cell is a mutable object, by its number -/
inductive D where
  | non | bl (b : Bool) | int (i : Int) | str (s : Str)
  | lst (xs : List D) | tup (xs : List D)
  | dic (t : Bool) (ks vs : List D)
  | ins (c : Str) (fs : List Str) (vs : List D)
  | cell (n : Nat)
  /-- a list that may be the module's own -/
  | wls (xs : List D)
  deriving Inhabited
/-- what a cell holds -/
inductive C where
  | lst (xs : List D) | dK (ks vs : List D) | dT (ks vs : List D) | ins (c : Str) (fs : List Str) (vs : List D)
  deriving Inhabited

def kD : Key → D
  | .inl i => .int i
  | .inr s => .str s
def tD (k : List Key) : D := .tup (k.map kD)
structure Sta where
  K : PySem.W.Frag
  mg : Str → Option Value
  /-- the classes, all their fields -/
  cl : List Str
  fl : List Str
  /-- names of built-ins that the module leaves alone -/
  blt : List Str
  /-- constants of the module -/
  gt : List (Str × D)
  /-- mutable objects that are out of sight -/
  hid : List Addr := []
def Sta.hide (S : Sta) (h : List Addr) : Sta := { S with hid := h }
/-- no cell, not out of sight -/
def Out (S : Sta) (A : List Addr) (a : Addr) : Prop := a ∉ A ∧ a ∉ S.hid
def Mb : HO → Prop
  | .lst _ => True
  | .dK _ => True
  | .dT _ => True
  | .ins _ _ _ => True
  | _ => False

/-- a tuple of the module's own -/
def WrT (K : PySem.W.Frag) (a : Addr) (xs : List V) : Prop :=
  ∃ (o : Obj) (its : Array Value) (n : Nat), K.lookup a = some o ∧ o.cls = .type "tuple" ∧ o.data = .seq its n ∧ its.size ≤ sizeLine ∧ Vals xs its.toList

/-- a list of the module's own -/
def WrL (K : PySem.W.Frag) (a : Addr) (xs : List V) : Prop :=
  ∃ (o : Obj) (its : Array Value) (n : Nat), K.lookup a = some o ∧ o.cls = .type "list" ∧ o.dict = none ∧ o.data = .seq its n ∧ its.size ≤ sizeLine ∧ Vals xs its.toList
mutual
inductive Rep (S : Sta) (A : List Addr) (H : Hp) : V → D → Prop
  | non : Rep S A H .non .non
  | bl (b : Bool) : Rep S A H (.bl b) (.bl b)
  | int (i : Int) : Rep S A H (.int i) (.int i)
  | str (x : Str) : Rep S A H (.str x) (.str x)
  | lst {a : Addr} {xs : List V} {ds : List D} : Out S A a → Rd H a (.lst xs) → RepAll S A H xs ds → Rep S A H (.ref a) (.lst ds)
  | tup {a : Addr} {xs : List V} {ds : List D} : Out S A a → H a = some (.tup xs) → RepAll S A H xs ds → Rep S A H (.ref a) (.tup ds)
  | tupW {a : Addr} {xs : List V} {ds : List D} : WrT S.K a xs → 3 ≤ ds.length → RepAll S A H xs ds → Rep S A H (.ref a) (.tup ds)
  | dK {a : Addr} {kvs : List (Key × V)} {ks ds : List D} : Out S A a → Rd H a (.dK kvs) → ks = kvs.map (fun p => kD p.1) → RepAll S A H (kvs.map (·.2)) ds → Rep S A H (.ref a) (.dic false ks ds)
  | dT {a : Addr} {kvs : List (List Key × V)} {ks ds : List D} : Out S A a → Rd H a (.dT kvs) → ks = kvs.map (fun p => tD p.1) → RepAll S A H (kvs.map (·.2)) ds → Rep S A H (.ref a) (.dic true ks ds)
  | ins {a ca dx : Addr} {c : Str} {fv : List (Str × V)} {fs : List Str} {ds : List D} : Out S A a → H a = some (.ins ca dx fv) → c ∈ S.cl ∧ S.mg c = some (.ref ca) → fs = fv.map (·.1) → RepAll S A H (fv.map (·.2)) ds → Rep S A H (.ref a) (.ins c fs ds)
  | cell {a : Addr} {n : Nat} : A[n]? = some a → Rep S A H (.ref a) (.cell n)
  | wls {a : Addr} {xs : List V} {ds : List D} : Out S A a → Rd H a (.lst xs) → RepAll S A H xs ds → Rep S A H (.ref a) (.wls ds)
  | wlsW {a : Addr} {xs : List V} {ds : List D} : WrL S.K a xs → RepAll S A H xs ds → Rep S A H (.ref a) (.wls ds)
inductive RepAll (S : Sta) (A : List Addr) (H : Hp) : List V → List D → Prop
  | nil : RepAll S A H [] []
  | cons {v : V} {vs : List V} {d : D} {ds : List D} : Rep S A H v d → RepAll S A H vs ds → RepAll S A H (v :: vs) (d :: ds)
end

/-- a dict, locked or not -/
def DD : HO → Prop
  | .dK _ => True
  | .dT _ => True
  | _ => False
def Fz (u : HO) (x : Option HO) : Prop := x = some u ∨ ∃ o, x = some (.frz o u)
/-- the same, but for the locking of dicts -/
def Sm (x y : Option HO) : Prop := x = y ∨ ∃ u, DD u ∧ Fz u x ∧ Fz u y
theorem Sm.refl {x : Option HO} : Sm x x := .inl rfl
theorem Fz.same {u v : HO} {x : Option HO} (hu : DD u) (hv : DD v) (h : Fz u x) (g : Fz v x) : u = v := by
  rcases h with h | ⟨o, h⟩ <;> rcases g with g | ⟨o', g⟩
  · rw [h] at g; cases g; rfl
  · rw [h] at g; cases g; cases hu
  · rw [h] at g; cases g; cases hv
  · rw [h] at g; cases g; rfl
theorem Sm.trans {x y z : Option HO} (h : Sm x y) (g : Sm y z) : Sm x z := by
  rcases h with rfl | ⟨u, du, h1, h2⟩
  · exact g
  · rcases g with rfl | ⟨v, dv, g1, g2⟩
    · exact .inr ⟨u, du, h1, h2⟩
    · have := Fz.same du dv h2 g1
      subst this
      exact .inr ⟨u, du, h1, g2⟩
theorem Sm.eq {x y : Option HO} (h : Sm x y) (n : ∀ u, DD u → ¬ Fz u x) : y = x := by
  rcases h with rfl | ⟨u, du, h1, h2⟩
  · rfl
  · exact absurd h1 (n u du)
theorem Sm.none {x y : Option HO} (h : Sm x y) (n : x ≠ none) : y ≠ none := by
  rcases h with rfl | ⟨u, du, h1, h2⟩
  · exact n
  · rcases h2 with h2 | ⟨o, h2⟩ <;> rw [h2] <;> simp
/-- how the tracked heap may grow: the cells' addresses A are continued; what is seen and is no cell stays, but for the locking of dicts -/
structure Gs (S : Sta) (A : List Addr) (H : Hp) (A' : List Addr) (H' : Hp) : Prop where
  pre : ∃ B, A' = A ++ B ∧ ∀ b ∈ B, H b = none
  keep : ∀ b, H b ≠ none → Out S A b → Sm (H b) (H' b)
theorem Gs.out {S : Sta} {A A' : List Addr} {H H' : Hp} (g : Gs S A H A' H') {b : Addr} (h : H b ≠ none) (n : b ∉ A) : b ∉ A' := by
  obtain ⟨B, e, f⟩ := g.pre
  intro z
  rw [e] at z
  rcases List.mem_append.mp z with z | z
  · exact n z
  · exact h (f b z)
theorem Gs.get {S : Sta} {A A' : List Addr} {H H' : Hp} (g : Gs S A H A' H') {n : Nat} {a : Addr} (h : A[n]? = some a) : A'[n]? = some a := by
  obtain ⟨B, e, _⟩ := g.pre
  rw [e, List.getElem?_append_left (by
    have := List.getElem?_eq_some_iff.mp h
    exact this.1)]
  exact h
theorem rd_ne {H : Hp} {a : Addr} {o : HO} (h : Rd H a o) : H a ≠ none := by
  rcases h with h | ⟨_, h⟩ <;> rw [h] <;> simp
theorem Gs.rd {S : Sta} {A A' : List Addr} {H H' : Hp} (g : Gs S A H A' H') {a : Addr} {o : HO} (ho : DD o ∨ ∃ xs, o = .lst xs) (n : Out S A a) (h : Rd H a o) : Rd H' a o := by
  rcases g.keep a (rd_ne h) n with e | ⟨u, du, h1, h2⟩
  · unfold Rd
    rw [← e]
    exact h
  · rcases ho with ho | ⟨xs, rfl⟩
    · have : u = o := Fz.same du ho h1 h
      subst this
      exact h2
    · rcases h with h | ⟨o', h⟩ <;> rcases h1 with h1 | ⟨o'', h1⟩ <;> rw [h] at h1 <;> cases h1 <;> cases du
theorem Gs.eq {S : Sta} {A A' : List Addr} {H H' : Hp} (g : Gs S A H A' H') {a : Addr} {o : HO} (ho : ∀ u, DD u → ¬ Fz u (some o)) (n : Out S A a) (h : H a = some o) : H' a = some o := by
  have := (g.keep a (by rw [h]; simp) n).eq (by rw [h]; exact ho)
  rw [this, h]
theorem tup_nf {xs : List V} : ∀ u, DD u → ¬ Fz u (some (.tup xs)) := fun u du h => by
  rcases h with h | ⟨o, h⟩ <;> cases h
  cases du
theorem ins_nf {ca dx : Addr} {fs : List (Str × V)} : ∀ u, DD u → ¬ Fz u (some (.ins ca dx fs)) := fun u du h => by
  rcases h with h | ⟨o, h⟩ <;> cases h
  cases du
mutual
theorem Rep.monoS {S : Sta} {A A' : List Addr} {H H' : Hp} (g : Gs S A H A' H') : ∀ {v : V} {d : D}, Rep S A H v d → Rep S A' H' v d
  | _, _, .non => .non
  | _, _, .bl b => .bl b
  | _, _, .int i => .int i
  | _, _, .str x => .str x
  | _, _, .lst n r q => .lst ⟨g.out (rd_ne r) n.1, n.2⟩ (g.rd (.inr ⟨_, rfl⟩) n r) (RepAll.monoS g q)
  | _, _, .tup n r q => .tup ⟨g.out (by rw [r]; simp) n.1, n.2⟩ (g.eq tup_nf n r) (RepAll.monoS g q)
  | _, _, .tupW r l q => .tupW r l (RepAll.monoS g q)
  | _, _, .dK n r e q => .dK ⟨g.out (rd_ne r) n.1, n.2⟩ (g.rd (.inl trivial) n r) e (RepAll.monoS g q)
  | _, _, .dT n r e q => .dT ⟨g.out (rd_ne r) n.1, n.2⟩ (g.rd (.inl trivial) n r) e (RepAll.monoS g q)
  | _, _, .ins n r m e q => .ins ⟨g.out (by rw [r]; simp) n.1, n.2⟩ (g.eq ins_nf n r) m e (RepAll.monoS g q)
  | _, _, .cell e => .cell (g.get e)
  | _, _, .wls n r q => .wls ⟨g.out (rd_ne r) n.1, n.2⟩ (g.rd (.inr ⟨_, rfl⟩) n r) (RepAll.monoS g q)
  | _, _, .wlsW r q => .wlsW r (RepAll.monoS g q)
theorem RepAll.monoS {S : Sta} {A A' : List Addr} {H H' : Hp} (g : Gs S A H A' H') : ∀ {vs : List V} {ds : List D}, RepAll S A H vs ds → RepAll S A' H' vs ds
  | _, _, .nil => .nil
  | _, _, .cons h t => .cons (Rep.monoS g h) (RepAll.monoS g t)
end
/-- how the tracked heap may grow: the cells' addresses A are continued; what is no cell stays -/
structure Gr (A : List Addr) (H : Hp) (A' : List Addr) (H' : Hp) : Prop where
  pre : ∃ B, A' = A ++ B ∧ ∀ b ∈ B, H b = none
  keep : ∀ b, H b ≠ none → b ∉ A → H' b = H b
  tr : ∀ b, H b ≠ none → H' b ≠ none
theorem Gr.gs {S : Sta} {A A' : List Addr} {H H' : Hp} (g : Gr A H A' H') : Gs S A H A' H' := ⟨g.pre, fun b h n => .inl (g.keep b h n.1).symm⟩
theorem Gr.refl {A : List Addr} {H : Hp} : Gr A H A H := ⟨⟨[], by simp⟩, fun _ _ _ => rfl, fun _ h => h⟩
theorem Gr.out {A A' : List Addr} {H H' : Hp} (g : Gr A H A' H') {b : Addr} (h : H b ≠ none) (n : b ∉ A) : b ∉ A' := by
  obtain ⟨B, e, f⟩ := g.pre
  intro z
  rw [e] at z
  rcases List.mem_append.mp z with z | z
  · exact n z
  · exact h (f b z)
theorem Gr.trans {A B C : List Addr} {H I J : Hp} (g : Gr A H B I) (h : Gr B I C J) : Gr A H C J := by
  obtain ⟨X, e, f⟩ := g.pre
  obtain ⟨Y, e2, f2⟩ := h.pre
  refine ⟨⟨X ++ Y, by rw [e2, e, List.append_assoc], fun b hb => ?_⟩, fun b hb nb => ?_, fun b hb => h.tr b (g.tr b hb)⟩
  · rcases List.mem_append.mp hb with z | z
    · exact f b z
    · have i := f2 b z
      cases q : H b with
      | none => rfl
      | some o => exact absurd i (g.tr b (by rw [q]; simp))
  · have n1 := g.out hb nb
    have e1 := g.keep b hb nb
    rw [h.keep b (by rw [e1]; exact hb) n1, e1]
theorem Gr.get {A A' : List Addr} {H H' : Hp} (g : Gr A H A' H') {n : Nat} {a : Addr} (h : A[n]? = some a) : A'[n]? = some a := by
  obtain ⟨B, e, _⟩ := g.pre
  rw [e, List.getElem?_append_left (by
    have := List.getElem?_eq_some_iff.mp h
    exact this.1)]
  exact h
theorem Rep.mono {S : Sta} {A A' : List Addr} {H H' : Hp} (g : Gr A H A' H') {v : V} {d : D} (h : Rep S A H v d) : Rep S A' H' v d := h.monoS g.gs
theorem RepAll.mono {S : Sta} {A A' : List Addr} {H H' : Hp} (g : Gr A H A' H') {vs : List V} {ds : List D} (h : RepAll S A H vs ds) : RepAll S A' H' vs ds := h.monoS g.gs
section
variable {S : Sta} {A : List Addr} {H : Hp}
theorem RepAll.length : ∀ {vs : List V} {ds : List D}, RepAll S A H vs ds → vs.length = ds.length
  | _, _, .nil => rfl
  | _, _, .cons _ t => congrArg Nat.succ (RepAll.length t)
theorem RepAll.get : ∀ {vs : List V} {ds : List D} {i : Nat} {d : D}, RepAll S A H vs ds → ds[i]? = some d → ∃ v, vs[i]? = some v ∧ Rep S A H v d
  | _, _, _, _, .nil, e => by simp at e
  | _, _, 0, _, .cons h _, e => by simp at e; subst e; exact ⟨_, rfl, h⟩
  | _, _, i + 1, d, .cons _ t, e => by
    obtain ⟨v, e1, e2⟩ := RepAll.get (i := i) (d := d) t (by simpa using e)
    exact ⟨v, by simpa using e1, e2⟩
theorem RepAll.app : ∀ {vs : List V} {ds : List D} {ws : List V} {es : List D}, RepAll S A H vs ds → RepAll S A H ws es → RepAll S A H (vs ++ ws) (ds ++ es)
  | _, _, _, _, .nil, q => q
  | _, _, _, _, .cons h t, q => .cons h (RepAll.app t q)
theorem RepAll.take : ∀ {vs : List V} {ds : List D} (n : Nat), RepAll S A H vs ds → RepAll S A H (vs.take n) (ds.take n)
  | _, _, 0, _ => .nil
  | _, _, _ + 1, .nil => .nil
  | _, _, n + 1, .cons h t => .cons h (RepAll.take n t)
theorem RepAll.drop : ∀ {vs : List V} {ds : List D} (n : Nat), RepAll S A H vs ds → RepAll S A H (vs.drop n) (ds.drop n)
  | _, _, 0, q => q
  | _, _, _ + 1, .nil => .nil
  | _, _, n + 1, .cons _ t => RepAll.drop n t
theorem RepAll.rev : ∀ {vs : List V} {ds : List D}, RepAll S A H vs ds → RepAll S A H vs.reverse ds.reverse
  | _, _, .nil => .nil
  | _, _, .cons h t => by
    rw [List.reverse_cons, List.reverse_cons]
    exact (RepAll.rev t).app (.cons h .nil)
theorem RepAll.set {v : V} {d : D} (r : Rep S A H v d) : ∀ {vs : List V} {ds : List D} (i : Nat), RepAll S A H vs ds → RepAll S A H (vs.set i v) (ds.set i d)
  | _, _, _, .nil => .nil
  | _, _, 0, .cons _ t => .cons r t
  | _, _, i + 1, .cons h t => .cons h (RepAll.set r i t)
theorem RepAll.erase : ∀ {vs : List V} {ds : List D} (i : Nat), RepAll S A H vs ds → RepAll S A H (vs.eraseIdx i) (ds.eraseIdx i)
  | _, _, _, .nil => .nil
  | _, _, 0, .cons _ t => t
  | _, _, i + 1, .cons h t => .cons h (RepAll.erase i t)
theorem RepAll.rep {vs : List V} {ds : List D} (h : RepAll S A H vs ds) : ∀ k : Nat, RepAll S A H (List.replicate k vs).flatten (List.replicate k ds).flatten
  | 0 => .nil
  | k + 1 => by
    rw [List.replicate_succ, List.replicate_succ, List.flatten_cons, List.flatten_cons]
    exact h.app (RepAll.rep h k)
theorem RepAll.of_map {α : Type} {f : α → V} {g : α → D} : ∀ (l : List α), (∀ x ∈ l, Rep S A H (f x) (g x)) → RepAll S A H (l.map f) (l.map g)
  | [], _ => .nil
  | x :: l, h => .cons (h x (List.mem_cons_self ..)) (RepAll.of_map l fun y hy => h y (List.mem_cons_of_mem _ hy))
theorem RepAll.strs : ∀ {vs : List V} {ys : List Str}, RepAll S A H vs (ys.map D.str) → vs = ys.map V.str
  | [], [], _ => rfl
  | _, _ :: _, .cons h t => by
    cases h
    rw [RepAll.strs t]; rfl
theorem RepAll.ints : ∀ {vs : List V} {ys : List Int}, RepAll S A H vs (ys.map D.int) → vs = ys.map V.int
  | [], [], _ => rfl
  | _, _ :: _, .cons h t => by
    cases h
    rw [RepAll.ints t]; rfl
theorem RepAll.bls : ∀ {vs : List V} {ys : List Bool}, RepAll S A H vs (ys.map D.bl) → vs = ys.map V.bl
  | [], [], _ => rfl
  | _, _ :: _, .cons h t => by
    cases h
    rw [RepAll.bls t]; rfl
end

/-! the cells -/
def COk (S : Sta) (A : List Addr) (H : Hp) (a : Addr) : C → Prop
  | .lst ds => ∃ xs, H a = some (.lst xs) ∧ RepAll S A H xs ds
  | .dK ks ds => ∃ kvs : List (Key × V), H a = some (.dK kvs) ∧ ks = kvs.map (fun p => kD p.1) ∧ RepAll S A H (kvs.map (·.2)) ds
  | .dT ks ds => ∃ kvs : List (List Key × V), H a = some (.dT kvs) ∧ ks = kvs.map (fun p => tD p.1) ∧ RepAll S A H (kvs.map (·.2)) ds
  | .ins c fs ds => ∃ (ca dx : Addr) (fv : List (Str × V)), H a = some (.ins ca dx fv) ∧ (c ∈ S.cl ∧ S.mg c = some (.ref ca)) ∧ fs = fv.map (·.1) ∧ RepAll S A H (fv.map (·.2)) ds
structure CsOk (S : Sta) (A : List Addr) (G : List C) (H : Hp) : Prop where
  len : A.length = G.length
  nd : A.Nodup
  at_ : ∀ (n : Nat) (a : Addr) (c : C), A[n]? = some a → G[n]? = some c → COk S A H a c
  hid : ∀ b ∈ S.hid, b ∉ A ∧ ∃ o, H b = some o ∧ Mb o
theorem COk.ne {S : Sta} {A : List Addr} {H : Hp} {a : Addr} {c : C} (h : COk S A H a c) : H a ≠ none := by
  cases c with
  | lst ds => obtain ⟨_, h, _⟩ := h; rw [h]; simp
  | dK ks ds => obtain ⟨_, h, _⟩ := h; rw [h]; simp
  | dT ks ds => obtain ⟨_, h, _⟩ := h; rw [h]; simp
  | ins c fs ds => obtain ⟨_, _, _, h, _⟩ := h; rw [h]; simp
theorem COk.monoS {S : Sta} {A A' : List Addr} {H H' : Hp} {a : Addr} {c : C} (g : Gs S A H A' H') (e : H' a = H a) (h : COk S A H a c) : COk S A' H' a c := by
  cases c with
  | lst ds => obtain ⟨xs, h, q⟩ := h; exact ⟨xs, by rw [e]; exact h, q.monoS g⟩
  | dK ks ds => obtain ⟨xs, h, e2, q⟩ := h; exact ⟨xs, by rw [e]; exact h, e2, q.monoS g⟩
  | dT ks ds => obtain ⟨xs, h, e2, q⟩ := h; exact ⟨xs, by rw [e]; exact h, e2, q.monoS g⟩
  | ins c fs ds => obtain ⟨ca, dx, fv, h, e2, e3, q⟩ := h; exact ⟨ca, dx, fv, by rw [e]; exact h, e2, e3, q.monoS g⟩
theorem COk.mono {S : Sta} {A A' : List Addr} {H H' : Hp} {a : Addr} {c : C} (g : Gr A H A' H') (e : H' a = H a) (h : COk S A H a c) : COk S A' H' a c := h.monoS g.gs e
section
variable {S : Sta} {A : List Addr} {G : List C} {H : Hp}
theorem CsOk.ne (h : CsOk S A G H) {b : Addr} (m : b ∈ A) : H b ≠ none := by
  obtain ⟨n, hn, e⟩ := List.getElem_of_mem m
  have e1 : A[n]? = some b := by rw [List.getElem?_eq_getElem hn, e]
  have hg : n < G.length := by rw [← h.len]; exact hn
  exact (h.at_ n b _ e1 (List.getElem?_eq_getElem hg)).ne
theorem CsOk.addr (h : CsOk S A G H) {n : Nat} {c : C} (e : G[n]? = some c) : ∃ a, A[n]? = some a ∧ COk S A H a c ∧ a ∈ A := by
  have hn : n < A.length := by rw [h.len]; exact (List.getElem?_eq_some_iff.mp e).1
  have e1 : A[n]? = some A[n] := List.getElem?_eq_getElem hn
  exact ⟨_, e1, h.at_ n _ c e1 e, List.getElem_mem hn⟩
/-- a new object that is no cell -/
theorem Gr.new {p : Addr} {o : HO} (hp : H p = none) : Gr A H A (upd H p o) :=
  ⟨⟨[], by simp⟩, fun b hb _ => upd_ne fun e => hb (by rw [e]; exact hp), fun b hb => by
    by_cases e : b = p
    · subst e; exact absurd hp hb
    · rw [upd_ne e]; exact hb⟩
/-- a new object that is a cell -/
theorem Gr.newC {p : Addr} {o : HO} (hp : H p = none) : Gr A H (A ++ [p]) (upd H p o) :=
  ⟨⟨[p], rfl, fun b hb => by simp at hb; rw [hb]; exact hp⟩, (Gr.new (A := A) hp).keep, (Gr.new (A := A) hp).tr⟩
/-- a cell is changed -/
theorem Gr.put {a : Addr} {o : HO} (m : a ∈ A) : Gr A H A (upd H a o) :=
  ⟨⟨[], by simp⟩, fun b hb nb => upd_ne fun e => nb (by rw [e]; exact m), fun b hb => by
    by_cases e : b = a
    · rw [e, upd_same]; simp
    · rw [upd_ne e]; exact hb⟩
theorem CsOk.fresh (h : CsOk S A G H) {p : Addr} (hp : H p = none) : Out S A p := ⟨fun m => h.ne m hp, fun m => by
  obtain ⟨_, o, e, _⟩ := h.hid p m
  rw [hp] at e; cases e⟩
theorem CsOk.hid_new (h : CsOk S A G H) {p : Addr} {o : HO} (hp : H p = none) : ∀ b ∈ S.hid, b ∉ A ∧ ∃ o', upd H p o b = some o' ∧ Mb o' := fun b hb => by
  obtain ⟨n, o', e, m⟩ := h.hid b hb
  exact ⟨n, o', by rw [upd_ne (fun z => by rw [z, hp] at e; cases e)]; exact e, m⟩
theorem CsOk.new (h : CsOk S A G H) {p : Addr} {o : HO} (hp : H p = none) : CsOk S A G (upd H p o) :=
  ⟨h.len, h.nd, fun n a c e1 e2 => (h.at_ n a c e1 e2).mono (Gr.new hp) (upd_ne fun e => (h.at_ n a c e1 e2).ne (by rw [e]; exact hp)), h.hid_new hp⟩
theorem CsOk.newC (h : CsOk S A G H) {p : Addr} {o : HO} {c : C} (hp : H p = none) (hc : COk S (A ++ [p]) (upd H p o) p c) : CsOk S (A ++ [p]) (G ++ [c]) (upd H p o) := by
  refine ⟨by simp [h.len], ?_, fun n a c' e1 e2 => ?_, fun b hb => ?_⟩
  · rw [List.nodup_append]
    refine ⟨h.nd, by simp, fun x hx y hy => ?_⟩
    simp at hy
    subst hy
    intro e
    subst e
    exact (h.fresh hp).1 hx
  · by_cases hn : n < A.length
    · rw [List.getElem?_append_left hn] at e1
      rw [List.getElem?_append_left (by rw [← h.len]; exact hn)] at e2
      exact (h.at_ n a c' e1 e2).mono (Gr.newC hp) (upd_ne fun e => (h.at_ n a c' e1 e2).ne (by rw [e]; exact hp))
    · have hl : n < (A ++ [p]).length := (List.getElem?_eq_some_iff.mp e1).1
      have e : n = A.length := by simp at hl; omega
      subst e
      rw [List.getElem?_append_right (Nat.le_refl _)] at e1
      rw [List.getElem?_append_right (by rw [h.len]; exact Nat.le_refl _)] at e2
      simp [h.len] at e1 e2
      subst e1 e2
      exact hc
  · obtain ⟨n, o', e, m⟩ := h.hid_new (o := o) hp b hb
    refine ⟨fun z => ?_, o', e, m⟩
    rcases List.mem_append.mp z with z | z
    · exact n z
    · simp at z
      subst z
      exact (h.fresh hp).2 hb
theorem nodup_ne : ∀ {A : List Addr}, A.Nodup → ∀ {m n : Nat} {a b : Addr}, A[m]? = some a → A[n]? = some b → m ≠ n → a ≠ b
  | [], _, m, _, _, _, e1, _, _ => by simp at e1
  | x :: A, nd, 0, 0, _, _, _, _, h => absurd rfl h
  | x :: A, nd, 0, n + 1, a, b, e1, e2, _ => by
    have h := (List.nodup_cons.mp nd).1
    simp at e1 e2
    subst e1
    exact fun e => h (by rw [e]; exact List.mem_of_getElem? e2)
  | x :: A, nd, m + 1, 0, a, b, e1, e2, _ => by
    have h := (List.nodup_cons.mp nd).1
    simp at e1 e2
    subst e2
    exact fun e => h (by rw [← e]; exact List.mem_of_getElem? e1)
  | x :: A, nd, m + 1, n + 1, a, b, e1, e2, h => nodup_ne (List.nodup_cons.mp nd).2 (by simpa using e1) (by simpa using e2) (fun e => h (by rw [e]))
theorem CsOk.put (h : CsOk S A G H) {n : Nat} {a : Addr} {o : HO} {c : C} (e : A[n]? = some a) (hc : COk S A (upd H a o) a c) : CsOk S A (G.set n c) (upd H a o) := by
  have m : a ∈ A := List.mem_of_getElem? e
  refine ⟨by simp [h.len], h.nd, fun k b c' e1 e2 => ?_, fun b hb => by
    obtain ⟨z, o', e1, mb⟩ := h.hid b hb
    exact ⟨z, o', by rw [upd_ne (fun y => z (by rw [y]; exact m))]; exact e1, mb⟩⟩
  by_cases hk : k = n
  · subst hk
    rw [e] at e1
    cases e1
    have hl : k < G.length := by rw [← h.len]; exact (List.getElem?_eq_some_iff.mp e).1
    rw [List.getElem?_set_self hl] at e2
    cases e2
    exact hc
  · rw [List.getElem?_set_ne (Ne.symm hk)] at e2
    exact (h.at_ k b c' e1 e2).mono (Gr.put m) (upd_ne (nodup_ne h.nd e1 e hk))
end
/-- a dict that is no cell is locked, or set free -/
theorem Gs.lock {S : Sta} {A : List Addr} {H : Hp} {b : Addr} {u : HO} {x : HO} (du : DD u) (h : Fz u (H b)) (hx : Fz u (some x)) : Gs S A H A (upd H b x) :=
  ⟨⟨[], by simp⟩, fun c hc nc => by
    by_cases e : c = b
    · subst e; rw [upd_same]; exact .inr ⟨u, du, h, hx⟩
    · rw [upd_ne e]; exact .refl⟩
theorem CsOk.lock {S : Sta} {A : List Addr} {G : List C} {H : Hp} (h : CsOk S A G H) {b : Addr} {u : HO} {x : HO} (nb : Out S A b) (du : DD u) (hb : Fz u (H b)) (hx : Fz u (some x)) : CsOk S A G (upd H b x) :=
  ⟨h.len, h.nd, fun n a c e1 e2 => (h.at_ n a c e1 e2).monoS (Gs.lock du hb hx) (upd_ne fun e => nb.1 (by rw [← e]; exact List.mem_of_getElem? e1)), fun c hc => by
    obtain ⟨z, o', e1, mb⟩ := h.hid c hc
    exact ⟨z, o', by rw [upd_ne (fun y => nb.2 (by rw [← y]; exact hc))]; exact e1, mb⟩⟩
/-- from the locked heap back -/
theorem Gr.unlock {A A' : List Addr} {H H' : Hp} {b : Addr} {u : HO} {o : Obj} (hb : H b = some u) (nb : b ∉ A) (g : Gr A (upd H b (.frz o u)) A' H') : Gr A H A' (upd H' b u) := by
  obtain ⟨B, e, f⟩ := g.pre
  refine ⟨⟨B, e, fun c hc => ?_⟩, fun c hc nc => ?_, fun c hc => ?_⟩
  · have := f c hc
    by_cases e : c = b
    · subst e; rw [upd_same] at this; cases this
    · rw [upd_ne e] at this; exact this
  · by_cases e : c = b
    · subst e; rw [upd_same, hb]
    · rw [upd_ne e, g.keep c (by rw [upd_ne e]; exact hc) nc, upd_ne e]
  · by_cases e : c = b
    · subst e; rw [upd_same]; simp
    · rw [upd_ne e]; exact g.tr c (by rw [upd_ne e]; exact hc)
/-! the slots -/
abbrev En := List (Option D)
def SlOk (S : Sta) (A : List Addr) (H : Hp) (ρ : En) (σ : L2.St) : Prop := ρ.length = σ.length ∧ ∀ (i : Nat) (d : D), ρ[i]? = some (some d) → ∃ v, σ[i]? = some (some v) ∧ Rep S A H v d
theorem SlOk.mono {S : Sta} {A A' : List Addr} {H H' : Hp} {ρ : En} {σ : L2.St} (g : Gr A H A' H') (h : SlOk S A H ρ σ) : SlOk S A' H' ρ σ :=
  ⟨h.1, fun i d e => by
    obtain ⟨v, e1, r⟩ := h.2 i d e
    exact ⟨v, e1, r.mono g⟩⟩
theorem SlOk.monoS {S : Sta} {A A' : List Addr} {H H' : Hp} {ρ : En} {σ : L2.St} (g : Gs S A H A' H') (h : SlOk S A H ρ σ) : SlOk S A' H' ρ σ :=
  ⟨h.1, fun i d e => by
    obtain ⟨v, e1, r⟩ := h.2 i d e
    exact ⟨v, e1, r.monoS g⟩⟩
theorem SlOk.set {S : Sta} {A : List Addr} {H : Hp} {ρ : En} {σ : L2.St} (h : SlOk S A H ρ σ) {v : V} {d : D} (r : Rep S A H v d) (i : Nat) : SlOk S A H (ρ.set i (some d)) (σ.set i (some v)) := by
  refine ⟨by simp [h.1], fun j d' e => ?_⟩
  by_cases hj : i = j
  · subst hj
    have hl : i < (ρ.set i (some d)).length := (List.getElem?_eq_some_iff.mp e).1
    simp at hl
    rw [List.getElem?_set_self hl] at e
    cases e
    exact ⟨v, List.getElem?_set_self (by rw [← h.1]; exact hl), r⟩
  · rw [List.getElem?_set_ne hj] at e
    obtain ⟨w, e1, r1⟩ := h.2 j d' e
    exact ⟨w, by rw [List.getElem?_set_ne hj]; exact e1, r1⟩
def wipeD (ρ : En) : List Nat → En
  | [] => ρ
  | v :: vs => (wipeD ρ vs).set v none
theorem SlOk.wipe {S : Sta} {A : List Addr} {H : Hp} {ρ : En} {σ : L2.St} (h : SlOk S A H ρ σ) : ∀ vs : List Nat, SlOk S A H (wipeD ρ vs) (wipe σ vs)
  | [] => h
  | v :: vs => by
    have q := SlOk.wipe h vs
    unfold wipeD L2.wipe
    refine ⟨by simp [q.1], fun j d' e => ?_⟩
    by_cases hj : v = j
    · subst hj
      have hl : v < ((wipeD ρ vs).set v none).length := (List.getElem?_eq_some_iff.mp e).1
      simp at hl
      rw [List.getElem?_set_self hl] at e
      cases e
    · rw [List.getElem?_set_ne hj] at e
      obtain ⟨w, e1, r1⟩ := q.2 j d' e
      exact ⟨w, by rw [List.getElem?_set_ne hj]; exact e1, r1⟩
end Iv

set_option Elab.async false
set_option linter.all false
set_option maxRecDepth 100000
set_option maxHeartbeats 4000000
namespace Iv
open PySem PySem.Spec PyProof.Rows L2

/-! trees without cells; the freezing of a local object; equality -/
mutual
/-- no cell from the k-th on -/
def D.clean (k : Nat) : D → Bool
  | .cell n => decide (n < k)
  | .lst xs => D.cleans k xs
  | .tup xs => D.cleans k xs
  | .wls xs => D.cleans k xs
  | .dic _ _ vs => D.cleans k vs
  | .ins _ _ vs => D.cleans k vs
  | .non => true | .bl _ => true | .int _ => true | .str _ => true
def D.cleans (k : Nat) : List D → Bool
  | [] => true
  | x :: xs => D.clean k x && D.cleans k xs
end
def C.clean (k : Nat) : C → Bool
  | .lst xs => D.cleans k xs
  | .dK _ vs => D.cleans k vs
  | .dT _ vs => D.cleans k vs
  | .ins _ _ vs => D.cleans k vs
mutual
def frzI (g : Nat → Option D) : D → Option D
  | .cell n => g n
  | .lst xs => (frzIs g xs).map .lst
  | .tup xs => (frzIs g xs).map .tup
  | .wls xs => (frzIs g xs).map .wls
  | .dic t ks vs => (frzIs g vs).map (.dic t ks)
  | .ins c fs vs => (frzIs g vs).map (.ins c fs)
  | .non => some .non | .bl b => some (.bl b) | .int i => some (.int i) | .str s => some (.str s)
def frzIs (g : Nat → Option D) : List D → Option (List D)
  | [] => some []
  | x :: xs => match frzI g x with
    | some y => match frzIs g xs with
      | some ys => some (y :: ys)
      | none => none
    | none => none
end
def frzC (g : Nat → Option D) : C → Option C
  | .lst xs => (frzIs g xs).map .lst
  | .dK ks vs => (frzIs g vs).map (.dK ks)
  | .dT ks vs => (frzIs g vs).map (.dT ks)
  | .ins c fs vs => (frzIs g vs).map (.ins c fs)
def C.toD : C → D
  | .lst xs => .lst xs
  | .dK ks vs => .dic false ks vs
  | .dT ks vs => .dic true ks vs
  | .ins c fs vs => .ins c fs vs
/-- the tree behind the n-th cell, cells below k left as they are -/
def frz (G : List C) (k : Nat) (x : Option Nat) : Nat → Nat → Option D
  | 0, n => if n < k then some (.cell n) else none
  | t + 1, n => if n < k then some (.cell n) else if x = some n then none else match G[n]? with
    | some c => (frzC (frz G k x t) c).map C.toD
    | none => none

mutual
def eqD : D → D → Bool
  | .non, .non => true
  | .bl a, .bl b => a == b
  | .bl a, .int j => (if a then 1 else 0) == j
  | .int i, .bl b => i == (if b then 1 else 0)
  | .int i, .int j => i == j
  | .str x, .str y => x == y
  | .lst xs, .lst ys => eqDs xs ys
  | .tup xs, .tup ys => eqDs xs ys
  | _, _ => false
def eqDs : List D → List D → Bool
  | [], [] => true
  | x :: xs, y :: ys => eqD x y && eqDs xs ys
  | _, _ => false
end
mutual
/-- plain data: no cells, no instances; with dicts only if w -/
def D.plain (w : Bool) : D → Bool
  | .cell _ => false
  | .wls _ => false
  | .lst xs => D.plains w xs
  | .tup xs => D.plains w xs
  | .dic _ _ vs => w
  | .ins _ _ _ => false
  | .non => true | .bl _ => true | .int _ => true | .str _ => true
def D.plains (w : Bool) : List D → Bool
  | [] => true
  | x :: xs => D.plain w x && D.plains w xs
end
mutual
def D.depth : D → Nat
  | .lst xs => D.depths xs + 1
  | .tup xs => D.depths xs + 1
  | .dic _ _ _ => 1
  | _ => 0
def D.depths : List D → Nat
  | [] => 0
  | x :: xs => max (D.depth x) (D.depths xs)
end
/-- whether x == y is known here -/
def eqOk (x y : D) : Bool := D.plain false x && D.plain false y && decide (D.depth x ≤ 60)

/-! dicts -/
def kE1 : D → D → Bool
  | .int i, .int j => i == j
  | .str x, .str y => x == y
  | _, _ => false
def kEs : List D → List D → Bool
  | [], [] => true
  | x :: xs, y :: ys => kE1 x y && kEs xs ys
  | _, _ => false
/-- equality of keys: ints, texts, tuples of them -/
def kEq : D → D → Bool
  | .tup xs, .tup ys => kEs xs ys
  | x, y => kE1 x y
def dget : List D → List D → D → Option D
  | k :: ks, v :: vs, x => if kEq k x then some v else dget ks vs x
  | _, _, _ => none
def dputV (ks vs : List D) (x y : D) : List D := if (ks.any fun k => kEq k x) = true then List.zipWith (fun k v => if kEq k x = true then y else v) ks vs else vs ++ [y]
def dputK (ks : List D) (x : D) : List D := if (ks.any fun k => kEq k x) = true then ks else ks ++ [x]
/-- keys of ints and texts; of tuples of them -/
def isK : D → Bool
  | .int _ => true
  | .str _ => true
  | _ => false
def isT : D → Bool
  | .tup xs => xs.all isK && decide (xs.length ≤ 2)
  | _ => false
/-- a key of that kind -/
def isKey (t : Bool) (k : D) : Bool := if t then isT k else isK k

/-! the language -/
inductive BO where | add | sub | mul | fdiv | mod | pow
inductive CO where | eq | ne | lt | le | gt | ge | inn | nin | isn | notn
inductive IK where | plain | range1 | range2 | enum | zip | items
inductive BI where | len | all | any | tuple | list | dictC | dictP | int | repr | max2 | min2 | abs | divmod | sorted
inductive MT where | split | words | join | endswith | startswith | replace | get1 | get2 | index | count | values | append | insert | popAt | pop | extend | replace3 | upper

inductive E where
  | nil | cons (h t : E) | star (h t : E)
  | var (i : Nat) | int (i : Int) | str (s : Str) | bl (b : Bool) | non
  | gl (x : Str) (d : D)
  | bin (o : BO) (c : Bool) (a b : E) | neg (a : E)
  | cmp (o : CO) (a b : E) | chain (o o' : CO) (a b c : E)
  | and (a b : E) | or (a b : E) | not (a : E) | ite (c a b : E)
  | lst (c : Bool) (es : E) | tup (es : E) | dK0 (c : Bool) | dT0 (c : Bool) | dic (c : Bool) (kvs : E)
  | idx (a i : E) | slice (c : Bool) (a lo hi : E) | rev (c : Bool) (a : E)
  | attr (a : E) (f : Str)
  | call (f : Str) (es : E) | callK (f : Str) (g : List Nat) (es : E) | new (c : Str) (es : E)
  | bi (b : BI) (c : Bool) (es : E) | isi (a : E) (t : String)
  | lenSet (a : E) | sortSet (c : Bool) (a : E) | dictZ (c : Bool) (a b : E)
  | meth (m : MT) (c : Bool) (o : E) (es : E)
  | comp (c : Bool) (own : List (Str × Nat)) (k : IK) (a b t tst elt : E)
  | replC (y z : Str) (o : E)
  | comp2 (c : Bool) (own : List (Str × Nat)) (own1 : List Nat) (k : IK) (a b t : E) (k1 : IK) (a1 b1 t1 : E) (elt : E)
inductive St where
  | skip | seq (s t : St)
  | asg (t e : E) | par (is : List Nat) (es : E) | aug (i : Nat) (o : BO) (e : E)
  | ex (e : E) | ret (e : E) | ifs (c : E) (s t : St) | fors (k : IK) (a b t : E) (s : St) | whl (c : E) (s : St) | brk | cnt
inductive Res where | nx | bk | ct | ret (d : D)

/-! the operations -/
def mkL (c : Bool) (xs : List D) (G : List C) : Option (D × List C) :=
  if xs.length ≤ sizeLine then (if c then some (.cell G.length, G ++ [.lst xs]) else some (.lst xs, G)) else none
def mkK (c : Bool) (ks vs : List D) (G : List C) : Option (D × List C) :=
  if c then some (.cell G.length, G ++ [.dK ks vs]) else some (.dic false ks vs, G)
def lstOf (G : List C) : D → Option (List D)
  | .lst xs => some xs
  | .cell n => match G[n]? with
    | some (.lst xs) => some xs
    | _ => none
  | _ => none
def dicOf (G : List C) : D → Option (Bool × List D × List D)
  | .dic t ks vs => some (t, ks, vs)
  | .cell n => match G[n]? with
    | some (.dK ks vs) => some (false, ks, vs)
    | some (.dT ks vs) => some (true, ks, vs)
    | _ => none
  | _ => none
/-- a list or a tuple -/
def seqOf (G : List C) : D → Option (List D)
  | .tup xs => some xs
  | d => lstOf G d
def big : Int := 18446744073709551616
def binD (o : BO) (c : Bool) (x y : D) (G : List C) : Option (D × List C) :=
  match o, x, y with
  | .add, .int i, .int j => some (.int (i + j), G)
  | .sub, .int i, .int j => some (.int (i - j), G)
  | .mul, .int i, .int j => if (-big < i ∧ i < big) ∨ (-big < j ∧ j < big) then some (.int (i * j), G) else none
  | .fdiv, .int i, .int j => if 0 < j ∧ j < 1073741824 then some (.int (i / j), G) else none
  | .mod, .int i, .int j => if 0 < j then some (.int (i % j), G) else none
  | .pow, .int i, .int j => if 0 ≤ j ∧ j ≤ 1000000 ∧ i.natAbs < 2 ^ 64 then some (.int (i ^ j.toNat), G) else none
  | .add, .str a, .str b => if a.length + b.length ≤ sizeLine then some (.str (a ++ b), G) else none
  | .add, .tup xs, .tup ys => if xs.length + ys.length ≤ sizeLine then some (.tup (xs ++ ys), G) else none
  | .add, x, y => match lstOf G x, lstOf G y with
    | some xs, some ys => mkL c (xs ++ ys) G
    | _, _ => none
  | .mul, x, .int k => match lstOf G x with
    | some xs => if 0 ≤ k ∧ k < 1048576 then mkL c (List.replicate k.toNat xs).flatten G else none
    | none => none
  | _, _, _ => none
def strIn (x y : Str) : Bool := !(Builtin.Str.occurrences y x 0 y.length 1).isEmpty
def inD (x y : D) (G : List C) : Option Bool :=
  match y with
  | .str b => match x with
    | .str a => some (strIn a b)
    | _ => none
  | _ => match seqOf G y with
    | some ys => if (ys.all fun z => eqOk z x) && D.plain false x then some (ys.any fun z => eqD z x) else none
    | none => match dicOf G y with
      | some (t, ks, vs) => if isKey t x then some (dget ks vs x).isSome else none
      | none => none
def cmpD (o : CO) (x y : D) (G : List C) : Option Bool :=
  match o with
  | .eq => match lstOf G x, lstOf G y with
    | some xs, some ys => if eqOk (.lst xs) (.lst ys) then some (eqD (.lst xs) (.lst ys)) else none
    | _, _ => if eqOk x y then some (eqD x y) else none
  | .ne => match lstOf G x, lstOf G y with
    | some xs, some ys => if eqOk (.lst xs) (.lst ys) then some (!eqD (.lst xs) (.lst ys)) else none
    | _, _ => if eqOk x y then some (!eqD x y) else none
  | .lt => match x, y with
    | .int i, .int j => some (decide (i < j))
    | .str a, .str b => some (decide (a.cps.toList < b.cps.toList))
    | _, _ => none
  | .le => match x, y with
    | .int i, .int j => some (decide (i ≤ j))
    | .str a, .str b => some (!decide (b.cps.toList < a.cps.toList))
    | _, _ => none
  | .gt => match x, y with
    | .int i, .int j => some (decide (j < i))
    | .str a, .str b => some (decide (b.cps.toList < a.cps.toList))
    | _, _ => none
  | .ge => match x, y with
    | .int i, .int j => some (decide (j ≤ i))
    | .str a, .str b => some (!decide (a.cps.toList < b.cps.toList))
    | _, _ => none
  | .inn => inD x y G
  | .nin => (inD x y G).map not
  | .isn => match x, y with
    | .non, .non => some true
    | _, .non => some false
    | _, _ => none
  | .notn => match x, y with
    | .non, .non => some false
    | _, .non => some true
    | _, _ => none
def sgn (c : Nat) : Str := ⟨#[c]⟩
def idxD (x i : D) (G : List C) : Option D :=
  match x, i with
  | .tup xs, .int k => atI xs k
  | .wls xs, .int k => atI xs k
  | .str z, .int k => if z.length ≤ sizeLine then (atI z.cps.toList k).map fun c => .str (sgn c) else none
  | x, i => match lstOf G x with
    | some xs => match i with
      | .int k => atI xs k
      | _ => none
    | none => match dicOf G x with
      | some (t, ks, vs) => if isKey t i then dget ks vs i else none
      | none => none
def cutD (xs : List D) (lo hi : Option Int) : List D := (xs.drop (HT.sIx xs.length 0 lo)).take (HT.sIx xs.length xs.length hi - HT.sIx xs.length 0 lo)
def sliceD (c : Bool) (x : D) (lo hi : Option Int) (G : List C) : Option (D × List C) :=
  match x with
  | .str z => if z.length ≤ sizeLine then some (.str (cutS z lo hi), G) else none
  | .tup xs => some (.tup (cutD xs lo hi), G)
  | .wls xs => mkL c (cutD xs lo hi) G
  | x => match lstOf G x with
    | some xs => mkL c (cutD xs lo hi) G
    | none => none
def blsOf : List D → Option (List Bool)
  | [] => some []
  | .bl b :: r => (blsOf r).map (b :: ·)
  | _ => none
def strsOf : List D → Option (List Str)
  | [] => some []
  | .str b :: r => (strsOf r).map (b :: ·)
  | _ => none
def fieldOf : List Str → List D → Str → Option D
  | f :: fs, v :: vs, g => if f = g then some v else fieldOf fs vs g
  | _, _, _ => none
def attrD (x : D) (f : Str) (G : List C) : Option D :=
  match x with
  | .ins _ fs vs => fieldOf fs vs f
  | .cell n => match G[n]? with
    | some (.ins _ fs vs) => fieldOf fs vs f
    | _ => none
  | _ => none
/-- the items that a walk yields -/
def itemsOf (k : IK) (x y : D) (G : List C) : Option (List D) :=
  match k with
  | .plain => match x with
    | .lst xs => some xs
    | .wls xs => some xs
    | .tup xs => some xs
    | .str z => some (z.cps.toList.map fun c => .str (sgn c))
    | .dic _ ks _ => some ks
    | _ => none
  | .range1 => match x with
    | .int n => if -1048576 < n ∧ n < 1048576 then some ((List.range n.toNat).map fun (i : Nat) => .int i) else none
    | _ => none
  | .range2 => match x, y with
    | .int m, .int n => if (-1048576 < m ∧ m < 1048576) ∧ -1048576 < n ∧ n < 1048576 then some ((List.range (n - m).toNat).map fun (i : Nat) => .int (m + i)) else none
    | _, _ => none
  | .enum => match x with
    | .lst xs => some (List.zipWith (fun (i : Nat) d => .tup [.int i, d]) (List.range xs.length) xs)
    | _ => none
  | .zip => match x, y with
    | .lst xs, .lst ys => some (List.zipWith (fun a b => .tup [a, b]) xs ys)
    | .tup xs, .tup ys => some (List.zipWith (fun a b => .tup [a, b]) xs ys)
    | .tup xs, .lst ys => some (List.zipWith (fun a b => .tup [a, b]) xs ys)
    | _, _ => none
  | .items => match x with
    | .dic _ ks vs => some (ks.zipWith (fun a b => .tup [a, b]) vs)
    | _ => none
/-- .. of what is no dict -/
def itemsN (k : IK) (x y : D) (G : List C) : Option (List D) :=
  match x with
  | .dic _ _ _ => none
  | x => itemsOf k x y G
/-- plain targets: a name, a tuple of names -/
def bindVs : E → List D → En → Option En
  | .nil, [], ρ => some ρ
  | .cons (.var i) t, d :: ds, ρ => bindVs t ds (ρ.set i (some d))
  | _, _, _ => none
def bindV : E → D → En → Option En
  | .var i, d, ρ => some (ρ.set i (some d))
  | .tup ts, .tup ds, ρ => bindVs ts ds ρ
  | _, _, _ => none
def compL (step : D → List C → Option (List D × List C)) : List D → List C → Option (List D × List C)
  | [], G => some ([], G)
  | x :: xs, G => match step x G with
    | some (ys, G1) => match compL step xs G1 with
      | some (zs, G2) => some (ys ++ zs, G2)
      | none => none
    | none => none
end Iv

set_option Elab.async false
set_option linter.all false
set_option maxRecDepth 100000
set_option maxHeartbeats 4000000
namespace Iv
open PySem PySem.Spec PyProof.Rows L2

def dputs (ks vs : List D) : List (D × D) → List D × List D
  | [] => (ks, vs)
  | p :: r => dputs (dputK ks p.1) (dputV ks vs p.1 p.2) r
def pairsOf : List D → Option (List (D × D))
  | [] => some []
  | .tup [a, b] :: r => if isK a then (pairsOf r).map ((a, b) :: ·) else none
  | _ => none
def altOf : List D → Option (List (D × D))
  | [] => some []
  | a :: b :: r => if isK a then (altOf r).map ((a, b) :: ·) else none
  | _ => none
def lenD (x : D) (G : List C) : Option Nat :=
  match x with
  | .str z => if z.length ≤ sizeLine then some z.length else none
  | .tup xs => some xs.length
  | .wls xs => some xs.length
  | x => match lstOf G x with
    | some xs => some xs.length
    | none => match dicOf G x with
      | some (_, ks, _) => some ks.length
      | none => none
def biD (b : BI) (c : Bool) (ds : List D) (G : List C) : Option (D × List C) :=
  match b, ds with
  | .len, [x] => (lenD x G).map fun n => (.int n, G)
  | .all, [x] => match lstOf G x with
    | some xs => (blsOf xs).map fun bs => (.bl (bs.all id), G)
    | none => none
  | .any, [x] => match lstOf G x with
    | some xs => (blsOf xs).map fun bs => (.bl (bs.any id), G)
    | none => none
  | .tuple, [x] => match x with
    | .tup xs => some (.tup xs, G)
    | x => (lstOf G x).map fun xs => (.tup xs, G)
  | .list, [x] => match seqOf G x with
    | some xs => mkL c xs G
    | none => match dicOf G x with
      | some (_, ks, _) => mkL c ks G
      | none => none
  | .dictC, [x] => match dicOf G x with
    | some (t, ks, vs) => if t then none else mkK c ks vs G
    | none => none
  | .dictP, [x] => match lstOf G x with
    | some xs => match pairsOf xs with
      | some ps => mkK c (dputs [] [] ps).1 (dputs [] [] ps).2 G
      | none => none
    | none => none
  | .int, [.int i] => some (.int i, G)
  | .int, [.bl b] => some (.int (if b then 1 else 0), G)
  | .repr, [.bl b] => some (.str (if b then "True" else "False"), G)
  | .repr, [.non] => some (.str "None", G)
  | .max2, [.int i, .int j] => some (.int (if j > i then j else i), G)
  | .min2, [.int i, .int j] => some (.int (if j < i then j else i), G)
  | .abs, [.int i] => some (.int (if i < 0 then -i else i), G)
  | .divmod, [.int i, .int j] => if 0 < j ∧ j < 1073741824 then some (.tup [.int (i / j), .int (i % j)], G) else none
  | _, _ => none
def methD (m : MT) (c : Bool) (o : D) (ds : List D) (G : List C) : Option (D × List C) :=
  match m with
  | .split => match o, ds with
    | .str a, [.str b] => if (b.length == 0) = false ∧ a.length + 2 ≤ sizeLine then mkL c ((Txt.split a b).map .str) G else none
    | _, _ => none
  | .words => match o, ds with
    | .str a, [] => if a.length + 2 ≤ sizeLine then mkL c ((Txt.words a).map .str) G else none
    | _, _ => none
  | .join => match o, ds with
    | .str a, [x] => match seqOf G x with
      | some xs => match strsOf xs with
        | some ys => if (ys.map (·.length)).sum + ys.length * a.length ≤ 16777216 then some (.str (Txt.join a ys), G) else none
        | none => none
      | none => none
    | _, _ => none
  | .endswith => match o, ds with
    | .str a, [.str b] => some (.bl (Txt.endswith a b), G)
    | _, _ => none
  | .startswith => match o, ds with
    | .str a, [.str b] => some (.bl (Txt.startswith a b), G)
    | _, _ => none
  | .get1 => match ds with
    | [k] => match dicOf G o with
      | some (t, ks, vs) => if isKey t k then some ((dget ks vs k).getD .non, G) else none
      | none => none
    | _ => none
  | .get2 => match ds with
    | [k, z] => match dicOf G o with
      | some (t, ks, vs) => if isKey t k then some ((dget ks vs k).getD z, G) else none
      | none => none
    | _ => none
  | .append => match o, ds with
    | .cell n, [x] => match G[n]? with
      | some (.lst xs) => if xs.length < sizeLine then some (.non, G.set n (.lst (xs ++ [x]))) else none
      | _ => none
    | _, _ => none
  | _ => none
/-- what a method asks of the object before the arguments are read -/
def methOk (m : MT) (x : D) (G : List C) : Bool :=
  match m with
  | .get1 => (dicOf G x).isSome
  | .get2 => (dicOf G x).isSome
  | .append => (lstOf G x).isSome
  | _ => true
def setD (o i v : D) (G : List C) : Option (List C) :=
  match o with
  | .cell n => match G[n]?, i with
    | some (.lst xs), .int k => match ixN xs.length k with
      | some j => some (G.set n (.lst (xs.set j v)))
      | none => none
    | some (.dK ks vs), i => if isKey false i && decide (ks.length < sizeLine) then some (G.set n (.dK (dputK ks i) (dputV ks vs i v))) else none
    | some (.dT ks vs), i => if isKey true i && decide (ks.length < sizeLine) then some (G.set n (.dT (dputK ks i) (dputV ks vs i v))) else none
    | _, _ => none
  | _ => none
def putFd (f : Str) (v : D) : List Str → List D → List Str × List D
  | g :: gs, w :: ws => if g = f then (g :: gs, v :: ws) else ((g :: (putFd f v gs ws).1), (w :: (putFd f v gs ws).2))
  | _, _ => ([f], [v])
def setA (o : D) (f : Str) (v : D) (G : List C) : Option (List C) :=
  match o with
  | .cell n => match G[n]? with
    | some (.ins c fs vs) => if fs.length < 900 then some (G.set n (.ins c (putFd f v fs vs).1 (putFd f v fs vs).2)) else none
    | _ => none
  | _ => none
def tyD (x : D) (G : List C) : Option String :=
  match x with
  | .non => some "NoneType" | .bl _ => some "bool" | .int _ => some "int" | .str _ => some "str" | .lst _ => some "list" | .tup _ => some "tuple" | .dic t _ _ => if t then none else some "dict"
  | .ins _ _ _ => none
  | .wls _ => none
  | .cell n => match G[n]? with
    | some (.lst _) => some "list" | some (.dK _ _) => some "dict" | some (.dT _ _) => some "dict" | _ => none

/-- calls of defs: false; of an __init__: true -/
abbrev CF := Bool → Str → List D → List C → Option (D × List C)

def isNil : E → Bool
  | .nil => true
  | _ => false
mutual
def evE (cf : CF) : E → En → List C → Option (D × List C)
  | .nil, _, G => some (.bl true, G)
  | .cons _ _, _, _ => none
  | .star _ _, _, _ => none
  | .var i, ρ, G => match ρ[i]? with
    | some (some d) => some (d, G)
    | _ => none
  | .int i, _, G => some (.int i, G)
  | .str s, _, G => some (.str s, G)
  | .bl b, _, G => some (.bl b, G)
  | .non, _, G => some (.non, G)
  | .gl _ d, _, G => some (d, G)
  | .bin o c a b, ρ, G => match evE cf a ρ G with
    | some (x, G1) => match evE cf b ρ G1 with
      | some (y, G2) => binD o c x y G2
      | none => none
    | none => none
  | .neg a, ρ, G => match evE cf a ρ G with
    | some (.int i, G1) => some (.int (-i), G1)
    | _ => none
  | .cmp o a b, ρ, G => match evE cf a ρ G with
    | some (x, G1) => match evE cf b ρ G1 with
      | some (y, G2) => match cmpD o x y G2 with
        | some r => some (.bl r, G2)
        | none => none
      | none => none
    | none => none
  | .chain o o' a b c, ρ, G => match evE cf a ρ G with
    | some (x, G1) => match evE cf b ρ G1 with
      | some (y, G2) => match cmpD o x y G2 with
        | some true => match evE cf c ρ G2 with
          | some (z, G3) => match cmpD o' y z G3 with
            | some r => some (.bl r, G3)
            | none => none
          | none => none
        | some false => some (.bl false, G2)
        | none => none
      | none => none
    | none => none
  | .and a b, ρ, G => match evE cf a ρ G with
    | some (.bl true, G1) => evE cf b ρ G1
    | some (.bl false, G1) => some (.bl false, G1)
    | _ => none
  | .or a b, ρ, G => match evE cf a ρ G with
    | some (.bl true, G1) => some (.bl true, G1)
    | some (.bl false, G1) => evE cf b ρ G1
    | _ => none
  | .not a, ρ, G => match evE cf a ρ G with
    | some (.bl r, G1) => some (.bl (!r), G1)
    | _ => none
  | .ite c a b, ρ, G => match evE cf c ρ G with
    | some (.bl true, G1) => evE cf a ρ G1
    | some (.bl false, G1) => evE cf b ρ G1
    | _ => none
  | .lst c es, ρ, G => match evL cf es ρ G with
    | some (xs, G1) => mkL c xs G1
    | none => none
  | .tup es, ρ, G => match evL cf es ρ G with
    | some (xs, G1) => if xs.length ≤ sizeLine then some (.tup xs, G1) else none
    | none => none
  | .dK0 c, _, G => if c then some (.cell G.length, G ++ [.dK [] []]) else some (.dic false [] [], G)
  | .dT0 c, _, G => if c then some (.cell G.length, G ++ [.dT [] []]) else some (.dic true [] [], G)
  | .dic _ es, ρ, G => match evL cf es ρ (G ++ [.dK [] []]) with
    | some (xs, G1) => match altOf xs with
      | some ps => match G1[G.length]? with
        | some (.dK [] []) => if ps.length ≤ 15 then some (.cell G.length, G1.set G.length (.dK (dputs [] [] ps).1 (dputs [] [] ps).2)) else none
        | _ => none
      | none => none
    | none => none
  | .idx a i, ρ, G => match evE cf a ρ G with
    | some (x, G1) => match evE cf i ρ G1 with
      | some (y, G2) => match idxD x y G2 with
        | some r => some (r, G2)
        | none => none
      | none => none
    | none => none
  | .slice c a lo hi, ρ, G => match evE cf a ρ G with
    | some (x, G1) => match (if isNil lo then some (none, G1) else match evE cf lo ρ G1 with
        | some (.int i, G2) => some (some i, G2)
        | _ => none) with
      | some (l, G2) => match (if isNil hi then some (none, G2) else match evE cf hi ρ G2 with
          | some (.int i, G3) => some (some i, G3)
          | _ => none) with
        | some (h, G3) => sliceD c x l h G3
        | none => none
      | none => none
    | none => none
  | .rev c a, ρ, G => match evE cf a ρ G with
    | some (.tup xs, G1) => some (.tup xs.reverse, G1)
    | some (x, G1) => match lstOf G1 x with
      | some xs => mkL c xs.reverse G1
      | none => none
    | none => none
  | .attr a f, ρ, G => match evE cf a ρ G with
    | some (x, G1) => match attrD x f G1 with
      | some r => some (r, G1)
      | none => none
    | none => none
  | .call f es, ρ, G => match evL cf es ρ G with
    | some (xs, G1) => cf false f xs G1
    | none => none
  | .callK f g es, ρ, G => match evL cf es ρ G with
    | some (xs, G1) => cf false f (g.filterMap fun i => xs[i]?) G1
    | none => none
  | .new c es, ρ, G => match evL cf es ρ G with
    | some (xs, G1) => match cf true c (.cell G1.length :: xs) (G1 ++ [.ins c [] []]) with
      | some (.non, G2) => some (.cell G1.length, G2)
      | _ => none
    | none => none
  | .bi b c es, ρ, G => match evL cf es ρ G with
    | some (xs, G1) => biD b c xs G1
    | none => none
  | .isi a t, ρ, G => match evE cf a ρ G with
    | some (x, G1) => match tyD x G1 with
      | some u => some (.bl (u == t || (u == "bool" && t == "int")), G1)
      | none => none
    | none => none
  | .lenSet a, ρ, G => match evE cf a ρ G with
    | some (x, G1) => match lstOf G1 x with
      | some xs => match strsOf xs with
        | some ys => if ys.length < 1000 then some (.int (ys.eraseDups.length : Nat), G1) else none
        | none => none
      | none => none
    | none => none
  | .sortSet c a, ρ, G => match evE cf a ρ G with
    | some (x, G1) => match lstOf G1 x with
      | some xs => match strsOf xs with
        | some ys => if ys.length < 1000 then mkL c ((ys.eraseDups.mergeSort (fun a b => !decide (b.cps.toList < a.cps.toList))).map .str) G1 else none
        | none => none
      | none => none
    | none => none
  | .dictZ c a b, ρ, G => match evE cf a ρ G with
    | some (x, G1) => match evE cf b ρ G1 with
      | some (y, G2) => match x with
        | .tup xs => match lstOf G2 y with
          | some ys => match pairsOf (List.zipWith (fun a b => .tup [a, b]) xs ys) with
            | some ps => mkK c (dputs [] [] ps).1 (dputs [] [] ps).2 G2
            | none => none
          | none => none
        | _ => none
      | none => none
    | none => none
  | .meth m c o es, ρ, G => match evE cf o ρ G with
    | some (x, G1) => match methOk m x G1 with
      | true => match evL cf es ρ G1 with
        | some (xs, G2) => methD m c x xs G2
        | none => none
      | false => none
    | none => none
  | .replC y z o, ρ, G => match evE cf o ρ G with
    | some (.str a, G1) => if (y == z) = false ∧ a.length + (a.length + 1) * z.length ≤ 16777216 then some (.str (Txt.replace a y z), G1) else none
    | _ => none
  | .comp c own k a b t tst elt, ρ, G => match evE cf a ρ G with
    | some (x, G1) => match evE cf b ρ G1 with
      | some (y, G2) => match itemsOf k x y G2 with
        | some its => match compL (fun d G => match bindV t d (wipeD ρ (own.map (·.2))) with
            | some ρ2 => match evE cf tst ρ2 G with
              | some (.bl true, G3) => match evE cf elt ρ2 G3 with
                | some (v, G4) => some ([v], G4)
                | none => none
              | some (.bl false, G3) => some ([], G3)
              | _ => none
            | none => none) its G2 with
          | some (vs, G5) => mkL c vs G5
          | none => none
        | none => none
      | none => none
    | none => none
  | .comp2 c own own1 k a b t k1 a1 b1 t1 elt, ρ, G => match evE cf a ρ G with
    | some (x, G1) => match evE cf b ρ G1 with
      | some (y, G2) => match itemsOf k x y G2 with
        | some its => match compL (fun d G => match bindV t d (wipeD ρ (own.map (·.2))) with
            | some ρ2 => match evE cf a1 ρ2 G with
              | some (x1, G3) => match evE cf b1 ρ2 G3 with
                | some (y1, G4) => match itemsN k1 x1 y1 G4 with
                  | some its1 => compL (fun d G => match bindV t1 d (wipeD ρ2 own1) with
                    | some ρ3 => match evE cf elt ρ3 G with
                      | some (v, G5) => some ([v], G5)
                      | none => none
                    | none => none) its1 G4
                  | none => none
                | none => none
              | none => none
            | none => none) its G2 with
          | some (vs, G5) => mkL c vs G5
          | none => none
        | none => none
      | none => none
    | none => none
def evL (cf : CF) : E → En → List C → Option (List D × List C)
  | .nil, _, G => some ([], G)
  | .cons h t, ρ, G => match evE cf h ρ G with
    | some (x, G1) => match evL cf t ρ G1 with
      | some (xs, G2) => some (x :: xs, G2)
      | none => none
    | none => none
  | .star h t, ρ, G => match evE cf h ρ G with
    | some (x, G1) => match seqOf G1 x with
      | some ys => match evL cf t ρ G1 with
        | some (xs, G2) => some (ys ++ xs, G2)
        | none => none
      | none => match dicOf G1 x with
        | some (false, ks, _) => match evL cf t ρ G1 with
          | some (xs, G2) => some (ks ++ xs, G2)
          | none => none
        | _ => none
    | none => none
  | _, _, _ => none
end
mutual
def asgD (cf : CF) : E → D → En → List C → Option (En × List C)
  | .var i, d, ρ, G => some (ρ.set i (some d), G)
  | .idx o i, d, ρ, G => match evE cf o ρ G with
    | some (x, G1) => match evE cf i ρ G1 with
      | some (y, G2) => match setD x y d G2 with
        | some G3 => some (ρ, G3)
        | none => none
      | none => none
    | none => none
  | .attr o f, d, ρ, G => match evE cf o ρ G with
    | some (x, G1) => match setA x f d G1 with
      | some G2 => some (ρ, G2)
      | none => none
    | none => none
  | .tup ts, .tup ds, ρ, G => asgDs cf ts ds ρ G
  | _, _, _, _ => none
def asgDs (cf : CF) : E → List D → En → List C → Option (En × List C)
  | .nil, [], ρ, G => some (ρ, G)
  | .cons h t, d :: ds, ρ, G => match asgD cf h d ρ G with
    | some (ρ1, G1) => asgDs cf t ds ρ1 G1
    | none => none
  | _, _, _, _ => none
end
def setMany : List Nat → List D → En → Option En
  | [], [], ρ => some ρ
  | i :: is, d :: ds, ρ => setMany is ds (ρ.set i (some d))
  | _, _, _ => none
def loopS (step : D → En → List C → Option (Res × En × List C)) : List D → En → List C → Option (Res × En × List C)
  | [], ρ, G => some (.nx, ρ, G)
  | x :: xs, ρ, G => match step x ρ G with
    | some (.nx, ρ1, G1) => loopS step xs ρ1 G1
    | some (.ct, ρ1, G1) => loopS step xs ρ1 G1
    | some (.bk, ρ1, G1) => some (.nx, ρ1, G1)
    | some (.ret d, ρ1, G1) => some (.ret d, ρ1, G1)
    | none => none
def whileS (c : En → List C → Option (D × List C)) (b : En → List C → Option (Res × En × List C)) : Nat → En → List C → Option (Res × En × List C)
  | 0, _, _ => none
  | n + 1, ρ, G => match c ρ G with
    | some (.bl true, G1) => match b ρ G1 with
      | some (.nx, ρ1, G2) => whileS c b n ρ1 G2
      | some (.ct, ρ1, G2) => whileS c b n ρ1 G2
      | some (.bk, ρ1, G2) => some (.nx, ρ1, G2)
      | some (.ret d, ρ1, G2) => some (.ret d, ρ1, G2)
      | none => none
    | some (.bl false, G1) => some (.nx, ρ, G1)
    | _ => none
def evS (cf : CF) (wf : Nat) : St → En → List C → Option (Res × En × List C)
  | .skip, ρ, G => some (.nx, ρ, G)
  | .seq s t, ρ, G => match evS cf wf s ρ G with
    | some (.nx, ρ1, G1) => evS cf wf t ρ1 G1
    | r => r
  | .asg t e, ρ, G => match evE cf e ρ G with
    | some (d, G1) => match asgD cf t d ρ G1 with
      | some (ρ2, G2) => some (.nx, ρ2, G2)
      | none => none
    | none => none
  | .par is es, ρ, G => match evL cf es ρ G with
    | some (ds, G1) => match setMany is ds ρ with
      | some ρ1 => some (.nx, ρ1, G1)
      | none => none
    | none => none
  | .aug i o e, ρ, G => match ρ[i]? with
    | some (some x) => match evE cf e ρ G with
      | some (y, G1) => match o, x, y with
        | .add, .int a, .int b => some (.nx, ρ.set i (some (.int (a + b))), G1)
        | .sub, .int a, .int b => some (.nx, ρ.set i (some (.int (a - b))), G1)
        | _, _, _ => none
      | none => none
    | _ => none
  | .ex e, ρ, G => match evE cf e ρ G with
    | some (_, G1) => some (.nx, ρ, G1)
    | none => none
  | .ret e, ρ, G => match evE cf e ρ G with
    | some (d, G1) => some (.ret d, ρ, G1)
    | none => none
  | .ifs c s t, ρ, G => match evE cf c ρ G with
    | some (.bl true, G1) => evS cf wf s ρ G1
    | some (.bl false, G1) => evS cf wf t ρ G1
    | _ => none
  | .fors k a b t s, ρ, G => match evE cf a ρ G with
    | some (x, G1) => match evE cf b ρ G1 with
      | some (y, G2) => match itemsOf k x y G2 with
        | some its => loopS (fun d ρ G => match bindV t d ρ with
          | some ρ1 => evS cf wf s ρ1 G
          | none => none) its ρ G2
        | none => none
      | none => none
    | none => none
  | .whl c s, ρ, G => whileS (evE cf c) (evS cf wf s) wf ρ G
  | .brk, ρ, G => some (.bk, ρ, G)
  | .cnt, ρ, G => some (.ct, ρ, G)

/-! defs -/
structure FD where
  name : Str
  ps : List Str
  N : List Str
  body : St
  /-- hands back a new object -/
  rc : Bool := false
  /-- works on the caller's cells -/
  raw : Bool := false
  /-- an __init__, by its class's name -/
  ini : Bool := false
  /-- its body wants tokens -/
  tok : Bool := false
def finish (F : FD) (k : Nat) (d : D) (G : List C) : Option (D × List C) :=
  if F.raw then some (d, G) else if (G.take k).all (C.clean k) then
    (if F.rc then match d with
      | .cell n => if n < k then none else match G[n]? with
        | some c => match frzC (frz G k (some n) G.length) c with
          | some c' => some (.cell k, G.take k ++ [c'])
          | none => none
        | none => none
      | _ => none
    else match frzI (frz G k none G.length) d with
      | some d' => some (d', G.take k)
      | none => none) else none
def runF (cf : CF) (wf : Nat) (F : FD) (ds : List D) (G : List C) : Option (D × List C) :=
  if ds.length = F.ps.length then match evS cf wf F.body (ds.map some ++ List.replicate (F.N.length - ds.length) none) G with
    | some (.ret d, _, G1) => finish F G.length d G1
    | some (.nx, _, G1) => finish F G.length .non G1
    | _ => none else none
/-- the caller's side: the callee sees the cells that it is handed -/
def viewC (F : FD) (run : List D → List C → Option (D × List C)) (ds : List D) (G : List C) : Option (D × List C) :=
  if F.raw then run ds G
  else if D.cleans 0 ds then match run ds [] with
    | some (d, []) => if D.clean 0 d then some (d, G) else none
    | some (.cell 0, [c]) => if C.clean 0 c then some (.cell G.length, G ++ [c]) else none
    | _ => none
  else match ds with
    | .cell n :: r => if D.cleans 0 r then match G[n]? with
      | some c => if C.clean 0 c then match run (.cell 0 :: r) [c] with
        | some (d, [c']) => if D.clean 0 d && C.clean 0 c' then some (d, G.set n c') else none
        | _ => none else none
      | none => none else none
    | _ => none
def findF (PT : List FD) (f : Str) : Option FD := PT.find? fun F => decide (F.name = f)
def call (PT : List FD) (wf : Nat) : Nat → Str → List D → List C → Option (D × List C)
  | 0, _, _, _ => none
  | n + 1, f, ds, G => match findF PT f with
    | some F => runF (fun b f ds G => match findF PT f with
      | some F => if b then (match n with
          | 0 => none
          | m + 1 => if F.raw && F.ini then call PT wf m f ds G else none)
        else if F.ini then none else viewC F (call PT wf n f) ds G
      | none => none) wf F ds G
    | none => none
/-- the calls that a def makes whose calls may nest n deep -/
def cfOf (PT : List FD) (wf n : Nat) : CF := fun b f ds G => match findF PT f with
  | some F => if b then (match n with
      | 0 => none
      | m + 1 => if F.raw && F.ini then call PT wf m f ds G else none)
    else if F.ini then none else viewC F (call PT wf n f) ds G
  | none => none
theorem call_succ (PT : List FD) (wf n : Nat) (f : Str) (ds : List D) (G : List C) : call PT wf (n + 1) f ds G = match findF PT f with
    | some F => runF (cfOf PT wf n) wf F ds G
    | none => none := by
  rw [call]
  rfl
end Iv

set_option Elab.async false
set_option linter.all false
set_option maxRecDepth 100000
set_option maxHeartbeats 4000000
namespace Iv
open PySem PySem.Spec PyProof.Rows L2

/-! readings of the evaluator -/
/-- what is wanted behind: a value that the tree d tells, the cells G' -/
def Aft (S : Sta) (A : List Addr) (H : Hp) (d : D) (G' : List C) (Q : VK) : Prop := ∀ v A' H', Gr A H A' H' → CsOk S A' G' H' → Rep S A' H' v d → Q v H'
def tEv (S : Sta) (cf : CF) (e : E) : TE := fun σ H Q => ∃ hd A G ρ d G', CsOk (S.hide hd) A G H ∧ SlOk (S.hide hd) A H ρ σ ∧ evE cf e ρ G = some (d, G') ∧ Aft (S.hide hd) A H d G' Q
def tTv (S : Sta) (cf : CF) (e : E) : TT := fun σ H Q => ∃ hd A G ρ b G', CsOk (S.hide hd) A G H ∧ SlOk (S.hide hd) A H ρ σ ∧ evE cf e ρ G = some (.bl b, G') ∧ ∀ A' H', Gr A H A' H' → CsOk (S.hide hd) A' G' H' → Q b H'
def tLv (S : Sta) (cf : CF) (es : E) : TA := fun σ H Q => ∃ hd A G ρ ds G', CsOk (S.hide hd) A G H ∧ SlOk (S.hide hd) A H ρ σ ∧ evL cf es ρ G = some (ds, G') ∧ ∀ vs A' H', Gr A H A' H' → CsOk (S.hide hd) A' G' H' → RepAll (S.hide hd) A' H' vs ds → Q vs H'
/-- a call -/
def CalS (X : Cx) (S : Sta) (f : Str) (ds : List D) (G : List C) (d : D) (G' : List C) : Prop :=
  ∃ (k : Nat) (a : Addr) (fd : FuncData) (ps : List Str) (sp : Sp), FnOk X.prog X.w X.K X.mg X.base CX0 k a fd ps sp ∧ Room k X.A ∧ X.mg f = some (.ref a) ∧ PySem.W.keepIn X.K (.ref a) = true ∧ Binds X.K fd ps [] ∧
    ∀ hd A H vs Q, CsOk (S.hide hd) A G H → RepAll (S.hide hd) A H vs ds → Aft (S.hide hd) A H d G' Q → sp vs H Q E0
/-- an __init__, called to make an object of the class f -/
def MakS (X : Cx) (S : Sta) (f : Str) (ds : List D) (G : List C) (d : D) (G' : List C) : Prop :=
  ∃ (k : Nat) (ca a : Addr) (fd : FuncData) (ps : List Str) (sp : Sp), Mk X.K ca a ∧ FnOk X.prog X.w X.K X.mg X.base CX0 k a fd ps sp ∧ Room (k + 1) X.A ∧ X.mg f = some (.ref ca) ∧ f ∈ S.cl ∧ Binds X.K fd ps [] ∧
    ∀ hd A H vs Q, CsOk (S.hide hd) A G H → RepAll (S.hide hd) A H vs ds → Aft (S.hide hd) A H d G' Q → sp vs H Q E0
structure XOk (X : Cx) (S : Sta) (cf : CF) : Prop where
  K : X.K = S.K
  mg : X.mg = S.mg
  calm : X.calm = true
  nd : X.N.Nodup
  un : X.A.units + 200 < cLine
  fld : ∀ c ca f, c ∈ S.cl → S.mg c = some (.ref ca) → f ∈ S.fl → Cls X.K ca ∧ NoAttr X.K ca f
  fns : ∀ f ds G d G', cf false f ds G = some (d, G') → CalS X S f ds G d G'
  mks : ∀ f ds G d G', cf true f ds G = some (d, G') → MakS X S f ds G d G'
  blt : ∀ x ∈ S.blt, X.mg x = none
  gls : ∀ x d, (x, d) ∈ S.gt → ∃ v u, X.mg x = some u ∧ RelV v u ∧ ∀ hd A H, Rep (S.hide hd) A H v d

theorem XOk.hide {X : Cx} {S : Sta} {cf : CF} (h : XOk X S cf) (hd : List Addr) : XOk X (S.hide hd) cf := ⟨h.K, h.mg, h.calm, h.nd, h.un, h.fld, h.fns, h.mks, h.blt, h.gls⟩
section
variable {X : Cx} {S : Sta} {cf : CF} {A : List Addr} {G G' : List C} {H : Hp} {σ : L2.St} {ρ : En} {pins : List (Addr × Obj)} {s : Shared}
theorem rd_le {xs : List V} (I : Inv X pins σ H s) {a : Addr} (h : Rd H a (.lst xs)) : xs.length ≤ sizeLine := (h.ok I.hok).1
/-- a list's or a cell's list -/
theorem lst_rd {d : D} {ds : List D} {v : V} (h : lstOf G d = some ds) (c : CsOk S A G H) (r : Rep S A H v d) : ∃ a xs, v = .ref a ∧ Rd H a (.lst xs) ∧ RepAll S A H xs ds := by
  cases r with
  | lst n rd q =>
    simp only [lstOf, Option.some.injEq] at h
    subst h
    exact ⟨_, _, rfl, rd, q⟩
  | @cell a n e =>
    simp only [lstOf] at h
    split at h
    · rename_i xs hg
      cases h
      obtain ⟨b, e1, ok, _⟩ := c.addr hg
      rw [e] at e1
      cases e1
      obtain ⟨ys, h1, q⟩ := ok
      exact ⟨_, _, rfl, .inl h1, q⟩
    · cases h
  | _ => simp [lstOf] at h
theorem wls_sq {ds : List D} {v : V} (r : Rep S A H v (.wls ds)) : ∃ a xs, v = .ref a ∧ SqL S.K H a xs ∧ RepAll S A H xs ds := by
  cases r with
  | wls n rd q => exact ⟨_, _, rfl, .inl rd, q⟩
  | wlsW w q => exact ⟨_, _, rfl, .inr w, q⟩
theorem tup_sq {ds : List D} {v : V} (r : Rep S A H v (.tup ds)) : ∃ a xs, v = .ref a ∧ SqT S.K H a xs ∧ RepAll S A H xs ds := by
  cases r with
  | tup n rd q => exact ⟨_, _, rfl, .inl (.inl rd), q⟩
  | tupW w l q => exact ⟨_, _, rfl, .inr w, q⟩
theorem sq_of_rd {K : PySem.W.Frag} {a : Addr} {xs : List V} (h : Rd H a (.lst xs)) : SqL K H a xs := .inl h
/-- a list or a tuple -/
theorem seq_sq {d : D} {ds : List D} {v : V} (h : seqOf G d = some ds) (c : CsOk S A G H) (r : Rep S A H v d) : ∃ a xs, v = .ref a ∧ (SqL S.K H a xs ∨ SqT S.K H a xs) ∧ RepAll S A H xs ds := by
  cases r with
  | tup n rd q =>
    simp only [seqOf, Option.some.injEq] at h
    subst h
    exact ⟨_, _, rfl, .inr (.inl (.inl rd)), q⟩
  | tupW w l q =>
    simp only [seqOf, Option.some.injEq] at h
    subst h
    exact ⟨_, _, rfl, .inr (.inr w), q⟩
  | lst n rd q =>
    obtain ⟨a, xs, e, r1, q1⟩ := lst_rd (show lstOf G (.lst _) = some ds from h) c (.lst n rd q)
    exact ⟨a, xs, e, .inl (.inl r1), q1⟩
  | cell e =>
    obtain ⟨a, xs, e, r1, q1⟩ := lst_rd (show lstOf G (.cell _) = some ds from h) c (.cell e)
    exact ⟨a, xs, e, .inl (.inl r1), q1⟩
  | _ => simp [seqOf, lstOf] at h
/-- a new list, as a tree or as a cell -/
theorem mkL_ok {c : Bool} {ds : List D} {d : D} {Q : VK} {xs : List V} (h : mkL c ds G = some (d, G')) (ok : CsOk S A G H) (q : RepAll S A H xs ds) (w : Aft S A H d G' Q) : xs.length ≤ sizeLine ∧ ∀ p, H p = none → Q (.ref p) (upd H p (.lst xs)) := by
  unfold mkL at h
  split at h
  · rename_i hz
    refine ⟨by rw [q.length]; exact hz, fun p hp => ?_⟩
    cases c with
    | false =>
      simp at h
      obtain ⟨rfl, rfl⟩ := h
      exact w _ A _ (Gr.new hp) (ok.new hp) (.lst (ok.fresh hp) (.inl upd_same) (q.mono (Gr.new hp)))
    | true =>
      simp at h
      obtain ⟨rfl, rfl⟩ := h
      refine w _ (A ++ [p]) _ (Gr.newC hp) (ok.newC hp ⟨_, upd_same, q.mono (Gr.newC hp)⟩) (.cell ?_)
      rw [← ok.len, List.getElem?_append_right (Nat.le_refl _)]
      simp
  · cases h
theorem tup_new {ds : List D} {Q : VK} {xs : List V} (ok : CsOk S A G H) (q : RepAll S A H xs ds) (w : Aft S A H (.tup ds) G Q) : ∀ p, H p = none → Q (.ref p) (upd H p (.tup xs)) := fun p hp =>
  w _ A _ (Gr.new hp) (ok.new hp) (.tup (ok.fresh hp) upd_same (q.mono (Gr.new hp)))
theorem Aft.here {d : D} {Q : VK} {v : V} (w : Aft S A H d G Q) (c : CsOk S A G H) (r : Rep S A H v d) : Q v H := w v A H Gr.refl c r
theorem Aft.mono {A' : List Addr} {H' : Hp} {d : D} {Q : VK} (w : Aft S A H d G Q) (g : Gr A H A' H') : Aft S A' H' d G Q := fun v A2 H2 g2 => w v A2 H2 (g.trans g2)

/-! names, constants -/
theorem s_var {i : Nat} {x : Str} {pos : Pos} (hi : X.N[i]? = some x) (hv : Vis X.env.scope x) (hd : (x == ("__debug__" : Str)) = false) (hcd : (x == ("__classdict__" : Str)) = false) : PE X (.Name x pos) (tEv S cf (.var i)) := by
  refine ⟨fun pins s σ H Q I h => ?_⟩
  obtain ⟨hθ, A, G, ρ, d, G', c, l, e, w⟩ := h
  refine (pe_var hi hv hd hcd).run pins s σ H Q I ?_
  simp only [evE] at e
  split at e
  · rename_i d' hd'
    cases e
    obtain ⟨v, e1, r⟩ := l.2 _ _ hd'
    exact ⟨v, e1, w.here c r⟩
  · cases e
theorem s_int {i : Int} {j : Nat} {pos : Pos} : PE X (.Constant (.int i) j pos) (tEv S cf (.int i)) := by
  refine ⟨fun pins s σ H Q I h => ?_⟩
  obtain ⟨hθ, A, G, ρ, d, G', c, l, e, w⟩ := h
  simp only [evE, Option.some.injEq, Prod.mk.injEq] at e
  obtain ⟨rfl, rfl⟩ := e
  exact pe_int.run pins s σ H Q I (w.here c (.int i))
theorem s_str {x : Str} {j : Nat} {pos : Pos} : PE X (.Constant (.str x) j pos) (tEv S cf (.str x)) := by
  refine ⟨fun pins s σ H Q I h => ?_⟩
  obtain ⟨hθ, A, G, ρ, d, G', c, l, e, w⟩ := h
  simp only [evE, Option.some.injEq, Prod.mk.injEq] at e
  obtain ⟨rfl, rfl⟩ := e
  exact pe_str.run pins s σ H Q I (w.here c (.str x))
theorem s_bl {b : Bool} {j : Nat} {pos : Pos} : PE X (.Constant (.bool b) j pos) (tEv S cf (.bl b)) := by
  refine ⟨fun pins s σ H Q I h => ?_⟩
  obtain ⟨hθ, A, G, ρ, d, G', c, l, e, w⟩ := h
  simp only [evE, Option.some.injEq, Prod.mk.injEq] at e
  obtain ⟨rfl, rfl⟩ := e
  exact pe_bl.run pins s σ H Q I (w.here c (.bl b))
theorem s_non {j : Nat} {pos : Pos} : PE X (.Constant .none j pos) (tEv S cf .non) := by
  refine ⟨fun pins s σ H Q I h => ?_⟩
  obtain ⟨hθ, A, G, ρ, d, G', c, l, e, w⟩ := h
  simp only [evE, Option.some.injEq, Prod.mk.injEq] at e
  obtain ⟨rfl, rfl⟩ := e
  exact pe_non.run pins s σ H Q I (w.here c .non)
/-- a constant of the module -/
theorem s_gl {x : Str} {d : D} {v : V} {u : Value} {pos : Pos} (hg : Gl X x) (hm : X.mg x = some u) (r : RelV v u) (hr : ∀ hd A H, Rep (S.hide hd) A H v d) (hd : (x == ("__debug__" : Str)) = false) : PE X (.Name x pos) (tEv S cf (.gl x d)) := by
  refine ⟨fun pins s σ H Q I h => ?_⟩
  obtain ⟨hθ, A, G, ρ, d', G', c, l, e, w⟩ := h
  simp only [evE, Option.some.injEq, Prod.mk.injEq] at e
  obtain ⟨rfl, rfl⟩ := e
  exact (pe_glob hg hm r hd).run pins s σ H Q I (w.here c (hr _ _ _))

/-! list + list of any that are read -/
def rCatR : R2 := fun x y H Q => ∃ l b xs zs, x = .ref l ∧ y = .ref b ∧ Rd H l (.lst xs) ∧ Rd H b (.lst zs) ∧ xs.length + zs.length ≤ sizeLine ∧ ∀ p, H p = none → Q (.ref p) (upd H p (.lst (xs ++ zs)))
theorem op_catR : OpR X (binaryOp .Add) rCatR := by
  intro pins s σ H x y v u Q I rx ry h
  obtain ⟨l, b, xs, zs, rfl, rfl, hH, hB, hz, q⟩ := h
  cases rx
  cases ry
  obtain ⟨z, its, n, r, e⟩ := hH.ok I.hok
  obtain ⟨z2, its2, n2, r2, e2⟩ := hB.ok I.hok
  have hl := r.length
  have hl2 := r2.length
  refine PySem.P.add_list e e2 ?_ (by rw [List.size_toArray, List.size_toArray]; omega)
  have ea : its.toArray ++ its2.toArray = (its ++ its2).toArray := by simp
  rw [ea]
  exact ⟨.ref _, _, I.lnew (t' := s.toks) (r.append r2) (by rw [List.length_append]; omega), rfl, q _ I.fresh⟩
end
end Iv

set_option Elab.async false
set_option linter.all false
set_option maxRecDepth 100000
set_option maxHeartbeats 4000000
namespace Iv
open PySem PySem.Spec PyProof.Rows L2
section
variable {X : Cx} {S : Sta} {cf : CF} {A : List Addr} {G G' : List C} {H : Hp} {σ : L2.St} {ρ : En} {pins : List (Addr × Obj)} {s : Shared}
def rRepR : R2 := fun x y H Q => ∃ l k xs, x = .ref l ∧ y = .int k ∧ Rd H l (.lst xs) ∧ 0 ≤ k ∧ k < 2 ^ 63 ∧ xs.length * k.toNat ≤ sizeLine ∧
  ∀ p, H p = none → Q (.ref p) (upd H p (.lst (List.replicate k.toNat xs).flatten))
theorem op_repR : OpR X (binaryOp .Mult) rRepR := by
  intro pins s σ H x y v u Q I rx ry h
  obtain ⟨l, k, xs, rfl, rfl, hH, h1, h2, hz, q⟩ := h
  cases rx
  obtain ⟨t, rfl⟩ := ry
  obtain ⟨z, its, n, r, e⟩ := hH.ok I.hok
  have hl := r.length
  have hlen : its.toArray.size * k.toNat ≤ sizeLine := by rw [List.size_toArray, ← hl]; exact hz
  have hcap : ¬ its.toArray.size * k.toNat > (2 ^ 63 - 1) / 8 := by
    have : (sizeLine : Nat) ≤ (2 ^ 63 - 1) / 8 := by decide
    omega
  have hfit : ¬ (!Builtin.List.listFitsIndex k) = true := by
    rw [fitsIndex_both (by omega) h2]
    exact Bool.false_ne_true
  have hlong : ¬ Builtin.List.listTooLong (its.toArray.size * k.toNat) = true := by
    rw [notLongL hlen]
    exact Bool.false_ne_true
  have hnew : List.foldl (fun x1 x2 => x1 ++ x2) #[] (List.replicate (if its.toArray.isEmpty = true then 0 else k.toNat) its.toArray) = (List.replicate k.toNat its).flatten.toArray := by
    have f0 : ∀ m : Nat, List.foldl (fun x1 x2 => x1 ++ x2) #[] (List.replicate m its.toArray) = (List.replicate m its).flatten.toArray := fun m => by
      have := foldl_rep its m []
      rw [List.nil_append] at this
      exact this
    rw [f0]
    cases its with
    | nil => simp
    | cons a r' => rw [if_neg (by simp)]
  refine wpAny_binaryOp_repeat_ref (T := "list") (U := "int") (by decide) ⟨_, e, rfl⟩ (fun s' => typeIs_int s' k t) noFill_list_mul F.fills_int_mul F.slot_int_rmul repeat_list F.slot_int_index.lookup
    (call_meets F.slot_int_rmul (typeIs_int s k t) F.entry_int_rmul (F.args_int_rmul_2 _ _) (int___rmul___int_list k t l its.toArray n)
      ⟨e, rfl, ⟨_, e, rfl⟩, call_meets F.slot_list_mul ⟨_, e, rfl⟩ F.entry_list_mul (F.args_list_mul_2 _ _) (AutoListH.list___mul___list_int_3 l its.toArray n k t hfit hcap hlong) ⟨e, ?_⟩⟩)
  rw [hnew]
  exact ⟨.ref _, _, I.lnew (t' := s.toks) (r.rep k.toNat) (by rw [PyProof.Rows.lm_len_rep_flat, Nat.mul_comm]; exact hz), rfl, q _ I.fresh⟩

def bop : BO → Operator
  | .add => .Add | .sub => .Sub | .mul => .Mult | .fdiv => .FloorDiv | .mod => .Mod | .pow => .Pow
/-- what is to be shown of an operator by its operands -/
theorem bin_go {o : Operator} {a b : E} {ea eb : Expr} {pos : Pos} {c : Bool} {k : D → D → List C → Option (D × List C)} (ia : PE X ea (tEv S cf a)) (ib : PE X eb (tEv S cf b)) (bo : E)
    (e0 : ∀ ρ G, evE cf bo ρ G = (match evE cf a ρ G with
      | some (x, G1) => match evE cf b ρ G1 with
        | some (y, G2) => k x y G2
        | none => none
      | none => none))
    (h : ∀ hθ x y G2 d G', k x y G2 = some (d, G') → ∃ r : R2, OpR X (binaryOp o) r ∧ ∀ v u A2 H2 Q, CsOk (S.hide hθ) A2 G2 H2 → Rep (S.hide hθ) A2 H2 v x → Rep (S.hide hθ) A2 H2 u y → Aft (S.hide hθ) A2 H2 d G' Q → r v u H2 Q) :
    PE X (.BinOp ea o eb pos) (tEv S cf bo) := by
  refine ⟨fun pins s σ H Q I hh => ?_⟩
  obtain ⟨hθ, A, G, ρ, d, G', cs, l, e, w⟩ := hh
  rw [e0] at e
  have e' := e
  cases ha : evE cf a ρ G with
  | none => simp only [ha] at e; cases e
  | some p =>
    obtain ⟨x, G1⟩ := p
    simp only [ha] at e
    cases hb : evE cf b ρ G1 with
    | none => simp only [hb] at e; cases e
    | some p =>
      obtain ⟨y, G2⟩ := p
      simp only [hb] at e
      obtain ⟨r, hr, hk⟩ := h hθ x y G2 d G' e
      refine (pe_op hr ia ib).run pins s σ H Q I ?_
      refine ⟨hθ, A, G, ρ, x, G1, cs, l, ha, fun v A1 H1 g1 c1 r1 => ?_⟩
      refine ⟨hθ, A1, G1, ρ, y, G2, c1, l.mono g1, hb, fun u A2 H2 g2 c2 r2 => ?_⟩
      exact hk v u A2 H2 Q c2 (r1.mono g2) r2 (w.mono (g1.trans g2))
theorem rep_int {A : List Addr} {H : Hp} {v : V} {i : Int} (r : Rep S A H v (.int i)) : v = .int i := by cases r; rfl
theorem rep_str {A : List Addr} {H : Hp} {v : V} {i : Str} (r : Rep S A H v (.str i)) : v = .str i := by cases r; rfl
theorem rep_bl {A : List Addr} {H : Hp} {v : V} {i : Bool} (r : Rep S A H v (.bl i)) : v = .bl i := by cases r; rfl
theorem rep_non {A : List Addr} {H : Hp} {v : V} (r : Rep S A H v .non) : v = .non := by cases r; rfl
/-- an operator on ints -/
theorem int_go {o : Operator} {i j : Int} {Cn : Int → Int → Prop} {g : Int → Int → V} {d : D} {G G' : List C} (ho : OpR X (binaryOp o) (rI Cn g)) (hc : Cn i j) (hd : ∀ A H, Rep S A H (g i j) d) (hG : G = G') :
    ∃ r : R2, OpR X (binaryOp o) r ∧ ∀ v u A2 H2 Q, CsOk S A2 G H2 → Rep S A2 H2 v (.int i) → Rep S A2 H2 u (.int j) → Aft S A2 H2 d G' Q → r v u H2 Q :=
  ⟨_, ho, fun v u A2 H2 Q c r1 r2 w => ⟨i, j, rep_int r1, rep_int r2, hc, by subst hG; exact w.here c (hd _ _)⟩⟩
theorem int_go0 {o : Operator} {i j : Int} {g : Int → Int → V} {d : D} {G G' : List C} (ho : OpR X (binaryOp o) (rI0 g)) (hd : ∀ A H, Rep S A H (g i j) d) (hG : G = G') :
    ∃ r : R2, OpR X (binaryOp o) r ∧ ∀ v u A2 H2 Q, CsOk S A2 G H2 → Rep S A2 H2 v (.int i) → Rep S A2 H2 u (.int j) → Aft S A2 H2 d G' Q → r v u H2 Q :=
  ⟨_, ho, fun v u A2 H2 Q c r1 r2 w => ⟨i, j, rep_int r1, rep_int r2, by subst hG; exact w.here c (hd _ _)⟩⟩
theorem cat_go {x y : D} {xs ys : List D} {c : Bool} {d : D} {G2 G' : List C} (hx : lstOf G2 x = some xs) (hy : lstOf G2 y = some ys) (e : mkL c (xs ++ ys) G2 = some (d, G')) :
    ∃ r : R2, OpR X (binaryOp .Add) r ∧ ∀ v u A2 H2 Q, CsOk S A2 G2 H2 → Rep S A2 H2 v x → Rep S A2 H2 u y → Aft S A2 H2 d G' Q → r v u H2 Q := by
  refine ⟨_, op_catR, fun v u A2 H2 Q cs r1 r2 w => ?_⟩
  obtain ⟨a, vs, rfl, h1, q1⟩ := lst_rd hx cs r1
  obtain ⟨b, us, rfl, h2, q2⟩ := lst_rd hy cs r2
  obtain ⟨z, n⟩ := mkL_ok e cs (q1.app q2) w
  exact ⟨a, b, vs, us, rfl, rfl, h1, h2, by simpa using z, n⟩
theorem rep_go {x : D} {xs : List D} {k : Int} {c : Bool} {d : D} {G2 G' : List C} (hx : lstOf G2 x = some xs) (hk : 0 ≤ k ∧ k < 1048576) (e : mkL c (List.replicate k.toNat xs).flatten G2 = some (d, G')) :
    ∃ r : R2, OpR X (binaryOp .Mult) r ∧ ∀ v u A2 H2 Q, CsOk S A2 G2 H2 → Rep S A2 H2 v x → Rep S A2 H2 u (.int k) → Aft S A2 H2 d G' Q → r v u H2 Q := by
  refine ⟨_, op_repR, fun v u A2 H2 Q cs r1 r2 w => ?_⟩
  obtain ⟨a, vs, rfl, h1, q1⟩ := lst_rd hx cs r1
  obtain ⟨z, n⟩ := mkL_ok e cs (q1.rep k.toNat) w
  exact ⟨a, k, vs, rfl, rep_int r2, h1, hk.1, by omega, by rw [PyProof.Rows.lm_len_rep_flat, Nat.mul_comm] at z; exact z, n⟩
theorem catT_go {xs ys : List D} {G2 G' : List C} {d : D} (hz : xs.length + ys.length ≤ sizeLine) (e : (D.tup (xs ++ ys), G2) = (d, G')) (hK : X.K = S.K) :
    ∃ r : R2, OpR X (binaryOp .Add) r ∧ ∀ v u A2 H2 Q, CsOk S A2 G2 H2 → Rep S A2 H2 v (.tup xs) → Rep S A2 H2 u (.tup ys) → Aft S A2 H2 d G' Q → r v u H2 Q := by
  cases e
  refine ⟨_, op_catA, fun v u A2 H2 Q cs r1 r2 w => ?_⟩
  obtain ⟨a, vs, rfl, h1, q1⟩ := tup_sq r1
  obtain ⟨b, us, rfl, h2, q2⟩ := tup_sq r2
  rw [← hK] at h1 h2
  refine ⟨a, b, vs, us, rfl, rfl, h1, h2, by rw [q1.length, q2.length]; exact hz, fun e => ?_, fun _ e => ?_, fun _ _ => tup_new cs (q1.app q2) w⟩
  · subst e
    cases q1
    exact w.here cs (by simpa using r2)
  · subst e
    cases q2
    exact w.here cs (by simpa using r1)
theorem s_bin {o : BO} {c : Bool} {a b : E} {ea eb : Expr} {pos : Pos} (ok : XOk X S cf) (ia : PE X ea (tEv S cf a)) (ib : PE X eb (tEv S cf b)) : PE X (.BinOp ea (bop o) eb pos) (tEv S cf (.bin o c a b)) := by
  refine bin_go (k := binD o c) (c := c) ia ib (.bin o c a b) (fun ρ G => by simp only [evE] <;> rfl) fun hθ x y G2 d G' e => ?_
  replace ok := ok.hide hθ
  unfold binD at e
  split at e
  · cases e; exact int_go0 op_add (fun _ _ => .int _) rfl
  · cases e; exact int_go0 op_sub (fun _ _ => .int _) rfl
  · split at e
    · rename_i h; cases e; exact int_go op_mul (by unfold CMul; unfold big at h; simpa using h) (fun _ _ => .int _) rfl
    · cases e
  · split at e
    · rename_i h; cases e; exact int_go op_fdiv h (fun _ _ => .int _) rfl
    · cases e
  · split at e
    · rename_i h; cases e; exact int_go op_mod h (fun _ _ => .int _) rfl
    · cases e
  · split at e
    · rename_i h; cases e; exact int_go op_pow h (fun _ _ => .int _) rfl
    · cases e
  · split at e
    · rename_i a b h
      cases e
      exact ⟨_, op_add_str, fun v u A2 H2 Q cs r1 r2 w => ⟨a, b, rep_str r1, rep_str r2, h, w.here cs (.str _)⟩⟩
    · cases e
  · split at e
    · rename_i h
      exact catT_go h (Option.some.inj e) ok.K
    · cases e
  · split at e
    · rename_i xs ys hx hy
      exact cat_go hx hy e
    · cases e
  · split at e
    · rename_i xs hx
      split at e
      · rename_i h
        exact rep_go hx h e
      · cases e
    · cases e
  · cases e
theorem s_neg {a : E} {ea : Expr} {pos : Pos} (ia : PE X ea (tEv S cf a)) : PE X (.UnaryOp .USub ea pos) (tEv S cf (.neg a)) := by
  refine ⟨fun pins s σ H Q I hh => ?_⟩
  obtain ⟨hθ, A, G, ρ, d, G', cs, l, e, w⟩ := hh
  simp only [evE] at e
  split at e
  · rename_i i G1 ha
    cases e
    exact (pe_un un_neg ia).run pins s σ H Q I ⟨hθ, A, G, ρ, _, _, cs, l, ha, fun v A1 H1 g1 c1 r1 => ⟨i, rep_int r1, w _ A1 H1 g1 c1 (.int _)⟩⟩
  · cases e
end
end Iv

set_option Elab.async false
set_option linter.all false
set_option maxRecDepth 100000
set_option maxHeartbeats 4000000
namespace Iv
open PySem PySem.Spec PyProof.Rows L2
section
variable {X : Cx} {S : Sta} {cf : CF} {A : List Addr} {G G' : List C} {H : Hp} {σ : L2.St} {ρ : En} {pins : List (Addr × Obj)} {s : Shared}
/-- a list's object -/
theorem rd_list (I : Inv X pins σ H s) {a : Addr} {xs : List V} (h : Rd H a (.lst xs)) : ∃ its : List Value, Vals xs its ∧ s.heap.IsList a its.toArray := by
  obtain ⟨its, r, p, _⟩ := I.list (.inl h)
  exact ⟨its, r, p.isList⟩
theorem rd_tup (I : Inv X pins σ H s) {a : Addr} {xs : List V} (h : SqT X.K H a xs) : ∃ its : List Value, Vals xs its ∧ s.heap.IsTuple a its.toArray := by
  obtain ⟨its, r, p, _⟩ := I.tuple h
  exact ⟨its, r, p⟩
theorem eqDs_range : ∀ (xs ys : List D), eqDs xs ys = ((List.range (min xs.length ys.length)).all (fun j => eqD (xs.getD j .non) (ys.getD j .non)) && xs.length == ys.length)
  | [], [] => by simp [eqDs]
  | [], _ :: _ => by simp [eqDs]
  | _ :: _, [] => by simp [eqDs]
  | x :: xs, y :: ys => by
    rw [eqDs, eqDs_range xs ys]
    have h : min (x :: xs).length (y :: ys).length = min xs.length ys.length + 1 := by simp
    rw [h, List.range_succ_eq_map]
    simp [Bool.and_assoc, Function.comp_def]
theorem plains_get {b : Bool} : ∀ {xs : List D} {j : Nat}, D.plains b xs = true → j < xs.length → D.plain b (xs.getD j .non) = true
  | x :: xs, 0, h, _ => by simp [D.plains] at h; exact h.1
  | x :: xs, j + 1, h, hj => by
    simp [D.plains] at h
    exact plains_get (xs := xs) (j := j) h.2 (by simpa using hj)
theorem depths_get : ∀ {xs : List D} {j n : Nat}, D.depths xs ≤ n → j < xs.length → D.depth (xs.getD j .non) ≤ n
  | x :: xs, 0, n, h, _ => by simp [D.depths] at h; exact by simpa using by omega
  | x :: xs, j + 1, n, h, hj => by
    simp [D.depths] at h
    exact depths_get (xs := xs) (j := j) (by omega) (by simpa using hj)
mutual
/-- one value, one tree -/
theorem eqD_refl : ∀ (d : D), D.plain false d = true → eqD d d = true
  | .non, _ => by simp [eqD]
  | .bl _, _ => by simp [eqD]
  | .int _, _ => by simp [eqD]
  | .str _, _ => by simp [eqD]
  | .lst xs, h => by simp only [eqD]; exact eqDs_refl xs (by simpa [D.plain] using h)
  | .tup xs, h => by simp only [eqD]; exact eqDs_refl xs (by simpa [D.plain] using h)
  | .dic _ _ _, h => by simp [D.plain] at h
  | .ins _ _ _, h => by simp [D.plain] at h
  | .cell _, h => by simp [D.plain] at h
  | .wls _, h => by simp [D.plain] at h
theorem eqDs_refl : ∀ (ds : List D), D.plains false ds = true → eqDs ds ds = true
  | [], _ => by simp [eqDs]
  | d :: ds, h => by
    simp [D.plains] at h
    simp [eqDs, eqD_refl d h.1, eqDs_refl ds h.2]
end
mutual
theorem rep_inj (I : Inv X pins σ H s) (hK : X.K = S.K) : ∀ (d e : D) (v : V), Rep S A H v d → Rep S A H v e → D.plain false d = true → D.plain false e = true → d = e
  | .non, e, _, .non, h2, _, p => by cases h2 <;> first | rfl | simp [D.plain] at p
  | .bl _, e, _, .bl _, h2, _, p => by cases h2 <;> first | rfl | simp [D.plain] at p
  | .int _, e, _, .int _, h2, _, p => by cases h2 <;> first | rfl | simp [D.plain] at p
  | .str _, e, _, .str _, h2, _, p => by cases h2 <;> first | rfl | simp [D.plain] at p
  | .lst xs, e, v, h1, h2, q, p => by
    cases h1 with
    | lst n r w =>
      obtain ⟨its, rv, hl⟩ := rd_list I r
      cases h2 with
      | lst n2 r2 w2 =>
        have e1 := I.list_inj (.inl r) (.inl r2)
        subst e1
        rw [rep_injs I hK _ _ _ w w2 (by simpa [D.plain] using q) (by simpa [D.plain] using p)]
      | tup n2 r2 w2 =>
        obtain ⟨its2, rv2, ht⟩ := rd_tup I (.inl (.inl r2))
        exact absurd rfl (SeqAt.ne_of_list_tuple hl ht)
      | tupW w1 l2 w2 =>
        obtain ⟨its2, rv2, ht⟩ := rd_tup I (.inr (by rw [hK]; exact w1))
        exact absurd rfl (SeqAt.ne_of_list_tuple hl ht)
      | dK => simp [D.plain] at p
      | dT => simp [D.plain] at p
      | ins => simp [D.plain] at p
      | cell => simp [D.plain] at p
      | wls => simp [D.plain] at p
      | wlsW => simp [D.plain] at p
  | .tup xs, e, v, h1, h2, q, p => by
    have go : ∀ {a : Addr} {ys : List V}, v = .ref a → SqT X.K H a ys → RepAll S A H ys xs → D.tup xs = e := fun {a ys} ev r w => by
      subst ev
      obtain ⟨its, rv, ht⟩ := rd_tup I r
      cases h2 with
      | lst n2 r2 w2 =>
        obtain ⟨its2, rv2, hl⟩ := rd_list I r2
        exact absurd rfl (SeqAt.ne_of_list_tuple hl ht)
      | tup n2 r2 w2 =>
        have e1 := I.tuple_inj r (.inl (.inl r2))
        subst e1
        rw [rep_injs I hK _ _ _ w w2 (by simpa [D.plain] using q) (by simpa [D.plain] using p)]
      | tupW w1 l2 w2 =>
        have e1 := I.tuple_inj r (.inr (by rw [hK]; exact w1))
        subst e1
        rw [rep_injs I hK _ _ _ w w2 (by simpa [D.plain] using q) (by simpa [D.plain] using p)]
      | dK => simp [D.plain] at p
      | dT => simp [D.plain] at p
      | ins => simp [D.plain] at p
      | cell => simp [D.plain] at p
      | wls => simp [D.plain] at p
      | wlsW => simp [D.plain] at p
    cases h1 with
    | tup n r w => exact go rfl (.inl (.inl r)) w
    | tupW r l w => exact go rfl (.inr (by rw [hK]; exact r)) w
  | .dic _ _ _, _, _, _, _, q, _ => by simp [D.plain] at q
  | .ins _ _ _, _, _, _, _, q, _ => by simp [D.plain] at q
  | .cell _, _, _, _, _, q, _ => by simp [D.plain] at q
  | .wls _, _, _, _, _, q, _ => by simp [D.plain] at q
theorem rep_injs (I : Inv X pins σ H s) (hK : X.K = S.K) : ∀ (ds es : List D) (vs : List V), RepAll S A H vs ds → RepAll S A H vs es → D.plains false ds = true → D.plains false es = true → ds = es
  | [], es, vs, h1, h2, _, _ => by
    cases h1
    cases h2
    rfl
  | d :: ds, es, vs, h1, h2, q, p => by
    cases h1 with
    | cons a1 t1 =>
      cases h2 with
      | cons a2 t2 =>
        simp [D.plains] at q p
        rw [rep_inj I hK d _ _ a1 a2 q.1 p.1, rep_injs I hK ds _ _ t1 t2 q.2 p.2]
end
open SeqAt in
/-- x == y -/
theorem eq_at (I : Inv X pins σ H s) (hK : X.K = S.K) : ∀ (n : Nat) (d e : D) (v w : V) (x y : Value) (B : Around), D.depth d ≤ n → B.units + n < cLine → Rep S A H v d → Rep S A H w e → RelV v x → RelV w y →
    D.plain false d = true → D.plain false e = true → EqAt B s x y (eqD d e) := by
  intro n
  induction n with
  | zero =>
    intro d e v w x y B hd hu r1 r2 q1 q2 p1 p2
    have hu : B.units < cLine := by omega
    cases r1 with
    | lst => simp [D.depth] at hd
    | tup => simp [D.depth] at hd
    | tupW => simp [D.depth] at hd
    | dK => simp [D.plain] at p1
    | dT => simp [D.plain] at p1
    | ins => simp [D.plain] at p1
    | cell => simp [D.plain] at p1
    | wls => simp [D.plain] at p1
    | wlsW => simp [D.plain] at p1
    | non =>
      cases q1
      cases r2 with
      | non => cases q2; exact EqAt.same _
      | bl b => cases q2; exact EqAt.none_bool _
      | int b => obtain ⟨t, rfl⟩ := q2; exact EqAt.none_int _ _
      | str b => obtain ⟨t, rfl⟩ := q2; exact EqAt.none_str _ _
      | lst n r w => cases q2; obtain ⟨_, _, hl⟩ := rd_list I r; exact EqAt.none_list hl hu
      | tup n r w => cases q2; obtain ⟨_, _, hl⟩ := rd_tup I (.inl (.inl r)); exact EqAt.none_tuple hl hu
      | tupW r l w => cases q2; obtain ⟨_, _, hl⟩ := rd_tup I (.inr (by rw [hK]; exact r)); exact EqAt.none_tuple hl hu
      | dK => simp [D.plain] at p2
      | dT => simp [D.plain] at p2
      | ins => simp [D.plain] at p2
      | cell => simp [D.plain] at p2
      | wls => simp [D.plain] at p2
      | wlsW => simp [D.plain] at p2
    | bl a =>
      cases q1
      cases r2 with
      | non => cases q2; exact EqAt.bool_none _
      | bl b => cases q2; exact EqAt.bool_bool _ _
      | int b => obtain ⟨t, rfl⟩ := q2; exact EqAt.bool_int _ _ _
      | str b => obtain ⟨t, rfl⟩ := q2; exact EqAt.bool_str _ _ _
      | lst n r w => cases q2; obtain ⟨_, _, hl⟩ := rd_list I r; exact EqAt.bool_list _ hl hu
      | tup n r w => cases q2; obtain ⟨_, _, hl⟩ := rd_tup I (.inl (.inl r)); exact EqAt.bool_tuple _ hl hu
      | tupW r l w => cases q2; obtain ⟨_, _, hl⟩ := rd_tup I (.inr (by rw [hK]; exact r)); exact EqAt.bool_tuple _ hl hu
      | dK => simp [D.plain] at p2
      | dT => simp [D.plain] at p2
      | ins => simp [D.plain] at p2
      | cell => simp [D.plain] at p2
      | wls => simp [D.plain] at p2
      | wlsW => simp [D.plain] at p2
    | int a =>
      obtain ⟨t0, rfl⟩ := q1
      cases r2 with
      | non => cases q2; exact EqAt.int_none _ _
      | bl b => cases q2; exact EqAt.int_bool _ _ _
      | int b => obtain ⟨t, rfl⟩ := q2; exact EqAt.int_int _ _ _ _
      | str b => obtain ⟨t, rfl⟩ := q2; exact EqAt.int_str _ _ _ _
      | lst n r w => cases q2; obtain ⟨_, _, hl⟩ := rd_list I r; exact EqAt.int_list _ _ hl hu
      | tup n r w => cases q2; obtain ⟨_, _, hl⟩ := rd_tup I (.inl (.inl r)); exact EqAt.int_tuple _ _ hl hu
      | tupW r l w => cases q2; obtain ⟨_, _, hl⟩ := rd_tup I (.inr (by rw [hK]; exact r)); exact EqAt.int_tuple _ _ hl hu
      | dK => simp [D.plain] at p2
      | dT => simp [D.plain] at p2
      | ins => simp [D.plain] at p2
      | cell => simp [D.plain] at p2
      | wls => simp [D.plain] at p2
      | wlsW => simp [D.plain] at p2
    | str a =>
      obtain ⟨t0, rfl⟩ := q1
      cases r2 with
      | non => cases q2; exact EqAt.str_none _ _
      | bl b => cases q2; exact EqAt.str_bool _ _ _
      | int b => obtain ⟨t, rfl⟩ := q2; exact EqAt.str_int _ _ _ _
      | str b => obtain ⟨t, rfl⟩ := q2; exact EqAt.str_str _ _ _ _
      | lst n r w => cases q2; obtain ⟨_, _, hl⟩ := rd_list I r; exact EqAt.str_list _ _ hl hu
      | tup n r w => cases q2; obtain ⟨_, _, hl⟩ := rd_tup I (.inl (.inl r)); exact EqAt.str_tuple _ _ hl hu
      | tupW r l w => cases q2; obtain ⟨_, _, hl⟩ := rd_tup I (.inr (by rw [hK]; exact r)); exact EqAt.str_tuple _ _ hl hu
      | dK => simp [D.plain] at p2
      | dT => simp [D.plain] at p2
      | ins => simp [D.plain] at p2
      | cell => simp [D.plain] at p2
      | wls => simp [D.plain] at p2
      | wlsW => simp [D.plain] at p2
  | succ n ih =>
    intro d e v w x y B hd hu r1 r2 q1 q2 p1 p2
    by_cases h0 : D.depth d ≤ n
    · exact ih d e v w x y B h0 (by omega) r1 r2 q1 q2 p1 p2
    have hu1 : B.units < cLine := by omega
    have goT : ∀ {a : Addr} {xs : List V} {ds : List D}, v = .ref a → d = .tup ds → SqT X.K H a xs → RepAll S A H xs ds → EqAt B s x y (eqD d e) := by
      intro a xs ds ev ed r q
      subst ev ed
      cases q1
      obtain ⟨its, rv, hl⟩ := rd_tup I r
      have goT2 : ∀ {b : Addr} {ys : List V} {es : List D}, w = .ref b → e = .tup es → SqT X.K H b ys → RepAll S A H ys es → EqAt B s (.ref a) y (eqD (.tup ds) e) := by
        intro b ys es ew ee r3 q3
        subst ew ee
        cases q2
        obtain ⟨its2, rv2, hl2⟩ := rd_tup I r3
        by_cases hab : a = b
        · subst hab
          have e1 := rep_inj (A := A) (S := S) I hK _ _ _ r1 r2 p1 p2
          rw [e1, eqD_refl _ p2]
          exact EqAt.same _
        · refine .of_refs hab ?_
          have l1 := q.length
          have l2 := q3.length
          have l3 := rv.length
          have l4 := rv2.length
          simp only [eqD]
          rw [eqDs_range]
          have q' := RcAt.tuples (A := B) (e := fun j => eqD (ds.getD j .non) (es.getD j .non)) hl hl2 hu1 ?_
          · simpa [← l1, ← l2, ← l3, ← l4] using q'
          · intro j h1 h2
            simp at h1 h2
            have g1 : ds[j]? = some (ds.getD j .non) := by
              rw [List.getD_eq_getElem?_getD, List.getElem?_eq_getElem (by omega)] <;> rfl
            have g2 : es[j]? = some (es.getD j .non) := by
              rw [List.getD_eq_getElem?_getD, List.getElem?_eq_getElem (by omega)] <;> rfl
            obtain ⟨v1, k1, m1⟩ := q.get g1
            obtain ⟨v2, k2, m2⟩ := q3.get g2
            obtain ⟨u1, k3, m3⟩ := rv.get k1
            obtain ⟨u2, k4, m4⟩ := rv2.get k2
            have f1 : its.toArray[j] = u1 := by
              rw [List.getElem?_eq_getElem h1] at k3
              simpa using k3
            have f2 : its2.toArray[j] = u2 := by
              rw [List.getElem?_eq_getElem h2] at k4
              simpa using k4
            rw [f1, f2]
            refine ih _ _ _ _ _ _ _ ?_ ?_ m1 m2 m3 m4 (plains_get (by simpa [D.plain] using p1) (by omega)) (plains_get (by simpa [D.plain] using p2) (by omega))
            · exact depths_get (by simp [D.depth] at hd; omega) (by omega)
            · show B.units + 1 + n < cLine; omega
      cases r2 with
      | non => cases q2; exact EqAt.tuple_none hl hu1
      | bl b => cases q2; exact EqAt.tuple_bool _ hl hu1
      | int b => obtain ⟨t, rfl⟩ := q2; exact EqAt.tuple_int _ _ hl hu1
      | str b => obtain ⟨t, rfl⟩ := q2; exact EqAt.tuple_str _ _ hl hu1
      | lst n r w => cases q2; obtain ⟨_, _, hl2⟩ := rd_list I r; exact EqAt.tuple_list hl hl2 hu1
      | tup n r w => exact goT2 rfl rfl (.inl (.inl r)) w
      | tupW r l w => exact goT2 rfl rfl (.inr (by rw [hK]; exact r)) w
      | dK => simp [D.plain] at p2
      | dT => simp [D.plain] at p2
      | ins => simp [D.plain] at p2
      | cell => simp [D.plain] at p2
      | wls => simp [D.plain] at p2
      | wlsW => simp [D.plain] at p2
    cases r1 with
    | non => simp [D.depth] at h0
    | bl => simp [D.depth] at h0
    | int => simp [D.depth] at h0
    | str => simp [D.depth] at h0
    | dK => simp [D.plain] at p1
    | dT => simp [D.plain] at p1
    | ins => simp [D.plain] at p1
    | cell => simp [D.plain] at p1
    | wls => simp [D.plain] at p1
    | wlsW => simp [D.plain] at p1
    | tup n r q => exact goT rfl rfl (.inl (.inl r)) q
    | tupW r l q => exact goT rfl rfl (.inr (by rw [hK]; exact r)) q
    | @lst a xs ds na r q =>
      cases q1
      obtain ⟨its, rv, hl⟩ := rd_list I r
      cases r2 with
      | non => cases q2; exact EqAt.list_none hl hu1
      | bl b => cases q2; exact EqAt.list_bool _ hl hu1
      | int b => obtain ⟨t, rfl⟩ := q2; exact EqAt.list_int _ _ hl hu1
      | str b => obtain ⟨t, rfl⟩ := q2; exact EqAt.list_str _ _ hl hu1
      | tup n r w => cases q2; obtain ⟨_, _, hl2⟩ := rd_tup I (.inl (.inl r)); exact EqAt.list_tuple hl hl2 hu1
      | tupW r l w => cases q2; obtain ⟨_, _, hl2⟩ := rd_tup I (.inr (by rw [hK]; exact r)); exact EqAt.list_tuple hl hl2 hu1
      | dK => simp [D.plain] at p2
      | dT => simp [D.plain] at p2
      | ins => simp [D.plain] at p2
      | cell => simp [D.plain] at p2
      | wls => simp [D.plain] at p2
      | wlsW => simp [D.plain] at p2
      | @lst b ys es nb r3 q3 =>
        cases q2
        obtain ⟨its2, rv2, hl2⟩ := rd_list I r3
        by_cases hab : a = b
        · subst hab
          have e1 := rep_inj (A := A) (S := S) I hK _ _ _ (.lst na r q) (.lst nb r3 q3) p1 p2
          rw [e1, eqD_refl _ p2]
          exact EqAt.same _
        · refine .of_refs hab ?_
          have l1 := q.length
          have l2 := q3.length
          have l3 := rv.length
          have l4 := rv2.length
          simp only [eqD]
          rw [eqDs_range]
          by_cases hs : its.toArray.size = its2.toArray.size
          · have q' := RcAt.lists (A := B) (e := fun j => eqD (ds.getD j .non) (es.getD j .non)) hl hl2 hs hu1 ?_
            · simp at hs
              have e1 : ds.length = es.length := by omega
              have e2 : min ds.length es.length = its.length := by omega
              rw [e2, show (ds.length == es.length) = true from by simp [e1], Bool.and_true]
              simpa using q'
            · intro j h1 h2
              simp at h1 h2
              have g1 : ds[j]? = some (ds.getD j .non) := by
                rw [List.getD_eq_getElem?_getD, List.getElem?_eq_getElem (by omega)] <;> rfl
              have g2 : es[j]? = some (es.getD j .non) := by
                rw [List.getD_eq_getElem?_getD, List.getElem?_eq_getElem (by omega)] <;> rfl
              obtain ⟨v1, k1, m1⟩ := q.get g1
              obtain ⟨v2, k2, m2⟩ := q3.get g2
              obtain ⟨u1, k3, m3⟩ := rv.get k1
              obtain ⟨u2, k4, m4⟩ := rv2.get k2
              have f1 : its.toArray[j] = u1 := by
                rw [List.getElem?_eq_getElem h1] at k3
                simpa using k3
              have f2 : its2.toArray[j] = u2 := by
                rw [List.getElem?_eq_getElem h2] at k4
                simpa using k4
              rw [f1, f2]
              refine ih _ _ _ _ _ _ _ ?_ ?_ m1 m2 m3 m4 (plains_get (by simpa [D.plain] using p1) (by omega)) (plains_get (by simpa [D.plain] using p2) (by omega))
              · exact depths_get (by simp [D.depth] at hd; omega) (by omega)
              · show B.units + 1 + n < cLine; omega
          · have h' : (ds.length == es.length) = false := by
              simp at hs
              simp
              omega
            rw [h', Bool.and_false]
            exact RcAt.lists_lengths hl hl2 (by simpa using hs) hu1
end
end Iv

set_option Elab.async false
set_option linter.all false
set_option maxRecDepth 100000
set_option maxHeartbeats 4000000
namespace Iv
open PySem PySem.Spec PyProof.Rows L2
section
variable {X : Cx} {S : Sta} {cf : CF} {A : List Addr} {G G' : List C} {H : Hp} {σ : L2.St} {ρ : En} {pins : List (Addr × Obj)} {s : Shared}
open SeqAt
/-- x == y, the comparison itself -/
theorem rc_at (I : Inv X pins σ H s) (hK : X.K = S.K) {d e : D} {v w : V} {x y : Value} {B : Around} (hd : D.depth d ≤ 60) (hu : B.units + 64 < cLine) (r1 : Rep S A H v d) (r2 : Rep S A H w e) (q1 : RelV v x) (q2 : RelV w y)
    (p1 : D.plain false d = true) (p2 : D.plain false e = true) : RcAt B s x y (eqD d e) := by
  have hu1 : B.units < cLine := by omega
  have go_lst : ∀ {a b : Addr} {xs ys : List V} {ds es : List D} {its its2 : List Value}, RepAll S A H xs ds → RepAll S A H ys es → Vals xs its → Vals ys its2 → s.heap.IsList a its.toArray → s.heap.IsList b its2.toArray →
      D.plains false ds = true → D.plains false es = true → D.depths ds ≤ 59 → RcAt B s (.ref a) (.ref b) (eqDs ds es) := by
    intro a b xs ys ds es its its2 q q3 rv rv2 hl hl2 pp1 pp2 hd'
    have l1 := q.length
    have l2 := q3.length
    have l3 := rv.length
    have l4 := rv2.length
    rw [eqDs_range]
    have el : ∀ j (h1 : j < its.toArray.size) (h2 : j < its2.toArray.size), EqAt B.in1 s its.toArray[j] its2.toArray[j] (eqD (ds.getD j .non) (es.getD j .non)) := by
      intro j h1 h2
      simp at h1 h2
      have g1 : ds[j]? = some (ds.getD j .non) := by
        rw [List.getD_eq_getElem?_getD, List.getElem?_eq_getElem (by omega)] <;> rfl
      have g2 : es[j]? = some (es.getD j .non) := by
        rw [List.getD_eq_getElem?_getD, List.getElem?_eq_getElem (by omega)] <;> rfl
      obtain ⟨v1, k1, m1⟩ := q.get g1
      obtain ⟨v2, k2, m2⟩ := q3.get g2
      obtain ⟨u1, k3, m3⟩ := rv.get k1
      obtain ⟨u2, k4, m4⟩ := rv2.get k2
      have f1 : its.toArray[j] = u1 := by
        rw [List.getElem?_eq_getElem h1] at k3
        simpa using k3
      have f2 : its2.toArray[j] = u2 := by
        rw [List.getElem?_eq_getElem h2] at k4
        simpa using k4
      rw [f1, f2]
      exact eq_at I hK 59 _ _ _ _ _ _ _ (depths_get hd' (by omega)) (by show B.units + 1 + 59 < cLine; omega) m1 m2 m3 m4 (plains_get pp1 (by omega)) (plains_get pp2 (by omega))
    by_cases hs : its.toArray.size = its2.toArray.size
    · have q' := RcAt.lists (A := B) (e := fun j => eqD (ds.getD j .non) (es.getD j .non)) hl hl2 hs hu1 el
      simp at hs
      have e1 : ds.length = es.length := by omega
      have e2 : min ds.length es.length = its.length := by omega
      rw [e2, show (ds.length == es.length) = true from by simp [e1], Bool.and_true]
      simpa using q'
    · have h' : (ds.length == es.length) = false := by
        simp at hs
        simp
        omega
      rw [h', Bool.and_false]
      exact RcAt.lists_lengths hl hl2 (by simpa using hs) hu1
  have go_tup : ∀ {a b : Addr} {xs ys : List V} {ds es : List D} {its its2 : List Value}, RepAll S A H xs ds → RepAll S A H ys es → Vals xs its → Vals ys its2 → s.heap.IsTuple a its.toArray → s.heap.IsTuple b its2.toArray →
      D.plains false ds = true → D.plains false es = true → D.depths ds ≤ 59 → RcAt B s (.ref a) (.ref b) (eqDs ds es) := by
    intro a b xs ys ds es its its2 q q3 rv rv2 hl hl2 pp1 pp2 hd'
    have l1 := q.length
    have l2 := q3.length
    have l3 := rv.length
    have l4 := rv2.length
    rw [eqDs_range]
    have el : ∀ j (h1 : j < its.toArray.size) (h2 : j < its2.toArray.size), EqAt B.in1 s its.toArray[j] its2.toArray[j] (eqD (ds.getD j .non) (es.getD j .non)) := by
      intro j h1 h2
      simp at h1 h2
      have g1 : ds[j]? = some (ds.getD j .non) := by
        rw [List.getD_eq_getElem?_getD, List.getElem?_eq_getElem (by omega)] <;> rfl
      have g2 : es[j]? = some (es.getD j .non) := by
        rw [List.getD_eq_getElem?_getD, List.getElem?_eq_getElem (by omega)] <;> rfl
      obtain ⟨v1, k1, m1⟩ := q.get g1
      obtain ⟨v2, k2, m2⟩ := q3.get g2
      obtain ⟨u1, k3, m3⟩ := rv.get k1
      obtain ⟨u2, k4, m4⟩ := rv2.get k2
      have f1 : its.toArray[j] = u1 := by
        rw [List.getElem?_eq_getElem h1] at k3
        simpa using k3
      have f2 : its2.toArray[j] = u2 := by
        rw [List.getElem?_eq_getElem h2] at k4
        simpa using k4
      rw [f1, f2]
      exact eq_at I hK 59 _ _ _ _ _ _ _ (depths_get hd' (by omega)) (by show B.units + 1 + 59 < cLine; omega) m1 m2 m3 m4 (plains_get pp1 (by omega)) (plains_get pp2 (by omega))
    have q' := RcAt.tuples (A := B) (e := fun j => eqD (ds.getD j .non) (es.getD j .non)) hl hl2 hu1 el
    simpa [← l1, ← l2, ← l3, ← l4] using q'
  cases r1 with
  | non =>
    cases q1
    cases r2 with
    | non => cases q2; exact RcAt.none_none 
    | bl z2 => cases q2; exact RcAt.none_bool _
    | int z2 => obtain ⟨t2, rfl⟩ := q2; exact RcAt.none_int _ _
    | str z2 => obtain ⟨t2, rfl⟩ := q2; exact RcAt.none_str _ _
    | lst n2 r2 w2 => cases q2; obtain ⟨i2, rv2, hl2⟩ := rd_list I r2; exact RcAt.none_list hl2 hu1
    | tup n2 r2 w2 => cases q2; obtain ⟨i2, rv2, hl2⟩ := rd_tup I (.inl (.inl r2)); exact RcAt.none_tuple hl2 hu1
    | tupW r2 g2 w2 => cases q2; obtain ⟨i2, rv2, hl2⟩ := rd_tup I (.inr (by rw [hK]; exact r2)); exact RcAt.none_tuple hl2 hu1
    | dK => simp [D.plain] at p2
    | dT => simp [D.plain] at p2
    | ins => simp [D.plain] at p2
    | cell => simp [D.plain] at p2
    | wls => simp [D.plain] at p2
    | wlsW => simp [D.plain] at p2
  | bl z1 =>
    cases q1
    cases r2 with
    | non => cases q2; exact RcAt.bool_none _
    | bl z2 => cases q2; exact RcAt.bool_bool _ _
    | int z2 => obtain ⟨t2, rfl⟩ := q2; exact RcAt.bool_int _ _ _
    | str z2 => obtain ⟨t2, rfl⟩ := q2; exact RcAt.bool_str _ _ _
    | lst n2 r2 w2 => cases q2; obtain ⟨i2, rv2, hl2⟩ := rd_list I r2; exact RcAt.bool_list _ hl2 hu1
    | tup n2 r2 w2 => cases q2; obtain ⟨i2, rv2, hl2⟩ := rd_tup I (.inl (.inl r2)); exact RcAt.bool_tuple _ hl2 hu1
    | tupW r2 g2 w2 => cases q2; obtain ⟨i2, rv2, hl2⟩ := rd_tup I (.inr (by rw [hK]; exact r2)); exact RcAt.bool_tuple _ hl2 hu1
    | dK => simp [D.plain] at p2
    | dT => simp [D.plain] at p2
    | ins => simp [D.plain] at p2
    | cell => simp [D.plain] at p2
    | wls => simp [D.plain] at p2
    | wlsW => simp [D.plain] at p2
  | int z1 =>
    obtain ⟨t1, rfl⟩ := q1
    cases r2 with
    | non => cases q2; exact RcAt.int_none _ _
    | bl z2 => cases q2; exact RcAt.int_bool _ _ _
    | int z2 => obtain ⟨t2, rfl⟩ := q2; exact RcAt.int_int _ _ _ _
    | str z2 => obtain ⟨t2, rfl⟩ := q2; exact RcAt.int_str _ _ _ _
    | lst n2 r2 w2 => cases q2; obtain ⟨i2, rv2, hl2⟩ := rd_list I r2; exact RcAt.int_list _ _ hl2 hu1
    | tup n2 r2 w2 => cases q2; obtain ⟨i2, rv2, hl2⟩ := rd_tup I (.inl (.inl r2)); exact RcAt.int_tuple _ _ hl2 hu1
    | tupW r2 g2 w2 => cases q2; obtain ⟨i2, rv2, hl2⟩ := rd_tup I (.inr (by rw [hK]; exact r2)); exact RcAt.int_tuple _ _ hl2 hu1
    | dK => simp [D.plain] at p2
    | dT => simp [D.plain] at p2
    | ins => simp [D.plain] at p2
    | cell => simp [D.plain] at p2
    | wls => simp [D.plain] at p2
    | wlsW => simp [D.plain] at p2
  | str z1 =>
    obtain ⟨t1, rfl⟩ := q1
    cases r2 with
    | non => cases q2; exact RcAt.str_none _ _
    | bl z2 => cases q2; exact RcAt.str_bool _ _ _
    | int z2 => obtain ⟨t2, rfl⟩ := q2; exact RcAt.str_int _ _ _ _
    | str z2 => obtain ⟨t2, rfl⟩ := q2; exact RcAt.str_str _ _ _ _
    | lst n2 r2 w2 => cases q2; obtain ⟨i2, rv2, hl2⟩ := rd_list I r2; exact RcAt.str_list _ _ hl2 hu1
    | tup n2 r2 w2 => cases q2; obtain ⟨i2, rv2, hl2⟩ := rd_tup I (.inl (.inl r2)); exact RcAt.str_tuple _ _ hl2 hu1
    | tupW r2 g2 w2 => cases q2; obtain ⟨i2, rv2, hl2⟩ := rd_tup I (.inr (by rw [hK]; exact r2)); exact RcAt.str_tuple _ _ hl2 hu1
    | dK => simp [D.plain] at p2
    | dT => simp [D.plain] at p2
    | ins => simp [D.plain] at p2
    | cell => simp [D.plain] at p2
    | wls => simp [D.plain] at p2
    | wlsW => simp [D.plain] at p2
  | lst n1 r1 w1 =>
    cases q1; obtain ⟨i1, rv1, hl1⟩ := rd_list I r1
    cases r2 with
    | non => cases q2; exact RcAt.list_none hl1 hu1
    | bl z2 => cases q2; exact RcAt.list_bool _ hl1 hu1
    | int z2 => obtain ⟨t2, rfl⟩ := q2; exact RcAt.list_int _ _ hl1 hu1
    | str z2 => obtain ⟨t2, rfl⟩ := q2; exact RcAt.list_str _ _ hl1 hu1
    | lst n2 r2 w2 => cases q2; obtain ⟨i2, rv2, hl2⟩ := rd_list I r2; exact go_lst w1 w2 rv1 rv2 hl1 hl2 (by simpa [D.plain] using p1) (by simpa [D.plain] using p2) (by simp [D.depth] at hd; omega)
    | tup n2 r2 w2 => cases q2; obtain ⟨i2, rv2, hl2⟩ := rd_tup I (.inl (.inl r2)); exact RcAt.list_tuple hl1 hl2 hu1
    | tupW r2 g2 w2 => cases q2; obtain ⟨i2, rv2, hl2⟩ := rd_tup I (.inr (by rw [hK]; exact r2)); exact RcAt.list_tuple hl1 hl2 hu1
    | dK => simp [D.plain] at p2
    | dT => simp [D.plain] at p2
    | ins => simp [D.plain] at p2
    | cell => simp [D.plain] at p2
    | wls => simp [D.plain] at p2
    | wlsW => simp [D.plain] at p2
  | tup n1 r1 w1 =>
    cases q1; obtain ⟨i1, rv1, hl1⟩ := rd_tup I (.inl (.inl r1))
    cases r2 with
    | non => cases q2; exact RcAt.tuple_none hl1 hu1
    | bl z2 => cases q2; exact RcAt.tuple_bool _ hl1 hu1
    | int z2 => obtain ⟨t2, rfl⟩ := q2; exact RcAt.tuple_int _ _ hl1 hu1
    | str z2 => obtain ⟨t2, rfl⟩ := q2; exact RcAt.tuple_str _ _ hl1 hu1
    | lst n2 r2 w2 => cases q2; obtain ⟨i2, rv2, hl2⟩ := rd_list I r2; exact RcAt.tuple_list hl1 hl2 hu1
    | tup n2 r2 w2 => cases q2; obtain ⟨i2, rv2, hl2⟩ := rd_tup I (.inl (.inl r2)); exact go_tup w1 w2 rv1 rv2 hl1 hl2 (by simpa [D.plain] using p1) (by simpa [D.plain] using p2) (by simp [D.depth] at hd; omega)
    | tupW r2 g2 w2 => cases q2; obtain ⟨i2, rv2, hl2⟩ := rd_tup I (.inr (by rw [hK]; exact r2)); exact go_tup w1 w2 rv1 rv2 hl1 hl2 (by simpa [D.plain] using p1) (by simpa [D.plain] using p2) (by simp [D.depth] at hd; omega)
    | dK => simp [D.plain] at p2
    | dT => simp [D.plain] at p2
    | ins => simp [D.plain] at p2
    | cell => simp [D.plain] at p2
    | wls => simp [D.plain] at p2
    | wlsW => simp [D.plain] at p2
  | tupW r1 g1 w1 =>
    cases q1; obtain ⟨i1, rv1, hl1⟩ := rd_tup I (.inr (by rw [hK]; exact r1))
    cases r2 with
    | non => cases q2; exact RcAt.tuple_none hl1 hu1
    | bl z2 => cases q2; exact RcAt.tuple_bool _ hl1 hu1
    | int z2 => obtain ⟨t2, rfl⟩ := q2; exact RcAt.tuple_int _ _ hl1 hu1
    | str z2 => obtain ⟨t2, rfl⟩ := q2; exact RcAt.tuple_str _ _ hl1 hu1
    | lst n2 r2 w2 => cases q2; obtain ⟨i2, rv2, hl2⟩ := rd_list I r2; exact RcAt.tuple_list hl1 hl2 hu1
    | tup n2 r2 w2 => cases q2; obtain ⟨i2, rv2, hl2⟩ := rd_tup I (.inl (.inl r2)); exact go_tup w1 w2 rv1 rv2 hl1 hl2 (by simpa [D.plain] using p1) (by simpa [D.plain] using p2) (by simp [D.depth] at hd; omega)
    | tupW r2 g2 w2 => cases q2; obtain ⟨i2, rv2, hl2⟩ := rd_tup I (.inr (by rw [hK]; exact r2)); exact go_tup w1 w2 rv1 rv2 hl1 hl2 (by simpa [D.plain] using p1) (by simpa [D.plain] using p2) (by simp [D.depth] at hd; omega)
    | dK => simp [D.plain] at p2
    | dT => simp [D.plain] at p2
    | ins => simp [D.plain] at p2
    | cell => simp [D.plain] at p2
    | wls => simp [D.plain] at p2
    | wlsW => simp [D.plain] at p2
  | dK => simp [D.plain] at p1
  | dT => simp [D.plain] at p1
  | ins => simp [D.plain] at p1
  | cell => simp [D.plain] at p1
  | wls => simp [D.plain] at p1
  | wlsW => simp [D.plain] at p1
/-- x != y, the comparison itself -/
theorem rn_at (I : Inv X pins σ H s) (hK : X.K = S.K) {d e : D} {v w : V} {x y : Value} {B : Around} (hd : D.depth d ≤ 60) (hu : B.units + 64 < cLine) (r1 : Rep S A H v d) (r2 : Rep S A H w e) (q1 : RelV v x) (q2 : RelV w y)
    (p1 : D.plain false d = true) (p2 : D.plain false e = true) : RcNeAt B s x y (!eqD d e) := by
  have hu1 : B.units < cLine := by omega
  have go_lst : ∀ {a b : Addr} {xs ys : List V} {ds es : List D} {its its2 : List Value}, RepAll S A H xs ds → RepAll S A H ys es → Vals xs its → Vals ys its2 → s.heap.IsList a its.toArray → s.heap.IsList b its2.toArray →
      D.plains false ds = true → D.plains false es = true → D.depths ds ≤ 59 → RcNeAt B s (.ref a) (.ref b) (!eqDs ds es) := by
    intro a b xs ys ds es its its2 q q3 rv rv2 hl hl2 pp1 pp2 hd'
    have l1 := q.length
    have l2 := q3.length
    have l3 := rv.length
    have l4 := rv2.length
    rw [eqDs_range]
    have el : ∀ j (h1 : j < its.toArray.size) (h2 : j < its2.toArray.size), EqAt B.in1 s its.toArray[j] its2.toArray[j] (eqD (ds.getD j .non) (es.getD j .non)) := by
      intro j h1 h2
      simp at h1 h2
      have g1 : ds[j]? = some (ds.getD j .non) := by
        rw [List.getD_eq_getElem?_getD, List.getElem?_eq_getElem (by omega)] <;> rfl
      have g2 : es[j]? = some (es.getD j .non) := by
        rw [List.getD_eq_getElem?_getD, List.getElem?_eq_getElem (by omega)] <;> rfl
      obtain ⟨v1, k1, m1⟩ := q.get g1
      obtain ⟨v2, k2, m2⟩ := q3.get g2
      obtain ⟨u1, k3, m3⟩ := rv.get k1
      obtain ⟨u2, k4, m4⟩ := rv2.get k2
      have f1 : its.toArray[j] = u1 := by
        rw [List.getElem?_eq_getElem h1] at k3
        simpa using k3
      have f2 : its2.toArray[j] = u2 := by
        rw [List.getElem?_eq_getElem h2] at k4
        simpa using k4
      rw [f1, f2]
      exact eq_at I hK 59 _ _ _ _ _ _ _ (depths_get hd' (by omega)) (by show B.units + 1 + 59 < cLine; omega) m1 m2 m3 m4 (plains_get pp1 (by omega)) (plains_get pp2 (by omega))
    by_cases hs : its.toArray.size = its2.toArray.size
    · have q' := RcNeAt.lists (A := B) (e := fun j => eqD (ds.getD j .non) (es.getD j .non)) hl hl2 hs hu1 el
      simp at hs
      have e1 : ds.length = es.length := by omega
      have e2 : min ds.length es.length = its.length := by omega
      rw [e2, show (ds.length == es.length) = true from by simp [e1], Bool.and_true]
      simpa using q'
    · have h' : (ds.length == es.length) = false := by
        simp at hs
        simp
        omega
      rw [h', Bool.and_false]
      exact RcNeAt.lists_lengths hl hl2 (by simpa using hs) hu1
  have go_tup : ∀ {a b : Addr} {xs ys : List V} {ds es : List D} {its its2 : List Value}, RepAll S A H xs ds → RepAll S A H ys es → Vals xs its → Vals ys its2 → s.heap.IsTuple a its.toArray → s.heap.IsTuple b its2.toArray →
      D.plains false ds = true → D.plains false es = true → D.depths ds ≤ 59 → RcNeAt B s (.ref a) (.ref b) (!eqDs ds es) := by
    intro a b xs ys ds es its its2 q q3 rv rv2 hl hl2 pp1 pp2 hd'
    have l1 := q.length
    have l2 := q3.length
    have l3 := rv.length
    have l4 := rv2.length
    rw [eqDs_range]
    have el : ∀ j (h1 : j < its.toArray.size) (h2 : j < its2.toArray.size), EqAt B.in1 s its.toArray[j] its2.toArray[j] (eqD (ds.getD j .non) (es.getD j .non)) := by
      intro j h1 h2
      simp at h1 h2
      have g1 : ds[j]? = some (ds.getD j .non) := by
        rw [List.getD_eq_getElem?_getD, List.getElem?_eq_getElem (by omega)] <;> rfl
      have g2 : es[j]? = some (es.getD j .non) := by
        rw [List.getD_eq_getElem?_getD, List.getElem?_eq_getElem (by omega)] <;> rfl
      obtain ⟨v1, k1, m1⟩ := q.get g1
      obtain ⟨v2, k2, m2⟩ := q3.get g2
      obtain ⟨u1, k3, m3⟩ := rv.get k1
      obtain ⟨u2, k4, m4⟩ := rv2.get k2
      have f1 : its.toArray[j] = u1 := by
        rw [List.getElem?_eq_getElem h1] at k3
        simpa using k3
      have f2 : its2.toArray[j] = u2 := by
        rw [List.getElem?_eq_getElem h2] at k4
        simpa using k4
      rw [f1, f2]
      exact eq_at I hK 59 _ _ _ _ _ _ _ (depths_get hd' (by omega)) (by show B.units + 1 + 59 < cLine; omega) m1 m2 m3 m4 (plains_get pp1 (by omega)) (plains_get pp2 (by omega))
    have q' := RcNeAt.tuples (A := B) (e := fun j => eqD (ds.getD j .non) (es.getD j .non)) hl hl2 hu1 el
    simpa [← l1, ← l2, ← l3, ← l4] using q'
  cases r1 with
  | non =>
    cases q1
    cases r2 with
    | non => cases q2; exact RcNeAt.none_none 
    | bl z2 => cases q2; exact RcNeAt.none_bool _
    | int z2 => obtain ⟨t2, rfl⟩ := q2; exact RcNeAt.none_int _ _
    | str z2 => obtain ⟨t2, rfl⟩ := q2; exact RcNeAt.none_str _ _
    | lst n2 r2 w2 => cases q2; obtain ⟨i2, rv2, hl2⟩ := rd_list I r2; exact RcNeAt.none_list hl2 hu1
    | tup n2 r2 w2 => cases q2; obtain ⟨i2, rv2, hl2⟩ := rd_tup I (.inl (.inl r2)); exact RcNeAt.none_tuple hl2 hu1
    | tupW r2 g2 w2 => cases q2; obtain ⟨i2, rv2, hl2⟩ := rd_tup I (.inr (by rw [hK]; exact r2)); exact RcNeAt.none_tuple hl2 hu1
    | dK => simp [D.plain] at p2
    | dT => simp [D.plain] at p2
    | ins => simp [D.plain] at p2
    | cell => simp [D.plain] at p2
    | wls => simp [D.plain] at p2
    | wlsW => simp [D.plain] at p2
  | bl z1 =>
    cases q1
    cases r2 with
    | non => cases q2; exact RcNeAt.bool_none _
    | bl z2 => cases q2; exact RcNeAt.bool_bool _ _
    | int z2 => obtain ⟨t2, rfl⟩ := q2; exact RcNeAt.bool_int _ _ _
    | str z2 => obtain ⟨t2, rfl⟩ := q2; exact RcNeAt.bool_str _ _ _
    | lst n2 r2 w2 => cases q2; obtain ⟨i2, rv2, hl2⟩ := rd_list I r2; exact RcNeAt.bool_list _ hl2 hu1
    | tup n2 r2 w2 => cases q2; obtain ⟨i2, rv2, hl2⟩ := rd_tup I (.inl (.inl r2)); exact RcNeAt.bool_tuple _ hl2 hu1
    | tupW r2 g2 w2 => cases q2; obtain ⟨i2, rv2, hl2⟩ := rd_tup I (.inr (by rw [hK]; exact r2)); exact RcNeAt.bool_tuple _ hl2 hu1
    | dK => simp [D.plain] at p2
    | dT => simp [D.plain] at p2
    | ins => simp [D.plain] at p2
    | cell => simp [D.plain] at p2
    | wls => simp [D.plain] at p2
    | wlsW => simp [D.plain] at p2
  | int z1 =>
    obtain ⟨t1, rfl⟩ := q1
    cases r2 with
    | non => cases q2; exact RcNeAt.int_none _ _
    | bl z2 => cases q2; exact RcNeAt.int_bool _ _ _
    | int z2 => obtain ⟨t2, rfl⟩ := q2; exact RcNeAt.int_int _ _ _ _
    | str z2 => obtain ⟨t2, rfl⟩ := q2; exact RcNeAt.int_str _ _ _ _
    | lst n2 r2 w2 => cases q2; obtain ⟨i2, rv2, hl2⟩ := rd_list I r2; exact RcNeAt.int_list _ _ hl2 hu1
    | tup n2 r2 w2 => cases q2; obtain ⟨i2, rv2, hl2⟩ := rd_tup I (.inl (.inl r2)); exact RcNeAt.int_tuple _ _ hl2 hu1
    | tupW r2 g2 w2 => cases q2; obtain ⟨i2, rv2, hl2⟩ := rd_tup I (.inr (by rw [hK]; exact r2)); exact RcNeAt.int_tuple _ _ hl2 hu1
    | dK => simp [D.plain] at p2
    | dT => simp [D.plain] at p2
    | ins => simp [D.plain] at p2
    | cell => simp [D.plain] at p2
    | wls => simp [D.plain] at p2
    | wlsW => simp [D.plain] at p2
  | str z1 =>
    obtain ⟨t1, rfl⟩ := q1
    cases r2 with
    | non => cases q2; exact RcNeAt.str_none _ _
    | bl z2 => cases q2; exact RcNeAt.str_bool _ _ _
    | int z2 => obtain ⟨t2, rfl⟩ := q2; exact RcNeAt.str_int _ _ _ _
    | str z2 => obtain ⟨t2, rfl⟩ := q2; exact RcNeAt.str_str _ _ _ _
    | lst n2 r2 w2 => cases q2; obtain ⟨i2, rv2, hl2⟩ := rd_list I r2; exact RcNeAt.str_list _ _ hl2 hu1
    | tup n2 r2 w2 => cases q2; obtain ⟨i2, rv2, hl2⟩ := rd_tup I (.inl (.inl r2)); exact RcNeAt.str_tuple _ _ hl2 hu1
    | tupW r2 g2 w2 => cases q2; obtain ⟨i2, rv2, hl2⟩ := rd_tup I (.inr (by rw [hK]; exact r2)); exact RcNeAt.str_tuple _ _ hl2 hu1
    | dK => simp [D.plain] at p2
    | dT => simp [D.plain] at p2
    | ins => simp [D.plain] at p2
    | cell => simp [D.plain] at p2
    | wls => simp [D.plain] at p2
    | wlsW => simp [D.plain] at p2
  | lst n1 r1 w1 =>
    cases q1; obtain ⟨i1, rv1, hl1⟩ := rd_list I r1
    cases r2 with
    | non => cases q2; exact RcNeAt.list_none hl1 hu1
    | bl z2 => cases q2; exact RcNeAt.list_bool _ hl1 hu1
    | int z2 => obtain ⟨t2, rfl⟩ := q2; exact RcNeAt.list_int _ _ hl1 hu1
    | str z2 => obtain ⟨t2, rfl⟩ := q2; exact RcNeAt.list_str _ _ hl1 hu1
    | lst n2 r2 w2 => cases q2; obtain ⟨i2, rv2, hl2⟩ := rd_list I r2; exact go_lst w1 w2 rv1 rv2 hl1 hl2 (by simpa [D.plain] using p1) (by simpa [D.plain] using p2) (by simp [D.depth] at hd; omega)
    | tup n2 r2 w2 => cases q2; obtain ⟨i2, rv2, hl2⟩ := rd_tup I (.inl (.inl r2)); exact RcNeAt.list_tuple hl1 hl2 hu1
    | tupW r2 g2 w2 => cases q2; obtain ⟨i2, rv2, hl2⟩ := rd_tup I (.inr (by rw [hK]; exact r2)); exact RcNeAt.list_tuple hl1 hl2 hu1
    | dK => simp [D.plain] at p2
    | dT => simp [D.plain] at p2
    | ins => simp [D.plain] at p2
    | cell => simp [D.plain] at p2
    | wls => simp [D.plain] at p2
    | wlsW => simp [D.plain] at p2
  | tup n1 r1 w1 =>
    cases q1; obtain ⟨i1, rv1, hl1⟩ := rd_tup I (.inl (.inl r1))
    cases r2 with
    | non => cases q2; exact RcNeAt.tuple_none hl1 hu1
    | bl z2 => cases q2; exact RcNeAt.tuple_bool _ hl1 hu1
    | int z2 => obtain ⟨t2, rfl⟩ := q2; exact RcNeAt.tuple_int _ _ hl1 hu1
    | str z2 => obtain ⟨t2, rfl⟩ := q2; exact RcNeAt.tuple_str _ _ hl1 hu1
    | lst n2 r2 w2 => cases q2; obtain ⟨i2, rv2, hl2⟩ := rd_list I r2; exact RcNeAt.tuple_list hl1 hl2 hu1
    | tup n2 r2 w2 => cases q2; obtain ⟨i2, rv2, hl2⟩ := rd_tup I (.inl (.inl r2)); exact go_tup w1 w2 rv1 rv2 hl1 hl2 (by simpa [D.plain] using p1) (by simpa [D.plain] using p2) (by simp [D.depth] at hd; omega)
    | tupW r2 g2 w2 => cases q2; obtain ⟨i2, rv2, hl2⟩ := rd_tup I (.inr (by rw [hK]; exact r2)); exact go_tup w1 w2 rv1 rv2 hl1 hl2 (by simpa [D.plain] using p1) (by simpa [D.plain] using p2) (by simp [D.depth] at hd; omega)
    | dK => simp [D.plain] at p2
    | dT => simp [D.plain] at p2
    | ins => simp [D.plain] at p2
    | cell => simp [D.plain] at p2
    | wls => simp [D.plain] at p2
    | wlsW => simp [D.plain] at p2
  | tupW r1 g1 w1 =>
    cases q1; obtain ⟨i1, rv1, hl1⟩ := rd_tup I (.inr (by rw [hK]; exact r1))
    cases r2 with
    | non => cases q2; exact RcNeAt.tuple_none hl1 hu1
    | bl z2 => cases q2; exact RcNeAt.tuple_bool _ hl1 hu1
    | int z2 => obtain ⟨t2, rfl⟩ := q2; exact RcNeAt.tuple_int _ _ hl1 hu1
    | str z2 => obtain ⟨t2, rfl⟩ := q2; exact RcNeAt.tuple_str _ _ hl1 hu1
    | lst n2 r2 w2 => cases q2; obtain ⟨i2, rv2, hl2⟩ := rd_list I r2; exact RcNeAt.tuple_list hl1 hl2 hu1
    | tup n2 r2 w2 => cases q2; obtain ⟨i2, rv2, hl2⟩ := rd_tup I (.inl (.inl r2)); exact go_tup w1 w2 rv1 rv2 hl1 hl2 (by simpa [D.plain] using p1) (by simpa [D.plain] using p2) (by simp [D.depth] at hd; omega)
    | tupW r2 g2 w2 => cases q2; obtain ⟨i2, rv2, hl2⟩ := rd_tup I (.inr (by rw [hK]; exact r2)); exact go_tup w1 w2 rv1 rv2 hl1 hl2 (by simpa [D.plain] using p1) (by simpa [D.plain] using p2) (by simp [D.depth] at hd; omega)
    | dK => simp [D.plain] at p2
    | dT => simp [D.plain] at p2
    | ins => simp [D.plain] at p2
    | cell => simp [D.plain] at p2
    | wls => simp [D.plain] at p2
    | wlsW => simp [D.plain] at p2
  | dK => simp [D.plain] at p1
  | dT => simp [D.plain] at p1
  | ins => simp [D.plain] at p1
  | cell => simp [D.plain] at p1
  | wls => simp [D.plain] at p1
  | wlsW => simp [D.plain] at p1
end
end Iv


set_option Elab.async false
set_option linter.all false
set_option maxRecDepth 100000
set_option maxHeartbeats 4000000
namespace Iv
open PySem PySem.Spec PyProof.Rows L2
section
variable {X : Cx} {S : Sta} {cf : CF} {A : List Addr} {G G' : List C} {H : Hp} {σ : L2.St} {ρ : En} {pins : List (Addr × Obj)} {s : Shared}
mutual
/-- what has no cells leans on none -/
theorem rep_any {A' : List Addr} (h : ∀ a, a ∈ A' → a ∈ A) : ∀ {v : V} {d : D}, D.clean 0 d = true → Rep S A H v d → Rep (S.hide []) A' H v d
  | _, _, _, .non => .non
  | _, _, _, .bl b => .bl b
  | _, _, _, .int b => .int b
  | _, _, _, .str b => .str b
  | _, _, p, .lst n r q => .lst ⟨fun z => n.1 (h _ z), List.not_mem_nil⟩ r (reps_any h (by simpa [D.clean] using p) q)
  | _, _, p, .tup n r q => .tup ⟨fun z => n.1 (h _ z), List.not_mem_nil⟩ r (reps_any h (by simpa [D.clean] using p) q)
  | _, _, p, .tupW r l q => .tupW r l (reps_any h (by simpa [D.clean] using p) q)
  | _, _, p, .dK n r e q => .dK ⟨fun z => n.1 (h _ z), List.not_mem_nil⟩ r e (reps_any h (by simpa [D.clean] using p) q)
  | _, _, p, .dT n r e q => .dT ⟨fun z => n.1 (h _ z), List.not_mem_nil⟩ r e (reps_any h (by simpa [D.clean] using p) q)
  | _, _, p, .ins n r m e q => .ins ⟨fun z => n.1 (h _ z), List.not_mem_nil⟩ r m e (reps_any h (by simpa [D.clean] using p) q)
  | _, _, p, .cell e => by simp [D.clean] at p
  | _, _, p, .wls n r q => .wls ⟨fun z => n.1 (h _ z), List.not_mem_nil⟩ r (reps_any h (by simpa [D.clean] using p) q)
  | _, _, p, .wlsW r q => .wlsW r (reps_any h (by simpa [D.clean] using p) q)
theorem reps_any {A' : List Addr} (h : ∀ a, a ∈ A' → a ∈ A) : ∀ {vs : List V} {ds : List D}, D.cleans 0 ds = true → RepAll S A H vs ds → RepAll (S.hide []) A' H vs ds
  | _, _, _, .nil => .nil
  | _, _, p, .cons a t => by
    simp [D.cleans] at p
    exact .cons (rep_any h p.1 a) (reps_any h p.2 t)
end
mutual
theorem clean_plain : ∀ {b : Bool} (d : D), D.plain false d = true → D.clean 0 d = true
  | _, .non, _ => by simp [D.clean]
  | _, .bl _, _ => by simp [D.clean]
  | _, .int _, _ => by simp [D.clean]
  | _, .str _, _ => by simp [D.clean]
  | b, .lst xs, h => by simp only [D.clean]; exact cleans_plain (b := b) xs (by simpa [D.plain] using h)
  | b, .tup xs, h => by simp only [D.clean]; exact cleans_plain (b := b) xs (by simpa [D.plain] using h)
  | _, .dic _ _ _, h => by simp [D.plain] at h
  | _, .ins _ _ _, h => by simp [D.plain] at h
  | _, .cell _, h => by simp [D.plain] at h
  | _, .wls _, h => by simp [D.plain] at h
theorem cleans_plain : ∀ {b : Bool} (ds : List D), D.plains false ds = true → D.cleans 0 ds = true
  | _, [], _ => by simp [D.cleans]
  | b, d :: ds, h => by
    simp [D.plains] at h
    simp [D.cleans, clean_plain (b := b) d h.1, cleans_plain (b := b) ds h.2]
end
theorem eqOk_p {x y : D} (h : eqOk x y = true) : D.plain false x = true ∧ D.plain false y = true ∧ D.depth x ≤ 60 := by
  unfold eqOk at h
  simp only [Bool.and_eq_true, decide_eq_true_eq] at h
  exact ⟨h.1.1, h.1.2, h.2⟩
/-- a tree's value, or a cell's list as a tree, where no cell is -/
theorem as_tree {d : D} {v : V} {xs : List D} (hx : lstOf G d = some xs) (p : D.plain false (.lst xs) = true) (c : CsOk S A G H) (r : Rep S A H v d) : Rep (S.hide []) [] H v (.lst xs) := by
  obtain ⟨a, vs, rfl, rd, q⟩ := lst_rd hx c r
  exact .lst ⟨by simp, List.not_mem_nil⟩ rd (reps_any (by simp) (cleans_plain (b := false) xs (by simpa [D.plain] using p)) q)
def rEqR (S : Sta) : R2 := fun x y H Q => ∃ d e, Rep (S.hide []) [] H x d ∧ Rep (S.hide []) [] H y e ∧ eqOk d e = true ∧ Q (.bl (eqD d e)) H
def rNeR (S : Sta) : R2 := fun x y H Q => ∃ d e, Rep (S.hide []) [] H x d ∧ Rep (S.hide []) [] H y e ∧ eqOk d e = true ∧ Q (.bl (!eqD d e)) H
theorem op_eqR (ok : XOk X S cf) : OpR X (compareOp .Eq) (rEqR S) := by
  intro pins s σ H x y v u Q I rx ry h
  obtain ⟨d, e, r1, r2, p, q⟩ := h
  obtain ⟨p1, p2, hd⟩ := eqOk_p p
  exact rc_at (S := S.hide []) I ok.K hd (by have := ok.un; omega) r1 r2 rx ry p1 p2 _ _ _ _ ⟨.bl _, H, I, rfl, q⟩
theorem op_neR (ok : XOk X S cf) : OpR X (compareOp .NotEq) (rNeR S) := by
  intro pins s σ H x y v u Q I rx ry h
  obtain ⟨d, e, r1, r2, p, q⟩ := h
  obtain ⟨p1, p2, hd⟩ := eqOk_p p
  exact rn_at (S := S.hide []) I ok.K hd (by have := ok.un; omega) r1 r2 rx ry p1 p2 _ _ _ _ ⟨.bl _, H, I, rfl, q⟩
/-- x in a list, a tuple -/
def rInR (S : Sta) (neg : Bool) : R2 := fun x y H Q => ∃ a xs d ds, y = .ref a ∧ (SqL S.K H a xs ∨ SqT S.K H a xs) ∧ RepAll (S.hide []) [] H xs ds ∧ Rep (S.hide []) [] H x d ∧ (ds.all fun e => eqOk e d) = true ∧ Q (.bl (if neg then !(ds.any fun e => eqD e d) else ds.any fun e => eqD e d)) H
theorem vals_mem : ∀ {xs : List V} {us : List Value} {u : Value}, Vals xs us → u ∈ us → ∃ v, v ∈ xs ∧ RelV v u
  | _, _, _, .nil, h => by simp at h
  | _, _, u, .cons r t, h => by
    rcases List.mem_cons.mp h with e | h
    · subst e; exact ⟨_, List.mem_cons_self .., r⟩
    · obtain ⟨v, m, q⟩ := vals_mem t h
      exact ⟨v, List.mem_cons_of_mem _ m, q⟩
theorem reps_mem : ∀ {xs : List V} {ds : List D} {v : V}, RepAll S A H xs ds → v ∈ xs → ∃ d, d ∈ ds ∧ Rep S A H v d
  | _, _, _, .nil, h => by simp at h
  | _, _, v, .cons r t, h => by
    rcases List.mem_cons.mp h with e | h
    · subst e; exact ⟨_, List.mem_cons_self .., r⟩
    · obtain ⟨d, m, q⟩ := reps_mem t h
      exact ⟨d, List.mem_cons_of_mem _ m, q⟩
open Classical in
/-- the answer of y == x by the value y -/
noncomputable def inE (S : Sta) (H : Hp) (d : D) (u : Value) : Bool := if h : ∃ e v, RelV v u ∧ Rep (S.hide []) [] H v e ∧ eqOk e d = true then eqD (Classical.choose h) d else false
theorem inE_eq (I : Inv X pins σ H s) (hK : X.K = S.K) {d e : D} {v : V} {u : Value} (r : RelV v u) (q : Rep (S.hide []) [] H v e) (p : eqOk e d = true) : inE S H d u = eqD e d := by
  have h : ∃ e v, RelV v u ∧ Rep (S.hide []) [] H v e ∧ eqOk e d = true := ⟨e, v, r, q, p⟩
  unfold inE
  rw [dif_pos h]
  obtain ⟨v', r', q', p'⟩ := Classical.choose_spec h
  have ev := r'.inj r
  subst ev
  rw [rep_inj (S := S.hide []) I hK _ _ _ q' q (eqOk_p p').1 (eqOk_p p).1]
theorem any_inE (I : Inv X pins σ H s) (hK : X.K = S.K) {d : D} : ∀ {xs : List V} {ds : List D} {us : List Value}, RepAll (S.hide []) [] H xs ds → Vals xs us → (ds.all fun e => eqOk e d) = true → us.any (inE S H d) = ds.any fun e => eqD e d
  | _, _, _, .nil, .nil, _ => rfl
  | _, _, _, .cons r t, .cons q w, h => by
    simp at h
    rw [List.any_cons, List.any_cons, inE_eq I hK q r h.1, any_inE I hK t w (by simpa using h.2)]
theorem op_inR (ok : XOk X S cf) (neg : Bool) : OpR X (compareOp (if neg then .NotIn else .In)) (rInR S neg) := by
  intro pins s σ H x y v u Q I rx ry h
  obtain ⟨a, xs, d, ds, rfl, hs, qs, rd, pa, q⟩ := h
  cases ry
  have goal : ∀ {its : List Value}, Vals xs its → ∀ z ∈ its.toArray, SeqAt.EqAt X.A.in1 s z v (inE S H d z) := fun {its} rv z hz => by
    have hz' : z ∈ its := by simpa using hz
    obtain ⟨w, m1, r1⟩ := vals_mem rv hz'
    obtain ⟨e, m2, r2⟩ := reps_mem qs m1
    have p := List.all_eq_true.mp pa e m2
    rw [inE_eq I ok.K r1 r2 p]
    obtain ⟨p1, p2, p3⟩ := eqOk_p p
    exact eq_at (S := S.hide []) I ok.K 60 _ _ _ _ _ _ _ p3 (by have := ok.un; show X.A.units + 1 + 60 < cLine; omega) r2 rd r1 rx p1 p2
  have fin : ∀ {its : List Value}, Vals xs its → (its.toArray.any (inE S H d)) = ds.any fun e => eqD e d := fun {its} rv => by
    rw [← any_inE I ok.K qs rv pa]
    simp
  rcases hs with hs | hs
  · rw [← ok.K] at hs
    obtain ⟨its, rv, p, _⟩ := I.list hs
    cases neg with
    | false => exact SeqAt.in_listAt (inE S H d) p.isList (goal rv) (by rw [fin rv]; exact ⟨.bl _, H, I, rfl, q⟩)
    | true => exact SeqAt.notIn_listAt (inE S H d) p.isList (goal rv) (by rw [fin rv]; exact ⟨.bl _, H, I, rfl, q⟩)
  · rw [← ok.K] at hs
    obtain ⟨its, rv, p, _⟩ := I.tuple hs
    cases neg with
    | false => exact SeqAt.in_tupleAt (inE S H d) p (goal rv) (by rw [fin rv]; exact ⟨.bl _, H, I, rfl, q⟩)
    | true => exact SeqAt.notIn_tupleAt (inE S H d) p (goal rv) (by rw [fin rv]; exact ⟨.bl _, H, I, rfl, q⟩)
end
end Iv

set_option Elab.async false
set_option linter.all false
set_option maxRecDepth 100000
set_option maxHeartbeats 4000000
namespace Iv
open PySem PySem.Spec PyProof.Rows L2
section
variable {X : Cx} {S : Sta} {cf : CF} {A : List Addr} {G G' : List C} {H : Hp} {σ : L2.St} {ρ : En} {pins : List (Addr × Obj)} {s : Shared}
def cop : CO → CmpOp
  | .eq => .Eq | .ne => .NotEq | .lt => .Lt | .le => .LtE | .gt => .Gt | .ge => .GtE | .inn => .In | .nin => .NotIn | .isn => .Is | .notn => .IsNot
/-- a comparison by its operands -/
def CmpGo (X : Cx) (S : Sta) (o : CO) (x y : D) (G : List C) (b : Bool) : Prop :=
  ∃ r : R2, OpR X (compareOp (cop o)) r ∧ ∀ v u A H Q, CsOk S A G H → Rep S A H v x → Rep S A H u y → Q (.bl b) H → r v u H Q
/-! dicts that are read -/
theorem kE1_kD : ∀ {a b : Key}, kE1 (kD a) (kD b) = decide (a = b)
  | .inl i, .inl j => by simp [kE1, kD]; by_cases e : i = j <;> simp [e]
  | .inr i, .inr j => by simp [kE1, kD]; by_cases e : i = j <;> simp [e]
  | .inl i, .inr j => by simp [kE1, kD]
  | .inr i, .inl j => by simp [kE1, kD]
theorem kEq_kD : ∀ {a b : Key}, kEq (kD a) (kD b) = decide (a = b)
  | .inl i, .inl j => by simp [kEq, kE1, kD]; by_cases e : i = j <;> simp [e]
  | .inr i, .inr j => by simp [kEq, kE1, kD]; by_cases e : i = j <;> simp [e]
  | .inl i, .inr j => by simp [kEq, kE1, kD]
  | .inr i, .inl j => by simp [kEq, kE1, kD]
theorem kEs_kD : ∀ {a b : List Key}, kEs (a.map kD) (b.map kD) = decide (a = b)
  | [], [] => by simp [kEs]
  | [], _ :: _ => by simp [kEs]
  | _ :: _, [] => by simp [kEs]
  | x :: a, y :: b => by
    simp only [List.map_cons, kEs, kE1_kD, kEs_kD (a := a) (b := b)]
    by_cases e : x = y <;> by_cases f : a = b <;> simp [e, f]
theorem kEq_tD {a b : List Key} : kEq (Iv.tD a) (Iv.tD b) = decide (a = b) := by
  simp only [Iv.tD, kEq]; exact kEs_kD
theorem dget_K : ∀ {kvs : List (Key × V)} {vs : List D} {k : Key}, RepAll S A H (kvs.map (·.2)) vs → (∀ d, dget (kvs.map fun p => kD p.1) vs (kD k) = some d → ∃ v, valV kvs k = some v ∧ Rep S A H v d) ∧ (dget (kvs.map fun p => kD p.1) vs (kD k) = none → valV kvs k = none)
  | [], _, _, .nil => ⟨fun d h => by simp [dget] at h, fun _ => rfl⟩
  | p :: kvs, _, k, .cons r t => by
    have ih := dget_K (kvs := kvs) (k := k) t
    simp only [List.map_cons, dget, kEq_kD]
    by_cases e : p.1 = k
    · rw [if_pos (by simpa using e)]
      exact ⟨fun d h => by cases h; exact ⟨_, valV_pos e, r⟩, fun h => by cases h⟩
    · rw [if_neg (by simpa using e)]
      exact ⟨fun d h => by obtain ⟨v, h1, h2⟩ := ih.1 d h; exact ⟨v, by rw [valV_neg e]; exact h1, h2⟩, fun h => by rw [valV_neg e]; exact ih.2 h⟩
theorem dget_T : ∀ {kvs : List (List Key × V)} {vs : List D} {k : List Key}, RepAll S A H (kvs.map (·.2)) vs → (∀ d, dget (kvs.map fun p => Iv.tD p.1) vs (Iv.tD k) = some d → ∃ v, valV kvs k = some v ∧ Rep S A H v d) ∧ (dget (kvs.map fun p => Iv.tD p.1) vs (Iv.tD k) = none → valV kvs k = none)
  | [], _, _, .nil => ⟨fun d h => by simp [dget] at h, fun _ => rfl⟩
  | p :: kvs, _, k, .cons r t => by
    have ih := dget_T (kvs := kvs) (k := k) t
    simp only [List.map_cons, dget, kEq_tD]
    by_cases e : p.1 = k
    · rw [if_pos (by simpa using e)]
      exact ⟨fun d h => by cases h; exact ⟨_, valV_pos e, r⟩, fun h => by cases h⟩
    · rw [if_neg (by simpa using e)]
      exact ⟨fun d h => by obtain ⟨v, h1, h2⟩ := ih.1 d h; exact ⟨v, by rw [valV_neg e]; exact h1, h2⟩, fun h => by rw [valV_neg e]; exact ih.2 h⟩
/-- a dict that is read: by ints and texts, by tuples of them -/
inductive DicR (S : Sta) (A : List Addr) (H : Hp) (a : Addr) : Bool → List D → List D → Prop
  | k {ks vs : List D} (kvs : List (Key × V)) : Rd H a (.dK kvs) → ks = kvs.map (fun p => kD p.1) → RepAll S A H (kvs.map (·.2)) vs → DicR S A H a false ks vs
  | t {ks vs : List D} (kvs : List (List Key × V)) : Rd H a (.dT kvs) → ks = kvs.map (fun p => Iv.tD p.1) → RepAll S A H (kvs.map (·.2)) vs → DicR S A H a true ks vs
theorem dic_rd {d : D} {t : Bool} {ks vs : List D} {v : V} (h : dicOf G d = some (t, ks, vs)) (c : CsOk S A G H) (r : Rep S A H v d) : ∃ a, v = .ref a ∧ DicR S A H a t ks vs := by
  cases r with
  | dK n rd e q =>
    simp only [dicOf, Option.some.injEq, Prod.mk.injEq] at h
    obtain ⟨rfl, rfl, rfl⟩ := h
    exact ⟨_, rfl, .k _ rd e q⟩
  | dT n rd e q =>
    simp only [dicOf, Option.some.injEq, Prod.mk.injEq] at h
    obtain ⟨rfl, rfl, rfl⟩ := h
    exact ⟨_, rfl, .t _ rd e q⟩
  | @cell a n e =>
    simp only [dicOf] at h
    split at h
    · rename_i ks' vs' hg
      cases h
      obtain ⟨b, e1, ok, _⟩ := c.addr hg
      rw [e] at e1
      cases e1
      obtain ⟨kvs, h1, e2, q⟩ := ok
      exact ⟨_, rfl, .k kvs (.inl h1) e2 q⟩
    · rename_i ks' vs' hg
      cases h
      obtain ⟨b, e1, ok, _⟩ := c.addr hg
      rw [e] at e1
      cases e1
      obtain ⟨kvs, h1, e2, q⟩ := ok
      exact ⟨_, rfl, .t kvs (.inl h1) e2 q⟩
    · cases h
  | _ => simp [dicOf] at h
/-- a key's value -/
theorem key_K {d : D} {v : V} (h : isK d = true) (r : Rep S A H v d) : ∃ k : Key, d = kD k ∧ v = kV k := by
  cases r with
  | int i => exact ⟨.inl i, rfl, rfl⟩
  | str x => exact ⟨.inr x, rfl, rfl⟩
  | _ => simp [isK] at h
theorem keys_K : ∀ {ds : List D} {vs : List V}, ds.all isK = true → RepAll S A H vs ds → ∃ ks : List Key, ds = ks.map kD ∧ vs = ks.map kV
  | _, _, _, .nil => ⟨[], rfl, rfl⟩
  | _, _, h, .cons r t => by
    simp at h
    obtain ⟨k, e1, e2⟩ := key_K h.1 r
    obtain ⟨ks, e3, e4⟩ := keys_K (by simpa using h.2) t
    exact ⟨k :: ks, by simp [e1, e3], by simp [e2, e4]⟩
/-- an empty dict reads both ways -/
theorem isT_key {d : D} {v : V} (h : isT d = true) (r : Rep S A H v d) : ∃ (k : List Key) (b : Addr), d = Iv.tD k ∧ v = .ref b ∧ H b = some (.tup (k.map kV)) := by
  cases r with
  | tup n rd q =>
    simp only [isT, Bool.and_eq_true, decide_eq_true_eq] at h
    obtain ⟨ks, e1, e2⟩ := keys_K h.1 q
    subst e1 e2
    exact ⟨ks, _, rfl, rfl, rd⟩
  | tupW w l q =>
    simp only [isT, Bool.and_eq_true, decide_eq_true_eq] at h
    omega
  | _ => simp [isT] at h
/-- a look into a dict -/
theorem dic_get {a : Addr} {t : Bool} {ks vs : List D} {k : D} {y : V} (h : DicR S A H a t ks vs) (hk : isKey t k = true) (r : Rep S A H y k) :
    ∃ o, DGet H a y o ∧ (∀ d, dget ks vs k = some d → ∃ v, o = some v ∧ Rep S A H v d) ∧ (dget ks vs k = none → o = none) := by
  cases h with
  | k kvs rd e q =>
    obtain ⟨k', rfl, rfl⟩ := key_K (by simpa [isKey] using hk) r
    subst e
    obtain ⟨h1, h2⟩ := dget_K (k := k') q
    exact ⟨_, .inl ⟨kvs, k', rd, rfl, rfl⟩, h1, h2⟩
  | t kvs rd e q =>
    obtain ⟨k', b, rfl, rfl, hb⟩ := isT_key (by simpa [isKey] using hk) r
    subst e
    obtain ⟨h1, h2⟩ := dget_T (k := k') q
    exact ⟨_, .inr ⟨kvs, k', b, rd, rfl, hb, rfl⟩, h1, h2⟩
end
end Iv

set_option Elab.async false
set_option linter.all false
set_option maxRecDepth 100000
set_option maxHeartbeats 4000000
namespace Iv
open PySem PySem.Spec PyProof.Rows L2
section
variable {X : Cx} {S : Sta} {cf : CF} {A : List Addr} {G G' : List C} {H : Hp} {σ : L2.St} {ρ : En} {pins : List (Addr × Obj)} {s : Shared}
def rDIn (neg : Bool) : R2 := fun x y H Q => ∃ a o, y = .ref a ∧ DGet H a x o ∧ Q (.bl (if neg then !o.isSome else o.isSome)) H
theorem op_dinR (ok : XOk X S cf) (neg : Bool) : OpR X (compareOp (if neg then .NotIn else .In)) (rDIn neg) := by
  intro pins s σ H x y v u Q I rx ry h
  obtain ⟨a, o, rfl, g, q⟩ := h
  cases ry
  have hu : X.A.units + 1 < cLine := by have := ok.un; omega
  cases neg with
  | false => exact d_in hu I g rx fun s' I' => ⟨.bl _, H, I', rfl, q⟩
  | true => exact d_notIn hu I g rx fun s' I' => ⟨.bl _, H, I', rfl, q⟩
theorem all_plains {x : D} : ∀ {ys : List D}, (ys.all fun z => eqOk z x) = true → D.plains false ys = true
  | [], _ => by simp [D.plains]
  | z :: zs, h => by
    simp only [List.all_cons, Bool.and_eq_true] at h
    simp only [D.plains, Bool.and_eq_true]
    exact ⟨(eqOk_p h.1).1, all_plains h.2⟩
/-- in, not in -/
theorem in_go (ok : XOk X S cf) {x y : D} {b : Bool} (neg : Bool) (h : inD x y G = some b) : ∃ r : R2, OpR X (compareOp (if neg then .NotIn else .In)) r ∧ ∀ v u A H Q, CsOk S A G H → Rep S A H v x → Rep S A H u y → Q (.bl (if neg then !b else b)) H → r v u H Q := by
  have seq : ∀ {ys : List D}, seqOf G y = some ys → (if ((ys.all fun z => eqOk z x) && D.plain false x) = true then some (ys.any fun z => eqD z x) else none) = some b →
      ∃ r : R2, OpR X (compareOp (if neg then .NotIn else .In)) r ∧ ∀ v u A H Q, CsOk S A G H → Rep S A H v x → Rep S A H u y → Q (.bl (if neg then !b else b)) H → r v u H Q := by
    intro ys hy e
    split at e
    · rename_i hp
      simp only [Bool.and_eq_true] at hp
      cases e
      refine ⟨_, op_inR ok neg, fun v u A H Q c r1 r2 q => ?_⟩
      obtain ⟨a, xs, rfl, hs, qs⟩ := seq_sq hy c r2
      have pl : D.plains false ys = true := by
        exact all_plains hp.1
      exact ⟨a, xs, x, ys, rfl, hs, reps_any (by simp) (cleans_plain (b := false) ys pl) qs, rep_any (by simp) (clean_plain (b := false) x hp.2) r1, hp.1, q⟩
    · cases e
  have dic : ∀ {t : Bool} {ks vs : List D}, dicOf G y = some (t, ks, vs) → (if isKey t x = true then some (dget ks vs x).isSome else none) = some b →
      ∃ r : R2, OpR X (compareOp (if neg then .NotIn else .In)) r ∧ ∀ v u A H Q, CsOk S A G H → Rep S A H v x → Rep S A H u y → Q (.bl (if neg then !b else b)) H → r v u H Q := by
    intro t ks vs hy e
    split at e
    · rename_i hk
      cases e
      refine ⟨_, op_dinR ok neg, fun v u A H Q c r1 r2 q => ?_⟩
      obtain ⟨a, rfl, dr⟩ := dic_rd hy c r2
      obtain ⟨o, g, g1, g2⟩ := dic_get dr hk r1
      have eo : o.isSome = (dget ks vs x).isSome := by
        cases hd : dget ks vs x with
        | none => rw [g2 hd] <;> rfl
        | some d => obtain ⟨w, e, _⟩ := g1 d hd; rw [e] <;> rfl
      exact ⟨a, o, rfl, g, by rw [eo]; exact q⟩
    · cases e
  have str : ∀ {z c : Str}, y = .str z → x = .str c → some (strIn c z) = some b →
      ∃ r : R2, OpR X (compareOp (if neg then .NotIn else .In)) r ∧ ∀ v u A H Q, CsOk S A G H → Rep S A H v x → Rep S A H u y → Q (.bl (if neg then !b else b)) H → r v u H Q := by
    intro z c ey ex e
    subst ey ex
    cases e
    cases neg with
    | false => exact ⟨_, op_in_str, fun v u A H Q cs r1 r2 q => ⟨_, _, rep_str r1, rep_str r2, q⟩⟩
    | true => exact ⟨_, op_notIn_str, fun v u A H Q cs r1 r2 q => ⟨_, _, rep_str r1, rep_str r2, q⟩⟩
  unfold inD at h
  split at h
  · split at h
    · exact str rfl rfl h
    · cases h
  · split at h
    · rename_i hs
      exact seq hs h
    · split at h
      · rename_i hd
        exact dic hd h
      · cases h
theorem cmp_go (ok : XOk X S cf) {o : CO} {x y : D} {b : Bool} (h : cmpD o x y G = some b) : CmpGo X S o x y G b := by
  unfold cmpD at h
  split at h
  · split at h
    · rename_i xs ys hx hy
      split at h
      · rename_i p
        cases h
        obtain ⟨p1, p2, _⟩ := eqOk_p p
        exact ⟨_, op_eqR ok, fun v u A H Q c r1 r2 q => ⟨_, _, as_tree hx p1 c r1, as_tree hy p2 c r2, p, q⟩⟩
      · cases h
    · split at h
      · rename_i p
        cases h
        obtain ⟨p1, p2, _⟩ := eqOk_p p
        exact ⟨_, op_eqR ok, fun v u A H Q c r1 r2 q => ⟨_, _, rep_any (by simp) (clean_plain (b := false) _ p1) r1, rep_any (by simp) (clean_plain (b := false) _ p2) r2, p, q⟩⟩
      · cases h
  · split at h
    · rename_i xs ys hx hy
      split at h
      · rename_i p
        cases h
        obtain ⟨p1, p2, _⟩ := eqOk_p p
        exact ⟨_, op_neR ok, fun v u A H Q c r1 r2 q => ⟨_, _, as_tree hx p1 c r1, as_tree hy p2 c r2, p, q⟩⟩
      · cases h
    · split at h
      · rename_i p
        cases h
        obtain ⟨p1, p2, _⟩ := eqOk_p p
        exact ⟨_, op_neR ok, fun v u A H Q c r1 r2 q => ⟨_, _, rep_any (by simp) (clean_plain (b := false) _ p1) r1, rep_any (by simp) (clean_plain (b := false) _ p2) r2, p, q⟩⟩
      · cases h
  · split at h
    · cases h; exact ⟨_, op_lt, fun v u A H Q c r1 r2 q => ⟨_, _, rep_int r1, rep_int r2, q⟩⟩
    · cases h; exact ⟨_, op_lt_str, fun v u A H Q c r1 r2 q => ⟨_, _, rep_str r1, rep_str r2, q⟩⟩
    · cases h
  · split at h
    · cases h; exact ⟨_, op_le, fun v u A H Q c r1 r2 q => ⟨_, _, rep_int r1, rep_int r2, q⟩⟩
    · cases h; exact ⟨_, op_le_str, fun v u A H Q c r1 r2 q => ⟨_, _, rep_str r1, rep_str r2, q⟩⟩
    · cases h
  · split at h
    · cases h; exact ⟨_, op_gt, fun v u A H Q c r1 r2 q => ⟨_, _, rep_int r1, rep_int r2, q⟩⟩
    · cases h; exact ⟨_, op_gt_str, fun v u A H Q c r1 r2 q => ⟨_, _, rep_str r1, rep_str r2, q⟩⟩
    · cases h
  · split at h
    · cases h; exact ⟨_, op_ge, fun v u A H Q c r1 r2 q => ⟨_, _, rep_int r1, rep_int r2, q⟩⟩
    · cases h; exact ⟨_, op_ge_str, fun v u A H Q c r1 r2 q => ⟨_, _, rep_str r1, rep_str r2, q⟩⟩
    · cases h
  · exact in_go ok false h
  · cases hi : inD x y G with
    | none => rw [hi] at h; cases h
    | some b' =>
      rw [hi] at h
      cases h
      exact in_go ok true hi
  · refine ⟨_, op_isN, fun v u A H Q c r1 r2 q => ?_⟩
    split at h
    · cases h; exact ⟨rep_non r2, by rw [rep_non r1]; exact q⟩
    · rename_i hne
      cases h
      refine ⟨rep_non r2, ?_⟩
      have : decide (v = V.non) = false := by
        cases r1 <;> first | (exact (hne rfl).elim) | rfl | simp
      rw [this]; exact q
    · cases h
  · refine ⟨_, op_notN, fun v u A H Q c r1 r2 q => ?_⟩
    split at h
    · cases h; exact ⟨rep_non r2, by rw [rep_non r1]; exact q⟩
    · rename_i hne
      cases h
      refine ⟨rep_non r2, ?_⟩
      have : decide (v = V.non) = false := by
        cases r1 <;> first | (exact (hne rfl).elim) | rfl | simp
      rw [this]; exact q
    · cases h
theorem s_cmp {o : CO} {a b : E} {ea eb : Expr} {pos : Pos} (ok : XOk X S cf) (ia : PE X ea (tEv S cf a)) (ib : PE X eb (tEv S cf b)) (hm : behindInMarks (cop o) eb = false) : PE X (.Compare ea [cop o] [eb] pos) (tEv S cf (.cmp o a b)) := by
  refine ⟨fun pins s σ H Q I hh => ?_⟩
  obtain ⟨hθ, A, G, ρ, d, G', cs, l, e, w⟩ := hh
  have ok := ok.hide hθ
  simp only [evE] at e
  split at e
  · rename_i x G1 ha
    split at e
    · rename_i y G2 hb
      split at e
      · rename_i r hc
        cases e
        obtain ⟨rr, hr, hk⟩ := cmp_go ok hc
        refine (pe_cmpR hr ia ib hm).run pins s σ H Q I ⟨hθ, A, G, ρ, x, G1, cs, l, ha, fun v A1 H1 g1 c1 r1 => ⟨hθ, A1, G1, ρ, y, _, c1, l.mono g1, hb, fun u A2 H2 g2 c2 r2 => ?_⟩⟩
        exact hk v u A2 H2 Q c2 (r1.mono g2) r2 (w _ A2 H2 (g1.trans g2) c2 (.bl r))
      · cases e
    · cases e
  · cases e
theorem t_cmp {o : CO} {a b : E} {ea eb : Expr} {pos : Pos} (ok : XOk X S cf) (ia : PE X ea (tEv S cf a)) (ib : PE X eb (tEv S cf b)) (hm : behindInMarks (cop o) eb = false) : PT X (.Compare ea [cop o] [eb] pos) (tTv S cf (.cmp o a b)) := by
  refine ⟨fun pins s σ H Q I hh => ?_⟩
  obtain ⟨hθ, A, G, ρ, d, G', cs, l, e, w⟩ := hh
  have ok := ok.hide hθ
  simp only [evE] at e
  split at e
  · rename_i x G1 ha
    split at e
    · rename_i y G2 hb
      split at e
      · rename_i r hc
        cases e
        obtain ⟨rr, hr, hk⟩ := cmp_go ok hc
        refine (pt_cmpR hr ia ib hm).run pins s σ H Q I ⟨hθ, A, G, ρ, x, G1, cs, l, ha, fun v A1 H1 g1 c1 r1 => ⟨hθ, A1, G1, ρ, y, _, c1, l.mono g1, hb, fun u A2 H2 g2 c2 r2 => ?_⟩⟩
        exact hk v u A2 H2 _ c2 (r1.mono g2) r2 ⟨_, rfl, w A2 H2 (g1.trans g2) c2⟩
      · cases e
    · cases e
  · cases e
theorem chain_rd {hθ : List Addr} {o o' : CO} {a b c : E} {Q : VK} {d : D} (ok : XOk X (S.hide hθ) cf) (cs : CsOk (S.hide hθ) A G H) (l : SlOk (S.hide hθ) A H ρ σ) (e : evE cf (.chain o o' a b c) ρ G = some (d, G')) (w : Aft (S.hide hθ) A H d G' Q) :
    ∃ r r' : R2, OpR X (compareOp (cop o)) r ∧ OpR X (compareOp (cop o')) r' ∧ tChain r r' (tEv S cf a) (tEv S cf b) (tEv S cf c) σ H Q := by
  simp only [evE] at e
  split at e
  · rename_i x G1 ha
    split at e
    · rename_i y G2 hb
      split at e
      · rename_i hc
        obtain ⟨rr, hr, hk⟩ := cmp_go ok hc
        split at e
        · rename_i z G3 hz
          split at e
          · rename_i r2 hc2
            cases e
            obtain ⟨rr2, hr2, hk2⟩ := cmp_go ok hc2
            refine ⟨rr, rr2, hr, hr2, hθ, A, G, ρ, x, G1, cs, l, ha, fun v A1 H1 g1 c1 r1 => ⟨hθ, A1, G1, ρ, y, _, c1, l.mono g1, hb, fun u A2 H2 g2 c2 r2 => ?_⟩⟩
            refine hk v u A2 H2 _ c2 (r1.mono g2) r2 ⟨true, rfl, ?_⟩
            rw [if_pos rfl]
            refine ⟨hθ, A2, G2, ρ, z, _, c2, (l.mono g1).mono g2, hz, fun t A3 H3 g3 c3 r3 => ?_⟩
            exact hk2 u t A3 H3 Q c3 (r2.mono g3) r3 (w _ A3 H3 ((g1.trans g2).trans g3) c3 (.bl _))
          · cases e
        · cases e
      · rename_i hc
        cases e
        obtain ⟨rr, hr, hk⟩ := cmp_go ok hc
        refine ⟨rr, fun _ _ _ _ => False, hr, fun _ _ _ _ _ _ _ _ _ _ _ _ h => h.elim, hθ, A, G, ρ, x, G1, cs, l, ha, fun v A1 H1 g1 c1 r1 => ⟨hθ, A1, G1, ρ, y, _, c1, l.mono g1, hb, fun u A2 H2 g2 c2 r2 => ?_⟩⟩
        refine hk v u A2 H2 _ c2 (r1.mono g2) r2 ⟨false, rfl, ?_⟩
        rw [if_neg Bool.false_ne_true]
        exact w _ A2 H2 (g1.trans g2) c2 (.bl _)
      · cases e
    · cases e
  · cases e
theorem lastM {o o' : CmpOp} {eb ec : Expr} (h : behindInMarks o' ec = false) : lastMarks [o, o'] [eb, ec] = false := by
  unfold lastMarks
  unfold lastMarks
  exact h
theorem s_chain {o o' : CO} {a b c : E} {ea eb ec : Expr} {pos : Pos} (ok : XOk X S cf) (ia : PE X ea (tEv S cf a)) (ib : PE X eb (tEv S cf b)) (ic : PE X ec (tEv S cf c)) (hm : behindInMarks (cop o') ec = false) : PE X (.Compare ea [cop o, cop o'] [eb, ec] pos) (tEv S cf (.chain o o' a b c)) := by
  refine ⟨fun pins s σ H Q I hh => ?_⟩
  obtain ⟨hθ, A, G, ρ, d, G', cs, l, e, w⟩ := hh
  have ok := ok.hide hθ
  obtain ⟨r, r', h1, h2, hr⟩ := chain_rd ok cs l e w
  exact (pe_chain h1 h2 ia ib ic (lastM hm)).run pins s σ H Q I hr
theorem t_chain {o o' : CO} {a b c : E} {ea eb ec : Expr} {pos : Pos} (ok : XOk X S cf) (ia : PE X ea (tEv S cf a)) (ib : PE X eb (tEv S cf b)) (ic : PE X ec (tEv S cf c)) (hm : behindInMarks (cop o') ec = false) : PT X (.Compare ea [cop o, cop o'] [eb, ec] pos) (tTv S cf (.chain o o' a b c)) := by
  refine ⟨fun pins s σ H Q I hh => ?_⟩
  obtain ⟨hθ, A, G, ρ, d, G', cs, l, e, w⟩ := hh
  have ok := ok.hide hθ
  obtain ⟨r, r', h1, h2, hr⟩ := chain_rd (Q := fun x H' => ∃ k, x = .bl k ∧ Q k H') ok cs l e (fun v A' H' g c r => ⟨_, rep_bl r, w A' H' g c⟩)
  exact (pt_chain h1 h2 ia ib ic (lastM hm)).run pins s σ H Q I hr

/-! and, or, not, if else -/
/-- a test's reading from the value's -/
theorem tTv_of {a : E} {Q : Bool → Hp → Prop} (h : tTv S cf a σ H Q) : tEv S cf a σ H fun x H' => ∃ k, x = .bl k ∧ Q k H' := by
  obtain ⟨hθ, A, G, ρ, d, G', cs, l, e, w⟩ := h
  exact ⟨hθ, A, G, ρ, _, G', cs, l, e, fun v A' H' g c r => ⟨_, rep_bl r, w A' H' g c⟩⟩
/-- an expression of a plain kind, as a test -/
theorem t_val {e : E} {ee : Expr} (h : PE X ee (tEv S cf e)) (he : ∀ whole, isTrue ee X.env whole = (do let v ← whole; standAt ee.pos; holding [v] (truthy v))) : PT X ee (tTv S cf e) :=
  ⟨fun pins s σ H Q I hh => (pt_val h he).run pins s σ H Q I (tTv_of hh)⟩
theorem s_and {a b : E} {ea eb : Expr} {es : List Expr} {pos : Pos} (ia : PE X ea (tEv S cf a)) (ib : PE X (.BoolOp .And (eb :: es) pos) (tEv S cf b)) : PE X (.BoolOp .And (ea :: eb :: es) pos) (tEv S cf (.and a b)) := by
  refine ⟨fun pins s σ H Q I hh => ?_⟩
  obtain ⟨hθ, A, G, ρ, d, G', cs, l, e, w⟩ := hh
  simp only [evE] at e
  refine (pe_and ia ib).run pins s σ H Q I ?_
  split at e
  · rename_i G1 ha
    refine ⟨hθ, A, G, ρ, _, G1, cs, l, ha, fun v A1 H1 g1 c1 r1 => ⟨true, rep_bl r1, ?_⟩⟩
    rw [if_pos rfl]
    exact ⟨hθ, A1, G1, ρ, d, G', c1, l.mono g1, e, w.mono g1⟩
  · rename_i G1 ha
    cases e
    refine ⟨hθ, A, G, ρ, _, G', cs, l, ha, fun v A1 H1 g1 c1 r1 => ⟨false, rep_bl r1, ?_⟩⟩
    rw [if_neg Bool.false_ne_true]
    exact w _ A1 H1 g1 c1 (.bl _)
  · cases e
theorem s_or {a b : E} {ea eb : Expr} {es : List Expr} {pos : Pos} (ia : PE X ea (tEv S cf a)) (ib : PE X (.BoolOp .Or (eb :: es) pos) (tEv S cf b)) : PE X (.BoolOp .Or (ea :: eb :: es) pos) (tEv S cf (.or a b)) := by
  refine ⟨fun pins s σ H Q I hh => ?_⟩
  obtain ⟨hθ, A, G, ρ, d, G', cs, l, e, w⟩ := hh
  simp only [evE] at e
  refine (pe_or ia ib).run pins s σ H Q I ?_
  split at e
  · rename_i G1 ha
    cases e
    refine ⟨hθ, A, G, ρ, _, G', cs, l, ha, fun v A1 H1 g1 c1 r1 => ⟨true, rep_bl r1, ?_⟩⟩
    rw [if_pos rfl]
    exact w _ A1 H1 g1 c1 (.bl _)
  · rename_i G1 ha
    refine ⟨hθ, A, G, ρ, _, G1, cs, l, ha, fun v A1 H1 g1 c1 r1 => ⟨false, rep_bl r1, ?_⟩⟩
    rw [if_neg Bool.false_ne_true]
    exact ⟨hθ, A1, G1, ρ, d, G', c1, l.mono g1, e, w.mono g1⟩
  · cases e
theorem s_one {o : BoolOp} {a : E} {ea : Expr} {pos : Pos} (ia : PE X ea (tEv S cf a)) : PE X (.BoolOp o [ea] pos) (tEv S cf a) := pe_one ia
theorem s_not {a : E} {ea : Expr} {pos : Pos} (ia : PE X ea (tEv S cf a)) : PE X (.UnaryOp .Not ea pos) (tEv S cf (.not a)) := by
  refine ⟨fun pins s σ H Q I hh => ?_⟩
  obtain ⟨hθ, A, G, ρ, d, G', cs, l, e, w⟩ := hh
  simp only [evE] at e
  refine (pe_not ia).run pins s σ H Q I ?_
  split at e
  · rename_i r G1 ha
    cases e
    exact ⟨hθ, A, G, ρ, _, _, cs, l, ha, fun v A1 H1 g1 c1 r1 => ⟨_, rep_bl r1, w _ A1 H1 g1 c1 (.bl _)⟩⟩
  · cases e
theorem w_and {a b : E} {ea eb : Expr} {es : List Expr} {pos : Pos} (ia : PT X ea (tTv S cf a)) (ib : PW X (.BoolOp .And (eb :: es) pos) (tTv S cf b)) : PW X (.BoolOp .And (ea :: eb :: es) pos) (tTv S cf (.and a b)) := by
  refine ⟨fun wh pins s σ H Q I hh => ?_⟩
  obtain ⟨hθ, A, G, ρ, d, G', cs, l, e, w⟩ := hh
  simp only [evE] at e
  refine (pw_and ia ib).run wh pins s σ H Q I ?_
  split at e
  · rename_i G1 ha
    refine ⟨hθ, A, G, ρ, _, G1, cs, l, ha, fun A1 H1 g1 c1 => ?_⟩
    show (if (true : Bool) = true then _ else _)
    rw [if_pos rfl]
    exact ⟨hθ, A1, G1, ρ, d, G', c1, l.mono g1, e, fun A2 H2 g2 => w A2 H2 (g1.trans g2)⟩
  · rename_i G1 ha
    cases e
    refine ⟨hθ, A, G, ρ, _, G', cs, l, ha, fun A1 H1 g1 c1 => ?_⟩
    show (if (false : Bool) = true then _ else _)
    rw [if_neg Bool.false_ne_true]
    exact w A1 H1 g1 c1
  · cases e
theorem w_or {a b : E} {ea eb : Expr} {es : List Expr} {pos : Pos} (ia : PT X ea (tTv S cf a)) (ib : PW X (.BoolOp .Or (eb :: es) pos) (tTv S cf b)) : PW X (.BoolOp .Or (ea :: eb :: es) pos) (tTv S cf (.or a b)) := by
  refine ⟨fun wh pins s σ H Q I hh => ?_⟩
  obtain ⟨hθ, A, G, ρ, d, G', cs, l, e, w⟩ := hh
  simp only [evE] at e
  refine (pw_or ia ib).run wh pins s σ H Q I ?_
  split at e
  · rename_i G1 ha
    cases e
    refine ⟨hθ, A, G, ρ, _, G', cs, l, ha, fun A1 H1 g1 c1 => ?_⟩
    show (if (true : Bool) = true then _ else _)
    rw [if_pos rfl]
    exact w A1 H1 g1 c1
  · rename_i G1 ha
    refine ⟨hθ, A, G, ρ, _, G1, cs, l, ha, fun A1 H1 g1 c1 => ?_⟩
    show (if (false : Bool) = true then _ else _)
    rw [if_neg Bool.false_ne_true]
    exact ⟨hθ, A1, G1, ρ, d, G', c1, l.mono g1, e, fun A2 H2 g2 => w A2 H2 (g1.trans g2)⟩
  · cases e
theorem w_one_and {a : E} {ea : Expr} {pos : Pos} (ia : PT X ea (tTv S cf a)) : PW X (.BoolOp .And [ea] pos) (tTv S cf a) := pw_and1 ia
theorem w_one_or {a : E} {ea : Expr} {pos : Pos} (ia : PT X ea (tTv S cf a)) : PW X (.BoolOp .Or [ea] pos) (tTv S cf a) := pw_or1 ia
theorem t_not {a : E} {ea : Expr} {pos : Pos} (ia : PT X ea (tTv S cf a)) : PT X (.UnaryOp .Not ea pos) (tTv S cf (.not a)) := by
  refine ⟨fun pins s σ H Q I hh => ?_⟩
  obtain ⟨hθ, A, G, ρ, d, G', cs, l, e, w⟩ := hh
  simp only [evE] at e
  refine (pt_not ia).run pins s σ H Q I ?_
  split at e
  · rename_i r G1 ha
    cases e
    exact ⟨hθ, A, G, ρ, _, _, cs, l, ha, fun A1 H1 g1 c1 => w A1 H1 g1 c1⟩
  · cases e
theorem s_ite {c a b : E} {ec ea eb : Expr} {pos : Pos} (ic : PT X ec (tTv S cf c)) (ia : PE X ea (tEv S cf a)) (ib : PE X eb (tEv S cf b)) : PE X (.IfExp ec ea eb pos) (tEv S cf (.ite c a b)) := by
  refine ⟨fun pins s σ H Q I hh => ?_⟩
  obtain ⟨hθ, A, G, ρ, d, G', cs, l, e, w⟩ := hh
  simp only [evE] at e
  refine (pe_ifExp ic ia ib).run pins s σ H Q I ?_
  split at e
  · rename_i G1 ha
    refine ⟨hθ, A, G, ρ, _, G1, cs, l, ha, fun A1 H1 g1 c1 => ?_⟩
    show (if (true : Bool) = true then _ else _)
    rw [if_pos rfl]
    exact ⟨hθ, A1, G1, ρ, d, G', c1, l.mono g1, e, w.mono g1⟩
  · rename_i G1 ha
    refine ⟨hθ, A, G, ρ, _, G1, cs, l, ha, fun A1 H1 g1 c1 => ?_⟩
    show (if (false : Bool) = true then _ else _)
    rw [if_neg Bool.false_ne_true]
    exact ⟨hθ, A1, G1, ρ, d, G', c1, l.mono g1, e, w.mono g1⟩
  · cases e
end
end Iv

set_option Elab.async false
set_option linter.all false
set_option maxRecDepth 100000
set_option maxHeartbeats 4000000
namespace Iv
open PySem PySem.Spec PyProof.Rows L2
section
variable {X : Cx} {S : Sta} {cf : CF} {A : List Addr} {G G' : List C} {H : Hp} {σ : L2.St} {ρ : En} {pins : List (Addr × Obj)} {s : Shared}
def isStarE : Expr → Bool
  | .Starred _ _ => true
  | _ => false
def isSlcE : Expr → Bool
  | .Slice _ _ _ _ => true
  | _ => false
/-! lists of expressions -/
theorem s_nil : PA X [] (tLv S cf .nil) := by
  refine ⟨fun pos pins s σ H Q I hh => ?_⟩
  obtain ⟨hθ, A, G, ρ, d, G', cs, l, e, w⟩ := hh
  simp only [evL, Option.some.injEq, Prod.mk.injEq] at e
  obtain ⟨rfl, rfl⟩ := e
  exact pa_nil.run pos pins s σ H Q I (w [] A H Gr.refl cs .nil)
theorem starE (e : Expr) (es : List Expr) (env : Env) (h : isStarE e = false) : starEach (e :: es) env = (false, eval e env) :: starEach es env := by
  cases e <;> first | rfl | cases h
theorem s_cons {h t : E} {eh : Expr} {et : List Expr} (ih : PE X eh (tEv S cf h)) (it : PA X et (tLv S cf t)) (hs : isStarE eh = false) : PA X (eh :: et) (tLv S cf (.cons h t)) := by
  refine ⟨fun pos pins s σ H Q I hh => ?_⟩
  obtain ⟨hθ, A, G, ρ, d, G', cs, l, e, w⟩ := hh
  simp only [evL] at e
  split at e
  · rename_i x G1 ha
    split at e
    · rename_i xs G2 hb
      cases e
      refine (pa_cons ih it (starE _ _ _ hs)).run pos pins s σ H Q I ⟨hθ, A, G, ρ, x, G1, cs, l, ha, fun v A1 H1 g1 c1 r1 => ⟨hθ, A1, G1, ρ, xs, _, c1, l.mono g1, hb, fun vs A2 H2 g2 c2 r2 => ?_⟩⟩
      exact w _ A2 H2 (g1.trans g2) c2 (.cons (r1.mono g2) r2)
    · cases e
  · cases e
theorem keys_rel {P : Program} {w : World} : ∀ {kvs : List (Key × V)} {rs : List (Key × Value)} {us : List Value}, KV kvs rs → us.length = rs.length → (∀ (j : Nat) (v : Value), us[j]? = some v → ∃ k x, rs[j]? = some (k, x) ∧ (mixKind P w).is k v = true) → Vals (kvs.map fun kv => kV kv.1) us
  | [], _, us, r, hl, h => by
    cases r
    cases us with
    | nil => exact .nil
    | cons u us => simp at hl
  | p :: kvs, _, us, r, hl, h => by
    cases r with
    | @cons a b as bs h1 t =>
      cases us with
      | nil => simp at hl
      | cons u us =>
        obtain ⟨k, x, e, hi⟩ := h 0 u rfl
        simp at e
        refine .cons ?_ (keys_rel (P := P) (w := w) (us := us) t (by simpa using hl) fun j v e => h (j + 1) v (by simpa using e))
        have : b.1 = k := by rw [e]
        show L2.RelV (kV p.1) u
        rw [h1.1, this]
        exact keyIs_rel hi
theorem rep_keys0 : ∀ {kvs : List (Key × V)}, RepAll S A H (kvs.map fun kv => kV kv.1) (kvs.map fun kv => kD kv.1)
  | [] => .nil
  | (.inl i, _) :: r => .cons (.int i) rep_keys0
  | (.inr i, _) :: r => .cons (.str i) rep_keys0
theorem iadd_dict {d S : Addr} {rs : List (Key × Value)} {ep : Nat} {P : Program} {w : World} {Ar : Around} {R : Result → Shared → Prop} {s : Shared} (lo : (d == sysModules) = false) (hm : s.heap.DictAt (mixKind P w) d rs ep) (hh : Ar.handled = none) (hn : rs.length ≤ sizeLine)
    (hSd : S ≠ d) (hS : s.heap.get? S = some { cls := .type "list", data := .seq #[] })
    (hR : ∀ h' tk acc' c', (∀ b o, b ≠ S → s.heap.get? b = some o → h'.get? b = some o) → h'.get? S = some { cls := .type "list", dict := none, data := .seq acc' c', slots := #[] } → ItemsOf (fun i v => ∃ k x, rs[i]? = some (k, x) ∧ (mixKind P w).is k v = true) acc' rs.length → R (.ok (.ret (.ref S))) { s with heap := h', toks := tk }) :
    codeAny (model P w) Ar (.builtin "list.__iadd__" ⟨[.ref S, .ref d], []⟩) R s := by
  refine codeAny_builtin PySem.F.entry_list_iadd ?_
  rw [Around.under_plainId PySem.F.plain_list_iadd _]
  show wpAny _ Ar.in1 (Builtin.List.listExtendWith (.ref S) (.ref d) (.ref S)) _ _ _
  have K : PySem.W.KdlSrc P w "dict" d d rs.length (fun i v => ∃ k x, rs[i]? = some (k, x) ∧ (mixKind P w).is k v = true) (fun h => h.DictAt (mixKind P w) d rs ep) := PySem.W.kdl_dict lo
  exact PySem.W.kdl_extend K hh hm S hSd hSd _ 0 hS hR hn
/-- the items of a dict, for a star -/
theorem collect_dict {d : Addr} {rs : List (Key × Value)} {ep : Nat} {P : Program} {w : World} {Ar : Around} {E : Value → Shared → Prop} {Q : List Value → Shared → Prop} {s : Shared} (lo : (d == sysModules) = false) (hm : s.heap.DictAt (mixKind P w) d rs ep) (hh : Ar.handled = none) (hn : rs.length ≤ sizeLine)
    (hQ : ∀ h' tk (us : List Value), (∀ b o, s.heap.get? b = some o → h'.get? b = some o) → us.length = rs.length → (∀ (j : Nat) (v : Value), us[j]? = some v → ∃ k x, rs[j]? = some (k, x) ∧ (mixKind P w).is k v = true) → Q us { s with heap := h', toks := tk }) :
    wpAny (model P w) Ar (collect (.ref d)) Q E s := by
  have hlt := hm.lt_size
  unfold collect
  refine wpAny_bind (wpAny_runValue (codeAny_builtin PySem.F.entry_proto_collect ?_))
  rw [Around.under_plainId PySem.F.plain_proto_collect _]
  show wpAny _ Ar.in1 (newList [] >>= fun l => again (.builtin "list.__iadd__" ⟨[l, .ref d], []⟩)) _ _ s
  refine wpAny_bind (wpAny_newObj_type ?_)
  have hS₁ : (s.heap.push { cls := .type "list", data := .seq ([] : List Value).toArray }).get? s.heap.objs.size = some { cls := .type "list", data := .seq #[] } := Heap.get?_push_size _ rfl
  refine wpAny_pure ⟨plainId_quiet PySem.F.plain_list_iadd _, iadd_dict (s := { s with heap := s.heap.push { cls := .type "list", data := .seq ([] : List Value).toArray } }) lo (hm.push _) hh hn (Nat.ne_of_gt hlt) hS₁ fun h' tk acc' c' hk hS' hacc => ?_⟩
  show wpAny _ Ar (load s.heap.objs.size >>= _) _ _ _
  refine wpAny_bind (wpAny_load hS' ?_)
  refine wpAny_pure (hQ h' tk acc'.toList (fun b o e => hk b o (Nat.ne_of_lt (Heap.lt_size e)) (Heap.get?_push_of_some _ e)) (by rw [Array.length_toList]; exact hacc.1) fun j v e => ?_)
  exact hacc.2 j v (by rw [← Array.getElem?_toList]; exact e)
theorem sd (ok : XOk X S cf) {a : Addr} {ks vs : List D} {E : Value → Shared → Prop} {Q : List Value → Shared → Prop} (I : Inv X pins σ H s) (dr : DicR S A H a false ks vs)
    (hQ : ∀ us s' vs', Inv X pins σ H s' → Vals vs' us → RepAll S A H vs' ks → Q us s') : PySem.W.StarOf (model X.prog X.w) X.A E (.ref a) Q s := by
  cases dr with
  | k kvs rd e q =>
    subst e
    obtain ⟨z, lo, rs, rk, hd⟩ := (show ObjOk X.prog X.w H s.heap a (.dK kvs) from rd.ok I.hok)
    obtain ⟨ep, hat⟩ := hd.dictAt
    have hl : kvs.length = rs.length := Paired.length rk
    unfold PySem.W.StarOf notIterableAtAll
    refine wpAny_bind (wpAny_specialOf hat.dictOf.typeIs PySem.F.slot_dict_iter.lookup (wpAny_pure ⟨rfl, ?_⟩))
    refine collect_dict lo hat (I.ok.hd ok.calm) (by rw [← hl]; exact z) fun h' tk us hk hul hu => ?_
    exact hQ us _ _ (I.kept hk) (keys_rel rk hul hu) rep_keys0
theorem s_star {h t : E} {eh : Expr} {et : List Expr} {p : Pos} (ok : XOk X S cf) (ih : PE X eh (tEv S cf h)) (it : PA X et (tLv S cf t)) : PA X (.Starred eh p :: et) (tLv S cf (.star h t)) := by
  refine ⟨fun pos pins s σ H Q I hh => ?_⟩
  obtain ⟨hθ, A, G, ρ, d, G', cs, l, e, w⟩ := hh
  have ok := ok.hide hθ
  simp only [evL] at e
  split at e
  · rename_i x G1 ha
    refine PySem.W.items_star (thn (ih.run pins s σ H (fun v H1 => ∃ A1, Gr A H A1 H1 ∧ CsOk (S.hide hθ) A1 G1 H1 ∧ Rep (S.hide hθ) A1 H1 v x) I ⟨hθ, A, G, ρ, x, G1, cs, l, ha, fun v A1 H1 g1 c1 r1 => ⟨A1, g1, c1, r1⟩⟩) fun v s1 ⟨y, H1, I1, ry, A1, g1, c1, r1⟩ => ?_) rfl
    have go : ∀ {ys xs : List D} {us : List Value} {vs : List V} {s2 : Shared} {G2 : List C}, Inv X pins σ H1 s2 → Vals vs us → RepAll (S.hide hθ) A1 H1 vs ys → evL cf t ρ G1 = some (xs, G2) → (ys ++ xs, G2) = (d, G') →
        wpAny (model X.prog X.w) X.A (spliced (backTo pos (starEach et X.env))) (fun ws s3 => AP X pins σ Q (us ++ ws) s3) X.xe s2 := by
      intro ys xs us vs s2 G2 I2 rv q e2 e3
      cases e3
      refine thn (it.run pos pins s2 σ H1 (fun vs' H2 => Q (vs ++ vs') H2) I2 ⟨hθ, A1, G1, ρ, xs, _, c1, l.mono g1, e2, fun vs' A2 H2 g2 c2 r2 => ?_⟩) fun ws s3 ⟨vs', H3, I3, r3, q3⟩ => ⟨vs ++ vs', H3, I3, rv.append r3, q3⟩
      exact w _ A2 H2 (g1.trans g2) c2 ((q.mono g2).app r2)
    split at e
    · rename_i ys hq
      obtain ⟨a, xs, rfl, hx, q⟩ := seq_sq hq c1 r1
      obtain rfl : v = Value.ref a := ry
      rw [← ok.K] at hx
      refine StX.star_any I1 hx.symm fun us s2 I2 rv => ?_
      split at e
      · rename_i xs' G2 e2
        exact go I2 rv q e2 (Option.some.inj e)
      · cases e
    · rename_i hq
      split at e
      · rename_i ks vs hd
        obtain ⟨a, rfl, dr⟩ := dic_rd hd c1 r1
        obtain rfl : v = Value.ref a := ry
        refine sd ok I1 dr fun us s2 vs' I2 rv q => ?_
        split at e
        · rename_i xs' G2 e2
          exact go I2 rv q e2 (Option.some.inj e)
        · cases e
      · cases e
  · cases e
theorem s_lst {c : Bool} {es : E} {ees : List Expr} {pos : Pos} (ih : PA X ees (tLv S cf es)) : PE X (.List ees pos) (tEv S cf (.lst c es)) := by
  refine ⟨fun pins s σ H Q I hh => ?_⟩
  obtain ⟨hθ, A, G, ρ, d, G', cs, l, e, w⟩ := hh
  simp only [evE] at e
  split at e
  · rename_i xs G1 ha
    refine (pe_lst ih).run pins s σ H Q I ⟨hθ, A, G, ρ, xs, G1, cs, l, ha, fun vs A1 H1 g1 c1 r1 => ?_⟩
    exact mkL_ok e c1 r1 (w.mono g1)
  · cases e
theorem s_tup {es : E} {ees : List Expr} {k : Nat} {pos : Pos} (ih : PA X ees (tLv S cf es)) : PE X (.Tuple ees k pos) (tEv S cf (.tup es)) := by
  refine ⟨fun pins s σ H Q I hh => ?_⟩
  obtain ⟨hθ, A, G, ρ, d, G', cs, l, e, w⟩ := hh
  simp only [evE] at e
  split at e
  · rename_i xs G1 ha
    split at e
    · rename_i hz
      cases e
      refine (pe_tup ih).run pins s σ H Q I ⟨hθ, A, G, ρ, xs, G', cs, l, ha, fun vs A1 H1 g1 c1 r1 => ?_⟩
      exact ⟨by rw [r1.length]; exact hz, tup_new c1 r1 (w.mono g1)⟩
    · cases e
  · cases e
/-! subscripts -/
/-- by values: a tuple, a list, a text; a dict -/
theorem atI_rep {ds : List D} {xs : List V} {i : Int} {d : D} (q : RepAll S A H xs ds) (h : atI ds i = some d) : ∃ v, atI xs i = some v ∧ Rep S A H v d := by
  unfold atI at h ⊢
  rw [q.length]
  cases hi : ixN ds.length i with
  | none => rw [hi] at h; cases h
  | some j =>
    rw [hi] at h
    exact q.get h
theorem plainIx {b : Expr} (h : isSlcE b = false) : PlainIx b := by
  intro o i
  cases b <;> first | rfl | cases h
theorem noSl {b : Expr} (h : isSlcE b = false) : NoSl b := by
  intro o i
  cases b <;> first | rfl | cases h
theorem s_idx {a i : E} {ea ei : Expr} {pos : Pos} (ok : XOk X S cf) (ia : PE X ea (tEv S cf a)) (ii : PE X ei (tEv S cf i)) (hs : isSlcE ei = false) : PE X (.Subscript ea ei pos) (tEv S cf (.idx a i)) := by
  refine ⟨fun pins s σ H Q I hh => ?_⟩
  obtain ⟨hθ, A, G, ρ, d, G', cs, l, e, w⟩ := hh
  have ok := ok.hide hθ
  simp only [evE] at e
  split at e
  · rename_i x G1 ha
    split at e
    · rename_i y G2 hb
      split at e
      · rename_i r hi
        obtain ⟨rfl, rfl⟩ : r = d ∧ G2 = G' := by simpa using e
        -- the reading by a rule for the operands
        have go : ∀ {r2 : R2}, IxR X r2 → (∀ v u A2 H2, CsOk (S.hide hθ) A2 G2 H2 → Rep (S.hide hθ) A2 H2 v x → Rep (S.hide hθ) A2 H2 u y → Aft (S.hide hθ) A2 H2 r G2 Q → r2 v u H2 Q) →
            wpAny (model X.prog X.w) X.A (eval (.Subscript ea ei pos) X.env) (EP X pins σ Q) X.xe s := by
          intro r2 hr hk
          refine (pe_ix hr ia ii (plainIx hs)).run pins s σ H Q I ⟨hθ, A, G, ρ, x, G1, cs, l, ha, fun v A1 H1 g1 c1 r1 => ⟨hθ, A1, G1, ρ, y, _, c1, l.mono g1, hb, fun u A2 H2 g2 c2 rr => ?_⟩⟩
          exact hk v u A2 H2 c2 (r1.mono g2) rr (w.mono (g1.trans g2))
        have goL : ∀ {xs : List D} {k : Int}, lstOf G2 x = some xs → y = .int k → atI xs k = some r → wpAny (model X.prog X.w) X.A (eval (.Subscript ea ei pos) X.env) (EP X pins σ Q) X.xe s := by
          intro xs k hx hy hr
          subst hy
          refine go ix_list fun v u A2 H2 c2 r1 r2 w2 => ?_
          obtain ⟨b, vs, rfl, rd, q⟩ := lst_rd hx c2 r1
          obtain ⟨v', e', r'⟩ := atI_rep q hr
          exact ⟨b, vs, k, v', rfl, rep_int r2, .inl rd, e', w2.here c2 r'⟩
        have goD : ∀ {t : Bool} {ks vs : List D}, dicOf G2 x = some (t, ks, vs) → isKey t y = true → dget ks vs y = some r → wpAny (model X.prog X.w) X.A (eval (.Subscript ea ei pos) X.env) (EP X pins σ Q) X.xe s := by
          intro t ks vs hx hy hr
          refine (pe_dget (by have := ok.un; omega) ia ii (noSl hs)).run pins s σ H Q I ⟨hθ, A, G, ρ, x, G1, cs, l, ha, fun v A1 H1 g1 c1 r1 => ⟨hθ, A1, G1, ρ, y, _, c1, l.mono g1, hb, fun u A2 H2 g2 c2 rr => ?_⟩⟩
          obtain ⟨b, rfl, dr⟩ := dic_rd hx c2 (r1.mono g2)
          obtain ⟨o, g, h1, h2⟩ := dic_get dr hy rr
          obtain ⟨v', rfl, r'⟩ := h1 _ hr
          exact ⟨b, v', rfl, g, w _ A2 H2 (g1.trans g2) c2 r'⟩
        unfold idxD at hi
        split at hi
        · rename_i xs k
          refine go ix_tup fun v u A2 H2 c2 r1 r2 w2 => ?_
          obtain ⟨b, vs, rfl, sq, q⟩ := tup_sq r1
          obtain ⟨v', e', r'⟩ := atI_rep q hi
          exact ⟨b, vs, k, v', rfl, rep_int r2, by rw [ok.K]; exact sq, e', w2.here c2 r'⟩
        · rename_i xs k
          refine go ix_list fun v u A2 H2 c2 r1 r2 w2 => ?_
          obtain ⟨b, vs, rfl, sq, q⟩ := wls_sq r1
          obtain ⟨v', e', r'⟩ := atI_rep q hi
          exact ⟨b, vs, k, v', rfl, rep_int r2, by rw [ok.K]; exact sq, e', w2.here c2 r'⟩
        · rename_i z k
          split at hi
          · rename_i hz
            cases hc : atI z.cps.toList k with
            | none => rw [hc] at hi; cases hi
            | some c =>
              rw [hc] at hi
              cases hi
              exact go ix_str fun v u A2 H2 c2 r1 r2 w2 => ⟨z, k, c, rep_str r1, rep_int r2, hz, hc, w2.here c2 (.str _)⟩
          · cases hi
        · split at hi
          · rename_i xs hx
            split at hi
            · exact goL hx rfl hi
            · cases hi
          · split at hi
            · rename_i t ks vs hd
              split at hi
              · rename_i hk
                exact goD hd hk hi
              · cases hi
            · cases hi
      · cases e
    · cases e
  · cases e
/-! slices -/
theorem cut_rep {ds : List D} {xs : List V} (q : RepAll S A H xs ds) (lo hi : Option Int) : RepAll S A H (cutV xs lo hi) (cutD ds lo hi) := by
  unfold cutV cutD
  rw [q.length]
  exact (q.drop _).take _
/-- a part of a slice: an expression, or none -/
inductive PartM (X : Cx) (S : Sta) (cf : CF) : E → Option Expr → Prop
  | no : PartM X S cf .nil none
  | so {e : E} {ee : Expr} : isNil e = false → PE X ee (tEv S cf e) → PartM X S cf e (some ee)
def evP (cf : CF) (e : E) (ρ : En) (G : List C) : Option (Option Int × List C) := if isNil e then some (none, G) else match evE cf e ρ G with
  | some (.int i, G2) => some (some i, G2)
  | _ => none
def tPv (S : Sta) (cf : CF) (e : E) : TO := fun σ H Q => ∃ hθ A G ρ o G', CsOk (S.hide hθ) A G H ∧ SlOk (S.hide hθ) A H ρ σ ∧ evP cf e ρ G = some (o, G') ∧ ∀ A' H', Gr A H A' H' → CsOk (S.hide hθ) A' G' H' → Q o H'
theorem po_of {e : E} {oe : Option Expr} (h : PartM X S cf e oe) : ∃ t : TO, PO X oe t ∧ ∀ σ H Q, tPv S cf e σ H Q → t σ H Q := by
  cases h with
  | no =>
    refine ⟨_, po_none, fun σ H Q ⟨hθ, A, G, ρ, o, G', cs, l, ev, w⟩ => ?_⟩
    simp [evP, isNil] at ev
    obtain ⟨rfl, rfl⟩ := ev
    exact w A H Gr.refl cs
  | so hn ih =>
    refine ⟨_, po_some ih, fun σ H Q ⟨hθ, A, G, ρ, o, G', cs, l, ev, w⟩ => ?_⟩
    simp only [evP, hn, Bool.false_eq_true, if_false] at ev
    split at ev
    · rename_i i G2 he
      cases ev
      exact ⟨hθ, A, G, ρ, _, _, cs, l, he, fun v A1 H1 g1 c1 r1 => ⟨i, rep_int r1, w A1 H1 g1 c1⟩⟩
    · cases ev
theorem s_slice {c : Bool} {a lo hi : E} {ea : Expr} {elo ehi : Option Expr} {p2 pos : Pos} (ok : XOk X S cf) (ia : PE X ea (tEv S cf a)) (il : PartM X S cf lo elo) (ih : PartM X S cf hi ehi) : PE X (.Subscript ea (.Slice elo ehi none p2) pos) (tEv S cf (.slice c a lo hi)) := by
  refine ⟨fun pins s σ H Q I hh => ?_⟩
  obtain ⟨hθ, A, G, ρ, d, G', cs, l, e, w⟩ := hh
  have ok := ok.hide hθ
  simp only [evE] at e
  obtain ⟨tl, pl, hl⟩ := po_of il
  obtain ⟨th, ph, hh⟩ := po_of ih
  split at e
  · rename_i x G1 ha
    split at e
    · rename_i lo' G2 el
      split at e
      · rename_i hi' G3 eh
        have go : ∀ {r : V → Option Int → Option Int → Hp → VK → Prop}, SlR X r → (∀ v A2 H2, CsOk (S.hide hθ) A2 G3 H2 → Rep (S.hide hθ) A2 H2 v x → Aft (S.hide hθ) A2 H2 d G' Q → r v lo' hi' H2 Q) →
            wpAny (model X.prog X.w) X.A (eval (.Subscript ea (.Slice elo ehi none p2) pos) X.env) (EP X pins σ Q) X.xe s := by
          intro r hr hk
          refine (pe_slice hr ia pl ph).run pins s σ H Q I ⟨hθ, A, G, ρ, x, G1, cs, l, ha, fun v A1 H1 g1 c1 r1 => ?_⟩
          refine hl _ _ _ ⟨hθ, A1, G1, ρ, lo', G2, c1, l.mono g1, el, fun A2 H2 g2 c2 => ?_⟩
          refine hh _ _ _ ⟨hθ, A2, G2, ρ, hi', G3, c2, (l.mono g1).mono g2, eh, fun A3 H3 g3 c3 => ?_⟩
          exact hk v A3 H3 c3 ((r1.mono g2).mono g3) (w.mono ((g1.trans g2).trans g3))
        unfold sliceD at e
        split at e
        · rename_i z
          split at e
          · rename_i hz
            cases e
            exact go sl_str fun v A2 H2 c2 r1 w2 => ⟨z, rep_str r1, hz, w2.here c2 (.str _)⟩
          · cases e
        · rename_i xs
          cases e
          refine go sl_tupA fun v A2 H2 c2 r1 w2 => ?_
          obtain ⟨b, vs, rfl, sq, q⟩ := tup_sq r1
          refine ⟨b, vs, rfl, by rw [ok.K]; exact sq, fun hw => ?_, fun _ => tup_new c2 (cut_rep q _ _) w2⟩
          refine w2.here c2 ?_
          have : cutD xs lo' hi' = xs := by
            unfold cutD
            rw [← q.length, hw.1, hw.2]
            simp [q.length]
          rw [this]
          exact r1
        · rename_i xs
          refine go sl_list fun v A2 H2 c2 r1 w2 => ?_
          obtain ⟨b, vs, rfl, sq, q⟩ := wls_sq r1
          obtain ⟨_, n⟩ := mkL_ok e c2 (cut_rep q _ _) w2
          exact ⟨b, vs, rfl, by rw [ok.K]; exact sq, n⟩
        · split at e
          · rename_i xs hx
            refine go sl_list fun v A2 H2 c2 r1 w2 => ?_
            obtain ⟨b, vs, rfl, rd, q⟩ := lst_rd hx c2 r1
            obtain ⟨_, n⟩ := mkL_ok e c2 (cut_rep q _ _) w2
            exact ⟨b, vs, rfl, .inl rd, n⟩
          · cases e
      · cases e
    · cases e
  · cases e
/-! attributes -/
theorem field_get {fv : List (Str × V)} {f : Str} : ∀ {vs : List D} {d : D}, RepAll S A H (fv.map (·.2)) vs → fieldOf (fv.map (·.1)) vs f = some d → ∃ v, fv.lookup f = some v ∧ Rep S A H v d := by
  induction fv with
  | nil => intro vs d q h; cases q; simp [fieldOf] at h
  | cons p fv ih =>
    intro vs d q h
    obtain ⟨g, v⟩ := p
    cases q with
    | cons r t =>
      simp only [List.map_cons, fieldOf] at h
      rw [List.lookup_cons]
      split at h
      · rename_i hg
        cases h
        refine ⟨v, ?_, r⟩
        rw [show (f == g) = true from by simp [hg]]
      · rename_i hg
        obtain ⟨w, e1, r1⟩ := ih t h
        refine ⟨w, ?_, r1⟩
        rw [show (f == g) = false from by simp; exact fun e => hg e.symm]
        exact e1
theorem s_attr {a : E} {ea : Expr} {f : Str} {pos : Pos} (ok : XOk X S cf) (ia : PE X ea (tEv S cf a)) (hf : f ∈ S.fl)
    (hb : attributeBase ea f X.env (eval ea X.env) = eval ea X.env) : PE X (.Attribute ea f pos) (tEv S cf (.attr a f)) := by
  refine ⟨fun pins s σ H Q I hh => ?_⟩
  obtain ⟨hθ, A, G, ρ, d, G', cs, l, e, w⟩ := hh
  have ok := ok.hide hθ
  simp only [evE] at e
  split at e
  · rename_i x G1 ha
    split at e
    · rename_i r hr
      obtain ⟨rfl, rfl⟩ : r = d ∧ G1 = G' := by simpa using e
      refine (pe_fld ia hb).run pins s σ H Q I ⟨hθ, A, G, ρ, x, G1, cs, l, ha, fun v A1 H1 g1 c1 r1 => ?_⟩
      have go : ∀ {p ca dx : Addr} {c : Str} {fv : List (Str × V)} {vs : List D}, v = .ref p → H1 p = some (.ins ca dx fv) → (c ∈ S.cl ∧ S.mg c = some (.ref ca)) → RepAll (S.hide hθ) A1 H1 (fv.map (·.2)) vs → fieldOf (fv.map (·.1)) vs f = some r →
          ∃ a C dx fs v', v = .ref a ∧ H1 a = some (.ins C dx fs) ∧ Cls X.K C ∧ NoAttr X.K C f ∧ fs.lookup f = some v' ∧ Q v' H1 := by
        intro p ca dx c fv vs ev hp hm q hv
        obtain ⟨v', e1, r'⟩ := field_get q hv
        obtain ⟨h1, h2⟩ := ok.fld c ca f hm.1 hm.2 hf
        exact ⟨p, ca, dx, fv, v', ev, hp, h1, h2, e1, w _ A1 H1 g1 c1 r'⟩
      unfold attrD at hr
      split at hr
      · cases r1 with
        | ins n hp hm e1 q => subst e1; exact go rfl hp hm q hr
      · rename_i n
        split at hr
        · rename_i c fs vs hg
          cases r1 with
          | cell en =>
            obtain ⟨b, e1, ok, _⟩ := c1.addr hg
            rw [en] at e1
            cases e1
            obtain ⟨ca, dx, fv, hp, hm, e2, q⟩ := ok
            subst e2
            exact go rfl hp hm q hr
        · cases hr
      · cases hr
    · cases e
  · cases e
end
end Iv

set_option Elab.async false
set_option linter.all false
set_option maxRecDepth 100000
set_option maxHeartbeats 4000000
namespace Iv
open PySem PySem.Spec PyProof.Rows L2
section
variable {X : Cx} {S : Sta} {cf : CF} {A : List Addr} {G G' : List C} {H : Hp} {σ : L2.St} {ρ : En} {pins : List (Addr × Obj)} {s : Shared}
def noStar : List Expr → Bool
  | [] => true
  | e :: es => !isStarE e && noStar es
theorem backNo (env : Env) (pos : Pos) : ∀ (es : List Expr), noStar es = true → (backTo pos (starEach es env)).any (·.1) = false
  | [], _ => by simp [starEach, backTo]
  | e :: es, h => by
    simp only [noStar, Bool.and_eq_true, Bool.not_eq_true'] at h
    rw [starE _ _ _ h.1]
    show (backTo pos ((false, eval e env) :: starEach es env)).any (·.1) = false
    have ih := backNo env pos es h.2
    unfold backTo at ih ⊢
    simp only [List.map_cons, List.any_cons, Bool.false_or]
    exact ih
theorem starHead {env : Env} {e : Expr} {es : List Expr} (h : noStar (e :: es) = true) : starEach (e :: es) env = (false, eval e env) :: starEach es env := by
  simp only [noStar, Bool.and_eq_true, Bool.not_eq_true'] at h
  exact starE _ _ _ h.1
theorem noStar_tail {e : Expr} {es : List Expr} (h : noStar (e :: es) = true) : noStar es = true := by
  simp only [noStar, Bool.and_eq_true] at h
  exact h.2
/-- f(e, ..) -/
theorem s_call {f : Str} {es : E} {e : Expr} {ees : List Expr} {p pos : Pos} (ok : XOk X S cf) (hg : Gl X f) (ih : PA X (e :: ees) (tLv S cf es)) (hn : noStar (e :: ees) = true) (hd : (f == ("__debug__" : Str)) = false) :
    PE X (.Call (.Name f p) (e :: ees) [] pos) (tEv S cf (.call f es)) := by
  refine ⟨fun pins s σ H Q I hh => ?_⟩
  obtain ⟨hθ, A, G, ρ, d, G', cs, l, e, w⟩ := hh
  have ok := ok.hide hθ
  simp only [evE] at e
  split at e
  · rename_i xs G1 ha
    obtain ⟨k, a, fd, ps, sp, F, hr, hm, hk, hb, hs⟩ := ok.fns _ _ _ _ _ e
    refine (pe_call F hr hg hm hk hb .nil pass0 ih hd (starHead hn) (backNo _ _ _ (noStar_tail hn))).run pins s σ H Q I ⟨hθ, A, G, ρ, xs, G1, cs, l, ha, fun vs A1 H1 g1 c1 r1 => ?_⟩
    show sp (vs ++ []) H1 Q E0
    rw [List.append_nil]
    exact hs hθ A1 H1 vs Q c1 r1 (w.mono g1)
  · cases e
theorem s_call0 {f : Str} {p pos : Pos} (ok : XOk X S cf) (hg : Gl X f) (hd : (f == ("__debug__" : Str)) = false) :
    PE X (.Call (.Name f p) [] [] pos) (tEv S cf (.call f .nil)) := by
  refine ⟨fun pins s σ H Q I hh => ?_⟩
  obtain ⟨hθ, A, G, ρ, d, G', cs, l, e, w⟩ := hh
  have ok := ok.hide hθ
  simp only [evE, evL] at e
  obtain ⟨k, a, fd, ps, sp, F, hr, hm, hk, hb, hs⟩ := ok.fns _ _ _ _ _ e
  exact (pe_call0 F hr hg hm hk hb .nil pass0 hd).run pins s σ H Q I (hs hθ A H [] Q cs .nil w)

/-! builtins -/
def biName : BI → Str
  | .len => "len" | .all => "all" | .any => "any" | .tuple => "tuple" | .list => "list" | .dictC => "dict" | .dictP => "dict" | .int => "int" | .repr => "repr" | .max2 => "max" | .min2 => "min" | .abs => "abs" | .divmod => "divmod" | .sorted => "sorted"
def biVal : BI → Value
  | .len => .builtin "len" | .all => .builtin "all" | .any => .builtin "any" | .tuple => .type "tuple" | .list => .type "list" | .dictC => .type "dict" | .dictP => .type "dict" | .int => .type "int" | .repr => .builtin "repr" | .max2 => .builtin "max" | .min2 => .builtin "min" | .abs => .builtin "abs" | .divmod => .builtin "divmod" | .sorted => .builtin "sorted"
def BiGo (X : Cx) (S : Sta) (f : Value) (ds : List D) (G : List C) (d : D) (G' : List C) : Prop :=
  ∃ r, CallR X f r ∧ ∀ vs A H Q, CsOk S A G H → RepAll S A H vs ds → Aft S A H d G' Q → r vs H Q
theorem reps1 {x : D} {vs : List V} (h : RepAll S A H vs [x]) : ∃ v, vs = [v] ∧ Rep S A H v x := by
  cases h with
  | cons r t => cases t; exact ⟨_, rfl, r⟩
theorem reps2 {x y : D} {vs : List V} (h : RepAll S A H vs [x, y]) : ∃ v w, vs = [v, w] ∧ Rep S A H v x ∧ Rep S A H w y := by
  cases h with
  | cons r t =>
    obtain ⟨w, e, q⟩ := reps1 t
    subst e
    exact ⟨_, _, rfl, r, q⟩
/-- len of a dict -/
theorem call_lenD' : CallR X (.builtin "len") (fun xs H Q => ∃ p kvs, xs = [.ref p] ∧ Rd H p (.dK kvs) ∧ Q (.int kvs.length) H) := by
  intro pins s σ H xs us Q I r h
  obtain ⟨p, kvs, rfl, e, q⟩ := h
  rw [Vals.ref1 r]
  exact d_len I e fun t s' I' => ⟨.int _, H, I', ⟨t, rfl⟩, q⟩
theorem call_lenT' : CallR X (.builtin "len") (fun xs H Q => ∃ (p : Addr) (kvs : List (List Key × V)), xs = [.ref p] ∧ Rd H p (.dT kvs) ∧ Q (.int kvs.length) H) := by
  intro pins s σ H xs us Q I r h
  obtain ⟨p, kvs, rfl, e, q⟩ := h
  rw [Vals.ref1 r]
  obtain ⟨z, hd, ys, rel, dd⟩ := dt_rd I.hok e
  have hl : kvs.length = ys.length := Paired.length rel
  refine call_len_dictH hd dd (by rw [← hl]; rw [sizeLine_eq] at z; omega) ?_
  rw [← hl]
  exact ⟨.int ((kvs.length : Nat) : Int), H, I.tok _, ⟨_, rfl⟩, q⟩
theorem bls_map : ∀ {xs : List D} {bs : List Bool}, blsOf xs = some bs → xs = bs.map D.bl
  | [], _, h => by simp [blsOf] at h; subst h; rfl
  | x :: xs, bs, h => by
    cases x <;> simp [blsOf] at h
    obtain ⟨cs, h1, h2⟩ := h
    subst h2
    rw [List.map_cons, bls_map h1]
theorem strs_map : ∀ {xs : List D} {bs : List Str}, strsOf xs = some bs → xs = bs.map D.str
  | [], _, h => by simp [strsOf] at h; subst h; rfl
  | x :: xs, bs, h => by
    cases x <;> simp [strsOf] at h
    obtain ⟨cs, h1, h2⟩ := h
    subst h2
    rw [List.map_cons, strs_map h1]
theorem len_go {x : D} {n : Nat} (ok : XOk X S cf) (h : lenD x G = some n) : BiGo X S (.builtin "len") [x] G (.int n) G := by
  unfold lenD at h
  split at h
  · rename_i z
    split at h
    · rename_i hz
      cases h
      refine ⟨_, call_len_str, fun vs A H Q c r w => ?_⟩
      obtain ⟨v, rfl, r1⟩ := reps1 r
      exact ⟨z, by rw [rep_str r1], hz, w.here c (.int _)⟩
    · cases h
  · rename_i xs
    cases h
    refine ⟨_, call_len_seq, fun vs A H Q c r w => ?_⟩
    obtain ⟨v, rfl, r1⟩ := reps1 r
    obtain ⟨a, ys, rfl, sq, q⟩ := tup_sq r1
    exact ⟨a, ys, rfl, .inr (by rw [ok.K]; exact sq), by rw [q.length]; exact w.here c (.int _)⟩
  · rename_i xs
    cases h
    refine ⟨_, call_len_seq, fun vs A H Q c r w => ?_⟩
    obtain ⟨v, rfl, r1⟩ := reps1 r
    obtain ⟨a, ys, rfl, sq, q⟩ := wls_sq r1
    exact ⟨a, ys, rfl, .inl (by rw [ok.K]; exact sq), by rw [q.length]; exact w.here c (.int _)⟩
  · split at h
    · rename_i xs hx
      cases h
      refine ⟨_, call_len_seq, fun vs A H Q c r w => ?_⟩
      obtain ⟨v, rfl, r1⟩ := reps1 r
      obtain ⟨a, ys, rfl, rd, q⟩ := lst_rd hx c r1
      exact ⟨a, ys, rfl, .inl (.inl rd), by rw [q.length]; exact w.here c (.int _)⟩
    · split at h
      · rename_i t ks vs hd
        cases h
        refine ⟨_, (call_lenD' (X := X)).or call_lenT', fun vs A H Q c r w => ?_⟩
        obtain ⟨v, rfl, r1⟩ := reps1 r
        obtain ⟨a, rfl, dr⟩ := dic_rd hd c r1
        cases dr with
        | k kvs rd e q => exact .inl ⟨a, kvs, rfl, rd, by subst e; have := w.here c (.int _); simpa using this⟩
        | t kvs rd e q => exact .inr ⟨a, kvs, rfl, rd, by subst e; have := w.here c (.int _); simpa using this⟩
      · cases h
/-- list(d) -/
theorem call_list_K (hc : X.calm = true) : CallR X (.type "list") (fun xs H Q => ∃ p kvs, xs = [.ref p] ∧ Rd H p (.dK kvs) ∧ ∀ q, H q = none → Q (.ref q) (upd H q (.lst (kvs.map fun kv => kV kv.1)))) := by
  intro pins s σ H xs us Q I r h
  obtain ⟨p, kvs, e, hk, q⟩ := h
  subst e
  obtain ⟨u, eu, rx⟩ := vals1 r
  subst eu
  obtain rfl : u = Value.ref p := rx
  obtain ⟨z, lo, vs, rk, hd⟩ := (show ObjOk X.prog X.w H s.heap p (.dK kvs) from hk.ok I.hok)
  obtain ⟨ep, hat⟩ := hd.dictAt
  have hl : kvs.length = vs.length := Paired.length rk
  refine PySem.W.kdl_call (PySem.W.kdl_dict (knd := mixKind X.prog X.w) (kvs := vs) (ep := ep) lo) (I.ok.hd hc) hat (by rw [← hl]; exact z) fun h' tk acc' c' hkeep hS hacc => ?_
  refine ⟨.ref s.heap.objs.size, upd H s.heap.objs.size (.lst (kvs.map fun kv => kV kv.1)), I.laid hkeep (Nat.le_refl _) (show ObjOk X.prog X.w _ _ _ (.lst (kvs.map fun kv => kV kv.1)) from ⟨?_, acc'.toList, c', ?_, ?_⟩), rfl, q _ (I.hok.fresh (Nat.le_refl _))⟩
  · rw [List.length_map]; exact z
  · have el : acc'.toList.length = acc'.size := by simp
    refine vals_of_at (by rw [List.length_map, el, hacc.1, hl]) fun j x w h1 h2 => ?_
    obtain ⟨k, y, hky, hi⟩ := hacc.2 j w (by rw [← Array.getElem?_toList]; exact h2)
    have e1 : (kvs.map (·.1))[j]? = some k := by
      rw [KV.keys rk, List.getElem?_map, hky] <;> rfl
    have e2 : (kvs.map fun kv => kV kv.1)[j]? = some (kV k) := by
      have e3 : (kvs.map fun kv => kV kv.1) = (kvs.map (·.1)).map kV := by rw [List.map_map] <;> rfl
      rw [e3, List.getElem?_map, e1] <;> rfl
    rw [e2] at h1
    cases h1
    exact keyIs_rel hi
  · rw [Array.toArray_toList]; exact hS
theorem rep_keys : ∀ {kvs : List (Key × V)}, RepAll S A H (kvs.map fun kv => kV kv.1) (kvs.map fun kv => kD kv.1)
  | [] => .nil
  | (.inl i, _) :: r => .cons (.int i) rep_keys
  | (.inr i, _) :: r => .cons (.str i) rep_keys
theorem rep_keysT {kvs : List (List Key × V)} {bs : List Addr} (ok : CsOk S A G H) (h : IsKeys H kvs bs) (nc : ∀ b ∈ bs, Out S A b) : RepAll S A H (bs.map V.ref) (kvs.map fun kv => Iv.tD kv.1) := by
  induction h with
  | nil => exact .nil
  | @cons p b kvs bs r t ih =>
    refine .cons (.tup (nc b (List.mem_cons_self ..)) r ?_) (ih fun b' hb => nc b' (List.mem_cons_of_mem _ hb))
    clear r t ih nc
    generalize p.1 = ks
    induction ks with
    | nil => exact .nil
    | cons k ks ih => cases k with
      | inl i => exact .cons (.int i) ih
      | inr i => exact .cons (.str i) ih
theorem tup_out (c : CsOk S A G H) {b : Addr} {xs : List V} (h : H b = some (.tup xs)) : Out S A b := by
  refine ⟨fun m => ?_, fun m => ?_⟩
  · obtain ⟨n, hn, e⟩ := List.getElem_of_mem m
    have e1 : A[n]? = some b := by rw [List.getElem?_eq_getElem hn, e]
    have hg : n < G.length := by rw [← c.len]; exact hn
    have k := c.at_ n b _ e1 (List.getElem?_eq_getElem hg)
    cases hc : G[n] with
    | lst ds => rw [hc] at k; obtain ⟨_, k, _⟩ := k; rw [k] at h; cases h
    | dK ks ds => rw [hc] at k; obtain ⟨_, k, _⟩ := k; rw [k] at h; cases h
    | dT ks ds => rw [hc] at k; obtain ⟨_, k, _⟩ := k; rw [k] at h; cases h
    | ins x fs ds => rw [hc] at k; obtain ⟨_, _, _, k, _⟩ := k; rw [k] at h; cases h
  · obtain ⟨_, o, e, mb⟩ := c.hid b m
    rw [h] at e; cases e; cases mb
/-! a new dict -/
theorem putK_D {kvs : List (Key × V)} {vs : List D} {k : Key} {v : V} {d : D} (q : RepAll S A H (kvs.map (·.2)) vs) (r : Rep S A H v d) :
    (putK kvs k v).map (fun p => kD p.1) = dputK (kvs.map fun p => kD p.1) (kD k) ∧ RepAll S A H ((putK kvs k v).map (·.2)) (dputV (kvs.map fun p => kD p.1) vs (kD k) d) := by
  have ea : (kvs.any fun kv => decide (kv.1 = k)) = ((kvs.map fun p => kD p.1).any fun x => kEq x (kD k)) := by
    rw [List.any_map]
    congr 1
    funext p
    simp [kEq_kD]
  unfold putK dputK dputV
  rw [← ea]
  by_cases h : (kvs.any fun kv => decide (kv.1 = k)) = true
  · rw [if_pos h, if_pos h, if_pos h]
    refine ⟨?_, ?_⟩
    · rw [List.map_map]
      apply List.map_congr_left
      intro p _
      show kD (if p.1 = k then (p.1, v) else p).1 = kD p.1
      split <;> rfl
    · clear h ea
      generalize hx : kvs.map (·.2) = xs at q
      induction kvs generalizing vs xs with
      | nil => subst hx; cases q; exact .nil
      | cons p kvs ih =>
        subst hx
        cases q with
        | cons r1 t =>
          refine .cons ?_ (ih _ rfl t)
          show Rep S A H (if p.1 = k then (p.1, v) else p).2 (if kEq (kD p.1) (kD k) = true then d else _)
          rw [kEq_kD]
          by_cases e : p.1 = k
          · rw [if_pos e, if_pos (by simpa using e)]; exact r
          · rw [if_neg e, if_neg (by simpa using e)]; exact r1
  · rw [if_neg h, if_neg h, if_neg h]
    refine ⟨by simp, ?_⟩
    rw [List.map_append]
    exact q.app (.cons r .nil)
theorem putT_D {kvs : List (List Key × V)} {vs : List D} {k : List Key} {v : V} {d : D} (q : RepAll S A H (kvs.map (·.2)) vs) (r : Rep S A H v d) :
    (putK kvs k v).map (fun p => Iv.tD p.1) = dputK (kvs.map fun p => Iv.tD p.1) (Iv.tD k) ∧ RepAll S A H ((putK kvs k v).map (·.2)) (dputV (kvs.map fun p => Iv.tD p.1) vs (Iv.tD k) d) := by
  have ea : (kvs.any fun kv => decide (kv.1 = k)) = ((kvs.map fun p => Iv.tD p.1).any fun x => kEq x (Iv.tD k)) := by
    rw [List.any_map]
    congr 1
    funext p
    simp [kEq_tD]
  unfold putK dputK dputV
  rw [← ea]
  by_cases h : (kvs.any fun kv => decide (kv.1 = k)) = true
  · rw [if_pos h, if_pos h, if_pos h]
    refine ⟨?_, ?_⟩
    · rw [List.map_map]
      apply List.map_congr_left
      intro p _
      show Iv.tD (if p.1 = k then (p.1, v) else p).1 = Iv.tD p.1
      split <;> rfl
    · clear h ea
      generalize hx : kvs.map (·.2) = xs at q
      induction kvs generalizing vs xs with
      | nil => subst hx; cases q; exact .nil
      | cons p kvs ih =>
        subst hx
        cases q with
        | cons r1 t =>
          refine .cons ?_ (ih _ rfl t)
          show Rep S A H (if p.1 = k then (p.1, v) else p).2 (if kEq (Iv.tD p.1) (Iv.tD k) = true then d else _)
          rw [kEq_tD]
          by_cases e : p.1 = k
          · rw [if_pos e, if_pos (by simpa using e)]; exact r
          · rw [if_neg e, if_neg (by simpa using e)]; exact r1
  · rw [if_neg h, if_neg h, if_neg h]
    refine ⟨by simp, ?_⟩
    rw [List.map_append]
    exact q.app (.cons r .nil)
/-- merged pairs -/
theorem merge_D : ∀ {ps : List (D × D)} {more kvs : List (Key × V)} {ks vs : List D}, ks = kvs.map (fun p => kD p.1) → RepAll S A H (kvs.map (·.2)) vs → ps.map (·.1) = more.map (fun p => kD p.1) → RepAll S A H (more.map (·.2)) (ps.map (·.2)) →
    (dputs ks vs ps).1 = (mergeK kvs more).map (fun p => kD p.1) ∧ RepAll S A H ((mergeK kvs more).map (·.2)) (dputs ks vs ps).2
  | [], [], kvs, ks, vs, h1, h2, _, _ => ⟨h1, h2⟩
  | [], _ :: _, _, _, _, _, _, h3, _ => by simp at h3
  | _ :: _, [], _, _, _, _, _, h3, _ => by simp at h3
  | p :: ps, m :: more, kvs, ks, vs, h1, h2, h3, h4 => by
    simp only [List.map_cons, List.cons.injEq] at h3
    simp only [List.map_cons] at h4
    cases h4 with
    | cons r t =>
      subst h1
      obtain ⟨e1, e2⟩ := putK_D (k := m.1) h2 r
      have := merge_D (kvs := putK kvs m.1 m.2) e1.symm (by rw [← h3.1] at e2; exact e2) h3.2 t
      show (dputs (dputK (kvs.map fun p => kD p.1) p.1) (dputV (kvs.map fun p => kD p.1) vs p.1 p.2) ps).1 = _ ∧ RepAll S A H _ (dputs (dputK (kvs.map fun p => kD p.1) p.1) (dputV (kvs.map fun p => kD p.1) vs p.1 p.2) ps).2
      rw [h3.1] at this ⊢
      exact this
/-- a new dict, as a tree or as a cell -/
theorem mkK_ok {c : Bool} {ks ds : List D} {d : D} {Q : VK} {kvs : List (Key × V)} (h : mkK c ks ds G = some (d, G')) (ok : CsOk S A G H) (e : ks = kvs.map fun p => kD p.1) (q : RepAll S A H (kvs.map (·.2)) ds) (w : Aft S A H d G' Q) : ∀ p, H p = none → Q (.ref p) (upd H p (.dK kvs)) := by
  intro p hp
  unfold mkK at h
  cases c with
  | false =>
    simp at h
    obtain ⟨rfl, rfl⟩ := h
    exact w _ A _ (Gr.new hp) (ok.new hp) (.dK (ok.fresh hp) (.inl upd_same) e (q.mono (Gr.new hp)))
  | true =>
    simp at h
    obtain ⟨rfl, rfl⟩ := h
    refine w _ (A ++ [p]) _ (Gr.newC hp) (ok.newC hp ⟨_, upd_same, e, q.mono (Gr.newC hp)⟩) (.cell ?_)
    rw [← ok.len, List.getElem?_append_right (Nat.le_refl _)]
    simp
theorem call_dictCp : CallR X (.type "dict") (fun xs H Q => ∃ a kvs, xs = [.ref a] ∧ Rd H a (.dK kvs) ∧ ∀ p, H p = none → Q (.ref p) (upd H p (.dK kvs))) := by
  intro pins s σ H xs us Q I r h
  obtain ⟨a, kvs, rfl, e, q⟩ := h
  rw [Vals.ref1 r]
  exact d_copyOf I e fun p s' hp I' => ⟨.ref p, _, I', rfl, q p hp⟩
theorem call_repr_bl : CallR X (.builtin "repr") (fun xs H Q => ∃ b, xs = [.bl b] ∧ Q (.str (if b then "True" else "False")) H) := by
  intro pins s σ H xs us Q I r h
  obtain ⟨b, rfl, q⟩ := h
  obtain ⟨u, rfl, rx⟩ := vals1 r
  cases rx
  exact PySem.P.repr_of_bool ⟨.str _, H, I.tok _, ⟨_, rfl⟩, q⟩
theorem call_repr_non : CallR X (.builtin "repr") (fun xs H Q => xs = [.non] ∧ Q (.str "None") H) := by
  intro pins s σ H xs us Q I r h
  obtain ⟨rfl, q⟩ := h
  obtain ⟨u, rfl, rx⟩ := vals1 r
  cases rx
  exact PySem.P.repr_of_none ⟨.str _, H, I.tok _, ⟨_, rfl⟩, q⟩
theorem pairs_map : ∀ {xs : List D} {ps : List (D × D)}, pairsOf xs = some ps → xs = ps.map (fun p => .tup [p.1, p.2]) ∧ ps.all (fun p => isK p.1) = true
  | [], ps, h => by simp [pairsOf] at h; subst h; exact ⟨rfl, rfl⟩
  | x :: xs, ps, h => by
    have go : ∀ {a b : D}, (if isK a = true then (pairsOf xs).map ((a, b) :: ·) else none) = some ps → x = .tup [a, b] → x :: xs = ps.map (fun p => .tup [p.1, p.2]) ∧ ps.all (fun p => isK p.1) = true := by
      intro a b h e
      split at h
      · rename_i hk
        cases hr : pairsOf xs with
        | none => rw [hr] at h; cases h
        | some qs =>
          rw [hr] at h
          cases h
          obtain ⟨e1, e2⟩ := pairs_map hr
          exact ⟨by rw [e, e1]; rfl, by simp [hk]; simpa using e2⟩
      · cases h
    cases x with
    | tup ys =>
      match ys, h with
      | [a, b], h => exact go (by simpa only [pairsOf] using h) rfl
      | [], h => simp [pairsOf] at h
      | [_], h => simp [pairsOf] at h
      | _ :: _ :: _ :: _, h => simp [pairsOf] at h
    | _ => simp [pairsOf] at h
/-- the pairs of a list -/
theorem pairs_rep (c : CsOk S A G H) : ∀ {ps : List (D × D)} {vs : List V}, ps.all (fun p => isK p.1) = true → RepAll S A H vs (ps.map fun p => .tup [p.1, p.2]) →
    ∃ (as : List Addr) (kvs : List (Key × V)), vs = as.map V.ref ∧ Paired (fun p kv => SqT S.K H p [kV kv.1, kv.2]) as kvs ∧ ps.map (·.1) = kvs.map (fun p => kD p.1) ∧ RepAll S A H (kvs.map (·.2)) (ps.map (·.2))
  | [], _, _, .nil => ⟨[], [], rfl, .nil, rfl, .nil⟩
  | p :: ps, _, h, .cons r t => by
    simp only [List.all_cons, Bool.and_eq_true] at h
    obtain ⟨as, kvs, e1, pr, e2, q⟩ := pairs_rep c h.2 t
    obtain ⟨a, xs, rfl, sq, w⟩ := tup_sq r
    obtain ⟨v1, v2, rfl, r1, r2⟩ := reps2 w
    obtain ⟨k, e3, rfl⟩ := key_K h.1 r1
    exact ⟨a :: as, (k, v2) :: kvs, by simp [e1], .cons sq pr, by simp [e2, e3], .cons r2 q⟩
end
end Iv

set_option Elab.async false
set_option linter.all false
set_option maxRecDepth 100000
set_option maxHeartbeats 4000000
namespace Iv
open PySem PySem.Spec PyProof.Rows L2
section
variable {X : Cx} {S : Sta} {cf : CF} {A : List Addr} {G G' : List C} {H : Hp} {σ : L2.St} {ρ : En} {pins : List (Addr × Obj)} {s : Shared}
theorem bi_go (ok : XOk X S cf) {b : BI} {c : Bool} {ds : List D} {d : D} (h : biD b c ds G = some (d, G')) : BiGo X S (biVal b) ds G d G' := by
  unfold biD at h
  split at h
  · rename_i x
    cases hl : lenD x G with
    | none => rw [hl] at h; cases h
    | some n => rw [hl] at h; cases h; exact len_go ok hl
  · split at h
    · rename_i xs hx
      cases hb : blsOf xs with
      | none => rw [hb] at h; cases h
      | some bs =>
        rw [hb] at h
        cases h
        refine ⟨_, cr_all ok.calm, fun vs A H Q c r w => ?_⟩
        obtain ⟨v, rfl, r1⟩ := reps1 r
        obtain ⟨a, ys, rfl, rd, q⟩ := lst_rd hx c r1
        rw [bls_map hb] at q
        have := q.bls
        subst this
        exact ⟨a, bs, rfl, .inl rd, w.here c (.bl _)⟩
    · cases h
  · split at h
    · rename_i xs hx
      cases hb : blsOf xs with
      | none => rw [hb] at h; cases h
      | some bs =>
        rw [hb] at h
        cases h
        refine ⟨_, cr_any ok.calm, fun vs A H Q c r w => ?_⟩
        obtain ⟨v, rfl, r1⟩ := reps1 r
        obtain ⟨a, ys, rfl, rd, q⟩ := lst_rd hx c r1
        rw [bls_map hb] at q
        have := q.bls
        subst this
        exact ⟨a, bs, rfl, .inl rd, w.here c (.bl _)⟩
    · cases h
  · split at h
    · cases h
      refine ⟨_, call_tuple_of, fun vs A H Q c r w => ?_⟩
      obtain ⟨v, rfl, r1⟩ := reps1 r
      obtain ⟨a, ys, rfl, sq, q⟩ := tup_sq r1
      exact ⟨a, ys, rfl, .inr ⟨by rw [ok.K]; exact sq, w.here c r1⟩⟩
    · rename_i x _ hne
      cases hx : lstOf G x with
      | none => rw [hx] at h; cases h
      | some xs =>
        rw [hx] at h
        cases h
        refine ⟨_, call_tuple_of, fun vs A H Q c r w => ?_⟩
        obtain ⟨v, rfl, r1⟩ := reps1 r
        obtain ⟨a, ys, rfl, rd, q⟩ := lst_rd hx c r1
        exact ⟨a, ys, rfl, .inl ⟨.inl rd, tup_new c q w⟩⟩
  · split at h
    · rename_i xs hx
      refine ⟨_, call_list_of, fun vs A H Q c r w => ?_⟩
      obtain ⟨v, rfl, r1⟩ := reps1 r
      obtain ⟨a, ys, rfl, sq, q⟩ := seq_sq hx c r1
      obtain ⟨_, n⟩ := mkL_ok h c q w
      exact ⟨a, ys, rfl, by rw [ok.K]; exact sq, n⟩
    · split at h
      · rename_i t ks vs hd
        refine ⟨_, (call_list_K ok.calm).or (call_list_dT ok.calm), fun vs A H Q c r w => ?_⟩
        obtain ⟨v, rfl, r1⟩ := reps1 r
        obtain ⟨a, rfl, dr⟩ := dic_rd hd c r1
        cases dr with
        | k kvs rd e q =>
          subst e
          obtain ⟨_, n⟩ := mkL_ok h c rep_keys w
          exact .inl ⟨a, kvs, rfl, rd, n⟩
        | t kvs rd e q =>
          subst e
          refine .inr ⟨a, kvs, rfl, rd, fun p bs hp ik => ?_⟩
          have nc : ∀ b ∈ bs, Out S A b := by
            clear w h q rd hd r r1
            induction ik with
            | nil => simp
            | cons h1 t ih =>
              intro b hb
              rcases List.mem_cons.mp hb with e | hb
              · subst e; exact tup_out c h1
              · exact ih b hb
          obtain ⟨_, n⟩ := mkL_ok h c (rep_keysT c ik nc) w
          exact n p hp
      · cases h
  · split at h
    · rename_i t ks vs hd
      split at h
      · cases h
      · rename_i ht
        refine ⟨_, call_dictCp, fun vs A H Q c r w => ?_⟩
        obtain ⟨v, rfl, r1⟩ := reps1 r
        obtain ⟨a, rfl, dr⟩ := dic_rd hd c r1
        cases dr with
        | k kvs rd e q => exact ⟨a, kvs, rfl, rd, mkK_ok h c e q w⟩
        | t kvs rd e q => exact absurd rfl ht
    · cases h
  · split at h
    · rename_i xs hx
      split at h
      · rename_i ps hp
        obtain ⟨e1, e2⟩ := pairs_map hp
        refine ⟨_, call_dictP ok.calm, fun vs A H Q c r w => ?_⟩
        obtain ⟨v, rfl, r1⟩ := reps1 r
        obtain ⟨a, ys, rfl, rd, q⟩ := lst_rd hx c r1
        rw [e1] at q
        obtain ⟨as, kvs, e3, pr, e4, q2⟩ := pairs_rep c e2 q
        subst e3
        obtain ⟨m1, m2⟩ := merge_D (kvs := []) (ks := []) (vs := []) rfl .nil e4 q2
        refine ⟨a, as, kvs, rfl, .inl rd, by rw [ok.K]; exact pr, mkK_ok h c m1 m2 w⟩
      · cases h
    · cases h
  · cases h
    refine ⟨_, call_int1, fun vs A H Q c r w => ?_⟩
    obtain ⟨v, rfl, r1⟩ := reps1 r
    exact .inl ⟨_, by rw [rep_int r1], w.here c (.int _)⟩
  · cases h
    refine ⟨_, call_int1, fun vs A H Q c r w => ?_⟩
    obtain ⟨v, rfl, r1⟩ := reps1 r
    exact .inr ⟨_, by rw [rep_bl r1], w.here c (.int _)⟩
  · cases h
    refine ⟨_, call_repr_bl, fun vs A H Q c r w => ?_⟩
    obtain ⟨v, rfl, r1⟩ := reps1 r
    exact ⟨_, by rw [rep_bl r1], w.here c (.str _)⟩
  · cases h
    refine ⟨_, call_repr_non, fun vs A H Q c r w => ?_⟩
    obtain ⟨v, rfl, r1⟩ := reps1 r
    exact ⟨by rw [rep_non r1], w.here c (.str _)⟩
  · cases h
    refine ⟨_, call_max2 ok.calm, fun vs A H Q c r w => ?_⟩
    obtain ⟨v, u, rfl, r1, r2⟩ := reps2 r
    exact ⟨_, _, by rw [rep_int r1, rep_int r2], w.here c (.int _)⟩
  · cases h
    refine ⟨_, call_min2 ok.calm, fun vs A H Q c r w => ?_⟩
    obtain ⟨v, u, rfl, r1, r2⟩ := reps2 r
    exact ⟨_, _, by rw [rep_int r1, rep_int r2], w.here c (.int _)⟩
  · cases h
    refine ⟨_, call_abs, fun vs A H Q c r w => ?_⟩
    obtain ⟨v, rfl, r1⟩ := reps1 r
    exact ⟨_, by rw [rep_int r1], w.here c (.int _)⟩
  · split at h
    · rename_i hj
      cases h
      refine ⟨_, call_divmod, fun vs A H Q c r w => ?_⟩
      obtain ⟨v, u, rfl, r1, r2⟩ := reps2 r
      exact ⟨_, _, by rw [rep_int r1, rep_int r2], hj, tup_new c (.cons (.int _) (.cons (.int _) .nil)) w⟩
    · cases h
  · cases h
/-- a builtin by its name -/
theorem s_bi {b : BI} {c : Bool} {es : E} {e : Expr} {ees : List Expr} {p pos : Pos} (ok : XOk X S cf) (hg : Gl X (biName b)) (hm : X.mg (biName b) = none) (ih : PA X (e :: ees) (tLv S cf es)) (hn : noStar (e :: ees) = true) :
    PE X (.Call (.Name (biName b) p) (e :: ees) [] pos) (tEv S cf (.bi b c es)) := by
  refine ⟨fun pins s σ H Q I hh => ?_⟩
  obtain ⟨hθ, A, G, ρ, d, G', cs, l, ev, w⟩ := hh
  have ok := ok.hide hθ
  simp only [evE] at ev
  split at ev
  · rename_i xs G1 ha
    obtain ⟨r, hr, hk⟩ := bi_go ok ev
    have fin : tLv S cf es σ H (fun vs H1 => r vs H1 Q) := ⟨hθ, A, G, ρ, xs, G1, cs, l, ha, fun vs A1 H1 g1 c1 r1 => hk vs A1 H1 Q c1 r1 (w.mono g1)⟩
    have ty : ∀ {T : String}, biVal b = .type T → bootBuiltins (biName b) = some (.type T) → biName b ≠ "__name__" → (biName b == ("__debug__" : Str)) = false → wpAny (model X.prog X.w) X.A (eval (.Call (.Name (biName b) p) (e :: ees) [] pos) X.env) (EP X pins σ Q) X.xe s := by
      intro T h1 h2 h3 h4
      rw [h1] at hr
      exact (pe_callTy hr hg hm h2 ih h3 h4 (starHead hn) (backNo _ _ _ (noStar_tail hn))).run pins s σ H Q I fin
    have bu : ∀ {T : String}, biVal b = .builtin T → bootBuiltins (biName b) = some (.builtin T) → biName b ≠ "__name__" → (biName b == ("__debug__" : Str)) = false → wpAny (model X.prog X.w) X.A (eval (.Call (.Name (biName b) p) (e :: ees) [] pos) X.env) (EP X pins σ Q) X.xe s := by
      intro T h1 h2 h3 h4
      rw [h1] at hr
      exact (pe_callB hr hg hm h2 ih h3 h4 (starHead hn) (backNo _ _ _ (noStar_tail hn))).run pins s σ H Q I fin
    cases b with
    | len => exact bu (T := "len") rfl (by decide +kernel) (by decide +kernel) (by decide +kernel)
    | all => exact bu (T := "all") rfl (by decide +kernel) (by decide +kernel) (by decide +kernel)
    | any => exact bu (T := "any") rfl (by decide +kernel) (by decide +kernel) (by decide +kernel)
    | tuple => exact ty (T := "tuple") rfl (by decide +kernel) (by decide +kernel) (by decide +kernel)
    | list => exact ty (T := "list") rfl (by decide +kernel) (by decide +kernel) (by decide +kernel)
    | dictC => exact ty (T := "dict") rfl (by decide +kernel) (by decide +kernel) (by decide +kernel)
    | dictP => exact ty (T := "dict") rfl (by decide +kernel) (by decide +kernel) (by decide +kernel)
    | int => exact ty (T := "int") rfl (by decide +kernel) (by decide +kernel) (by decide +kernel)
    | repr => exact bu (T := "repr") rfl (by decide +kernel) (by decide +kernel) (by decide +kernel)
    | max2 => exact bu (T := "max") rfl (by decide +kernel) (by decide +kernel) (by decide +kernel)
    | min2 => exact bu (T := "min") rfl (by decide +kernel) (by decide +kernel) (by decide +kernel)
    | abs => exact bu (T := "abs") rfl (by decide +kernel) (by decide +kernel) (by decide +kernel)
    | divmod => exact bu (T := "divmod") rfl (by decide +kernel) (by decide +kernel) (by decide +kernel)
    | sorted => exact bu (T := "sorted") rfl (by decide +kernel) (by decide +kernel) (by decide +kernel)
  · cases ev
end
end Iv

set_option Elab.async false
set_option linter.all false
set_option maxRecDepth 100000
set_option maxHeartbeats 4000000
namespace Iv
open PySem PySem.Spec PyProof.Rows L2
section
variable {X : Cx} {S : Sta} {cf : CF} {A : List Addr} {G G' : List C} {H : Hp} {σ : L2.St} {ρ : En} {pins : List (Addr × Obj)} {s : Shared}
def isCall0 : Expr → Bool
  | .Call _ [] _ _ => true
  | _ => false
theorem baseOk {o : Expr} (h : isCall0 o = false) (m : Str) (env : Env) (w : Sem Value) : attributeBase o m env w = w := by
  cases o with
  | Call f args kws pos =>
    cases args with
    | nil => cases h
    | cons a r => cases f <;> rfl
  | _ => rfl
theorem one_star {env : Env} {e : Expr} (h : isStarE e = false) : starEach [e] env = [(false, eval e env)] := by rw [starE _ _ _ h]; rfl
/-! methods of texts -/
theorem s_words {c : Bool} {o : E} {eo : Expr} {apos pos : Pos} (io : PE X eo (tEv S cf o)) (hb : isCall0 eo = false) (hl : (apos.endLine == pos.line) = true) :
    PE X (.Call (.Attribute eo "split" apos) [] [] pos) (tEv S cf (.meth .words c o .nil)) := by
  refine ⟨fun pins s σ H Q I hh => ?_⟩
  obtain ⟨hθ, A, G, ρ, d, G', cs, l, ev, w⟩ := hh
  simp only [evE, evL, methD, methOk] at ev
  split at ev
  · rename_i x G1 ha
    split at ev
    · rename_i a _
      split at ev
      · rename_i hz
        refine (pe_words io (baseOk hb _ _ _) hl).run pins s σ H Q I ⟨hθ, A, G, ρ, _, G1, cs, l, ha, fun v A1 H1 g1 c1 r1 => ⟨⟨a, rep_str r1⟩, a, rep_str r1, rfl, hz, fun p hp => ?_⟩⟩
        exact (mkL_ok (xs := (Txt.words a).map V.str) ev c1 (RepAll.of_map _ fun x _ => .str x) (w.mono g1)).2 p hp
      · cases ev
    · cases ev
  · cases ev
/-- o.m(e), o a text -/
theorem m1_go {hθ : List Addr} {m : MT} {c : Bool} {o e : E} {eo ee : Expr} {apos pos : Pos} {d : D} {Q : VK} (cs : CsOk (S.hide hθ) A G H) (l : SlOk (S.hide hθ) A H ρ σ) (ev : evE cf (.meth m c o (.cons e .nil)) ρ G = some (d, G')) (w : Aft (S.hide hθ) A H d G' Q) (hm : ∀ x G, methOk m x G = true) {r : V → List V → Hp → VK → Prop}
    (hk : ∀ x y G2, methD m c x [y] G2 = some (d, G') → (∃ a, x = .str a) ∧ ∀ v u A2 H2, CsOk (S.hide hθ) A2 G2 H2 → Rep (S.hide hθ) A2 H2 v x → Rep (S.hide hθ) A2 H2 u y → Aft (S.hide hθ) A2 H2 d G' Q → r v [u] H2 Q) :
    tM1 r (tEv S cf o) (tEv S cf e) σ H Q := by
  simp only [evE, evL, hm] at ev
  split at ev
  · rename_i x G1 ha
    cases hb : evE cf e ρ G1 with
    | none => rw [hb] at ev; cases ev
    | some p =>
      obtain ⟨y, G2⟩ := p
      rw [hb] at ev
      simp only at ev
      obtain ⟨⟨a, hx⟩, k⟩ := hk x y G2 ev
      refine ⟨hθ, A, G, ρ, x, G1, cs, l, ha, fun v A1 H1 g1 c1 r1 => ⟨⟨a, by rw [hx] at r1; exact rep_str r1⟩, hθ, A1, G1, ρ, y, G2, c1, l.mono g1, hb, fun u A2 H2 g2 c2 r2 => ?_⟩⟩
      exact k v u A2 H2 c2 (r1.mono g2) r2 (w.mono (g1.trans g2))
  · cases ev
theorem s_split {c : Bool} {o e : E} {eo ee : Expr} {apos pos : Pos} (io : PE X eo (tEv S cf o)) (ie : PE X ee (tEv S cf e)) (hb : isCall0 eo = false) (hs : isStarE ee = false) (hl : (apos.endLine == pos.line) = true) :
    PE X (.Call (.Attribute eo "split" apos) [ee] [] pos) (tEv S cf (.meth .split c o (.cons e .nil))) := by
  refine ⟨fun pins s σ H Q I hh => ?_⟩
  obtain ⟨hθ, A, G, ρ, d, G', cs, l, ev, w⟩ := hh
  refine (pe_split io ie (one_star hs) (baseOk hb _ _ _) hl).run pins s σ H Q I (m1_go (eo := eo) (ee := ee) (apos := apos) (pos := pos) cs l ev w (fun _ _ => rfl) fun x y G2 h => ?_)
  simp only [methD] at h
  split at h
  · rename_i a b hy
    cases hy
    split at h
    · rename_i hz
      refine ⟨⟨_, rfl⟩, fun v u A2 H2 c2 r1 r2 w2 => ⟨a, b, rep_str r1, by rw [rep_str r2], hz.1, hz.2, fun p hp => ?_⟩⟩
      exact (mkL_ok (xs := (Txt.split a b).map V.str) h c2 (RepAll.of_map _ fun x _ => .str x) w2).2 p hp
    · cases h
  · cases h
theorem s_join {c : Bool} {o e : E} {eo ee : Expr} {apos pos : Pos} (ok : XOk X S cf) (io : PE X eo (tEv S cf o)) (ie : PE X ee (tEv S cf e)) (hb : isCall0 eo = false) (hs : isStarE ee = false) (hl : (apos.endLine == pos.line) = true) :
    PE X (.Call (.Attribute eo "join" apos) [ee] [] pos) (tEv S cf (.meth .join c o (.cons e .nil))) := by
  refine ⟨fun pins s σ H Q I hh => ?_⟩
  obtain ⟨hθ, A, G, ρ, d, G', cs, l, ev, w⟩ := hh
  have ok := ok.hide hθ
  refine (pe_join io ie (one_star hs) (baseOk hb _ _ _) hl).run pins s σ H Q I (m1_go (eo := eo) (ee := ee) (apos := apos) (pos := pos) cs l ev w (fun _ _ => rfl) fun x y G2 h => ?_)
  simp only [methD] at h
  split at h
  · rename_i a z hy
    cases hy
    split at h
    · rename_i xs hx
      split at h
      · rename_i ys hys
        split at h
        · rename_i hz
          cases h
          refine ⟨⟨_, rfl⟩, fun v u A2 H2 c2 r1 r2 w2 => ?_⟩
          obtain ⟨p, vs, rfl, sq, q⟩ := seq_sq hx c2 r2
          rw [strs_map hys] at q
          have := q.strs
          subst this
          exact ⟨a, p, ys, rep_str r1, rfl, by rw [ok.K]; exact sq, hz, w2.here c2 (.str _)⟩
        · cases h
      · cases h
    · cases h
  · cases h
theorem s_endswith {c : Bool} {o e : E} {eo ee : Expr} {apos pos : Pos} (io : PE X eo (tEv S cf o)) (ie : PE X ee (tEv S cf e)) (hb : isCall0 eo = false) (hs : isStarE ee = false) (hl : (apos.endLine == pos.line) = true) :
    PE X (.Call (.Attribute eo "endswith" apos) [ee] [] pos) (tEv S cf (.meth .endswith c o (.cons e .nil))) := by
  refine ⟨fun pins s σ H Q I hh => ?_⟩
  obtain ⟨hθ, A, G, ρ, d, G', cs, l, ev, w⟩ := hh
  refine (pe_m1 F.slot_str_endswith F.type_str_endswith mt_endswith io ie (one_star hs) (baseOk hb _ _ _) hl).run pins s σ H Q I (m1_go (eo := eo) (ee := ee) (apos := apos) (pos := pos) cs l ev w (fun _ _ => rfl) fun x y G2 h => ?_)
  simp only [methD] at h
  split at h
  · rename_i a b hy
    cases hy
    cases h
    exact ⟨⟨_, rfl⟩, fun v u A2 H2 c2 r1 r2 w2 => ⟨a, b, rep_str r1, by rw [rep_str r2], w2.here c2 (.bl _)⟩⟩
  · cases h
theorem s_startswith {c : Bool} {o e : E} {eo ee : Expr} {apos pos : Pos} (io : PE X eo (tEv S cf o)) (ie : PE X ee (tEv S cf e)) (hb : isCall0 eo = false) (hs : isStarE ee = false) (hl : (apos.endLine == pos.line) = true) :
    PE X (.Call (.Attribute eo "startswith" apos) [ee] [] pos) (tEv S cf (.meth .startswith c o (.cons e .nil))) := by
  refine ⟨fun pins s σ H Q I hh => ?_⟩
  obtain ⟨hθ, A, G, ρ, d, G', cs, l, ev, w⟩ := hh
  refine (pe_m1 F.slot_str_startswith F.type_str_startswith mt_startswith io ie (one_star hs) (baseOk hb _ _ _) hl).run pins s σ H Q I (m1_go (eo := eo) (ee := ee) (apos := apos) (pos := pos) cs l ev w (fun _ _ => rfl) fun x y G2 h => ?_)
  simp only [methD] at h
  split at h
  · rename_i a b hy
    cases hy
    cases h
    exact ⟨⟨_, rfl⟩, fun v u A2 H2 c2 r1 r2 w2 => ⟨a, b, rep_str r1, by rw [rep_str r2], w2.here c2 (.bl _)⟩⟩
  · cases h
/-! dicts: get -/
theorem mk_M1 {o e : Expr} {m : Str} {apos cpos : Pos} (hb : isCall0 o = false) (hs : isStarE e = false) (hl : (apos.endLine == cpos.line) = true) : M1 X o m apos e cpos :=
  ⟨baseOk hb _ _ _, by rw [one_star hs]; rfl, hl, by rw [one_star hs]; rfl⟩
theorem mk_M2 {o e f : Expr} {m : Str} {apos cpos : Pos} (hb : isCall0 o = false) (hs : isStarE e = false) (ht : isStarE f = false) (hl : (apos.endLine == cpos.line) = true) : M2 X o m apos e f cpos :=
  ⟨baseOk hb _ _ _, by rw [starE _ _ _ hs, one_star ht]; rfl, hl, by rw [starE _ _ _ hs, one_star ht]; rfl⟩
theorem dicR_is {a : Addr} {t : Bool} {ks vs : List D} (h : DicR S A H a t ks vs) : IsD H a := by
  cases h with
  | k kvs rd _ _ => exact .inl ⟨kvs, rd⟩
  | t kvs rd _ _ => exact .inr ⟨kvs, rd⟩
theorem dic_is {x : D} {v : V} (h : (dicOf G x).isSome = true) (c : CsOk S A G H) (r : Rep S A H v x) : ∃ a, v = .ref a ∧ IsD H a := by
  cases hd : dicOf G x with
  | none => rw [hd] at h; cases h
  | some p =>
    obtain ⟨t, ks, vs⟩ := p
    obtain ⟨a, e, dr⟩ := dic_rd hd c r
    exact ⟨a, e, dicR_is dr⟩
theorem s_get1 {c : Bool} {o e : E} {eo ee : Expr} {apos pos : Pos} (ok : XOk X S cf) (io : PE X eo (tEv S cf o)) (ie : PE X ee (tEv S cf e)) (hb : isCall0 eo = false) (hs : isStarE ee = false) (hl : (apos.endLine == pos.line) = true) :
    PE X (.Call (.Attribute eo "get" apos) [ee] [] pos) (tEv S cf (.meth .get1 c o (.cons e .nil))) := by
  refine ⟨fun pins s σ H Q I hh => ?_⟩
  obtain ⟨hθ, A, G, ρ, d, G', cs, l, ev, w⟩ := hh
  have ok := ok.hide hθ
  simp only [evE, evL] at ev
  split at ev
  · rename_i x G1 ha
    cases hm : methOk .get1 x G1 with
    | true =>
      rw [hm] at ev
      simp only at ev
      cases hbb : evE cf e ρ G1 with
      | none => rw [hbb] at ev; cases ev
      | some p =>
        obtain ⟨y, G2⟩ := p
        rw [hbb] at ev
        simp only [methD] at ev
        split at ev
        · rename_i t ks vs hd
          split at ev
          · rename_i hk
            cases ev
            refine (pe_dget1 (by have := ok.un; omega) io ie (mk_M1 hb hs hl)).run pins s σ H Q I ⟨hθ, A, G, ρ, x, G1, cs, l, ha, fun v A1 H1 g1 c1 r1 => ?_⟩
            obtain ⟨a, rfl, isd⟩ := dic_is hm c1 r1
            refine ⟨a, rfl, isd, hθ, A1, G1, ρ, y, _, c1, l.mono g1, hbb, fun u A2 H2 g2 c2 r2 => ?_⟩
            obtain ⟨b, e1, dr⟩ := dic_rd hd c2 (r1.mono g2)
            cases e1
            obtain ⟨o', g, h1, h2⟩ := dic_get dr hk r2
            refine ⟨o', g, ?_⟩
            cases hg : dget ks vs y with
            | some z =>
              rw [hg] at w
              obtain ⟨v', rfl, r'⟩ := h1 _ hg
              exact w _ A2 H2 (g1.trans g2) c2 r'
            | none =>
              rw [hg] at w
              rw [h2 hg]
              exact w _ A2 H2 (g1.trans g2) c2 .non
          · cases ev
        · cases ev
    | false => rw [hm] at ev; cases ev
  · cases ev
theorem s_get2 {c : Bool} {o e f : E} {eo ee ef : Expr} {apos pos : Pos} (ok : XOk X S cf) (io : PE X eo (tEv S cf o)) (ie : PE X ee (tEv S cf e)) (jf : PE X ef (tEv S cf f)) (hb : isCall0 eo = false) (hs : isStarE ee = false) (ht : isStarE ef = false) (hl : (apos.endLine == pos.line) = true) :
    PE X (.Call (.Attribute eo "get" apos) [ee, ef] [] pos) (tEv S cf (.meth .get2 c o (.cons e (.cons f .nil)))) := by
  refine ⟨fun pins s σ H Q I hh => ?_⟩
  obtain ⟨hθ, A, G, ρ, d, G', cs, l, ev, w⟩ := hh
  have ok := ok.hide hθ
  simp only [evE, evL] at ev
  split at ev
  · rename_i x G1 ha
    cases hm : methOk .get2 x G1 with
    | true =>
      rw [hm] at ev
      simp only at ev
      cases hbb : evE cf e ρ G1 with
      | none => rw [hbb] at ev; cases ev
      | some p =>
        obtain ⟨y, G2⟩ := p
        rw [hbb] at ev
        simp only at ev
        cases hff : evE cf f ρ G2 with
        | none => rw [hff] at ev; cases ev
        | some p =>
          obtain ⟨z0, G3⟩ := p
          rw [hff] at ev
          simp only [methD] at ev
          split at ev
          · rename_i t ks vs hd
            split at ev
            · rename_i hk
              cases ev
              refine (pe_dget2 (by have := ok.un; omega) io ie jf (mk_M2 hb hs ht hl)).run pins s σ H Q I ⟨hθ, A, G, ρ, x, G1, cs, l, ha, fun v A1 H1 g1 c1 r1 => ?_⟩
              obtain ⟨a, rfl, isd⟩ := dic_is hm c1 r1
              refine ⟨a, rfl, isd, hθ, A1, G1, ρ, y, _, c1, l.mono g1, hbb, fun u A2 H2 g2 c2 r2 => ⟨hθ, A2, G2, ρ, z0, _, c2, (l.mono g1).mono g2, hff, fun zv A3 H3 g3 c3 r3 => ?_⟩⟩
              obtain ⟨b, e1, dr⟩ := dic_rd hd c3 ((r1.mono g2).mono g3)
              cases e1
              obtain ⟨o', g, h1, h2⟩ := dic_get dr hk (r2.mono g3)
              refine ⟨o', g, ?_⟩
              cases hg : dget ks vs y with
              | some z =>
                rw [hg] at w
                obtain ⟨v', rfl, r'⟩ := h1 _ hg
                exact w _ A3 H3 ((g1.trans g2).trans g3) c3 r'
              | none =>
                rw [hg] at w
                rw [h2 hg]
                exact w _ A3 H3 ((g1.trans g2).trans g3) c3 r3
            · cases ev
          · cases ev
    | false => rw [hm] at ev; cases ev
  · cases ev
/-! lists: append -/
theorem few1 {e : Expr} {cpos : Pos} (hs : isStarE e = false) : ((backTo cpos (starEach [e] X.env)).all (fun x => !x.1) && (backToKw cpos (keywordEach [] X.env)).all (fun x => x.1.isSome)
      && decide (([e] : List Expr).length + ([] : List Keyword).length + (if ([] : List Keyword).isEmpty then 0 else 1) < 30)) = true := by
  rw [one_star hs]; rfl
theorem s_append {c : Bool} {o e : E} {eo ee : Expr} {apos pos : Pos} (io : PE X eo (tEv S cf o)) (ie : PE X ee (tEv S cf e)) (hb : isCall0 eo = false) (hs : isStarE ee = false) (hl : (apos.endLine == pos.line) = true) :
    PE X (.Call (.Attribute eo "append" apos) [ee] [] pos) (tEv S cf (.meth .append c o (.cons e .nil))) := by
  refine ⟨fun pins s σ H Q I hh => ?_⟩
  obtain ⟨hθ, A, G, ρ, d, G', cs, l, ev, w⟩ := hh
  simp only [evE, evL] at ev
  split at ev
  · rename_i x G1 ha
    cases hm : methOk .append x G1 with
    | true =>
      rw [hm] at ev
      simp only at ev
      cases hbb : evE cf e ρ G1 with
      | none => rw [hbb] at ev; cases ev
      | some p =>
        obtain ⟨y, G2⟩ := p
        rw [hbb] at ev
        simp only [methD] at ev
        split at ev
        · rename_i n y' hy
          cases hy
          split at ev
          · rename_i xs hg
            split at ev
            · rename_i hz
              cases ev
              refine (pe_bm F.plainAttrs_list F.slot_list_append F.type_list_append mt_append io (s_cons ie s_nil hs) (baseOk hb _ _ _) (few1 hs) hl (starE _ _ _ hs) rfl).run pins s σ H Q I
                ⟨hθ, A, G, ρ, _, G1, cs, l, ha, fun v A1 H1 g1 c1 r1 => ⟨?_, hθ, A1, G1, ρ, [y], G2, c1, l.mono g1, by simp only [evL, hbb], fun us A2 H2 g2 c2 r2 => ?_⟩⟩
              · cases hq : lstOf G1 (.cell n) with
                | none => simp only [methOk, hq] at hm; cases hm
                | some zs =>
                  obtain ⟨a, ws, rfl, rd, _⟩ := lst_rd hq c1 r1
                  exact .inl ⟨rfl, ws, .inl rd⟩
              · obtain ⟨u, rfl, ru⟩ := reps1 r2
                cases r1.mono g2 with
                | cell en =>
                  rename_i a
                  obtain ⟨b, e1, okc, m⟩ := c2.addr hg
                  rw [en] at e1
                  cases e1
                  obtain ⟨vs, hv, q⟩ := okc
                  refine ⟨a, vs, u, rfl, rfl, hv, by rw [q.length]; exact hz, ?_⟩
                  refine w _ A2 _ ((g1.trans g2).trans (Gr.put m)) (c2.put en ⟨_, upd_same, ?_⟩) .non
                  exact (q.mono (Gr.put m)).app (.cons (ru.mono (Gr.put m)) .nil)
            · cases ev
          · cases ev
        · cases ev
    | false => rw [hm] at ev; cases ev
  · cases ev
/-! isinstance -/
def tyNames : List String := ["NoneType", "bool", "int", "str", "list", "tuple", "dict"]
def isiB (u t : String) : Bool := u == t || (u == "bool" && t == "int")
/-- a class that isinstance is asked for -/
def isiT (t : String) : Bool := tyNames.all fun u => decide (kitB u t = some (isiB u t))
theorem tyD_in {x : D} {u : String} (h : tyD x G = some u) : u ∈ tyNames := by
  unfold tyD at h
  split at h
  all_goals first
    | (cases h; decide)
    | (cases h; done)
    | (split at h <;> first | (cases h; decide) | (cases h; done))
theorem tyD_ok {x : D} {u : String} {v : V} (h : tyD x G = some u) (c : CsOk S A G H) (r : Rep S A H v x) (K : PySem.W.Frag) (hK : K = S.K) : TyX K H v (.type u) := by
  subst hK
  cases r with
  | non => cases h; exact .base .non
  | bl b => cases h; exact .base (.bl b)
  | int i => cases h; exact .base (.int i)
  | str s => cases h; exact .base (.str s)
  | lst n rd q =>
    cases h
    rcases rd with rd | ⟨o, rd⟩
    · exact .base (.lst rd)
    · exact .base (.frz rd)
  | tup n rd q => cases h; exact .base (.tup rd)
  | tupW w l q =>
    cases h
    obtain ⟨o, its, n, h1, h2, _⟩ := w
    exact .kTuple h1 h2
  | dK n rd e q =>
    cases h
    rcases rd with rd | ⟨o, rd⟩
    · exact .base (.dK rd)
    · exact .fDict rd
  | dT n rd e q => cases h
  | ins n hp hm e q => cases h
  | wls n r q => cases h
  | wlsW r q => cases h
  | cell e =>
    simp only [tyD] at h
    split at h
    · rename_i xs hg
      cases h
      obtain ⟨b, e1, okc, m⟩ := c.addr hg
      rw [e] at e1; cases e1
      obtain ⟨vs, hv, q⟩ := okc
      exact .base (.lst hv)
    · rename_i ks vs hg
      cases h
      obtain ⟨b, e1, okc, m⟩ := c.addr hg
      rw [e] at e1; cases e1
      obtain ⟨kvs, hv, q⟩ := okc
      exact .base (.dK hv)
    · rename_i ks vs hg
      cases h
      obtain ⟨b, e1, okc, m⟩ := c.addr hg
      rw [e] at e1; cases e1
      obtain ⟨kvs, hv, q⟩ := okc
      exact .base (.dT hv)
    · cases h
theorem s_isi {a : E} {ea : Expr} {t : String} {p p2 pos : Pos} (ok : XOk X S cf) (ia : PE X ea (tEv S cf a)) (hg : Gl X "isinstance") (hm : X.mg "isinstance" = none) (hg2 : Gl X (Str.ofString t)) (hm2 : X.mg (Str.ofString t) = none)
    (ht : isiT t = true) (hv : bootBuiltins (Str.ofString t) = some (.type t)) (hnm : Str.ofString t ≠ "__name__") (hd : (Str.ofString t == ("__debug__" : Str)) = false) (hs : isStarE ea = false) :
    PE X (.Call (.Name "isinstance" p) [ea, .Name (Str.ofString t) p2] [] pos) (tEv S cf (.isi a t)) := by
  refine ⟨fun pins s σ H Q I hh => ?_⟩
  obtain ⟨hθ, A, G, ρ, d, G', cs, l, ev, w⟩ := hh
  have ok := ok.hide hθ
  simp only [evE] at ev
  split at ev
  · rename_i x G1 ha
    split at ev
    · rename_i u hu
      cases ev
      refine (pe_callB call_isi hg hm (by decide +kernel) (pa_cons ia (pa_cons (pe_bltn (v := .ty t) hg2 hm2 hv rfl hnm hd) pa_nil rfl) (starE _ _ _ hs)) (by decide +kernel) (by decide +kernel) (starE _ _ _ hs) rfl).run pins s σ H Q I
        ⟨hθ, A, G, ρ, x, _, cs, l, ha, fun v A1 H1 g1 c1 r1 => ?_⟩
      refine ⟨v, .ty t, .type u, .type t, _, rfl, .ty t, tyD_ok hu c1 r1 _ ok.K, kit_ty ?_, w _ A1 H1 g1 c1 (.bl _)⟩
      have := List.all_eq_true.mp ht u (tyD_in hu)
      exact of_decide_eq_true this
    · cases ev
  · cases ev
end
end Iv

set_option Elab.async false
set_option linter.all false
set_option maxRecDepth 100000
set_option maxHeartbeats 4000000
namespace Iv
open PySem PySem.Spec PyProof.Rows L2
section
variable {X : Cx} {S : Sta} {cf : CF} {A : List Addr} {G G' : List C} {H : Hp} {σ : L2.St} {ρ : En} {pins : List (Addr × Obj)} {s : Shared}
theorem at_end {A : List Addr} {G : List C} (h : A.length = G.length) (p : Addr) : (A ++ [p])[G.length]? = some p := by
  rw [← h, List.getElem?_append_right (Nat.le_refl _)]; simp
theorem s_dK0 {c : Bool} {pos : Pos} : PE X (.Dict [] [] pos) (tEv S cf (.dK0 c)) := by
  refine ⟨fun pins s σ H Q I hh => ?_⟩
  obtain ⟨hθ, A, G, ρ, d, G', cs, l, ev, w⟩ := hh
  refine pe_dnewK.run pins s σ H Q I fun p hp => ?_
  cases c with
  | false =>
    simp [evE] at ev
    obtain ⟨rfl, rfl⟩ := ev
    exact w _ A _ (Gr.new hp) (cs.new hp) (.dK (kvs := []) (cs.fresh hp) (.inl upd_same) rfl .nil)
  | true =>
    simp [evE] at ev
    obtain ⟨rfl, rfl⟩ := ev
    exact w _ _ _ (Gr.newC hp) (cs.newC hp ⟨[], upd_same, rfl, .nil⟩) (.cell (at_end cs.len p))
theorem s_dT0 {c : Bool} {pos : Pos} : PE X (.Dict [] [] pos) (tEv S cf (.dT0 c)) := by
  refine ⟨fun pins s σ H Q I hh => ?_⟩
  obtain ⟨hθ, A, G, ρ, d, G', cs, l, ev, w⟩ := hh
  refine pe_dnewT.run pins s σ H Q I fun p hp => ?_
  cases c with
  | false =>
    simp [evE] at ev
    obtain ⟨rfl, rfl⟩ := ev
    exact w _ A _ (Gr.new hp) (cs.new hp) (.dT (kvs := []) (cs.fresh hp) (.inl upd_same) rfl .nil)
  | true =>
    simp [evE] at ev
    obtain ⟨rfl, rfl⟩ := ev
    exact w _ _ _ (Gr.newC hp) (cs.newC hp ⟨[], upd_same, rfl, .nil⟩) (.cell (at_end cs.len p))
/-! displays of dicts -/
inductive DPs (X : Cx) (S : Sta) (cf : CF) : E → List (Option Expr) → List Expr → Prop
  | nil : DPs X S cf .nil [] []
  | cons {k v t : E} {ek ev : Expr} {ks : List (Option Expr)} {vs : List Expr} : PE X ek (tEv S cf k) → PE X ev (tEv S cf v) → DPs X S cf t ks vs → DPs X S cf (.cons k (.cons v t)) (some ek :: ks) (ev :: vs)
def flatP : List (V × V) → List V
  | [] => []
  | p :: r => p.1 :: p.2 :: flatP r
theorem DPs.go {pos : Pos} : ∀ {es : E} {ks : List (Option Expr)} {vs : List Expr}, DPs X S cf es ks vs → ks.all (·.isSome) = true ∧ ks.length = vs.length ∧ ∃ trs, PPs X pos ks vs trs ∧
    ∀ hθ A G ρ ds G' σ H Q, CsOk (S.hide hθ) A G H → SlOk (S.hide hθ) A H ρ σ → evL cf es ρ G = some (ds, G') → (∀ ps A' H', Gr A H A' H' → CsOk (S.hide hθ) A' G' H' → RepAll (S.hide hθ) A' H' (flatP ps) ds → Q ps H') → tPairs trs σ H Q
  | _, _, _, .nil => ⟨rfl, rfl, [], pps_nil, fun hθ A G ρ ds G' σ H Q cs l ev w => by
      simp only [evL, Option.some.injEq, Prod.mk.injEq] at ev
      obtain ⟨rfl, rfl⟩ := ev
      exact w [] A H Gr.refl cs .nil⟩
  | _, _, _, .cons (k := k) (v := v) (t := t) hk hv ht => by
    obtain ⟨h1, h2, trs, h3, h4⟩ := ht.go (pos := pos)
    refine ⟨by simp [h1], by simp [h2], (tEv S cf k, tEv S cf v) :: trs, pps_cons hk hv h3, fun hθ A G ρ ds G' σ H Q cs l ev w => ?_⟩
    simp only [evL] at ev
    split at ev
    · rename_i x G1 ha
      cases hb : evE cf v ρ G1 with
      | none => rw [hb] at ev; cases ev
      | some p =>
        obtain ⟨y, G2⟩ := p
        rw [hb] at ev
        simp only at ev
        cases hc : evL cf t ρ G2 with
        | none => rw [hc] at ev; cases ev
        | some p =>
          obtain ⟨zs, G3⟩ := p
          rw [hc] at ev
          cases ev
          refine ⟨hθ, A, G, ρ, x, G1, cs, l, ha, fun vx A1 H1 g1 c1 r1 => ⟨hθ, A1, G1, ρ, y, G2, c1, l.mono g1, hb, fun vy A2 H2 g2 c2 r2 => ?_⟩⟩
          refine h4 hθ A2 G2 ρ zs _ σ H2 _ c2 ((l.mono g1).mono g2) hc fun ps A3 H3 g3 c3 r3 => ?_
          exact w _ A3 H3 ((g1.trans g2).trans g3) c3 (.cons ((r1.mono g2).mono g3) (.cons (r2.mono g3) r3))
    · cases ev
theorem alt_rep : ∀ {xs : List D} {ps : List (D × D)} {vs : List (V × V)}, altOf xs = some ps → RepAll S A H (flatP vs) xs →
    ∃ kvs : List (Key × V), vs = kvs.map (fun kv => (kV kv.1, kv.2)) ∧ kvs.length = ps.length ∧ ps.map (·.1) = kvs.map (fun p => kD p.1) ∧ RepAll S A H (kvs.map (·.2)) (ps.map (·.2))
  | [], ps, [], h, _ => by simp [altOf] at h; subst h; exact ⟨[], rfl, rfl, rfl, .nil⟩
  | [], ps, _ :: _, h, r => by cases r
  | [_], ps, _, h, _ => by simp [altOf] at h
  | a :: b :: xs, ps, [], h, r => by cases r
  | a :: b :: xs, ps, p :: vs, h, r => by
    simp only [altOf] at h
    split at h
    · rename_i hk
      cases hr : altOf xs with
      | none => rw [hr] at h; cases h
      | some qs =>
        rw [hr] at h
        cases h
        cases r with
        | cons r1 r =>
          cases r with
          | cons r2 t =>
            obtain ⟨kvs, e1, e2, e3, q⟩ := alt_rep hr t
            obtain ⟨k, e4, e5⟩ := key_K hk r1
            refine ⟨(k, p.2) :: kvs, ?_, by simp [e2], ?_, .cons r2 q⟩
            · rw [e1, List.map_cons]
              congr 1
              exact Prod.ext e5 rfl
            · rw [List.map_cons, List.map_cons, e3, e4]
    · cases h
theorem s_dic {c : Bool} {es : E} {ks : List (Option Expr)} {vs : List Expr} {pos : Pos} (h : DPs X S cf es ks vs) (h0 : ks ≠ []) (h15 : ks.length ≤ 15) : PE X (.Dict ks vs pos) (tEv S cf (.dic c es)) := by
  refine ⟨fun pins s σ H Q I hh => ?_⟩
  obtain ⟨hθ, A, G, ρ, d, G', cs, l, ev, w⟩ := hh
  obtain ⟨h1, h2, trs, h3, h4⟩ := h.go (pos := pos)
  simp only [evE] at ev
  split at ev
  · rename_i xs G1 ha
    split at ev
    · rename_i ps hps
      split at ev
      · rename_i hg
        split at ev
        · rename_i hz
          cases ev
          refine (pe_disp h3 h1 h2 h0 h15).run pins s σ H Q I fun p hp => ?_
          have g0 : Gr A H (A ++ [p]) (upd H p (.dK [])) := Gr.newC hp
          have c0 : CsOk (S.hide hθ) (A ++ [p]) (G ++ [.dK [] []]) (upd H p (.dK [])) := cs.newC hp ⟨[], upd_same, rfl, .nil⟩
          refine h4 hθ _ _ ρ xs G1 σ _ _ c0 (l.mono g0) ha fun qs A2 H2 g2 c2 r2 => ?_
          have ep : A2[G.length]? = some p := g2.get (at_end cs.len p)
          obtain ⟨b, e1, okc, m⟩ := c2.addr hg
          rw [ep] at e1
          cases e1
          obtain ⟨kvs0, hv, e2, q0⟩ := okc
          have : kvs0 = [] := by
            cases kvs0 with
            | nil => rfl
            | cons a r => simp at e2
          subst this
          refine ⟨hv, ?_⟩
          obtain ⟨kvs, e3, e4, e5, q⟩ := alt_rep hps r2
          refine ⟨kvs, e3, by rw [e4]; exact hz, ?_⟩
          obtain ⟨m1, m2⟩ := merge_D (kvs := []) (ks := []) (vs := []) rfl .nil e5 q
          refine w _ A2 _ ((g0.trans g2).trans (Gr.put m)) (c2.put ep ⟨_, upd_same, m1, m2.mono (Gr.put m)⟩) (.cell ep)
        · cases ev
      · cases ev
    · cases ev
  · cases ev
/-! a new object of an own class -/
theorem s_new {cn : Str} {es : E} {e : Expr} {ees : List Expr} {p pos : Pos} (ok : XOk X S cf) (hg : Gl X cn) (ih : PA X (e :: ees) (tLv S cf es)) (hn : noStar (e :: ees) = true) (hd : (cn == ("__debug__" : Str)) = false) :
    PE X (.Call (.Name cn p) (e :: ees) [] pos) (tEv S cf (.new cn es)) := by
  refine ⟨fun pins s σ H Q I hh => ?_⟩
  obtain ⟨hθ, A, G, ρ, d, G', cs, l, ev, w⟩ := hh
  have ok := ok.hide hθ
  simp only [evE] at ev
  split at ev
  · rename_i xs G1 ha
    split at ev
    · rename_i G2 hc
      cases ev
      obtain ⟨k, ca, a, fd, ps, sp, M, F, hr, hm, hcl, hb, hs⟩ := ok.mks _ _ _ _ _ hc
      refine (pe_make M F hr hg hm hb .nil pass0 ih hd (starHead hn) (backNo _ _ _ (noStar_tail hn))).run pins s σ H Q I ⟨hθ, A, G, ρ, xs, G1, cs, l, ha, fun vs A1 H1 g1 c1 r1 => ?_⟩
      intro x dx hx hdx hne
      have gd : Gr A1 H1 A1 (upd H1 dx (.own x)) := Gr.new hdx
      have cd := c1.new (o := .own x) hdx
      have hx2 : upd H1 dx (.own x) x = none := by rw [upd_ne (Ne.symm hne)]; exact hx
      have g2 := gd.trans (Gr.newC (A := A1) (o := .ins ca dx []) hx2)
      rw [List.append_nil]
      refine hs hθ (A1 ++ [x]) _ _ _ (cd.newC hx2 ⟨ca, dx, [], upd_same, ⟨hcl, by rw [← ok.mg]; exact hm⟩, rfl, .nil⟩) (.cons (.cell (at_end c1.len x)) (r1.mono g2)) fun v A3 H3 g3 c3 r3 => ?_
      cases r3
      exact ⟨rfl, w _ A3 H3 ((g1.trans g2).trans g3) c3 (.cell (g3.get (at_end c1.len x)))⟩
    · cases ev
  · cases ev
end
end Iv

set_option Elab.async false
set_option linter.all false
set_option maxRecDepth 100000
set_option maxHeartbeats 4000000
namespace Iv
open PySem PySem.Spec PyProof.Rows L2
mutual
theorem Rep.hide {S : Sta} {A : List Addr} {H : Hp} {h' : List Addr} (hh : ∀ b ∈ h', b ∈ S.hid ∨ H b = none) : ∀ {v : V} {d : D}, Rep S A H v d → Rep (S.hide h') A H v d
  | _, _, .non => .non
  | _, _, .bl b => .bl b
  | _, _, .int i => .int i
  | _, _, .str x => .str x
  | _, _, .lst n r q => .lst ⟨n.1, fun m => (hh _ m).elim n.2 (rd_ne r)⟩ r (RepAll.hide hh q)
  | _, _, .tup n r q => .tup ⟨n.1, fun m => (hh _ m).elim n.2 (by rw [r]; simp)⟩ r (RepAll.hide hh q)
  | _, _, .tupW r l q => .tupW r l (RepAll.hide hh q)
  | _, _, .dK n r e q => .dK ⟨n.1, fun m => (hh _ m).elim n.2 (rd_ne r)⟩ r e (RepAll.hide hh q)
  | _, _, .dT n r e q => .dT ⟨n.1, fun m => (hh _ m).elim n.2 (rd_ne r)⟩ r e (RepAll.hide hh q)
  | _, _, .ins n r m e q => .ins ⟨n.1, fun z => (hh _ z).elim n.2 (by rw [r]; simp)⟩ r m e (RepAll.hide hh q)
  | _, _, .cell e => .cell e
  | _, _, .wls n r q => .wls ⟨n.1, fun m => (hh _ m).elim n.2 (rd_ne r)⟩ r (RepAll.hide hh q)
  | _, _, .wlsW r q => .wlsW r (RepAll.hide hh q)
theorem RepAll.hide {S : Sta} {A : List Addr} {H : Hp} {h' : List Addr} (hh : ∀ b ∈ h', b ∈ S.hid ∨ H b = none) : ∀ {vs : List V} {ds : List D}, RepAll S A H vs ds → RepAll (S.hide h') A H vs ds
  | _, _, .nil => .nil
  | _, _, .cons h t => .cons (Rep.hide hh h) (RepAll.hide hh t)
end
/-- growth, as far as it is seen -/
structure Gh (S : Sta) (A : List Addr) (H : Hp) (A' : List Addr) (H' : Hp) : Prop where
  pre : ∃ B, A' = A ++ B ∧ ∀ b ∈ B, H b = none
  keep : ∀ b, H b ≠ none → Out S A b → H' b = H b
  tr : ∀ b, H b ≠ none → H' b ≠ none
theorem Gr.gh {S : Sta} {A A' : List Addr} {H H' : Hp} (g : Gr A H A' H') : Gh S A H A' H' := ⟨g.pre, fun b h n => g.keep b h n.1, g.tr⟩
theorem Gh.gs {S : Sta} {A A' : List Addr} {H H' : Hp} (g : Gh S A H A' H') : Gs S A H A' H' := ⟨g.pre, fun b h n => .inl (g.keep b h n).symm⟩
theorem Gh.trans {S : Sta} {A A' A'' : List Addr} {H H' H'' : Hp} (g : Gh S A H A' H') (k : Gh S A' H' A'' H'') : Gh S A H A'' H'' := by
  obtain ⟨B, e, f⟩ := g.pre
  obtain ⟨B', e', f'⟩ := k.pre
  refine ⟨⟨B ++ B', by rw [e', e, List.append_assoc], fun b hb => ?_⟩, fun b hb nb => ?_, fun b hb => k.tr b (g.tr b hb)⟩
  · rcases List.mem_append.mp hb with z | z
    · exact f b z
    · have i := f' b z
      cases q : H b with
      | none => rfl
      | some o => exact absurd i (g.tr b (by rw [q]; simp))
  · rw [k.keep b (g.tr b hb) ⟨g.gs.out hb nb.1, nb.2⟩, g.keep b hb nb]
theorem Gh.upd {S : Sta} {A A' : List Addr} {H H' : Hp} {D : Addr} {o : HO} (g : Gh S A H A' H') (hD : D ∈ S.hid) : Gh S A H A' (upd H' D o) :=
  ⟨g.pre, fun b hb nb => by rw [upd_ne (fun e => nb.2 (by rw [e]; exact hD))]; exact g.keep b hb nb, fun b hb => by
    by_cases e : b = D
    · subst e; rw [upd_same]; simp
    · rw [upd_ne e]; exact g.tr b hb⟩
/-- a walk yields the items -/
def Wk (S : Sta) (J : It) (its : List D) (A1 : List Addr) (H1 : Hp) : Prop :=
  ∀ h' A2 H2, (∀ b ∈ h', b ∈ S.hid ∨ H1 b = none) → Gh (S.hide h') A1 H1 A2 H2 → ∀ i : Nat, (its.length ≤ i → i ≤ its.length → J.stop i H2) ∧
    (∀ d, its[i]? = some d → J.go i H2 ∧ ∀ x H3, J.yld i H2 x H3 → Gr A2 H2 A2 H3 ∧ ∀ G2, CsOk (S.hide h') A2 G2 H2 → CsOk (S.hide h') A2 G2 H3 ∧ Rep (S.hide h') A2 H3 x d)
section
variable {X : Cx} {S : Sta} {cf : CF} {A A1 : List Addr} {G G' : List C} {H H1 : Hp} {σ : L2.St} {ρ : En} {pins : List (Addr × Obj)} {s : Shared}
theorem wk_list {a : Addr} {its : List D} (r : Rep S A1 H1 (.ref a) (.lst its)) : Wk S (Itl S.K a) its A1 H1 := by
  intro h' A2 H2 hh g i
  have r2 := (r.hide hh).monoS g.gs
  cases r2 with
  | @lst _ vs _ n rd q =>
    refine ⟨fun hi hi' => ⟨vs, .inl rd, by rw [q.length]; exact hi⟩, fun d hd => ?_⟩
    obtain ⟨v, e, rv⟩ := q.get hd
    refine ⟨⟨vs, v, .inl rd, e⟩, fun x H3 ⟨e3, f⟩ => ?_⟩
    subst e3
    have := f vs (.inl rd)
    rw [e] at this
    cases this
    exact ⟨Gr.refl, fun G2 c => ⟨c, rv⟩⟩
theorem wk_wls {a : Addr} {its : List D} (r : Rep S A1 H1 (.ref a) (.wls its)) : Wk S (Itl S.K a) its A1 H1 := by
  intro h' A2 H2 hh g i
  obtain ⟨a', vs, ea, sq, q⟩ := wls_sq ((r.hide hh).monoS g.gs)
  cases ea
  have sq : SqL S.K H2 a vs := sq
  refine ⟨fun hi hi' => ⟨vs, sq, by rw [q.length]; exact hi⟩, fun d hd => ?_⟩
  obtain ⟨v, e, rv⟩ := q.get hd
  refine ⟨⟨vs, v, sq, e⟩, fun x H3 ⟨e3, f⟩ => ?_⟩
  subst e3
  have := f vs sq
  rw [e] at this
  cases this
  exact ⟨Gr.refl, fun G2 c => ⟨c, rv⟩⟩
theorem wk_tup {a : Addr} {its : List D} (r : Rep S A1 H1 (.ref a) (.tup its)) : Wk S (Itt S.K a) its A1 H1 := by
  intro h' A2 H2 hh g i
  obtain ⟨a', vs, ea, sq, q⟩ := tup_sq ((r.hide hh).monoS g.gs)
  cases ea
  have sq : SqT S.K H2 a vs := sq
  refine ⟨fun hi hi' => ⟨vs, sq, by rw [q.length]; exact hi⟩, fun d hd => ?_⟩
  obtain ⟨v, e, rv⟩ := q.get hd
  refine ⟨⟨vs, v, sq, e⟩, fun x H3 ⟨e3, f⟩ => ?_⟩
  subst e3
  have := f vs sq
  rw [e] at this
  cases this
  exact ⟨Gr.refl, fun G2 c => ⟨c, rv⟩⟩
theorem wk_str {z : Str} : Wk S (Its z) (z.cps.toList.map fun c => .str (sgn c)) A1 H1 := by
  intro h' A2 H2 hh g i
  refine ⟨fun hi hi' => (by show z.cps.size ≤ i; simpa using hi), fun d hd => ?_⟩
  rw [List.getElem?_map] at hd
  cases hc : z.cps.toList[i]? with
  | none => rw [hc] at hd; cases hd
  | some c =>
    rw [hc] at hd
    cases hd
    have hc2 : z.cps[i]? = some c := by rw [← Array.getElem?_toList]; exact hc
    refine ⟨(Array.getElem?_eq_some_iff.mp hc2).1, fun x H3 ⟨e3, c', e4, e5⟩ => ?_⟩
    subst e3 e5
    rw [hc2] at e4
    cases e4
    exact ⟨Gr.refl, fun G2 c => ⟨c, .str _⟩⟩
theorem wk_keys {a : Addr} {od : Obj} {kvs : List (Key × V)} (h : H1 a = some (.frz od (.dK kvs))) (n : Out S A1 a) : Wk S (Itk a od kvs) (kvs.map fun p => kD p.1) A1 H1 := by
  intro h' A2 H2 hh g i
  have h2 : H2 a = some (.frz od (.dK kvs)) := by rw [g.keep a (by rw [h]; simp) ⟨n.1, fun m => (hh a m).elim n.2 (by rw [h]; simp)⟩]; exact h
  refine ⟨fun hi hi' => ⟨h2, by simpa using hi⟩, fun d hd => ?_⟩
  rw [List.getElem?_map] at hd
  cases hc : kvs[i]? with
  | none => rw [hc] at hd; cases hd
  | some p =>
    rw [hc] at hd
    cases hd
    refine ⟨⟨h2, (List.getElem?_eq_some_iff.mp hc).1⟩, fun x H3 ⟨e3, k, v, e4, e5⟩ => ?_⟩
    subst e3 e5
    rw [hc] at e4
    cases e4
    refine ⟨Gr.refl, fun G2 c => ⟨c, ?_⟩⟩
    cases k with
    | inl i => exact .int i
    | inr i => exact .str i
theorem wk_keysT {a : Addr} {od : Obj} {kvs : List (List Key × V)} (h : H1 a = some (.frz od (.dT kvs))) (n : Out S A1 a) : Wk S (Itkt a od kvs) (kvs.map fun p => Iv.tD p.1) A1 H1 := by
  intro h' A2 H2 hh g i
  have h2 : H2 a = some (.frz od (.dT kvs)) := by rw [g.keep a (by rw [h]; simp) ⟨n.1, fun m => (hh a m).elim n.2 (by rw [h]; simp)⟩]; exact h
  refine ⟨fun hi hi' => ⟨h2, by simpa using hi⟩, fun d hd => ?_⟩
  rw [List.getElem?_map] at hd
  cases hc : kvs[i]? with
  | none => rw [hc] at hd; cases hd
  | some p =>
    rw [hc] at hd
    cases hd
    refine ⟨⟨h2, (List.getElem?_eq_some_iff.mp hc).1⟩, fun x H3 ⟨e3, k, v, q, e4, e5, e6⟩ => ?_⟩
    subst e3 e5
    rw [hc] at e4
    cases e4
    refine ⟨Gr.refl, fun G2 c => ⟨c, .tup (tup_out c e6) e6 ?_⟩⟩
    refine RepAll.of_map k fun x _ => ?_
    cases x with
    | inl i => exact .int i
    | inr i => exact .str i
theorem wk_range {lo : Int} {n : Nat} : Wk S (Itr lo n) ((List.range n).map fun (i : Nat) => .int (lo + i)) A1 H1 := by
  intro h' A2 H2 hh g i
  refine ⟨fun hi hi' => (by show n ≤ i; simpa using hi), fun d hd => ?_⟩
  rw [List.getElem?_map] at hd
  by_cases hi : i < n
  · rw [List.getElem?_range hi] at hd
    cases hd
    refine ⟨hi, fun x H3 ⟨e3, e4⟩ => ?_⟩
    subst e3 e4
    exact ⟨Gr.refl, fun G2 c => ⟨c, .int _⟩⟩
  · rw [List.getElem?_eq_none (by simpa using hi)] at hd
    cases hd
/-- what was walked, as it stands or locked -/
def Lkd (X : Cx) (S : Sta) (A : List Addr) (H : Hp) (A1 : List Addr) (H1 : Hp) : Prop :=
  Gr A H A1 H1 ∨ ∃ d u od H0, DD u ∧ Out S A1 d ∧ H0 d = some u ∧ H1 = upd H0 d (.frz od u) ∧ Gr A H A1 H0 ∧ ∀ o' u', X.H_0 d ≠ some (.frz o' u')
def evI (cf : CF) (k : IK) (a b : E) (ρ : En) (G : List C) : Option (List D × List C) := match evE cf a ρ G with
  | some (x, G1) => match evE cf b ρ G1 with
    | some (y, G2) => match itemsOf k x y G2 with
      | some its => some (its, G2)
      | none => none
    | none => none
  | none => none
def iTv (X : Cx) (S : Sta) (cf : CF) (k : IK) (a b : E) : TI := fun σ H R => ∃ hθ A G ρ its G', CsOk (S.hide hθ) A G H ∧ SlOk (S.hide hθ) A H ρ σ ∧ evI cf k a b ρ G = some (its, G') ∧
  ∀ J A1 H1, CsOk (S.hide hθ) A1 G' H1 → Wk (S.hide hθ) J its A1 H1 → Lkd X (S.hide hθ) A H A1 H1 → R J H1
theorem PI.mono {tg e : Expr} {w w' : TI} (h : PI X tg e w) (m : ∀ σ H R, w' σ H R → w σ H R) : PI X tg e w' := ⟨fun pins s σ H R I hw => h.run pins s σ H R I (m σ H R hw)⟩
theorem PI.or {tg e : Expr} {w w' : TI} (h : PI X tg e w) (h' : PI X tg e w') : PI X tg e (fun σ H R => w σ H R ∨ w' σ H R) := ⟨fun pins s σ H R I hw => hw.elim (h.run pins s σ H R I) (h'.run pins s σ H R I)⟩
/-- a dict, locked while it is walked -/
def iKeysL (X : Cx) (td : TE) : TI := fun σ H R => td σ H fun x H1 => ∃ d, x = .ref d ∧ ((∃ o kvs, H1 d = some (.frz o (.dK kvs)) ∧ R (Itk d o kvs) H1) ∨ (∃ o kvs, H1 d = some (.frz o (.dT kvs)) ∧ R (Itkt d o kvs) H1) ∨
  (∃ kvs, H1 d = some (.dK kvs) ∧ ∀ od, (∀ o' u', X.H_0 d ≠ some (.frz o' u')) → R (Itk d od kvs) (upd H1 d (.frz od (.dK kvs)))) ∨
  ∃ kvs, H1 d = some (.dT kvs) ∧ ∀ od, (∀ o' u', X.H_0 d ≠ some (.frz o' u')) → R (Itkt d od kvs) (upd H1 d (.frz od (.dT kvs))))
theorem pi_keysL {tg e : Expr} {td : TE} (he : PE X e td) : PI X tg e (iKeysL X td) := by
  refine ⟨fun pins s σ H R I h => ?_⟩
  refine thn (he.run pins s σ H _ I h) fun u s1 ⟨x, H1, I1, rx, d, ex, q⟩ => ?_
  subst ex
  obtain rfl : u = Value.ref d := rx
  have goK : ∀ {H2 : Hp} {o : Obj} {kvs : List (Key × V)}, Inv X pins σ H2 s1 → H2 d = some (.frz o (.dK kvs)) → R (Itk d o kvs) H2 → wpAny (model X.prog X.w) X.A (pyIter (.ref d)) (PIE X pins σ tg R) X.xe s1 := by
    intro H2 o kvs I2 hd q
    obtain ⟨hs, hgd, hx, es, ep, vs, hdt, hsz, kv, hm⟩ := I2.frzK hd
    refine iter_keys hs hgd hx hdt (pi_one (tk := s1.toks) I2 _ (turn_keys _ hdt) ⟨_, Heap.get?_push_size _ rfl, rfl, ?_⟩ q)
    rw [hsz] <;> rfl
  have goT : ∀ {H2 : Hp} {o : Obj} {kvs : List (List Key × V)}, Inv X pins σ H2 s1 → H2 d = some (.frz o (.dT kvs)) → R (Itkt d o kvs) H2 → wpAny (model X.prog X.w) X.A (pyIter (.ref d)) (PIE X pins σ tg R) X.xe s1 := by
    intro H2 o kvs I2 hd q
    obtain ⟨hs, hgd, hx, es, ep, hdt, hsz, ent⟩ := I2.frzT hd
    refine iter_keys hs hgd hx hdt (pi_one (tk := s1.toks) I2 _ (turn_keysT _ hdt) ⟨_, Heap.get?_push_size _ rfl, rfl, ?_⟩ q)
    rw [hsz] <;> rfl
  rcases q with ⟨o, kvs, hd, q⟩ | ⟨o, kvs, hd, q⟩ | ⟨kvs, hd, q⟩ | ⟨kvs, hd, q⟩
  · exact goK I1 hd q
  · exact goT I1 hd q
  · obtain ⟨od, I2⟩ := I1.lock hd trivial
    exact goK I2 upd_same (q od (I1.nofrz hd trivial))
  · obtain ⟨od, I2⟩ := I1.lock hd trivial
    exact goT I2 upd_same (q od (I1.nofrz hd trivial))
theorem evI_some {k : IK} {a b : E} {its : List D} (h : evI cf k a b ρ G = some (its, G')) : ∃ x G1 y, evE cf a ρ G = some (x, G1) ∧ evE cf b ρ G1 = some (y, G') ∧ itemsOf k x y G' = some its := by
  unfold evI at h
  split at h
  · rename_i x G1 ha
    split at h
    · rename_i y G2 hb
      split at h
      · rename_i its' hi
        cases h
        exact ⟨x, G1, y, ha, hb, hi⟩
      · cases h
    · cases h
  · cases h
/-- for x in e -/
theorem i_plain {a : E} {tg e : Expr} (ok : XOk X S cf) (he : PE X e (tEv S cf a)) : PI X tg e (iTv X S cf .plain a .nil) := by
  refine PI.mono (PI.or (PI.or (pi_list he) (pi_tup he)) (PI.or (pi_str he) (pi_keysL he))) fun σ H R hw => ?_
  obtain ⟨hθ, A, G, ρ, its, G', cs, l, ev, w⟩ := hw
  obtain ⟨x, G1, y, ha, hb, hi⟩ := evI_some ev
  simp only [evE, Option.some.injEq, Prod.mk.injEq] at hb
  obtain ⟨rfl, rfl⟩ := hb
  have eK : X.K = (S.hide hθ).K := ok.K
  cases x with
  | lst xs =>
    simp [itemsOf] at hi; subst hi
    refine .inl (.inl ⟨hθ, A, G, ρ, _, _, cs, l, ha, fun v A1 H1 g1 c1 r1 => ?_⟩)
    have r := r1
    cases r1 with
    | @lst a vs _ n rd q =>
      refine ⟨a, rfl, ⟨vs, .inl rd⟩, ?_⟩
      rw [eK]
      exact w _ A1 H1 c1 (wk_list r) (.inl g1)
  | wls xs =>
    simp [itemsOf] at hi; subst hi
    refine .inl (.inl ⟨hθ, A, G, ρ, _, _, cs, l, ha, fun v A1 H1 g1 c1 r1 => ?_⟩)
    obtain ⟨a, vs, rfl, sq, q⟩ := wls_sq r1
    refine ⟨a, rfl, ⟨vs, by rw [eK]; exact sq⟩, ?_⟩
    rw [eK]
    exact w _ A1 H1 c1 (wk_wls r1) (.inl g1)
  | tup xs =>
    simp [itemsOf] at hi; subst hi
    refine .inl (.inr ⟨hθ, A, G, ρ, _, _, cs, l, ha, fun v A1 H1 g1 c1 r1 => ?_⟩)
    obtain ⟨a, vs, rfl, sq, q⟩ := tup_sq r1
    refine ⟨a, rfl, ⟨vs, by rw [eK]; exact sq⟩, ?_⟩
    rw [eK]
    exact w _ A1 H1 c1 (wk_tup r1) (.inl g1)
  | str z =>
    simp [itemsOf] at hi; subst hi
    refine .inr (.inl ⟨hθ, A, G, ρ, _, _, cs, l, ha, fun v A1 H1 g1 c1 r1 => ⟨z, rep_str r1, w _ A1 H1 c1 wk_str (.inl g1)⟩⟩)
  | dic t ks vs =>
    simp [itemsOf] at hi; subst hi
    refine .inr (.inr ⟨hθ, A, G, ρ, _, _, cs, l, ha, fun v A1 H1 g1 c1 r1 => ?_⟩)
    cases r1 with
    | @dK a kvs _ _ n rd e q =>
      subst e
      refine ⟨a, rfl, ?_⟩
      rcases rd with rd | ⟨o, rd⟩
      · refine .inr (.inr (.inl ⟨kvs, rd, fun od hn => ?_⟩))
        exact w _ A1 _ (c1.lock n (u := .dK kvs) trivial (.inl rd) (.inr ⟨od, rfl⟩)) (wk_keys upd_same n) (.inr ⟨a, .dK kvs, od, H1, trivial, n, rd, rfl, g1, hn⟩)
      · exact .inl ⟨o, kvs, rd, w _ A1 H1 c1 (wk_keys rd n) (.inl g1)⟩
    | @dT a kvs _ _ n rd e q =>
      subst e
      refine ⟨a, rfl, ?_⟩
      rcases rd with rd | ⟨o, rd⟩
      · refine .inr (.inr (.inr ⟨kvs, rd, fun od hn => ?_⟩))
        exact w _ A1 _ (c1.lock n (u := .dT kvs) trivial (.inl rd) (.inr ⟨od, rfl⟩)) (wk_keysT upd_same n) (.inr ⟨a, .dT kvs, od, H1, trivial, n, rd, rfl, g1, hn⟩)
      · exact .inr (.inl ⟨o, kvs, rd, w _ A1 H1 c1 (wk_keysT rd n) (.inl g1)⟩)
  | _ => simp [itemsOf] at hi
theorem i_range1 {a : E} {tg e : Expr} {p pos : Pos} (ok : XOk X S cf) (hg : Gl X "range") (hm : X.mg "range" = none) (he : PE X e (tEv S cf a)) (hs : isStarE e = false) : PI X tg (.Call (.Name "range" p) [e] [] pos) (iTv X S cf .range1 a .nil) := by
  refine PI.mono (pi_range1 hg hm (s_cons he s_nil hs) (one_star hs)) fun σ H R hw => ?_
  obtain ⟨hθ, A, G, ρ, its, G', cs, l, ev, w⟩ := hw
  obtain ⟨x, G1, y, ha, hb, hi⟩ := evI_some ev
  simp only [evE, Option.some.injEq, Prod.mk.injEq] at hb
  obtain ⟨rfl, rfl⟩ := hb
  simp only [itemsOf] at hi
  split at hi
  · rename_i n
    split at hi
    · rename_i hn
      cases hi
      refine ⟨hθ, A, G, ρ, [.int n], G1, cs, l, by simp only [evL, ha], fun vs A1 H1 g1 c1 r1 => ?_⟩
      obtain ⟨v, rfl, r⟩ := reps1 r1
      refine ⟨n, by rw [rep_int r], by omega, by omega, w _ A1 H1 c1 ?_ (.inl g1)⟩
      have := wk_range (S := S.hide hθ) (A1 := A1) (H1 := H1) (lo := 0) (n := n.toNat)
      simpa using this
    · cases hi
  · cases hi
theorem i_range2 {a b : E} {tg e f : Expr} {p pos : Pos} (ok : XOk X S cf) (hg : Gl X "range") (hm : X.mg "range" = none) (he : PE X e (tEv S cf a)) (hf : PE X f (tEv S cf b)) (hs : isStarE e = false) (ht : isStarE f = false) : PI X tg (.Call (.Name "range" p) [e, f] [] pos) (iTv X S cf .range2 a b) := by
  refine PI.mono (pi_range2 hg hm (s_cons he (s_cons hf s_nil ht) hs) (by rw [starE _ _ _ hs, one_star ht]) (one_star ht)) fun σ H R hw => ?_
  obtain ⟨hθ, A, G, ρ, its, G', cs, l, ev, w⟩ := hw
  obtain ⟨x, G1, y, ha, hb, hi⟩ := evI_some ev
  simp only [itemsOf] at hi
  split at hi
  · rename_i m n
    split at hi
    · rename_i hn
      cases hi
      refine ⟨hθ, A, G, ρ, [.int m, .int n], G', cs, l, by simp only [evL, ha, hb], fun vs A1 H1 g1 c1 r1 => ?_⟩
      obtain ⟨v, u, rfl, r, r'⟩ := reps2 r1
      exact ⟨m, n, by rw [rep_int r, rep_int r'], ⟨by omega, by omega, by omega, by omega⟩, w _ A1 H1 c1 wk_range (.inl g1)⟩
    · cases hi
  · cases hi
theorem wk_enum {a : Addr} {its : List D} (r : Rep S A1 H1 (.ref a) (.lst its)) : Wk S (Ite S.K a) (List.zipWith (fun (i : Nat) d => .tup [.int i, d]) (List.range its.length) its) A1 H1 := by
  intro h' A2 H2 hh g i
  have r2 := (r.hide hh).monoS g.gs
  cases r2 with
  | @lst _ vs _ n rd q =>
    refine ⟨fun hi hi' => ⟨vs, .inl rd, by rw [q.length]; simpa using hi⟩, fun d hd => ?_⟩
    rw [List.getElem?_zipWith] at hd
    cases hc : its[i]? with
    | none => rw [hc] at hd; simp at hd
    | some d0 =>
      have hl := (List.getElem?_eq_some_iff.mp hc).1
      rw [hc, List.getElem?_range hl] at hd
      simp at hd
      subst hd
      obtain ⟨v, e, rv⟩ := q.get hc
      refine ⟨⟨vs, v, .inl rd, e⟩, fun x H3 ⟨T, y, e1, e2, e3, f⟩ => ?_⟩
      subst e1 e3
      have := f vs (.inl rd)
      rw [e] at this
      cases this
      exact ⟨Gr.new e2, fun G2 c => ⟨c.new e2, .tup (c.fresh e2) upd_same (.cons (.int _) (.cons (rv.mono (Gr.new e2)) .nil))⟩⟩
theorem zip_get {ds es : List D} {i : Nat} {d : D} (h : (List.zipWith (fun a b => D.tup [a, b]) ds es)[i]? = some d) : ∃ a b, ds[i]? = some a ∧ es[i]? = some b ∧ d = .tup [a, b] := by
  rw [List.getElem?_zipWith] at h
  cases h1 : ds[i]? with
  | none => rw [h1] at h; simp at h
  | some a =>
    cases h2 : es[i]? with
    | none => rw [h1, h2] at h; simp at h
    | some b =>
      rw [h1, h2] at h
      simp at h
      exact ⟨a, b, rfl, rfl, h.symm⟩
theorem wk_zip {a b : Addr} {ds es : List D} (r : Rep S A1 H1 (.ref a) (.lst ds)) (r' : Rep S A1 H1 (.ref b) (.lst es)) : Wk S (Itz S.K a b) (List.zipWith (fun a b => .tup [a, b]) ds es) A1 H1 := by
  intro h' A2 H2 hh g i
  have r2 := (r.hide hh).monoS g.gs
  have r3 := (r'.hide hh).monoS g.gs
  cases r2 with
  | @lst _ vs _ n rd q =>
    cases r3 with
    | @lst _ us _ n3 rd3 q3 =>
      refine ⟨fun hi hi' => ⟨vs, us, .inl rd, .inl rd3, by rw [q.length, q3.length]; rw [List.length_zipWith] at hi; omega⟩, fun d hd => ?_⟩
      obtain ⟨x0, y0, e1, e2, rfl⟩ := zip_get hd
      obtain ⟨v, ev, rv⟩ := q.get e1
      obtain ⟨u, eu, ru⟩ := q3.get e2
      refine ⟨⟨vs, us, v, u, .inl rd, .inl rd3, ev, eu⟩, fun x H3 ⟨T, x1, y1, f1, f2, f3, f4, f5⟩ => ?_⟩
      subst f1 f3
      have t1 := f4 vs (.inl rd)
      have t2 := f5 us (.inl rd3)
      rw [ev] at t1
      rw [eu] at t2
      cases t1
      cases t2
      exact ⟨Gr.new f2, fun G2 c => ⟨c.new f2, .tup (c.fresh f2) upd_same (.cons (rv.mono (Gr.new f2)) (.cons (ru.mono (Gr.new f2)) .nil))⟩⟩
theorem wk_zipT {a b : Addr} {ds es : List D} (r : Rep S A1 H1 (.ref a) (.tup ds)) (r' : Rep S A1 H1 (.ref b) (.tup es)) : Wk S (RZ.ItzT S.K a b) (List.zipWith (fun a b => .tup [a, b]) ds es) A1 H1 := by
  intro h' A2 H2 hh g i
  obtain ⟨_, vs, ea, sq, q⟩ := tup_sq ((r.hide hh).monoS g.gs)
  cases ea
  obtain ⟨_, us, ea, sq3, q3⟩ := tup_sq ((r'.hide hh).monoS g.gs)
  cases ea
  have sq : SqT S.K H2 a vs := sq
  have sq3 : SqT S.K H2 b us := sq3
  refine ⟨fun hi hi' => ⟨vs, us, sq, sq3, by rw [q.length, q3.length]; rw [List.length_zipWith] at hi; omega⟩, fun d hd => ?_⟩
  obtain ⟨x0, y0, e1, e2, rfl⟩ := zip_get hd
  obtain ⟨v, ev, rv⟩ := q.get e1
  obtain ⟨u, eu, ru⟩ := q3.get e2
  refine ⟨⟨vs, us, v, u, sq, sq3, ev, eu⟩, fun x H3 ⟨T, x1, y1, f1, f2, f3, f4, f5⟩ => ?_⟩
  subst f1 f3
  have t1 := f4 vs sq
  have t2 := f5 us sq3
  rw [ev] at t1
  rw [eu] at t2
  cases t1
  cases t2
  exact ⟨Gr.new f2, fun G2 c => ⟨c.new f2, .tup (c.fresh f2) upd_same (.cons (rv.mono (Gr.new f2)) (.cons (ru.mono (Gr.new f2)) .nil))⟩⟩
theorem i_enum {a : E} {e : Expr} {elts : List Expr} {kk : Nat} {p pos tpos : Pos} (ok : XOk X S cf) (hg : Gl X "enumerate") (hm : X.mg "enumerate" = none) (he : PE X e (tEv S cf a)) (hs : isStarE e = false) : PI X (.Tuple elts kk tpos) (.Call (.Name "enumerate" p) [e] [] pos) (iTv X S cf .enum a .nil) := by
  refine PI.mono (pi_enum hg hm (s_cons he s_nil hs) (one_star hs)) fun σ H R hw => ?_
  obtain ⟨hθ, A, G, ρ, its, G', cs, l, ev, w⟩ := hw
  obtain ⟨x, G1, y, ha, hb, hi⟩ := evI_some ev
  simp only [evE, Option.some.injEq, Prod.mk.injEq] at hb
  obtain ⟨rfl, rfl⟩ := hb
  have eK : X.K = (S.hide hθ).K := ok.K
  simp only [itemsOf] at hi
  split at hi
  · rename_i xs
    cases hi
    refine ⟨hθ, A, G, ρ, [.lst xs], G1, cs, l, by simp only [evL, ha], fun vs A1 H1 g1 c1 r1 => ?_⟩
    obtain ⟨v, rfl, r⟩ := reps1 r1
    have r0 := r
    cases r with
    | @lst a us _ n rd q =>
      refine ⟨a, us, rfl, .inl rd, ?_⟩
      rw [eK]
      exact w _ A1 H1 c1 (wk_enum r0) (.inl g1)
  · cases hi
end
end Iv

set_option Elab.async false
set_option linter.all false
set_option maxRecDepth 100000
set_option maxHeartbeats 4000000
namespace Iv
open PySem PySem.Spec PyProof.Rows L2
def Ods (S : Sta) (A : List Addr) (H : Hp) (o : Res) (ρ' : En) (G' : List C) (D : Ends) : Prop := match o with
  | .nx => ∀ A' H' σ', Gr A H A' H' → CsOk S A' G' H' → SlOk S A' H' ρ' σ' → D.nx σ' H'
  | .bk => ∀ A' H' σ', Gr A H A' H' → CsOk S A' G' H' → SlOk S A' H' ρ' σ' → D.bk σ' H'
  | .ct => ∀ A' H' σ', Gr A H A' H' → CsOk S A' G' H' → SlOk S A' H' ρ' σ' → D.ct σ' H'
  | .ret d => ∀ v A' H', Gr A H A' H' → CsOk S A' G' H' → Rep S A' H' v d → D.rt v H'
def tSv (S : Sta) (cf : CF) (wf : Nat) (st : St) : TS := fun D σ H => ∃ hθ A G ρ o ρ' G', CsOk (S.hide hθ) A G H ∧ SlOk (S.hide hθ) A H ρ σ ∧ evS cf wf st ρ G = some (o, ρ', G') ∧ Ods (S.hide hθ) A H o ρ' G' D
/-- an assignment's target -/
def gAv (S : Sta) (cf : CF) (t : E) : TG := fun v σ H Q => ∃ hθ A G ρ d ρ' G', CsOk (S.hide hθ) A G H ∧ SlOk (S.hide hθ) A H ρ σ ∧ Rep (S.hide hθ) A H v d ∧ asgD cf t d ρ G = some (ρ', G') ∧
  ∀ A' H' σ', Gr A H A' H' → CsOk (S.hide hθ) A' G' H' → SlOk (S.hide hθ) A' H' ρ' σ' → Q σ' H'
def gAs (S : Sta) (cf : CF) (ts : E) : TGs := fun vs σ H Q => ∃ hθ A G ρ ds ρ' G', CsOk (S.hide hθ) A G H ∧ SlOk (S.hide hθ) A H ρ σ ∧ RepAll (S.hide hθ) A H vs ds ∧ asgDs cf ts ds ρ G = some (ρ', G') ∧
  ∀ A' H' σ', Gr A H A' H' → CsOk (S.hide hθ) A' G' H' → SlOk (S.hide hθ) A' H' ρ' σ' → Q σ' H'
def tgs : E → List Nat
  | .var i => [i]
  | .tup ts => tgs ts
  | .cons h t => tgs h ++ tgs t
  | _ => []
/-- a loop's target: names alone -/
def gTv (S : Sta) (t : E) : TG := fun v σ H Q => ∃ hθ A ρ d ρ', SlOk (S.hide hθ) A H ρ σ ∧ Rep (S.hide hθ) A H v d ∧ bindV t d ρ = some ρ' ∧
  ∀ σ', SlOk (S.hide hθ) A H ρ' σ' → (∀ vs, (∀ i ∈ tgs t, i ∈ vs) → wipe σ' vs = wipe σ vs) → Q σ' H
def gTs (S : Sta) (ts : E) : TGs := fun vs σ H Q => ∃ hθ A ρ ds ρ', SlOk (S.hide hθ) A H ρ σ ∧ RepAll (S.hide hθ) A H vs ds ∧ bindVs ts ds ρ = some ρ' ∧
  ∀ σ', SlOk (S.hide hθ) A H ρ' σ' → (∀ vs, (∀ i ∈ tgs ts, i ∈ vs) → wipe σ' vs = wipe σ vs) → Q σ' H
theorem PG.mono {X : Cx} {e : Expr} {g g' : TG} (h : PG X e g) (m : ∀ v σ H Q, g' v σ H Q → g v σ H Q) : PG X e g' := ⟨fun pins s σ H v u Q I r hw => h.run pins s σ H v u Q I r (m v σ H Q hw)⟩
theorem PGs.mono {X : Cx} {e : List Expr} {g g' : TGs} (h : PGs X e g) (m : ∀ v σ H Q, g' v σ H Q → g v σ H Q) : PGs X e g' := ⟨fun pins s σ H v u Q I r hw => h.run pins s σ H v u Q I r (m v σ H Q hw)⟩
theorem PSm {X : Cx} {e : Stmt} {t t' : TS} (h : PS X e t) (m : ∀ D σ H, t' D σ H → t D σ H) : PS X e t' := ⟨fun pins s σ H D I hw => h.run pins s σ H D I (m D σ H hw)⟩
theorem PSsm {X : Cx} {e : List Stmt} {t t' : TS} (h : PSs X e t) (m : ∀ D σ H, t' D σ H → t D σ H) : PSs X e t' := ⟨fun pins s σ H D I hw => h.run pins s σ H D I (m D σ H hw)⟩
theorem PEm {X : Cx} {e : Expr} {t t' : TE} (h : PE X e t) (m : ∀ σ H Q, t' σ H Q → t σ H Q) : PE X e t' := ⟨fun pins s σ H Q I hw => h.run pins s σ H Q I (m σ H Q hw)⟩
theorem wipe_set (σ : L2.St) (i : Nat) (x : Option V) : ∀ vs : List Nat, i ∈ vs → wipe (σ.set i x) vs = wipe σ vs
  | v :: vs, h => by
    unfold wipe
    by_cases hv : i ∈ vs
    · rw [wipe_set σ i x vs hv]
    · have hi : i = v := by
        rcases List.mem_cons.mp h with h | h
        · exact h
        · exact absurd h hv
      subst hi
      have go : ∀ (ws : List Nat), i ∉ ws → wipe (σ.set i x) ws = (wipe σ ws).set i x := by
        intro ws
        induction ws with
        | nil => intro _; rfl
        | cons w ws ih =>
          intro hn
          unfold wipe
          rw [ih (fun m => hn (List.mem_cons_of_mem _ m)), List.set_comm _ _ (fun e => hn (by rw [e]; exact List.mem_cons_self ..))]
      rw [go vs hv, List.set_set]
section
variable {X : Cx} {S : Sta} {cf : CF} {wf : Nat} {A : List Addr} {G G' : List C} {H : Hp} {σ : L2.St} {ρ : En} {pins : List (Addr × Obj)} {s : Shared}
/-! loops' targets -/
theorem g_var {i : Nat} {x : Str} {pos : Pos} (ok : XOk X S cf) (hi : X.N[i]? = some x) (hx : Loc X.env.scope x) (hf : X.fn x = true ∨ X.env.scope.names.lookup x = some .local) : PG X (.Name x pos) (gTv S (.var i)) := by
  refine PG.mono (pg_name ok.nd hi hx hf) fun v σ H Q hw => ?_
  obtain ⟨hθ, A, ρ, d, ρ', l, r, b, w⟩ := hw
  simp only [bindV, Option.some.injEq] at b
  subst b
  exact w _ (l.set r i) fun vs hv => wipe_set _ _ _ vs (hv i (by simp [tgs]))
theorem g_nil : PGs X [] (gTs S .nil) := by
  refine PGs.mono pgs_nil fun v σ H Q hw => ?_
  obtain ⟨hθ, A, ρ, ds, ρ', l, r, b, w⟩ := hw
  cases r with
  | nil =>
    simp [bindVs] at b
    subst b
    exact ⟨rfl, w _ l fun _ _ => rfl⟩
  | cons _ _ => simp [bindVs] at b
def isNameE : Expr → Bool
  | .Name _ _ => true
  | _ => false
theorem asgE (e : Expr) (es : List Expr) (env : Env) (h : isStarE e = false) : assignEach (e :: es) env = (false, assign e env) :: assignEach es env := by
  cases e <;> first | rfl | cases h
theorem g_cons {i : Nat} {t : E} {x : Str} {pos : Pos} {es : List Expr} (h1 : PG X (.Name x pos) (gTv S (.var i))) (h2 : PGs X es (gTs S t)) : PGs X (.Name x pos :: es) (gTs S (.cons (.var i) t)) := by
  refine PGs.mono (pgs_cons h1 h2 rfl) fun vs σ H Q hw => ?_
  obtain ⟨hθ, A, ρ, ds, ρ', l, r, b, w⟩ := hw
  cases r with
  | nil => simp [bindVs] at b
  | @cons v vr d dr r rr =>
    simp only [bindVs] at b
    refine ⟨v, vr, rfl, hθ, A, ρ, d, _, l, r, rfl, fun σ1 l1 hw1 => ⟨hθ, A, _, dr, ρ', l1, rr, b, fun σ2 l2 hw2 => w σ2 l2 fun vs hv => ?_⟩⟩
    rw [hw2 vs fun j hj => hv j (by simp [tgs]; exact .inr hj), hw1 vs fun j hj => hv j (by simp [tgs] at hj ⊢; exact .inl hj)]
def lenE : E → Nat
  | .cons _ t => lenE t + 1
  | _ => 0
theorem bindVs_n : ∀ {t : E} {ds : List D} {ρ ρ' : En}, bindVs t ds ρ = some ρ' → ds.length = lenE t := by
  intro t
  induction t with
  | nil =>
    intro ds ρ ρ' h
    cases ds with
    | nil => rfl
    | cons _ _ => simp [bindVs] at h
  | cons a t iha iht =>
    intro ds ρ ρ' h
    cases ds with
    | nil => simp [bindVs] at h
    | cons d ds =>
      cases a with
      | var i =>
        simp only [bindVs] at h
        simp [lenE, iht h]
      | _ => simp [bindVs] at h
  | _ =>
    intros
    rename_i h
    simp [bindVs] at h
/-- no star among targets -/
theorem asgN (env : Env) : ∀ (es : List Expr), noStar es = true → (assignEach es env).length = es.length ∧ (assignEach es env).findIdx? (·.1) = none
  | [], _ => ⟨rfl, rfl⟩
  | e :: es, h => by
    simp only [noStar, Bool.and_eq_true, Bool.not_eq_true'] at h
    rw [asgE _ _ _ h.1]
    obtain ⟨h1, h2⟩ := asgN env es h.2
    refine ⟨by simp [h1], ?_⟩
    rw [List.findIdx?_cons]
    simp [h2]
theorem g_tup {t : E} {es : List Expr} {k : Nat} {pos : Pos} (ok : XOk X S cf) (h : PGs X es (gTs S t)) (hn : noStar es = true) (hl : es.length = lenE t) : PG X (.Tuple es k pos) (gTv S (.tup t)) := by
  refine PG.mono (pg_tup (n := es.length) ok.calm h (asgN _ es hn).1 (asgN _ es hn).2) fun v σ H Q hw => ?_
  obtain ⟨hθ, A, ρ, d, ρ', l, r, b, w⟩ := hw
  cases d with
  | tup ds =>
    simp only [bindV] at b
    obtain ⟨a, xs, rfl, sq, q⟩ := tup_sq r
    refine ⟨a, xs, rfl, by rw [ok.K]; exact sq, by rw [q.length, bindVs_n b, hl], hθ, A, ρ, ds, ρ', l, q, b, fun σ' l' hw' => w σ' l' hw'⟩
  | _ => simp [bindV] at b
/-! assignments' targets -/
theorem a_var {i : Nat} {x : Str} {pos : Pos} (ok : XOk X S cf) (hi : X.N[i]? = some x) (hx : Loc X.env.scope x) (hf : X.fn x = true ∨ X.env.scope.names.lookup x = some .local) : PG X (.Name x pos) (gAv S cf (.var i)) := by
  refine PG.mono (pg_name ok.nd hi hx hf) fun v σ H Q hw => ?_
  obtain ⟨hθ, A, G, ρ, d, ρ', G', c, l, r, b, w⟩ := hw
  simp only [asgD, Option.some.injEq, Prod.mk.injEq] at b
  obtain ⟨rfl, rfl⟩ := b
  exact w A H _ Gr.refl c (l.set r i)
theorem a_nil : PGs X [] (gAs S cf .nil) := by
  refine PGs.mono pgs_nil fun v σ H Q hw => ?_
  obtain ⟨hθ, A, G, ρ, ds, ρ', G', c, l, r, b, w⟩ := hw
  cases r with
  | nil =>
    simp [asgDs] at b
    obtain ⟨rfl, rfl⟩ := b
    exact ⟨rfl, w A H _ Gr.refl c l⟩
  | cons _ _ => simp [asgDs] at b
theorem a_cons {h t : E} {e : Expr} {es : List Expr} (h1 : PG X e (gAv S cf h)) (h2 : PGs X es (gAs S cf t)) (hs : isStarE e = false) : PGs X (e :: es) (gAs S cf (.cons h t)) := by
  refine PGs.mono (pgs_cons h1 h2 (by rw [asgE _ _ _ hs]; rfl)) fun vs σ H Q hw => ?_
  obtain ⟨hθ, A, G, ρ, ds, ρ', G', c, l, r, b, w⟩ := hw
  cases r with
  | nil => simp [asgDs] at b
  | @cons v vr d dr r rr =>
    simp only [asgDs] at b
    split at b
    · rename_i ρ1 G1 hb
      refine ⟨v, vr, rfl, hθ, A, G, ρ, d, ρ1, G1, c, l, r, hb, fun A1 H1 σ1 g1 c1 l1 => ⟨hθ, A1, G1, ρ1, dr, ρ', G', c1, l1, rr.mono g1, b, fun A2 H2 σ2 g2 c2 l2 => w A2 H2 σ2 (g1.trans g2) c2 l2⟩⟩
    · cases b
theorem asgDs_n : ∀ {t : E} {ds : List D} {ρ ρ' : En} {G G' : List C}, asgDs cf t ds ρ G = some (ρ', G') → ds.length = lenE t := by
  intro t
  induction t with
  | nil =>
    intro ds ρ ρ' G G' h
    cases ds with
    | nil => rfl
    | cons _ _ => simp [asgDs] at h
  | cons a t iha iht =>
    intro ds ρ ρ' G G' h
    cases ds with
    | nil => simp [asgDs] at h
    | cons d ds =>
      simp only [asgDs] at h
      split at h
      · simp [lenE, iht h]
      · cases h
  | _ =>
    intros
    rename_i h
    simp [asgDs] at h
theorem a_tup {t : E} {es : List Expr} {k : Nat} {pos : Pos} (ok : XOk X S cf) (h : PGs X es (gAs S cf t)) (hn : noStar es = true) (hl : es.length = lenE t) : PG X (.Tuple es k pos) (gAv S cf (.tup t)) := by
  refine PG.mono (pg_tup (n := es.length) ok.calm h (asgN _ es hn).1 (asgN _ es hn).2) fun v σ H Q hw => ?_
  obtain ⟨hθ, A, G, ρ, d, ρ', G', c, l, r, b, w⟩ := hw
  cases d with
  | tup ds =>
    simp only [asgD] at b
    obtain ⟨a, xs, rfl, sq, q⟩ := tup_sq r
    refine ⟨a, xs, rfl, by rw [ok.K]; exact sq, by rw [q.length, asgDs_n b, hl], hθ, A, G, ρ, ds, ρ', G', c, l, q, b, w⟩
  | _ => simp [asgD] at b
theorem PSet.or {t t' : TSet} (h : PSet X t) (h' : PSet X t') : PSet X (fun o i v H Q => t o i v H Q ∨ t' o i v H Q) :=
  fun pins s σ H o i v ov iv u Q I r1 r2 r3 hw => hw.elim (h pins s σ H o i v ov iv u Q I r1 r2 r3) (h' pins s σ H o i v ov iv u Q I r1 r2 r3)
theorem a_idx {o i : E} {eo ei : Expr} {pos : Pos} (ok : XOk X S cf) (io : PE X eo (tEv S cf o)) (ii : PE X ei (tEv S cf i)) (hs : isSlcE ei = false) : PG X (.Subscript eo ei pos) (gAv S cf (.idx o i)) := by
  refine PG.mono (pg_sub io ii (PSet.or set_list (set_dict (by have := ok.un; omega))) (by intro v; cases ei <;> first | rfl | cases hs)) fun v σ H Q hw => ?_
  obtain ⟨hθ, A, G, ρ, d, ρ', G', c, l, r, b, w⟩ := hw
  simp only [asgD] at b
  split at b
  · rename_i x G1 ha
    split at b
    · rename_i y G2 hb
      split at b
      · rename_i G3 hd
        cases b
        refine ⟨hθ, A, G, ρ, x, G1, c, l, ha, fun xv A1 H1 g1 c1 r1 => ⟨hθ, A1, G1, ρ, y, G2, c1, l.mono g1, hb, fun yv A2 H2 g2 c2 r2 => ?_⟩⟩
        have rx := r1.mono g2
        have rd := r.mono (g1.trans g2)
        unfold setD at hd
        split at hd
        · rename_i n
          cases rx with
          | @cell a n en =>
            have m : a ∈ A2 := List.mem_of_getElem? en
            split at hd
            · rename_i xs k hg
              split at hd
              · rename_i j hj
                cases hd
                obtain ⟨a', e1, okc, _⟩ := c2.addr hg
                rw [en] at e1; cases e1
                obtain ⟨vs, hv, q⟩ := okc
                refine .inl ⟨a, vs, k, j, rfl, rep_int r2, hv, by rw [q.length]; exact hj, ?_⟩
                exact w A2 _ σ ((g1.trans g2).trans (Gr.put m)) (c2.put en ⟨_, upd_same, (q.set rd j).mono (Gr.put m)⟩) ((l.mono (g1.trans g2)).mono (Gr.put m))
              · cases hd
            · rename_i ks vs hg
              split at hd
              · rename_i hk
                cases hd
                simp only [Bool.and_eq_true, decide_eq_true_eq] at hk
                obtain ⟨a', e1, okc, _⟩ := c2.addr hg
                rw [en] at e1; cases e1
                obtain ⟨kvs, hv, ek, q⟩ := okc
                subst ek
                obtain ⟨k', rfl, e2⟩ := key_K (by simpa [isKey] using hk.1) r2
                refine .inr ⟨a, _, rfl, .inl ⟨kvs, k', hv, e2, by simpa using hk.2, rfl⟩, ?_⟩
                obtain ⟨m1, m2⟩ := putK_D (k := k') q rd
                exact w A2 _ σ ((g1.trans g2).trans (Gr.put m)) (c2.put en ⟨_, upd_same, m1.symm, m2.mono (Gr.put m)⟩) ((l.mono (g1.trans g2)).mono (Gr.put m))
              · cases hd
            · rename_i ks vs hg
              split at hd
              · rename_i hk
                cases hd
                simp only [Bool.and_eq_true, decide_eq_true_eq] at hk
                obtain ⟨a', e1, okc, _⟩ := c2.addr hg
                rw [en] at e1; cases e1
                obtain ⟨kvs, hv, ek, q⟩ := okc
                subst ek
                obtain ⟨k', b', e1, rfl, e2⟩ := isT_key (by simpa [isKey] using hk.1) r2
                subst e1
                refine .inr ⟨a, _, rfl, .inr ⟨kvs, k', b', hv, rfl, e2, by simpa using hk.2, rfl⟩, ?_⟩
                obtain ⟨m1, m2⟩ := putT_D (k := k') q rd
                exact w A2 _ σ ((g1.trans g2).trans (Gr.put m)) (c2.put en ⟨_, upd_same, m1.symm, m2.mono (Gr.put m)⟩) ((l.mono (g1.trans g2)).mono (Gr.put m))
              · cases hd
            · cases hd
        · cases hd
      · cases b
    · cases b
  · cases b
end
end Iv

set_option Elab.async false
set_option linter.all false
set_option maxRecDepth 100000
set_option maxHeartbeats 4000000
namespace Iv
open PySem PySem.Spec PyProof.Rows L2
theorem Ods.mono {S : Sta} {A A1 : List Addr} {H H1 : Hp} {o : Res} {ρ' : En} {G' : List C} {D : Ends} (g : Gr A H A1 H1) (h : Ods S A H o ρ' G' D) : Ods S A1 H1 o ρ' G' D := by
  cases o with
  | nx => exact fun A' H' σ' g' c l => h A' H' σ' (g.trans g') c l
  | bk => exact fun A' H' σ' g' c l => h A' H' σ' (g.trans g') c l
  | ct => exact fun A' H' σ' g' c l => h A' H' σ' (g.trans g') c l
  | ret d => exact fun v A' H' g' c r => h v A' H' (g.trans g') c r
section
variable {X : Cx} {S : Sta} {cf : CF} {wf : Nat} {A : List Addr} {G G' : List C} {H : Hp} {σ : L2.St} {ρ : En} {pins : List (Addr × Obj)} {s : Shared}
theorem q_skip : PSs X [] (tSv S cf wf .skip) := by
  refine PSsm pss_nil fun D σ H hw => ?_
  obtain ⟨hθ, A, G, ρ, o, ρ', G', c, l, ev, w⟩ := hw
  simp only [evS, Option.some.injEq, Prod.mk.injEq] at ev
  obtain ⟨rfl, rfl, rfl⟩ := ev
  exact w A H σ Gr.refl c l
theorem q_pass {pos : Pos} : PS X (.Pass pos) (tSv S cf wf .skip) := by
  refine PSm ps_pass fun D σ H hw => ?_
  obtain ⟨hθ, A, G, ρ, o, ρ', G', c, l, ev, w⟩ := hw
  simp only [evS, Option.some.injEq, Prod.mk.injEq] at ev
  obtain ⟨rfl, rfl, rfl⟩ := ev
  exact w A H σ Gr.refl c l
theorem q_doc {x : Str} {j : Nat} {p pos : Pos} : PS X (.Expr (.Constant (.str x) j p) pos) (tSv S cf wf .skip) := by
  refine PSm ps_doc fun D σ H hw => ?_
  obtain ⟨hθ, A, G, ρ, o, ρ', G', c, l, ev, w⟩ := hw
  simp only [evS, Option.some.injEq, Prod.mk.injEq] at ev
  obtain ⟨rfl, rfl, rfl⟩ := ev
  exact w A H σ Gr.refl c l
theorem q_seq {a b : St} {st : Stmt} {rest : List Stmt} (h1 : PS X st (tSv S cf wf a)) (h2 : PSs X rest (tSv S cf wf b)) : PSs X (st :: rest) (tSv S cf wf (.seq a b)) := by
  refine PSsm (pss_cons h1 h2) fun D σ H hw => ?_
  obtain ⟨hθ, A, G, ρ, o, ρ', G', c, l, ev, w⟩ := hw
  simp only [evS] at ev
  split at ev
  · rename_i ρ1 G1 ha
    exact ⟨hθ, A, G, ρ, .nx, ρ1, G1, c, l, ha, fun A1 H1 σ1 g1 c1 l1 => ⟨hθ, A1, G1, ρ1, o, ρ', G', c1, l1, ev, w.mono g1⟩⟩
  · rename_i r hne
    refine ⟨hθ, A, G, ρ, o, ρ', G', c, l, ev, ?_⟩
    cases o with
    | nx => exact (hne _ _ ev).elim
    | bk => exact w
    | ct => exact w
    | ret d => exact w
theorem q_asg {t e : E} {st : Stmt} (h : PS X st (tAsg (tEv S cf e) (gAv S cf t))) : PS X st (tSv S cf wf (.asg t e)) := by
  refine PSm h fun D σ H hw => ?_
  obtain ⟨hθ, A, G, ρ, o, ρ', G', c, l, ev, w⟩ := hw
  simp only [evS] at ev
  split at ev
  · rename_i d G1 ha
    split at ev
    · rename_i ρ2 G2 hb
      cases ev
      exact ⟨hθ, A, G, ρ, d, G1, c, l, ha, fun v A1 H1 g1 c1 r1 => ⟨hθ, A1, G1, ρ, d, ρ', G', c1, l.mono g1, r1, hb, fun A2 H2 σ2 g2 c2 l2 => w A2 H2 σ2 (g1.trans g2) c2 l2⟩⟩
    · cases ev
  · cases ev
theorem q_fld {o e : E} {eo ee : Expr} {f : Str} {pos pos' : Pos} (ok : XOk X S cf) (io : PE X eo (tEv S cf o)) (ie : PE X ee (tEv S cf e)) (hf : f ∈ S.fl) (hs : swapsWith ee (some (.Attribute eo f pos')) pos.line X.env = pure false) :
    PS X (.Assign [.Attribute eo f pos'] ee pos) (tSv S cf wf (.asg (.attr o f) e)) := by
  refine PSm (ps_fld io ie hs) fun D σ H hw => ?_
  obtain ⟨hθ, A, G, ρ, r, ρ', G', c, l, ev, w⟩ := hw
  simp only [evS, asgD] at ev
  split at ev
  · rename_i d G1 ha
    split at ev
    · rename_i ρ2 G2 hb
      cases ev
      split at hb
      · rename_i x G3 hx
        split at hb
        · rename_i G4 hd
          cases hb
          refine ⟨hθ, A, G, ρ, d, G1, c, l, ha, fun v A1 H1 g1 c1 r1 => ⟨hθ, A1, G1, ρ, x, G3, c1, l.mono g1, hx, fun u A2 H2 g2 c2 r2 => ?_⟩⟩
          unfold setA at hd
          split at hd
          · rename_i n
            split at hd
            · rename_i cn fs vs hg
              split at hd
              · rename_i hz
                cases hd
                cases r2 with
                | @cell a n en =>
                  have m : a ∈ A2 := List.mem_of_getElem? en
                  obtain ⟨a', e1, okc, _⟩ := c2.addr hg
                  rw [en] at e1; cases e1
                  obtain ⟨ca, dx, fv, hv, hm, ek, q⟩ := okc
                  subst ek
                  obtain ⟨h1, h2⟩ := ok.fld cn ca f hm.1 hm.2 hf
                  refine ⟨a, ca, dx, fv, rfl, hv, h1, h2, by simp at hz; omega, ?_⟩
                  have pf : ∀ {fv : List (Str × V)} {vs : List Iv.D} {H : Hp} {A : List Addr}, RepAll (S.hide hθ) A H (fv.map (·.2)) vs → Rep (S.hide hθ) A H v d →
                      (putFd f d (fv.map (·.1)) vs).1 = (putF f v fv).map (·.1) ∧ RepAll (S.hide hθ) A H ((putF f v fv).map (·.2)) (putFd f d (fv.map (·.1)) vs).2 := by
                    intro fv
                    induction fv with
                    | nil => intro vs H A q rv; cases q; exact ⟨rfl, .cons rv .nil⟩
                    | cons p fv ih =>
                      intro vs H A q rv
                      obtain ⟨g, y⟩ := p
                      cases q with
                      | @cons _ _ d0 ds r0 t0 =>
                        obtain ⟨i1, i2⟩ := ih t0 rv
                        show (putFd f d (g :: fv.map (·.1)) (d0 :: ds)).1 = (putF f v ((g, y) :: fv)).map (·.1) ∧ RepAll _ _ _ ((putF f v ((g, y) :: fv)).map (·.2)) (putFd f d (g :: fv.map (·.1)) (d0 :: ds)).2
                        unfold putFd putF
                        by_cases e : g = f
                        · rw [if_pos e, if_pos e]
                          exact ⟨by simp [e], .cons rv t0⟩
                        · rw [if_neg e, if_neg e]
                          exact ⟨by simp [i1], .cons r0 i2⟩
                  obtain ⟨m1, m2⟩ := pf q (r1.mono g2)
                  exact w A2 _ σ ((g1.trans g2).trans (Gr.put m)) (c2.put en ⟨ca, dx, _, upd_same, hm, m1, m2.mono (Gr.put m)⟩) ((l.mono (g1.trans g2)).mono (Gr.put m))
              · cases hd
            · cases hd
          · cases hd
        · cases hb
      · cases hb
    · cases ev
  · cases ev
theorem q_ex {e : E} {ee : Expr} {pos : Pos} (ie : PE X ee (tEv S cf e)) (hs : swapsWith ee none pos.line X.env = pure false) : PS X (.Expr ee pos) (tSv S cf wf (.ex e)) := by
  refine PSm (ps_expr ie hs) fun D σ H hw => ?_
  obtain ⟨hθ, A, G, ρ, o, ρ', G', c, l, ev, w⟩ := hw
  simp only [evS] at ev
  split at ev
  · rename_i d G1 ha
    cases ev
    exact ⟨hθ, A, G, ρ, d, _, c, l, ha, fun v A1 H1 g1 c1 r1 => w A1 H1 σ g1 c1 (l.mono g1)⟩
  · cases ev
theorem q_ret {e : E} {ee : Expr} {pos : Pos} (ie : PE X ee (tEv S cf e)) : PS X (.Return (some ee) pos) (tSv S cf wf (.ret e)) := by
  refine PSm (ps_ret ie) fun D σ H hw => ?_
  obtain ⟨hθ, A, G, ρ, o, ρ', G', c, l, ev, w⟩ := hw
  simp only [evS] at ev
  split at ev
  · rename_i d G1 ha
    cases ev
    exact ⟨hθ, A, G, ρ, d, _, c, l, ha, w⟩
  · cases ev
theorem q_if {c : E} {a b : St} {ec : Expr} {ea eb : List Stmt} {pos : Pos} (ic : PT X ec (tTv S cf c)) (ia : PSs X ea (tSv S cf wf a)) (ib : PSs X eb (tSv S cf wf b)) : PS X (.If ec ea eb pos) (tSv S cf wf (.ifs c a b)) := by
  refine PSm (ps_if ic ia ib) fun D σ H hw => ?_
  obtain ⟨hθ, A, G, ρ, o, ρ', G', cs, l, ev, w⟩ := hw
  simp only [evS] at ev
  split at ev
  · rename_i G1 ha
    refine ⟨hθ, A, G, ρ, _, G1, cs, l, ha, fun A1 H1 g1 c1 => ?_⟩
    show (if (true : Bool) = true then _ else _)
    rw [if_pos rfl]
    exact ⟨hθ, A1, G1, ρ, o, ρ', G', c1, l.mono g1, ev, w.mono g1⟩
  · rename_i G1 ha
    refine ⟨hθ, A, G, ρ, _, G1, cs, l, ha, fun A1 H1 g1 c1 => ?_⟩
    show (if (false : Bool) = true then _ else _)
    rw [if_neg Bool.false_ne_true]
    exact ⟨hθ, A1, G1, ρ, o, ρ', G', c1, l.mono g1, ev, w.mono g1⟩
  · cases ev
theorem q_brk {pos : Pos} : PS X (.Break pos) (tSv S cf wf .brk) := by
  refine PSm ps_break fun D σ H hw => ?_
  obtain ⟨hθ, A, G, ρ, o, ρ', G', c, l, ev, w⟩ := hw
  simp only [evS, Option.some.injEq, Prod.mk.injEq] at ev
  obtain ⟨rfl, rfl, rfl⟩ := ev
  exact w A H σ Gr.refl c l
theorem q_cnt {pos : Pos} : PS X (.Continue pos) (tSv S cf wf .cnt) := by
  refine PSm ps_continue fun D σ H hw => ?_
  obtain ⟨hθ, A, G, ρ, o, ρ', G', c, l, ev, w⟩ := hw
  simp only [evS, Option.some.injEq, Prod.mk.injEq] at ev
  obtain ⟨rfl, rfl, rfl⟩ := ev
  exact w A H σ Gr.refl c l
theorem q_aug {i : Nat} {o : BO} {e : E} {x : Str} {ee : Expr} {pos pos' : Pos} (ok : XOk X S cf) (hi : X.N[i]? = some x) (hx : Loc X.env.scope x) (hf : X.fn x = true ∨ X.env.scope.names.lookup x = some .local) (ie : PE X ee (tEv S cf e)) (ho : o = .add ∨ o = .sub) :
    PS X (.AugAssign (.Name x pos') (bop o) ee pos) (tSv S cf wf (.aug i o e)) := by
  have go : ∀ (D : Ends) (σ : L2.St) (H : Hp) (f : Int → Int → Int), (∀ {hθ A G ρ r ρ' G'}, CsOk (S.hide hθ) A G H → SlOk (S.hide hθ) A H ρ σ → evS cf wf (.aug i o e) ρ G = some (r, ρ', G') → Ods (S.hide hθ) A H r ρ' G' D →
      ∃ a, ρ[i]? = some (some (.int a)) ∧ ∃ b G1, evE cf e ρ G = some (.int b, G1) ∧ r = .nx ∧ ρ' = ρ.set i (some (.int (f a b))) ∧ G' = G1) → tSv S cf wf (.aug i o e) D σ H → tAug i (tEv S cf e) (ipI f) D σ H := by
    intro D σ H f hh hw
    obtain ⟨hθ, A, G, ρ, r, ρ', G', c, l, ev, w⟩ := hw
    obtain ⟨a, ea, b, G1, eb, rfl, rfl, rfl⟩ := hh c l ev w
    obtain ⟨v, e1, rv⟩ := l.2 i _ ea
    refine ⟨v, e1, hθ, A, G, ρ, _, _, c, l, eb, fun u A1 H1 g1 c1 r1 => ⟨a, b, rep_int rv, rep_int r1, ?_⟩⟩
    exact w A1 H1 _ g1 c1 ((l.mono g1).set (.int _) i)
  rcases ho with rfl | rfl
  · refine PSm (ps_aug ok.nd hi hx ie ip_add hf) fun D σ H hw => go D σ H (fun i j => i + j) (fun {hθ A G ρ r ρ' G'} c l ev w => ?_) hw
    simp only [evS] at ev
    split at ev
    · rename_i x hx
      split at ev
      · rename_i y G1 hy
        split at ev
        · rename_i a b _ _ _
          cases ev
          exact ⟨_, hx, _, _, hy, rfl, rfl, rfl⟩
        · rename_i h; cases h
        · cases ev
      · cases ev
    · cases ev
  · refine PSm (ps_aug ok.nd hi hx ie ip_sub hf) fun D σ H hw => go D σ H (fun i j => i - j) (fun {hθ A G ρ r ρ' G'} c l ev w => ?_) hw
    simp only [evS] at ev
    split at ev
    · rename_i x hx
      split at ev
      · rename_i y G1 hy
        split at ev
        · rename_i h; cases h
        · rename_i a b _ _ _
          cases ev
          exact ⟨_, hx, _, _, hy, rfl, rfl, rfl⟩
        · cases ev
      · cases ev
    · cases ev
/-! several names, stored from the right -/
theorem q_par2 {i j : Nat} {es : E} {st : Stmt} (h : PS X st (tPar i j (tLv S cf es))) : PS X st (tSv S cf wf (.par [i, j] es)) := by
  refine PSm h fun D σ H hw => ?_
  obtain ⟨hθ, A, G, ρ, o, ρ', G', c, l, ev, w⟩ := hw
  simp only [evS] at ev
  split at ev
  · rename_i ds G1 ha
    split at ev
    · rename_i ρ1 hb
      cases ev
      refine ⟨hθ, A, G, ρ, ds, _, c, l, ha, fun vs A1 H1 g1 c1 r1 => ?_⟩
      match ds, hb, r1 with
      | [d1, d2], hb, .cons r1 (.cons r2 .nil) =>
        simp only [setMany, Option.some.injEq] at hb
        subst hb
        exact ⟨_, _, rfl, w A1 H1 _ g1 c1 (((l.mono g1).set r1 i).set r2 j)⟩
      | [], hb, _ => simp [setMany] at hb
      | [_], hb, _ => simp [setMany] at hb
      | _ :: _ :: _ :: _, hb, _ => simp [setMany] at hb
    · cases ev
  · cases ev
theorem q_par3 {i j k : Nat} {es : E} {st : Stmt} (h : PS X st (tPar3 i j k (tLv S cf es))) : PS X st (tSv S cf wf (.par [i, j, k] es)) := by
  refine PSm h fun D σ H hw => ?_
  obtain ⟨hθ, A, G, ρ, o, ρ', G', c, l, ev, w⟩ := hw
  simp only [evS] at ev
  split at ev
  · rename_i ds G1 ha
    split at ev
    · rename_i ρ1 hb
      cases ev
      refine ⟨hθ, A, G, ρ, ds, _, c, l, ha, fun vs A1 H1 g1 c1 r1 => ?_⟩
      match ds, hb, r1 with
      | [d1, d2, d3], hb, .cons r1 (.cons r2 (.cons r3 .nil)) =>
        simp only [setMany, Option.some.injEq] at hb
        subst hb
        exact ⟨_, _, _, rfl, w A1 H1 _ g1 c1 ((((l.mono g1).set r1 i).set r2 j).set r3 k)⟩
      | [], hb, _ => simp [setMany] at hb
      | [_], hb, _ => simp [setMany] at hb
      | [_, _], hb, _ => simp [setMany] at hb
      | _ :: _ :: _ :: _ :: _, hb, _ => simp [setMany] at hb
    · cases ev
  · cases ev
/-! while -/
theorem q_whl {c : E} {b : St} {ec : Expr} {eb : List Stmt} {pos : Pos} (hp : PassesOwn (model X.prog X.w) X.A X.env X.xe) (ic : PT X ec (tTv S cf c)) (ib : PSs X eb (tSv S cf wf b)) : PS X (.While ec eb [] pos) (tSv S cf wf (.whl c b)) := by
  refine PSm (ps_while hp ic ib) fun D σ H hw => ?_
  obtain ⟨hθ, A, G, ρ, o, ρ', G', cs, l, ev, w⟩ := hw
  simp only [evS] at ev
  refine ⟨fun m σ1 H1 => ∃ A1 G1 ρ1, Gr A H A1 H1 ∧ CsOk (S.hide hθ) A1 G1 H1 ∧ SlOk (S.hide hθ) A1 H1 ρ1 σ1 ∧ whileS (evE cf c) (evS cf wf b) m ρ1 G1 = some (o, ρ', G'), ⟨wf, A, G, ρ, Gr.refl, cs, l, ev⟩, ?_⟩
  rintro m σ1 H1 ⟨A1, G1, ρ1, g1, c1, l1, e1⟩
  cases m with
  | zero => simp [whileS] at e1
  | succ m =>
    simp only [whileS] at e1
    split at e1
    · rename_i G2 hc
      refine ⟨hθ, A1, G1, ρ1, _, G2, c1, l1, hc, fun A2 H2 g2 c2 => ?_⟩
      show (if (true : Bool) = true then _ else _)
      rw [if_pos rfl]
      refine ⟨fun σ3 H3 => ∃ A3 G3 ρ3, Gr A H A3 H3 ∧ CsOk (S.hide hθ) A3 G3 H3 ∧ SlOk (S.hide hθ) A3 H3 ρ3 σ3 ∧ whileS (evE cf c) (evS cf wf b) m ρ3 G3 = some (o, ρ', G'), fun σ3 H3 h => ⟨m, Nat.lt_succ_self m, h⟩, ?_⟩
      split at e1
      · rename_i ρ3 G3 hb
        exact ⟨hθ, A2, G2, ρ1, .nx, ρ3, G3, c2, l1.mono g2, hb, fun A3 H3 σ3 g3 c3 l3 => ⟨A3, G3, ρ3, (g1.trans g2).trans g3, c3, l3, e1⟩⟩
      · rename_i ρ3 G3 hb
        exact ⟨hθ, A2, G2, ρ1, .ct, ρ3, G3, c2, l1.mono g2, hb, fun A3 H3 σ3 g3 c3 l3 => ⟨A3, G3, ρ3, (g1.trans g2).trans g3, c3, l3, e1⟩⟩
      · rename_i ρ3 G3 hb
        cases e1
        exact ⟨hθ, A2, G2, ρ1, .bk, _, _, c2, l1.mono g2, hb, fun A3 H3 σ3 g3 c3 l3 => w A3 H3 σ3 ((g1.trans g2).trans g3) c3 l3⟩
      · rename_i d ρ3 G3 hb
        cases e1
        exact ⟨hθ, A2, G2, ρ1, .ret d, _, _, c2, l1.mono g2, hb, fun v A3 H3 g3 c3 r3 => w v A3 H3 ((g1.trans g2).trans g3) c3 r3⟩
      · cases e1
    · rename_i G2 hc
      cases e1
      refine ⟨hθ, A1, G1, _, _, _, c1, l1, hc, fun A2 H2 g2 c2 => ?_⟩
      show (if (false : Bool) = true then _ else _)
      rw [if_neg Bool.false_ne_true]
      exact w A2 H2 σ1 (g1.trans g2) c2 (l1.mono g2)
    · cases e1
/-! for -/
/-- the statement's end sets a locked dict free -/
def unl (X : Cx) (D : Ends) : Ends where
  nx := fun σ' H' => D.nx σ' H' ∨ ∃ d od u, H' d = some (.frz od u) ∧ (∀ o' u', X.H_0 d ≠ some (.frz o' u')) ∧ D.nx σ' (upd H' d u)
  rt := fun v H' => D.rt v H' ∨ ∃ d od u, H' d = some (.frz od u) ∧ (∀ o' u', X.H_0 d ≠ some (.frz o' u')) ∧ D.rt v (upd H' d u)
  bk := fun σ' H' => D.bk σ' H' ∨ ∃ d od u, H' d = some (.frz od u) ∧ (∀ o' u', X.H_0 d ≠ some (.frz o' u')) ∧ D.bk σ' (upd H' d u)
  ct := fun σ' H' => D.ct σ' H' ∨ ∃ d od u, H' d = some (.frz od u) ∧ (∀ o' u', X.H_0 d ≠ some (.frz o' u')) ∧ D.ct σ' (upd H' d u)
theorem ps_unl {st : Stmt} {t : TS} (h : PS X st t) : PS X st (fun D σ H => t (unl X D) σ H) := by
  refine ⟨fun pins s σ H D I hw => ?_⟩
  refine thn (h.run pins s σ H (unl X D) I hw) fun f s1 q => ?_
  cases f with
  | next =>
    obtain ⟨σ', H', I2, q⟩ := q
    rcases q with q | ⟨d, od, u, e, hn, q⟩
    · exact ⟨σ', H', I2, q⟩
    · exact ⟨σ', _, I2.unlock e hn, q⟩
  | brk =>
    obtain ⟨σ', H', I2, q⟩ := q
    rcases q with q | ⟨d, od, u, e, hn, q⟩
    · exact ⟨σ', H', I2, q⟩
    · exact ⟨σ', _, I2.unlock e hn, q⟩
  | cont =>
    obtain ⟨σ', H', I2, q⟩ := q
    rcases q with q | ⟨d, od, u, e, hn, q⟩
    · exact ⟨σ', H', I2, q⟩
    · exact ⟨σ', _, I2.unlock e hn, q⟩
  | ret v =>
    obtain ⟨x, σ', H', I2, r, q⟩ := q
    rcases q with q | ⟨d, od, u, e, hn, q⟩
    · exact ⟨x, σ', H', I2, r, q⟩
    · exact ⟨x, σ', _, I2.unlock e hn, r, q⟩
theorem Ods.unl {S : Sta} {A A1 : List Addr} {H H1 : Hp} {o : Res} {ρ' : En} {G' : List C} {D : Ends} (g : Lkd X S A H A1 H1) (h : Ods S A H o ρ' G' D) : Ods S A1 H1 o ρ' G' (unl X D) := by
  rcases g with g | ⟨d, u, od, H0, du, nd, h0, rfl, g, hn⟩
  · have := h.mono g
    cases o with
    | nx => exact fun A' H' σ' g' c l => .inl (this A' H' σ' g' c l)
    | bk => exact fun A' H' σ' g' c l => .inl (this A' H' σ' g' c l)
    | ct => exact fun A' H' σ' g' c l => .inl (this A' H' σ' g' c l)
    | ret d => exact fun v A' H' g' c r => .inl (this v A' H' g' c r)
  · have k : ∀ {A' H'}, Gr A1 (upd H0 d (.frz od u)) A' H' → H' d = some (.frz od u) ∧ Out S A' d ∧ Gr A H A' (upd H' d u) := fun {A' H'} g' => by
      refine ⟨by rw [g'.keep d (by rw [upd_same]; simp) nd.1, upd_same], ⟨g'.out (by rw [upd_same]; simp) nd.1, nd.2⟩, g.trans (Gr.unlock h0 nd.1 g')⟩
    have lk : ∀ {A' H'}, H' d = some (.frz od u) → Gs S A' H' A' (upd H' d u) := fun {A' H'} e => Gs.lock du (.inr ⟨od, e⟩) (.inl rfl)
    cases o with
    | nx =>
      refine fun A' H' σ' g' c l => ?_
      obtain ⟨e, n, g2⟩ := k g'
      exact .inr ⟨d, od, u, e, hn, h A' _ σ' g2 (c.lock n du (.inr ⟨od, e⟩) (.inl rfl)) (l.monoS (lk e))⟩
    | bk =>
      refine fun A' H' σ' g' c l => ?_
      obtain ⟨e, n, g2⟩ := k g'
      exact .inr ⟨d, od, u, e, hn, h A' _ σ' g2 (c.lock n du (.inr ⟨od, e⟩) (.inl rfl)) (l.monoS (lk e))⟩
    | ct =>
      refine fun A' H' σ' g' c l => ?_
      obtain ⟨e, n, g2⟩ := k g'
      exact .inr ⟨d, od, u, e, hn, h A' _ σ' g2 (c.lock n du (.inr ⟨od, e⟩) (.inl rfl)) (l.monoS (lk e))⟩
    | ret r =>
      refine fun v A' H' g' c rv => ?_
      obtain ⟨e, n, g2⟩ := k g'
      exact .inr ⟨d, od, u, e, hn, h v A' _ g2 (c.lock n du (.inr ⟨od, e⟩) (.inl rfl)) (rv.monoS (lk e))⟩
theorem Lkd.sl {A1 : List Addr} {H1 : Hp} (g : Lkd X S A H A1 H1) (l : SlOk S A H ρ σ) : SlOk S A1 H1 ρ σ := by
  rcases g with g | ⟨d, u, od, H0, du, nd, h0, rfl, g, hn⟩
  · exact l.mono g
  · exact (l.mono g).monoS (Gs.lock du (.inl h0) (.inr ⟨od, rfl⟩))
def stepS (cf : CF) (wf : Nat) (t : E) (s : St) : D → En → List C → Option (Res × En × List C) := fun d ρ G => match bindV t d ρ with
  | some ρ1 => evS cf wf s ρ1 G
  | none => none
theorem q_for {k : IK} {a b t : E} {sb : St} {tg iter : Expr} {eb : List Stmt} {pos : Pos} (ok : XOk X S cf) (hp : PassesOwn (model X.prog X.w) X.A X.env X.xe) (hi : PI X tg iter (iTv X S cf k a b)) (hg : PG X tg (gTv S t)) (hb : PSs X eb (tSv S cf wf sb))
    (hs : ∀ x, foldedSetIterable iter X.env x = pure x) : PS X (.For tg iter eb [] pos) (tSv S cf wf (.fors k a b t sb)) := by
  refine PSm (ps_unl (ps_for hp ok.calm hi hg hb hs)) fun D σ H hw => ?_
  obtain ⟨hθ, A, G, ρ, o, ρ', G', cs, l, ev, w⟩ := hw
  have ev2 : ∃ its G2, evI cf k a b ρ G = some (its, G2) ∧ loopS (stepS cf wf t sb) its ρ G2 = some (o, ρ', G') := by
    simp only [evS] at ev
    split at ev
    · rename_i x G1 ha
      split at ev
      · rename_i y G2 hb
        split at ev
        · rename_i its hi
          exact ⟨its, G2, by simp only [evI, ha, hb, hi], ev⟩
        · cases ev
      · cases ev
    · cases ev
  obtain ⟨its, G2, e1, e2⟩ := ev2
  refine ⟨hθ, A, G, ρ, its, G2, cs, l, e1, fun J A1 H1 c1 wk lk => ?_⟩
  have w1 := w.unl lk
  have l1 := lk.sl l
  generalize hD : unl X D = D' at w1 ⊢
  refine ⟨fun i m σ2 H2 => (m = its.length - i ∧ i ≤ its.length) ∧ ∃ A2 G2 ρ2, Gr A1 H1 A2 H2 ∧ CsOk (S.hide hθ) A2 G2 H2 ∧ SlOk (S.hide hθ) A2 H2 ρ2 σ2 ∧ loopS (stepS cf wf t sb) (its.drop i) ρ2 G2 = some (o, ρ', G'), ⟨_, ⟨rfl, Nat.zero_le _⟩, A1, G2, ρ, Gr.refl, c1, l1, by simpa using e2⟩, ?_⟩
  rintro i m σ2 H2 ⟨⟨rfl, hle⟩, A2, G3, ρ2, g2, c2, l2, e3⟩
  have k := wk hθ A2 H2 (fun b hb => .inl hb) g2.gh i
  by_cases hlt : its.length ≤ i
  · rw [List.drop_eq_nil_of_le hlt] at e3
    simp only [loopS, Option.some.injEq, Prod.mk.injEq] at e3
    obtain ⟨rfl, rfl, rfl⟩ := e3
    exact .inl ⟨k.1 hlt hle, w1 A2 H2 σ2 g2 c2 l2⟩
  · have hlt' : i < its.length := by omega
    obtain ⟨go, st⟩ := k.2 _ (List.getElem?_eq_getElem hlt')
    rw [List.drop_eq_getElem_cons hlt'] at e3
    simp only [loopS] at e3
    refine .inr ⟨go, fun σ4 H4 => ∃ A4 G4 ρ4, Gr A1 H1 A4 H4 ∧ CsOk (S.hide hθ) A4 G4 H4 ∧ SlOk (S.hide hθ) A4 H4 ρ4 σ4 ∧ loopS (stepS cf wf t sb) (its.drop (i + 1)) ρ4 G4 = some (o, ρ', G'), fun σ4 H4 h => ⟨_, by omega, ⟨rfl, by omega⟩, h⟩, fun x H3 hy => ?_⟩
    obtain ⟨g3, h3⟩ := st x H3 hy
    obtain ⟨c3, r3⟩ := h3 G3 c2
    have step : ∃ ρ3, bindV t its[i] ρ2 = some ρ3 := by
      cases hb : bindV t its[i] ρ2 with
      | some ρ3 => exact ⟨ρ3, rfl⟩
      | none => simp [stepS, hb] at e3
    obtain ⟨ρ3, hb⟩ := step
    simp only [stepS, hb] at e3
    refine ⟨hθ, A2, ρ2, _, ρ3, l2.mono g3, r3, hb, fun σ3 l3 _ => ?_⟩
    split at e3
    · rename_i ρ4 G4 h4
      exact ⟨hθ, A2, G3, ρ3, .nx, ρ4, G4, c3, l3, h4, fun A4 H4 σ4 g4 c4 l4 => ⟨A4, G4, ρ4, (g2.trans g3).trans g4, c4, l4, e3⟩⟩
    · rename_i ρ4 G4 h4
      exact ⟨hθ, A2, G3, ρ3, .ct, ρ4, G4, c3, l3, h4, fun A4 H4 σ4 g4 c4 l4 => ⟨A4, G4, ρ4, (g2.trans g3).trans g4, c4, l4, e3⟩⟩
    · rename_i ρ4 G4 h4
      cases e3
      exact ⟨hθ, A2, G3, ρ3, .bk, _, _, c3, l3, h4, fun A4 H4 σ4 g4 c4 l4 => w1 A4 H4 σ4 ((g2.trans g3).trans g4) c4 l4⟩
    · rename_i d ρ4 G4 h4
      cases e3
      exact ⟨hθ, A2, G3, ρ3, .ret d, _, _, c3, l3, h4, fun v A4 H4 g4 c4 r4 => w1 v A4 H4 ((g2.trans g3).trans g4) c4 r4⟩
    · cases e3
end
end Iv

set_option Elab.async false
set_option linter.all false
set_option maxRecDepth 100000
set_option maxHeartbeats 4000000
namespace Iv
open PySem PySem.Spec PyProof.Rows L2
/-! an object out of sight: changed, shown -/
mutual
theorem Rep.upH {S : Sta} {A : List Addr} {H : Hp} {b : Addr} {o : HO} (hb : b ∈ S.hid) : ∀ {v : V} {d : D}, Rep S A H v d → Rep S A (upd H b o) v d
  | _, _, .non => .non
  | _, _, .bl b => .bl b
  | _, _, .int i => .int i
  | _, _, .str x => .str x
  | _, _, .lst n r q => .lst n (by unfold Rd; rw [upd_ne (fun e => n.2 (by rw [e]; exact hb))]; exact r) (RepAll.upH hb q)
  | _, _, .tup n r q => .tup n (by rw [upd_ne (fun e => n.2 (by rw [e]; exact hb))]; exact r) (RepAll.upH hb q)
  | _, _, .tupW r l q => .tupW r l (RepAll.upH hb q)
  | _, _, .dK n r e q => .dK n (by unfold Rd; rw [upd_ne (fun e => n.2 (by rw [e]; exact hb))]; exact r) e (RepAll.upH hb q)
  | _, _, .dT n r e q => .dT n (by unfold Rd; rw [upd_ne (fun e => n.2 (by rw [e]; exact hb))]; exact r) e (RepAll.upH hb q)
  | _, _, .ins n r m e q => .ins n (by rw [upd_ne (fun e => n.2 (by rw [e]; exact hb))]; exact r) m e (RepAll.upH hb q)
  | _, _, .cell e => .cell e
  | _, _, .wls n r q => .wls n (by unfold Rd; rw [upd_ne (fun e => n.2 (by rw [e]; exact hb))]; exact r) (RepAll.upH hb q)
  | _, _, .wlsW r q => .wlsW r (RepAll.upH hb q)
theorem RepAll.upH {S : Sta} {A : List Addr} {H : Hp} {b : Addr} {o : HO} (hb : b ∈ S.hid) : ∀ {vs : List V} {ds : List D}, RepAll S A H vs ds → RepAll S A (upd H b o) vs ds
  | _, _, .nil => .nil
  | _, _, .cons h t => .cons (Rep.upH hb h) (RepAll.upH hb t)
end
/-! the objects that are no cells change their standing -/
mutual
theorem Rep.turn {S : Sta} {A A' h' : List Addr} {H : Hp} (ho : ∀ a, Out S A a → Out (S.hide h') A' a) (hg : ∀ (n : Nat) (a : Addr), A[n]? = some a → A'[n]? = some a) : ∀ {v : V} {d : D}, Rep S A H v d → Rep (S.hide h') A' H v d
  | _, _, .non => .non
  | _, _, .bl b => .bl b
  | _, _, .int i => .int i
  | _, _, .str x => .str x
  | _, _, .lst n r q => .lst (ho _ n) r (RepAll.turn ho hg q)
  | _, _, .tup n r q => .tup (ho _ n) r (RepAll.turn ho hg q)
  | _, _, .tupW r l q => .tupW r l (RepAll.turn ho hg q)
  | _, _, .dK n r e q => .dK (ho _ n) r e (RepAll.turn ho hg q)
  | _, _, .dT n r e q => .dT (ho _ n) r e (RepAll.turn ho hg q)
  | _, _, .ins n r m e q => .ins (ho _ n) r m e (RepAll.turn ho hg q)
  | _, _, .cell e => .cell (hg _ _ e)
  | _, _, .wls n r q => .wls (ho _ n) r (RepAll.turn ho hg q)
  | _, _, .wlsW r q => .wlsW r (RepAll.turn ho hg q)
theorem RepAll.turn {S : Sta} {A A' h' : List Addr} {H : Hp} (ho : ∀ a, Out S A a → Out (S.hide h') A' a) (hg : ∀ (n : Nat) (a : Addr), A[n]? = some a → A'[n]? = some a) : ∀ {vs : List V} {ds : List D}, RepAll S A H vs ds → RepAll (S.hide h') A' H vs ds
  | _, _, .nil => .nil
  | _, _, .cons h t => .cons (Rep.turn ho hg h) (RepAll.turn ho hg t)
end
section
variable {X : Cx} {S : Sta} {cf : CF} {wf : Nat} {A A1 : List Addr} {G G' : List C} {H H1 : Hp} {σ : L2.St} {ρ : En} {pins : List (Addr × Obj)} {s : Shared} {h : List Addr} {b : Addr} {c : C}
/-- a cell's contents by the reading of values -/
theorem COk.by {S' : Sta} {A' : List Addr} {H' : Hp} {a : Addr} (e : H' a = H a) (hm : S'.cl = S.cl ∧ S'.mg = S.mg) (f : ∀ {vs ds}, RepAll S A H vs ds → RepAll S' A' H' vs ds) (k : COk S A H a c) : COk S' A' H' a c := by
  cases c with
  | lst ds => obtain ⟨xs, h, q⟩ := k; exact ⟨xs, by rw [e]; exact h, f q⟩
  | dK ks ds => obtain ⟨xs, h, e2, q⟩ := k; exact ⟨xs, by rw [e]; exact h, e2, f q⟩
  | dT ks ds => obtain ⟨xs, h, e2, q⟩ := k; exact ⟨xs, by rw [e]; exact h, e2, f q⟩
  | ins cn fs ds => obtain ⟨ca, dx, fv, h, e2, e3, q⟩ := k; exact ⟨ca, dx, fv, by rw [e]; exact h, by rw [hm.1, hm.2]; exact e2, e3, f q⟩
theorem CsOk.upH {o : HO} (k : CsOk S A G H) (hb : b ∈ S.hid) (mo : Mb o) : CsOk S A G (upd H b o) :=
  ⟨k.len, k.nd, fun n a c e1 e2 => COk.by (S := S) (A := A) (H := H) (upd_ne fun e => (k.hid b hb).1 (by rw [← e]; exact List.mem_of_getElem? e1)) ⟨rfl, rfl⟩ (RepAll.upH hb) (k.at_ n a c e1 e2), fun x hx => by
    obtain ⟨n, o', e, m⟩ := k.hid x hx
    by_cases z : x = b
    · subst z; exact ⟨n, o, upd_same, mo⟩
    · exact ⟨n, o', by rw [upd_ne z]; exact e, m⟩⟩
/-- a new object out of sight -/
theorem CsOk.hideN {o : HO} (k : CsOk (S.hide h) A G H) (hb : H b = none) (mo : Mb o) : CsOk (S.hide (b :: h)) A G (upd H b o) := by
  have hh : ∀ x ∈ b :: h, x ∈ (S.hide h).hid ∨ H x = none := fun x hx => (List.mem_cons.mp hx).elim (fun e => .inr (by rw [e]; exact hb)) .inl
  refine ⟨k.len, k.nd, fun n a c e1 e2 => ?_, fun x hx => ?_⟩
  · have k0 := k.at_ n a c e1 e2
    have k1 : COk (S.hide (b :: h)) A H a c := COk.by (S := S.hide h) (A := A) (H := H) rfl ⟨rfl, rfl⟩ (fun q => RepAll.hide (S := S.hide h) (h' := b :: h) hh q) k0
    exact COk.by (S := S.hide (b :: h)) (A := A) (H := H) (upd_ne fun e => k0.ne (by rw [e]; exact hb)) ⟨rfl, rfl⟩ (RepAll.upH (List.mem_cons_self ..)) k1
  · rcases List.mem_cons.mp hx with e | hx
    · subst e; exact ⟨(k.fresh hb).1, o, upd_same, mo⟩
    · exact k.hid_new hb x hx
theorem CsOk.unhide (k : CsOk (S.hide (b :: h)) A G H) : CsOk (S.hide h) A G H :=
  ⟨k.len, k.nd, fun n a c e1 e2 => COk.by (S := S.hide (b :: h)) (A := A) (H := H) rfl ⟨rfl, rfl⟩ (fun q => RepAll.turn (S := S.hide (b :: h)) (h' := h) (fun a n => ⟨n.1, fun m => n.2 (List.mem_cons_of_mem _ m)⟩) (fun _ _ e => e) q) (k.at_ n a c e1 e2), fun x hx => k.hid x (List.mem_cons_of_mem _ hx)⟩
theorem RepAll.unhide {vs : List V} {ds : List D} (q : RepAll (S.hide (b :: h)) A H vs ds) : RepAll (S.hide h) A H vs ds := RepAll.turn (S := S.hide (b :: h)) (h' := h) (fun a n => ⟨n.1, fun m => n.2 (List.mem_cons_of_mem _ m)⟩) (fun _ _ e => e) q
theorem RepAll.showC {vs : List V} {ds : List D} (q : RepAll (S.hide (b :: h)) A H vs ds) : RepAll (S.hide h) (A ++ [b]) H vs ds :=
  RepAll.turn (S := S.hide (b :: h)) (h' := h) (fun a n => ⟨fun m => (List.mem_append.mp m).elim n.1 fun m => n.2 (by simp at m; rw [m]; exact List.mem_cons_self ..), fun m => n.2 (List.mem_cons_of_mem _ m)⟩)
    (fun n a e => by rw [List.getElem?_append_left (List.getElem?_eq_some_iff.mp e).1]; exact e) q
/-- what was out of sight becomes a cell -/
theorem CsOk.showC {c : C} (k : CsOk (S.hide (b :: h)) A G H) (nh : b ∉ h) (hc : COk (S.hide h) (A ++ [b]) H b c) : CsOk (S.hide h) (A ++ [b]) (G ++ [c]) H := by
  have nb : b ∉ A := (k.hid b (List.mem_cons_self ..)).1
  refine ⟨by simp [k.len], ?_, fun n a c' e1 e2 => ?_, fun x hx => ?_⟩
  · rw [List.nodup_append]
    refine ⟨k.nd, by simp, fun x hx y hy => ?_⟩
    simp at hy
    subst hy
    intro e
    subst e
    exact nb hx
  · by_cases hn : n < A.length
    · rw [List.getElem?_append_left hn] at e1
      rw [List.getElem?_append_left (by rw [← k.len]; exact hn)] at e2
      exact COk.by (S := S.hide (b :: h)) (A := A) (H := H) rfl ⟨rfl, rfl⟩ RepAll.showC (k.at_ n a c' e1 e2)
    · have hl : n < (A ++ [b]).length := (List.getElem?_eq_some_iff.mp e1).1
      have e : n = A.length := by simp at hl; omega
      subst e
      rw [List.getElem?_append_right (Nat.le_refl _)] at e1
      rw [List.getElem?_append_right (by rw [k.len]; exact Nat.le_refl _)] at e2
      simp [k.len] at e1 e2
      subst e1 e2
      exact hc
  · obtain ⟨n, o, e, m⟩ := k.hid x (List.mem_cons_of_mem _ hx)
    refine ⟨fun z => ?_, o, e, m⟩
    rcases List.mem_append.mp z with z | z
    · exact n z
    · simp at z
      subst z
      exact nh hx
theorem Gr.swap {o o' : HO} {A' : List Addr} {H' : Hp} (g : Gr A (upd H b o) A' H') : Gr A (upd H b o') A' (upd H' b o') := by
  obtain ⟨B, e, f⟩ := g.pre
  refine ⟨⟨B, e, fun x hx => ?_⟩, fun x hx nx => ?_, fun x hx => ?_⟩
  · have := f x hx
    by_cases z : x = b
    · subst z; rw [upd_same] at this; cases this
    · rw [upd_ne z] at this ⊢; exact this
  · by_cases z : x = b
    · subst z; rw [upd_same, upd_same]
    · rw [upd_ne z, upd_ne z] at *
      have := g.keep x (by rw [upd_ne z]; exact hx) nx
      rw [upd_ne z] at this
      exact this
  · by_cases z : x = b
    · subst z; rw [upd_same]; simp
    · rw [upd_ne z] at hx ⊢
      exact g.tr x (by rw [upd_ne z]; exact hx)
/-! the end of a value's reading sets a locked dict free -/
def unlQ (X : Cx) (Q : VK) : VK := fun v H' => Q v H' ∨ ∃ d od u, H' d = some (.frz od u) ∧ (∀ o' u', X.H_0 d ≠ some (.frz o' u')) ∧ Q v (upd H' d u)
theorem pe_unl {e : Expr} {t : TE} (h : PE X e t) : PE X e (fun σ H Q => t σ H (unlQ X Q)) := by
  refine ⟨fun pins s σ H Q I hw => ?_⟩
  refine thn (h.run pins s σ H _ I hw) fun v s1 ⟨x, H', I2, r, q⟩ => ?_
  rcases q with q | ⟨d, od, u, e, hn, q⟩
  · exact ⟨x, H', I2, r, q⟩
  · exact ⟨x, _, I2.unlock e hn, r, q⟩
theorem Aft.unl {d : D} {Q : VK} (g : Lkd X S A H A1 H1) (w : Aft S A H d G' Q) : Aft S A1 H1 d G' (unlQ X Q) := by
  rcases g with g | ⟨b, u, od, H0, du, nd, h0, rfl, g, hn⟩
  · exact fun v A' H' g' c r => .inl (w v A' H' (g.trans g') c r)
  · refine fun v A' H' g' c r => ?_
    have e : H' b = some (.frz od u) := by rw [g'.keep b (by rw [upd_same]; simp) nd.1, upd_same]
    have n : Out S A' b := ⟨g'.out (by rw [upd_same]; simp) nd.1, nd.2⟩
    exact .inr ⟨b, od, u, e, hn, w v A' _ (g.trans (Gr.unlock h0 nd.1 g')) (c.lock n du (.inr ⟨od, e⟩) (.inl rfl)) (r.monoS (Gs.lock du (.inr ⟨od, e⟩) (.inl rfl)))⟩
/-! comprehensions -/
theorem wipe_wipe : ∀ (vs : List Nat) (σ : L2.St), wipe (wipe σ vs) vs = wipe σ vs
  | [], _ => rfl
  | v :: vs, σ => by
    show wipe ((wipe σ vs).set v none) (v :: vs) = _
    rw [wipe_set _ v none (v :: vs) (List.mem_cons_self ..)]
    show (wipe (wipe σ vs) vs).set v none = (wipe σ vs).set v none
    rw [wipe_wipe vs σ]
def stepC (cf : CF) (t tst elt : E) (ρ : En) : D → List C → Option (List D × List C) := fun d G => match bindV t d ρ with
  | some ρ2 => match evE cf tst ρ2 G with
    | some (.bl true, G3) => match evE cf elt ρ2 G3 with
      | some (v, G4) => some ([v], G4)
      | none => none
    | some (.bl false, G3) => some ([], G3)
    | _ => none
  | none => none
/-- the list under way at D -/
structure Acc (S : Sta) (h : List Addr) (D : Addr) (A1 : List Addr) (H1 : Hp) (A2 : List Addr) (G : List C) (H2 : Hp) (av : List V) (ad : List Iv.D) : Prop where
  gr : Gr A1 (upd H1 D (.lst av)) A2 H2
  cs : CsOk (S.hide (D :: h)) A2 G H2
  rep : RepAll (S.hide (D :: h)) A2 H2 av ad
  at_ : H2 D = some (.lst av)
theorem Acc.out {D : Addr} {A2 : List Addr} {H2 : Hp} {av : List V} {ad : List Iv.D} (a : Acc S h D A1 H1 A2 G H2 av ad) : D ∉ A2 := (a.cs.hid D (List.mem_cons_self ..)).1
theorem Acc.go {D : Addr} {A2 A3 : List Addr} {G3 : List C} {H2 H3 : Hp} {av : List V} {ad : List Iv.D} (a : Acc S h D A1 H1 A2 G H2 av ad) (g : Gr A2 H2 A3 H3) (c : CsOk (S.hide (D :: h)) A3 G3 H3) : Acc S h D A1 H1 A3 G3 H3 av ad :=
  ⟨a.gr.trans g, c, a.rep.mono g, by rw [g.keep D (by rw [a.at_]; simp) a.out]; exact a.at_⟩
theorem Acc.push {D : Addr} {A2 : List Addr} {H2 : Hp} {av : List V} {ad : List Iv.D} {y : V} {d : Iv.D} (a : Acc S h D A1 H1 A2 G H2 av ad) (r : Rep (S.hide (D :: h)) A2 H2 y d) : Acc S h D A1 H1 A2 G (upd H2 D (.lst (av ++ [y]))) (av ++ [y]) (ad ++ [d]) :=
  ⟨a.gr.swap, a.cs.upH (List.mem_cons_self ..) trivial, (a.rep.app (.cons r .nil)).upH (List.mem_cons_self ..), upd_same⟩
theorem Acc.start {D : Addr} (c : CsOk (S.hide h) A1 G H1) (hD : H1 D = none) : Acc S h D A1 H1 A1 G (upd H1 D (.lst [])) [] [] :=
  ⟨Gr.refl, c.hideN hD trivial, .nil, upd_same⟩
theorem Acc.sl {D : Addr} {A2 : List Addr} {H2 : Hp} {av : List V} {ad : List Iv.D} (a : Acc S h D A1 H1 A2 G H2 av ad) (hD : H1 D = none) (l : SlOk (S.hide h) A1 H1 ρ σ) : SlOk (S.hide (D :: h)) A2 H2 ρ σ := by
  have hh : ∀ x ∈ D :: h, x ∈ (S.hide h).hid ∨ H1 x = none := fun x hx => (List.mem_cons.mp hx).elim (fun e => .inr (by rw [e]; exact hD)) .inl
  have l2 : SlOk (S.hide (D :: h)) A1 H1 ρ σ := ⟨l.1, fun i d e => by
    obtain ⟨v, e1, r⟩ := l.2 i d e
    exact ⟨v, e1, Rep.hide (S := S.hide h) (h' := D :: h) hh r⟩⟩
  exact l2.mono ((Gr.new hD).trans a.gr)
theorem Acc.fin {D : Addr} {A2 : List Addr} {H2 : Hp} {av : List V} {ad : List Iv.D} {c : Bool} {d : Iv.D} {Q : VK} (a : Acc S h D A1 H1 A2 G H2 av ad) (hD : H1 D = none) (nh : D ∉ h) (e : mkL c ad G = some (d, G')) (w : Aft (S.hide h) A1 H1 d G' Q) : Q (.ref D) H2 := by
  have g : Gr A1 H1 A2 H2 := (Gr.new hD).trans a.gr
  unfold mkL at e
  split at e
  · cases c with
    | false =>
      simp at e
      obtain ⟨rfl, rfl⟩ := e
      exact w _ A2 H2 g a.cs.unhide (.lst ⟨a.out, nh⟩ (.inl a.at_) a.rep.unhide)
    | true =>
      simp at e
      obtain ⟨rfl, rfl⟩ := e
      obtain ⟨B, e1, f⟩ := g.pre
      refine w _ (A2 ++ [D]) H2 ⟨⟨B ++ [D], by rw [e1, List.append_assoc], fun x hx => ?_⟩, g.keep, g.tr⟩ (a.cs.showC nh ⟨av, a.at_, a.rep.showC⟩) (.cell (at_end a.cs.len D))
      rcases List.mem_append.mp hx with hx | hx
      · exact f x hx
      · simp at hx; rw [hx]; exact hD
  · cases e
theorem mkL_len {c : Bool} {ds : List D} {d : D} (e : mkL c ds G = some (d, G')) : ds.length ≤ sizeLine := by
  unfold mkL at e
  split at e
  · assumption
  · cases e
theorem comp_rd {c : Bool} {own : List (Str × Nat)} {k : IK} {a b t tst elt : E} {Q Q' : VK} (hw : tEv S cf (.comp c own k a b t tst elt) σ H Q) (ht : ∀ i ∈ tgs t, i ∈ own.map (·.2)) (hq : ∀ v H', unlQ X Q v H' → Q' v H') :
    tLc (iTv X S cf k a b) (gTv S t) (tTv S cf tst) (tEv S cf elt) (own.map (·.2)) σ H Q' := by
  obtain ⟨hθ, A, G, ρ, d, G', cs, l, ev, w⟩ := hw
  have ev2 : ∃ its G2 vs G5, evI cf k a b ρ G = some (its, G2) ∧ compL (stepC cf t tst elt (wipeD ρ (own.map (·.2)))) its G2 = some (vs, G5) ∧ mkL c vs G5 = some (d, G') := by
    simp only [evE] at ev
    split at ev
    · rename_i x G1 ha
      split at ev
      · rename_i y G2 hb
        split at ev
        · rename_i its hi
          split at ev
          · rename_i vs G5 hc
            exact ⟨its, G2, vs, G5, by simp only [evI, ha, hb, hi], hc, ev⟩
          · cases ev
        · cases ev
      · cases ev
    · cases ev
  obtain ⟨its, G2, vs, G5, e1, e2, e3⟩ := ev2
  refine ⟨hθ, A, G, ρ, its, G2, cs, l, e1, fun J A1 H1 c1 wk lk D hD => ?_⟩
  have w1 : Aft (S.hide hθ) A1 H1 d G' Q' := fun v A' H' g c r => hq _ _ ((w.unl lk) v A' H' g c r)
  have l1 := lk.sl l
  have nh : D ∉ hθ := (c1.fresh hD).2
  have hh : ∀ x ∈ D :: hθ, x ∈ (S.hide hθ).hid ∨ H1 x = none := fun x hx => (List.mem_cons.mp hx).elim (fun e => .inr (by rw [e]; exact hD)) .inl
  have hl := mkL_len e3
  refine ⟨fun i m H2 => (m = its.length - i ∧ i ≤ its.length) ∧ ∃ A2 G3 av ad rest, Acc S hθ D A1 H1 A2 G3 H2 av ad ∧ compL (stepC cf t tst elt (wipeD ρ (own.map (·.2)))) (its.drop i) G3 = some (rest, G5) ∧ ad ++ rest = vs, ⟨_, ⟨rfl, Nat.zero_le _⟩, A1, G2, [], [], vs, Acc.start c1 hD, by simpa using e2, rfl⟩, ?_⟩
  rintro i m H2 ⟨⟨rfl, hle⟩, A2, G3, av, ad, rest, ac, e4, e5⟩
  have g2 : Gr A1 H1 A2 H2 := (Gr.new hD).trans ac.gr
  have kk := wk (D :: hθ) A2 H2 hh g2.gh i
  by_cases hlt : its.length ≤ i
  · rw [List.drop_eq_nil_of_le hlt] at e4
    simp only [compL, Option.some.injEq, Prod.mk.injEq] at e4
    obtain ⟨rfl, rfl⟩ := e4
    rw [List.append_nil] at e5
    subst e5
    exact .inl ⟨kk.1 hlt hle, ac.fin hD nh e3 w1⟩
  · have hlt' : i < its.length := by omega
    obtain ⟨go, st⟩ := kk.2 _ (List.getElem?_eq_getElem hlt')
    rw [List.drop_eq_getElem_cons hlt'] at e4
    simp only [compL] at e4
    refine .inr ⟨go, fun H4 => ∃ A4 G4 av ad rest, Acc S hθ D A1 H1 A4 G4 H4 av ad ∧ compL (stepC cf t tst elt (wipeD ρ (own.map (·.2)))) (its.drop (i + 1)) G4 = some (rest, G5) ∧ ad ++ rest = vs, fun H4 h => ⟨_, by omega, ⟨rfl, by omega⟩, h⟩, fun x H3 hy => ?_⟩
    obtain ⟨g3, h3⟩ := st x H3 hy
    obtain ⟨c3, r3⟩ := h3 G3 ac.cs
    have ac3 := ac.go g3 c3
    have l3 := (ac3.sl hD l1).wipe (own.map (·.2))
    split at e4
    · rename_i ys G4 hs
      split at e4
      · rename_i zs G6 hz
        cases e4
        unfold stepC at hs
        split at hs
        · rename_i ρ2 hb
          refine ⟨D :: hθ, A2, _, _, ρ2, l3, r3, hb, fun σ2 l2 hw2 => ⟨by rw [hw2 _ ht]; exact wipe_wipe _ _, ?_⟩⟩
          split at hs
          · rename_i G7 ht1
            refine ⟨D :: hθ, A2, G3, ρ2, true, G7, c3, l2, ht1, fun A5 H5 g5 c5 => ?_⟩
            show (if (true : Bool) = true then _ else _)
            rw [if_pos rfl]
            split at hs
            · rename_i v G8 he
              cases hs
              refine ⟨D :: hθ, A5, G7, ρ2, v, _, c5, l2.mono g5, he, fun y A6 H6 g6 c6 r6 => ?_⟩
              have ac6 := (ac3.go g5 c5).go g6 c6
              refine ⟨av, ac6.at_, ?_, A6, _, av ++ [y], ad ++ [v], zs, ac6.push r6, hz, by rw [← e5]; simp⟩
              have := ac.rep.length
              rw [← e5] at hl
              simp at hl
              omega
            · cases hs
          · rename_i G7 ht1
            cases hs
            refine ⟨D :: hθ, A2, G3, ρ2, false, _, c3, l2, ht1, fun A5 H5 g5 c5 => ?_⟩
            show (if (false : Bool) = true then _ else _)
            rw [if_neg Bool.false_ne_true]
            exact ⟨A5, _, av, ad, zs, ac3.go g5 c5, hz, by rw [← e5]; simp⟩
          · cases hs
        · cases hs
      · cases e4
    · cases e4
end
end Iv

set_option Elab.async false
set_option linter.all false
set_option maxRecDepth 100000
set_option maxHeartbeats 4000000
namespace Iv
open PySem PySem.Spec PyProof.Rows L2
def evN (cf : CF) (k : IK) (a b : E) (ρ : En) (G : List C) : Option (List D × List C) := match evE cf a ρ G with
  | some (x, G1) => match evE cf b ρ G1 with
    | some (y, G2) => match itemsN k x y G2 with
      | some its => some (its, G2)
      | none => none
    | none => none
  | none => none
def iNv (S : Sta) (cf : CF) (k : IK) (a b : E) : TI := fun σ H R => ∃ hθ A G ρ its G', CsOk (S.hide hθ) A G H ∧ SlOk (S.hide hθ) A H ρ σ ∧ evN cf k a b ρ G = some (its, G') ∧
  ∀ J A1 H1, CsOk (S.hide hθ) A1 G' H1 → Wk (S.hide hθ) J its A1 H1 → Gr A H A1 H1 → R J H1
section
variable {X : Cx} {S : Sta} {cf : CF} {wf : Nat} {A A1 : List Addr} {G G' : List C} {H H1 : Hp} {σ : L2.St} {ρ : En} {pins : List (Addr × Obj)} {s : Shared} {h : List Addr} {b : Addr} {c : C}
theorem evN_some {k : IK} {a b : E} {its : List D} (h : evN cf k a b ρ G = some (its, G')) : ∃ x G1 y, evE cf a ρ G = some (x, G1) ∧ evE cf b ρ G1 = some (y, G') ∧ itemsN k x y G' = some its := by
  unfold evN at h
  split at h
  · rename_i x G1 ha
    split at h
    · rename_i y G2 hb
      split at h
      · rename_i its' hi
        cases h
        exact ⟨x, G1, y, ha, hb, hi⟩
      · cases h
    · cases h
  · cases h
theorem n_plain {a : E} {tg e : Expr} (ok : XOk X S cf) (he : PE X e (tEv S cf a)) : PI X tg e (iNv S cf .plain a .nil) := by
  refine PI.mono (PI.or (PI.or (pi_list he) (pi_tup he)) (pi_str he)) fun σ H R hw => ?_
  obtain ⟨hθ, A, G, ρ, its, G', cs, l, ev, w⟩ := hw
  obtain ⟨x, G1, y, ha, hb, hi⟩ := evN_some ev
  simp only [evE, Option.some.injEq, Prod.mk.injEq] at hb
  obtain ⟨rfl, rfl⟩ := hb
  have eK : X.K = (S.hide hθ).K := ok.K
  cases x with
  | lst xs =>
    simp [itemsN, itemsOf] at hi; subst hi
    refine .inl (.inl ⟨hθ, A, G, ρ, _, _, cs, l, ha, fun v A1 H1 g1 c1 r1 => ?_⟩)
    have r := r1
    cases r1 with
    | @lst a vs _ n rd q =>
      refine ⟨a, rfl, ⟨vs, .inl rd⟩, ?_⟩
      rw [eK]
      exact w _ A1 H1 c1 (wk_list r) g1
  | wls xs =>
    simp [itemsN, itemsOf] at hi; subst hi
    refine .inl (.inl ⟨hθ, A, G, ρ, _, _, cs, l, ha, fun v A1 H1 g1 c1 r1 => ?_⟩)
    obtain ⟨a, vs, rfl, sq, q⟩ := wls_sq r1
    refine ⟨a, rfl, ⟨vs, by rw [eK]; exact sq⟩, ?_⟩
    rw [eK]
    exact w _ A1 H1 c1 (wk_wls r1) g1
  | tup xs =>
    simp [itemsN, itemsOf] at hi; subst hi
    refine .inl (.inr ⟨hθ, A, G, ρ, _, _, cs, l, ha, fun v A1 H1 g1 c1 r1 => ?_⟩)
    obtain ⟨a, vs, rfl, sq, q⟩ := tup_sq r1
    refine ⟨a, rfl, ⟨vs, by rw [eK]; exact sq⟩, ?_⟩
    rw [eK]
    exact w _ A1 H1 c1 (wk_tup r1) g1
  | str z =>
    simp [itemsN, itemsOf] at hi; subst hi
    exact .inr ⟨hθ, A, G, ρ, _, _, cs, l, ha, fun v A1 H1 g1 c1 r1 => ⟨z, rep_str r1, w _ A1 H1 c1 wk_str g1⟩⟩
  | _ => simp [itemsN, itemsOf] at hi
theorem n_range1 {a : E} {tg e : Expr} {p pos : Pos} (ok : XOk X S cf) (hg : Gl X "range") (hm : X.mg "range" = none) (he : PE X e (tEv S cf a)) (hs : isStarE e = false) : PI X tg (.Call (.Name "range" p) [e] [] pos) (iNv S cf .range1 a .nil) := by
  refine PI.mono (pi_range1 hg hm (s_cons he s_nil hs) (one_star hs)) fun σ H R hw => ?_
  obtain ⟨hθ, A, G, ρ, its, G', cs, l, ev, w⟩ := hw
  obtain ⟨x, G1, y, ha, hb, hi⟩ := evN_some ev
  simp only [evE, Option.some.injEq, Prod.mk.injEq] at hb
  obtain ⟨rfl, rfl⟩ := hb
  unfold itemsN at hi
  split at hi
  · cases hi
  simp only [itemsOf] at hi
  split at hi
  · rename_i n _
    split at hi
    · rename_i hn
      cases hi
      refine ⟨hθ, A, G, ρ, [.int n], G1, cs, l, by simp only [evL, ha], fun vs A1 H1 g1 c1 r1 => ?_⟩
      obtain ⟨v, rfl, r⟩ := reps1 r1
      refine ⟨n, by rw [rep_int r], by omega, by omega, w _ A1 H1 c1 ?_ g1⟩
      have := wk_range (S := S.hide hθ) (A1 := A1) (H1 := H1) (lo := 0) (n := n.toNat)
      simpa using this
    · cases hi
  · cases hi
def stepI (cf : CF) (t1 elt : E) (ρ : En) : D → List C → Option (List D × List C) := fun d G => match bindV t1 d ρ with
  | some ρ3 => match evE cf elt ρ3 G with
    | some (v, G5) => some ([v], G5)
    | none => none
  | none => none
def stepO (cf : CF) (t : E) (k1 : IK) (a1 b1 t1 elt : E) (own1 : List Nat) (ρ : En) : D → List C → Option (List D × List C) := fun d G => match bindV t d ρ with
  | some ρ2 => match evN cf k1 a1 b1 ρ2 G with
    | some (its1, G4) => compL (stepI cf t1 elt (wipeD ρ2 own1)) its1 G4
    | none => none
  | none => none
theorem comp2_rd {c : Bool} {own : List (Str × Nat)} {own1 : List Nat} {k k1 : IK} {a b t a1 b1 t1 elt : E} {Q Q' : VK} (hw : tEv S cf (.comp2 c own own1 k a b t k1 a1 b1 t1 elt) σ H Q) (ht : ∀ i ∈ tgs t, i ∈ own.map (·.2)) (ht1 : ∀ i ∈ tgs t1, i ∈ own1) (hq : ∀ v H', unlQ X Q v H' → Q' v H') :
    tLc2 (iTv X S cf k a b) (gTv S t) tYes (iNv S cf k1 a1 b1) (gTv S t1) tYes (tEv S cf elt) (own.map (·.2)) own1 σ H Q' := by
  obtain ⟨hθ, A, G, ρ, d, G', cs, l, ev, w⟩ := hw
  have ev2 : ∃ its G2 vs G5, evI cf k a b ρ G = some (its, G2) ∧ compL (stepO cf t k1 a1 b1 t1 elt own1 (wipeD ρ (own.map (·.2)))) its G2 = some (vs, G5) ∧ mkL c vs G5 = some (d, G') := by
    simp only [evE] at ev
    split at ev
    · rename_i x G1 ha
      split at ev
      · rename_i y G2 hb
        split at ev
        · rename_i its hi
          split at ev
          · rename_i vs G5 hc
            refine ⟨its, G2, vs, G5, by simp only [evI, ha, hb, hi], ?_, ev⟩
            rw [← hc]
            congr 1
            funext d G
            unfold stepO
            cases bindV t d (wipeD ρ (own.map (·.2))) with
            | none => rfl
            | some ρ2 =>
              unfold evN
              dsimp only
              cases evE cf a1 ρ2 G with
              | none => rfl
              | some p =>
                obtain ⟨x1, G3⟩ := p
                dsimp only
                cases evE cf b1 ρ2 G3 with
                | none => rfl
                | some p =>
                  obtain ⟨y1, G4⟩ := p
                  dsimp only
                  cases itemsN k1 x1 y1 G4 with
                  | none => rfl
                  | some its1 => rfl
          · cases ev
        · cases ev
      · cases ev
    · cases ev
  obtain ⟨its, G2, vs, G5, e1, e2, e3⟩ := ev2
  refine ⟨hθ, A, G, ρ, its, G2, cs, l, e1, fun J A1 H1 c1 wk lk D hD => ?_⟩
  have w1 : Aft (S.hide hθ) A1 H1 d G' Q' := fun v A' H' g c r => hq _ _ ((w.unl lk) v A' H' g c r)
  have l1 := lk.sl l
  have nh : D ∉ hθ := (c1.fresh hD).2
  have hh : ∀ x ∈ D :: hθ, x ∈ (S.hide hθ).hid ∨ H1 x = none := fun x hx => (List.mem_cons.mp hx).elim (fun e => .inr (by rw [e]; exact hD)) .inl
  have hl := mkL_len e3
  refine ⟨fun i m H2 => (m = its.length - i ∧ i ≤ its.length) ∧ ∃ A2 G3 av ad rest, Acc S hθ D A1 H1 A2 G3 H2 av ad ∧ compL (stepO cf t k1 a1 b1 t1 elt own1 (wipeD ρ (own.map (·.2)))) (its.drop i) G3 = some (rest, G5) ∧ ad ++ rest = vs, ⟨_, ⟨rfl, Nat.zero_le _⟩, A1, G2, [], [], vs, Acc.start c1 hD, by simpa using e2, rfl⟩, ?_⟩
  rintro i m H2 ⟨⟨rfl, hle⟩, A2, G3, av, ad, rest, ac, e4, e5⟩
  have g2 : Gr A1 H1 A2 H2 := (Gr.new hD).trans ac.gr
  have kk := wk (D :: hθ) A2 H2 hh g2.gh i
  by_cases hlt : its.length ≤ i
  · rw [List.drop_eq_nil_of_le hlt] at e4
    simp only [compL, Option.some.injEq, Prod.mk.injEq] at e4
    obtain ⟨rfl, rfl⟩ := e4
    rw [List.append_nil] at e5
    subst e5
    exact .inl ⟨kk.1 hlt hle, ac.fin hD nh e3 w1⟩
  · have hlt' : i < its.length := by omega
    obtain ⟨go, st⟩ := kk.2 _ (List.getElem?_eq_getElem hlt')
    rw [List.drop_eq_getElem_cons hlt'] at e4
    simp only [compL] at e4
    refine .inr ⟨go, fun H4 => ∃ A4 G4 av ad rest, Acc S hθ D A1 H1 A4 G4 H4 av ad ∧ compL (stepO cf t k1 a1 b1 t1 elt own1 (wipeD ρ (own.map (·.2)))) (its.drop (i + 1)) G4 = some (rest, G5) ∧ ad ++ rest = vs, fun H4 h => ⟨_, by omega, ⟨rfl, by omega⟩, h⟩, fun x H3 hy => ?_⟩
    obtain ⟨g3, h3⟩ := st x H3 hy
    obtain ⟨c3, r3⟩ := h3 G3 ac.cs
    have ac3 := ac.go g3 c3
    have l3 := (ac3.sl hD l1).wipe (own.map (·.2))
    split at e4
    · rename_i ys G4 hs
      split at e4
      · rename_i zs G6 hz
        cases e4
        unfold stepO at hs
        split at hs
        · rename_i ρ2 hb
          refine ⟨D :: hθ, A2, _, _, ρ2, l3, r3, hb, fun σ2 l2 hw2 => ⟨by rw [hw2 _ ht]; exact wipe_wipe _ _, ?_⟩⟩
          dsimp only [tYes]
          rw [if_pos rfl]
          split at hs
          · rename_i its1 G7 hn
            refine ⟨D :: hθ, A2, G3, ρ2, its1, G7, c3, l2, hn, fun J1 A5 H5 c5 wk5 g5 => ?_⟩
            have ac5 := ac3.go g5 c5
            have l5 := l2.mono g5
            refine ⟨fun j k H6 => (k = its1.length - j ∧ j ≤ its1.length) ∧ ∃ A6 G8 av ad rest1, Gh (S.hide (D :: hθ)) A5 H5 A6 H6 ∧ Acc S hθ D A1 H1 A6 G8 H6 av ad ∧ compL (stepI cf t1 elt (wipeD ρ2 own1)) (its1.drop j) G8 = some (rest1, G4) ∧ ad ++ (rest1 ++ zs) = vs,
              ⟨_, ⟨rfl, Nat.zero_le _⟩, A5, G7, av, ad, ys, Gr.refl.gh, ac5, by simpa using hs, by simpa using e5⟩, ?_⟩
            rintro j k H6 ⟨⟨rfl, hle1⟩, A6, G8, av6, ad6, rest1, g6, ac6, e6, e7⟩
            have kk1 := wk5 (D :: hθ) A6 H6 (fun b hb => .inl hb) g6 j
            by_cases hlt1 : its1.length ≤ j
            · rw [List.drop_eq_nil_of_le hlt1] at e6
              simp only [compL, Option.some.injEq, Prod.mk.injEq] at e6
              obtain ⟨rfl, rfl⟩ := e6
              exact .inl ⟨kk1.1 hlt1 hle1, A6, _, av6, ad6, zs, ac6, hz, by simpa using e7⟩
            · have hlt1' : j < its1.length := by omega
              obtain ⟨go1, st1⟩ := kk1.2 _ (List.getElem?_eq_getElem hlt1')
              rw [List.drop_eq_getElem_cons hlt1'] at e6
              simp only [compL] at e6
              refine .inr ⟨go1, fun H7 => ∃ A7 G9 av ad rest1, Gh (S.hide (D :: hθ)) A5 H5 A7 H7 ∧ Acc S hθ D A1 H1 A7 G9 H7 av ad ∧ compL (stepI cf t1 elt (wipeD ρ2 own1)) (its1.drop (j + 1)) G9 = some (rest1, G4) ∧ ad ++ (rest1 ++ zs) = vs, fun H7 h => ⟨_, by omega, ⟨rfl, by omega⟩, h⟩, fun x1 H7 hy1 => ?_⟩
              obtain ⟨g7, h7⟩ := st1 x1 H7 hy1
              obtain ⟨c7, r7⟩ := h7 G8 ac6.cs
              have ac7 := ac6.go g7 c7
              have g57 : Gh (S.hide (D :: hθ)) A5 H5 A6 H7 := g6.trans g7.gh
              have l7 : SlOk (S.hide (D :: hθ)) A6 H7 (wipeD ρ2 own1) (wipe σ2 own1) := (l5.monoS g57.gs).wipe own1
              split at e6
              · rename_i ys1 G10 hs1
                split at e6
                · rename_i zs1 G11 hz1
                  cases e6
                  unfold stepI at hs1
                  split at hs1
                  · rename_i ρ3 hb1
                    refine ⟨D :: hθ, A6, _, _, ρ3, l7, r7, hb1, fun σ3 l3' hw3 => ⟨by rw [hw3 _ ht1]; exact wipe_wipe _ _, ?_⟩⟩
                    dsimp only [tYes]
                    rw [if_pos rfl]
                    split at hs1
                    · rename_i v G12 he
                      cases hs1
                      refine ⟨D :: hθ, A6, G8, ρ3, v, _, c7, l3', he, fun y A8 H8 g8 c8 r8 => ?_⟩
                      have ac8 := ac7.go g8 c8
                      refine ⟨av6, ac8.at_, ?_, A8, _, av6 ++ [y], ad6 ++ [v], zs1, ?_, ac8.push r8, hz1, by rw [← e7]; simp⟩
                      · have := ac6.rep.length
                        rw [← e7] at hl
                        simp at hl
                        omega
                      · exact (g57.trans g8.gh).upd (List.mem_cons_self ..)
                    · cases hs1
                  · cases hs1
                · cases e6
              · cases e6
          · cases hs
        · cases hs
      · cases e4
    · cases e4
end
end Iv

set_option Elab.async false
set_option linter.all false
set_option maxRecDepth 100000
set_option maxHeartbeats 4000000
namespace Iv
open PySem PySem.Spec PyProof.Rows L2
/-! zip of a tuple and a list -/
def ItzM (K : PySem.W.Frag) (a b : Addr) : It :=
  ⟨fun i H => ∃ (xs ys : List V) (x y : V), SqT K H a xs ∧ SqL K H b ys ∧ xs[i]? = some x ∧ ys[i]? = some y,
    fun i H v H' => ∃ T x y, v = .ref T ∧ H T = none ∧ H' = upd H T (.tup [x, y]) ∧ (∀ xs, SqT K H a xs → xs[i]? = some x) ∧ ∀ ys, SqL K H b ys → ys[i]? = some y,
    fun i H => ∃ xs ys : List V, SqT K H a xs ∧ SqL K H b ys ∧ i ≤ xs.length ∧ i ≤ ys.length ∧ (i = xs.length ∨ i = ys.length)⟩
theorem sepM {z TI TO i1 i2 a b : Addr} (D : ZipApart z TI TO i1 i2 a b) : PySem.ZipSep2 z TI TO i1 i2 [i1, a] [i2, b] where
  TIz := D.TIz
  TOz := D.TOz
  TITO := D.TITO
  TIi1 := D.TIi1
  mem1 := by simp
  zf1 := by simp; exact ⟨D.i1z.symm, D.l1z.symm⟩
  Tf1 := by simp; exact ⟨D.TOi1, D.l1TO.symm⟩
  TIi2 := D.TIi2
  mem2 := by simp
  zf2 := by simp; exact ⟨D.i2z.symm, D.l2z.symm⟩
  Tf2 := by simp; exact ⟨D.TOi2, D.l2TO.symm⟩
  sep1_2 := by simp; exact ⟨D.i12, D.l2i1.symm⟩
  sep2_1 := by simp; exact ⟨D.i12.symm, D.l1i2.symm⟩
theorem turn_zipM {P : Program} {w : World} {K : PySem.W.Frag} {elts : List Expr} {kk : Nat} {tpos : Pos} {a b z TI TO i1 i2 : Addr} (D : ZipApart z TI TO i1 i2 a b) :
    Turn P w K (.Tuple elts kk tpos) (ItzM K a b) [z, TI, TO, i1, i2] z (fun i h => IsZip h z TI TO .none ∧ IsPair h TI (.ref i1) (.ref i2) ∧ (∃ x y, IsPair h TO x y) ∧ h.IsTupleIter i1 a i ∧ h.IsListIter i2 b i) where
  mem := by simp
  obj := fun i h st c hc => by
    obtain ⟨hz, hTI, ⟨x, y, hTO⟩, ⟨o1, e1, _, d1⟩, ⟨o2, e2, _, d2⟩⟩ := st
    have e' : c = z ∨ c = TI ∨ c = TO ∨ c = i1 ∨ c = i2 := by simpa using hc
    rcases e' with q | q | q | q | q
    · rw [q]; exact ⟨_, hz, fun v q => nomatch q⟩
    · rw [q]; exact ⟨_, hTI, fun v q => nomatch q⟩
    · rw [q]; exact ⟨_, hTO, fun v q => nomatch q⟩
    · rw [q]; exact ⟨o1, e1, fun v q => by rw [d1] at q; cases q⟩
    · rw [q]; exact ⟨o2, e2, fun v q => by rw [d2] at q; cases q⟩
  keep := fun i h h' st k => by
    obtain ⟨hz, hTI, ⟨x, y, hTO⟩, h1, h2⟩ := st
    exact ⟨k z (by simp) _ hz, k TI (by simp) _ hTI, ⟨x, y, k TO (by simp) _ hTO⟩, h1.at fun o q => k i1 (by simp) o q, h2.at fun o q => k i2 (by simp) o q⟩
  item := by
    intro X hP hw hK hc i pins s σ H E I hf st hg
    subst hP hw hK
    obtain ⟨hz, hTI, ⟨x0, y0, hTO⟩, h1, h2⟩ := st
    obtain ⟨xs, ys, x, y, hqx, hqy, hx, hy⟩ := hg
    obtain ⟨its, rv, p, _⟩ := I.tuple hqx
    obtain ⟨its2, rv2, p2, _⟩ := I.list hqy
    obtain ⟨u, hu, ru⟩ := rv.get hx
    obtain ⟨u2, hu2, ru2⟩ := rv2.get hy
    have hzl : z < s.heap.objs.size := Heap.lt_size hz
    have hh : X.A.in1.handled = none := I.ok.hd hc
    refine PySem.wpAny_pyNext_zipD2_item (sepM D) (PySem.Draws.tuple (items := its.toArray) hh i1 a D.l1i1) (PySem.Draws.list (items := its2.toArray) hh i2 b D.l2i2) hz hTI hTO ⟨h1, p⟩ ⟨h2, p2.isList⟩
      (by rw [List.size_toArray]; exact (List.getElem?_eq_some_iff.mp hu).1) (by rw [List.size_toArray]; exact (List.getElem?_eq_some_iff.mp hu2).1) fun v1 v2 h' tk q1 q2 z' TO' h1' h2' hT hsz hk => ?_
    have ev1 : u = v1 := by
      have q1' : its.toArray[i]? = some v1 := q1
      have : its[i]? = some v1 := by simpa using q1'
      rw [hu] at this; exact Option.some.inj this
    have ev2 : u2 = v2 := by
      have q2' : its2.toArray[i]? = some v2 := q2
      have : its2[i]? = some v2 := by simpa using q2'
      rw [hu2] at this; exact Option.some.inj this
    subst ev1 ev2
    refine ⟨_, rfl, wpAny_letOwnedTupleGo_zip (s := { s with heap := h', toks := tk }) z' fun h'' z'' sb => ?_⟩
    have hT2 : h''.get? s.heap.objs.size = some { cls := .type "tuple", data := .seq #[u, u2] } := (sb.2 _ (Nat.ne_of_gt hzl)).trans hT
    have new : ObjOk X.prog X.w (upd H s.heap.objs.size (.tup [x, y])) h'' s.heap.objs.size (.tup [x, y]) :=
      ⟨by show 2 ≤ sizeLine; decide, [u, u2], .cons ru (.cons ru2 .nil), ⟨_, hT2, rfl, _, rfl⟩⟩
    have I1 : Inv X pins σ (upd H s.heap.objs.size (.tup [x, y])) { s with heap := h'', toks := tk } :=
      I.turnedNew (t' := tk) (ch := [z, TI, TO, i1, i2]) (fun c o hb q => (sb.2 c (fun q' => hb (by simp [q']))).trans (hk c o (fun q' => hb (by simp [q'])) (fun q' => hb (by simp [q'])) (fun q' => hb (by simp [q'])) (fun q' => hb (by simp [q'])) q)) hf (Nat.le_refl _) new
    refine ⟨.ref s.heap.objs.size, _, I1, rfl, ⟨_, x, y, rfl, I.hok.fresh (Nat.le_refl _), rfl, fun l hl => by rw [I.tuple_inj hl hqx]; exact hx, fun l hl => by rw [I.list_inj hl hqy]; exact hy⟩, ⟨z'', ?_, ⟨u, u2, ?_⟩, ?_, ?_⟩, fun c hcm => ?_⟩
    · exact (sb.2 _ D.TIz).trans (hk _ _ D.TIz D.TITO D.TIi1 D.TIi2 hTI)
    · exact (sb.2 _ D.TOz).trans TO'
    · exact h1'.1.at fun o q => (sb.2 _ D.i1z).trans q
    · exact h2'.1.at fun o q => (sb.2 _ D.i2z).trans q
    · have hlt : c < s.heap.objs.size := by
        have e' : c = z ∨ c = TI ∨ c = TO ∨ c = i1 ∨ c = i2 := by simpa using hcm
        rcases e' with q | q | q | q | q
        · rw [q]; exact hzl
        · rw [q]; exact Heap.lt_size hTI
        · rw [q]; exact Heap.lt_size hTO
        · rw [q]; obtain ⟨_, e1, _⟩ := h1; exact Heap.lt_size e1
        · rw [q]; obtain ⟨_, e2, _⟩ := h2; exact Heap.lt_size e2
      rw [upd_ne (Nat.ne_of_lt hlt)]
      exact (hf c hcm).1
  done := by
    intro X hP hw hK hc i pins s σ H E I hf st hg
    subst hP hw hK
    obtain ⟨hz, hTI, ⟨x0, y0, hTO⟩, h1, h2⟩ := st
    obtain ⟨xs, ys, hqx, hqy, l1, l2, hend⟩ := hg
    obtain ⟨its, rv, p, _⟩ := I.tuple hqx
    obtain ⟨its2, rv2, p2, _⟩ := I.list hqy
    have e1 := rv.length
    have e2 := rv2.length
    have hh : X.A.in1.handled = none := I.ok.hd hc
    exact PySem.wpAny_pyNext_zipD2_end (sepM D) (PySem.Draws.tuple (items := its.toArray) hh i1 a D.l1i1) (PySem.Draws.list (items := its2.toArray) hh i2 b D.l2i2) hz hTI hTO ⟨h1, p⟩ ⟨h2, p2.isList⟩
      (by rw [List.size_toArray]; omega) (by rw [List.size_toArray]; omega) (by rw [List.size_toArray, List.size_toArray]; omega) fun h' tk hk => ⟨rfl, I.turnedL (t' := tk) (ch := [z, TI, TO, i1, i2]) (fun c o hb q =>
      hk c o (fun q' => hb (by simp [q'])) (fun q' => hb (by simp [q'])) (fun q' => hb (by simp [q'])) (fun q' => hb (by simp [q'])) q) hf⟩
  self := fun A i s Q E st h => wpAny_pyIter_zip st.1 h
def iZipM (K : PySem.W.Frag) (ta : TA) : TI := fun σ H R => ta σ H fun vs H1 => ∃ a b xs ys, vs = [.ref a, .ref b] ∧ SqT K H1 a xs ∧ SqL K H1 b ys ∧ R (ItzM K a b) H1
theorem pi_zipM {X : Cx} {e e2 : Expr} {ta : TA} {p pos tpos : Pos} {elts : List Expr} {kk : Nat} (hg : Gl X "zip") (hm : X.mg "zip" = none) (ha : PA X [e, e2] ta)
    (hs : starEach [e, e2] X.env = (false, eval e X.env) :: starEach [e2] X.env) (hpl : (backTo pos (starEach [e2] X.env)).any (·.1) = false) :
    PI X (.Tuple elts kk tpos) (.Call (.Name "zip" p) [e, e2] [] pos) (iZipM X.K ta) := by
  refine ⟨fun pins s σ H R I h => ?_⟩
  refine Call_ (ld_blt I hg hm PyProof.Rows.boot_zip (PyProof.Rows.callWith_type1 (thn (ha.run pos pins s σ H _ I h) fun us s1 ⟨vs, H1, I1, r1, q1⟩ => ?_) hs hpl))
  obtain ⟨a, b, xs, ys, ex, hqx, hqy, q⟩ := q1
  subst ex
  cases r1 with
  | cons r rr =>
    cases rr with
    | cons r' rr =>
      cases rr
      cases r
      cases r'
      have fresh5 : ∀ c, c ∈ [s1.heap.objs.size + 4, s1.heap.objs.size + 2, s1.heap.objs.size + 3, s1.heap.objs.size, s1.heap.objs.size + 1] → FpOk X pins H1 c := fun c hcm => by
        have e' : c = s1.heap.objs.size + 4 ∨ c = s1.heap.objs.size + 2 ∨ c = s1.heap.objs.size + 3 ∨ c = s1.heap.objs.size ∨ c = s1.heap.objs.size + 1 := by simpa using hcm
        have hle : s1.heap.objs.size ≤ c := by
          rcases e' with z | z | z | z | z
          · rw [z]; exact Nat.le_add_right _ _
          · rw [z]; exact Nat.le_add_right _ _
          · rw [z]; exact Nat.le_add_right _ _
          · rw [z]; exact Nat.le_refl _
          · rw [z]; exact Nat.le_add_right _ _
        exact I1.fpOk hle (I1.hok.fresh hle)
      obtain ⟨its, rv, p1, _⟩ := I1.tuple hqx
      obtain ⟨its2, rv2, p2, _⟩ := I1.list hqy
      obtain ⟨o1, ho1, _⟩ := id p1
      refine PySem.zip_begins2 (PySem.begins_tuple a its.toArray) (PySem.begins_list b its2.toArray) p1 p2.isList fun h' hz hTI hTO h1 h2 hsz hk => wpAny_pyIter_zip hz ?_
      have I2 : Inv X pins σ H1 { s1 with heap := h' } := I1.kept (t' := s1.toks) hk
      exact ⟨s1.heap.objs.size + 4, [s1.heap.objs.size + 4, s1.heap.objs.size + 2, s1.heap.objs.size + 3, s1.heap.objs.size, s1.heap.objs.size + 1], _, _, H1, rfl, I2, turn_zipM (PySem.W.ktu_apart s1.heap.objs.size a b (Heap.lt_size ho1) p2.lt), ⟨hz, hTI, ⟨_, _, hTO⟩, ⟨_, h1, rfl, rfl⟩, ⟨_, h2, rfl, rfl⟩⟩, fresh5, q⟩
section
variable {X : Cx} {S : Sta} {cf : CF} {A A1 : List Addr} {G G' : List C} {H H1 : Hp} {σ : L2.St} {ρ : En}
theorem wk_zipM {a b : Addr} {ds es : List D} (r : Rep S A1 H1 (.ref a) (.tup ds)) (r' : Rep S A1 H1 (.ref b) (.lst es)) : Wk S (ItzM S.K a b) (List.zipWith (fun a b => .tup [a, b]) ds es) A1 H1 := by
  intro h' A2 H2 hh g i
  obtain ⟨_, vs, ea, sq, q⟩ := tup_sq ((r.hide hh).monoS g.gs)
  cases ea
  have sq : SqT S.K H2 a vs := sq
  have r3 := (r'.hide hh).monoS g.gs
  cases r3 with
  | @lst _ us _ n3 rd3 q3 =>
    refine ⟨fun hi hi' => ⟨vs, us, sq, .inl rd3, ?_, ?_, ?_⟩, fun d hd => ?_⟩
    · rw [q.length]; rw [List.length_zipWith] at hi'; omega
    · rw [q3.length]; rw [List.length_zipWith] at hi'; omega
    · rw [q.length, q3.length]; rw [List.length_zipWith] at hi hi'; omega
    obtain ⟨x0, y0, e1, e2, rfl⟩ := zip_get hd
    obtain ⟨v, ev, rv⟩ := q.get e1
    obtain ⟨u, eu, ru⟩ := q3.get e2
    refine ⟨⟨vs, us, v, u, sq, .inl rd3, ev, eu⟩, fun x H3 ⟨T, x1, y1, f1, f2, f3, f4, f5⟩ => ?_⟩
    subst f1 f3
    have t1 := f4 vs sq
    have t2 := f5 us (.inl rd3)
    rw [ev] at t1
    rw [eu] at t2
    cases t1
    cases t2
    exact ⟨Gr.new f2, fun G2 c => ⟨c.new f2, .tup (c.fresh f2) upd_same (.cons (rv.mono (Gr.new f2)) (.cons (ru.mono (Gr.new f2)) .nil))⟩⟩
theorem i_zip {a b : E} {e f : Expr} {elts : List Expr} {kk : Nat} {p pos tpos : Pos} (ok : XOk X S cf) (hg : Gl X "zip") (hm : X.mg "zip" = none) (he : PE X e (tEv S cf a)) (hf : PE X f (tEv S cf b)) (hs : isStarE e = false) (ht : isStarE f = false) :
    PI X (.Tuple elts kk tpos) (.Call (.Name "zip" p) [e, f] [] pos) (iTv X S cf .zip a b) := by
  have h1 : starEach [e, f] X.env = (false, eval e X.env) :: starEach [f] X.env := starE _ _ _ hs
  have h2 : (backTo pos (starEach [f] X.env)).any (·.1) = false := backNo _ _ _ (by simp [noStar, ht])
  have pa : PA X [e, f] (tLv S cf (.cons a (.cons b .nil))) := s_cons he (s_cons hf s_nil ht) hs
  refine PI.mono (PI.or (RZ.pi_zipA hg hm pa h1 h2) (pi_zipM hg hm pa h1 h2)) fun σ H R hw => ?_
  obtain ⟨hθ, A, G, ρ, its, G', cs, l, ev, w⟩ := hw
  obtain ⟨x, G1, y, ha, hb, hi⟩ := evI_some ev
  have eK : X.K = (S.hide hθ).K := ok.K
  have el : evL cf (.cons a (.cons b .nil)) ρ G = some ([x, y], G') := by simp only [evL, ha, hb]
  simp only [itemsOf] at hi
  split at hi
  · cases hi
    refine .inl ⟨hθ, A, G, ρ, _, G', cs, l, el, fun vs A1 H1 g1 c1 r1 => ?_⟩
    obtain ⟨v, u, rfl, r, r'⟩ := reps2 r1
    obtain ⟨p1, us1, rfl, rd1, _⟩ := lst_rd (show lstOf G' (.lst _) = some _ from rfl) c1 r
    obtain ⟨p2, us2, rfl, rd2, _⟩ := lst_rd (show lstOf G' (.lst _) = some _ from rfl) c1 r'
    refine ⟨p1, p2, us1, us2, rfl, .inl ⟨.inl rd1, .inl rd2, ?_⟩⟩
    rw [eK]
    exact w _ A1 H1 c1 (wk_zip r r') (.inl g1)
  · cases hi
    refine .inl ⟨hθ, A, G, ρ, _, G', cs, l, el, fun vs A1 H1 g1 c1 r1 => ?_⟩
    obtain ⟨v, u, rfl, r, r'⟩ := reps2 r1
    obtain ⟨p1, us1, rfl, sq1, _⟩ := tup_sq r
    obtain ⟨p2, us2, rfl, sq2, _⟩ := tup_sq r'
    refine ⟨p1, p2, us1, us2, rfl, .inr ⟨by rw [eK]; exact sq1, by rw [eK]; exact sq2, ?_⟩⟩
    rw [eK]
    exact w _ A1 H1 c1 (wk_zipT r r') (.inl g1)
  · cases hi
    refine .inr ⟨hθ, A, G, ρ, _, G', cs, l, el, fun vs A1 H1 g1 c1 r1 => ?_⟩
    obtain ⟨v, u, rfl, r, r'⟩ := reps2 r1
    obtain ⟨p1, us1, rfl, sq1, _⟩ := tup_sq r
    obtain ⟨p2, us2, rfl, rd2, _⟩ := lst_rd (show lstOf G' (.lst _) = some _ from rfl) c1 r'
    refine ⟨p1, p2, us1, us2, rfl, by rw [eK]; exact sq1, .inl rd2, ?_⟩
    rw [eK]
    exact w _ A1 H1 c1 (wk_zipM r r') (.inl g1)
  · cases hi
end
end Iv

set_option Elab.async false
set_option linter.all false
set_option maxRecDepth 100000
set_option maxHeartbeats 4000000
namespace Iv
open PySem PySem.Spec PyProof.Rows L2
/-! t[::-1] of a tuple -/
theorem pickR (xs : Array Value) : ((List.range xs.size).filterMap fun (k : Nat) => xs[(((xs.size : Int) - 1) + (k : Int) * (-1)).toNat]?).toArray = xs.toList.reverse.toArray := by
  congr 1
  apply List.ext_getElem?
  intro i
  have e : ((List.range xs.size).filterMap fun (k : Nat) => xs[(((xs.size : Int) - 1) + (k : Int) * (-1)).toNat]?) = (List.range xs.size).map fun k => xs.toList.getD (xs.size - 1 - k) Value.none := by
    have go : ∀ (l : List Nat), (∀ k ∈ l, k < xs.size) → (l.filterMap fun (k : Nat) => xs[(((xs.size : Int) - 1) + (k : Int) * (-1)).toNat]?) = l.map fun k => xs.toList.getD (xs.size - 1 - k) Value.none := by
      intro l
      induction l with
      | nil => intro _; rfl
      | cons k l ih =>
        intro h
        have hk := h k (List.mem_cons_self ..)
        have e1 : (((xs.size : Int) - 1) + (k : Int) * (-1)).toNat = xs.size - 1 - k := by omega
        have hlt : xs.size - 1 - k < xs.size := by omega
        rw [List.filterMap_cons, e1, Array.getElem?_eq_getElem hlt]
        simp only [List.map_cons]
        rw [ih fun k hk => h k (List.mem_cons_of_mem _ hk)]
        congr 1
        rw [List.getD_eq_getElem?_getD, List.getElem?_eq_getElem (by simpa using hlt)]
        simp
    exact go _ fun k hk => by simpa using hk
  rw [e, List.getElem?_map]
  by_cases hi : i < xs.size
  · rw [List.getElem?_range hi, List.getElem?_reverse (by simpa using hi)]
    have hlt : xs.size - 1 - i < xs.toList.length := by simp; omega
    simp only [Option.map_some, Array.length_toList]
    rw [List.getD_eq_getElem?_getD, List.getElem?_eq_getElem hlt]
    rfl
  · rw [List.getElem?_eq_none (by simpa using hi), List.getElem?_eq_none (by simpa using hi)]
    rfl
section
variable {prog : Program} {w : World} {A : Around} {E : Value → Shared → Prop} {s : Shared}
theorem sliceApplied_rev {sl : Addr} {t : Tok} {n : Nat} {Q : Int × Int × Nat → Shared → Prop} (hs : s.heap.IsSliceOf sl .none .none (.int (-1) t))
    (h : Q ((n : Int) - 1, -1, n) s) : wpAny (model prog w) A (Builtin.Slice.sliceApplied (.ref sl) (pure (n : Int))) Q E s := by
  obtain ⟨os, hos, hcs, hds⟩ := id hs
  unfold Builtin.Slice.sliceApplied Builtin.Slice.sliceFields
  refine wpAny_bind (wpAny_bind (wpAny_field hos hds (x := .none) rfl (wpAny_bind (wpAny_field hos hds (x := .none) rfl (wpAny_bind (wpAny_field hos hds (x := .int (-1) t) rfl (wpAny_pure ?_)))))))
  refine wpAny_bind (slicePart_int ?_)
  show wpAny _ _ (if ((-1 : Int) == 0) = true then _ else _) _ _ s
  rw [if_neg (by decide)]
  refine wpAny_bind (slicePart_none (wpAny_bind (slicePart_none (wpAny_bind (wpAny_pure ?_)))))
  have e1 : Builtin.Slice.sliceAdjust Option.none Option.none (-1) (n : Int) = ((n : Int) - 1, -1) := rfl
  have e2 : Builtin.Slice.slicePlaces ((n : Int) - 1) (-1) (-1) = n := by
    unfold Builtin.Slice.slicePlaces
    rw [if_neg (by decide)]
    split
    · have : ((n : Int) - 1 - -1 - 1) / - -1 + 1 = n := by
        have e : (- -1 : Int) = 1 := rfl
        rw [e, Int.ediv_one]; omega
      rw [this]; simp
    · have : n = 0 := by omega
      rw [this]; rfl
  show wpAny _ _ (match Builtin.Slice.sliceAdjust Option.none Option.none (-1) (n : Int) with | (lo, hi) => pure (lo, (-1 : Int), Builtin.Slice.slicePlaces lo hi (-1))) _ _ s
  rw [e1]
  show wpAny _ _ (pure ((n : Int) - 1, (-1 : Int), Builtin.Slice.slicePlaces ((n : Int) - 1) (-1) (-1))) _ _ s
  rw [e2]
  exact wpAny_pure h
theorem getItem_tuple_rev {t sl : Addr} {items : Array Value} {k : Tok} {Q : Value → Shared → Prop} (ht : IsTup s.heap t items) (hs : s.heap.IsSliceOf sl .none .none (.int (-1) k))
    (h : Q (.ref s.heap.objs.size) { s with heap := s.heap.push { cls := .type "tuple", data := .seq items.toList.reverse.toArray } })
    (hsz : items.size ≤ sizeLine) : wpAny (model prog w) A (getItem (.ref t) (.ref sl)) Q E s := by
  have htake : sizeOk (.seq items.toList.reverse.toArray) := by
    show items.toList.reverse.toArray.size ≤ sizeLine
    simpa using hsz
  obtain ⟨os, hos, hcs, hds⟩ := id hs
  have hTs : s.TypeIs (.ref sl) "slice" := ⟨os, hos, hcs⟩
  unfold getItem
  try with_reducible refine wpAny_holding ?_
  first | refine wpAny_bind (wpAny_pure ?_) | skip
  refine wpAny_bind (wpAny_sequenceKey ht.typeIs (by decide) ?_)
  refine wpAny_bind (wpAny_callSpecial?_slot (name := Str.ofString "__getitem__") ht.typeIs PyProof.Rows.slot_tuple_getitem
    (wpAny_call_entry PyProof.Rows.slot_tuple_getitem ht.typeIs entry_tuple_getitem ?_ (args_tuple_getitem _ _)))
  show wpAny _ _ (Builtin.Tuple.tupleItemsOf (.ref t) >>= _) _ _ s
  refine wpAny_bind (tupleItemsOf_ ht ?_)
  refine wpAny_bind (wpAny_typeOf hTs ?_)
  rw [if_pos (by decide)]
  refine wpAny_bind (sliceApplied_rev hs ?_)
  have hno : ¬ ((((items.size : Int) - 1) == 0 && (-1 : Int) == 1 && items.size == items.size) = true) := by
    intro q
    rw [Bool.and_eq_true, Bool.and_eq_true] at q
    exact absurd (eq_of_beq q.1.2) (by decide)
  show wpAny _ _ (if (((items.size : Int) - 1) == 0 && (-1 : Int) == 1 && items.size == items.size) = true then _ else _) _ _ s
  rw [if_neg hno, pickR]
  first
    | exact wpAny_bind (m := Builtin.Tuple.tupleExact _) (wpAny_newObj_type (wpAny_pure ⟨_, rfl, wpAny_pure h⟩) htake)
    | exact wpAny_bind (m := Builtin.Tuple.tupleExact _) (wpAny_newObj_type (wpAny_bind (wpAny_pure (wpAny_pure ⟨_, rfl, wpAny_pure h⟩))) htake)
    | exact wpAny_bind (wpAny_bind (m := Builtin.Tuple.tupleExact _) (wpAny_newObj_type (wpAny_pure (wpAny_pure ⟨_, rfl, wpAny_pure h⟩)) htake))
    | exact wpAny_bind (wpAny_bind (m := Builtin.Tuple.tupleExact _) (wpAny_newObj_type (wpAny_pure ⟨_, rfl, wpAny_pure h⟩) htake))
end
section
variable {X : Cx} {S : Sta} {cf : CF}
def tRevT (K : PySem.W.Frag) (te : TE) : TE := fun σ H Q => te σ H fun x H1 => ∃ a xs, x = .ref a ∧ SqT K H1 a xs ∧ ∀ p, H1 p = none → Q (.ref p) (upd H1 p (.tup xs.reverse))
theorem pe_revT {e : Expr} {te : TE} {k : Nat} {p1 p2 p3 pos : Pos} (he : PE X e te) : PE X (.Subscript e (.Slice none none (some (.UnaryOp .USub (.Constant (.int 1) k p1) p2)) p3) pos) (tRevT X.K te) := by
  refine ⟨fun pins s σ H Q I h => ?_⟩
  refine Subscript_ (thn (he.run pins s σ H _ I h) fun v s1 ⟨x, H1, I1, r1, q1⟩ => ?_)
  obtain ⟨a, xs, ex, hx, q⟩ := q1
  subst ex
  cases r1
  have hst : PO X (some (.UnaryOp .USub (.Constant (.int 1) k p1) p2)) (tPart (tUn (rU fun i => .int (-i)) (tC (.int 1)))) := po_some (pe_un un_neg pe_int)
  refine wpAny_Slice (thn (po_none.run pins s1 σ H1 (fun o H2 => o = none ∧ H2 = H1) I1 ⟨rfl, rfl⟩) fun vl s2 ⟨l, H2, I2, pl, el, e2⟩ => ?_)
  subst el e2
  refine thn (po_none.run pins s2 σ H2 (fun o H3 => o = none ∧ H3 = H2) I2 ⟨rfl, rfl⟩) fun vu s3 ⟨u, H3, I3, pu, eu, e3⟩ => ?_
  subst eu e3
  refine thn (hst.run pins s3 σ H3 (fun o H4 => o = some (-1) ∧ H4 = H3) I3 ⟨1, rfl, -1, rfl, rfl, rfl⟩) fun vs s4 ⟨o, H4, I4, ps, eo, e4⟩ => ?_
  subst eo e4
  cases pl
  cases pu
  cases ps with
  | int _ kt =>
  have I5 : Inv X pins σ H4 { s4 with heap := s4.heap.push { cls := .type "slice", data := .fields #[.none, .none, .int (-1) kt] } } := I4.kept (t' := s4.toks) fun b ob q => Heap.get?_push_of_some _ q
  obtain ⟨its, r, ht, hz⟩ := I5.tuple hx
  have hlen := r.length
  show wpAny (model X.prog X.w) X.A (subscriptTail e (.Slice none none (some (.UnaryOp .USub (.Constant (.int 1) k p1) p2)) p3) (.ref a) (.ref s4.heap.objs.size)) (EP X pins σ Q) X.xe { s4 with heap := s4.heap.push { cls := .type "slice", data := .fields #[.none, .none, .int (-1) kt] } }
  refine tail_any (ops := [.ref a, .ref s4.heap.objs.size]) ht.typeIs (PyProof.Rows.slot_tuple_getitem.lookup) ?_ (by with_unfolding_all rfl)
  refine getItem_tuple_rev ht (Heap.IsSliceOf.new _ .none .none (.int (-1) kt)) ?_ (by rw [List.size_toArray]; omega)
  refine ⟨.ref _, _, I5.laid (t' := s4.toks) (o := .tup xs.reverse) (fun b ob q => Heap.get?_push_of_some _ q) (Nat.le_refl _) ?_, rfl, q _ (I5.hok.fresh (Nat.le_refl _))⟩
  exact ⟨by rw [List.length_reverse]; exact hz, _, by simpa using r.reverse, IsTup.new _ _⟩
theorem PE.or {e : Expr} {t t' : TE} (h : PE X e t) (h' : PE X e t') : PE X e (fun σ H Q => t σ H Q ∨ t' σ H Q) := ⟨fun pins s σ H Q I hw => hw.elim (h.run pins s σ H Q I) (h'.run pins s σ H Q I)⟩
theorem s_rev {c : Bool} {a : E} {ea : Expr} {k : Nat} {p1 p2 p3 pos : Pos} (ok : XOk X S cf) (ia : PE X ea (tEv S cf a)) : PE X (.Subscript ea (.Slice none none (some (.UnaryOp .USub (.Constant (.int 1) k p1) p2)) p3) pos) (tEv S cf (.rev c a)) := by
  refine PEm (PE.or (pe_revL ia) (pe_revT ia)) fun σ H Q hh => ?_
  obtain ⟨hθ, A, G, ρ, d, G', cs, l, e, w⟩ := hh
  have ok := ok.hide hθ
  simp only [evE] at e
  split at e
  · rename_i xs G1 ha
    cases e
    refine .inr ⟨hθ, A, G, ρ, _, _, cs, l, ha, fun v A1 H1 g1 c1 r1 => ?_⟩
    obtain ⟨b, vs, rfl, sq, q⟩ := tup_sq r1
    exact ⟨b, vs, rfl, by rw [ok.K]; exact sq, tup_new c1 q.rev (w.mono g1)⟩
  · rename_i x G1 _ ha
    split at e
    · rename_i xs hx
      refine .inl ⟨hθ, A, G, ρ, _, _, cs, l, ha, fun v A1 H1 g1 c1 r1 => ?_⟩
      obtain ⟨b, vs, rfl, rd, q⟩ := lst_rd hx c1 r1
      exact ⟨b, vs, rfl, .inl rd, (mkL_ok e c1 q.rev (w.mono g1)).2⟩
    · cases e
  · cases e
end
end Iv

set_option Elab.async false
set_option linter.all false
set_option maxRecDepth 100000
set_option maxHeartbeats 4000000
namespace Iv
open PySem PySem.Spec PyProof.Rows L2
/-! set(xs) of a list of texts -/
theorem dups_push (l : List Str) (z : Str) : (l ++ [z]).eraseDups.length = if z ∈ l then l.eraseDups.length else l.eraseDups.length + 1 := by
  rw [List.eraseDups_append]
  by_cases h : z ∈ l
  · rw [if_pos h]
    have : [z].removeAll l = [] := by
      simp [List.removeAll, h]
    rw [this]
    simp
  · rw [if_neg h]
    have : [z].removeAll l = [z] := by
      simp [List.removeAll, h]
    rw [this]
    simp [List.eraseDups_cons]
theorem dups_le (l : List Str) : ∀ i, (l.take i).eraseDups.length ≤ i
  | 0 => by simp
  | i + 1 => by
    have ih := dups_le l i
    rw [List.take_add_one]
    cases h : l[i]? with
    | none => simp; omega
    | some z =>
      show (l.take i ++ [z]).eraseDups.length ≤ i + 1
      rw [dups_push]
      split <;> omega
end Iv

set_option Elab.async false
set_option linter.all false
set_option maxRecDepth 100000
set_option maxHeartbeats 4000000
namespace Iv
open PySem PySem.Spec PyProof.Rows L2
/-! dict(zip(t, xs)), t a tuple, xs a list: the turns of such a zip while its tuple is still out -/
section
variable {prog : Program} {w : World} {A : Around} {E : Value → Shared → Prop} {s : Shared}
theorem zipM_item_held {z TI TO T i1 i2 l1 l2 : Addr} {f : Bool} {oT : Obj} {k1 k2 : Nat} {xs ys : Array Value} {x y : Value} {Q : Option Value → Shared → Prop} (D : ZipApart z TI TO i1 i2 l1 l2)
    (hz : PySem.IsZipHeld s.heap z TI TO T f) (hT : s.heap.get? T = some oT) (hTI : IsPair s.heap TI (.ref i1) (.ref i2))
    (h1 : s.heap.IsTupleIter i1 l1 k1) (h2 : s.heap.IsListIter i2 l2 k2) (hl1 : s.heap.IsTuple l1 xs) (hl2 : s.heap.IsList l2 ys) (hx : xs[k1]? = some x) (hy : ys[k2]? = some y)
    (hQ : ∀ h', PySem.IsZipHeld h' z TI TO T true → h'.IsTupleIter i1 l1 (k1 + 1) → h'.IsListIter i2 l2 (k2 + 1) → IsPair h' s.heap.objs.size x y → h'.objs.size = s.heap.objs.size + 1 →
      (∀ c o, c ≠ z → c ≠ i1 → c ≠ i2 → s.heap.get? c = some o → h'.get? c = some o) → Q (some (.ref s.heap.objs.size)) { s with heap := h' }) :
    wpAny (model prog w) A (pyNext (.ref z)) Q E s := by
  have hTy : s.TypeIs (.ref z) "zip" := ⟨_, hz, rfl⟩
  have step : ∀ {A : Around} {E : Value → Shared → Prop} {Q : Value → Shared → Prop}, (∀ h', PySem.IsZipHeld h' z TI TO T true → h'.IsTupleIter i1 l1 (k1 + 1) → h'.IsListIter i2 l2 (k2 + 1) → IsPair h' s.heap.objs.size x y → h'.objs.size = s.heap.objs.size + 1 →
      (∀ c o, c ≠ z → c ≠ i1 → c ≠ i2 → s.heap.get? c = some o → h'.get? c = some o) → Q (.ref s.heap.objs.size) { s with heap := h' }) →
      wpAny (model prog w) A (Builtin.«zip.__next__» ⟨[.ref z], []⟩) (fun fin s' => ∃ v, fin = .done (.ret v) ∧ Q v s') E s := by
    intro A E Q hQ
    show wpAny _ _ (field (.ref z) 2 >>= _) _ _ _
    refine wpAny_bind (wpAny_field hz rfl (x := .bool false) rfl ?_)
    show wpAny _ _ (field (.ref z) 3 >>= _) _ _ _
    refine wpAny_bind (wpAny_field hz rfl (x := .ref TI) rfl ?_)
    refine wpAny_bind (wpAny_seqItems hTI rfl ?_)
    show wpAny _ _ (Builtin.SmallTypes.ownedTupleIsFree (.ref z) >>= _) _ _ _
    refine wpAny_bind (wpAny_tupleHeld_zip hz hT fun h₁ hz₁ hs₁ => ?_)
    simp only [Bool.false_eq_true, if_false]
    refine wpAny_bind ?_
    rw [← Array.forIn_toList]
    simp only [List.forIn_cons, List.forIn_nil]
    refine wpAny_bind (wpAny_bind (wpAny_holding ?_))
    show wpAny _ _ (Builtin.SmallTypes.nextOf (.ref i1) >>= _) _ _ _
    refine wpAny_bind (RZ.nextOf_tuple_item (s := { s with heap := h₁ }) (h1.extBut hs₁.extBut D.i1z) (hl1.extBut hs₁.extBut D.l1z) hx fun h₂ h1₂ hs₂ => wpAny_pure ?_)
    refine wpAny_pure ?_
    refine wpAny_bind (wpAny_bind (wpAny_holding ?_))
    show wpAny _ _ (Builtin.SmallTypes.nextOf (.ref i2) >>= _) _ _ _
    refine wpAny_bind (wpAny_nextOf_list_item (s := { s with heap := h₂ }) ((h2.extBut hs₁.extBut D.i2z).extBut hs₂.extBut D.i12.symm) ((hl2.extBut hs₁.extBut D.l2z).extBut hs₂.extBut D.l2i1) hy fun h₃ h2₃ hs₃ => wpAny_pure ?_)
    refine wpAny_pure (wpAny_pure ?_)
    show wpAny _ _ (newTuple [x, y] >>= _) _ _ _
    refine wpAny_bind (wpAny_newTuple ?_)
    have hsz : h₃.objs.size = s.heap.objs.size := by rw [hs₃.1, hs₂.1, hs₁.1]
    have hz₃ : PySem.IsZipHeld h₃ z TI TO T true := hs₃.extBut _ _ D.i2z.symm (hs₂.extBut _ _ D.i1z.symm hz₁)
    have hk : ∀ c o, c ≠ z → c ≠ i1 → c ≠ i2 → s.heap.get? c = some o → h₃.get? c = some o := fun c o c1 c2 c3 e => hs₃.extBut _ _ c3 (hs₂.extBut _ _ c2 (hs₁.extBut _ _ c1 e))
    have h1₃ : h₃.IsTupleIter i1 l1 (k1 + 1) := h1₂.extBut hs₃.extBut D.i12
    refine wpAny_pure ⟨_, rfl, ?_⟩
    show Q (.ref h₃.objs.size) _
    have hp : IsPair (h₃.push { cls := .type "tuple", data := .seq #[x, y] }) h₃.objs.size x y := Heap.get?_push_size _ rfl
    have hz4 : (h₃.push { cls := .type "tuple", data := .seq #[x, y] }).objs.size = h₃.objs.size + 1 := Heap.size_push ..
    rw [hsz] at hp hz4 ⊢
    exact hQ _ (Heap.get?_push_of_some _ hz₃) (h1₃.at fun o e => Heap.get?_push_of_some _ e) (h2₃.at fun o e => Heap.get?_push_of_some _ e) hp hz4 fun c o c1 c2 c3 e => Heap.get?_push_of_some _ (hk c o c1 c2 c3 e)
  unfold pyNext
  exact wpAny_bind (wpAny_attempt (wpAny_callSpecial?_slot (name := Str.ofString "__next__") hTy F.slot_zip_next
    (wpAny_call_entry F.slot_zip_next hTy F.entry_zip_next
      (step fun h' a1 a3 a4 a5 a6 a7 => wpAny_pure (hQ h' a1 a3 a4 a5 a6 a7)) (F.args_zip_next_1 _))))
theorem zipM_end_held {z TI TO T i1 i2 l1 l2 : Addr} {f : Bool} {oT : Obj} {k1 k2 : Nat} {xs ys : Array Value} {Q : Option Value → Shared → Prop} (hh : A.handled = none) (D : ZipApart z TI TO i1 i2 l1 l2)
    (hz : PySem.IsZipHeld s.heap z TI TO T f) (hT : s.heap.get? T = some oT) (hTI : IsPair s.heap TI (.ref i1) (.ref i2))
    (h1 : s.heap.IsTupleIter i1 l1 k1) (h2 : s.heap.IsListIter i2 l2 k2) (hl1 : s.heap.IsTuple l1 xs) (hl2 : s.heap.IsList l2 ys) (hend : xs[k1]? = none ∨ ys[k2]? = none)
    (hQ : ∀ h', (∀ c o, c ≠ z → c ≠ i1 → c ≠ i2 → s.heap.get? c = some o → h'.get? c = some o) → Q none { s with heap := h' }) : wpAny (model prog w) A (pyNext (.ref z)) Q E s := by
  have hTy : s.TypeIs (.ref z) "zip" := ⟨_, hz, rfl⟩
  have step : ∀ {A : Around} {E : Value → Shared → Prop} {Q : PySem.Fin → Shared → Prop}, A.handled = none → (∀ h' e, (∀ c o, c ≠ z → c ≠ i1 → c ≠ i2 → s.heap.get? c = some o → h'.get? c = some o) → (∃ o, h'.get? e = some o ∧ o.cls = .type "StopIteration") → E (.ref e) { s with heap := h' }) →
      wpAny (model prog w) A (Builtin.«zip.__next__» ⟨[.ref z], []⟩) Q E s := by
    intro A E Q hh hE
    show wpAny _ _ (field (.ref z) 2 >>= _) _ _ _
    refine wpAny_bind (wpAny_field hz rfl (x := .bool false) rfl ?_)
    show wpAny _ _ (field (.ref z) 3 >>= _) _ _ _
    refine wpAny_bind (wpAny_field hz rfl (x := .ref TI) rfl ?_)
    refine wpAny_bind (wpAny_seqItems hTI rfl ?_)
    show wpAny _ _ (Builtin.SmallTypes.ownedTupleIsFree (.ref z) >>= _) _ _ _
    refine wpAny_bind (wpAny_tupleHeld_zip hz hT fun h₁ hz₁ hs₁ => ?_)
    simp only [Bool.false_eq_true, if_false]
    refine wpAny_bind ?_
    rw [← Array.forIn_toList]
    simp only [List.forIn_cons, List.forIn_nil]
    refine wpAny_bind (wpAny_bind (wpAny_holding ?_))
    show wpAny _ _ (Builtin.SmallTypes.nextOf (.ref i1) >>= _) _ _ _
    cases hx : xs[k1]? with
    | none =>
      refine wpAny_bind (RZ.nextOf_tuple_end (s := { s with heap := h₁ }) hh (h1.extBut hs₁.extBut D.i1z) (hl1.extBut hs₁.extBut D.l1z) hx fun h₂ e hs₂ he => ?_)
      exact hE h₂ e (fun c o c1 c2 _ x => hs₂ _ _ c2 (hs₁.extBut _ _ c1 x)) he
    | some x =>
      have hy : ys[k2]? = none := by rcases hend with h | h; rw [hx] at h; cases h; exact h
      refine wpAny_bind (RZ.nextOf_tuple_item (s := { s with heap := h₁ }) (h1.extBut hs₁.extBut D.i1z) (hl1.extBut hs₁.extBut D.l1z) hx fun h₂ h1₂ hs₂ => wpAny_pure ?_)
      refine wpAny_pure ?_
      refine wpAny_bind (wpAny_bind (wpAny_holding ?_))
      show wpAny _ _ (Builtin.SmallTypes.nextOf (.ref i2) >>= _) _ _ _
      refine wpAny_bind (wpAny_nextOf_list_end (s := { s with heap := h₂ }) hh ((h2.extBut hs₁.extBut D.i2z).extBut hs₂.extBut D.i12.symm) ((hl2.extBut hs₁.extBut D.l2z).extBut hs₂.extBut D.l2i1) hy fun h₃ e hs₃ he => ?_)
      exact hE h₃ e (fun c o c1 c2 c3 x => hs₃ _ _ c3 (hs₂.extBut _ _ c2 (hs₁.extBut _ _ c1 x))) he
  unfold pyNext
  refine wpAny_bind (wpAny_attempt (wpAny_callSpecial?_slot (name := Str.ofString "__next__") hTy F.slot_zip_next
    (wpAny_call_entry F.slot_zip_next hTy F.entry_zip_next (step hh fun h' e hk he => ?_) (F.args_zip_next_1 _))))
  obtain ⟨o, ho, hc⟩ := he
  refine wpAny_bind (wpAny_isInstance (T := "StopIteration") (b := true) ⟨o, ho, hc⟩ isSubtype_stop ?_)
  exact wpAny_pure (hQ _ hk)
end
section
variable {prog : Program} {w : World}
theorem PairArgM (z TI TO i1 i2 l1 l2 : Addr) (D : ZipApart z TI TO i1 i2 l1 l2) (xs ys : Array Value) :
    PySem.PairArg prog w "zip" z [z, TI, TO, i1, i2, l1, l2] [z, TO, i1, i2] (min xs.size ys.size) (fun i k v => xs[i]? = some k ∧ ys[i]? = some v)
      (fun h => IsZip h z TI TO .none ∧ IsPair h TI (.ref i1) (.ref i2) ∧ (∃ a b, IsPair h TO a b) ∧ h.IsTupleIter i1 l1 0 ∧ h.IsListIter i2 l2 0 ∧ h.IsTuple l1 xs ∧ h.IsList l2 ys) where
  type := fun s ok => ⟨_, ok.1, rfl⟩
  notDict := by decide
  keep := fun h h' ok hk => by
    obtain ⟨hz, hTI, ⟨a, b, hTO⟩, h1, h2, hl1, hl2⟩ := ok
    exact ⟨hk _ _ hz, hk _ _ hTI, ⟨a, b, hk _ _ hTO⟩, h1.at fun o e => hk _ o e, h2.at fun o e => hk _ o e, hl1.at fun o e => hk _ o e, hl2.at fun o e => hk _ o e⟩
  there := fun h ok b hb => by
    obtain ⟨hz, hTI, ⟨a, c, hTO⟩, ⟨o1, h1, _⟩, ⟨o2, h2, _⟩, ⟨o3, hl1, _⟩, ⟨o4, hl2, _⟩⟩ := ok
    simp only [List.mem_cons, List.not_mem_nil, or_false] at hb
    rcases hb with rfl | rfl | rfl | rfl | rfl | rfl | rfl
    all_goals first | exact ⟨_, hz⟩ | exact ⟨_, hTI⟩ | exact ⟨_, hTO⟩ | exact ⟨_, h1⟩ | exact ⟨_, h2⟩ | exact ⟨_, hl1⟩ | exact ⟨_, hl2⟩
  sub := fun b hb => by simp at hb ⊢; rcases hb with rfl | rfl | rfl | rfl <;> simp
  noKeys := fun A s Q E hA ok h => PySem.getAttrOr_miss_zip ok.1 rfl rfl rfl PySem.zip_no_keys (by decide +kernel) hA h
  iter := fun A s d Q E hA ok hd hdf h => by
    obtain ⟨hz, hTI, ⟨a, b, hTO⟩, h1, h2, hl1, hl2⟩ := ok
    simp only [List.mem_cons, List.not_mem_nil, or_false, not_or] at hdf
    obtain ⟨dz, dTI, dTO, di1, di2, dl1, dl2⟩ := hdf
    refine wpAny_pyIter_zip hz (h z [z, TO, i1, i2] (fun i h => IsPair h TI (.ref i1) (.ref i2) ∧ h.IsTupleIter i1 l1 i ∧ h.IsListIter i2 l2 i ∧ h.IsTuple l1 xs ∧ h.IsList l2 ys ∧
      ((IsZip h z TI TO .none ∧ ∃ a b, IsPair h TO a b) ∨ ∃ T f oT, PySem.IsZipHeld h z TI TO T f ∧ h.get? T = some oT ∧ T ≠ z ∧ T ≠ i1 ∧ T ≠ i2 ∧ T ≠ d)) s.heap s.toks ?_
      ⟨hTI, h1, h2, hl1, hl2, .inl ⟨hz, a, b, hTO⟩⟩ (fun _ _ e => e) fun b hb => .inl hb)
    exact {
      off := fun hm => by
        simp only [List.mem_cons, List.not_mem_nil, or_false] at hm
        rcases hm with e | e | e | e
        · exact dz e
        · exact dTO e
        · exact di1 e
        · exact di2 e
      frame := fun i h₁ h₂ st hk => by
        obtain ⟨hTI, h1, h2, hl1, hl2, hz⟩ := st
        refine ⟨hk _ _ (Ne.symm dTI) hTI, h1.at fun o e => hk _ o (Ne.symm di1) e, h2.at fun o e => hk _ o (Ne.symm di2) e, hl1.at fun o e => hk _ o (Ne.symm dl1) e, hl2.at fun o e => hk _ o (Ne.symm dl2) e, ?_⟩
        rcases hz with ⟨hz, a, b, hTO⟩ | ⟨T, f, oT, hz, hT, r1, r2, r3, r4⟩
        · exact .inl ⟨hk _ _ (Ne.symm dz) hz, a, b, hk _ _ (Ne.symm dTO) hTO⟩
        · exact .inr ⟨T, f, oT, hk _ _ (Ne.symm dz) hz, hk _ _ r4 hT, r1, r2, r3, r4⟩
      item := fun i s₁ Q₁ E₁ hi st hds hQ => by
        obtain ⟨hTI, h1, h2, hl1, hl2, hz⟩ := st
        have hix : i < xs.size := Nat.lt_of_lt_of_le hi (Nat.min_le_left ..)
        have hiy : i < ys.size := Nat.lt_of_lt_of_le hi (Nat.min_le_right ..)
        have ex := Array.getElem?_eq_getElem hix
        have ey := Array.getElem?_eq_getElem hiy
        have lt : ∀ {c o}, s₁.heap.get? c = some o → s₁.heap.objs.size ≠ c := fun e => Nat.ne_of_gt (Heap.lt_size e)
        have n1 : s₁.heap.objs.size ≠ i1 := let ⟨_, e, _⟩ := h1; lt e
        have n2 : s₁.heap.objs.size ≠ i2 := let ⟨_, e, _⟩ := h2; lt e
        rcases hz with ⟨hz, a, b, hTO⟩ | ⟨T, f, oT, hz, hT, r1, r2, r3, r4⟩
        · refine PySem.wpAny_pyNext_zipD2_item (sepM D) (PySem.Draws.tuple (items := xs) (by exact hA) i1 l1 D.l1i1) (PySem.Draws.list (items := ys) (by exact hA) i2 l2 D.l2i2) hz hTI hTO ⟨h1, hl1⟩ ⟨h2, hl2⟩ hix hiy fun v1 v2 h' tk q1 q2 a1 a2 a3 a4 a5 a6 hk => ?_
          have e1 : xs[i]? = some v1 := q1
          have e2 : ys[i]? = some v2 := q2
          exact hQ s₁.heap.objs.size _ _ h' tk ⟨e1, e2⟩ (.inl ⟨_, a5, rfl, _, rfl⟩)
            ⟨hk _ _ D.TIz D.TITO D.TIi1 D.TIi2 hTI, a3.1, a4.1, a3.2, a4.2, .inr ⟨s₁.heap.objs.size, false, _, a1, a5, lt hz, n1, n2, Nat.ne_of_gt hds⟩⟩
            fun c o hc e => hk c o (fun x => hc (by simp [x])) (fun x => hc (by simp [x])) (fun x => hc (by simp [x])) (fun x => hc (by simp [x])) e
        · refine zipM_item_held D hz hT hTI h1 h2 hl1 hl2 ex ey fun h' a1 a3 a4 a5 a6 hk => ?_
          exact hQ s₁.heap.objs.size _ _ h' s₁.toks ⟨ex, ey⟩ (.inl ⟨_, a5, rfl, _, rfl⟩)
            ⟨hk _ _ D.TIz D.TIi1 D.TIi2 hTI, a3, a4, hl1.at fun o e => hk _ o D.l1z D.l1i1 D.l1i2 e, hl2.at fun o e => hk _ o D.l2z D.l2i1 D.l2i2 e,
              .inr ⟨T, true, oT, a1, hk _ _ r1 r2 r3 hT, r1, r2, r3, r4⟩⟩
            fun c o hc e => hk c o (fun x => hc (by simp [x])) (fun x => hc (by simp [x])) (fun x => hc (by simp [x])) e
      done := fun s₁ Q₁ E₁ st hQ => by
        obtain ⟨hTI, h1, h2, hl1, hl2, hz⟩ := st
        have hend : xs[min xs.size ys.size]? = none ∨ ys[min xs.size ys.size]? = none := by
          rcases Nat.le_total xs.size ys.size with h | h
          · exact .inl (Array.getElem?_eq_none (by rw [Nat.min_eq_left h]; exact Nat.le_refl _))
          · exact .inr (Array.getElem?_eq_none (by rw [Nat.min_eq_right h]; exact Nat.le_refl _))
        rcases hz with ⟨hz, a, b, hTO⟩ | ⟨T, f, oT, hz, hT, r1, r2, r3, r4⟩
        · exact PySem.wpAny_pyNext_zipD2_end (sepM D) (PySem.Draws.tuple (items := xs) (by exact hA) i1 l1 D.l1i1) (PySem.Draws.list (items := ys) (by exact hA) i2 l2 D.l2i2) hz hTI hTO ⟨h1, hl1⟩ ⟨h2, hl2⟩ (Nat.min_le_left ..) (Nat.min_le_right ..) (by omega)
            fun h' tk hk => hQ h' tk fun c o hc e => hk c o (fun x => hc (by simp [x])) (fun x => hc (by simp [x])) (fun x => hc (by simp [x])) (fun x => hc (by simp [x])) e
        · exact zipM_end_held hA D hz hT hTI h1 h2 hl1 hl2 hend fun h' hk => hQ h' s₁.toks fun c o hc e => hk c o (fun x => hc (by simp [x])) (fun x => hc (by simp [x])) (fun x => hc (by simp [x])) e }
end
end Iv

set_option Elab.async false
set_option linter.all false
set_option maxRecDepth 100000
set_option maxHeartbeats 4000000
namespace Iv
open PySem PySem.Spec PyProof.Rows L2
/-! dict(zip(t, xs)) -/
theorem kv_zip : ∀ {ks : List Key} {ys : List V} {us : List Value}, Vals ys us → KV (ks.zip ys) (ks.zip us)
  | [], _, _, _ => by simp [List.zip_nil_left]; exact .nil
  | _ :: _, _, _, .nil => by simp; exact .nil
  | k :: ks, _, _, .cons r t => .cons ⟨rfl, r⟩ (kv_zip t)
section
variable {X : Cx} {S : Sta} {cf : CF}
def tDZ (K : PySem.W.Frag) (ta : TA) : TE := fun σ H Q => ta σ H fun vs H1 => ∃ (a b : Addr) (xs ys : List V) (ks : List Key), vs = [.ref a, .ref b] ∧ SqT K H1 a xs ∧ SqL K H1 b ys ∧
  ks.length = min xs.length ys.length ∧ (∀ (i : Nat) (k : Key), ks[i]? = some k → xs[i]? = some (kV k)) ∧ ∀ p, H1 p = none → Q (.ref p) (upd H1 p (.dK (mergeK [] (ks.zip ys))))
theorem pe_dictZ {e f : Expr} {ta : TA} {p p2 q pos : Pos} (hc : X.calm = true) (hg : Gl X "dict") (hm : X.mg "dict" = none) (hg2 : Gl X "zip") (hm2 : X.mg "zip" = none) (ha : PA X [e, f] ta)
    (hs : starEach [e, f] X.env = (false, eval e X.env) :: starEach [f] X.env) (hpl : (backTo q (starEach [f] X.env)).any (·.1) = false) : PE X (.Call (.Name "dict" p) [.Call (.Name "zip" p2) [e, f] [] q] [] pos) (tDZ X.K ta) := by
  refine ⟨fun pins s σ H Q I h => ?_⟩
  refine Call_ (ld_blt I hg hm boot_dict ?_)
  refine PyProof.Rows.callWith_type1 (PyProof.Rows.args_cons ?_ rfl) rfl rfl
  refine Call_ (ld_blt I hg2 hm2 PyProof.Rows.boot_zip (PyProof.Rows.callWith_type1 (thn (ha.run q pins s σ H _ I h) fun us s1 ⟨vs, H1, I1, r1, q1⟩ => ?_) hs hpl))
  obtain ⟨a, b, xs, ys, ks, ex, hqx, hqy, hkl, hk, q⟩ := q1
  subst ex
  cases r1 with
  | cons r rr =>
    cases rr with
    | cons r' rr =>
      cases rr
      cases r
      cases r'
      obtain ⟨its, rv, p1, hz1⟩ := I1.tuple hqx
      obtain ⟨its2, rv2, p2, hz2⟩ := I1.list hqy
      obtain ⟨o1, ho1, _⟩ := id p1
      have p1t : s1.heap.IsTuple a its.toArray := p1
      refine PySem.zip_begins2 (PySem.begins_tuple a its.toArray) (PySem.begins_list b its2.toArray) p1 p2.isList fun h' hz hTI hTO h1 h2 hsz hk' => ?_
      refine PyProof.Rows.args_nil ?_
      have D := PySem.W.ktu_apart s1.heap.objs.size a b (Heap.lt_size ho1) p2.lt
      have e1 := rv.length
      have e2 := rv2.length
      have hkz : (ks.zip its2).length = min its.length its2.length := by
        rw [List.length_zip]; omega
      have I2 : Inv X pins σ H1 { s1 with heap := h' } := I1.kept (t' := s1.toks) hk'
      have hsz' : its.toArray.size ≤ its.toArray.size := Nat.le_refl _
      refine PySem.call_dict_pairs (knd := mixKind X.prog X.w) (kvs := ks.zip its2) (s := { s1 with heap := h' }) (PairArgM _ _ _ _ _ a b D its.toArray its2.toArray) (I1.ok.hd hc) ⟨hz, hTI, ⟨_, _, hTO⟩, ⟨_, h1, rfl, rfl⟩, ⟨_, h2, rfl, rfl⟩, p1t.at fun o e => hk' _ o e, p2.isList.at fun o e => hk' _ o e⟩
        ⟨by rw [hkz, List.size_toArray, List.size_toArray], fun i key v hr => ?_⟩ (by rw [List.size_toArray, List.size_toArray]; omega) fun h'' tk hd hk'' => ?_
      · obtain ⟨hr1, hr2⟩ := hr
        have r1 : its[i]? = some key := by simpa using hr1
        have r2 : its2[i]? = some v := by simpa using hr2
        have hi : i < ks.length := by
          have := (List.getElem?_eq_some_iff.mp r1).1
          have := (List.getElem?_eq_some_iff.mp r2).1
          omega
        refine ⟨ks[i], ?_, ?_⟩
        · rw [List.getElem?_zip_eq_some]
          exact ⟨List.getElem?_eq_getElem hi, r2⟩
        · have hx := hk i _ (List.getElem?_eq_getElem hi)
          obtain ⟨u, hu, ru⟩ := rv.get hx
          rw [r1] at hu
          cases hu
          exact kV_is (P := X.prog) (w := X.w) ru
      · have kv : KV (ks.zip ys) (ks.zip its2) := kv_zip rv2
        have hm : (h'.objs.size == sysModules) = false := beq_eq_false_iff_ne.mpr (Nat.ne_of_gt I2.big)
        have hlen : (mergeK [] (ks.zip ys)).length ≤ sizeLine := by
          refine Nat.le_trans (length_mergeK _ []) ?_
          rw [List.length_nil, Nat.zero_add, List.length_zip]
          omega
        have keep1 : ∀ c o, s1.heap.get? c = some o → h''.get? c = some o := fun c o e => by
          have hl : c < s1.heap.objs.size := Heap.lt_size e
          refine hk'' c o ?_ (hk' c o e)
          simp only [List.mem_cons, List.not_mem_nil, or_false, not_or]
          exact ⟨Nat.ne_of_lt (Nat.lt_of_lt_of_le hl (Nat.le_add_right _ _)), Nat.ne_of_lt (Nat.lt_of_lt_of_le hl (Nat.le_add_right _ _)), Nat.ne_of_lt hl, Nat.ne_of_lt (Nat.lt_of_lt_of_le hl (Nat.le_add_right _ _))⟩
        have hle : s1.heap.objs.size ≤ h'.objs.size := by rw [hsz]; omega
        exact ⟨.ref h'.objs.size, upd H1 h'.objs.size (.dK (mergeK [] (ks.zip ys))), I1.laid (t' := tk) keep1 hle (show ObjOk X.prog X.w _ _ _ (.dK (mergeK [] (ks.zip ys))) from ⟨hlen, hm, merged [] (ks.zip its2), KV.merge kv .nil, hd⟩), rfl, q _ (I1.hok.fresh hle)⟩
end
section
variable {X : Cx} {S : Sta} {cf : CF} {A : List Addr} {G : List C} {H : Hp}
theorem zip_pairs : ∀ {xs ys : List D} {vs us : List V} {ps : List (D × D)}, RepAll S A H vs xs → RepAll S A H us ys → pairsOf (List.zipWith (fun a b => D.tup [a, b]) xs ys) = some ps →
    ∃ ks : List Key, ks.length = min vs.length us.length ∧ (∀ (i : Nat) (k : Key), ks[i]? = some k → vs[i]? = some (kV k)) ∧ ps.map (·.1) = (ks.zip us).map (fun p => kD p.1) ∧ RepAll S A H ((ks.zip us).map (·.2)) (ps.map (·.2))
  | [], _, _, _, ps, .nil, q2, h => by
    simp [pairsOf] at h
    subst h
    exact ⟨[], by simp, by simp, rfl, .nil⟩
  | _ :: _, [], _, _, ps, _, .nil, h => by
    simp [pairsOf] at h
    subst h
    exact ⟨[], by simp, by simp, rfl, .nil⟩
  | x :: xs, y :: ys, _, _, ps, .cons r t, .cons r' t', h => by
    simp only [List.zipWith_cons_cons, pairsOf] at h
    split at h
    · rename_i hk
      cases hr : pairsOf (List.zipWith (fun a b => D.tup [a, b]) xs ys) with
      | none => rw [hr] at h; cases h
      | some qs =>
        rw [hr] at h
        cases h
        obtain ⟨ks, e1, e2, e3, e4⟩ := zip_pairs t t' hr
        obtain ⟨k, e5, rfl⟩ := key_K hk r
        refine ⟨k :: ks, by simp only [List.length_cons]; omega, fun i k' hi => ?_, by simp [e3, e5], .cons r' e4⟩
        cases i with
        | zero => simp at hi; subst hi; rfl
        | succ i => simpa using e2 i k' (by simpa using hi)
    · cases h
theorem s_dictZ {c : Bool} {a b : E} {e f : Expr} {p p2 q pos : Pos} (ok : XOk X S cf) (hg : Gl X "dict") (hm : X.mg "dict" = none) (hg2 : Gl X "zip") (hm2 : X.mg "zip" = none) (he : PE X e (tEv S cf a)) (hf : PE X f (tEv S cf b)) (hs : isStarE e = false) (ht : isStarE f = false) :
    PE X (.Call (.Name "dict" p) [.Call (.Name "zip" p2) [e, f] [] q] [] pos) (tEv S cf (.dictZ c a b)) := by
  have h1 : starEach [e, f] X.env = (false, eval e X.env) :: starEach [f] X.env := starE _ _ _ hs
  have h2 : (backTo q (starEach [f] X.env)).any (·.1) = false := backNo _ _ _ (by simp [noStar, ht])
  have pa : PA X [e, f] (tLv S cf (.cons a (.cons b .nil))) := s_cons he (s_cons hf s_nil ht) hs
  refine PEm (pe_dictZ ok.calm hg hm hg2 hm2 pa h1 h2) fun σ H Q hh => ?_
  obtain ⟨hθ, A, G, ρ, d, G', cs, l, ev, w⟩ := hh
  have eK : X.K = (S.hide hθ).K := ok.K
  simp only [evE] at ev
  split at ev
  · rename_i x G1 ha
    split at ev
    · rename_i y G2 hb
      split at ev
      · rename_i xs
        split at ev
        · rename_i ys hys
          split at ev
          · rename_i ps hps
            have el : evL cf (.cons a (.cons b .nil)) ρ G = some ([.tup xs, y], G2) := by simp only [evL, ha, hb]
            refine ⟨hθ, A, G, ρ, _, G2, cs, l, el, fun vs A1 H1 g1 c1 r1 => ?_⟩
            obtain ⟨v, u, rfl, r, r'⟩ := reps2 r1
            obtain ⟨q1, us1, rfl, sq1, w1⟩ := tup_sq r
            obtain ⟨q2, us2, rfl, rd2, w2⟩ := lst_rd hys c1 r'
            obtain ⟨ks, e1, e2, e3, e4⟩ := zip_pairs w1 w2 hps
            obtain ⟨m1, m2⟩ := merge_D (kvs := []) (ks := []) (vs := []) rfl .nil e3 e4
            exact ⟨q1, q2, us1, us2, ks, rfl, by rw [eK]; exact sq1, .inl rd2, e1, e2, mkK_ok ev c1 m1 m2 (w.mono g1)⟩
          · cases ev
        · cases ev
      · cases ev
    · cases ev
  · cases ev
end
end Iv

set_option Elab.async false
set_option linter.all false
set_option maxRecDepth 100000
set_option maxHeartbeats 4000000
namespace Iv
open PySem PySem.Spec PyProof.Rows L2
/-! sorted(set(xs)) of a list of texts -/
def keyS (e : Int × Value) : Str := match e.2 with | .str k _ => k | _ => Str.empty
def GoodS (w : World) (e : Int × Value) : Prop := ∃ k tk, e.2 = Value.str k tk ∧ e.1 = hashStr w k
/-- the set of texts at a -/
def SetRS (w : World) (h : Heap) (a : Addr) (S : Str → Bool) (n : Nat) : Prop :=
  ∃ o es ep t, h.get? a = some o ∧ o.ExactSet ∧ o.data = .set es ep t ∧ (∀ e ∈ es.toList, GoodS w e) ∧ (es.toList.map keyS).Nodup ∧ (∀ k, S k = true ↔ k ∈ es.toList.map keyS) ∧
    es.size < scanBound ∧ t.fits es.size = true ∧ es.size = n ∧ Ris t.place.toList ∧ (w.params.followText "set-order" = true ∨ t.led = true)
section
variable {P : Program} {w : World} {h h' : Heap} {a : Addr} {S : Str → Bool} {n : Nat}
theorem SetRS.at (R : SetRS w h a S n) (k : ∀ o, h.get? a = some o → h'.get? a = some o) : SetRS w h' a S n := by
  obtain ⟨o, es, ep, t, ho, r⟩ := R
  exact ⟨o, es, ep, t, k o ho, r⟩
theorem SetRS.congr {S' : Str → Bool} {n' : Nat} (R : SetRS w h a S n) (e : ∀ k, S' k = S k) (en : n' = n) : SetRS w h a S' n' := by
  have q : S' = S := funext e
  rw [q, en]; exact R
theorem goodS_elems {l : List (Int × Value)} (g : ∀ e ∈ l, GoodS w e) : ElemsOf (PySem.strKind P w) l := fun e he => by
  obtain ⟨k, tk, h1, h2⟩ := g e he
  exact ⟨⟨k, by rw [h1]; exact strKind_is P w k tk, h2⟩, by rw [h1] <;> rfl⟩
theorem goodS_is {e : Int × Value} (g : GoodS w e) (k : Str) : (PySem.strKind P w).is k e.2 = true ↔ keyS e = k := by
  obtain ⟨k0, tk, h1, _⟩ := g
  unfold keyS
  rw [h1]
  show ((k0 == k) = true) ↔ k0 = k
  exact beq_iff_eq
theorem goodS_mem {l : List (Int × Value)} (g : ∀ e ∈ l, GoodS w e) (k : Str) : k ∈ l.map keyS ↔ ∃ e ∈ l, (PySem.strKind P w).is k e.2 = true := by
  rw [List.mem_map]
  constructor
  · rintro ⟨e, he, q⟩
    exact ⟨e, he, (goodS_is (g e he) k).2 q⟩
  · rintro ⟨e, he, q⟩
    exact ⟨e, he, (goodS_is (g e he) k).1 q⟩
end
section
variable {P : Program} {w : World} {A : Around} {E : Value → Shared → Prop} {s : Shared} {a : Addr} {S : Str → Bool} {n : Nat}
theorem setRS_add_tail {g : Bool → Sem Unit} (hg : ∀ (b : Bool) (s₁ : Shared) (Q' : Unit → Shared → Prop), Q' () s₁ → wpAny (model P w) A (g b) Q' E s₁)
    {o : Obj} {es : Array (Int × Value)} {ep : Nat} {t : SetTable} (ho : s.heap.get? a = some o) (hex : o.ExactSet) (hd : o.data = .set es ep t)
    {es1 : Array (Int × Value)} {t2 : SetTable} {S' : Str → Bool} (g1 : ∀ e ∈ es1.toList, GoodS w e) (nd1 : (es1.toList.map keyS).Nodup) (m1 : ∀ k, S' k = true ↔ k ∈ es1.toList.map keyS)
    (hb1 : es1.size < scanBound) (hf2 : t2.fits es1.size = true) (hr : Ris t2.place.toList) (hl : w.params.followText "set-order" = true ∨ t2.led = true) {wasDummy : Bool} {R : Option Bool → Shared → Prop}
    (hR : ∀ h', Heap.SameBut a s.heap h' → SetRS w h' a S' es1.size → R (some true) { s with heap := h' }) :
    wpAny (model P w) A (do
        storeSet a es1 t2
        if (!wasDummy && t2.tooFull) = true then do
            g (relayAll t2 es1 (SetTable.grown es1.size)).2.2
            storeSet a (relayAll t2 es1 (SetTable.grown es1.size)).1 (relayAll t2 es1 (SetTable.grown es1.size)).2.1
            pure (some true)
          else pure (some true)) R E s := by
  refine wpAny_bind (wpAny_storeSet_of ho hd ?_ (fits_of_scanBound hb1))
  have ho1 := store_at (es' := es1) (t' := t2) ho hd
  have sb1 := Heap.SameBut.update s.heap a (Obj.putSet es1 t2)
  split
  · have pm := relayAll_perm t2 es1 (SetTable.grown es1.size)
    have hf3 := relayAll_fits t2 es1 (SetTable.grown es1.size)
    have hr3 := relayAll_ris t2 es1 (SetTable.grown es1.size)
    have hl3 := relayAll_led t2 es1 (SetTable.grown es1.size)
    generalize relayAll t2 es1 (SetTable.grown es1.size) = Z at pm hf3 hr3 hl3 ⊢
    obtain ⟨es2, t3, gave⟩ := Z
    dsimp only at pm hf3 hr3 hl3 ⊢
    have hsz : es2.size = es1.size := by rw [← Array.length_toList, pm.length_eq, Array.length_toList]
    have hb2 : es2.size < scanBound := by rw [hsz]; exact hb1
    refine wpAny_bind (hg _ _ _ ?_)
    refine wpAny_bind (wpAny_storeSet_of ho1 rfl ?_ (fits_of_scanBound hb2))
    have ho2 := store_at (es' := es2) (t' := t3) ho1 rfl
    refine wpAny_pure (hR _ (sb1.trans (Heap.SameBut.update _ a _)) ?_)
    exact ⟨_, es2, _, t3, ho2, hex, rfl, fun e he => g1 e (pm.mem_iff.mp he), (pm.map keyS).nodup_iff.mpr nd1, fun k => (m1 k).trans (pm.map keyS).mem_iff.symm, hb2, hf3, hsz, hr3,
      hl.imp id fun z => by rw [hl3]; exact z⟩
  · exact wpAny_pure (hR _ sb1 ⟨_, es1, _, t2, ho1, hex, rfl, g1, nd1, m1, hb1, hf2, rfl, hr, hl⟩)
theorem setRS_add_hashed {k : Str} {tk : Tok} {Q : Bool → Shared → Prop} (R : SetRS w s.heap a S n) (room : n + 1 < scanBound)
    (hQ : ∀ h', Heap.SameBut a s.heap h' → SetRS w h' a (fun j => S j || decide (j = k)) (if S k = true then n else n + 1) → Q (!S k) { s with heap := h' }) :
    wpAny (model P w) A (setAddHashed a (.str k tk) ((PySem.strKind P w).hash k)) Q E s := by
  obtain ⟨o, es, ep, t, ho, hex, hd, g, nd, hm, hb, hf, hn, hr, hl⟩ := R
  have hkey : (PySem.strKind P w).is k (.str k tk) = true := strKind_is P w k tk
  have hsc : (Value.str k tk).scannable = true := rfl
  have hel : ElemsOf (PySem.strKind P w) es.toList := goodS_elems g
  unfold setAddHashed setAddHashedIn
  refine wpAny_holding (wpAny_bind (wpAny_setState_of ho hd hf ?_))
  dsimp only
  rw [byScan_of hsc hb hel]
  simp only [↓reduceIte]
  unfold setAddByScan
  refine wpAny_bind ?_
  refine wpAny_bind (wpAny_rule ?_)
  refine wpAny_bind (wpAny_setScan_of hkey ho hd hf hel ?_)
  cases hfi : List.findIdx? (fun e => (PySem.strKind P w).is k e.2) es.toList with
  | some j =>
    dsimp only
    obtain ⟨hj, pj, _⟩ := List.findIdx?_eq_some_iff_getElem.mp hfi
    have hSk : S k = true := (hm k).2 ((goodS_mem (P := P) (w := w) g k).2 ⟨es.toList[j], List.getElem_mem hj, pj⟩)
    refine wpAny_pure (wpAny_pure ?_)
    have q := hQ s.heap (Heap.SameBut.refl a s.heap) ⟨o, es, ep, t, ho, hex, hd, g, nd, fun i => by
      rw [Bool.or_eq_true, decide_eq_true_eq, ← hm i]
      exact ⟨fun z => z.elim id (fun e => e ▸ hSk), .inl⟩, hb, hf, by rw [if_pos hSk]; exact hn, hr, hl⟩
    rw [hSk] at q
    exact q
  | none =>
    dsimp only
    have hnk : k ∉ es.toList.map keyS := fun z => by
      obtain ⟨e, he, q⟩ := (goodS_mem (P := P) (w := w) g k).1 z
      have c := List.findIdx?_eq_none_iff.mp hfi e he
      rw [q] at c
      cases c
    have hSk : S k = false := by
      cases q : S k with
      | false => rfl
      | true => exact absurd ((hm k).1 q) hnk
    have hgw : ∀ (b : Bool) {s₁ : Shared} {Q' : Unit → Shared → Prop}, Q' () s₁ → wpAny (model P w) A (match b with | true => rule "set.scan.the-table-gave-way" | false => pure ()) Q' E s₁ :=
      fun b s₁ Q' q => by cases b <;> first | exact wpAny_pure q | exact wpAny_rule q
    have pm := layNew_perm t es ((PySem.strKind P w).hash k) (.str k tk)
    have hf1 := layNew_fits t es ((PySem.strKind P w).hash k) (.str k tk)
    have hr1 := layNew_ris t es ((PySem.strKind P w).hash k) (.str k tk) hr
    have hl1 := layNew_led t es ((PySem.strKind P w).hash k) (.str k tk)
    generalize layNew t es ((PySem.strKind P w).hash k) (.str k tk) = Z at pm hf1 hr1 hl1 ⊢
    obtain ⟨es1, t1, wasDummy, gave⟩ := Z
    dsimp only at pm hf1 hr1 hl1 ⊢
    rw [Array.toList_push] at pm
    have pc : es1.toList.Perm (((PySem.strKind P w).hash k, Value.str k tk) :: es.toList) := pm.trans (List.perm_append_singleton _ _)
    have pk : (es1.toList.map keyS).Perm (k :: es.toList.map keyS) := pc.map keyS
    have g1 : ∀ e ∈ es1.toList, GoodS w e := fun e he => by
      rcases List.mem_cons.mp (pc.mem_iff.mp he) with z | z
      · rw [z]; exact ⟨k, tk, rfl, rfl⟩
      · exact g e z
    have nd1 : (es1.toList.map keyS).Nodup := pk.nodup_iff.mpr (List.nodup_cons.mpr ⟨hnk, nd⟩)
    have m1 : ∀ i, (S i || decide (i = k)) = true ↔ i ∈ es1.toList.map keyS := fun i => by
      rw [Bool.or_eq_true, decide_eq_true_eq, hm i, pk.mem_iff, List.mem_cons]
      exact Or.comm
    have hsz : es1.size = n + 1 := by rw [← Array.length_toList, pc.length_eq, List.length_cons, Array.length_toList, hn]
    have hb1 : es1.size < scanBound := by rw [hsz]; exact room
    have hled : w.params.followText "set-order" = true ∨ t1.led = true := hl.imp id fun z => by rw [hl1]; exact z
    have fin : ∀ h', Heap.SameBut a s.heap h' → SetRS w h' a (fun j => S j || decide (j = k)) es1.size → Q true { s with heap := h' } := fun h' sb r => by
      have q := hQ h' sb
      rw [hSk] at q
      rw [hsz] at r
      exact q r
    refine wpAny_bind (hgw _ ?_)
    split
    · refine wpAny_bind ?_
      rw [hashByValue_scannable 8 hsc]
      refine wpAny_pure ?_
      refine setRS_add_tail ?_ ho hex hd g1 nd1 m1 hb1 ?_ ?_ ?_ ?_
      · intro b s₁ Q' q; cases b <;> first | exact wpAny_pure q | exact wpAny_rule q
      · first | (split <;> first | exact hf1 | exact SetTable.fits_plain_off hf1) | exact hf1
      · first | (split <;> exact hr1) | exact hr1
      · first | (split <;> exact hled) | exact hled
      · intro h' sb r; dsimp only; exact wpAny_pure (fin h' sb r)
    · refine wpAny_bind (wpAny_pure ?_)
      simp only [↓reduceIte]
      refine setRS_add_tail ?_ ho hex hd g1 nd1 m1 hb1 hf1 hr1 hled ?_
      · intro b s₁ Q' q; cases b <;> first | exact wpAny_pure q | exact wpAny_rule q
      · intro h' sb r; dsimp only; exact wpAny_pure (fin h' sb r)
end
theorem setRS_new_at {w : World} {h : Heap} {a : Addr} {ns : List Str} (ho : h.get? a = some { cls := .type "set", dict := none, data := .set #[] 0 (.fresh 0 0 (!w.params.followText "set-order")) }) : SetRS w h a (fun j => decide (j ∈ ns.take 0)) (ns.take 0).eraseDups.length :=
  ⟨_, #[], 0, _, ho, ⟨rfl, rfl, rfl⟩, rfl, (fun e he => by simp at he), (by simp), (fun k => by simp), (by decide), (by rfl), by simp, List.Pairwise.nil, by
    show _ ∨ (!w.params.followText "set-order") = true
    cases w.params.followText "set-order"
    · exact .inr rfl
    · exact .inl rfl⟩
section
variable {P : Program} {w : World} {A : Around} {E : Value → Shared → Prop} {s : Shared}
theorem set_update_strsR {I : Addr} {fp wr : List Addr} {G : Array GenState → Array GenState → Prop} {n : Nat} {Pv : Nat → Value → Prop} {St : Nat → Shared → Prop} {R : Result → Shared → Prop}
    (W : WalksS P w A.in1 I fp wr G n Pv St) (S : Addr) (hSf : S ∉ fp) (xs : List Str) (hn : n = xs.length) (hb : xs.length + 1 < scanBound) (hval : ∀ i v, Pv i v → ∃ k t, xs[i]? = some k ∧ v = .str k t) :
    ∀ (k i : Nat) (s : Shared), n - i = k → i ≤ n → St i s → SetRS w s.heap S (fun j => decide (j ∈ xs.take i)) (xs.take i).eraseDups.length →
      (∀ s', Moved (S :: wr) G s s' → SetRS w s'.heap S (fun j => decide (j ∈ xs)) xs.eraseDups.length → R (.ok (.ret .none)) s') →
      codeAny (model P w) A (.builtin "set.update.loop" ⟨[.ref S, .ref I], []⟩) R s := by
  have hSw : S ∉ wr := fun h => hSf (W.sub _ h)
  have hsub : ∀ b ∈ wr, b ∈ S :: wr := fun b hb => List.mem_cons_of_mem _ hb
  intro k
  induction k with
  | zero =>
    intro i s hk' hi hst hS hR
    have hin : i = n := by omega
    subst hin
    refine codeAny_builtin F.entry_set_update_loop ?_
    rw [Around.under_plainId F.plain_set_update_loop _]
    show wpAny _ A.in1 (pyNext (.ref I) >>= _) _ _ s
    refine wpAny_bind (W.done s _ _ hst fun s' hm => ?_)
    show wpAny _ A.in1 (ret Value.none) _ _ s'
    have e : xs.take i = xs := List.take_of_length_le (by omega)
    rw [e] at hS
    exact wpAny_pure (hR s' (hm.mono hsub) (hS.at fun o e => hm.heap S o hSw e))
  | succ k ih =>
    intro i s hk' hi hst hS hR
    have hlt : i < n := by omega
    refine codeAny_builtin F.entry_set_update_loop ?_
    rw [Around.under_plainId F.plain_set_update_loop _]
    show wpAny _ A.in1 (pyNext (.ref I) >>= _) _ _ s
    refine wpAny_bind (W.item i s _ _ hlt hst fun v s' hP hst' hm => ?_)
    obtain ⟨z, t, hz, rfl⟩ := hval i v hP
    have hS' : SetRS w s'.heap S (fun j => decide (j ∈ xs.take i)) (xs.take i).eraseDups.length := hS.at fun o e => hm.heap S o hSw e
    have ht : xs.take (i + 1) = xs.take i ++ [z] := by rw [List.take_add_one, hz]; rfl
    show wpAny _ A.in1 (holding [Value.str z t] (setAdd S (.str z t)) >>= _) _ _ s'
    refine wpAny_bind (wpAny_holding ?_)
    unfold setAdd
    refine wpAny_holding ?_
    refine wpAny_bind ((PySem.strKind P w).pyHash (k := z) (strKind_is _ _ _ _) ?_)
    refine setRS_add_hashed (s := { s' with toks := s'.toks + 1 }) hS' (by have := dups_le xs i; omega) fun h' hsb hS2 => ?_
    have hS3 : SetRS w h' S (fun j => decide (j ∈ xs.take (i + 1))) (xs.take (i + 1)).eraseDups.length := by
      refine hS2.congr (fun j => ?_) ?_
      · rw [ht]; simp [List.mem_append]
      · rw [ht, dups_push]
        by_cases h : z ∈ xs.take i
        · simp [h]
        · simp [h]
    refine wpAny_pure ⟨plainId_quiet F.plain_set_update_loop _, ih (i + 1) _ (by omega) hlt (W.frame _ s' _ _ hst' (Nat.le_succ _) fun b hb o e => ?_) hS3 fun s'' hm'' hS'' => ?_⟩
    · rw [hsb.2 b (fun h : b = S => hSf (by rw [← h]; exact hb))]; exact e
    · refine hR s'' (Moved.trans W.gtrans ((hm.mono hsub).then_heap (Nat.le_succ _) fun b o hb e => ?_) hm'') hS''
      rw [hsb.2 b (fun h : b = S => hb (by rw [h]; exact List.mem_cons_self))]; exact e
theorem call_set_strsR {l : Addr} {items : Array Value} (xs : List Str) {Q : Value → Shared → Prop} (hh : A.handled = none) (hl : s.heap.IsList l items) (hit : StrsAre items.toList xs) (hb : xs.length + 1 < scanBound)
    (h : ∀ (h' : Heap) (tk : Nat), SetRS w h' s.heap.objs.size (fun j => decide (j ∈ xs)) xs.eraseDups.length →
      (∀ b o, b < s.heap.objs.size → s.heap.get? b = some o → h'.get? b = some o) → Q (.ref s.heap.objs.size) { s with heap := h', toks := tk }) :
    wpAny (model P w) A (PySem.call (.type "set") [.ref l]) Q E s := by
  obtain ⟨c, tl, hmro⟩ := PySem.F.called_set.mro
  have hmade := PySem.F.called_set.made
  have hsub := PySem.F.called_set.sub
  refine wpAny_call (codeAny_of_tree ?_)
  show wpAny _ _ (callAny (.type "set") _) _ _ _
  refine wpAny_pure ⟨Code.quiet_builtin _ (by decide +kernel), codeAny_builtin PySem.F.entry_type_call ?_⟩
  rw [Around.under_plain (weight_type_call_type "set" [.ref l] []) rfl]
  have h1 := PySem.F.called_set.notType
  have h2 := PySem.F.called_set.canCreate
  have hct := PySem.F.typeCall_set_1 (.ref l)
  repeat (any_goals (first | assumption | wp_step))
  refine codeAny_mono (code_set_led1 (.ref l) (E := E) (Q₁ := fun obj s₁ => obj = .ref s.heap.objs.size ∧ s₁ = { s with heap := s.heap.push { cls := .type "set", dict := none, data := .set #[] 0 (.fresh 0 0 (!w.params.followText "set-order")) } }) ⟨rfl, rfl⟩) fun r s₁ hr => ?_
  cases r with
  | error e => exact hr
  | ok fl =>
    cases fl with
    | ret obj =>
      obtain ⟨rfl, rfl⟩ := hr
      generalize hled : (!w.params.followText "set-order") = led
      have hS : (s.heap.push { cls := .type "set", dict := none, data := .set #[] 0 (.fresh 0 0 led) }).get? s.heap.objs.size = some { cls := .type "set", dict := none, data := .set #[] 0 (.fresh 0 0 led) } := Heap.get?_push_size _ rfl
      have hT : Shared.TypeIs { s with heap := s.heap.push { cls := .type "set", dict := none, data := .set #[] 0 (.fresh 0 0 led) } } (.ref s.heap.objs.size) "set" := ⟨_, hS, rfl⟩
      have hli := PySem.F.called_set.init.lookup
      have hbi := PySem.F.called_set.init.bind (.ref s.heap.objs.size)
      repeat (any_goals (first | assumption | wp_step))
      refine codeAny_mono (codeAny_call_builtin (R := wants (fun r s₂ => r = .none ∧ ∃ h' tk, s₂ = { s with heap := h', toks := tk } ∧
          SetRS w h' s.heap.objs.size (fun j => decide (j ∈ xs)) xs.eraseDups.length ∧
          (∀ b o, b < s.heap.objs.size → s.heap.get? b = some o → h'.get? b = some o)) E) PySem.F.called_set.init.plain PySem.F.entry_set_init (check_set_init_1 hT ?_)) fun r₂ s₂ hr₂ => ?_
      · obtain ⟨ol, hol, hcl, nl, hdl⟩ := hl
        obtain ⟨ocls, odict, odata, oslots⟩ := ol
        simp only at hcl hdl
        subst hcl; subst hdl
        have hol' : (s.heap.push { cls := .type "set", dict := none, data := .set #[] 0 (.fresh 0 0 led) }).get? l = some { cls := .type "list", dict := odict, data := .seq items nl, slots := oslots } := Heap.get?_push_of_some _ hol
        have hsls := PySem.F.sub_list_set
        have hslf := PySem.F.sub_list_frozenset
        have hne : (Value.type "list" == Value.type "dict") = false := by decide
        have hl1 : (s.heap.push { cls := .type "set", dict := none, data := .set #[] 0 (.fresh 0 0 led) }).IsList l items := ⟨_, hol', rfl, nl, rfl⟩
        unfold Builtin.«set.__init__» noKeywords Builtin.Frozenset.updateFrom
        generalize hPI : pyIter = PI
        wp_walk
        subst hPI
        refine wpAny_pyIter_list hl1 ?_
        refine wpAny_bind (wpAny_runValue ?_)
        have hlS : l < s.heap.objs.size := Heap.lt_size hol
        have hh3 : A.in1.in1.in1.handled = none := by simp [hh]
        have hneI : l ≠ (s.heap.push { cls := .type "set", dict := none, data := .set #[] 0 (.fresh 0 0 led) }).objs.size := by
          rw [Heap.size_push]; exact Nat.ne_of_lt (Nat.lt_succ_of_lt hlS)
        have hSf : s.heap.objs.size ∉ [(s.heap.push { cls := .type "set", dict := none, data := .set #[] 0 (.fresh 0 0 led) }).objs.size, l] := by
          rw [Heap.size_push]; simp only [List.mem_cons, List.mem_singleton, List.not_mem_nil, or_false, not_or]
          exact ⟨Nat.ne_of_lt (Nat.lt_succ_self _), Nat.ne_of_gt hlS⟩
        have hsz : items.size = xs.length := by rw [← StrsAre.len_eq hit, Array.length_toList]
        have hval : ∀ (i : Nat) (v : Value), items[i]? = some v → ∃ k t, xs[i]? = some k ∧ v = .str k t := fun i v hv => by
          obtain ⟨t, e⟩ := SS.strs_at hit i v (by rw [Array.getElem?_toList]; exact hv)
          have hi : i < xs.length := by rw [← hsz]; exact (Array.getElem?_eq_some_iff.mp hv).1
          refine ⟨xs[i], t, List.getElem?_eq_getElem hi, ?_⟩
          rw [e]
          congr 1
          rw [List.getD_eq_getElem?_getD, List.getElem?_eq_getElem hi]
          rfl
        refine set_update_strsR ((Walks.list hh3 _ l hneI items).toS) s.heap.objs.size
          hSf xs hsz hb hval (items.size - 0) 0 _ (by omega) (Nat.zero_le _)
          ⟨⟨_, Heap.get?_push_size _ rfl, rfl, rfl⟩, (hl1.push _)⟩ ?hS0 ?hR
        case hS0 =>
          have hget : ((s.heap.push { cls := .type "set", dict := none, data := .set #[] 0 (.fresh 0 0 led) }).push { cls := .type "list_iterator", data := .fields #[.ref l, .int 0 0] }).get? s.heap.objs.size
              = some { cls := .type "set", dict := none, data := .set #[] 0 (.fresh 0 0 led) } := Heap.get?_push_of_some _ hS
          subst hled
          exact setRS_new_at hget
        case hR =>
          intro s' hm hS'
          obtain ⟨h', g', d', tk', os'⟩ := s'
          have eg : g' = s.gens := hm.gens
          have ed : d' = s.drawn := hm.drawn
          have eo : os' = s.os := hm.os
          subst eg; subst ed; subst eo
          show wpAny _ _ _ _ _ _
          refine wpAny_pure ?_
          show wpAny _ _ (ret Value.none) _ _ _
          refine wpAny_pure ⟨rfl, h', tk', rfl, hS', fun b o hb e => ?_⟩
          have hb1 : b ≠ s.heap.objs.size := Nat.ne_of_lt hb
          have hb2 : b ≠ (s.heap.push { cls := .type "set", dict := none, data := .set #[] 0 (.fresh 0 0 led) }).objs.size := by
            rw [Heap.size_push]; exact Nat.ne_of_lt (Nat.lt_succ_of_lt hb)
          exact hm.heap b o (by simp only [List.mem_cons, List.mem_singleton, List.not_mem_nil, or_false, not_or]; exact ⟨hb1, hb2⟩) (Heap.get?_push_of_some _ (Heap.get?_push_of_some _ e))
      · cases r₂ with
        | error e => exact hr₂
        | ok fl₂ =>
          cases fl₂ with
          | ret r =>
            obtain ⟨rfl, h', tk, rfl, hS', hk'⟩ := hr₂
            repeat (any_goals (first | assumption | wp_step))
            exact h _ _ hS' hk'
          | _ => exact hr₂.elim
    | _ => exact hr.elim
end
end Iv

set_option Elab.async false
set_option linter.all false
set_option maxRecDepth 100000
set_option maxHeartbeats 4000000
namespace Iv
open PySem PySem.Spec PyProof.Rows L2
/-! sorted -/
theorem strs_ofV : ∀ (l : List Value), (∀ v ∈ l, ∃ k tk, v = Value.str k tk) → StrsAre l (l.map fun v => match v with | .str k _ => k | _ => Str.empty)
  | [], _ => .nil
  | v :: l, h => by
    obtain ⟨k, tk, rfl⟩ := h v List.mem_cons_self
    exact .cons k tk (strs_ofV l fun u hu => h u (List.mem_cons_of_mem _ hu))
section
variable {P : Program} {w : World} {A : Around} {E : Value → Shared → Prop} {s : Shared} {a : Addr} {S : Str → Bool} {n : Nat}
theorem sorted_setS {Q : Value → Shared → Prop} (R : SetRS w s.heap a S n) (hh : A.handled = none)
    (hQ : ∀ s' p (out : Array Value) (c : Nat) (ns : List Str), (∀ b o, s.heap.get? b = some o → s'.heap.get? b = some o) → s'.gens = s.gens → s'.os = s.os → s.heap.objs.size ≤ p →
      s'.heap.get? p = some (seqObj "list" out c) → StrsAre out.toList ns → sortedS ns = true → ns.Nodup → (∀ k, k ∈ ns ↔ S k = true) → ns.length = n → Q (.ref p) s') :
    wpAny (model P w) A (PySem.call (.builtin "sorted") [.ref a]) Q E s := by
  obtain ⟨o, es, ep, t, ho, hex, hd, g, nd, hm, hb, hf, hn, hr, hl⟩ := R
  refine Calls.call_function_entry kind_sorted plain_sorted entry_sorted (args_sorted1 _) ?_
  unfold Builtin.«sorted»
  refine wpAny_bind (m := checkCount "sorted" 1 1 _) (wpAny_pure ?_)
  refine wpAny_bind (collect_set (A := A.in1) hh ⟨o, ho, hex.1, hd⟩ hf hb hr hl fun s1 vs k1 hz g1 o1 pm => ?_)
  have hvl : vs.length = n := by rw [pm.length_eq, List.length_map, Array.length_toList]; exact hn
  have hvz : vs.length ≤ sizeLine := by
    rw [hvl, ← hn]
    exact fits_of_scanBound hb
  have hI := strs_ofV vs fun v hv => by
    obtain ⟨e, he, q⟩ := List.mem_map.mp (pm.mem_iff.mp hv)
    obtain ⟨k, tk, h1, _⟩ := g e he
    exact ⟨k, tk, by rw [← q]; exact h1⟩
  have pk : (vs.map fun v => match v with | .str k _ => k | _ => Str.empty).Perm (es.toList.map keyS) := by
    have q := pm.map fun v => match v with | .str k _ => k | _ => Str.empty
    rw [List.map_map] at q
    exact q
  refine wpAny_bind (wpAny_newList ?_ hvz)
  have hoL : (s1.heap.push (seqObj "list" vs.toArray 0)).get? s1.heap.objs.size = some (seqObj "list" vs.toArray 0) := Heap.get?_push_size _ rfl
  refine wpAny_bind (wpAny_holding (wpAny_call_entry slot_list_sort ⟨_, hoL, rfl⟩ entry_list_sort (list_sort_treeKAny strKind_oneLt hoL hI.keysOf (fun v₁ v₂ rest e => keyKind_strs (by rw [← e]; exact hI)) hvz fun st' hp hs => ⟨_, rfl, ?_⟩) (args_list_sort _)))
  obtain ⟨ns', h1, h2, h3⟩ := sorted_out_str hI hp hs
  obtain ⟨c, hc⟩ := sortedHeap_at (vs := vs) (out := (arrOf st').map (·.2)) hoL
  have pn : ns'.Perm (es.toList.map keyS) := h2.trans pk
  refine wpAny_pure ⟨_, rfl, hQ _ s1.heap.objs.size _ c ns' (fun b u e => ?_) g1 o1 hz hc h1 h3 (pn.nodup_iff.mpr nd) (fun k => by rw [pn.mem_iff, ← hm k]) ?_⟩
  · have q := k1 b u e
    have hlt := Heap.lt_size q
    show (sortedHeap (s1.heap.push (seqObj "list" vs.toArray 0)) s1.heap.objs.size vs _).get? b = some u
    rw [sortedHeap_old (Nat.ne_of_lt hlt) (by rw [size_push']; exact Nat.lt_succ_of_lt hlt)]
    exact Heap.get?_push_of_some _ q
  · rw [pn.length_eq, List.length_map, Array.length_toList]; exact hn
end

theorem nodup_dups (l : List Str) : l.eraseDups.Nodup := by
  suffices h : ∀ n (l : List Str), l.length ≤ n → l.eraseDups.Nodup from h _ l (Nat.le_refl _)
  intro n
  induction n with
  | zero =>
    intro l h
    have : l = [] := List.length_eq_zero_iff.mp (Nat.le_zero.mp h)
    subst this
    simp
  | succ n ih =>
    intro l h
    cases l with
    | nil => simp
    | cons x l =>
      rw [List.eraseDups_cons]
      refine List.nodup_cons.mpr ⟨fun hm => ?_, ih _ ?_⟩
      · rw [List.mem_eraseDups] at hm
        simp at hm
      · have := List.length_filter_le (fun b => !b == x) l
        simp at h
        omega
theorem boot_sortedS : bootBuiltins "sorted" = some (.builtin "sorted") := by decide +kernel
/-- the order of texts -/
def leS (a b : Str) : Bool := !decide (b.cps.toList < a.cps.toList)
theorem sorted_uniq {ns xs : List Str} (h1 : sortedS ns = true) (h2 : ns.Nodup) (h3 : xs.Nodup) (h4 : ∀ k, k ∈ ns ↔ k ∈ xs) : ns = xs.mergeSort leS := by
  have tr : ∀ a b c : Str, leS a b = true → leS b c = true → leS a c = true := fun a b c p q => by
    unfold leS at *
    simp only [Bool.not_eq_true', decide_eq_false_iff_not, List.not_lt] at *
    exact List.le_trans p q
  have tt : ∀ a b : Str, (leS a b || leS b a) = true := fun a b => by
    unfold leS
    rw [Bool.or_eq_true, Bool.not_eq_true', Bool.not_eq_true', decide_eq_false_iff_not, decide_eq_false_iff_not, List.not_lt, List.not_lt]
    exact List.le_total _ _
  have pw := List.pairwise_mergeSort tr tt xs
  have pm : ns.Perm (xs.mergeSort leS) := (List.perm_ext_iff_of_nodup h2 ((List.mergeSort_perm xs leS).nodup_iff.mpr h3)).mpr fun k => (h4 k).trans (List.mergeSort_perm xs leS).mem_iff.symm
  have pw1 : ns.Pairwise fun a b => leS a b = true := by
    clear pm h2 h4 h3 pw
    cases ns with
    | nil => exact .nil
    | cons x r =>
      have rs : ∀ (r : List Str) (p : Str), risingS p r = true → (p :: r).Pairwise fun a b => leS a b = true := by
        intro r
        induction r with
        | nil => intro p _; simp
        | cons y r ih =>
          intro p h
          unfold risingS at h
          rw [Bool.and_eq_true] at h
          have h5 := ih y h.2
          have le1 : leS p y = true := by
            unfold leS
            rw [← ltCps_eq]
            exact h.1
          refine List.pairwise_cons.mpr ⟨fun z hz => ?_, h5⟩
          rcases List.mem_cons.mp hz with rfl | hz
          · exact le1
          · exact tr _ _ _ le1 ((List.pairwise_cons.mp h5).1 z hz)
      exact rs r x h1
  refine pm.eq_of_pairwise (le := fun a b => leS a b = true) (fun a b _ _ p q => ?_) pw1 pw
  unfold leS at p q
  simp only [Bool.not_eq_true', decide_eq_false_iff_not, List.not_lt] at p q
  exact Str.ext' (Array.toList_inj.mp (List.le_antisymm p q))
section
variable {X : Cx} {S : Sta} {cf : CF}
def tSortS (ta : TE) : TE := fun σ H Q => ta σ H fun x H1 => ∃ (l : Addr) (xs : List Str), x = .ref l ∧ Rd H1 l (.lst (xs.map V.str)) ∧ xs.length < 1000 ∧ ∀ p, H1 p = none → Q (.ref p) (upd H1 p (.lst ((xs.eraseDups.mergeSort leS).map V.str)))
theorem pe_sortS {a : Expr} {ta : TE} {p p2 q pos : Pos} (hc : X.calm = true) (hg : Gl X "sorted") (hm : X.mg "sorted" = none) (hg2 : Gl X "set") (hm2 : X.mg "set" = none) (ha : PE X a ta)
    (na : starEach [a] X.env = (false, eval a X.env) :: starEach [] X.env) : PE X (.Call (.Name "sorted" p) [.Call (.Name "set" p2) [a] [] q] [] pos) (tSortS ta) := by
  refine ⟨fun pins s σ H Q I h => ?_⟩
  refine Call_ (ld_blt I hg hm boot_sortedS ?_)
  refine PyProof.Rows.callWith_builtin1 (PyProof.Rows.args_cons ?_ rfl) rfl rfl
  refine Call_ (ld_blt I hg2 hm2 boot_set ?_)
  refine PyProof.Rows.callWith_type1 (PyProof.Rows.args_cons (thn (ha.run pins s σ H _ I h) fun v s1 ⟨x, H1, I1, r1, q1⟩ => PyProof.Rows.args_nil ?_) na) na rfl
  obtain ⟨l, xs, rfl, hq, h1, q1⟩ := q1
  cases r1
  obtain ⟨its, r, pl, hz⟩ := I1.list (.inl hq)
  refine call_set_strsR xs (I1.ok.hd hc) pl.isList (by simpa using strsAre_of r) (by unfold scanBound; omega) fun h' tk hS hk => ?_
  refine PyProof.Rows.args_nil ?_
  have hle := dups_le xs xs.length
  rw [List.take_length] at hle
  have I2 : Inv X pins σ H1 { s1 with heap := h', toks := tk } := I1.kept fun b o e => hk b o (Heap.lt_size e) e
  refine sorted_setS hS (I2.ok.hd hc) fun s' p out c ns k g o hp hgt hi hs hnd hmm hl => ?_
  have en : ns = xs.eraseDups.mergeSort leS := sorted_uniq hs hnd (nodup_dups _) fun k => by rw [hmm, decide_eq_true_eq, List.mem_eraseDups]
  have hlen : (ns.map V.str).length ≤ sizeLine := by rw [List.length_map, hl, sizeLine_eq]; omega
  have hn : H1 p = none := I2.hok.fresh hp
  have J : Inv X pins σ (upd H1 p (.lst (ns.map V.str))) s' :=
    I2.call' (ch := []) o (Un.laid k hp hn) (I2.hok.laid k hp ⟨hlen, out.toList, c, vals_of_strs hi, hgt⟩) (by rw [g]; exact I2.bare) (fun _ z => nomatch z)
  rw [en] at J
  exact ⟨.ref p, _, J, rfl, q1 p hn⟩
theorem s_sortSet {c : Bool} {a : E} {ea : Expr} {p p2 q pos : Pos} (ok : XOk X S cf) (hg : Gl X "sorted") (hm : X.mg "sorted" = none) (hg2 : Gl X "set") (hm2 : X.mg "set" = none) (ia : PE X ea (tEv S cf a)) (hs : isStarE ea = false) :
    PE X (.Call (.Name "sorted" p) [.Call (.Name "set" p2) [ea] [] q] [] pos) (tEv S cf (.sortSet c a)) := by
  refine PEm (pe_sortS ok.calm hg hm hg2 hm2 ia (starE _ _ _ hs)) fun σ H Q hh => ?_
  obtain ⟨hθ, A, G, ρ, d, G', cs, l, e, w⟩ := hh
  simp only [evE] at e
  split at e
  · rename_i x G1 ha
    split at e
    · rename_i xs hx
      split at e
      · rename_i ys hys
        split at e
        · rename_i hl
          refine ⟨hθ, A, G, ρ, _, _, cs, l, ha, fun v A1 H1 g1 c1 r1 => ?_⟩
          obtain ⟨b, vs, rfl, rd, q⟩ := lst_rd hx c1 r1
          rw [strs_map hys] at q
          have := q.strs
          subst this
          refine ⟨b, ys, rfl, rd, hl, ?_⟩
          exact (mkL_ok e c1 (RepAll.of_map (f := V.str) (g := D.str) _ fun x _ => .str x) (w.mono g1)).2
        · cases e
      · cases e
    · cases e
  · cases e
end
section
variable {X : Cx} {S : Sta} {cf : CF}
def tLenS (ta : TE) : TE := fun σ H Q => ta σ H fun x H1 => ∃ (l : Addr) (xs : List Str), x = .ref l ∧ Rd H1 l (.lst (xs.map V.str)) ∧ xs.length < 1000 ∧ Q (.int (xs.eraseDups.length : Nat)) H1
theorem pe_lenS {a : Expr} {ta : TE} {p p2 q pos : Pos} (hc : X.calm = true) (hg : Gl X "len") (hm : X.mg "len" = none) (hg2 : Gl X "set") (hm2 : X.mg "set" = none) (ha : PE X a ta)
    (na : starEach [a] X.env = (false, eval a X.env) :: starEach [] X.env) : PE X (.Call (.Name "len" p) [.Call (.Name "set" p2) [a] [] q] [] pos) (tLenS ta) := by
  refine ⟨fun pins s σ H Q I h => ?_⟩
  refine Call_ (ld_blt I hg hm boot_len ?_)
  refine PyProof.Rows.callWith_builtin1 (PyProof.Rows.args_cons ?_ rfl) rfl rfl
  refine Call_ (ld_blt I hg2 hm2 boot_set ?_)
  refine PyProof.Rows.callWith_type1 (PyProof.Rows.args_cons (thn (ha.run pins s σ H _ I h) fun v s1 ⟨x, H1, I1, r1, q1⟩ => PyProof.Rows.args_nil ?_) na) na rfl
  obtain ⟨l, xs, rfl, hq, h1, q1⟩ := q1
  cases r1
  obtain ⟨its, r, pl, hz⟩ := I1.list (.inl hq)
  refine call_set_strsR xs (I1.ok.hd hc) pl.isList (by simpa using strsAre_of r) (by unfold scanBound; omega) fun h' tk hS hk => ?_
  refine PyProof.Rows.args_nil ?_
  have hle := dups_le xs xs.length
  rw [List.take_length] at hle
  obtain ⟨o, es, ep, t, ho, hex, hd, _, _, _, _, hf, hn, _⟩ := hS
  have I2 : Inv X pins σ H1 { s1 with heap := h', toks := tk } := I1.kept fun b o e => hk b o (Heap.lt_size e) e
  refine call_len_set ho hex hd hf (by rw [hn]; omega) ⟨.int (xs.eraseDups.length : Nat), H1, I2.tok _, ⟨_, by rw [hn]⟩, q1⟩
theorem s_lenSet {a : E} {ea : Expr} {p p2 q pos : Pos} (ok : XOk X S cf) (hg : Gl X "len") (hm : X.mg "len" = none) (hg2 : Gl X "set") (hm2 : X.mg "set" = none) (ia : PE X ea (tEv S cf a)) (hs : isStarE ea = false) :
    PE X (.Call (.Name "len" p) [.Call (.Name "set" p2) [ea] [] q] [] pos) (tEv S cf (.lenSet a)) := by
  refine PEm (pe_lenS ok.calm hg hm hg2 hm2 ia (starE _ _ _ hs)) fun σ H Q hh => ?_
  obtain ⟨hθ, A, G, ρ, d, G', cs, l, e, w⟩ := hh
  simp only [evE] at e
  split at e
  · rename_i x G1 ha
    split at e
    · rename_i xs hx
      split at e
      · rename_i ys hys
        split at e
        · rename_i hl
          cases e
          refine ⟨hθ, A, G, ρ, _, _, cs, l, ha, fun v A1 H1 g1 c1 r1 => ?_⟩
          obtain ⟨b, vs, rfl, rd, q⟩ := lst_rd hx c1 r1
          rw [strs_map hys] at q
          have := q.strs
          subst this
          exact ⟨b, ys, rfl, rd, hl, w _ A1 H1 g1 c1 (.int _)⟩
        · cases e
      · cases e
    · cases e
  · cases e
end
end Iv

set_option Elab.async false
set_option linter.all false
set_option maxRecDepth 100000
set_option maxHeartbeats 4000000
namespace Iv
open PySem PySem.Spec PyProof.Rows L2
/-! the texts of a def against the evaluator's form -/
structure Gm where
  N : List Str
  sc : Scope
  fn : Str → Bool
structure GOk (X : Cx) (Γ : Gm) : Prop where
  N : X.N = Γ.N
  sc : X.env.scope = Γ.sc
  fn : ∀ x, X.fn x = Γ.fn x
  kd : X.env.scope.kind = .function
def Gm.lk (Γ : Gm) (x : Str) : Option NameKind := Γ.sc.names.lookup x
def Gm.vis (Γ : Gm) (x : Str) : Bool := Γ.lk x == some .local || Γ.lk x == some .cell || Γ.lk x == some .free
def Gm.loc (Γ : Gm) (x : Str) : Bool := (Γ.lk x == some .local || Γ.lk x == some .cell) && (Γ.fn x || Γ.lk x == some .local)
def Gm.gl (Γ : Gm) (x : Str) : Bool := Γ.lk x == some .globalImplicit
def Gm.at_ (Γ : Gm) (i : Nat) (x : Str) : Bool := Γ.N[i]? == some x
def Gm.sub (Γ : Gm) (scope : Scope) : Gm := ⟨Γ.N, relS scope Γ.sc, fun x => scope.names.lookup x == some .cell⟩
def blkB (N : List Str) (sc scope : Scope) (own : List (Str × Nat)) : Bool :=
  scope.kind == .function && scope.names.all (fun y => scope.names.lookup y.1 == some y.2) && own.all (fun p => N[p.2]? == some p.1) &&
  scope.names.all (fun y => !(y.2 == .free) || sc.names.lookup y.1 == some .cell || sc.names.lookup y.1 == some .free) &&
  scope.names.all (fun y => !(y.2 == .local || y.2 == .cell) || (own.map (·.1)).contains y.1 || !N.contains y.1)
theorem blkB_ok {N : List Str} {sc scope : Scope} {own : List (Str × Nat)} (h : blkB N sc scope own = true) : BlkOk N sc scope own := by
  simp only [blkB, Bool.and_eq_true] at h
  obtain ⟨⟨⟨⟨h1, h2⟩, h3⟩, h4⟩, h5⟩ := h
  refine ⟨by simpa using h1, fun y hy => ?_, fun p hp => ?_, fun y hy e => ?_, fun y hy e => ?_⟩
  · simpa using List.all_eq_true.mp h2 y hy
  · simpa using List.all_eq_true.mp h3 p hp
  · have := List.all_eq_true.mp h4 y hy
    simp [e] at this
    exact this
  · have := List.all_eq_true.mp h5 y hy
    rcases e with e | e <;> simp [e] at this <;> simpa using this
/-- equal trees of plain values -/
def deq : D → D → Bool
  | .non, .non => true
  | .bl a, .bl b => a == b
  | .int a, .int b => a == b
  | .str a, .str b => a == b
  | .tup xs, .tup ys => go xs ys
  | _, _ => false
where go : List D → List D → Bool
  | [], [] => true
  | .str a :: xs, .str b :: ys => a == b && go xs ys
  | _, _ => false
theorem deq_go : ∀ {xs ys : List D}, deq.go xs ys = true → xs = ys
  | [], [], _ => rfl
  | .str a :: xs, .str b :: ys, h => by
    simp only [deq.go, Bool.and_eq_true, beq_iff_eq] at h
    rw [h.1, deq_go h.2]
  | [], _ :: _, h => by simp [deq.go] at h
  | _ :: _, [], h => by cases ‹D› <;> simp [deq.go] at h
  | .non :: _, _ :: _, h => by simp [deq.go] at h
  | .bl _ :: _, _ :: _, h => by simp [deq.go] at h
  | .int _ :: _, _ :: _, h => by simp [deq.go] at h
  | .lst _ :: _, _ :: _, h => by simp [deq.go] at h
  | .tup _ :: _, _ :: _, h => by simp [deq.go] at h
  | .dic _ _ _ :: _, _ :: _, h => by simp [deq.go] at h
  | .ins _ _ _ :: _, _ :: _, h => by simp [deq.go] at h
  | .cell _ :: _, _ :: _, h => by simp [deq.go] at h
  | .wls _ :: _, _ :: _, h => by simp [deq.go] at h
  | .str _ :: _, .non :: _, h => by simp [deq.go] at h
  | .str _ :: _, .bl _ :: _, h => by simp [deq.go] at h
  | .str _ :: _, .int _ :: _, h => by simp [deq.go] at h
  | .str _ :: _, .lst _ :: _, h => by simp [deq.go] at h
  | .str _ :: _, .tup _ :: _, h => by simp [deq.go] at h
  | .str _ :: _, .dic _ _ _ :: _, h => by simp [deq.go] at h
  | .str _ :: _, .ins _ _ _ :: _, h => by simp [deq.go] at h
  | .str _ :: _, .cell _ :: _, h => by simp [deq.go] at h
  | .str _ :: _, .wls _ :: _, h => by simp [deq.go] at h
theorem deq_ok {a b : D} (h : deq a b = true) : a = b := by
  cases a <;> cases b <;> simp [deq] at h
  · rfl
  · rw [h]
  · rw [h]
  · rw [h]
  · rw [deq_go h]
/-- a BoolOp of one part is that part -/
def strip : Expr → Expr
  | .BoolOp _ [x] _ => x
  | e => e
def isSetE : Expr → Bool
  | .Set _ _ _ => true
  | _ => false
def isCompE : Expr → Bool
  | .ListComp _ _ _ _ => true
  | .SetComp _ _ _ _ => true
  | .DictComp _ _ _ _ _ => true
  | _ => false
/-- an expression that isTrue reads as a value -/
def plainT : Expr → Bool
  | .UnaryOp .Not _ _ => false
  | .BoolOp _ _ _ => false
  | .IfExp _ _ _ _ => false
  | .Compare _ _ _ _ => false
  | _ => true
def tyBs : List String := ["bool", "int", "str", "list", "tuple", "dict"]
def mIt (S : Sta) (Γ : Gm) (ma mb : Expr → Bool) (nb : Bool) (k : IK) (tg iter : Expr) : Bool :=
  match k with
  | .plain => ma iter && nb && !isSetE iter
  | .range1 => match iter with
    | .Call (.Name x _) [e] [] _ => decide (x = "range") && Γ.gl "range" && S.blt.contains "range" && ma e && nb && !isStarE e
    | _ => false
  | .range2 => match iter with
    | .Call (.Name x _) [e, f] [] _ => decide (x = "range") && Γ.gl "range" && S.blt.contains "range" && ma e && mb f && !isStarE e && !isStarE f
    | _ => false
  | .enum => match tg, iter with
    | .Tuple _ _ _, .Call (.Name x _) [e] [] _ => decide (x = "enumerate") && Γ.gl "enumerate" && S.blt.contains "enumerate" && ma e && nb && !isStarE e
    | _, _ => false
  | .zip => match tg, iter with
    | .Tuple _ _ _, .Call (.Name x _) [e, f] [] _ => decide (x = "zip") && Γ.gl "zip" && S.blt.contains "zip" && ma e && mb f && !isStarE e && !isStarE f
    | _, _ => false
  | _ => false
def mIn (S : Sta) (Γ : Gm) (ma : Expr → Bool) (nb : Bool) (k : IK) (iter : Expr) : Bool :=
  match k with
  | .plain => ma iter && nb && !isSetE iter
  | .range1 => match iter with
    | .Call (.Name x _) [e] [] _ => decide (x = "range") && Γ.gl "range" && S.blt.contains "range" && ma e && nb && !isStarE e
    | _ => false
  | _ => false
def isYes : E → Bool
  | .bl true => true
  | _ => false
def mIfs (mt : Expr → Bool) (yes : Bool) : List Expr → Bool
  | [] => yes
  | [c] => mt c
  | _ => false
mutual
/-- loops' targets -/
def mG (Γ : Gm) : E → Expr → Bool
  | .var i, e => match e with
    | .Name x _ => Γ.at_ i x && Γ.loc x
    | _ => false
  | .tup ts, e => match e with
    | .Tuple es _ _ => mGs Γ ts es && noStar es && es.length == lenE ts
    | _ => false
  | _, _ => false
def mGs (Γ : Gm) : E → List Expr → Bool
  | .nil, es => es.isEmpty
  | .cons (.var i) t, es => match es with
    | .Name x _ :: r => Γ.at_ i x && Γ.loc x && mGs Γ t r
    | _ => false
  | _, _ => false
end
mutual
def mE (S : Sta) (Γ : Gm) : E → Expr → Bool
  | .star _ _, _ => true
  | .var i, e => match e with
    | .Name x _ => Γ.at_ i x && Γ.vis x && !(x == ("__debug__" : Str)) && !(x == ("__classdict__" : Str))
    | _ => false
  | .int i, e => match e with
    | .Constant (.int j) _ _ => i == j
    | _ => false
  | .str x, e => match e with
    | .Constant (.str y) _ _ => x == y
    | _ => false
  | .bl x, e => match e with
    | .Constant (.bool y) _ _ => x == y
    | _ => false
  | .non, e => match e with
    | .Constant .none _ _ => true
    | _ => false
  | .gl x d, e => match e with
    | .Name y _ => x == y && Γ.gl x && !(x == ("__debug__" : Str)) && S.gt.any (fun p => p.1 == x && deq p.2 d)
    | _ => false
  | .bin o _ a b, e => match e with
    | .BinOp ea op eb _ => decide (op = bop o) && mE S Γ a ea && mE S Γ b eb
    | _ => false
  | .neg a, e => match e with
    | .UnaryOp .USub ea _ => mE S Γ a ea
    | _ => false
  | .cmp o a b, e => match e with
    | .Compare ea [op] [eb] _ => decide (op = cop o) && mE S Γ a ea && mE S Γ b eb && !behindInMarks (cop o) eb
    | _ => false
  | .chain o o' a b c, e => match e with
    | .Compare ea [op, op'] [eb, ec] _ => decide (op = cop o) && decide (op' = cop o') && mE S Γ a ea && mE S Γ b eb && mE S Γ c ec && !behindInMarks (cop o') ec
    | _ => false
  | .and a b, e => match e with
    | .BoolOp .And (ea :: eb :: es) p => mE S Γ a ea && mE S Γ b (strip (.BoolOp .And (eb :: es) p))
    | _ => false
  | .or a b, e => match e with
    | .BoolOp .Or (ea :: eb :: es) p => mE S Γ a ea && mE S Γ b (strip (.BoolOp .Or (eb :: es) p))
    | _ => false
  | .not a, e => match e with
    | .UnaryOp .Not ea _ => mE S Γ a ea
    | _ => false
  | .ite c a b, e => match e with
    | .IfExp ec ea eb _ => mT S Γ c ec && mE S Γ a ea && mE S Γ b eb
    | _ => false
  | .lst _ es, e => match e with
    | .List ees _ => mL S Γ es ees
    | _ => false
  | .tup es, e => match e with
    | .Tuple ees _ _ => mL S Γ es ees
    | _ => false
  | .dK0 _, e => match e with
    | .Dict [] [] _ => true
    | _ => false
  | .dT0 _, e => match e with
    | .Dict [] [] _ => true
    | _ => false
  | .dic _ es, e => match e with
    | .Dict ks vs _ => mD S Γ es ks vs && !ks.isEmpty && decide (ks.length ≤ 15)
    | _ => false
  | .idx a i, e => match e with
    | .Subscript ea ei _ => mE S Γ a ea && mE S Γ i ei && !isSlcE ei
    | _ => false
  | .slice _ a lo hi, e => match e with
    | .Subscript ea (.Slice elo ehi none _) _ => mE S Γ a ea &&
      (match elo with
        | none => isNil lo
        | some x => !isNil lo && mE S Γ lo x) &&
      (match ehi with
        | none => isNil hi
        | some x => !isNil hi && mE S Γ hi x)
    | _ => false
  | .rev _ a, e => match e with
    | .Subscript ea (.Slice none none (some (.UnaryOp .USub (.Constant (.int i) _ _) _)) _) _ => i == 1 && mE S Γ a ea
    | _ => false
  | .lenSet a, e => match e with
    | .Call (.Name x _) [.Call (.Name y _) [ea] [] _] [] _ => x == ("len" : Str) && y == ("set" : Str) && Γ.gl "len" && Γ.gl "set" && S.blt.contains "len" && S.blt.contains "set" && mE S Γ a ea && !isStarE ea
    | _ => false
  | .sortSet _ a, e => match e with
    | .Call (.Name x _) [.Call (.Name y _) [ea] [] _] [] _ => x == ("sorted" : Str) && y == ("set" : Str) && Γ.gl "sorted" && Γ.gl "set" && S.blt.contains "sorted" && S.blt.contains "set" && mE S Γ a ea && !isStarE ea
    | _ => false
  | .dictZ _ a b, e => match e with
    | .Call (.Name x _) [.Call (.Name y _) [ea, eb] [] _] [] _ => x == ("dict" : Str) && y == ("zip" : Str) && Γ.gl "dict" && Γ.gl "zip" && S.blt.contains "dict" && S.blt.contains "zip" && mE S Γ a ea && mE S Γ b eb && !isStarE ea && !isStarE eb
    | _ => false
  | .attr a f, e => match e with
    | .Attribute ea g _ => f == g && S.fl.contains f && !isCall0 ea && mE S Γ a ea
    | _ => false
  | .call f es, e => match e with
    | .Call (.Name g _) ees [] _ => f == g && Γ.gl f && !(f == ("__debug__" : Str)) && noStar ees && mL S Γ es ees && (!ees.isEmpty || isNil es)
    | _ => false
  | .new f es, e => match e with
    | .Call (.Name g _) ees [] _ => f == g && Γ.gl f && !(f == ("__debug__" : Str)) && noStar ees && mL S Γ es ees && !ees.isEmpty
    | _ => false
  | .bi b _ es, e => match e with
    | .Call (.Name g _) ees [] _ => g == biName b && Γ.gl (biName b) && S.blt.contains (biName b) && noStar ees && mL S Γ es ees && !ees.isEmpty
    | _ => false
  | .isi a t, e => match e with
    | .Call (.Name g _) [ea, .Name u _] [] _ => g == ("isinstance" : Str) && u == Str.ofString t && Γ.gl "isinstance" && S.blt.contains "isinstance" && Γ.gl (Str.ofString t) && S.blt.contains (Str.ofString t) && tyBs.contains t && mE S Γ a ea && !isStarE ea
    | _ => false
  | .meth m _ o es, e => match e with
    | .Call (.Attribute eo nm apos) ees [] pos => mE S Γ o eo && mL S Γ es ees && noStar ees && !isCall0 eo && apos.endLine == pos.line &&
      (match m with
        | .words => nm == ("split" : Str) && ees.length == 0
        | .split => nm == ("split" : Str) && ees.length == 1
        | .join => nm == ("join" : Str) && ees.length == 1
        | .endswith => nm == ("endswith" : Str) && ees.length == 1
        | .startswith => nm == ("startswith" : Str) && ees.length == 1
        | .get1 => nm == ("get" : Str) && ees.length == 1
        | .get2 => nm == ("get" : Str) && ees.length == 2
        | .append => nm == ("append" : Str) && ees.length == 1
        | _ => false)
    | _ => false
  | .comp _ own k a b t tst elt, e => match e with
    | .ListComp eelt [⟨tg, iter, ifs, 0⟩] scope _ => blkB Γ.N Γ.sc scope own && mIt S Γ (mE S Γ a) (mE S Γ b) (isNil b) k tg iter && mG (Γ.sub scope) t tg && (tgs t).all (fun i => (own.map (·.2)).contains i) && mE S (Γ.sub scope) elt eelt &&
      mIfs (mT S (Γ.sub scope) tst) (isYes tst) ifs
    | _ => false
  | .comp2 _ own own1 k a b t k1 a1 b1 t1 elt, e => match e with
    | .ListComp eelt [⟨tg, iter, [], 0⟩, ⟨tg1, iter1, [], 0⟩] scope _ => blkB Γ.N Γ.sc scope own && mIt S Γ (mE S Γ a) (mE S Γ b) (isNil b) k tg iter && mG (Γ.sub scope) t tg && (tgs t).all (fun i => (own.map (·.2)).contains i) &&
      mIn S (Γ.sub scope) (mE S (Γ.sub scope) a1) (isNil b1) k1 iter1 && mG (Γ.sub scope) t1 tg1 && (tgs t1).all (fun i => own1.contains i) && own1.all (fun i => (own.map (·.2)).contains i) && mE S (Γ.sub scope) elt eelt
    | _ => false
  | _, _ => false
def mL (S : Sta) (Γ : Gm) : E → List Expr → Bool
  | .nil, es => es.isEmpty
  | .cons h t, es => match es with
    | eh :: et => !isStarE eh && mE S Γ h eh && mL S Γ t et
    | [] => false
  | .star h t, es => match es with
    | .Starred eh _ :: et => mE S Γ h eh && mL S Γ t et
    | _ => false
  | _, _ => false
def mD (S : Sta) (Γ : Gm) : E → List (Option Expr) → List Expr → Bool
  | .nil, ks, vs => ks.isEmpty && vs.isEmpty
  | .cons k (.cons v t), ks, vs => match ks, vs with
    | some ek :: ks, ev :: vs => mE S Γ k ek && mE S Γ v ev && mD S Γ t ks vs
    | _, _ => false
  | _, _, _ => false
def mT (S : Sta) (Γ : Gm) : E → Expr → Bool
  | .star _ _, _ => true
  | .cmp o a b, e => match e with
    | .Compare ea [op] [eb] _ => decide (op = cop o) && mE S Γ a ea && mE S Γ b eb && !behindInMarks (cop o) eb
    | _ => false
  | .chain o o' a b c, e => match e with
    | .Compare ea [op, op'] [eb, ec] _ => decide (op = cop o) && decide (op' = cop o') && mE S Γ a ea && mE S Γ b eb && mE S Γ c ec && !behindInMarks (cop o') ec
    | _ => false
  | .and a b, e => match e with
    | .BoolOp .And (ea :: eb :: es) p => mT S Γ a ea && mT S Γ b (strip (.BoolOp .And (eb :: es) p))
    | _ => false
  | .or a b, e => match e with
    | .BoolOp .Or (ea :: eb :: es) p => mT S Γ a ea && mT S Γ b (strip (.BoolOp .Or (eb :: es) p))
    | _ => false
  | .not a, e => match e with
    | .UnaryOp .Not ea _ => mT S Γ a ea
    | _ => false
  | .var i, e => match e with
    | .Name x _ => Γ.at_ i x && Γ.vis x && !(x == ("__debug__" : Str)) && !(x == ("__classdict__" : Str))
    | _ => false
  | .bl x, e => match e with
    | .Constant (.bool y) _ _ => x == y
    | _ => false
  | .call f es, e => match e with
    | .Call (.Name g _) ees [] _ => f == g && Γ.gl f && !(f == ("__debug__" : Str)) && noStar ees && mL S Γ es ees && (!ees.isEmpty || isNil es)
    | _ => false
  | .bi b _ es, e => match e with
    | .Call (.Name g _) ees [] _ => g == biName b && Γ.gl (biName b) && S.blt.contains (biName b) && noStar ees && mL S Γ es ees && !ees.isEmpty
    | _ => false
  | .isi a t, e => match e with
    | .Call (.Name g _) [ea, .Name u _] [] _ => g == ("isinstance" : Str) && u == Str.ofString t && Γ.gl "isinstance" && S.blt.contains "isinstance" && Γ.gl (Str.ofString t) && S.blt.contains (Str.ofString t) && tyBs.contains t && mE S Γ a ea && !isStarE ea
    | _ => false
  | .meth .endswith _ o es, e => match e with
    | .Call (.Attribute eo nm apos) ees [] pos => mE S Γ o eo && mL S Γ es ees && noStar ees && !isCall0 eo && apos.endLine == pos.line && nm == ("endswith" : Str) && ees.length == 1
    | _ => false
  | .meth .startswith _ o es, e => match e with
    | .Call (.Attribute eo nm apos) ees [] pos => mE S Γ o eo && mL S Γ es ees && noStar ees && !isCall0 eo && apos.endLine == pos.line && nm == ("startswith" : Str) && ees.length == 1
    | _ => false
  | _, _ => false
end
end Iv

set_option Elab.async false
set_option linter.all false
set_option maxRecDepth 100000
set_option maxHeartbeats 4000000
namespace Iv
open PySem PySem.Spec PyProof.Rows L2
section
variable {X : Cx} {S : Sta} {cf : CF} {Γ : Gm}
theorem GOk.vis {x : Str} (g : GOk X Γ) (h : Γ.vis x = true) : Vis X.env.scope x := by
  unfold Gm.vis Gm.lk at h
  unfold Vis
  rw [g.sc]
  simp only [Bool.or_eq_true, beq_iff_eq] at h
  rcases h with (h | h) | h
  · exact .inl h
  · exact .inr (.inl h)
  · exact .inr (.inr h)
theorem GOk.loc {x : Str} (g : GOk X Γ) (h : Γ.loc x = true) : Loc X.env.scope x ∧ (X.fn x = true ∨ X.env.scope.names.lookup x = some .local) := by
  unfold Gm.loc Gm.lk at h
  unfold L2.Loc
  rw [g.sc, g.fn]
  simp only [Bool.and_eq_true, Bool.or_eq_true, beq_iff_eq] at h
  exact h
theorem GOk.gl {x : Str} (g : GOk X Γ) (h : Γ.gl x = true) : Gl X x := by
  unfold Gm.gl Gm.lk at h
  unfold Gl Env.kindOf
  rw [g.sc]
  simpa using h
theorem GOk.at_ {i : Nat} {x : Str} (g : GOk X Γ) (h : Γ.at_ i x = true) : X.N[i]? = some x := by
  unfold Gm.at_ at h
  rw [g.N]
  simpa using h
theorem XOk.no {x : Str} (ok : XOk X S cf) (h : S.blt.contains x = true) : X.mg x = none := ok.blt x (by simpa using h)
theorem XOk.blk (ok : XOk X S cf) (s : Shared) (H : Hp) (scope : Scope) (cenv : Env) (fp : List Addr) : XOk (X.blk s H scope cenv fp) S cf := ⟨ok.K, ok.mg, ok.calm, ok.nd, ok.un, ok.fld, ok.fns, ok.mks, ok.blt, ok.gls⟩
theorem GOk.blk {scope : Scope} (g : GOk X Γ) (k : scope.kind = .function) (s : Shared) (H : Hp) (C : Addr) (cl : List (Str × Addr)) (fp : List Addr) : GOk (X.blk s H scope (compEnvC scope cl C X.env) fp) (Γ.sub scope) :=
  ⟨g.N, by show relS scope X.env.scope = relS scope Γ.sc; rw [g.sc], fun x => rfl, k⟩
theorem folded_ok {iter : Expr} (h : isSetE iter = false) (env : Env) (x : Value) : foldedSetIterable iter env x = pure x := by
  cases iter <;> first | rfl | cases h
theorem isTrue_ok {e : Expr} (h : plainT e = true) (env : Env) (whole : Sem Value) : isTrue e env whole = (do let v ← whole; standAt e.pos; holding [v] (truthy v)) := by
  cases e with
  | UnaryOp op x p => cases op <;> first | rfl | cases h
  | BoolOp _ _ _ => cases h
  | IfExp _ _ _ _ => cases h
  | Compare _ _ _ _ => cases h
  | _ => rfl
theorem pe_bad {a b : E} {e : Expr} : PE X e (tEv S cf (.star a b)) := ⟨fun pins s σ H Q I hw => by
  obtain ⟨_, _, _, _, _, _, _, _, ev, _⟩ := hw
  simp [evE] at ev⟩
theorem pt_bad {a b : E} {e : Expr} : PT X e (tTv S cf (.star a b)) := ⟨fun pins s σ H Q I hw => by
  obtain ⟨_, _, _, _, _, _, _, _, ev, _⟩ := hw
  simp [evE] at ev⟩
theorem pw_bad {a b : E} {e : Expr} : PW X e (tTv S cf (.star a b)) := ⟨fun wh pins s σ H Q I hw => by
  obtain ⟨_, _, _, _, _, _, _, _, ev, _⟩ := hw
  simp [evE] at ev⟩
/-- the walks of a for, of a comprehension -/
theorem it_ok {a b : E} {k : IK} {tg iter : Expr} (ok : XOk X S cf) (g : GOk X Γ) (ha : ∀ e, mE S Γ a e = true → PE X e (tEv S cf a)) (hb : ∀ e, mE S Γ b e = true → PE X e (tEv S cf b))
    (h : mIt S Γ (mE S Γ a) (mE S Γ b) (isNil b) k tg iter = true) : PI X tg iter (iTv X S cf k a b) ∧ isSetE iter = false := by
  have nilE : isNil b = true → b = .nil := by cases b <;> simp [isNil]
  unfold mIt at h
  split at h
  · simp only [Bool.and_eq_true, Bool.not_eq_true'] at h
    obtain ⟨⟨h1, h2⟩, h3⟩ := h
    rw [nilE h2]
    exact ⟨i_plain ok (ha _ h1), h3⟩
  · split at h
    · simp only [Bool.and_eq_true, Bool.not_eq_true', decide_eq_true_eq] at h
      obtain ⟨⟨⟨⟨⟨rfl, h2⟩, h3⟩, h4⟩, h5⟩, h6⟩ := h
      rw [nilE h5]
      exact ⟨i_range1 ok (g.gl h2) (ok.no h3) (ha _ h4) h6, rfl⟩
    · cases h
  · split at h
    · simp only [Bool.and_eq_true, Bool.not_eq_true', decide_eq_true_eq] at h
      obtain ⟨⟨⟨⟨⟨⟨rfl, h2⟩, h3⟩, h4⟩, h5⟩, h6⟩, h7⟩ := h
      exact ⟨i_range2 ok (g.gl h2) (ok.no h3) (ha _ h4) (hb _ h5) h6 h7, rfl⟩
    · cases h
  · split at h
    · simp only [Bool.and_eq_true, Bool.not_eq_true', decide_eq_true_eq] at h
      obtain ⟨⟨⟨⟨⟨rfl, h2⟩, h3⟩, h4⟩, h5⟩, h6⟩ := h
      rw [nilE h5]
      exact ⟨i_enum ok (g.gl h2) (ok.no h3) (ha _ h4) h6, rfl⟩
    · cases h
  · split at h
    · simp only [Bool.and_eq_true, Bool.not_eq_true', decide_eq_true_eq] at h
      obtain ⟨⟨⟨⟨⟨⟨rfl, h2⟩, h3⟩, h4⟩, h5⟩, h6⟩, h7⟩ := h
      exact ⟨i_zip ok (g.gl h2) (ok.no h3) (ha _ h4) (hb _ h5) h6 h7, rfl⟩
    · cases h
  · cases h
theorem in_ok {a b : E} {k : IK} {tg iter : Expr} (ok : XOk X S cf) (g : GOk X Γ) (ha : ∀ e, mE S Γ a e = true → PE X e (tEv S cf a)) (h : mIn S Γ (mE S Γ a) (isNil b) k iter = true) : PI X tg iter (iNv S cf k a b) ∧ isSetE iter = false := by
  have nilE : isNil b = true → b = .nil := by cases b <;> simp [isNil]
  unfold mIn at h
  split at h
  · simp only [Bool.and_eq_true, Bool.not_eq_true'] at h
    obtain ⟨⟨h1, h2⟩, h3⟩ := h
    rw [nilE h2]
    exact ⟨n_plain ok (ha _ h1), h3⟩
  · split at h
    · simp only [Bool.and_eq_true, Bool.not_eq_true', decide_eq_true_eq] at h
      obtain ⟨⟨⟨⟨⟨rfl, h2⟩, h3⟩, h4⟩, h5⟩, h6⟩ := h
      rw [nilE h5]
      exact ⟨n_range1 ok (g.gl h2) (ok.no h3) (ha _ h4) h6, rfl⟩
    · cases h
  · cases h
structure GP (a : E) : Prop where
  g : ∀ {X : Cx} {S : Sta} {cf : CF} {Γ : Gm} {tg : Expr}, XOk X S cf → GOk X Γ → mG Γ a tg = true → PG X tg (gTv S a)
  gs : ∀ {X : Cx} {S : Sta} {cf : CF} {Γ : Gm} {tg : List Expr}, XOk X S cf → GOk X Γ → mGs Γ a tg = true → PGs X tg (gTs S a)
theorem gp (a : E) : GP a := by
  induction a with
  | var i =>
    refine ⟨fun {X S cf Γ tg} ok go h => ?_, fun {X S cf Γ tg} ok go h => by simp [mGs] at h⟩
    simp only [mG] at h
    split at h
    · simp only [Bool.and_eq_true] at h
      obtain ⟨l1, l2⟩ := go.loc h.2
      exact g_var ok (go.at_ h.1) l1 l2
    · cases h
  | tup ts ih =>
    refine ⟨fun {X S cf Γ tg} ok go h => ?_, fun {X S cf Γ tg} ok go h => by simp [mGs] at h⟩
    simp only [mG] at h
    split at h
    · simp only [Bool.and_eq_true, beq_iff_eq] at h
      exact g_tup ok (ih.gs ok go h.1.1) h.1.2 h.2
    · cases h
  | nil =>
    refine ⟨fun {X S cf Γ tg} ok go h => by simp [mG] at h, fun {X S cf Γ tg} ok go h => ?_⟩
    simp only [mGs, List.isEmpty_iff] at h
    subst h
    exact g_nil
  | cons a t iha iht =>
    refine ⟨fun {X S cf Γ tg} ok go h => by simp [mG] at h, fun {X S cf Γ tg} ok go h => ?_⟩
    cases a with
    | var i =>
      simp only [mGs] at h
      split at h
      · simp only [Bool.and_eq_true] at h
        obtain ⟨l1, l2⟩ := go.loc h.1.2
        exact g_cons (g_var ok (go.at_ h.1.1) l1 l2) (iht.gs ok go h.2)
      · cases h
    | _ => simp [mGs] at h
  | _ => exact ⟨fun {X S cf Γ tg} ok go h => by simp [mG] at h, fun {X S cf Γ tg} ok go h => by simp [mGs] at h⟩
theorem tyBs_ok : ∀ t ∈ tyBs, isiT t = true ∧ bootBuiltins (Str.ofString t) = some (.type t) ∧ Str.ofString t ≠ "__name__" ∧ (Str.ofString t == ("__debug__" : Str)) = false := by decide +kernel
theorem pts_yes {a : Bool} : PTs X [] (tTv S cf (.bl true)) := ⟨fun pins s σ H Q I hw => by
  obtain ⟨hθ, A, G, ρ, b, G', c, l, ev, w⟩ := hw
  simp only [evE, Option.some.injEq, Prod.mk.injEq, D.bl.injEq] at ev
  obtain ⟨rfl, rfl⟩ := ev
  exact pts_nil.run pins s σ H Q I (w A H Gr.refl c)⟩
theorem any_gt {x : Str} {d : D} : ∀ {l : List (Str × D)}, (l.any fun p => p.1 == x && deq p.2 d) = true → (x, d) ∈ l
  | [], h => by simp at h
  | p :: l, h => by
    simp only [List.any_cons, Bool.or_eq_true, Bool.and_eq_true, beq_iff_eq] at h
    rcases h with h | h
    · rw [← h.1, ← deq_ok h.2]; exact List.mem_cons_self ..
    · exact List.mem_cons_of_mem _ (any_gt (by simpa using h))
structure EP1 (a : E) : Prop where
  e : ∀ {X : Cx} {S : Sta} {cf : CF} {Γ : Gm} {ee : Expr}, XOk X S cf → GOk X Γ → mE S Γ a ee = true → PE X ee (tEv S cf a)
  l : ∀ {X : Cx} {S : Sta} {cf : CF} {Γ : Gm} {es : List Expr}, XOk X S cf → GOk X Γ → mL S Γ a es = true → PA X es (tLv S cf a)
  t : ∀ {X : Cx} {S : Sta} {cf : CF} {Γ : Gm} {ee : Expr}, XOk X S cf → GOk X Γ → mT S Γ a ee = true → PT X ee (tTv S cf a)
  w : ∀ {X : Cx} {S : Sta} {cf : CF} {Γ : Gm} {o : BoolOp} {e1 : Expr} {es : List Expr} {p : Pos}, XOk X S cf → GOk X Γ → mT S Γ a (strip (.BoolOp o (e1 :: es) p)) = true → PW X (.BoolOp o (e1 :: es) p) (tTv S cf a)
  d : ∀ {X : Cx} {S : Sta} {cf : CF} {Γ : Gm} {ks : List (Option Expr)} {vs : List Expr}, XOk X S cf → GOk X Γ → mD S Γ a ks vs = true → DPs X S cf a ks vs
/-- single parts -/
theorem w_one {a : E} {o : BoolOp} {e1 : Expr} {p : Pos} (h : PT X e1 (tTv S cf a)) : PW X (.BoolOp o [e1] p) (tTv S cf a) := by
  cases o with
  | And => exact w_one_and h
  | Or => exact w_one_or h
theorem EP1.strip {a : E} {o : BoolOp} {e1 : Expr} {es : List Expr} {p : Pos} (i : EP1 a) (ok : XOk X S cf) (g : GOk X Γ) (h : mE S Γ a (strip (.BoolOp o (e1 :: es) p)) = true) : PE X (.BoolOp o (e1 :: es) p) (tEv S cf a) := by
  cases es with
  | nil => exact s_one (i.e ok g h)
  | cons e2 es => exact i.e ok g h
/-- no BoolOp: tests of several parts do not fit -/
theorem w_of {a : E} (ht : ∀ {X : Cx} {S : Sta} {cf : CF} {Γ : Gm} {ee : Expr}, XOk X S cf → GOk X Γ → mT S Γ a ee = true → PT X ee (tTv S cf a))
    (hn : ∀ {S : Sta} {Γ : Gm} {o : BoolOp} {e1 e2 : Expr} {es : List Expr} {p : Pos}, mT S Γ a (.BoolOp o (e1 :: e2 :: es) p) = false) :
    ∀ {X : Cx} {S : Sta} {cf : CF} {Γ : Gm} {o : BoolOp} {e1 : Expr} {es : List Expr} {p : Pos}, XOk X S cf → GOk X Γ → mT S Γ a (strip (.BoolOp o (e1 :: es) p)) = true → PW X (.BoolOp o (e1 :: es) p) (tTv S cf a) := by
  intro X S cf Γ o e1 es p ok g h
  cases es with
  | nil => exact w_one (ht ok g h)
  | cons e2 es =>
    have : mT S Γ a (.BoolOp o (e1 :: e2 :: es) p) = true := h
    rw [hn] at this
    cases this
end
end Iv

set_option Elab.async false
set_option linter.all false
set_option maxRecDepth 100000
set_option maxHeartbeats 4000000
namespace Iv
open PySem PySem.Spec PyProof.Rows L2
theorem ep_of {a : E} (he : ∀ {X : Cx} {S : Sta} {cf : CF} {Γ : Gm} {ee : Expr}, XOk X S cf → GOk X Γ → mE S Γ a ee = true → PE X ee (tEv S cf a)) (hl : ∀ {S : Sta} {Γ : Gm} {es : List Expr}, mL S Γ a es = false) (ht : ∀ {S : Sta} {Γ : Gm} {e : Expr}, mT S Γ a e = false)
    (hd : ∀ {S : Sta} {Γ : Gm} {ks : List (Option Expr)} {vs : List Expr}, mD S Γ a ks vs = false) : EP1 a :=
  ⟨he, fun {X S cf Γ es} ok go h => (by rw [hl] at h; cases h), fun {X S cf Γ es} ok go h => (by rw [ht] at h; cases h), fun {X S cf Γ o e1 es p} ok go h => (by rw [ht] at h; cases h), fun {X S cf Γ ks vs} ok go h => (by rw [hd] at h; cases h)⟩
theorem ep_v {a : E} (he : ∀ {X : Cx} {S : Sta} {cf : CF} {Γ : Gm} {ee : Expr}, XOk X S cf → GOk X Γ → mE S Γ a ee = true → PE X ee (tEv S cf a)) (hl : ∀ {S : Sta} {Γ : Gm} {es : List Expr}, mL S Γ a es = false)
    (hv : ∀ {S : Sta} {Γ : Gm} {e : Expr}, mT S Γ a e = true → mE S Γ a e = true ∧ plainT e = true) (hd : ∀ {S : Sta} {Γ : Gm} {ks : List (Option Expr)} {vs : List Expr}, mD S Γ a ks vs = false) : EP1 a := by
  have ht : ∀ {X : Cx} {S : Sta} {cf : CF} {Γ : Gm} {ee : Expr}, XOk X S cf → GOk X Γ → mT S Γ a ee = true → PT X ee (tTv S cf a) := fun {X S cf Γ ee} ok go h => t_val (he ok go (hv h).1) (fun wh => isTrue_ok (hv h).2 _ wh)
  refine ⟨he, fun {X S cf Γ es} ok go h => (by rw [hl] at h; cases h), ht, w_of ht ?_, fun {X S cf Γ ks vs} ok go h => (by rw [hd] at h; cases h)⟩
  intro S Γ o e1 e2 es p
  cases q : mT S Γ a (.BoolOp o (e1 :: e2 :: es) p) with
  | false => rfl
  | true => exact absurd (hv q).2 (by simp [plainT])
theorem noStar_one {e : Expr} (h : noStar [e] = true) : isStarE e = false := by simpa [noStar] using h
theorem len1 {es : List Expr} (h : (es.length == 1) = true) : ∃ e, es = [e] := by
  match es, h with
  | [e], _ => exact ⟨e, rfl⟩
  | [], h => simp at h
  | _ :: _ :: _, h => simp at h
theorem len2 {es : List Expr} (h : (es.length == 2) = true) : ∃ e f, es = [e, f] := by
  match es, h with
  | [e, f], _ => exact ⟨e, f, rfl⟩
  | [], h => simp at h
  | [_], h => simp at h
  | _ :: _ :: _ :: _, h => simp at h
/-- argument lists of one, two -/
theorem mL1 {S : Sta} {Γ : Gm} {es : E} {e : Expr} (h : mL S Γ es [e] = true) (hn : isStarE e = false) : ∃ a, es = .cons a .nil ∧ mE S Γ a e = true := by
  cases es with
  | cons a t =>
    simp only [mL, Bool.and_eq_true] at h
    cases t with
    | nil => exact ⟨a, rfl, h.1.2⟩
    | cons _ _ => simp [mL] at h
    | star _ _ => simp [mL] at h
    | _ => simp [mL] at h
  | star a t =>
    simp only [mL] at h
    split at h
    · rename_i hq; cases hq; cases hn
    · cases h
  | _ => simp [mL] at h
theorem mL2 {S : Sta} {Γ : Gm} {es : E} {e f : Expr} (h : mL S Γ es [e, f] = true) (hn : isStarE e = false) (hn2 : isStarE f = false) : ∃ a b, es = .cons a (.cons b .nil) ∧ mE S Γ a e = true ∧ mE S Γ b f = true := by
  cases es with
  | cons a t =>
    simp only [mL, Bool.and_eq_true] at h
    obtain ⟨b, rfl, hb⟩ := mL1 h.2 hn2
    exact ⟨a, b, rfl, h.1.2, hb⟩
  | star a t =>
    simp only [mL] at h
    split at h
    · rename_i hq; cases hq; cases hn
    · cases h
  | _ => simp [mL] at h
theorem mL0 {S : Sta} {Γ : Gm} {es : E} (h : mL S Γ es [] = true) : es = .nil := by
  cases es with
  | nil => rfl
  | cons _ _ => simp [mL] at h
  | star _ _ => simp [mL] at h
  | _ => simp [mL] at h
theorem len0 {es : List Expr} (h : (es.length == 0) = true) : es = [] := by
  match es, h with
  | [], _ => rfl
  | _ :: _, h => simp at h
theorem dnil {S : Sta} {Γ : Gm} {a : E} (h : ∀ k v t, a ≠ .cons k (.cons v t)) (hn : a ≠ .nil) {ks : List (Option Expr)} {vs : List Expr} : mD S Γ a ks vs = false := by
  cases a with
  | nil => exact (hn rfl).elim
  | cons k t =>
    cases t with
    | cons v t => exact (h _ _ _ rfl).elim
    | _ => rfl
  | _ => rfl
/-- a single argument, its own rule known -/
structure Sub1 (es : E) : Prop where
  sub : ∀ {a t : E}, es = .cons a t → EP1 a ∧ EP1 t
  sub2 : ∀ {a b t : E}, es = .cons a (.cons b t) → EP1 a ∧ EP1 b
structure EP2 (a : E) : Prop where
  p : EP1 a
  s : Sub1 a
theorem no_sub {a : E} (h : ∀ x t, a ≠ .cons x t) : Sub1 a := ⟨fun {x t} e => (h x t e).elim, fun {x y t} e => (h x _ e).elim⟩
theorem ep2 (a : E) : EP2 a := by
  induction a with
  | nil =>
    refine ⟨⟨fun {X S cf Γ ee} ok go h => (by simp [mE] at h), fun {X S cf Γ es} ok go h => ?_, fun {X S cf Γ ee} ok go h => (by simp [mT] at h), fun {X S cf Γ o e1 es p} ok go h => (by simp [mT] at h), fun {X S cf Γ ks vs} ok go h => ?_⟩, no_sub (fun _ _ e => nomatch e)⟩
    · simp only [mL, List.isEmpty_iff] at h
      subst h
      exact s_nil
    · simp only [mD, Bool.and_eq_true, List.isEmpty_iff] at h
      obtain ⟨rfl, rfl⟩ := h
      exact .nil
  | cons a t iha iht =>
    refine ⟨⟨fun {X S cf Γ ee} ok go h => (by simp [mE] at h), fun {X S cf Γ es} ok go h => ?_, fun {X S cf Γ ee} ok go h => (by simp [mT] at h), fun {X S cf Γ o e1 es p} ok go h => (by simp [mT] at h), fun {X S cf Γ ks vs} ok go h => ?_⟩, ⟨fun {x u} e => (by cases e; exact ⟨iha.p, iht.p⟩), fun {x y u} e => (by cases e; exact ⟨iha.p, (iht.s.sub rfl).1⟩)⟩⟩
    · simp only [mL] at h
      split at h
      · simp only [Bool.and_eq_true, Bool.not_eq_true'] at h
        exact s_cons (iha.p.e ok go h.1.2) (iht.p.l ok go h.2) h.1.1
      · cases h
    · cases t with
      | cons v t =>
        simp only [mD] at h
        split at h
        · simp only [Bool.and_eq_true] at h
          obtain ⟨i1, i2⟩ := iht.s.sub rfl
          exact .cons (iha.p.e ok go h.1.1) (i1.e ok go h.1.2) (i2.d ok go h.2)
        · cases h
      | _ => simp [mD] at h
  | star a t iha iht =>
    refine ⟨⟨fun {X S cf Γ ee} ok go h => pe_bad, fun {X S cf Γ es} ok go h => ?_, fun {X S cf Γ ee} ok go h => pt_bad, fun {X S cf Γ o e1 es p} ok go h => pw_bad, fun {X S cf Γ ks vs} ok go h => (by simp [mD] at h)⟩, no_sub (fun _ _ e => nomatch e)⟩
    simp only [mL] at h
    split at h
    · simp only [Bool.and_eq_true] at h
      exact s_star ok (iha.p.e ok go h.1) (iht.p.l ok go h.2)
    · cases h
  | var i =>
    refine ⟨ep_v (fun {X S cf Γ ee} ok go h => ?_) rfl (fun {S Γ e} h => ?_) rfl, no_sub (fun _ _ e => nomatch e)⟩
    · simp only [mE] at h
      split at h
      · simp only [Bool.and_eq_true, Bool.not_eq_true'] at h
        exact s_var (go.at_ h.1.1.1) (go.vis h.1.1.2) h.1.2 h.2
      · cases h
    · simp only [mT] at h
      split at h
      · exact ⟨h, rfl⟩
      · cases h
  | int i =>
    refine ⟨ep_of (fun {X S cf Γ ee} ok go h => ?_) rfl rfl rfl, no_sub (fun _ _ e => nomatch e)⟩
    simp only [mE] at h
    split at h
    · simp only [beq_iff_eq] at h; subst h; exact s_int
    · cases h
  | str i =>
    refine ⟨ep_of (fun {X S cf Γ ee} ok go h => ?_) rfl rfl rfl, no_sub (fun _ _ e => nomatch e)⟩
    simp only [mE] at h
    split at h
    · simp only [beq_iff_eq] at h; subst h; exact s_str
    · cases h
  | bl i =>
    refine ⟨ep_v (fun {X S cf Γ ee} ok go h => ?_) rfl (fun {S Γ e} h => ?_) rfl, no_sub (fun _ _ e => nomatch e)⟩
    · simp only [mE] at h
      split at h
      · simp only [beq_iff_eq] at h; subst h; exact s_bl
      · cases h
    · simp only [mT] at h
      split at h
      · exact ⟨h, rfl⟩
      · cases h
  | non =>
    refine ⟨ep_of (fun {X S cf Γ ee} ok go h => ?_) rfl rfl rfl, no_sub (fun _ _ e => nomatch e)⟩
    simp only [mE] at h
    split at h
    · exact s_non
    · cases h
  | gl x d =>
    refine ⟨ep_of (fun {X S cf Γ ee} ok go h => ?_) rfl rfl rfl, no_sub (fun _ _ e => nomatch e)⟩
    simp only [mE] at h
    split at h
    · simp only [Bool.and_eq_true, Bool.not_eq_true', beq_iff_eq] at h
      obtain ⟨⟨⟨rfl, h2⟩, h3⟩, h4⟩ := h
      obtain ⟨v, u, m, r, q⟩ := ok.gls _ _ (any_gt h4)
      exact s_gl (go.gl h2) m r q h3
    · cases h
  | bin o c a b iha ihb =>
    refine ⟨ep_of (fun {X S cf Γ ee} ok go h => ?_) rfl rfl rfl, no_sub (fun _ _ e => nomatch e)⟩
    simp only [mE] at h
    split at h
    · simp only [Bool.and_eq_true, decide_eq_true_eq] at h
      obtain ⟨⟨rfl, h2⟩, h3⟩ := h
      exact s_bin ok (iha.p.e ok go h2) (ihb.p.e ok go h3)
    · cases h
  | neg a iha =>
    refine ⟨ep_of (fun {X S cf Γ ee} ok go h => ?_) rfl rfl rfl, no_sub (fun _ _ e => nomatch e)⟩
    simp only [mE] at h
    split at h
    · exact s_neg (iha.p.e ok go h)
    · cases h
  | cmp o a b iha ihb =>
    have ht : ∀ {X : Cx} {S : Sta} {cf : CF} {Γ : Gm} {ee : Expr}, XOk X S cf → GOk X Γ → mT S Γ (.cmp o a b) ee = true → PT X ee (tTv S cf (.cmp o a b)) := by
      intro X S cf Γ ee ok go h
      simp only [mT] at h
      split at h
      · simp only [Bool.and_eq_true, Bool.not_eq_true', decide_eq_true_eq] at h
        obtain ⟨⟨⟨rfl, h2⟩, h3⟩, h4⟩ := h
        exact t_cmp ok (iha.p.e ok go h2) (ihb.p.e ok go h3) h4
      · cases h
    refine ⟨⟨fun {X S cf Γ ee} ok go h => ?_, fun {X S cf Γ es} ok go h => (by simp [mL] at h), ht, w_of ht (by intros; simp [mT]), fun {X S cf Γ ks vs} ok go h => (by simp [mD] at h)⟩, no_sub (fun _ _ e => nomatch e)⟩
    simp only [mE] at h
    split at h
    · simp only [Bool.and_eq_true, Bool.not_eq_true', decide_eq_true_eq] at h
      obtain ⟨⟨⟨rfl, h2⟩, h3⟩, h4⟩ := h
      exact s_cmp ok (iha.p.e ok go h2) (ihb.p.e ok go h3) h4
    · cases h
  | chain o o' a b c iha ihb ihc =>
    have ht : ∀ {X : Cx} {S : Sta} {cf : CF} {Γ : Gm} {ee : Expr}, XOk X S cf → GOk X Γ → mT S Γ (.chain o o' a b c) ee = true → PT X ee (tTv S cf (.chain o o' a b c)) := by
      intro X S cf Γ ee ok go h
      simp only [mT] at h
      split at h
      · simp only [Bool.and_eq_true, Bool.not_eq_true', decide_eq_true_eq] at h
        obtain ⟨⟨⟨⟨⟨rfl, rfl⟩, h2⟩, h3⟩, h4⟩, h5⟩ := h
        exact t_chain ok (iha.p.e ok go h2) (ihb.p.e ok go h3) (ihc.p.e ok go h4) h5
      · cases h
    refine ⟨⟨fun {X S cf Γ ee} ok go h => ?_, fun {X S cf Γ es} ok go h => (by simp [mL] at h), ht, w_of ht (by intros; simp [mT]), fun {X S cf Γ ks vs} ok go h => (by simp [mD] at h)⟩, no_sub (fun _ _ e => nomatch e)⟩
    simp only [mE] at h
    split at h
    · simp only [Bool.and_eq_true, Bool.not_eq_true', decide_eq_true_eq] at h
      obtain ⟨⟨⟨⟨⟨rfl, rfl⟩, h2⟩, h3⟩, h4⟩, h5⟩ := h
      exact s_chain ok (iha.p.e ok go h2) (ihb.p.e ok go h3) (ihc.p.e ok go h4) h5
    · cases h
  | and a b iha ihb =>
    have hw : ∀ {X : Cx} {S : Sta} {cf : CF} {Γ : Gm} {ea eb : Expr} {es : List Expr} {p : Pos}, XOk X S cf → GOk X Γ → mT S Γ a ea = true → mT S Γ b (strip (.BoolOp .And (eb :: es) p)) = true → PW X (.BoolOp .And (ea :: eb :: es) p) (tTv S cf (.and a b)) :=
      fun {X S cf Γ ea eb es p} ok go h1 h2 => w_and (iha.p.t ok go h1) (ihb.p.w ok go h2)
    have ht : ∀ {X : Cx} {S : Sta} {cf : CF} {Γ : Gm} {ee : Expr}, XOk X S cf → GOk X Γ → mT S Γ (.and a b) ee = true → PT X ee (tTv S cf (.and a b)) := by
      intro X S cf Γ ee ok go h
      simp only [mT] at h
      split at h
      · simp only [Bool.and_eq_true] at h
        exact (hw ok go h.1 h.2).pt
      · cases h
    refine ⟨⟨fun {X S cf Γ ee} ok go h => ?_, fun {X S cf Γ es} ok go h => (by simp [mL] at h), ht, fun {X S cf Γ o e1 es p} ok go h => ?_, fun {X S cf Γ ks vs} ok go h => (by simp [mD] at h)⟩, no_sub (fun _ _ e => nomatch e)⟩
    · simp only [mE] at h
      split at h
      · simp only [Bool.and_eq_true] at h
        exact s_and (iha.p.e ok go h.1) (ihb.p.strip ok go h.2)
      · cases h
    · cases es with
      | nil => exact w_one (ht ok go h)
      | cons e2 es =>
        simp only [strip, mT] at h
        split at h
        · rename_i hq
          cases hq
          simp only [Bool.and_eq_true] at h
          exact hw ok go h.1 h.2
        · cases h
  | or a b iha ihb =>
    have hw : ∀ {X : Cx} {S : Sta} {cf : CF} {Γ : Gm} {ea eb : Expr} {es : List Expr} {p : Pos}, XOk X S cf → GOk X Γ → mT S Γ a ea = true → mT S Γ b (strip (.BoolOp .Or (eb :: es) p)) = true → PW X (.BoolOp .Or (ea :: eb :: es) p) (tTv S cf (.or a b)) :=
      fun {X S cf Γ ea eb es p} ok go h1 h2 => w_or (iha.p.t ok go h1) (ihb.p.w ok go h2)
    have ht : ∀ {X : Cx} {S : Sta} {cf : CF} {Γ : Gm} {ee : Expr}, XOk X S cf → GOk X Γ → mT S Γ (.or a b) ee = true → PT X ee (tTv S cf (.or a b)) := by
      intro X S cf Γ ee ok go h
      simp only [mT] at h
      split at h
      · simp only [Bool.and_eq_true] at h
        exact (hw ok go h.1 h.2).pt
      · cases h
    refine ⟨⟨fun {X S cf Γ ee} ok go h => ?_, fun {X S cf Γ es} ok go h => (by simp [mL] at h), ht, fun {X S cf Γ o e1 es p} ok go h => ?_, fun {X S cf Γ ks vs} ok go h => (by simp [mD] at h)⟩, no_sub (fun _ _ e => nomatch e)⟩
    · simp only [mE] at h
      split at h
      · simp only [Bool.and_eq_true] at h
        exact s_or (iha.p.e ok go h.1) (ihb.p.strip ok go h.2)
      · cases h
    · cases es with
      | nil => exact w_one (ht ok go h)
      | cons e2 es =>
        simp only [strip, mT] at h
        split at h
        · rename_i hq
          cases hq
          simp only [Bool.and_eq_true] at h
          exact hw ok go h.1 h.2
        · cases h
  | not a iha =>
    have ht : ∀ {X : Cx} {S : Sta} {cf : CF} {Γ : Gm} {ee : Expr}, XOk X S cf → GOk X Γ → mT S Γ (.not a) ee = true → PT X ee (tTv S cf (.not a)) := by
      intro X S cf Γ ee ok go h
      simp only [mT] at h
      split at h
      · exact t_not (iha.p.t ok go h)
      · cases h
    refine ⟨⟨fun {X S cf Γ ee} ok go h => ?_, fun {X S cf Γ es} ok go h => (by simp [mL] at h), ht, w_of ht (by intros; simp [mT]), fun {X S cf Γ ks vs} ok go h => (by simp [mD] at h)⟩, no_sub (fun _ _ e => nomatch e)⟩
    simp only [mE] at h
    split at h
    · exact s_not (iha.p.e ok go h)
    · cases h
  | ite c a b ihc iha ihb =>
    refine ⟨ep_of (fun {X S cf Γ ee} ok go h => ?_) rfl rfl rfl, no_sub (fun _ _ e => nomatch e)⟩
    simp only [mE] at h
    split at h
    · simp only [Bool.and_eq_true] at h
      exact s_ite (ihc.p.t ok go h.1.1) (iha.p.e ok go h.1.2) (ihb.p.e ok go h.2)
    · cases h
  | lst c es ih =>
    refine ⟨ep_of (fun {X S cf Γ ee} ok go h => ?_) rfl rfl rfl, no_sub (fun _ _ e => nomatch e)⟩
    simp only [mE] at h
    split at h
    · exact s_lst (ih.p.l ok go h)
    · cases h
  | tup es ih =>
    refine ⟨ep_of (fun {X S cf Γ ee} ok go h => ?_) rfl rfl rfl, no_sub (fun _ _ e => nomatch e)⟩
    simp only [mE] at h
    split at h
    · exact s_tup (ih.p.l ok go h)
    · cases h
  | dK0 c =>
    refine ⟨ep_of (fun {X S cf Γ ee} ok go h => ?_) rfl rfl rfl, no_sub (fun _ _ e => nomatch e)⟩
    simp only [mE] at h
    split at h
    · exact s_dK0
    · cases h
  | dT0 c =>
    refine ⟨ep_of (fun {X S cf Γ ee} ok go h => ?_) rfl rfl rfl, no_sub (fun _ _ e => nomatch e)⟩
    simp only [mE] at h
    split at h
    · exact s_dT0
    · cases h
  | dic c es ih =>
    refine ⟨ep_of (fun {X S cf Γ ee} ok go h => ?_) rfl rfl rfl, no_sub (fun _ _ e => nomatch e)⟩
    simp only [mE] at h
    split at h
    · simp only [Bool.and_eq_true, Bool.not_eq_true', decide_eq_true_eq] at h
      exact s_dic (ih.p.d ok go h.1.1) (by intro e; rw [e] at h; simp at h) h.2
    · cases h
  | idx a i iha ihi =>
    refine ⟨ep_of (fun {X S cf Γ ee} ok go h => ?_) rfl rfl rfl, no_sub (fun _ _ e => nomatch e)⟩
    simp only [mE] at h
    split at h
    · simp only [Bool.and_eq_true, Bool.not_eq_true'] at h
      exact s_idx ok (iha.p.e ok go h.1.1) (ihi.p.e ok go h.1.2) h.2
    · cases h
  | slice c a lo hi iha ihl ihh =>
    refine ⟨ep_of (fun {X S cf Γ ee} ok go h => ?_) rfl rfl rfl, no_sub (fun _ _ e => nomatch e)⟩
    have nilE : ∀ {b : E}, isNil b = true → b = .nil := by intro b; cases b <;> simp [isNil]
    simp only [mE] at h
    split at h
    · simp only [Bool.and_eq_true] at h
      obtain ⟨⟨h1, h2⟩, h3⟩ := h
      refine s_slice ok (iha.p.e ok go h1) ?_ ?_
      · split at h2
        · rw [nilE h2]; exact .no
        · simp only [Bool.and_eq_true, Bool.not_eq_true'] at h2
          exact .so h2.1 (ihl.p.e ok go h2.2)
      · split at h3
        · rw [nilE h3]; exact .no
        · simp only [Bool.and_eq_true, Bool.not_eq_true'] at h3
          exact .so h3.1 (ihh.p.e ok go h3.2)
    · cases h
  | rev c a iha =>
    refine ⟨ep_of (fun {X S cf Γ ee} ok go h => ?_) rfl rfl rfl, no_sub (fun _ _ e => nomatch e)⟩
    simp only [mE] at h
    split at h
    · simp only [Bool.and_eq_true, beq_iff_eq] at h
      obtain ⟨rfl, h⟩ := h
      exact s_rev ok (iha.p.e ok go h)
    · cases h
  | attr a f iha =>
    refine ⟨ep_of (fun {X S cf Γ ee} ok go h => ?_) rfl rfl rfl, no_sub (fun _ _ e => nomatch e)⟩
    simp only [mE] at h
    split at h
    · simp only [Bool.and_eq_true, Bool.not_eq_true', beq_iff_eq] at h
      obtain ⟨⟨⟨rfl, h2⟩, h3⟩, h4⟩ := h
      exact s_attr ok (iha.p.e ok go h4) (by simpa using h2) (baseOk h3 _ _ _)
    · cases h
  | call f es ih =>
    refine ⟨ep_v (fun {X S cf Γ ee} ok go h => ?_) rfl (fun {S Γ e} h => ?_) rfl, no_sub (fun _ _ e => nomatch e)⟩
    · simp only [mE] at h
      split at h
      · rename_i g _ ees _
        simp only [Bool.and_eq_true, Bool.not_eq_true', beq_iff_eq] at h
        obtain ⟨⟨⟨⟨⟨rfl, h2⟩, h3⟩, h4⟩, h5⟩, h6⟩ := h
        cases ees with
        | nil => rw [mL0 h5]; exact s_call0 ok (go.gl h2) h3
        | cons e es => exact s_call ok (go.gl h2) (ih.p.l ok go h5) h4 h3
      · cases h
    · simp only [mT] at h
      split at h
      · exact ⟨h, rfl⟩
      · cases h
  | replC y z o ih => exact ⟨ep_of (fun {X S cf Γ ee} ok go h => (by simp [mE] at h)) rfl rfl rfl, no_sub (fun _ _ e => nomatch e)⟩
  | callK f g es ih => exact ⟨ep_of (fun {X S cf Γ ee} ok go h => (by simp [mE] at h)) rfl rfl rfl, no_sub (fun _ _ e => nomatch e)⟩
  | new f es ih =>
    refine ⟨ep_of (fun {X S cf Γ ee} ok go h => ?_) rfl rfl rfl, no_sub (fun _ _ e => nomatch e)⟩
    simp only [mE] at h
    split at h
    · rename_i g _ ees _
      simp only [Bool.and_eq_true, Bool.not_eq_true', beq_iff_eq] at h
      obtain ⟨⟨⟨⟨⟨rfl, h2⟩, h3⟩, h4⟩, h5⟩, h6⟩ := h
      cases ees with
      | nil => cases h6
      | cons e es => exact s_new ok (go.gl h2) (ih.p.l ok go h5) h4 h3
    · cases h
  | bi b c es ih =>
    refine ⟨ep_v (fun {X S cf Γ ee} ok go h => ?_) rfl (fun {S Γ e} h => ?_) rfl, no_sub (fun _ _ e => nomatch e)⟩
    · simp only [mE] at h
      split at h
      · rename_i g _ ees _
        simp only [Bool.and_eq_true, Bool.not_eq_true', beq_iff_eq] at h
        obtain ⟨⟨⟨⟨⟨rfl, h2⟩, h3⟩, h4⟩, h5⟩, h6⟩ := h
        cases ees with
        | nil => cases h6
        | cons e es => exact s_bi ok (go.gl h2) (ok.no h3) (ih.p.l ok go h5) h4
      · cases h
    · simp only [mT] at h
      split at h
      · exact ⟨h, rfl⟩
      · cases h
  | isi a t iha =>
    refine ⟨ep_v (fun {X S cf Γ ee} ok go h => ?_) rfl (fun {S Γ e} h => ?_) rfl, no_sub (fun _ _ e => nomatch e)⟩
    · simp only [mE] at h
      split at h
      · simp only [Bool.and_eq_true, Bool.not_eq_true', beq_iff_eq] at h
        obtain ⟨⟨⟨⟨⟨⟨⟨⟨rfl, rfl⟩, h3⟩, h4⟩, h5⟩, h6⟩, h7⟩, h8⟩, h9⟩ := h
        obtain ⟨k1, k2, k3, k4⟩ := tyBs_ok t (by simpa using h7)
        exact s_isi ok (iha.p.e ok go h8) (go.gl h3) (ok.no h4) (go.gl h5) (ok.no h6) k1 k2 k3 k4 h9
      · cases h
    · simp only [mT] at h
      split at h
      · exact ⟨h, rfl⟩
      · cases h
  | lenSet a iha =>
    refine ⟨ep_of (fun {X S cf Γ ee} ok go h => ?_) rfl rfl rfl, no_sub (fun _ _ e => nomatch e)⟩
    simp only [mE] at h
    split at h
    · simp only [Bool.and_eq_true, Bool.not_eq_true', beq_iff_eq] at h
      obtain ⟨⟨⟨⟨⟨⟨⟨rfl, rfl⟩, h3⟩, h4⟩, h5⟩, h6⟩, h7⟩, h8⟩ := h
      exact s_lenSet ok (go.gl h3) (ok.no h5) (go.gl h4) (ok.no h6) (iha.p.e ok go h7) h8
    · cases h
  | sortSet c a iha =>
    refine ⟨ep_of (fun {X S cf Γ ee} ok go h => ?_) rfl rfl rfl, no_sub (fun _ _ e => nomatch e)⟩
    simp only [mE] at h
    split at h
    · simp only [Bool.and_eq_true, Bool.not_eq_true', beq_iff_eq] at h
      obtain ⟨⟨⟨⟨⟨⟨⟨rfl, rfl⟩, h3⟩, h4⟩, h5⟩, h6⟩, h7⟩, h8⟩ := h
      exact s_sortSet ok (go.gl h3) (ok.no h5) (go.gl h4) (ok.no h6) (iha.p.e ok go h7) h8
    · cases h
  | dictZ c a b iha ihb =>
    refine ⟨ep_of (fun {X S cf Γ ee} ok go h => ?_) rfl rfl rfl, no_sub (fun _ _ e => nomatch e)⟩
    simp only [mE] at h
    split at h
    · simp only [Bool.and_eq_true, Bool.not_eq_true', beq_iff_eq] at h
      obtain ⟨⟨⟨⟨⟨⟨⟨⟨⟨rfl, rfl⟩, h3⟩, h4⟩, h5⟩, h6⟩, h7⟩, h8⟩, h9⟩, h10⟩ := h
      exact s_dictZ ok (go.gl h3) (ok.no h5) (go.gl h4) (ok.no h6) (iha.p.e ok go h7) (ihb.p.e ok go h8) h9 h10
    · cases h
  | meth m c o es iho ihs =>
    refine ⟨ep_v (fun {X S cf Γ ee} ok go h => ?_) rfl (fun {S Γ e} h => ?_) rfl, no_sub (fun _ _ e => nomatch e)⟩
    · simp only [mE] at h
      split at h
      · rename_i eo nm apos ees pos
        simp only [Bool.and_eq_true, Bool.not_eq_true'] at h
        obtain ⟨⟨⟨⟨⟨h1, h2⟩, h3⟩, h4⟩, h5⟩, h6⟩ := h
        have io := iho.p.e ok go h1
        have one : ∀ {e : Expr}, ees = [e] → ∃ a, es = .cons a .nil ∧ PE X e (tEv S cf a) ∧ isStarE e = false := by
          intro e he
          subst he
          have hn := noStar_one h3
          obtain ⟨a, rfl, ha⟩ := mL1 h2 hn
          exact ⟨a, rfl, (ihs.s.sub rfl).1.e ok go ha, hn⟩
        split at h6
        · simp only [Bool.and_eq_true, beq_iff_eq (α := Str)] at h6
          obtain ⟨rfl, hl⟩ := h6
          have := len0 hl
          subst this
          rw [mL0 h2]
          exact s_words io h4 h5
        · simp only [Bool.and_eq_true, beq_iff_eq (α := Str)] at h6
          obtain ⟨rfl, hl⟩ := h6
          obtain ⟨e, he⟩ := len1 hl
          obtain ⟨a, rfl, ia, hn⟩ := one he
          subst he
          exact s_split io ia h4 hn h5
        · simp only [Bool.and_eq_true, beq_iff_eq (α := Str)] at h6
          obtain ⟨rfl, hl⟩ := h6
          obtain ⟨e, he⟩ := len1 hl
          obtain ⟨a, rfl, ia, hn⟩ := one he
          subst he
          exact s_join ok io ia h4 hn h5
        · simp only [Bool.and_eq_true, beq_iff_eq (α := Str)] at h6
          obtain ⟨rfl, hl⟩ := h6
          obtain ⟨e, he⟩ := len1 hl
          obtain ⟨a, rfl, ia, hn⟩ := one he
          subst he
          exact s_endswith io ia h4 hn h5
        · simp only [Bool.and_eq_true, beq_iff_eq (α := Str)] at h6
          obtain ⟨rfl, hl⟩ := h6
          obtain ⟨e, he⟩ := len1 hl
          obtain ⟨a, rfl, ia, hn⟩ := one he
          subst he
          exact s_startswith io ia h4 hn h5
        · simp only [Bool.and_eq_true, beq_iff_eq (α := Str)] at h6
          obtain ⟨rfl, hl⟩ := h6
          obtain ⟨e, he⟩ := len1 hl
          obtain ⟨a, rfl, ia, hn⟩ := one he
          subst he
          exact s_get1 ok io ia h4 hn h5
        · simp only [Bool.and_eq_true, beq_iff_eq (α := Str)] at h6
          obtain ⟨rfl, hl⟩ := h6
          obtain ⟨e, f, he⟩ := len2 hl
          subst he
          simp only [noStar, Bool.and_eq_true, Bool.not_eq_true', and_true] at h3
          obtain ⟨a, b, rfl, ha, hb⟩ := mL2 h2 h3.1 h3.2
          obtain ⟨i1, i2⟩ := ihs.s.sub2 rfl
          exact s_get2 ok io (i1.e ok go ha) (i2.e ok go hb) h4 h3.1 h3.2 h5
        · simp only [Bool.and_eq_true, beq_iff_eq (α := Str)] at h6
          obtain ⟨rfl, hl⟩ := h6
          obtain ⟨e, he⟩ := len1 hl
          obtain ⟨a, rfl, ia, hn⟩ := one he
          subst he
          exact s_append io ia h4 hn h5
        · cases h6
      · cases h
    · cases m with
      | endswith =>
        simp only [mT] at h
        split at h
        · refine ⟨?_, rfl⟩
          simp only [mE]
          simpa [Bool.and_assoc] using h
        · cases h
      | startswith =>
        simp only [mT] at h
        split at h
        · refine ⟨?_, rfl⟩
          simp only [mE]
          simpa [Bool.and_assoc] using h
        · cases h
      | _ => simp [mT] at h
  | comp c own k a b t tst elt iha ihb iht ihs ihe =>
    refine ⟨ep_of (fun {X S cf Γ ee} ok go h => ?_) rfl rfl rfl, no_sub (fun _ _ e => nomatch e)⟩
    simp only [mE] at h
    split at h
    · rename_i eelt tg iter ifs scope _
      simp only [Bool.and_eq_true] at h
      obtain ⟨⟨⟨⟨⟨h1, h2⟩, h3⟩, h4⟩, h5⟩, h6⟩ := h
      have bk := blkB_ok h1
      rw [← go.N, ← go.sc] at bk
      obtain ⟨i1, i2⟩ := it_ok ok go (fun e h => iha.p.e ok go h) (fun e h => ihb.p.e ok go h) h2
      have ht : ∀ i ∈ tgs t, i ∈ own.map (·.2) := fun i hi => by simpa using List.all_eq_true.mp h4 i hi
      have tests : ∀ {X : Cx} {Γ : Gm}, XOk X S cf → GOk X Γ → mIfs (mT S Γ tst) (isYes tst) ifs = true → PTs X ifs (tTv S cf tst) := by
        intro X Γ ok go h6
        unfold mIfs at h6
        split at h6
        · unfold isYes at h6
          split at h6
          · exact pts_yes (a := true)
          · cases h6
        · exact pts_one (ihs.p.t ok go h6)
        · cases h6
      exact PEm (pe_unl (pe_lc ok.calm ok.nd i1 bk (fun s H C cl fp => (gp t).g (ok.blk s H scope _ fp) (go.blk bk.kind s H C cl fp) h3) (fun s H C cl fp => tests (ok.blk s H scope _ fp) (go.blk bk.kind s H C cl fp) h6)
        (fun s H C cl fp => ihe.p.e (ok.blk s H scope _ fp) (go.blk bk.kind s H C cl fp) h5) (fun x => folded_ok i2 _ x))) fun σ H Q hw => comp_rd hw ht fun _ _ h => h
    · cases h
  | comp2 c own own1 k a b t k1 a1 b1 t1 elt iha ihb iht iha1 ihb1 iht1 ihe =>
    refine ⟨ep_of (fun {X S cf Γ ee} ok go h => ?_) rfl rfl rfl, no_sub (fun _ _ e => nomatch e)⟩
    simp only [mE] at h
    split at h
    · rename_i eelt tg iter tg1 iter1 scope _
      simp only [Bool.and_eq_true] at h
      obtain ⟨⟨⟨⟨⟨⟨⟨⟨h1, h2⟩, h3⟩, h4⟩, h5⟩, h6⟩, h7⟩, h8⟩, h9⟩ := h
      have bk := blkB_ok h1
      rw [← go.N, ← go.sc] at bk
      obtain ⟨i1, i2⟩ := it_ok ok go (fun e h => iha.p.e ok go h) (fun e h => ihb.p.e ok go h) h2
      have ht : ∀ i ∈ tgs t, i ∈ own.map (·.2) := fun i hi => by simpa using List.all_eq_true.mp h4 i hi
      have ht1 : ∀ i ∈ tgs t1, i ∈ own1 := fun i hi => by simpa using List.all_eq_true.mp h7 i hi
      have hv : ∀ i ∈ own1, i ∈ own.map (·.2) := fun i hi => by simpa using List.all_eq_true.mp h8 i hi
      have inn := fun (s : Shared) (H : Hp) (C : Addr) (cl : List (Str × Addr)) (fp : List Addr) => in_ok (X := X.blk s H scope (compEnvC scope cl C X.env) fp) (tg := tg1) (ok.blk s H scope _ fp) (go.blk bk.kind s H C cl fp) (fun e h => iha1.p.e (ok.blk s H scope _ fp) (go.blk bk.kind s H C cl fp) h) h5
      have st1 : isSetE iter1 = false := by
        unfold mIn at h5
        split at h5
        · simp only [Bool.and_eq_true, Bool.not_eq_true'] at h5; exact h5.2
        · split at h5
          · rfl
          · cases h5
        · cases h5
      exact PEm (pe_unl (pe_lc2 ok.calm ok.nd i1 bk hv (fun s H C cl fp => (gp t).g (ok.blk s H scope _ fp) (go.blk bk.kind s H C cl fp) h3) (fun s H C cl fp => pts_nil) (fun s H C cl fp => (inn s H C cl fp).1)
        (fun s H C cl fp => (gp t1).g (ok.blk s H scope _ fp) (go.blk bk.kind s H C cl fp) h6) (fun s H C cl fp => pts_nil)
        (fun s H C cl fp => ihe.p.e (ok.blk s H scope _ fp) (go.blk bk.kind s H C cl fp) h9) (fun x => folded_ok i2 _ x) (fun env x => folded_ok st1 env x))) fun σ H Q hw => comp2_rd hw ht ht1 fun _ _ h => h
    · cases h
theorem ep (a : E) : EP1 a := (ep2 a).p
end Iv

set_option Elab.async false
set_option linter.all false
set_option maxRecDepth 100000
set_option maxHeartbeats 4000000
namespace Iv
open PySem PySem.Spec PyProof.Rows L2
/-! assignments of several names at once -/
def lineOf : List Expr → Nat
  | e :: _ => e.pos.line
  | [] => 0
def swN (lk : Str → Option NameKind) (line : Nat) : List Expr → List Str
  | [] => []
  | .Name id pos :: r => if lk id == some .local && pos.line == line then id :: swN lk line r else swN lk line r
  | _ :: r => swN lk line r
def isStarred : Expr → Bool
  | .Starred _ _ => true
  | _ => false
/-- none: no swap; some names: a swap -/
def swR (lk : Str → Option NameKind) (ts vs : List Expr) : Option (Option (List Str)) :=
  if !(ts.length == 2 || ts.length == 3) || vs.length != ts.length then some none
  else if vs.any isStarE then some none
  else if (swN lk (lineOf ts) ts).length != ts.length || (swN lk (lineOf ts) ts).eraseDups.length != (swN lk (lineOf ts) ts).length then some none
  else if vs.all (foldedForSure 8) then some none
  else if vs.all (constantsAlone 8) then none
  else some (some (swN lk (lineOf ts) ts))
theorem swN_eq (env : Env) (line : Nat) : ∀ ts : List Expr, (ts.filterMap fun
    | .Name id pos => if env.kindOf id == some .local && pos.line == line then some id else none
    | _ => none) = swN env.kindOf line ts
  | [] => rfl
  | e :: r => by
    have ih := swN_eq env line r
    cases e with
    | Name id pos =>
      rw [List.filterMap_cons]
      simp only [swN]
      split
      · rename_i h
        split at h
        · cases h
        · rename_i hc
          rw [if_neg hc]; exact ih
      · rename_i b h
        split at h
        · rename_i hc
          cases h
          rw [if_pos hc, ih]
        · cases h
    | _ => first | (rw [List.filterMap_cons]; done) | (rw [List.filterMap_cons]; exact ih)
theorem sw_ok {env : Env} {ts vs : List Expr} {k k2 : Nat} {p p2 : Pos} {r : Option (List Str)} (hb : env.blockKind = .function) (h : swR env.kindOf ts vs = some r) : swappedStores [.Tuple ts k p] (.Tuple vs k2 p2) env = pure r := by
  unfold swappedStores
  dsimp only
  generalize hN : List.filterMap _ ts = nn
  have hN' : nn = swN env.kindOf ((ts.head?.map (·.pos.line)).getD 0) ts := hN.symm.trans (swN_eq env _ ts)
  subst hN'
  clear hN
  have el : (ts.head?.map (·.pos.line)).getD 0 = lineOf ts := by cases ts <;> rfl
  have es : (vs.any fun | .Starred .. => true | _ => false) = vs.any isStarE := by
    first
      | (congr 1; done)
      | (congr 1; funext e; cases e <;> rfl)
  rw [el]
  unfold swR at h
  have eb : (env.blockKind != .function) = false := by rw [hb]; rfl
  rw [eb, Bool.or_false]
  split at h
  · rename_i hc
    cases h
    rw [if_pos hc]
  · rename_i hc
    rw [if_neg hc]
    split at h
    · rename_i h2
      cases h
      rw [← es] at h2
      exact if_pos h2
    · rename_i h2
      rw [← es] at h2
      refine (if_neg h2).trans ?_
      split at h
      · rename_i h3; cases h; rw [if_pos h3]
      · rename_i h3
        rw [if_neg h3]
        split at h
        · rename_i h4; cases h; rw [if_pos h4]
        · rename_i h4
          rw [if_neg h4]
          split at h
          · cases h
          · rename_i h5
            cases h
            rw [if_neg h5]
theorem sw_noComp {e : Expr} (h : isCompE e = false) (t : Option Expr) (line : Nat) (env : Env) : swapsWith e t line env = pure false := by
  cases e <;> first | rfl | cases h
def isNm : Expr → Bool
  | .Name _ _ => true
  | _ => false
theorem sw_noName {tg : Expr} (h : isNm tg = false) (e : Expr) (line : Nat) (env : Env) : swapsWith e (some tg) line env = pure false := by
  cases e <;> first | rfl | (cases tg <;> first | rfl | cases h)
theorem bk_of {env : Env} (h : env.scope.kind = .function) : env.blockKind = .function := by
  unfold Env.blockKind
  rw [h]
  rfl
section
variable {X : Cx} {S : Sta} {cf : CF} {wf : Nat} {Γ : Gm}
theorem gv_nx {i : Nat} {x : V} {σ : L2.St} {H : Hp} {Q : L2.St → Hp → Prop} (h : gAv S cf (.var i) x σ H Q) : Q (σ.set i (some x)) H := by
  obtain ⟨hθ, A, G, ρ, d, ρ', G', c, l, r, b, w⟩ := h
  simp only [asgD, Option.some.injEq, Prod.mk.injEq] at b
  obtain ⟨rfl, rfl⟩ := b
  exact w A H _ Gr.refl c (l.set r i)
theorem ps_bad {a b : E} {st : Stmt} : PS X st (tSv S cf wf (.ex (.star a b))) := ⟨fun pins s σ H D I hw => by
  obtain ⟨_, _, _, _, _, _, _, _, _, ev, _⟩ := hw
  simp [evS, evE] at ev⟩
theorem pss_bad {a b : E} {st : List Stmt} : PSs X st (tSv S cf wf (.ex (.star a b))) := ⟨fun pins s σ H D I hw => by
  obtain ⟨_, _, _, _, _, _, _, _, _, ev, _⟩ := hw
  simp [evS, evE] at ev⟩
/-- name = [..], the name a local -/
theorem lc_set {i : Nat} {x : Str} {px pos spos : Pos} {e : E} {eelt : Expr} {gens : List Comprehension} {scope : Scope} (ok : XOk X S cf) (go : GOk X Γ) (hi : X.N[i]? = some x) (hl : X.env.scope.names.lookup x = some .local) (h : mE S Γ e (.ListComp eelt gens scope pos) = true)
    (hs : swapsWith (.ListComp eelt gens scope pos) (some (.Name x px)) spos.line X.env = pure true) : PS X (.Assign [.Name x px] (.ListComp eelt gens scope pos) spos) (tAsg (tEv S cf e) (gAv S cf (.var i))) := by
  cases e with
  | star a b => exact ⟨fun pins s σ H D I hw => by
      obtain ⟨_, _, _, _, _, _, _, _, ev, _⟩ := hw
      simp [evE] at ev⟩
  | comp c own k a b t tst elt =>
    simp only [mE] at h
    split at h
    · rename_i eelt' tg iter ifs scope' _ hq
      cases hq
      simp only [Bool.and_eq_true] at h
      obtain ⟨⟨⟨⟨⟨h1, h2⟩, h3⟩, h4⟩, h5⟩, h6⟩ := h
      have bk := blkB_ok h1
      rw [← go.N, ← go.sc] at bk
      obtain ⟨i1, i2⟩ := it_ok ok go (fun e h => (ep a).e ok go h) (fun e h => (ep b).e ok go h) h2
      have ht : ∀ i ∈ tgs t, i ∈ own.map (·.2) := fun i hi => by simpa using List.all_eq_true.mp h4 i hi
      have tests : ∀ {X : Cx} {Γ : Gm}, XOk X S cf → GOk X Γ → mIfs (mT S Γ tst) (isYes tst) ifs = true → PTs X ifs (tTv S cf tst) := by
        intro X Γ ok go h6
        unfold mIfs at h6
        split at h6
        · unfold isYes at h6
          split at h6
          · exact pts_yes (a := true)
          · cases h6
        · exact pts_one ((ep tst).t ok go h6)
        · cases h6
      refine PSm (ps_unl (ps_setLc ok.calm ok.nd hi hl hs i1 bk (fun s H C cl fp => (gp t).g (ok.blk s H _ _ fp) (go.blk bk.kind s H C cl fp) h3) (fun s H C cl fp => tests (ok.blk s H _ _ fp) (go.blk bk.kind s H C cl fp) h6)
        (fun s H C cl fp => (ep elt).e (ok.blk s H _ _ fp) (go.blk bk.kind s H C cl fp) h5) (fun x => folded_ok i2 _ x))) fun D σ H hw => ?_
      exact comp_rd hw ht fun v H' hq => hq.elim (fun q => .inl (gv_nx q)) fun ⟨d, od, u, e1, e2, q⟩ => .inr ⟨d, od, u, e1, e2, gv_nx q⟩
    · cases h
  | comp2 c own own1 k a b t k1 a1 b1 t1 elt =>
    simp only [mE] at h
    split at h
    · rename_i eelt' tg iter tg1 iter1 scope' _ hq
      cases hq
      simp only [Bool.and_eq_true] at h
      obtain ⟨⟨⟨⟨⟨⟨⟨⟨h1, h2⟩, h3⟩, h4⟩, h5⟩, h6⟩, h7⟩, h8⟩, h9⟩ := h
      have bk := blkB_ok h1
      rw [← go.N, ← go.sc] at bk
      obtain ⟨i1, i2⟩ := it_ok ok go (fun e h => (ep a).e ok go h) (fun e h => (ep b).e ok go h) h2
      have ht : ∀ i ∈ tgs t, i ∈ own.map (·.2) := fun i hi => by simpa using List.all_eq_true.mp h4 i hi
      have ht1 : ∀ i ∈ tgs t1, i ∈ own1 := fun i hi => by simpa using List.all_eq_true.mp h7 i hi
      have hv : ∀ i ∈ own1, i ∈ own.map (·.2) := fun i hi => by simpa using List.all_eq_true.mp h8 i hi
      have inn := fun (s : Shared) (H : Hp) (C : Addr) (cl : List (Str × Addr)) (fp : List Addr) => in_ok (X := X.blk s H scope (compEnvC scope cl C X.env) fp) (tg := tg1) (ok.blk s H scope _ fp) (go.blk bk.kind s H C cl fp) (fun e h => (ep a1).e (ok.blk s H scope _ fp) (go.blk bk.kind s H C cl fp) h) h5
      have st1 : isSetE iter1 = false := by
        unfold mIn at h5
        split at h5
        · simp only [Bool.and_eq_true, Bool.not_eq_true'] at h5; exact h5.2
        · split at h5
          · rfl
          · cases h5
        · cases h5
      refine PSm (ps_unl (ps_setLc2 ok.calm ok.nd hi hl hs i1 bk hv (fun s H C cl fp => (gp t).g (ok.blk s H scope _ fp) (go.blk bk.kind s H C cl fp) h3) (fun s H C cl fp => pts_nil) (fun s H C cl fp => (inn s H C cl fp).1)
        (fun s H C cl fp => (gp t1).g (ok.blk s H scope _ fp) (go.blk bk.kind s H C cl fp) h6) (fun s H C cl fp => pts_nil)
        (fun s H C cl fp => (ep elt).e (ok.blk s H scope _ fp) (go.blk bk.kind s H C cl fp) h9) (fun x => folded_ok i2 _ x) (fun env x => folded_ok st1 env x))) fun D σ H hw => ?_
      exact comp2_rd hw ht ht1 fun v H' hq => hq.elim (fun q => .inl (gv_nx q)) fun ⟨d, od, u, e1, e2, q⟩ => .inr ⟨d, od, u, e1, e2, gv_nx q⟩
    · cases h
  | _ => simp [mE] at h
end
/-! targets, statements -/
mutual
def mA (S : Sta) (Γ : Gm) : E → Expr → Bool
  | .var i, e => match e with
    | .Name x _ => Γ.at_ i x && Γ.loc x
    | _ => false
  | .idx o i, e => match e with
    | .Subscript eo ei _ => mE S Γ o eo && mE S Γ i ei && !isSlcE ei
    | _ => false
  | .tup ts, e => match e with
    | .Tuple es _ _ => mAs S Γ ts es && noStar es && es.length == lenE ts
    | _ => false
  | _, _ => false
def mAs (S : Sta) (Γ : Gm) : E → List Expr → Bool
  | .nil, es => es.isEmpty
  | .cons h t, es => match es with
    | e :: r => mA S Γ h e && !isStarE e && mAs S Γ t r
    | _ => false
  | _, _ => false
end
structure AP (a : E) : Prop where
  g : ∀ {X : Cx} {S : Sta} {cf : CF} {Γ : Gm} {tg : Expr}, XOk X S cf → GOk X Γ → mA S Γ a tg = true → PG X tg (gAv S cf a)
  gs : ∀ {X : Cx} {S : Sta} {cf : CF} {Γ : Gm} {tg : List Expr}, XOk X S cf → GOk X Γ → mAs S Γ a tg = true → PGs X tg (gAs S cf a)
theorem ap (a : E) : AP a := by
  induction a with
  | var i =>
    refine ⟨fun {X S cf Γ tg} ok go h => ?_, fun {X S cf Γ tg} ok go h => (by simp [mAs] at h)⟩
    simp only [mA] at h
    split at h
    · simp only [Bool.and_eq_true] at h
      obtain ⟨l1, l2⟩ := go.loc h.2
      exact a_var ok (go.at_ h.1) l1 l2
    · cases h
  | idx o i =>
    refine ⟨fun {X S cf Γ tg} ok go h => ?_, fun {X S cf Γ tg} ok go h => (by simp [mAs] at h)⟩
    simp only [mA] at h
    split at h
    · simp only [Bool.and_eq_true, Bool.not_eq_true'] at h
      exact a_idx ok ((ep o).e ok go h.1.1) ((ep i).e ok go h.1.2) h.2
    · cases h
  | tup ts ih =>
    refine ⟨fun {X S cf Γ tg} ok go h => ?_, fun {X S cf Γ tg} ok go h => (by simp [mAs] at h)⟩
    simp only [mA] at h
    split at h
    · simp only [Bool.and_eq_true, beq_iff_eq] at h
      exact a_tup ok (ih.gs ok go h.1.1) h.1.2 h.2
    · cases h
  | nil =>
    refine ⟨fun {X S cf Γ tg} ok go h => (by simp [mA] at h), fun {X S cf Γ tg} ok go h => ?_⟩
    simp only [mAs, List.isEmpty_iff] at h
    subst h
    exact a_nil
  | cons a t iha iht =>
    refine ⟨fun {X S cf Γ tg} ok go h => (by simp [mA] at h), fun {X S cf Γ tg} ok go h => ?_⟩
    simp only [mAs] at h
    split at h
    · simp only [Bool.and_eq_true, Bool.not_eq_true'] at h
      exact a_cons (iha.g ok go h.1.1) (iht.gs ok go h.2) h.1.2
    · cases h
  | _ => exact ⟨fun {X S cf Γ tg} ok go h => (by simp [mA] at h), fun {X S cf Γ tg} ok go h => (by simp [mAs] at h)⟩
def slots (Γ : Gm) : List Nat → List Expr → Bool
  | [], [] => true
  | i :: is, .Name x _ :: r => Γ.at_ i x && Γ.lk x == some .local && slots Γ is r
  | _, _ => false
def namesOf : List Expr → List Str
  | .Name x _ :: r => x :: namesOf r
  | _ => []
mutual
def mS (S : Sta) (Γ : Gm) : St → Stmt → Bool
  | .skip, st => match st with
    | .Pass _ => true
    | .Expr (.Constant (.str _) _ _) _ => true
    | _ => false
  | .asg (.var i) e, st => match st with
    | .Assign [.Name x _] ee _ => Γ.at_ i x && Γ.loc x && mE S Γ e ee && (!isCompE ee || (match ee with
      | .ListComp _ _ _ _ => true
      | _ => false))
    | _ => false
  | .asg (.attr o f) e, st => match st with
    | .Assign [.Attribute eo g _] ee _ => f == g && S.fl.contains f && mE S Γ o eo && mE S Γ e ee
    | _ => false
  | .asg t e, st => match st with
    | .Assign [tg] ee _ => mA S Γ t tg && mE S Γ e ee && !isNm tg && !isStarE tg && (match tg, ee with
      | .Tuple ts _ _, .Tuple vs _ _ => swR Γ.lk ts vs == some none
      | .List _ _, _ => false
      | _, _ => true)
    | _ => false
  | .par is es, st => match st with
    | .Assign [.Tuple ts _ _] (.Tuple vs _ _) _ => slots Γ is ts && mL S Γ es vs && swR Γ.lk ts vs == some (some (namesOf ts)) && decide (is.Nodup) && vs.length == ts.length
    | _ => false
  | .aug i o e, st => match st with
    | .AugAssign (.Name x _) op ee _ => Γ.at_ i x && Γ.loc x && decide (op = bop o) && (decide (op = .Add) || decide (op = .Sub)) && mE S Γ e ee
    | _ => false
  | .ex (.star _ _), _ => true
  | .ex e, st => match st with
    | .Expr ee _ => mE S Γ e ee && !isCompE ee
    | _ => false
  | .ret e, st => match st with
    | .Return (some ee) _ => mE S Γ e ee
    | _ => false
  | .ifs c a b, st => match st with
    | .If ec ea eb _ => mT S Γ c ec && mSs S Γ a ea && mSs S Γ b eb
    | _ => false
  | .fors k a b t s, st => match st with
    | .For tg iter eb [] _ => mIt S Γ (mE S Γ a) (mE S Γ b) (isNil b) k tg iter && mG Γ t tg && mSs S Γ s eb
    | _ => false
  | .whl c s, st => match st with
    | .While ec eb [] _ => mT S Γ c ec && mSs S Γ s eb
    | _ => false
  | .brk, st => match st with
    | .Break _ => true
    | _ => false
  | .cnt, st => match st with
    | .Continue _ => true
    | _ => false
  | _, _ => false
def mSs (S : Sta) (Γ : Gm) : St → List Stmt → Bool
  | .skip, sts => sts.isEmpty
  | .seq a b, sts => match sts with
    | st :: r => mS S Γ a st && mSs S Γ b r
    | [] => false
  | .ex (.star _ _), _ => true
  | _, _ => false
end
end Iv

set_option Elab.async false
set_option linter.all false
set_option maxRecDepth 100000
set_option maxHeartbeats 4000000
namespace Iv
open PySem PySem.Spec PyProof.Rows L2
structure SP1 (a : St) : Prop where
  s : ∀ {X : Cx} {S : Sta} {cf : CF} {wf : Nat} {Γ : Gm} {st : Stmt}, XOk X S cf → GOk X Γ → PassesOwn (model X.prog X.w) X.A X.env X.xe → mS S Γ a st = true → PS X st (tSv S cf wf a)
  ss : ∀ {X : Cx} {S : Sta} {cf : CF} {wf : Nat} {Γ : Gm} {st : List Stmt}, XOk X S cf → GOk X Γ → PassesOwn (model X.prog X.w) X.A X.env X.xe → mSs S Γ a st = true → PSs X st (tSv S cf wf a)
theorem swR_len {lk : Str → Option NameKind} {ts vs : List Expr} {r : List Str} (h : swR lk ts vs = some (some r)) : ts.length = 2 ∨ ts.length = 3 := by
  unfold swR at h
  split at h
  · cases h
  · rename_i hc
    simp at hc
    by_cases e : ts.length = 2
    · exact .inl e
    · exact .inr (hc.1 e)
theorem slot_hd {Γ : Gm} {is : List Nat} {t : Expr} {ts : List Expr} (h : slots Γ is (t :: ts) = true) : ∃ i x p r, is = i :: r ∧ t = .Name x p ∧ slots Γ r ts = true := by
  cases is with
  | nil => simp [slots] at h
  | cons i r =>
    cases t <;> simp [slots] at h
    exact ⟨i, _, _, r, rfl, rfl, h.2⟩
theorem slot_nil {Γ : Gm} {is : List Nat} (h : slots Γ is [] = true) : is = [] := by
  cases is with
  | nil => rfl
  | cons i r => simp [slots] at h
theorem slots2 {Γ : Gm} {is : List Nat} {ts : List Expr} (h : slots Γ is ts = true) (e : ts.length = 2) : ∃ i j x y px py, is = [i, j] ∧ ts = [.Name x px, .Name y py] := by
  match ts, e with
  | [a, b], _ =>
    obtain ⟨i, x, p, r, rfl, rfl, h1⟩ := slot_hd h
    obtain ⟨j, y, q, r, rfl, rfl, h2⟩ := slot_hd h1
    have := slot_nil h2
    subst this
    exact ⟨i, j, x, y, p, q, rfl, rfl⟩
theorem slots3 {Γ : Gm} {is : List Nat} {ts : List Expr} (h : slots Γ is ts = true) (e : ts.length = 3) : ∃ i j k x y z px py pz, is = [i, j, k] ∧ ts = [.Name x px, .Name y py, .Name z pz] := by
  match ts, e with
  | [a, b, c], _ =>
    obtain ⟨i, x, p, r, rfl, rfl, h1⟩ := slot_hd h
    obtain ⟨j, y, q, r, rfl, rfl, h2⟩ := slot_hd h1
    obtain ⟨k, z, w, r, rfl, rfl, h3⟩ := slot_hd h2
    have := slot_nil h3
    subst this
    exact ⟨i, j, k, x, y, z, p, q, w, rfl, rfl⟩
theorem sp (a : St) : SP1 a := by
  induction a with
  | skip =>
    refine ⟨fun {X S cf wf Γ st} ok go hp h => ?_, fun {X S cf wf Γ st} ok go hp h => ?_⟩
    · simp only [mS] at h
      split at h
      · exact q_pass
      · exact q_doc
      · cases h
    · simp only [mSs, List.isEmpty_iff] at h
      subst h
      exact q_skip
  | seq a b iha ihb =>
    refine ⟨fun {X S cf wf Γ st} ok go hp h => (by simp [mS] at h), fun {X S cf wf Γ st} ok go hp h => ?_⟩
    simp only [mSs] at h
    split at h
    · simp only [Bool.and_eq_true] at h
      exact q_seq (iha.s ok go hp h.1) (ihb.ss ok go hp h.2)
    · cases h
  | asg t e =>
    refine ⟨fun {X S cf wf Γ st} ok go hp h => ?_, fun {X S cf wf Γ st} ok go hp h => (by simp [mSs] at h)⟩
    have gen : ∀ {tg ee : Expr} {pos : Pos}, mA S Γ t tg = true → mE S Γ e ee = true → isNm tg = false → isStarE tg = false → (match tg, ee with
      | .Tuple ts _ _, .Tuple vs _ _ => swR Γ.lk ts vs == some none
      | .List _ _, _ => false
      | _, _ => true) = true → PS X (.Assign [tg] ee pos) (tSv S cf wf (.asg t e)) := by
      intro tg ee pos h1 h2 h3 h4 h5
      refine q_asg (ps_asg ((ep e).e ok go h2) ((ap t).g ok go h1) (sw_noName h3 _ _ _) ?_ (by rw [asgE _ _ _ h4]; rfl))
      split at h5
      · refine sw_ok (bk_of go.kd) ?_
        have : X.env.kindOf = Γ.lk := by
          funext x
          unfold Env.kindOf Gm.lk
          rw [go.sc]
        rw [this]
        simpa using h5
      · cases h5
      · rename_i n1 n2
        cases tg with
        | Tuple ts k p =>
          cases ee with
          | Tuple vs k2 p2 => exact (n2 _ _ _ _ _ _ rfl rfl).elim
          | _ => rfl
        | List ts p => exact (n1 _ _ rfl).elim
        | _ => rfl
    cases t with
    | var i =>
      simp only [mS] at h
      split at h
      · rename_i x px ee spos
        simp only [Bool.and_eq_true] at h
        obtain ⟨⟨⟨h1, h2⟩, h3⟩, h4⟩ := h
        obtain ⟨l1, l2⟩ := go.loc h2
        have tg : PG X (.Name x px) (gAv S cf (.var i)) := a_var ok (go.at_ h1) l1 l2
        have pl : swapsWith ee (some (.Name x px)) spos.line X.env = pure false → PS X (.Assign [.Name x px] ee spos) (tSv S cf wf (.asg (.var i) e)) := fun hs =>
          q_asg (ps_asg ((ep e).e ok go h3) tg hs (by cases ee <;> rfl) rfl)
        cases hc : isCompE ee with
        | false => exact pl (sw_noComp hc _ _ _)
        | true =>
          rw [hc] at h4
          cases ee with
          | ListComp eelt gens scope pos =>
            have hsw : swapsWith (.ListComp eelt gens scope pos) (some (.Name x px)) spos.line X.env = pure (X.env.blockKind == .function && X.env.kindOf x == some .local && px.line == (Expr.ListComp eelt gens scope pos).pos.line
              && !(scope.names.any fun (n, k) => n == x && (k == .local || k == .cell))) := rfl
            cases hb : (X.env.blockKind == .function && X.env.kindOf x == some .local && px.line == (Expr.ListComp eelt gens scope pos).pos.line
              && !(scope.names.any fun (n, k) => n == x && (k == .local || k == .cell))) with
            | false => rw [hb] at hsw; exact pl hsw
            | true =>
              rw [hb] at hsw
              have hl : X.env.scope.names.lookup x = some .local := by
                simp only [Bool.and_eq_true, beq_iff_eq] at hb
                exact hb.1.1.2
              exact q_asg (lc_set ok go (go.at_ h1) hl h3 hsw)
          | _ => simp [isCompE] at hc h4
      · cases h
    | attr o f =>
      simp only [mS] at h
      split at h
      · simp only [Bool.and_eq_true, beq_iff_eq] at h
        obtain ⟨⟨⟨rfl, h2⟩, h3⟩, h4⟩ := h
        exact q_fld ok ((ep o).e ok go h3) ((ep e).e ok go h4) (by simpa using h2) (sw_noName rfl _ _ _)
      · cases h
    | _ =>
      simp only [mS] at h
      split at h
      · simp only [Bool.and_eq_true, Bool.not_eq_true'] at h
        obtain ⟨⟨⟨⟨h1, h2⟩, h3⟩, h4⟩, h5⟩ := h
        exact gen h1 h2 h3 h4 h5
      · cases h
  | par is es =>
    refine ⟨fun {X S cf wf Γ st} ok go hp h => ?_, fun {X S cf wf Γ st} ok go hp h => (by simp [mSs] at h)⟩
    simp only [mS] at h
    split at h
    · rename_i ts k p vs k2 p2 pos
      simp only [Bool.and_eq_true, decide_eq_true_eq, beq_iff_eq] at h
      obtain ⟨⟨⟨⟨h1, h2⟩, h3⟩, h4⟩, h5⟩ := h
      have ek : X.env.kindOf = Γ.lk := by
        funext x
        unfold Env.kindOf Gm.lk
        rw [go.sc]
      have hsw := sw_ok (env := X.env) (k := k) (k2 := k2) (p := p) (p2 := p2) (bk_of go.kd) (by rw [ek]; exact h3)
      have hl := (ep es).l ok go h2
      have el : ∀ {x : Str}, (Γ.lk x == some .local) = true → X.env.scope.names.lookup x = some .local := fun {x} h => by
        rw [go.sc]; simpa [Gm.lk] using h
      rcases swR_len h3 with e2 | e2
      · obtain ⟨i, j, x, y, px, py, rfl, rfl⟩ := slots2 h1 e2
        obtain ⟨v1, v2, rfl⟩ : ∃ v1 v2, vs = [v1, v2] := by
          match vs, h5 with
          | [v1, v2], _ => exact ⟨v1, v2, rfl⟩
          | [], h => simp at h
          | [_], h => simp at h
          | _ :: _ :: _ :: _, h => simp at h
        simp only [slots, Bool.and_eq_true] at h1
        exact q_par2 (ps_par ok.calm ok.nd (go.at_ h1.1.1) (go.at_ h1.2.1.1) (by simpa using h4) (el h1.1.2) (el h1.2.1.2) hl hsw rfl)
      · obtain ⟨i, j, l, x, y, z, px, py, pz, rfl, rfl⟩ := slots3 h1 e2
        obtain ⟨v1, v2, v3, rfl⟩ : ∃ v1 v2 v3, vs = [v1, v2, v3] := by
          match vs, h5 with
          | [v1, v2, v3], _ => exact ⟨v1, v2, v3, rfl⟩
          | [], h => simp at h
          | [_], h => simp at h
          | [_, _], h => simp at h
          | _ :: _ :: _ :: _ :: _, h => simp at h
        simp only [slots, Bool.and_eq_true] at h1
        simp at h4
        exact q_par3 (ps_par3 ok.calm ok.nd (go.at_ h1.1.1) (go.at_ h1.2.1.1) (go.at_ h1.2.2.1.1) h4.1.1 h4.1.2 h4.2 (el h1.1.2) (el h1.2.1.2) (el h1.2.2.1.2) hl hsw rfl)
    · cases h
  | aug i o e =>
    refine ⟨fun {X S cf wf Γ st} ok go hp h => ?_, fun {X S cf wf Γ st} ok go hp h => (by simp [mSs] at h)⟩
    simp only [mS] at h
    split at h
    · simp only [Bool.and_eq_true, Bool.or_eq_true, decide_eq_true_eq] at h
      obtain ⟨⟨⟨⟨h1, h2⟩, rfl⟩, h4⟩, h5⟩ := h
      obtain ⟨l1, l2⟩ := go.loc h2
      exact q_aug ok (go.at_ h1) l1 l2 ((ep e).e ok go h5) (by cases o <;> simp [bop] at h4 ⊢)
    · cases h
  | ex e =>
    refine ⟨fun {X S cf wf Γ st} ok go hp h => ?_, fun {X S cf wf Γ st} ok go hp h => ?_⟩
    · cases e with
      | star a b => exact ps_bad
      | _ =>
        simp only [mS] at h
        split at h
        · simp only [Bool.and_eq_true, Bool.not_eq_true'] at h
          exact q_ex ((ep _).e ok go h.1) (sw_noComp h.2 _ _ _)
        · cases h
    · cases e with
      | star a b => exact pss_bad
      | _ => simp [mSs] at h
  | ret e =>
    refine ⟨fun {X S cf wf Γ st} ok go hp h => ?_, fun {X S cf wf Γ st} ok go hp h => (by simp [mSs] at h)⟩
    simp only [mS] at h
    split at h
    · exact q_ret ((ep e).e ok go h)
    · cases h
  | ifs c a b iha ihb =>
    refine ⟨fun {X S cf wf Γ st} ok go hp h => ?_, fun {X S cf wf Γ st} ok go hp h => (by simp [mSs] at h)⟩
    simp only [mS] at h
    split at h
    · simp only [Bool.and_eq_true] at h
      exact q_if ((ep c).t ok go h.1.1) (iha.ss ok go hp h.1.2) (ihb.ss ok go hp h.2)
    · cases h
  | fors k a b t s ih =>
    refine ⟨fun {X S cf wf Γ st} ok go hp h => ?_, fun {X S cf wf Γ st} ok go hp h => (by simp [mSs] at h)⟩
    simp only [mS] at h
    split at h
    · simp only [Bool.and_eq_true] at h
      obtain ⟨i1, i2⟩ := it_ok ok go (fun e h => (ep a).e ok go h) (fun e h => (ep b).e ok go h) h.1.1
      exact q_for ok hp i1 ((gp t).g ok go h.1.2) (ih.ss ok go hp h.2) (fun x => folded_ok i2 _ x)
    · cases h
  | whl c s ih =>
    refine ⟨fun {X S cf wf Γ st} ok go hp h => ?_, fun {X S cf wf Γ st} ok go hp h => (by simp [mSs] at h)⟩
    simp only [mS] at h
    split at h
    · simp only [Bool.and_eq_true] at h
      exact q_whl hp ((ep c).t ok go h.1) (ih.ss ok go hp h.2)
    · cases h
  | brk =>
    refine ⟨fun {X S cf wf Γ st} ok go hp h => ?_, fun {X S cf wf Γ st} ok go hp h => (by simp [mSs] at h)⟩
    simp only [mS] at h
    split at h
    · exact q_brk
    · cases h
  | cnt =>
    refine ⟨fun {X S cf wf Γ st} ok go hp h => ?_, fun {X S cf wf Γ st} ok go hp h => (by simp [mSs] at h)⟩
    simp only [mS] at h
    split at h
    · exact q_cnt
    · cases h
end Iv

set_option Elab.async false
set_option linter.all false
set_option maxRecDepth 100000
set_option maxHeartbeats 4000000
namespace Iv
open PySem PySem.Spec PyProof.Rows L2
/-! what has no cells, in another view -/
mutual
theorem Rep.enter {S : Sta} {A A' h' : List Addr} {H : Hp} (ho : ∀ a, Out S A a → Out (S.hide h') A' a) : ∀ {v : V} {d : D}, D.clean 0 d = true → Rep S A H v d → Rep (S.hide h') A' H v d
  | _, _, _, .non => .non
  | _, _, _, .bl b => .bl b
  | _, _, _, .int i => .int i
  | _, _, _, .str x => .str x
  | _, _, p, .lst n r q => .lst (ho _ n) r (RepAll.enter ho (by simpa [D.clean] using p) q)
  | _, _, p, .tup n r q => .tup (ho _ n) r (RepAll.enter ho (by simpa [D.clean] using p) q)
  | _, _, p, .tupW r l q => .tupW r l (RepAll.enter ho (by simpa [D.clean] using p) q)
  | _, _, p, .dK n r e q => .dK (ho _ n) r e (RepAll.enter ho (by simpa [D.clean] using p) q)
  | _, _, p, .dT n r e q => .dT (ho _ n) r e (RepAll.enter ho (by simpa [D.clean] using p) q)
  | _, _, p, .ins n r m e q => .ins (ho _ n) r m e (RepAll.enter ho (by simpa [D.clean] using p) q)
  | _, _, p, .cell e => by simp [D.clean] at p
  | _, _, p, .wls n r q => .wls (ho _ n) r (RepAll.enter ho (by simpa [D.clean] using p) q)
  | _, _, p, .wlsW r q => .wlsW r (RepAll.enter ho (by simpa [D.clean] using p) q)
theorem RepAll.enter {S : Sta} {A A' h' : List Addr} {H : Hp} (ho : ∀ a, Out S A a → Out (S.hide h') A' a) : ∀ {vs : List V} {ds : List D}, D.cleans 0 ds = true → RepAll S A H vs ds → RepAll (S.hide h') A' H vs ds
  | _, _, _, .nil => .nil
  | _, _, p, .cons a t => by
    simp [D.cleans] at p
    exact .cons (Rep.enter ho p.1 a) (RepAll.enter ho p.2 t)
end
/-! the freezing of cells -/
mutual
theorem frz_rep {S : Sta} {A' A2 : List Addr} {H : Hp} {g : Nat → Option D} (ho : ∀ a, Out S A' a → Out S A2 a) (hg : ∀ m d' v, g m = some d' → Rep S A' H v (.cell m) → Rep S A2 H v d') : ∀ {d d' : D} {v : V}, frzI g d = some d' → Rep S A' H v d → Rep S A2 H v d'
  | .cell m, d', v, h, r => hg m d' v (by simpa [frzI] using h) r
  | .non, d', v, h, r => by simp [frzI] at h; subst h; cases r; exact .non
  | .bl b, d', v, h, r => by simp [frzI] at h; subst h; cases r; exact .bl _
  | .int b, d', v, h, r => by simp [frzI] at h; subst h; cases r; exact .int _
  | .str b, d', v, h, r => by simp [frzI] at h; subst h; cases r; exact .str _
  | .lst xs, d', v, h, r => by
    simp only [frzI, Option.map_eq_some_iff] at h
    obtain ⟨ys, h, rfl⟩ := h
    cases r with
    | lst n rd q => exact .lst (ho _ n) rd (frzs_rep ho hg h q)
  | .tup xs, d', v, h, r => by
    simp only [frzI, Option.map_eq_some_iff] at h
    obtain ⟨ys, h, rfl⟩ := h
    cases r with
    | tup n rd q => exact .tup (ho _ n) rd (frzs_rep ho hg h q)
    | tupW w l q => exact .tupW w (by have := (frzs_rep ho hg h q).length; have := q.length; omega) (frzs_rep ho hg h q)
  | .wls xs, d', v, h, r => by
    simp only [frzI, Option.map_eq_some_iff] at h
    obtain ⟨ys, h, rfl⟩ := h
    cases r with
    | wls n rd q => exact .wls (ho _ n) rd (frzs_rep ho hg h q)
    | wlsW w q => exact .wlsW w (frzs_rep ho hg h q)
  | .dic t ks xs, d', v, h, r => by
    simp only [frzI, Option.map_eq_some_iff] at h
    obtain ⟨ys, h, rfl⟩ := h
    cases r with
    | dK n rd e q => exact .dK (ho _ n) rd e (frzs_rep ho hg h q)
    | dT n rd e q => exact .dT (ho _ n) rd e (frzs_rep ho hg h q)
  | .ins c fs xs, d', v, h, r => by
    simp only [frzI, Option.map_eq_some_iff] at h
    obtain ⟨ys, h, rfl⟩ := h
    cases r with
    | ins n rd m e q => exact .ins (ho _ n) rd m e (frzs_rep ho hg h q)
theorem frzs_rep {S : Sta} {A' A2 : List Addr} {H : Hp} {g : Nat → Option D} (ho : ∀ a, Out S A' a → Out S A2 a) (hg : ∀ m d' v, g m = some d' → Rep S A' H v (.cell m) → Rep S A2 H v d') : ∀ {ds ds' : List D} {vs : List V}, frzIs g ds = some ds' → RepAll S A' H vs ds → RepAll S A2 H vs ds'
  | [], ds', vs, h, r => by simp [frzIs] at h; subst h; cases r; exact .nil
  | d :: ds, ds', vs, h, r => by
    simp only [frzIs] at h
    split at h
    · rename_i y hy
      split at h
      · rename_i ys hys
        cases h
        cases r with
        | cons r t => exact .cons (frz_rep ho hg hy r) (frzs_rep ho hg hys t)
      · cases h
    · cases h
end
def keepC (k : Nat) : Nat → Option D := fun n => if n < k then some (D.cell n) else none
mutual
theorem clean_frz (k : Nat) : ∀ d : D, D.clean k d = true → frzI (keepC k) d = some d
  | .cell n, h => by simp [D.clean] at h; simp [frzI, keepC, h]
  | .non, _ => rfl
  | .bl _, _ => rfl
  | .int _, _ => rfl
  | .str _, _ => rfl
  | .lst xs, h => by simp only [frzI]; rw [cleans_frz k xs (by simpa [D.clean] using h)]; rfl
  | .tup xs, h => by simp only [frzI]; rw [cleans_frz k xs (by simpa [D.clean] using h)]; rfl
  | .wls xs, h => by simp only [frzI]; rw [cleans_frz k xs (by simpa [D.clean] using h)]; rfl
  | .dic t ks xs, h => by simp only [frzI]; rw [cleans_frz k xs (by simpa [D.clean] using h)]; rfl
  | .ins c fs xs, h => by simp only [frzI]; rw [cleans_frz k xs (by simpa [D.clean] using h)]; rfl
theorem cleans_frz (k : Nat) : ∀ ds : List D, D.cleans k ds = true → frzIs (keepC k) ds = some ds
  | [], _ => rfl
  | d :: ds, h => by
    simp only [D.cleans, Bool.and_eq_true] at h
    simp only [frzIs, clean_frz k d h.1, cleans_frz k ds h.2]
end
section
variable {X : Cx} {S : Sta} {cf : CF} {wf : Nat} {A A1 A' A2 : List Addr} {G G' G1 : List C} {H H1 H' : Hp} {σ : L2.St} {ρ : En} {pins : List (Addr × Obj)} {s : Shared} {h hd : List Addr} {b : Addr} {c : C}
theorem COk.mb {a : Addr} (k : COk S A H a c) : ∃ o, H a = some o ∧ Mb o := by
  cases c with
  | lst ds => obtain ⟨_, h, _⟩ := k; exact ⟨_, h, trivial⟩
  | dK ks ds => obtain ⟨_, h, _⟩ := k; exact ⟨_, h, trivial⟩
  | dT ks ds => obtain ⟨_, h, _⟩ := k; exact ⟨_, h, trivial⟩
  | ins c fs ds => obtain ⟨_, _, _, h, _⟩ := k; exact ⟨_, h, trivial⟩
theorem COk.enter {a : Addr} {h' : List Addr} (ho : ∀ a, Out S A a → Out (S.hide h') A' a) (p : C.clean 0 c = true) (k : COk S A H a c) : COk (S.hide h') A' H a c := by
  cases c with
  | lst ds => obtain ⟨xs, h, q⟩ := k; exact ⟨xs, h, q.enter ho p⟩
  | dK ks ds => obtain ⟨xs, h, e2, q⟩ := k; exact ⟨xs, h, e2, q.enter ho p⟩
  | dT ks ds => obtain ⟨xs, h, e2, q⟩ := k; exact ⟨xs, h, e2, q.enter ho p⟩
  | ins cn fs ds => obtain ⟨ca, dx, fv, h, e2, e3, q⟩ := k; exact ⟨ca, dx, fv, h, e2, e3, q.enter ho p⟩
/-- a cell's contents, frozen: in place, as a tree -/
theorem COk.frz {g : Nat → Option D} {a : Addr} {c' : C} (ho : ∀ a, Out S A' a → Out S A2 a) (hg : ∀ m d' v, g m = some d' → Rep S A' H v (.cell m) → Rep S A2 H v d') (e : frzC g c = some c') (k : COk S A' H a c) : COk S A2 H a c' := by
  cases c with
  | lst ds =>
    simp only [frzC, Option.map_eq_some_iff] at e
    obtain ⟨ys, e, rfl⟩ := e
    obtain ⟨xs, h, q⟩ := k
    exact ⟨xs, h, frzs_rep ho hg e q⟩
  | dK ks ds =>
    simp only [frzC, Option.map_eq_some_iff] at e
    obtain ⟨ys, e, rfl⟩ := e
    obtain ⟨xs, h, e2, q⟩ := k
    exact ⟨xs, h, e2, frzs_rep ho hg e q⟩
  | dT ks ds =>
    simp only [frzC, Option.map_eq_some_iff] at e
    obtain ⟨ys, e, rfl⟩ := e
    obtain ⟨xs, h, e2, q⟩ := k
    exact ⟨xs, h, e2, frzs_rep ho hg e q⟩
  | ins cn fs ds =>
    simp only [frzC, Option.map_eq_some_iff] at e
    obtain ⟨ys, e, rfl⟩ := e
    obtain ⟨ca, dx, fv, h, e2, e3, q⟩ := k
    exact ⟨ca, dx, fv, h, e2, e3, frzs_rep ho hg e q⟩
theorem COk.toD {a : Addr} (n : Out S A a) (k : COk S A H a c) : Rep S A H (.ref a) c.toD := by
  cases c with
  | lst ds => obtain ⟨xs, h, q⟩ := k; exact .lst n (.inl h) q
  | dK ks ds => obtain ⟨xs, h, e2, q⟩ := k; exact .dK n (.inl h) e2 q
  | dT ks ds => obtain ⟨xs, h, e2, q⟩ := k; exact .dT n (.inl h) e2 q
  | ins cn fs ds => obtain ⟨ca, dx, fv, h, e2, e3, q⟩ := k; exact .ins n h e2 e3 q
theorem frz_cell (c : CsOk S A' G1 H') {k : Nat} {x : Option Nat} (h1 : ∀ m b, m < k → A'[m]? = some b → A2[m]? = some b) (h2 : ∀ m b, k ≤ m → x ≠ some m → A'[m]? = some b → b ∉ A2) (h3 : ∀ b, Out S A' b → Out S A2 b) :
    ∀ t m d' v, frz G1 k x t m = some d' → Rep S A' H' v (.cell m) → Rep S A2 H' v d'
  | 0, m, d', v, e, r => by
    simp only [frz] at e
    split at e
    · rename_i hm
      cases e
      cases r with
      | cell en => exact .cell (h1 _ _ hm en)
    · cases e
  | t + 1, m, d', v, e, r => by
    simp only [frz] at e
    split at e
    · rename_i hm
      cases e
      cases r with
      | cell en => exact .cell (h1 _ _ hm en)
    · rename_i hm
      split at e
      · cases e
      · rename_i hx
        split at e
        · rename_i c0 hc
          simp only [Option.map_eq_some_iff] at e
          obtain ⟨c', e, rfl⟩ := e
          cases r with
          | @cell a _ en =>
            obtain ⟨a', e1, okc, m'⟩ := c.addr hc
            rw [en] at e1
            cases e1
            refine COk.toD ⟨h2 _ _ (by omega) hx en, fun z => (c.hid a z).1 m'⟩ (okc.frz h3 (frz_cell c h1 h2 h3 t) e)
        · cases e
theorem cleans_turn {k : Nat} (hlt : ∀ n a, n < k → A'[n]? = some a → A2[n]? = some a) (h3 : ∀ b, Out S A' b → Out S A2 b) : (∀ {v : V} {d : D}, D.clean k d = true → Rep S A' H v d → Rep S A2 H v d) ∧ (∀ {vs : List V} {ds : List D}, D.cleans k ds = true → RepAll S A' H vs ds → RepAll S A2 H vs ds) := by
  have g0 : ∀ m d' v, keepC k m = some d' → Rep S A' H v (.cell m) → Rep S A2 H v d' := by
    intro m d' v e r
    unfold keepC at e
    split at e
    · rename_i hm
      cases e
      cases r with
      | cell en => exact .cell (hlt _ _ hm en)
    · cases e
  exact ⟨fun p r => frz_rep h3 g0 (clean_frz k _ p) r, fun p r => frzs_rep h3 g0 (cleans_frz k _ p) r⟩
theorem COk.cleanT {k : Nat} {a : Addr} (hlt : ∀ n a, n < k → A'[n]? = some a → A2[n]? = some a) (h3 : ∀ b, Out S A' b → Out S A2 b) (p : C.clean k c = true) (q : COk S A' H a c) : COk S A2 H a c := by
  obtain ⟨_, t⟩ := cleans_turn (S := S) (H := H) hlt h3
  cases c with
  | lst ds => obtain ⟨xs, h, r⟩ := q; exact ⟨xs, h, t p r⟩
  | dK ks ds => obtain ⟨xs, h, e2, r⟩ := q; exact ⟨xs, h, e2, t p r⟩
  | dT ks ds => obtain ⟨xs, h, e2, r⟩ := q; exact ⟨xs, h, e2, t p r⟩
  | ins cn fs ds => obtain ⟨ca, dx, fv, h, e2, e3, r⟩ := q; exact ⟨ca, dx, fv, h, e2, e3, t p r⟩
theorem take_at {k : Nat} {c : C} {n : Nat} (e : (G.take k)[n]? = some c) : n < k ∧ G[n]? = some c := by
  rw [List.getElem?_take] at e
  split at e
  · exact ⟨by assumption, e⟩
  · cases e
/-- a def's end -/
theorem fin_ok {F : FD} {k : Nat} {d d' : D} {G2 : List C} {Q : VK} {v : V} (hk : A.length = k) (g : Gr A H A' H') (c : CsOk S A' G1 H') (r : Rep S A' H' v d) (e : finish F k d G1 = some (d', G2)) (w : Aft S A H d' G2 Q) : Q v H' := by
  obtain ⟨B, eA, fB⟩ := g.pre
  subst eA
  unfold finish at e
  split at e
  · cases e
    exact w v _ H' g c r
  · split at e
    · rename_i hcl
      have hlt : ∀ n a, n < k → (A ++ B)[n]? = some a → A[n]? = some a := fun n a hn e => by
        rw [List.getElem?_append_left (by omega)] at e; exact e
      have h3 : ∀ b, Out S (A ++ B) b → Out S A b := fun b n => ⟨fun m => n.1 (List.mem_append_left _ m), n.2⟩
      have inB : ∀ m a, k ≤ m → (A ++ B)[m]? = some a → a ∉ A := fun m a hm e hA => by
        obtain ⟨n, hn, en⟩ := List.getElem_of_mem hA
        have e1 : (A ++ B)[n]? = some a := by rw [List.getElem?_append_left hn, List.getElem?_eq_getElem hn, en]
        exact nodup_ne c.nd e1 e (by omega) rfl
      have len : k ≤ G1.length := by have := c.len; simp at this; omega
      have gA : Gr A H A H' := ⟨⟨[], by simp, by simp⟩, g.keep, g.tr⟩
      have cA : CsOk S A (G1.take k) H' := by
        refine ⟨by rw [List.length_take]; omega, (List.nodup_append.mp c.nd).1, fun n a c0 e1 e2 => ?_, fun b hb => ?_⟩
        · obtain ⟨hn, e2⟩ := take_at e2
          have e1' : (A ++ B)[n]? = some a := by rw [List.getElem?_append_left (by omega)]; exact e1
          refine COk.cleanT hlt h3 ?_ (c.at_ n a c0 e1' e2)
          refine List.all_eq_true.mp hcl c0 ?_
          exact List.mem_of_getElem? (show (G1.take k)[n]? = some c0 by rw [List.getElem?_take, if_pos hn]; exact e2)
        · obtain ⟨n, o, e, m⟩ := c.hid b hb
          exact ⟨fun z => n (List.mem_append_left _ z), o, e, m⟩
      split at e
      · split at e
        · rename_i n
          split at e
          · cases e
          · rename_i hn
            split at e
            · rename_i c0 hc0
              split at e
              · rename_i c' hc'
                cases e
                cases r with
                | @cell a _ en =>
                  obtain ⟨a', e1, okc, memA⟩ := c.addr hc0
                  rw [en] at e1
                  cases e1
                  have nA : a ∉ A := inB n a (by omega) en
                  have fz : COk S (A ++ [a]) H' a c' := by
                    refine okc.frz (fun b nb => ⟨fun m => ?_, nb.2⟩) (frz_cell c (k := k) (x := some n) (fun m b hm e => ?_) (fun m b hm hx e => ?_) (fun b nb => ⟨fun m => ?_, nb.2⟩) G1.length) hc'
                    · rcases List.mem_append.mp m with z | z
                      · exact nb.1 (List.mem_append_left _ z)
                      · simp at z; subst z; exact nb.1 (List.mem_of_getElem? en)
                    · have := hlt m b hm e
                      rw [List.getElem?_append_left (by omega)]; exact this
                    · intro z
                      rcases List.mem_append.mp z with z | z
                      · exact inB m b hm e z
                      · simp at z
                        subst z
                        have : m ≠ n := fun e => hx (by rw [e])
                        exact nodup_ne c.nd e en this rfl
                    · rcases List.mem_append.mp m with z | z
                      · exact nb.1 (List.mem_append_left _ z)
                      · simp at z; subst z; exact nb.1 (List.mem_of_getElem? en)
                  have aB : a ∈ B := by
                    rcases List.mem_append.mp (List.mem_of_getElem? en) with z | z
                    · exact absurd z nA
                    · exact z
                  have gA2 : Gr A H (A ++ [a]) H' := ⟨⟨[a], rfl, fun b hb => by simp at hb; rw [hb]; exact fB a aB⟩, g.keep, g.tr⟩
                  refine w _ (A ++ [a]) H' gA2 ?_ (.cell (by rw [← hk]; simp))
                  refine ⟨by simp [cA.len], ?_, fun n' b c1 e1 e2 => ?_, fun b hb => ?_⟩
                  · rw [List.nodup_append]
                    refine ⟨cA.nd, by simp, fun x hx y hy => ?_⟩
                    simp at hy
                    subst hy
                    intro e
                    subst e
                    exact nA hx
                  · by_cases hn' : n' < A.length
                    · rw [List.getElem?_append_left hn'] at e1
                      rw [List.getElem?_append_left (by rw [← cA.len]; exact hn')] at e2
                      obtain ⟨hn2, e2⟩ := take_at e2
                      have e1' : (A ++ B)[n']? = some b := by rw [List.getElem?_append_left hn']; exact e1
                      refine COk.cleanT (A' := A ++ B) (k := k) (fun m x hm ex => ?_) (fun x nx => ⟨fun m => ?_, nx.2⟩) ?_ (c.at_ n' b c1 e1' e2)
                      · have := hlt m x hm ex
                        rw [List.getElem?_append_left (by omega)]; exact this
                      · rcases List.mem_append.mp m with z | z
                        · exact nx.1 (List.mem_append_left _ z)
                        · simp at z; subst z; exact nx.1 (List.mem_of_getElem? en)
                      · refine List.all_eq_true.mp hcl c1 ?_
                        exact List.mem_of_getElem? (show (G1.take k)[n']? = some c1 by rw [List.getElem?_take, if_pos hn2]; exact e2)
                    · have hl : n' < (A ++ [a]).length := (List.getElem?_eq_some_iff.mp e1).1
                      have e : n' = A.length := by simp at hl; omega
                      subst e
                      rw [List.getElem?_append_right (Nat.le_refl _)] at e1
                      rw [List.getElem?_append_right (by rw [cA.len]; exact Nat.le_refl _)] at e2
                      have z0 : A.length - (G1.take k).length = 0 := by rw [cA.len]; omega
                      rw [z0] at e2
                      simp at e1 e2
                      subst e1 e2
                      exact fz
                  · obtain ⟨n1, o, e, m1⟩ := c.hid b hb
                    refine ⟨fun z => ?_, o, e, m1⟩
                    rcases List.mem_append.mp z with z | z
                    · exact n1 (List.mem_append_left _ z)
                    · simp at z; subst z; exact n1 (List.mem_of_getElem? en)
              · cases e
            · cases e
        · cases e
      · split at e
        · rename_i d1 hd1
          cases e
          exact w v A H' gA cA (frz_rep h3 (frz_cell c (k := k) (x := none) hlt (fun m b hm _ e => inB m b hm e) h3 G1.length) hd1 r)
        · cases e
    · cases e
/-! the caller's side of a call -/
theorem CsOk.none (c : CsOk (S.hide hd) A G H) : CsOk (S.hide (A ++ hd)) [] [] H :=
  ⟨rfl, List.nodup_nil, fun n a c e => by simp at e, fun b hb => by
    refine ⟨by simp, ?_⟩
    rcases List.mem_append.mp hb with hb | hb
    · obtain ⟨n, hn, e⟩ := List.getElem_of_mem hb
      have e1 : A[n]? = some b := by rw [List.getElem?_eq_getElem hn, e]
      have hg : n < G.length := by rw [← c.len]; exact hn
      exact (c.at_ n b _ e1 (List.getElem?_eq_getElem hg)).mb
    · exact (c.hid b hb).2⟩
theorem view_ok {F : FD} {run : List D → List C → Option (D × List C)} {ds : List D} {d : D} {vs : List V} {Q : VK} (e : viewC F run ds G = some (d, G')) (c : CsOk (S.hide hd) A G H) (r : RepAll (S.hide hd) A H vs ds) (w : Aft (S.hide hd) A H d G' Q) :
    ∃ hd' A' G0 ds0 d0 G0', CsOk (S.hide hd') A' G0 H ∧ RepAll (S.hide hd') A' H vs ds0 ∧ run ds0 G0 = some (d0, G0') ∧ Aft (S.hide hd') A' H d0 G0' Q := by
  unfold viewC at e
  split at e
  · exact ⟨hd, A, G, ds, d, G', c, r, e, w⟩
  · have outA : ∀ {B : List Addr} (a : Addr), Out (S.hide (A ++ hd)) B a → Out (S.hide hd) (A ++ B) a := fun {B} a n =>
      ⟨fun m => (List.mem_append.mp m).elim (fun z => n.2 (List.mem_append_left _ z)) n.1, fun m => n.2 (List.mem_append_right _ m)⟩
    have rest : ∀ {B : List Addr} {H' : Hp}, Gr [] H B H' → Gr A H (A ++ B) H' := fun {B H'} g => by
      obtain ⟨B', e, f⟩ := g.pre
      simp at e
      subst e
      exact ⟨⟨B, rfl, f⟩, fun b hb _ => g.keep b hb (by simp), g.tr⟩
    split at e
    · rename_i hc
      refine ⟨A ++ hd, [], [], ds, ?_⟩
      have r0 : RepAll (S.hide (A ++ hd)) [] H vs ds := RepAll.enter (S := S.hide hd) (h' := A ++ hd) (fun a n => ⟨by simp, fun m => (List.mem_append.mp m).elim n.1 n.2⟩) hc r
      split at e
      · rename_i d1 hr
        split at e
        · rename_i hcl
          cases e
          refine ⟨_, _, c.none, r0, hr, fun v B H' g c' rv => ?_⟩
          have hB : B = [] := by have := c'.len; simpa using this
          subst hB
          have gA : Gr A H A H' := by have := rest g; simpa using this
          refine w v A H' gA ⟨c.len, c.nd, fun n a c0 e1 e2 => (c.at_ n a c0 e1 e2).mono gA (g.keep a (c.at_ n a c0 e1 e2).ne (by simp)), fun b hb => ?_⟩ (Rep.enter (S := S.hide (A ++ hd)) (h' := hd) (fun a n => (by have := outA a n; rw [List.append_nil] at this; exact this)) hcl rv)
          obtain ⟨n, o, e, m⟩ := c.hid b hb
          exact ⟨n, o, by rw [g.keep b (by rw [e]; simp) (by simp)]; exact e, m⟩
        · cases e
      · rename_i c1 hr
        split at e
        · rename_i hcl
          cases e
          refine ⟨_, _, c.none, r0, hr, fun v B H' g c' rv => ?_⟩
          cases rv with
          | @cell p _ ep =>
            have hB : B = [p] := by
              have := c'.len
              match B, this, ep with
              | [q], _, ep => simp at ep; rw [ep]
            subst hB
            have gA := rest g
            refine w _ (A ++ [p]) H' gA ?_ (.cell (by rw [← c.len]; simp))
            have hp : H p = none := by
              obtain ⟨B', e, f⟩ := g.pre
              simp at e
              exact f p (by rw [← e]; simp)
            refine ⟨by simp [c.len], ?_, fun n a c0 e1 e2 => ?_, fun b hb => ?_⟩
            · rw [List.nodup_append]
              refine ⟨c.nd, by simp, fun x hx y hy => ?_⟩
              simp at hy
              subst hy
              intro e
              subst e
              exact c.ne hx hp
            · by_cases hn : n < A.length
              · rw [List.getElem?_append_left hn] at e1
                rw [List.getElem?_append_left (by rw [← c.len]; exact hn)] at e2
                exact (c.at_ n a c0 e1 e2).mono gA (g.keep a (c.at_ n a c0 e1 e2).ne (by simp))
              · have hl : n < (A ++ [p]).length := (List.getElem?_eq_some_iff.mp e1).1
                have e : n = A.length := by simp at hl; omega
                subst e
                rw [List.getElem?_append_right (Nat.le_refl _)] at e1
                rw [List.getElem?_append_right (by rw [c.len]; exact Nat.le_refl _)] at e2
                simp [c.len] at e1 e2
                subst e1 e2
                exact COk.enter (S := S.hide (A ++ hd)) (h' := hd) outA hcl (c'.at_ 0 p _ rfl rfl)
            · obtain ⟨n, o, e, m⟩ := c.hid b hb
              refine ⟨fun z => ?_, o, by rw [g.keep b (by rw [e]; simp) (by simp)]; exact e, m⟩
              rcases List.mem_append.mp z with z | z
              · exact n z
              · simp at z; subst z; rw [hp] at e; cases e
        · cases e
      · cases e
    · split at e
      · rename_i n rs _
        split at e
        · rename_i hcr
          split at e
          · rename_i c0 hc0
            split at e
            · rename_i hcc
              split at e
              · rename_i d1 c1 hr
                split at e
                · rename_i hcl
                  cases e
                  simp only [Bool.and_eq_true] at hcl
                  cases r with
                  | cons r1 rr =>
                    cases r1 with
                    | @cell a _ en =>
                      obtain ⟨a', e1, okc, ma⟩ := c.addr hc0
                      rw [en] at e1
                      cases e1
                      have hin : ∀ x, Out (S.hide hd) A x → Out (S.hide (A.filter (fun y => decide (y ≠ a)) ++ hd)) [a] x := fun x n => ⟨fun m => by
                        simp at m; subst m; exact n.1 ma, fun m => (List.mem_append.mp m).elim (fun z => n.1 (List.mem_filter.mp z).1) n.2⟩
                      have hout : ∀ x, Out (S.hide (A.filter (fun y => decide (y ≠ a)) ++ hd)) [a] x → Out (S.hide hd) A x := fun x n => ⟨fun m => by
                        by_cases z : x = a
                        · exact n.1 (by simp [z])
                        · exact n.2 (List.mem_append_left _ (List.mem_filter.mpr ⟨m, by simpa using z⟩)), fun m => n.2 (List.mem_append_right _ m)⟩
                      refine ⟨A.filter (fun y => decide (y ≠ a)) ++ hd, [a], [c0], .cell 0 :: rs, _, [c1], ⟨rfl, by simp, fun m b cb e1 e2 => ?_, fun b hb => ?_⟩, .cons (.cell rfl) (RepAll.enter (S := S.hide hd) hin hcr rr), hr, fun v B H' g c' rv => ?_⟩
                      · cases m with
                        | zero =>
                          simp at e1 e2
                          subst e1 e2
                          exact COk.enter (S := S.hide hd) hin hcc okc
                        | succ m => simp at e1
                      · rcases List.mem_append.mp hb with hb | hb
                        · obtain ⟨h1, h2⟩ := List.mem_filter.mp hb
                          refine ⟨by simpa using h2, ?_⟩
                          obtain ⟨m, hm, e⟩ := List.getElem_of_mem h1
                          have e1 : A[m]? = some b := by rw [List.getElem?_eq_getElem hm, e]
                          have hg : m < G.length := by rw [← c.len]; exact hm
                          exact (c.at_ m b _ e1 (List.getElem?_eq_getElem hg)).mb
                        · obtain ⟨n1, o, e, m⟩ := c.hid b hb
                          exact ⟨fun z => by simp at z; subst z; exact n1 ma, o, e, m⟩
                      · have hB : B = [a] := by
                          obtain ⟨B', e, f⟩ := g.pre
                          have := c'.len
                          subst e
                          simp at this
                          rw [this]; rfl
                        subst hB
                        have gA : Gr A H A H' := ⟨⟨[], by simp, by simp⟩, fun b hb nb => g.keep b hb (by simp; intro e; subst e; exact nb ma), g.tr⟩
                        refine w v A H' gA ⟨by simp [c.len], c.nd, fun m b cb e1 e2 => ?_, fun b hb => ?_⟩ (Rep.enter (S := S.hide (A.filter (fun y => decide (y ≠ a)) ++ hd)) (h' := hd) hout hcl.1 rv)
                        · by_cases hm : m = n
                          · subst hm
                            rw [en] at e1
                            cases e1
                            have hl : m < G.length := (List.getElem?_eq_some_iff.mp hc0).1
                            rw [List.getElem?_set_self hl] at e2
                            cases e2
                            exact COk.enter (S := S.hide (A.filter (fun y => decide (y ≠ a)) ++ hd)) (h' := hd) hout hcl.2 (c'.at_ 0 a _ rfl rfl)
                          · rw [List.getElem?_set_ne (Ne.symm hm)] at e2
                            have ne := nodup_ne c.nd e1 en hm
                            exact (c.at_ m b cb e1 e2).mono gA (g.keep b (c.at_ m b cb e1 e2).ne (by simpa using ne))
                        · obtain ⟨n1, o, e, m⟩ := c.hid b hb
                          exact ⟨n1, o, by rw [g.keep b (by rw [e]; simp) (by simp; intro z; subst z; exact n1 ma)]; exact e, m⟩
                · cases e
              · cases e
            · cases e
          · cases e
        · cases e
      · cases e
end
end Iv

set_option Elab.async false
set_option linter.all false
set_option maxRecDepth 100000
set_option maxHeartbeats 4000000
namespace Iv
open PySem PySem.Spec PyProof.Rows L2
/-! texts that want tokens: e.replace(..) of written texts, at the top of a body -/
mutual
def mET (S : Sta) (Γ : Gm) : E → Expr → Bool
  | .replC y z o, e => match e with
    | .Call (.Attribute eo nm apos) [.Constant (.str y') _ _, .Constant (.str z') _ _] [] pos => nm == ("replace" : Str) && y == y' && z == z' && !(y == z) && (mET S Γ o eo || mE S Γ o eo) && !isCall0 eo && apos.endLine == pos.line
    | _ => false
  | .meth .words _ o .nil, e => match e with
    | .Call (.Attribute eo nm apos) [] [] pos => nm == ("split" : Str) && mET S Γ o eo && !isCall0 eo && apos.endLine == pos.line
    | _ => false
  | .call f es, e => match e with
    | .Call (.Name g _) (e1 :: ees) [] _ => f == g && Γ.gl f && !(f == ("__debug__" : Str)) && noStar (e1 :: ees) && mLT S Γ es (e1 :: ees)
    | _ => false
  | .lst _ es, e => match e with
    | .List ees _ => noStar ees && mLT S Γ es ees
    | _ => false
  | _, _ => false
def mLT (S : Sta) (Γ : Gm) : E → List Expr → Bool
  | .cons h t, es => match es with
    | e :: r => (mET S Γ h e || mE S Γ h e) && mLT S Γ t r
    | [] => false
  | .nil, es => es.isEmpty
  | _, _ => false
end
def mST (S : Sta) (Γ : Gm) : St → Stmt → Bool
  | .asg (.var i) e, st => match st with
    | .Assign [.Name x _] ee _ => Γ.at_ i x && Γ.loc x && mET S Γ e ee && !isCompE ee
    | _ => false
  | _, _ => false
def mSsT (S : Sta) (Γ : Gm) : St → List Stmt → Bool
  | .skip, sts => sts.isEmpty
  | .seq a b, sts => match sts with
    | st :: r => (mST S Γ a st || mS S Γ a st) && mSsT S Γ b r
    | [] => false
  | _, _ => false
/-- a def's text against its form -/
def dfM (S : Sta) (F : FD) (scope : Scope) (body : List Stmt) : Bool :=
  if F.tok = true then mSsT S ⟨F.N, scope, fun _ => true⟩ F.body body && scope.names.all (fun y => !decide (y.2 = .cell)) && decide (1 ≤ F.ps.length) else mSs S ⟨F.N, scope, fun _ => true⟩ F.body body
section
variable {X : Cx}
theorem PETm {e : Expr} {t t' : TE} (h : PET X e t) (m : ∀ σ H Q, t' σ H Q → t σ H Q) : PET X e t' := fun pins s σ H Q h0 I hw => h pins s σ H Q h0 I (m σ H Q hw)
theorem PATm {e : List Expr} {t t' : TA} (h : PAT X e t) (m : ∀ σ H Q, t' σ H Q → t σ H Q) : PAT X e t' := fun pos pins s σ H Q h0 I hw => h pos pins s σ H Q h0 I (m σ H Q hw)
theorem PSTm {e : Stmt} {t t' : TS} (h : PST X e t) (m : ∀ D σ H, t' D σ H → t D σ H) : PST X e t' := fun pins s σ H D h0 I hw => h pins s σ H D h0 I (m D σ H hw)
theorem PSsTm {e : List Stmt} {t t' : TS} (h : PSsT X e t) (m : ∀ D σ H, t' D σ H → t D σ H) : PSsT X e t' := fun pins s σ H D h0 I hw => h pins s σ H D h0 I (m D σ H hw)
theorem pat_one {e : Expr} {es : List Expr} {te : TE} {ta : TA} (h1 : PET X e te) (h2 : PAT X es ta) (hs : isStarE e = false) : PAT X (e :: es) (tCons te ta) := pat_cons h1 h2 (starE _ _ _ hs)
theorem words_T {o : Expr} {to : TE} {apos pos : Pos} (ho : PET X o to) (hb : isCall0 o = false) (hl : (apos.endLine == pos.line) = true) :
    PET X (.Call (.Attribute o "split" apos) [] [] pos) (tM0 (fun x xs H Q => ∃ a, x = .str a ∧ xs = [] ∧ a.length + 2 ≤ sizeLine ∧ rNewStrs (Txt.words a) H Q) to) := by
  intro pn st σ0 H0 Q0 hk I0 hw
  refine PySem.Call_method0 (baseOk hb _ _ _) hl (thn (ho pn st σ0 H0 _ hk I0 hw) fun v1 st1 z => ?_)
  obtain ⟨x1, J, IJ, rx, ⟨a1, ea⟩, hx⟩ := z
  subst ea
  obtain ⟨tk, et⟩ := _root_.id rx
  subst et
  refine ⟨"str", _, F.plainAttrs_str, F.slot_str_split, F.type_str_split, typeIs_str _ _ _, (fun _ e => nomatch e), Calls.callWith_builtin rfl (PySem.evalArgs_none ?_)⟩
  exact mt_words pn st1 σ0 J _ [] _ [] Q0 IJ rx .nil hx
theorem call_T {CX : CXT} {k : Nat} {f : Addr} {fd : FuncData} {ps : List Str} {sp : Sp} {ds : List Value} {dvs : List V} {E : XK} {x : Str} {e : Expr} {es : List Expr} {t : TA} {p pos : Pos} (F : FnOk X.prog X.w X.K X.mg X.base CX k f fd ps sp) (hr : Room k X.A) (hg : Gl X x) (hm : X.mg x = some (.ref f)) (hk : PySem.W.keepIn X.K (.ref f) = true)
    (hb : Binds X.K fd ps ds) (hd : Vals dvs ds) (hx : Passes CX X E) (ha : PAT X (e :: es) t) (hdb : (x == ("__debug__" : Str)) = false) (hn : noStar (e :: es) = true) : PET X (.Call (.Name x p) (e :: es) [] pos) (tCall sp dvs E t) := by
  intro pn st σ0 H0 Q0 hk0 I0 hw
  refine wpAny_Call_Name_kw (ld_glob I0 hg hm ?_ hdb)
  refine PySem.W.callWith_K (h₀ := X.base) I0.ok.mod.kin hk (thn (ha pos pn st σ0 H0 _ hk0 I0 hw) fun us st1 z => ?_) (starHead hn) (backNo _ _ _ (noStar_tail hn))
  obtain ⟨vs, J, IJ, rs, hq⟩ := z
  exact ⟨IJ.kIn, run_fn F hr hb hd hx IJ rs hq⟩
theorem asg_T {tg e : Expr} {te : TE} {g : TG} {pos : Pos} (he : PET X e te) (hg : PG X tg g) (hs : swapsWithSole [tg] e pos.line X.env = pure false) (hw : swappedStores [tg] e X.env = pure none)
    (h1 : (assignEach [tg] X.env).map (·.2) = [assign tg X.env]) : PST X (.Assign [tg] e pos) (tAsg te g) := by
  intro pn st σ0 H0 D0 hk I0 hq
  refine wpAny_Assign_stores (thn (he pn st σ0 H0 _ hk I0 hq) fun v1 st1 z => ?_) hs hw
  obtain ⟨x1, J, IJ, rx, hx⟩ := z
  rw [h1]
  exact thn (hg.run pn st1 σ0 J x1 v1 _ IJ rx hx) fun _ st2 q => q
theorem PSsT.nox {st : List Stmt} {t : TS} (h : PSsT X.nox st t) : PSsT X st t := fun pn s0 σ0 H0 D0 hk I0 hw =>
  wpAny_mono (h pn s0 σ0 H0 D0 hk (I0.wish _) hw) (fun _ _ z => z.unwish) fun _ _ z => z.elim
end
section
variable {X : Cx} {S : Sta} {cf : CF} {wf : Nat} {Γ : Gm}
structure EPT (a : E) : Prop where
  e : ∀ {X : Cx} {S : Sta} {cf : CF} {Γ : Gm} {ee : Expr}, XOk X S cf → GOk X Γ → mET S Γ a ee = true → PET X ee (tEv S cf a)
  l : ∀ {X : Cx} {S : Sta} {cf : CF} {Γ : Gm} {es : List Expr}, XOk X S cf → GOk X Γ → mLT S Γ a es = true → noStar es = true → PAT X es (tLv S cf a)
theorem both_T {a : E} (h : EPT a) {ee : Expr} (ok : XOk X S cf) (go : GOk X Γ) (m : (mET S Γ a ee || mE S Γ a ee) = true) : PET X ee (tEv S cf a) := by
  rw [Bool.or_eq_true] at m
  rcases m with m | m
  · exact h.e ok go m
  · exact CwR.PET.of ((ep a).e ok go m)
theorem ept (a : E) : EPT a := by
  induction a with
  | replC y z o ih =>
    refine ⟨fun {X S cf Γ ee} ok go h => ?_, fun {X S cf Γ es} ok go h _ => (by simp [mLT] at h)⟩
    simp only [mET] at h
    split at h
    · rename_i eo nm apos y' _ _ z' _ _ pos
      simp only [Bool.and_eq_true, Bool.not_eq_true', beq_iff_eq] at h
      obtain ⟨⟨⟨⟨⟨⟨rfl, rfl⟩, rfl⟩, h4⟩, h5⟩, h6⟩, h7⟩ := h
      refine PETm (CwR.pet_replT (both_T ih ok go h5) h4 rfl (baseOk h6 _ _ _) (by rw [beq_iff_eq]; exact h7)) fun σ H Q hh => ?_
      obtain ⟨hθ, A, G, ρ, d, G', cs, l, ev, w⟩ := hh
      simp only [evE] at ev
      split at ev
      · rename_i a G1 ha
        split at ev
        · rename_i hz
          cases ev
          exact ⟨hθ, A, G, ρ, _, _, cs, l, ha, fun v A1 H1 g1 c1 r1 => ⟨_, rep_str r1, hz.2, w _ A1 H1 g1 c1 (.str _)⟩⟩
        · cases ev
      · cases ev
    · cases h
  | meth m c o es iho ihe =>
    refine ⟨fun {X S cf Γ ee} ok go h => ?_, fun {X S cf Γ es} ok go h _ => (by simp [mLT] at h)⟩
    cases m <;> try (simp [mET] at h; done)
    cases es <;> try (simp [mET] at h; done)
    simp only [mET] at h
    split at h
    · rename_i eo nm apos pos
      simp only [Bool.and_eq_true, Bool.not_eq_true', beq_iff_eq] at h
      obtain ⟨⟨⟨rfl, h2⟩, h3⟩, h4⟩ := h
      refine PETm (words_T (iho.e ok go h2) h3 (by rw [beq_iff_eq]; exact h4)) fun σ H Q hh => ?_
      obtain ⟨hθ, A, G, ρ, d, G', cs, l, ev, w⟩ := hh
      simp only [evE, evL, methD, methOk] at ev
      split at ev
      · rename_i x G1 ha
        split at ev
        · rename_i a _
          split at ev
          · rename_i hz
            exact ⟨hθ, A, G, ρ, _, G1, cs, l, ha, fun v A1 H1 g1 c1 r1 => ⟨⟨a, rep_str r1⟩, a, rep_str r1, rfl, hz, fun p hp => (mkL_ok (xs := (Txt.words a).map V.str) ev c1 (RepAll.of_map _ fun x _ => .str x) (w.mono g1)).2 p hp⟩⟩
          · cases ev
        · cases ev
      · cases ev
    · cases h
  | call f es ih =>
    refine ⟨fun {X S cf Γ ee} ok go h => ?_, fun {X S cf Γ es} ok go h _ => (by simp [mLT] at h)⟩
    simp only [mET] at h
    split at h
    · rename_i g p e1 ees pos
      simp only [Bool.and_eq_true, Bool.not_eq_true', beq_iff_eq] at h
      obtain ⟨⟨⟨⟨rfl, h2⟩, h3⟩, h4⟩, h5⟩ := h
      intro pn s0 σ0 H0 Q0 hk I0 hh
      obtain ⟨hθ, A, G, ρ, d, G', cs, l, e, w⟩ := hh
      have ok' := ok.hide hθ
      simp only [evE] at e
      split at e
      · rename_i xs G1 ha
        obtain ⟨k, a, fd, ps, sp, F, hr, hm, hk2, hb, hs⟩ := ok'.fns _ _ _ _ _ e
        refine call_T F hr (go.gl h2) hm hk2 hb .nil pass0 (ih.l ok go h5 h4) h3 h4 pn s0 σ0 H0 Q0 hk I0 ⟨hθ, A, G, ρ, xs, G1, cs, l, ha, fun vs A1 H1 g1 c1 r1 => ?_⟩
        show sp (vs ++ []) H1 Q0 E0
        rw [List.append_nil]
        exact hs hθ A1 H1 vs Q0 c1 r1 (w.mono g1)
      · cases e
    · cases h
  | lst c es ih =>
    refine ⟨fun {X S cf Γ ee} ok go h => ?_, fun {X S cf Γ es} ok go h _ => (by simp [mLT] at h)⟩
    simp only [mET] at h
    split at h
    · rename_i ees pos
      rw [Bool.and_eq_true] at h
      refine PETm (pet_lst (ih.l ok go h.2 h.1)) fun σ H Q hh => ?_
      obtain ⟨hθ, A, G, ρ, d, G', cs, l, e, w⟩ := hh
      simp only [evE] at e
      split at e
      · rename_i xs G1 ha
        exact ⟨hθ, A, G, ρ, xs, G1, cs, l, ha, fun vs A1 H1 g1 c1 r1 => mkL_ok e c1 r1 (w.mono g1)⟩
      · cases e
    · cases h
  | cons h0 t ih0 iht =>
    refine ⟨fun {X S cf Γ ee} ok go h => (by simp [mET] at h), fun {X S cf Γ es} ok go h hn => ?_⟩
    simp only [mLT] at h
    split at h
    · rename_i e r
      rw [Bool.and_eq_true] at h
      have hn1 : isStarE e = false := by
        unfold noStar at hn
        simp only [Bool.and_eq_true, Bool.not_eq_true'] at hn
        exact hn.1
      refine PATm (pat_one (both_T ih0 ok go h.1) (iht.l ok go h.2 (noStar_tail hn)) hn1) fun σ H Q hh => ?_
      obtain ⟨hθ, A, G, ρ, ds, G', cs, l, ev, w⟩ := hh
      simp only [evL] at ev
      split at ev
      · rename_i x G1 hx
        split at ev
        · rename_i xs G2 hxs
          cases ev
          refine ⟨hθ, A, G, ρ, x, G1, cs, l, hx, fun v A1 H1 g1 c1 r1 => ⟨hθ, A1, G1, ρ, xs, G', c1, l.mono g1, hxs, fun vs A2 H2 g2 c2 r2 => w (v :: vs) A2 H2 (g1.trans g2) c2 (.cons (r1.mono g2) r2)⟩⟩
        · cases ev
      · cases ev
    · cases h
  | nil =>
    refine ⟨fun {X S cf Γ ee} ok go h => (by simp [mET] at h), fun {X S cf Γ es} ok go h hn => ?_⟩
    simp only [mLT] at h
    cases es with
    | nil =>
      refine PATm pat_nil fun σ H Q hh => ?_
      obtain ⟨hθ, A, G, ρ, ds, G', cs, l, ev, w⟩ := hh
      simp only [evL, Option.some.injEq, Prod.mk.injEq] at ev
      obtain ⟨rfl, rfl⟩ := ev
      exact w [] A H Gr.refl cs .nil
    | cons _ _ => cases h
  | _ => exact ⟨fun {X S cf Γ ee} ok go h => (by simp [mET] at h), fun {X S cf Γ es} ok go h _ => (by simp [mLT] at h)⟩
theorem seq_T {a b : St} {st : Stmt} {rest : List Stmt} (h1 : PST X st (tSv S cf wf a)) (h2 : PSsT X rest (tSv S cf wf b)) : PSsT X (st :: rest) (tSv S cf wf (.seq a b)) := by
  refine PSsTm (psst_cons h1 h2) fun D σ H hw => ?_
  obtain ⟨hθ, A, G, ρ, o, ρ', G', c, l, ev, w⟩ := hw
  simp only [evS] at ev
  split at ev
  · rename_i ρ1 G1 ha
    exact ⟨hθ, A, G, ρ, .nx, ρ1, G1, c, l, ha, fun A1 H1 σ1 g1 c1 l1 => ⟨hθ, A1, G1, ρ1, o, ρ', G', c1, l1, ev, w.mono g1⟩⟩
  · rename_i r hne
    refine ⟨hθ, A, G, ρ, o, ρ', G', c, l, ev, ?_⟩
    cases o with
    | nx => exact (hne _ _ ev).elim
    | bk => exact w
    | ct => exact w
    | ret d => exact w
theorem st_T {a : St} {st : Stmt} (ok : XOk X S cf) (go : GOk X Γ) (h : mST S Γ a st = true) : PST X st (tSv S cf wf a) := by
  cases a with
  | asg t e =>
    cases t with
    | var i =>
      simp only [mST] at h
      split at h
      · rename_i x px ee spos
        simp only [Bool.and_eq_true, Bool.not_eq_true'] at h
        obtain ⟨⟨⟨h1, h2⟩, h3⟩, h4⟩ := h
        obtain ⟨l1, l2⟩ := go.loc h2
        have tg : PG X (.Name x px) (gAv S cf (.var i)) := a_var ok (go.at_ h1) l1 l2
        refine PSTm (asg_T ((ept e).e ok go h3) tg (show swapsWithSole [Expr.Name x px] ee spos.line X.env = pure false from sw_noComp h4 (some (.Name x px)) spos.line X.env) (by cases ee <;> rfl) rfl) fun D σ H hw => ?_
        obtain ⟨hθ, A, G, ρ, o, ρ', G', c, l, ev, w⟩ := hw
        simp only [evS] at ev
        split at ev
        · rename_i d G1 ha
          split at ev
          · rename_i ρ2 G2 hb
            cases ev
            exact ⟨hθ, A, G, ρ, d, G1, c, l, ha, fun v A1 H1 g1 c1 r1 => ⟨hθ, A1, G1, ρ, d, ρ', G', c1, l.mono g1, r1, hb, fun A2 H2 σ2 g2 c2 l2 => w A2 H2 σ2 (g1.trans g2) c2 l2⟩⟩
          · cases ev
        · cases ev
      · cases h
    | _ => simp [mST] at h
  | _ => simp [mST] at h
theorem ss_T (hp : PassesOwn (model X.prog X.w) X.A X.env X.xe) : ∀ (a : St) {sts : List Stmt}, XOk X S cf → GOk X Γ → mSsT S Γ a sts = true → PSsT X sts (tSv S cf wf a) := by
  intro a
  induction a with
  | skip =>
    intro sts ok go h
    simp only [mSsT] at h
    cases sts with
    | nil => exact PSsT.of q_skip
    | cons _ _ => cases h
  | seq a b _ ihb =>
    intro sts ok go h
    simp only [mSsT] at h
    split at h
    · rename_i st r
      rw [Bool.and_eq_true, Bool.or_eq_true] at h
      refine seq_T ?_ (ihb ok go h.2)
      rcases h.1 with h1 | h1
      · exact st_T ok go h1
      · exact PST.of ((sp a).s ok go hp h1)
    · cases h
  | _ => intro sts ok go h; simp [mSsT] at h
end
theorem funD_T {P : Program} {w : World} {K : PySem.W.Frag} {mg : Str → Option Value} {base : Heap} {x qual : Str} {params : Arguments} {body : List Stmt} {scope : Scope} {dvs : List V} {kws : List (Str × V)} {f : Addr} {fd : FuncData} {CX : CXT} {N ps : List Str} {k : Nat} {sp : Sp}
    (F : FunD K x qual params body scope dvs kws f fd) (S : FnScope N ps scope) (hnc : ∀ y ∈ scope.names, y.2 ≠ .cell) (hps : 1 ≤ ps.length) (len : ∀ vs H Q E, sp vs H Q E → vs.length = ps.length)
    (hbody : ∀ (cdv : Value) (A : Around) (outer : List Env) (s : Shared) (H : Hp) (vs : List V) (Q : VK) (E : XK), Room k (A.deeper (envOfC qual scope s.heap.objs.size f cdv)) → sp vs H Q E →
      ∃ t, PSsT (cxOf CX P w K mg base N qual scope f cdv A outer s H E) body t ∧ t { nx := fun _ H' => Q .non H', rt := Q } (start N vs) H) : FnOk P w K mg base CX (k + 1) f fd ps sp := by
  obtain ⟨c1, c2, c3, c4, c5, c6, c7, cdv, c8, c9, efd, lkp, hcd, _⟩ := F.ex
  subst efd
  exact fn_ofT lkp hcd S hnc hps len fun A outer s H vs Q E hr hq => hbody cdv A outer s H vs Q E hr hq
end Iv

set_option Elab.async false
set_option linter.all false
set_option maxRecDepth 100000
set_option maxHeartbeats 4000000
namespace Iv
open PySem PySem.Spec PyProof.Rows L2
def spD (S : Sta) (PT : List FD) (wf n : Nat) (f : Str) : Sp := fun vs H Q _ => ∃ hd A G ds d G', CsOk (S.hide hd) A G H ∧ RepAll (S.hide hd) A H vs ds ∧ call PT wf n f ds G = some (d, G') ∧ Aft (S.hide hd) A H d G' Q
/-- a def's text, matched -/
structure DfOk (S : Sta) (F : FD) (f : Addr) (fd : FuncData) : Prop where
  ex : ∃ (x qual : Str) (params : Arguments) (body : List Stmt) (scope : Scope) (kws : List (Str × V)), FunD S.K x qual params body scope [] kws f fd ∧ FnScope F.N F.ps scope ∧ dfM S F scope body = true
  binds : Binds S.K fd F.ps []
  kp : PySem.W.keepIn S.K (.ref f) = true
  glo : F.ini = false → S.mg F.name = some (.ref f)
  mkr : F.ini = true → ∃ C, S.mg F.name = some (.ref C) ∧ Mk S.K C f ∧ F.name ∈ S.cl
/-- the module -/
structure MdOk (S : Sta) : Prop where
  fld : ∀ c ca f, c ∈ S.cl → S.mg c = some (.ref ca) → f ∈ S.fl → Cls S.K ca ∧ NoAttr S.K ca f
  blt : ∀ x ∈ S.blt, S.mg x = none
  gls : ∀ x d, (x, d) ∈ S.gt → ∃ v u, S.mg x = some u ∧ RelV v u ∧ ∀ hd A H, Rep (S.hide hd) A H v d
theorem findF_name {PT : List FD} {f : Str} {F : FD} (h : findF PT f = some F) : F.name = f := by
  have := List.find?_some h
  simpa using this
section
variable {P : Program} {w : World} {base : Heap} {S : Sta} {PT : List FD} {wf : Nat}
def Good (P : Program) (w : World) (base : Heap) (S : Sta) (PT : List FD) (wf n : Nat) : Prop := ∀ f F, findF PT f = some F → ∃ fA fd, DfOk S F fA fd ∧ FnOk P w S.K S.mg base CX0 n fA fd F.ps (spD S PT wf n f)
theorem start_sl {hd : List Addr} {A : List Addr} {H : Hp} {vs : List V} {ds : List D} (N : List Str) (r : RepAll (S.hide hd) A H vs ds) : SlOk (S.hide hd) A H (ds.map some ++ List.replicate (N.length - ds.length) none) (start N vs) := by
  unfold L2.start
  refine ⟨by simp [r.length], fun i d e => ?_⟩
  by_cases hi : i < ds.length
  · rw [List.getElem?_append_left (by simpa using hi), List.getElem?_map] at e
    cases hc : ds[i]? with
    | none => rw [hc] at e; cases e
    | some d' =>
      rw [hc] at e
      cases e
      obtain ⟨v, e1, rv⟩ := r.get hc
      refine ⟨v, ?_, rv⟩
      rw [List.getElem?_append_left (by simp [r.length]; exact hi), List.getElem?_map, e1]
      rfl
  · rw [List.getElem?_append_right (by simpa using hi)] at e
    rw [List.getElem?_replicate] at e
    split at e <;> cases e
theorem good (M : MdOk S) (hS : S.hid = []) (hPT : ∀ f F, findF PT f = some F → ∃ fA fd, DfOk S F fA fd) : ∀ n, Good P w base S PT wf n ∧ ∀ m, m < n → Good P w base S PT wf m
  | 0 => ⟨fun f F h => by
      obtain ⟨fA, fd, D0⟩ := hPT f F h
      refine ⟨fA, fd, D0, ⟨fun vs H Q E hs => ?_, fun A outer s H args us vs Q E _ _ _ _ hs => ?_⟩⟩
      · obtain ⟨_, _, _, _, _, _, _, _, e, _⟩ := hs
        simp [call] at e
      · obtain ⟨_, _, _, _, _, _, _, _, e, _⟩ := hs
        simp [call] at e, fun m h => absurd h (Nat.not_lt_zero m)⟩
  | n + 1 => by
    obtain ⟨g, gs⟩ := good M hS hPT n
    refine ⟨fun f F h => ?_, fun m hm => ?_⟩
    · obtain ⟨fA, fd, D0⟩ := hPT f F h
      refine ⟨fA, fd, D0, ?_⟩
      obtain ⟨x, qual, params, body, scope, kws, FD0, sc, hm⟩ := D0.ex
      have len : ∀ vs H Q E, spD S PT wf (n + 1) f vs H Q E → vs.length = F.ps.length := by
        intro vs H Q E hs
        obtain ⟨hd, A, G, ds, d, G', _, r, e, _⟩ := hs
        rw [call_succ, h] at e
        simp only [runF] at e
        split at e
        · rename_i hl
          rw [r.length]; exact hl
        · cases e
      have key : ∀ (cdv : Value) (A : Around) (outer : List Env) (s : Shared) (H : Hp) (vs : List V) (Q : VK) (E : XK), Room n (A.deeper (envOfC qual scope s.heap.objs.size fA cdv)) → spD S PT wf (n + 1) f vs H Q E →
          XOk (cxOf CX0 P w S.K S.mg base F.N qual scope fA cdv A outer s H E).nox S (cfOf PT wf n) ∧ GOk (cxOf CX0 P w S.K S.mg base F.N qual scope fA cdv A outer s H E).nox ⟨F.N, scope, fun _ => true⟩ ∧
          tSv S (cfOf PT wf n) wf F.body { nx := fun _ H' => Q .non H', rt := Q } (start F.N vs) H := by
        intro cdv A outer s H vs Q E hr hs
        obtain ⟨hd, A1, G, ds, d, G', c, r, e, wq⟩ := hs
        rw [call_succ, h] at e
        simp only [runF] at e
        generalize hX : cxOf CX0 P w S.K S.mg base F.N qual scope fA cdv A outer s H E = X
        have ok : XOk X.nox S (cfOf PT wf n) := by
          subst hX
          refine ⟨rfl, rfl, rfl, sc.nd, ?_, M.fld, fun f' ds' G0 d' G0' e' => ?_, fun f' ds' G0 d' G0' e' => ?_, M.blt, M.gls⟩
          · have := hr.un
            show (A.deeper _).units + 200 < cLine
            omega
          · unfold cfOf at e'
            split at e'
            · rename_i F' hF'
              simp only [Bool.false_eq_true, if_false] at e'
              split at e'
              · cases e'
              · rename_i hini
                obtain ⟨fA', fd', D1, FO⟩ := g f' F' hF'
                refine ⟨n, fA', fd', F'.ps, _, FO, hr, ?_, D1.kp, D1.binds, fun hd' A' H' vs' Q' c' r' w' => ?_⟩
                · have := D1.glo (by simpa using hini)
                  rw [findF_name hF'] at this
                  exact this
                · obtain ⟨hd2, A2, G2, ds2, d2, G2', c2, r2, e2, w2⟩ := view_ok e' c' r' w'
                  exact ⟨hd2, A2, G2, ds2, d2, G2', c2, r2, e2, w2⟩
            · cases e'
          · unfold cfOf at e'
            split at e'
            · rename_i F' hF'
              simp only [if_true] at e'
              split at e'
              · cases e'
              · rename_i m
                split at e'
                · rename_i hraw
                  simp only [Bool.and_eq_true] at hraw
                  obtain ⟨fA', fd', D1, FO⟩ := gs m (Nat.lt_succ_self m) f' F' hF'
                  obtain ⟨C, h1, h2, h3⟩ := D1.mkr hraw.2
                  rw [findF_name hF'] at h1 h3
                  exact ⟨m, C, fA', fd', F'.ps, _, h2, FO, hr, h1, h3, D1.binds, fun hd' A' H' vs' Q' c' r' w' => ⟨hd', A', G0, ds', d', G0', c', r', e', w'⟩⟩
                · cases e'
            · cases e'
        have go : GOk X.nox ⟨F.N, scope, fun _ => true⟩ := by
          subst hX
          exact ⟨rfl, rfl, fun _ => rfl, sc.kind⟩
        refine ⟨ok, go, ?_⟩
        split at e
        · rename_i hl
          split at e
          · rename_i d1 ρ1 G1 hb
            refine ⟨hd, A1, G, _, _, _, _, c, start_sl F.N r, hb, fun v A' H' gr c' rv => fin_ok c.len gr c' rv e wq⟩
          · rename_i ρ1 G1 hb
            refine ⟨hd, A1, G, _, _, _, _, c, start_sl F.N r, hb, fun A' H' σ' gr c' l' => fin_ok c.len gr c' .non e wq⟩
          · cases e
        · cases e
      unfold dfM at hm
      split at hm
      · simp only [Bool.and_eq_true, decide_eq_true_eq, List.all_eq_true, Bool.not_eq_true', decide_eq_false_iff_not] at hm
        obtain ⟨⟨hm1, hm2⟩, hm3⟩ := hm
        refine funD_T FD0 sc hm2 hm3 len fun cdv A outer s H vs Q E hr hs => ?_
        obtain ⟨ok, go, q⟩ := key cdv A outer s H vs Q E hr hs
        exact ⟨_, PSsT.nox (ss_T PassesOwn.never F.body ok go hm1), q⟩
      · refine FunD.ok FD0 sc len fun cdv A outer s H vs Q E hr hs => ?_
        obtain ⟨ok, go, q⟩ := key cdv A outer s H vs Q E hr hs
        exact ⟨_, PSs.nox ((sp F.body).ss ok go PassesOwn.never hm), q⟩
    · rcases Nat.lt_succ_iff_lt_or_eq.mp hm with h | h
      · exact gs m h
      · subst h; exact g
end
end Iv

set_option Elab.async false
set_option linter.all false
set_option maxRecDepth 100000
set_option maxHeartbeats 4000000
namespace Iv
open PySem PySem.Spec PyProof.Rows L2
theorem law_sp {S : Sta} {PT : List FD} {wf n : Nat} {ns : List Int} {f : Str} (e : call PT wf n f [.wls (ns.map D.int)] [] = some (.bl true, [])) {H : Hp} {a : Addr} (hl : SqL S.K H a (ns.map V.int)) {E : XK} : spD S PT wf n f [.ref a] H (fun v _ => v = .bl true) E := by
  refine ⟨[], [], [], _, _, _, ⟨rfl, List.nodup_nil, fun n a c h => by simp at h, fun b hb => by cases hb⟩, .cons ?_ .nil, e, fun v A' H' _ _ r => ?_⟩
  · rcases hl with hl | hl
    · exact .wls ⟨by simp, by simp [Sta.hide]⟩ hl (RepAll.of_map ns fun x _ => .int x)
    · exact .wlsW hl (RepAll.of_map ns fun x _ => .int x)
  · cases r
    rfl
theorem fd_uniq {K : PySem.W.Frag} {x x' q q' : Str} {p p' : Arguments} {b b' : List Stmt} {s s' : Scope} {dv dv' : List V} {kw kw' : List (Str × V)} {f : Addr} {fd fd' : FuncData} (h : FunD K x q p b s dv kw f fd) (h' : FunD K x' q' p' b' s' dv' kw' f fd') : fd = fd' := by
  obtain ⟨_, _, _, _, _, _, _, _, _, _, _, e, _⟩ := h.ex
  obtain ⟨_, _, _, _, _, _, _, _, _, _, _, e', _⟩ := h'.ex
  rw [e] at e'
  cases e'
  rfl
theorem law_fn {P : Program} {w : World} {base : Heap} {S : Sta} {PT : List FD} {wf n : Nat} {f : Str} {F : FD} {fa : Addr} {fd : FuncData} {x q : Str} {p : Arguments} {b : List Stmt} {s : Scope} {dv : List V} {kw : List (Str × V)} (hF : findF PT f = some F) (hini : F.ini = false) (M : MdOk S) (hS : S.hid = []) (hPT : ∀ f F, findF PT f = some F → ∃ fA fd, DfOk S F fA fd)
    (hmg : S.mg f = some (.ref fa)) (hfd : FunD S.K x q p b s dv kw fa fd) : FnOk P w S.K S.mg base CX0 n fa fd F.ps (spD S PT wf n f) := by
  obtain ⟨fA, fd', D1, FO⟩ := (good (P := P) (w := w) (base := base) (wf := wf) M hS hPT n).1 f F hF
  have e := D1.glo hini
  rw [findF_name hF, hmg] at e
  cases e
  obtain ⟨x', q', p', b', s', k', h', _⟩ := D1.ex
  have := fd_uniq hfd h'
  subst this
  exact FO
/-- all of a table, one by one -/
theorem all_find {PT : List FD} {Q : FD → Prop} (h : ∀ F ∈ PT, Q F) : ∀ f F, findF PT f = some F → Q F := fun f F e => h F (List.mem_of_find?_eq_some e)
end Iv

set_option Elab.async false
set_option linter.all false
set_option maxRecDepth 100000
set_option maxHeartbeats 4000000
namespace Ct
open PySem PySem.Spec PyProof.Rows L2 Iv SX

abbrev W := List Nat
abbrev sd (w : W) : D := .str (S w)
def wErr : W := [101, 114, 114, 111, 114]

/-! texts -/
theorem endswith1 (a : W) (c : Nat) : Txt.endswith (S a) (S [c]) = (a.getLast? == some c) := by
  unfold Txt.endswith
  rw [S_len, S_len, StrLaws.subAt_eq]
  simp only [S_len, List.length_singleton]
  show (decide (0 + 1 ≤ a.length) && ((a.drop (a.length - 1)).take 1 == [c])) = _
  rcases List.eq_nil_or_concat a with rfl | ⟨b, x, rfl⟩
  · simp
  · simp
theorem cut_init (a : W) : cutS (S a) none (some (-1)) = S a.dropLast := by
  unfold cutS
  have e : (S a).length = a.length := S_len a
  rw [e]
  simp only [HT.sIx, Nat.sub_zero, List.drop_zero]
  rw [if_pos (by decide)]
  congr 2
  rw [List.dropLast_eq_take]
  congr 1
  omega
theorem strIn1 (a : W) (c : Nat) : strIn (S [c]) (S a) = decide (c ∈ a) := by
  unfold strIn
  exact StrLaws.found_one (S a) c
theorem split1 (a : W) (c : Nat) (hc : c < 256) : Txt.split (S a) (S [c]) = (TL.spl [c] 0 [] a).map S := split_S (by simp) (by simp [hc])
theorem spl_none {a : W} {c : Nat} (h : c ∉ a) : TL.spl [c] 0 [] a = [a] := by
  have := TL.spl_last1 (S := []) (acc := []) h
  simpa using this
theorem spl_one {a b : W} {c : Nat} (h : c ∉ a) : TL.spl [c] 0 [] (a ++ c :: b) = a :: TL.spl [c] 0 [] b := by
  have := TL.spl_part1 (S := []) (acc := []) (rest := b) h
  simpa using this

/-! outcomes -/
inductive O where | kd (k : W) (l : Bool) | err
  deriving DecidableEq, Inhabited
def O.w : O → W
  | .kd k l => if l then k ++ [33] else k
  | .err => wErr
/-- as an entry -/
def O.ew : O → W
  | .kd k l => if l then k ++ [33] else k
  | .err => [45]
abbrev O.d (o : O) : D := sd o.w
abbrev O.ed (o : O) : D := sd o.ew
def Lw (w : W) : Prop := ∀ c ∈ w, 97 ≤ c ∧ c ≤ 122
structure Nm (k : W) : Prop where
  ne : k ≠ []
  len : k.length ≤ 8
  lw : Lw k
  ner : k ≠ wErr
def OV : O → Prop
  | .kd k _ => Nm k
  | .err => True
theorem Lw.no {k : W} (h : Lw k) {c : Nat} (hc : c < 97) : c ∉ k := fun m => by
  have := h c m
  omega
theorem Nm.last {k : W} (h : Nm k) : k.getLast? ≠ some 33 := fun e => by
  have := h.lw 33 (List.mem_of_getLast? e)
  omega
theorem wErr_lw : Lw wErr := by
  unfold Lw wErr
  decide
theorem O.w_inj {a b : O} (ha : OV a) (hb : OV b) (h : a.w = b.w) : a = b := by
  cases a with
  | err =>
    cases b with
    | err => rfl
    | kd k l =>
      cases l
      · exact absurd h.symm hb.ner
      · simp only [O.w, if_true] at h
        have : (33 : Nat) ∈ wErr := by rw [h]; simp
        exact absurd this (by decide)
  | kd k l =>
    cases b with
    | err =>
      cases l
      · exact absurd h ha.ner
      · simp only [O.w, if_true] at h
        have : (33 : Nat) ∈ wErr := by rw [← h]; simp
        exact absurd this (by decide)
    | kd k' l' =>
      cases l <;> cases l' <;> simp only [O.w, if_true, Bool.false_eq_true, if_false] at h
      · rw [h]
      · exact absurd (show 33 ∈ k by rw [h]; simp) (ha.lw.no (by decide))
      · exact absurd (show 33 ∈ k' by rw [← h]; simp) (hb.lw.no (by decide))
      · rw [List.append_cancel_right h]
theorem O.w_eq {a b : O} (ha : OV a) (hb : OV b) : (a.w = b.w) ↔ a = b := ⟨O.w_inj ha hb, fun e => by rw [e]⟩
theorem O.beq {a b : O} (ha : OV a) (hb : OV b) : (S a.w == S b.w) = decide (a = b) := by
  rw [S_beq_eq]
  exact decide_eq_decide.mpr (O.w_eq ha hb)

/-! dicts -/
theorem kEq_str (a b : W) : kEq (sd a) (sd b) = decide (a = b) := by
  show (S a == S b) = _
  exact S_beq_eq
theorem kEq_pair (a b c d : W) : kEq (.tup [sd a, sd b]) (.tup [sd c, sd d]) = decide ((a, b) = (c, d)) := by
  show ((S a == S c) && ((S b == S d) && true)) = _
  rw [S_beq_eq, S_beq_eq, Bool.and_true]
  simp
theorem dget_map {α : Type} (k v : α → D) (y : D) : ∀ xs : List α, dget (xs.map k) (xs.map v) y = (xs.find? fun x => kEq (k x) y).map v
  | [] => rfl
  | x :: xs => by
    simp only [List.map_cons, dget, List.find?_cons]
    cases h : kEq (k x) y
    · simp [dget_map k v y xs]
    · simp

/-! tables -/
structure Tab where
  kinds : List W
  ops : List (W × (W → W → O))
  casts : List (W × (W → O))
def Tab.names (T : Tab) : List W := T.kinds ++ (T.ops.map (·.1) ++ T.casts.map (·.1))
def ent (ks : List W) : O → Prop
  | .kd k _ => k ∈ ks
  | .err => True
structure Tab.Ok (T : Tab) : Prop where
  nk : 1 ≤ T.kinds.length ∧ T.kinds.length ≤ 8
  no : 1 ≤ T.ops.length ∧ T.ops.length ≤ 3
  nc : T.casts.length ≤ 4
  nm : ∀ n ∈ T.names, Nm n
  nd : T.names.Nodup
  oe : ∀ p ∈ T.ops, ∀ a ∈ T.kinds, ∀ b ∈ T.kinds, ent T.kinds (p.2 a b)
  ce : ∀ p ∈ T.casts, ∀ a ∈ T.kinds, ent T.kinds (p.2 a)
def Tab.outs (T : Tab) : List O := T.kinds.flatMap (fun k => [O.kd k false, O.kd k true]) ++ [.err]
def pairs (ks : List W) : List (W × W) := ks.flatMap fun a => ks.map fun b => (a, b)
def gridD (ks : List W) (f : W → W → O) : D := .dic true ((pairs ks).map fun p => .tup [sd p.1, sd p.2]) ((pairs ks).map fun p => (f p.1 p.2).ed)
def rowD (ks : List W) (f : W → O) : D := .dic false (ks.map sd) (ks.map fun k => (f k).ed)
def opsD (T : Tab) : D := .dic false (T.ops.map fun p => sd p.1) (T.ops.map fun p => gridD T.kinds p.2)
def castsD (T : Tab) : D := .dic false (T.casts.map fun p => sd p.1) (T.casts.map fun p => rowD T.kinds p.2)
/-- the checker's sheet -/
def sh (T : Tab) : D := .ins "Sheet" ["sorts", "grids", "rows"] [.tup (T.kinds.map sd), opsD T, castsD T]
/-- the law's own table -/
def web (T : Tab) : D := .dic false [.str "kinds", .str "ops", .str "casts"] [.lst (T.kinds.map sd), opsD T, castsD T]
def Tab.op (T : Tab) (n : W) : Option (W → W → O) := (T.ops.find? fun p => decide (p.1 = n)).map (·.2)
def Tab.cast (T : Tab) (n : W) : Option (W → O) := (T.casts.find? fun p => decide (p.1 = n)).map (·.2)
def mark : O → Bool → O
  | .kd k l, m => .kd k (l || m)
  | .err, _ => .err
def joinF (f : W → W → O) : O → O → O
  | .kd a l, .kd b m => mark (f a b) (l || m)
  | _, _ => .err
def turnF (f : W → O) : O → O
  | .kd a l => mark (f a) l
  | .err => .err
theorem mem_outs {T : Tab} {o : O} : o ∈ T.outs ↔ ent T.kinds o := by
  unfold Tab.outs
  cases o with
  | err => simp [ent]
  | kd k l => cases l <;> simp [ent]
theorem Tab.Ok.knm {T : Tab} (h : T.Ok) {k : W} (m : k ∈ T.kinds) : Nm k := h.nm k (List.mem_append_left _ m)
theorem Tab.Ok.ov {T : Tab} (h : T.Ok) {o : O} (m : o ∈ T.outs) : OV o := by
  cases o with
  | err => trivial
  | kd k l => exact h.knm (mem_outs.mp m)
theorem dget_ops (T : Tab) (n : W) : dget (T.ops.map fun p => sd p.1) (T.ops.map fun p => gridD T.kinds p.2) (sd n) = (T.op n).map (gridD T.kinds) := by
  rw [dget_map (fun p : W × (W → W → O) => sd p.1) (fun p => gridD T.kinds p.2)]
  unfold Tab.op
  rw [Option.map_map]
  congr 2
  funext p
  exact kEq_str p.1 n
theorem dget_casts (T : Tab) (n : W) : dget (T.casts.map fun p => sd p.1) (T.casts.map fun p => rowD T.kinds p.2) (sd n) = (T.cast n).map (rowD T.kinds) := by
  rw [dget_map (fun p : W × (W → O) => sd p.1) (fun p => rowD T.kinds p.2)]
  unfold Tab.cast
  rw [Option.map_map]
  congr 2
  funext p
  exact kEq_str p.1 n
theorem find_mem {α : Type} [DecidableEq α] {x : α} : ∀ {xs : List α}, x ∈ xs → xs.find? (fun y => decide (y = x)) = some x
  | y :: ys, h => by
    rw [List.find?_cons]
    by_cases e : y = x
    · simp [e]
    · have : decide (y = x) = false := decide_eq_false e
      rw [this]
      exact find_mem ((List.mem_cons.mp h).resolve_left fun z => e z.symm)
theorem dget_grid {ks : List W} {f : W → W → O} {a b : W} (ha : a ∈ ks) (hb : b ∈ ks) : dget ((pairs ks).map fun p => .tup [sd p.1, sd p.2]) ((pairs ks).map fun p => (f p.1 p.2).ed) (.tup [sd a, sd b]) = some (f a b).ed := by
  rw [dget_map (fun p : W × W => .tup [sd p.1, sd p.2]) (fun p => (f p.1 p.2).ed)]
  have e : (fun p : W × W => kEq (.tup [sd p.1, sd p.2]) (.tup [sd a, sd b])) = fun p => decide (p = (a, b)) := by
    funext p
    exact kEq_pair _ _ _ _
  rw [e, find_mem]
  · rfl
  · unfold pairs
    simp only [List.mem_flatMap, List.mem_map]
    exact ⟨a, ha, b, hb, rfl⟩
theorem dget_row {ks : List W} {f : W → O} {a : W} (ha : a ∈ ks) : dget (ks.map sd) (ks.map fun k => (f k).ed) (sd a) = some (f a).ed := by
  rw [dget_map sd (fun k => (f k).ed)]
  have e : (fun p : W => kEq (sd p) (sd a)) = fun p => decide (p = a) := by
    funext p
    exact kEq_str _ _
  rw [e, find_mem ha]
  rfl
end Ct

set_option Elab.async false
set_option linter.all false
set_option maxRecDepth 100000
set_option maxHeartbeats 4000000
namespace Ct
open PySem PySem.Spec PyProof.Rows L2 Iv SX

mutual
theorem frzI_clean {k : Nat} {g : Nat → Option D} (hg : ∀ n, n < k → g n = some (.cell n)) : ∀ {d : D}, D.clean k d = true → frzI g d = some d
  | .non, _ => rfl
  | .bl _, _ => rfl
  | .int _, _ => rfl
  | .str _, _ => rfl
  | .cell n, h => hg n (by simpa [D.clean] using h)
  | .lst xs, h => by
    rw [D.clean] at h
    rw [frzI, frzIs_clean hg h]
    rfl
  | .tup xs, h => by
    rw [D.clean] at h
    rw [frzI, frzIs_clean hg h]
    rfl
  | .wls xs, h => by
    rw [D.clean] at h
    rw [frzI, frzIs_clean hg h]
    rfl
  | .dic t ks vs, h => by
    rw [D.clean] at h
    rw [frzI, frzIs_clean hg h]
    rfl
  | .ins c fs vs, h => by
    rw [D.clean] at h
    rw [frzI, frzIs_clean hg h]
    rfl
theorem frzIs_clean {k : Nat} {g : Nat → Option D} (hg : ∀ n, n < k → g n = some (.cell n)) : ∀ {ds : List D}, D.cleans k ds = true → frzIs g ds = some ds
  | [], _ => rfl
  | d :: ds, h => by
    rw [D.cleans, Bool.and_eq_true] at h
    rw [frzIs, frzI_clean hg h.1, frzIs_clean hg h.2]
end
theorem frz_lt (G : List C) (k : Nat) (x : Option Nat) (t n : Nat) (h : n < k) : frz G k x t n = some (.cell n) := by
  cases t <;> simp [frz, h]
theorem clean_map {α : Type} {k : Nat} {f : α → D} : ∀ {xs : List α}, (∀ x ∈ xs, D.clean k (f x) = true) → D.cleans k (xs.map f) = true
  | [], _ => rfl
  | x :: xs, h => by
    rw [List.map_cons, D.cleans, h x (List.mem_cons_self ..), clean_map fun y hy => h y (List.mem_cons_of_mem _ hy)]
    rfl
mutual
theorem clean_mono {k m : Nat} (h : k ≤ m) : ∀ {d : D}, D.clean k d = true → D.clean m d = true
  | .non, _ => rfl
  | .bl _, _ => rfl
  | .int _, _ => rfl
  | .str _, _ => rfl
  | .cell n, e => by
    simp only [D.clean, decide_eq_true_eq] at e ⊢
    omega
  | .lst xs, e => by rw [D.clean] at e ⊢; exact cleans_mono h e
  | .tup xs, e => by rw [D.clean] at e ⊢; exact cleans_mono h e
  | .wls xs, e => by rw [D.clean] at e ⊢; exact cleans_mono h e
  | .dic t ks vs, e => by rw [D.clean] at e ⊢; exact cleans_mono h e
  | .ins c fs vs, e => by rw [D.clean] at e ⊢; exact cleans_mono h e
theorem cleans_mono {k m : Nat} (h : k ≤ m) : ∀ {ds : List D}, D.cleans k ds = true → D.cleans m ds = true
  | [], _ => rfl
  | d :: ds, e => by
    rw [D.cleans, Bool.and_eq_true] at e ⊢
    exact ⟨clean_mono h e.1, cleans_mono h e.2⟩
end

/-! calls of defs that see no cells -/
section
variable (PT : List FD) (wf : Nat)
def Con (k : Nat) (f : Str) (ds : List D) (d : D) : Prop := ∀ m, k ≤ m → ∀ G, cfOf PT wf m false f ds G = some (d, G)
variable {PT wf}
theorem Con.mono {k k' : Nat} {f : Str} {ds : List D} {d : D} (h : Con PT wf k f ds d) (l : k ≤ k') : Con PT wf k' f ds d := fun m hm => h m (Nat.le_trans l hm)
/-- what a body hands back -/
def rv : Option (Res × En × List C) → Option (D × List C)
  | some (.ret d, _, G) => some (d, G)
  | some (.nx, _, G) => some (.non, G)
  | _ => none
theorem rv_ret (d : D) (ρ : En) (G : List C) : rv (some (.ret d, ρ, G)) = some (d, G) := rfl
theorem rv_nx (ρ : En) (G : List C) : rv (some (.nx, ρ, G)) = some (.non, G) := rfl
theorem runF_rv {cf : CF} {F : FD} {ds : List D} {G G1 : List C} {d : D} (hl : ds.length = F.ps.length) (e : rv (evS cf wf F.body (ds.map some ++ List.replicate (F.N.length - ds.length) none) G) = some (d, G1)) : runF cf wf F ds G = Iv.finish F G.length d G1 := by
  unfold runF
  rw [if_pos hl]
  unfold rv at e
  split at e
  · rename_i h
    cases e
    first | rfl | rw [h]
  · rename_i h
    cases e
    first | rfl | rw [h]
  · cases e
/-- the slots at a def's start -/
def en0 (F : FD) (ds : List D) : En := ds.map some ++ List.replicate (F.N.length - ds.length) none
theorem Con.of {F : FD} {k : Nat} {f : Str} {ds : List D} {d : D} (hF : findF PT f = some F) (hf : (F.raw, F.ini, F.rc) = (false, false, false)) (hc : D.cleans 0 ds = true) (hd : D.clean 0 d = true) (hl : ds.length = F.ps.length)
    (h : ∀ m, k ≤ m → ∃ G1 d0, rv (evS (cfOf PT wf m) wf F.body (en0 F ds) []) = some (d0, G1) ∧ frzI (frz G1 0 none G1.length) d0 = some d) : Con PT wf (k + 1) f ds d := by
  simp only [Prod.mk.injEq] at hf
  obtain ⟨h1, h2, h3⟩ := hf
  intro m hm G
  obtain ⟨m, rfl⟩ : ∃ m', m = m' + 1 := ⟨m - 1, by omega⟩
  obtain ⟨G1, d0, e, hz⟩ := h m (by omega)
  unfold cfOf
  rw [hF]
  simp only [h2, Bool.false_eq_true, if_false]
  unfold viewC
  simp only [h1, Bool.false_eq_true, if_false, hc, if_true]
  have : call PT wf (m + 1) f ds [] = some (d, []) := by
    rw [call_succ, hF]
    show runF _ wf F ds [] = _
    rw [runF_rv hl e]
    show Iv.finish F 0 d0 G1 = _
    unfold Iv.finish
    simp only [h1, h3, Bool.false_eq_true, if_false, List.take_zero, List.all_nil, if_true, hz]
  rw [this]
  simp only [hd, if_true]
/-- without cells of its own -/
theorem Con.of0 {F : FD} {k : Nat} {f : Str} {ds : List D} {d : D} (hF : findF PT f = some F) (hf : (F.raw, F.ini, F.rc) = (false, false, false)) (hc : D.cleans 0 ds = true) (hd : D.clean 0 d = true) (hl : ds.length = F.ps.length)
    (h : ∀ m, k ≤ m → rv (evS (cfOf PT wf m) wf F.body (en0 F ds) []) = some (d, [])) : Con PT wf (k + 1) f ds d :=
  Con.of hF hf hc hd hl fun m hm => by
    exact ⟨[], d, h m hm, frzI_clean (fun n hn => absurd hn (Nat.not_lt_zero n)) hd⟩

/-! calls of defs that draw -/
structure J where
  a : Int
  s : Int
  c : Int
structure J.Ok (j : J) : Prop where
  a : 0 ≤ j.a
  s : 0 ≤ j.s
  t : j.s < 2147483353
abbrev J.C (j : J) : C := .lst [.int j.a, .int j.s, .int j.c]
variable (PT wf) in
def Dr (k : Nat) (f : Str) (ds : List D) (P : D → Prop) : Prop := ∀ m, k ≤ m → ∀ j : J, j.Ok → ∀ n G, G[n]? = some j.C → ∃ (d : D) (j' : J), j'.Ok ∧ P d ∧ cfOf PT wf m false f (.cell n :: ds) G = some (d, G.set n j'.C)
theorem Dr.of {F : FD} {k : Nat} {f : Str} {ds : List D} {P : D → Prop} (hF : findF PT f = some F) (hf : (F.raw, F.ini, F.rc) = (false, false, false)) (hc : D.cleans 0 ds = true) (hl : ds.length + 1 = F.ps.length)
    (h : ∀ m, k ≤ m → ∀ j : J, j.Ok → ∃ (d0 d : D) (j' : J) (G1 : List C), j'.Ok ∧ P d ∧ D.clean 0 d = true ∧ rv (evS (cfOf PT wf m) wf F.body (en0 F (.cell 0 :: ds)) [j.C]) = some (d0, j'.C :: G1) ∧ frzI (frz (j'.C :: G1) 1 none (G1.length + 1)) d0 = some d) : Dr PT wf (k + 1) f ds P := by
  simp only [Prod.mk.injEq] at hf
  obtain ⟨h1, h2, h3⟩ := hf
  intro m hm j hj n G hG
  obtain ⟨m, rfl⟩ : ∃ m', m = m' + 1 := ⟨m - 1, by omega⟩
  obtain ⟨d0, d, j', G1, hj', hp, hd, e, hz⟩ := h m (by omega) j hj
  refine ⟨d, j', hj', hp, ?_⟩
  unfold cfOf
  rw [hF]
  simp only [h2, Bool.false_eq_true, if_false]
  unfold viewC
  have hc1 : D.cleans 0 (.cell n :: ds) = false := rfl
  have jc : ∀ k (j : J), C.clean k j.C = true := fun k j => rfl
  simp only [h1, Bool.false_eq_true, if_false, hc1, hc, if_true, hG, jc]
  have : call PT wf (m + 1) f (.cell 0 :: ds) [j.C] = some (d, [j'.C]) := by
    rw [call_succ, hF]
    show runF _ wf F (.cell 0 :: ds) [j.C] = _
    rw [runF_rv (by simpa using hl) e]
    show Iv.finish F 1 d0 (j'.C :: G1) = _
    unfold Iv.finish
    simp only [h1, h3, Bool.false_eq_true, if_false, List.take_succ_cons, List.take_zero, List.all_cons, List.all_nil, Bool.and_true, jc, if_true, List.length_cons, hz]
  rw [this]
  simp only [hd, jc, Bool.and_true, if_true]
theorem Dr.of0 {F : FD} {k : Nat} {f : Str} {ds : List D} {P : D → Prop} (hF : findF PT f = some F) (hf : (F.raw, F.ini, F.rc) = (false, false, false)) (hc : D.cleans 0 ds = true) (hl : ds.length + 1 = F.ps.length)
    (h : ∀ m, k ≤ m → ∀ j : J, j.Ok → ∃ (d : D) (j' : J) (G1 : List C), j'.Ok ∧ P d ∧ D.clean 0 d = true ∧ rv (evS (cfOf PT wf m) wf F.body (en0 F (.cell 0 :: ds)) [j.C]) = some (d, j'.C :: G1)) : Dr PT wf (k + 1) f ds P :=
  Dr.of hF hf hc hl fun m hm j hj => by
    obtain ⟨d, j', G1, hj', hp, hd, e⟩ := h m hm j hj
    refine ⟨d, d, j', G1, hj', hp, hd, e, frzI_clean (k := 1) (fun n hn => frz_lt _ _ _ _ _ hn) (clean_mono (Nat.zero_le 1) hd)⟩
end

/-! walks -/
theorem compL_flat {step : D → List C → Option (List D × List C)} {f : D → List D} {G : List C} : ∀ {its : List D}, (∀ x ∈ its, step x G = some (f x, G)) → compL step its G = some (its.flatMap f, G)
  | [], _ => rfl
  | x :: its, h => by
    rw [compL, h x (List.mem_cons_self ..), ]
    simp only [compL_flat fun y hy => h y (List.mem_cons_of_mem _ hy), List.flatMap_cons]
theorem compL_map {α : Type} {step : D → List C → Option (List D × List C)} {g : α → D} {f : α → List D} {G : List C} {xs : List α} (h : ∀ x ∈ xs, step (g x) G = some (f x, G)) : compL step (xs.map g) G = some (xs.flatMap f, G) := by
  induction xs with
  | nil => rfl
  | cons x xs ih =>
    rw [List.map_cons, compL, h x (List.mem_cons_self ..)]
    simp only [ih fun y hy => h y (List.mem_cons_of_mem _ hy), List.flatMap_cons]
theorem compL_map1 {α : Type} {step : D → List C → Option (List D × List C)} {g f : α → D} {G : List C} {xs : List α} (h : ∀ x ∈ xs, step (g x) G = some ([f x], G)) : compL step (xs.map g) G = some (xs.map f, G) := by
  rw [compL_map h]
  congr 2
  clear h
  induction xs with
  | nil => rfl
  | cons x xs ih => rw [List.flatMap_cons, ih]; rfl
theorem compL_filter {α : Type} {step : D → List C → Option (List D × List C)} {g f : α → D} {p : α → Bool} {G : List C} {xs : List α} (h : ∀ x ∈ xs, step (g x) G = some (if p x = true then [f x] else [], G)) : compL step (xs.map g) G = some ((xs.filter p).map f, G) := by
  rw [compL_map h]
  congr 2
  clear h
  induction xs with
  | nil => rfl
  | cons x xs ih =>
    rw [List.flatMap_cons, ih, List.filter_cons]
    cases p x <;> simp
/-- a walk in which each turn draws: what comes has as many elements, each one such -/
theorem compL_dr {step : D → List C → Option (List D × List C)} {I : List C → Prop} {P : D → Prop} : ∀ {its : List D} {G : List C}, I G → (∀ x ∈ its, ∀ G, I G → ∃ d G', P d ∧ I G' ∧ step x G = some ([d], G')) →
    ∃ ds G', ds.length = its.length ∧ (∀ d ∈ ds, P d) ∧ I G' ∧ compL step its G = some (ds, G')
  | [], G, hI, _ => ⟨[], G, rfl, (fun _ h => by cases h), hI, rfl⟩
  | x :: its, G, hI, h => by
    obtain ⟨d, G1, hp, hI1, e⟩ := h x (List.mem_cons_self ..) G hI
    obtain ⟨ds, G2, hl, hps, hI2, e2⟩ := compL_dr hI1 fun y hy => h y (List.mem_cons_of_mem _ hy)
    refine ⟨d :: ds, G2, by simp [hl], fun z hz => ?_, hI2, ?_⟩
    · rcases List.mem_cons.mp hz with rfl | hz
      · exact hp
      · exact hps z hz
    · rw [compL, e]
      simp only [e2, List.singleton_append]
theorem loopS_keep {step : D → En → List C → Option (Res × En × List C)} {I : En → List C → Prop} : ∀ {its : List D} {ρ : En} {G : List C}, I ρ G → (∀ x ∈ its, ∀ ρ G, I ρ G → ∃ ρ1 G1, step x ρ G = some (.nx, ρ1, G1) ∧ I ρ1 G1) →
    ∃ ρ1 G1, loopS step its ρ G = some (.nx, ρ1, G1) ∧ I ρ1 G1
  | [], ρ, G, hI, _ => ⟨ρ, G, rfl, hI⟩
  | x :: its, ρ, G, hI, h => by
    obtain ⟨ρ1, G1, e, hI1⟩ := h x (List.mem_cons_self ..) ρ G hI
    obtain ⟨ρ2, G2, e2, hI2⟩ := loopS_keep hI1 fun y hy => h y (List.mem_cons_of_mem _ hy)
    refine ⟨ρ2, G2, ?_, hI2⟩
    rw [loopS, e]
    exact e2
/-- .. with the items done so far -/
theorem loopS_inv {α : Type} {g : α → D} {step : D → En → List C → Option (Res × En × List C)} {I : List α → En → List C → Prop} : ∀ {xs : List α} {dn : List α} {ρ : En} {G : List C}, I dn ρ G → (∀ dn x rest, dn ++ x :: rest = dn ++ x :: rest → x ∈ xs → ∀ ρ G, I dn ρ G → ∃ ρ1 G1, step (g x) ρ G = some (.nx, ρ1, G1) ∧ I (dn ++ [x]) ρ1 G1) →
    ∃ ρ1 G1, loopS step (xs.map g) ρ G = some (.nx, ρ1, G1) ∧ I (dn ++ xs) ρ1 G1
  | [], dn, ρ, G, hI, _ => ⟨ρ, G, rfl, by simpa using hI⟩
  | x :: xs, dn, ρ, G, hI, h => by
    obtain ⟨ρ1, G1, e, hI1⟩ := h dn x xs rfl (List.mem_cons_self ..) ρ G hI
    obtain ⟨ρ2, G2, e2, hI2⟩ := loopS_inv hI1 fun dn y r _ hy => h dn y r rfl (List.mem_cons_of_mem _ hy)
    refine ⟨ρ2, G2, ?_, by simpa using hI2⟩
    rw [List.map_cons, loopS, e]
    exact e2
theorem loopS_run {α : Type} {g : α → D} {step : D → En → List C → Option (Res × En × List C)} {xs : List α} {ρ : En} {G : List C} (I : List α → En → List C → Prop) (h0 : I [] ρ G)
    (h : ∀ dn x rest, xs = dn ++ x :: rest → ∀ ρ G, I dn ρ G → ∃ ρ1 G1, step (g x) ρ G = some (.nx, ρ1, G1) ∧ I (dn ++ [x]) ρ1 G1) : ∃ ρ1 G1, loopS step (xs.map g) ρ G = some (.nx, ρ1, G1) ∧ I xs ρ1 G1 := by
  suffices H : ∀ rest dn ρ G, xs = dn ++ rest → I dn ρ G → ∃ ρ1 G1, loopS step (rest.map g) ρ G = some (.nx, ρ1, G1) ∧ I xs ρ1 G1 from H xs [] ρ G rfl h0
  intro rest
  induction rest with
  | nil => 
    intro dn ρ G e hI
    rw [List.append_nil] at e
    subst e
    exact ⟨ρ, G, rfl, hI⟩
  | cons x rest ih =>
    intro dn ρ G e hI
    obtain ⟨ρ1, G1, e1, hI1⟩ := h dn x rest e ρ G hI
    obtain ⟨ρ2, G2, e2, hI2⟩ := ih (dn ++ [x]) ρ1 G1 (by rw [e, List.append_assoc]; rfl) hI1
    refine ⟨ρ2, G2, ?_, hI2⟩
    rw [List.map_cons, loopS, e1]
    exact e2
/-- a walk that is left with a value at the first item of a kind -/
theorem loopS_find {α : Type} {g : α → D} {step : D → En → List C → Option (Res × En × List C)} {p : α → Bool} {out : D} {I : En → List C → Prop} : ∀ {xs : List α} {ρ : En} {G : List C}, I ρ G → (∀ x ∈ xs, ∀ ρ G, I ρ G → ∃ ρ1 G1, step (g x) ρ G = some (if p x = true then .ret out else .nx, ρ1, G1) ∧ I ρ1 G1) →
    ∃ ρ1 G1, loopS step (xs.map g) ρ G = some (if xs.any p = true then .ret out else .nx, ρ1, G1) ∧ I ρ1 G1
  | [], ρ, G, hI, _ => ⟨ρ, G, rfl, hI⟩
  | x :: xs, ρ, G, hI, h => by
    obtain ⟨ρ1, G1, e, hI1⟩ := h x (List.mem_cons_self ..) ρ G hI
    cases hp : p x
    · rw [hp] at e
      obtain ⟨ρ2, G2, e2, hI2⟩ := loopS_find hI1 fun y hy => h y (List.mem_cons_of_mem _ hy)
      refine ⟨ρ2, G2, ?_, hI2⟩
      rw [List.map_cons, loopS, e, List.any_cons, hp, Bool.false_or]
      exact e2
    · rw [hp] at e
      refine ⟨ρ1, G1, ?_, hI1⟩
      rw [List.map_cons, loopS, e, List.any_cons, hp, Bool.true_or]
      rfl

theorem loopS_until {α : Type} {g : α → D} {step : D → En → List C → Option (Res × En × List C)} {xs : List α} {ρ : En} {G : List C} (p : α → Bool) (out : D) (I : List α → En → List C → Prop) (h0 : I [] ρ G)
    (h : ∀ dn x rest, xs = dn ++ x :: rest → ∀ ρ G, I dn ρ G → (p x = true → ∃ ρ1 G1, step (g x) ρ G = some (.ret out, ρ1, G1)) ∧ (p x = false → ∃ ρ1 G1, step (g x) ρ G = some (.nx, ρ1, G1) ∧ I (dn ++ [x]) ρ1 G1)) :
    (xs.any p = true → ∃ ρ1 G1, loopS step (xs.map g) ρ G = some (.ret out, ρ1, G1)) ∧ (xs.any p = false → ∃ ρ1 G1, loopS step (xs.map g) ρ G = some (.nx, ρ1, G1) ∧ I xs ρ1 G1) := by
  suffices H : ∀ rest dn ρ G, xs = dn ++ rest → I dn ρ G → (rest.any p = true → ∃ ρ1 G1, loopS step (rest.map g) ρ G = some (.ret out, ρ1, G1)) ∧ (rest.any p = false → ∃ ρ1 G1, loopS step (rest.map g) ρ G = some (.nx, ρ1, G1) ∧ I xs ρ1 G1) from H xs [] ρ G rfl h0
  intro rest
  induction rest with
  | nil =>
    intro dn ρ G e hI
    rw [List.append_nil] at e
    subst e
    exact ⟨fun h => by simp at h, fun _ => ⟨ρ, G, rfl, hI⟩⟩
  | cons x rest ih =>
    intro dn ρ G e hI
    obtain ⟨h1, h2⟩ := h dn x rest e ρ G hI
    rw [List.any_cons]
    cases hp : p x
    · obtain ⟨ρ1, G1, e1, hI1⟩ := h2 hp
      rw [Bool.false_or]
      rw [List.map_cons, loopS, e1]
      exact ih (dn ++ [x]) ρ1 G1 (by rw [e, List.append_assoc]; rfl) hI1
    · obtain ⟨ρ1, G1, e1⟩ := h1 hp
      refine ⟨fun _ => ⟨ρ1, G1, ?_⟩, fun h => by simp at h⟩
      rw [List.map_cons, loopS, e1]
/-! the evaluator's rows, walks named -/
def stC (cf : CF) (own : List (Str × Nat)) (t tst elt : E) (ρ : En) : D → List C → Option (List D × List C) := fun d G => match bindV t d (wipeD ρ (own.map (·.2))) with
  | some ρ2 => match evE cf tst ρ2 G with
    | some (.bl true, G3) => match evE cf elt ρ2 G3 with
      | some (v, G4) => some ([v], G4)
      | none => none
    | some (.bl false, G3) => some ([], G3)
    | _ => none
  | none => none
def stD (cf : CF) (own1 : List Nat) (t1 elt : E) (ρ2 : En) : D → List C → Option (List D × List C) := fun d G => match bindV t1 d (wipeD ρ2 own1) with
  | some ρ3 => match evE cf elt ρ3 G with
    | some (v, G5) => some ([v], G5)
    | none => none
  | none => none
def stC2 (cf : CF) (own : List (Str × Nat)) (own1 : List Nat) (t : E) (k1 : IK) (a1 b1 t1 elt : E) (ρ : En) : D → List C → Option (List D × List C) := fun d G => match bindV t d (wipeD ρ (own.map (·.2))) with
  | some ρ2 => match evE cf a1 ρ2 G with
    | some (x1, G3) => match evE cf b1 ρ2 G3 with
      | some (y1, G4) => match itemsN k1 x1 y1 G4 with
        | some its1 => compL (stD cf own1 t1 elt ρ2) its1 G4
        | none => none
      | none => none
    | none => none
  | none => none
def stF (cf : CF) (wf : Nat) (t : E) (s : Iv.St) : D → En → List C → Option (Res × En × List C) := fun d ρ G => match bindV t d ρ with
  | some ρ1 => evS cf wf s ρ1 G
  | none => none
section
variable {cf : CF} {wf : Nat} {ρ : En} {G : List C}
def aftC (c : Bool) : Option (List D × List C) → Option (D × List C)
  | some (vs, G) => mkL c vs G
  | none => none
def compK (c : Bool) (st : D → List C → Option (List D × List C)) (G : List C) : Option (List D) → Option (D × List C)
  | some its => aftC c (compL st its G)
  | none => none
def forK (st : D → En → List C → Option (Res × En × List C)) (ρ : En) (G : List C) : Option (List D) → Option (Res × En × List C)
  | some its => loopS st its ρ G
  | none => none
theorem aftC_some (c : Bool) (vs : List D) (G : List C) : aftC c (some (vs, G)) = mkL c vs G := rfl
theorem compK_some (c : Bool) (st : D → List C → Option (List D × List C)) (G : List C) (its : List D) : compK c st G (some its) = aftC c (compL st its G) := rfl
theorem forK_some (st : D → En → List C → Option (Res × En × List C)) (ρ : En) (G : List C) (its : List D) : forK st ρ G (some its) = loopS st its ρ G := rfl
theorem it_lst (xs : List D) (y : D) (G : List C) : itemsOf .plain (.lst xs) y G = some xs := rfl
theorem it_wls (xs : List D) (y : D) (G : List C) : itemsOf .plain (.wls xs) y G = some xs := rfl
theorem it_tup (xs : List D) (y : D) (G : List C) : itemsOf .plain (.tup xs) y G = some xs := rfl
theorem it_strp (z : Str) (y : D) (G : List C) : itemsOf .plain (.str z) y G = some (z.cps.toList.map fun c => .str (sgn c)) := rfl
theorem it_dic (t : Bool) (ks vs : List D) (y : D) (G : List C) : itemsOf .plain (.dic t ks vs) y G = some ks := rfl
theorem it_zipTL (xs ys : List D) (G : List C) : itemsOf .zip (.tup xs) (.lst ys) G = some (List.zipWith (fun a b => .tup [a, b]) xs ys) := rfl
theorem ev_comp {c : Bool} {own : List (Str × Nat)} {k : IK} {a b t tst elt : E} : evE cf (.comp c own k a b t tst elt) ρ G = match evE cf a ρ G with
    | some (x, G1) => match evE cf b ρ G1 with
      | some (y, G2) => compK c (stC cf own t tst elt ρ) G2 (itemsOf k x y G2)
      | none => none
    | none => none := by
  rw [evE]
  cases evE cf a ρ G with
  | none => rfl
  | some p =>
    obtain ⟨x, G1⟩ := p
    dsimp only
    cases evE cf b ρ G1 with
    | none => rfl
    | some q =>
      obtain ⟨y, G2⟩ := q
      dsimp only
      generalize itemsOf k x y G2 = I
      cases I with
      | none => rfl
      | some its => 
        show _ = aftC c (compL (stC cf own t tst elt ρ) its G2)
        unfold aftC stC
        rfl
theorem ev_comp2 {c : Bool} {own : List (Str × Nat)} {own1 : List Nat} {k k1 : IK} {a b t a1 b1 t1 elt : E} : evE cf (.comp2 c own own1 k a b t k1 a1 b1 t1 elt) ρ G = match evE cf a ρ G with
    | some (x, G1) => match evE cf b ρ G1 with
      | some (y, G2) => match itemsOf k x y G2 with
        | some its => match compL (stC2 cf own own1 t k1 a1 b1 t1 elt ρ) its G2 with
          | some (vs, G5) => mkL c vs G5
          | none => none
        | none => none
      | none => none
    | none => none := by
  rw [evE] <;> rfl
theorem ev_fors {k : IK} {a b t : E} {s : Iv.St} : evS cf wf (.fors k a b t s) ρ G = match evE cf a ρ G with
    | some (x, G1) => match evE cf b ρ G1 with
      | some (y, G2) => forK (stF cf wf t s) ρ G2 (itemsOf k x y G2)
      | none => none
    | none => none := by
  rw [evS]
  cases evE cf a ρ G with
  | none => rfl
  | some p =>
    obtain ⟨x, G1⟩ := p
    dsimp only
    cases evE cf b ρ G1 with
    | none => rfl
    | some q =>
      obtain ⟨y, G2⟩ := q
      dsimp only
      generalize itemsOf k x y G2 = I
      cases I with
      | none => rfl
      | some its => rfl
theorem ev_nil  : evE cf (.nil) ρ G = some (.bl true, G) := by
  rw [evE] <;> rfl
theorem ev_var {i : Nat} : evE cf (.var i) ρ G = match ρ[i]? with
      | some (some d) => some (d, G)
      | _ => none := by
  rw [evE] <;> rfl
theorem ev_int {i : Int} : evE cf (.int i) ρ G = some (.int i, G) := by
  rw [evE] <;> rfl
theorem ev_str {s : Str} : evE cf (.str s) ρ G = some (.str s, G) := by
  rw [evE] <;> rfl
theorem ev_bl {b : Bool} : evE cf (.bl b) ρ G = some (.bl b, G) := by
  rw [evE] <;> rfl
theorem ev_non  : evE cf (.non) ρ G = some (.non, G) := by
  rw [evE] <;> rfl
theorem ev_gl {x : Str} {d : D} : evE cf (.gl x d) ρ G = some (d, G) := by
  rw [evE] <;> rfl
theorem ev_bin {o : BO} {c : Bool} {a b : E} : evE cf (.bin o c a b) ρ G = match evE cf a ρ G with
      | some (x, G1) => match evE cf b ρ G1 with
        | some (y, G2) => binD o c x y G2
        | none => none
      | none => none := by
  rw [evE] <;> rfl
theorem ev_neg {a : E} : evE cf (.neg a) ρ G = match evE cf a ρ G with
      | some (.int i, G1) => some (.int (-i), G1)
      | _ => none := by
  rw [evE] <;> rfl
theorem ev_cmp {o : CO} {a b : E} : evE cf (.cmp o a b) ρ G = match evE cf a ρ G with
      | some (x, G1) => match evE cf b ρ G1 with
        | some (y, G2) => match cmpD o x y G2 with
          | some r => some (.bl r, G2)
          | none => none
        | none => none
      | none => none := by
  rw [evE] <;> rfl
theorem ev_chain {o o' : CO} {a b c : E} : evE cf (.chain o o' a b c) ρ G = match evE cf a ρ G with
      | some (x, G1) => match evE cf b ρ G1 with
        | some (y, G2) => match cmpD o x y G2 with
          | some true => match evE cf c ρ G2 with
            | some (z, G3) => match cmpD o' y z G3 with
              | some r => some (.bl r, G3)
              | none => none
            | none => none
          | some false => some (.bl false, G2)
          | none => none
        | none => none
      | none => none := by
  rw [evE] <;> rfl
theorem ev_and {a b : E} : evE cf (.and a b) ρ G = match evE cf a ρ G with
      | some (.bl true, G1) => evE cf b ρ G1
      | some (.bl false, G1) => some (.bl false, G1)
      | _ => none := by
  rw [evE] <;> rfl
theorem ev_or {a b : E} : evE cf (.or a b) ρ G = match evE cf a ρ G with
      | some (.bl true, G1) => some (.bl true, G1)
      | some (.bl false, G1) => evE cf b ρ G1
      | _ => none := by
  rw [evE] <;> rfl
theorem ev_not {a : E} : evE cf (.not a) ρ G = match evE cf a ρ G with
      | some (.bl r, G1) => some (.bl (!r), G1)
      | _ => none := by
  rw [evE] <;> rfl
theorem ev_ite {c a b : E} : evE cf (.ite c a b) ρ G = match evE cf c ρ G with
      | some (.bl true, G1) => evE cf a ρ G1
      | some (.bl false, G1) => evE cf b ρ G1
      | _ => none := by
  rw [evE] <;> rfl
theorem ev_lst {c : Bool} {es : E} : evE cf (.lst c es) ρ G = match evL cf es ρ G with
      | some (xs, G1) => mkL c xs G1
      | none => none := by
  rw [evE] <;> rfl
theorem ev_tup {es : E} : evE cf (.tup es) ρ G = match evL cf es ρ G with
      | some (xs, G1) => if xs.length ≤ sizeLine then some (.tup xs, G1) else none
      | none => none := by
  rw [evE] <;> rfl
theorem ev_dK0 {c : Bool} : evE cf (.dK0 c) ρ G = if c then some (.cell G.length, G ++ [.dK [] []]) else some (.dic false [] [], G) := by
  rw [evE] <;> rfl
theorem ev_dT0 {c : Bool} : evE cf (.dT0 c) ρ G = if c then some (.cell G.length, G ++ [.dT [] []]) else some (.dic true [] [], G) := by
  rw [evE] <;> rfl
theorem ev_dic {c : Bool} {es : E} : evE cf (.dic c es) ρ G = match evL cf es ρ (G ++ [.dK [] []]) with
      | some (xs, G1) => match altOf xs with
        | some ps => match G1[G.length]? with
          | some (.dK [] []) => if ps.length ≤ 15 then some (.cell G.length, G1.set G.length (.dK (dputs [] [] ps).1 (dputs [] [] ps).2)) else none
          | _ => none
        | none => none
      | none => none := by
  rw [evE] <;> rfl
theorem ev_idx {a i : E} : evE cf (.idx a i) ρ G = match evE cf a ρ G with
      | some (x, G1) => match evE cf i ρ G1 with
        | some (y, G2) => match idxD x y G2 with
          | some r => some (r, G2)
          | none => none
        | none => none
      | none => none := by
  rw [evE] <;> rfl
theorem ev_slice {c : Bool} {a lo hi : E} : evE cf (.slice c a lo hi) ρ G = match evE cf a ρ G with
      | some (x, G1) => match (if isNil lo then some (none, G1) else match evE cf lo ρ G1 with
          | some (.int i, G2) => some (some i, G2)
          | _ => none) with
        | some (l, G2) => match (if isNil hi then some (none, G2) else match evE cf hi ρ G2 with
            | some (.int i, G3) => some (some i, G3)
            | _ => none) with
          | some (h, G3) => sliceD c x l h G3
          | none => none
        | none => none
      | none => none := by
  rw [evE] <;> rfl
theorem ev_rev {c : Bool} {a : E} : evE cf (.rev c a) ρ G = match evE cf a ρ G with
      | some (.tup xs, G1) => some (.tup xs.reverse, G1)
      | some (x, G1) => match lstOf G1 x with
        | some xs => mkL c xs.reverse G1
        | none => none
      | none => none := by
  rw [evE] <;> rfl
theorem ev_attr {a : E} {f : Str} : evE cf (.attr a f) ρ G = match evE cf a ρ G with
      | some (x, G1) => match attrD x f G1 with
        | some r => some (r, G1)
        | none => none
      | none => none := by
  rw [evE] <;> rfl
theorem ev_call {f : Str} {es : E} : evE cf (.call f es) ρ G = match evL cf es ρ G with
      | some (xs, G1) => cf false f xs G1
      | none => none := by
  rw [evE] <;> rfl
theorem ev_callK {f : Str} {g : List Nat} {es : E} : evE cf (.callK f g es) ρ G = match evL cf es ρ G with
      | some (xs, G1) => cf false f (g.filterMap fun i => xs[i]?) G1
      | none => none := by
  rw [evE] <;> rfl
theorem ev_new {c : Str} {es : E} : evE cf (.new c es) ρ G = match evL cf es ρ G with
      | some (xs, G1) => match cf true c (.cell G1.length :: xs) (G1 ++ [.ins c [] []]) with
        | some (.non, G2) => some (.cell G1.length, G2)
        | _ => none
      | none => none := by
  rw [evE] <;> rfl
theorem ev_bi {b : BI} {c : Bool} {es : E} : evE cf (.bi b c es) ρ G = match evL cf es ρ G with
      | some (xs, G1) => biD b c xs G1
      | none => none := by
  rw [evE] <;> rfl
theorem ev_isi {a : E} {t : String} : evE cf (.isi a t) ρ G = match evE cf a ρ G with
      | some (x, G1) => match tyD x G1 with
        | some u => some (.bl (u == t || (u == "bool" && t == "int")), G1)
        | none => none
      | none => none := by
  rw [evE] <;> rfl
theorem ev_lenSet {a : E} : evE cf (.lenSet a) ρ G = match evE cf a ρ G with
      | some (x, G1) => match lstOf G1 x with
        | some xs => match strsOf xs with
          | some ys => if ys.length < 1000 then some (.int (ys.eraseDups.length : Nat), G1) else none
          | none => none
        | none => none
      | none => none := by
  rw [evE] <;> rfl
theorem ev_sortSet {c : Bool} {a : E} : evE cf (.sortSet c a) ρ G = match evE cf a ρ G with
      | some (x, G1) => match lstOf G1 x with
        | some xs => match strsOf xs with
          | some ys => if ys.length < 1000 then mkL c ((ys.eraseDups.mergeSort (fun a b => !decide (b.cps.toList < a.cps.toList))).map .str) G1 else none
          | none => none
        | none => none
      | none => none := by
  rw [evE] <;> rfl
theorem ev_dictZ {c : Bool} {a b : E} : evE cf (.dictZ c a b) ρ G = match evE cf a ρ G with
      | some (x, G1) => match evE cf b ρ G1 with
        | some (y, G2) => match x with
          | .tup xs => match lstOf G2 y with
            | some ys => match pairsOf (List.zipWith (fun a b => .tup [a, b]) xs ys) with
              | some ps => mkK c (dputs [] [] ps).1 (dputs [] [] ps).2 G2
              | none => none
            | none => none
          | _ => none
        | none => none
      | none => none := by
  rw [evE] <;> rfl
theorem ev_meth {m : MT} {c : Bool} {o es : E} : evE cf (.meth m c o es) ρ G = match evE cf o ρ G with
      | some (x, G1) => match methOk m x G1 with
        | true => match evL cf es ρ G1 with
          | some (xs, G2) => methD m c x xs G2
          | none => none
        | false => none
      | none => none := by
  rw [evE] <;> rfl
theorem ev_replC {y z : Str} {o : E} : evE cf (.replC y z o) ρ G = match evE cf o ρ G with
      | some (.str a, G1) => if (y == z) = false ∧ a.length + (a.length + 1) * z.length ≤ 16777216 then some (.str (Txt.replace a y z), G1) else none
      | _ => none := by
  rw [evE] <;> rfl
theorem es_skip  : evS cf wf (.skip) ρ G = some (.nx, ρ, G) := by
  rw [evS] <;> rfl
theorem es_seq {s t : Iv.St} : evS cf wf (.seq s t) ρ G = match evS cf wf s ρ G with
      | some (.nx, ρ1, G1) => evS cf wf t ρ1 G1
      | r => r := by
  rw [evS] <;> rfl
theorem es_asg {t e : E} : evS cf wf (.asg t e) ρ G = match evE cf e ρ G with
      | some (d, G1) => match asgD cf t d ρ G1 with
        | some (ρ2, G2) => some (.nx, ρ2, G2)
        | none => none
      | none => none := by
  rw [evS] <;> rfl
theorem es_par {is : List Nat} {es : E} : evS cf wf (.par is es) ρ G = match evL cf es ρ G with
      | some (ds, G1) => match setMany is ds ρ with
        | some ρ1 => some (.nx, ρ1, G1)
        | none => none
      | none => none := by
  rw [evS] <;> rfl
theorem es_aug {i : Nat} {o : BO} {e : E} : evS cf wf (.aug i o e) ρ G = match ρ[i]? with
      | some (some x) => match evE cf e ρ G with
        | some (y, G1) => match o, x, y with
          | .add, .int a, .int b => some (.nx, ρ.set i (some (.int (a + b))), G1)
          | .sub, .int a, .int b => some (.nx, ρ.set i (some (.int (a - b))), G1)
          | _, _, _ => none
        | none => none
      | _ => none := by
  rw [evS] <;> rfl
theorem es_ex {e : E} : evS cf wf (.ex e) ρ G = match evE cf e ρ G with
      | some (_, G1) => some (.nx, ρ, G1)
      | none => none := by
  rw [evS] <;> rfl
theorem es_ret {e : E} : evS cf wf (.ret e) ρ G = match evE cf e ρ G with
      | some (d, G1) => some (.ret d, ρ, G1)
      | none => none := by
  rw [evS] <;> rfl
theorem es_ifs {c : E} {s t : Iv.St} : evS cf wf (.ifs c s t) ρ G = match evE cf c ρ G with
      | some (.bl true, G1) => evS cf wf s ρ G1
      | some (.bl false, G1) => evS cf wf t ρ G1
      | _ => none := by
  rw [evS] <;> rfl
theorem es_whl {c : E} {s : Iv.St} : evS cf wf (.whl c s) ρ G = whileS (evE cf c) (evS cf wf s) wf ρ G := by
  rw [evS] <;> rfl
theorem es_brk  : evS cf wf (.brk) ρ G = some (.bk, ρ, G) := by
  rw [evS] <;> rfl
theorem es_cnt  : evS cf wf (.cnt) ρ G = some (.ct, ρ, G) := by
  rw [evS] <;> rfl
end
end Ct

set_option Elab.async false
set_option linter.all false
set_option maxRecDepth 100000
set_option maxHeartbeats 4000000
namespace Ct
open PySem PySem.Spec PyProof.Rows L2 Iv SX

/-! what holds behind a piece of code -/
section
variable {cf : CF} {wf : Nat} {ρ : En} {G : List C} {Q : Res → En → List C → Prop}
def wE (cf : CF) (e : E) (ρ : En) (G : List C) (K : D → List C → Prop) : Prop := ∃ d G', evE cf e ρ G = some (d, G') ∧ K d G'
def wS (cf : CF) (wf : Nat) (s : Iv.St) (ρ : En) (G : List C) (Q : Res → En → List C → Prop) : Prop := ∃ r ρ' G', evS cf wf s ρ G = some (r, ρ', G') ∧ Q r ρ' G'
def wLp (st : D → En → List C → Option (Res × En × List C)) (its : List D) (ρ : En) (G : List C) (Q : Res → En → List C → Prop) : Prop := ∃ r ρ' G', loopS st its ρ G = some (r, ρ', G') ∧ Q r ρ' G'
def seqK (cf : CF) (wf : Nat) (t : Iv.St) (Q : Res → En → List C → Prop) : Res → En → List C → Prop
  | .nx, ρ, G => wS cf wf t ρ G Q
  | r, ρ, G => Q r ρ G
def asgK (cf : CF) (t : E) (ρ : En) (Q : Res → En → List C → Prop) : D → List C → Prop := fun d G => ∃ ρ2 G2, asgD cf t d ρ G = some (ρ2, G2) ∧ Q .nx ρ2 G2
def ifK (cf : CF) (wf : Nat) (s t : Iv.St) (ρ : En) (Q : Res → En → List C → Prop) : D → List C → Prop
  | .bl true, G => wS cf wf s ρ G Q
  | .bl false, G => wS cf wf t ρ G Q
  | _, _ => False
def forQ (cf : CF) (wf : Nat) (k : IK) (b t : E) (s : Iv.St) (ρ : En) (Q : Res → En → List C → Prop) : D → List C → Prop := fun x G1 => ∃ y G2 its, evE cf b ρ G1 = some (y, G2) ∧ itemsOf k x y G2 = some its ∧ wLp (stF cf wf t s) its ρ G2 Q
def stepK (J : En → List C → Prop) (Q : Res → En → List C → Prop) : Res → En → List C → Prop
  | .nx, ρ, G => J ρ G
  | .ct, ρ, G => J ρ G
  | .bk, ρ, G => Q .nx ρ G
  | .ret d, ρ, G => Q (.ret d) ρ G
def retK (P : D → List C → Prop) : Res → En → List C → Prop
  | .ret d, _, G => P d G
  | .nx, _, G => P .non G
  | _, _, _ => False
abbrev Goal (cf : CF) (e : E) (ρ : En) (G : List C) (R : D → List C → Prop) : Prop := ∀ K : D → List C → Prop, (∀ d G, R d G → K d G) → ∃ d G', evE cf e ρ G = some (d, G') ∧ K d G'
theorem wS_seq {s t : Iv.St} (h : wS cf wf s ρ G (seqK cf wf t Q)) : wS cf wf (.seq s t) ρ G Q := by
  obtain ⟨r, ρ', G', e, h⟩ := h
  cases r with
  | nx =>
    obtain ⟨r2, ρ2, G2, e2, h2⟩ := h
    exact ⟨r2, ρ2, G2, by rw [es_seq, e]; exact e2, h2⟩
  | bk => exact ⟨_, _, _, by rw [es_seq, e], h⟩
  | ct => exact ⟨_, _, _, by rw [es_seq, e], h⟩
  | ret d => exact ⟨_, _, _, by rw [es_seq, e], h⟩
theorem seqK_nx {t : Iv.St} (h : wS cf wf t ρ G Q) : seqK cf wf t Q .nx ρ G := h
theorem seqK_ret {t : Iv.St} {d : D} (h : Q (.ret d) ρ G) : seqK cf wf t Q (.ret d) ρ G := h
theorem seqK_bk {t : Iv.St} (h : Q .bk ρ G) : seqK cf wf t Q .bk ρ G := h
theorem seqK_ct {t : Iv.St} (h : Q .ct ρ G) : seqK cf wf t Q .ct ρ G := h
theorem retK_ret {P : D → List C → Prop} {d : D} (h : P d G) : retK P (.ret d) ρ G := h
theorem retK_nx {P : D → List C → Prop} (h : P .non G) : retK P .nx ρ G := h
theorem stepK_nx {J : En → List C → Prop} (h : J ρ G) : stepK J Q .nx ρ G := h
theorem stepK_ret {J : En → List C → Prop} {d : D} (h : Q (.ret d) ρ G) : stepK J Q (.ret d) ρ G := h
theorem wS_skip (h : Q .nx ρ G) : wS cf wf .skip ρ G Q := ⟨_, _, _, es_skip, h⟩
theorem wS_brk (h : Q .bk ρ G) : wS cf wf .brk ρ G Q := ⟨_, _, _, es_brk, h⟩
theorem wS_cnt (h : Q .ct ρ G) : wS cf wf .cnt ρ G Q := ⟨_, _, _, es_cnt, h⟩
theorem wS_asg {t e : E} (h : Goal cf e ρ G (asgK cf t ρ Q)) : wS cf wf (.asg t e) ρ G Q := by
  obtain ⟨d, G1, e1, ρ2, G2, e2, h2⟩ := h _ fun _ _ z => z
  exact ⟨_, _, _, by rw [es_asg, e1]; dsimp only; rw [e2], h2⟩
theorem asgK_var {i : Nat} {d : D} {ρ2 : En} (e : ρ.set i (some d) = ρ2) (h : Q .nx ρ2 G) : asgK cf (.var i) ρ Q d G := ⟨_, _, rfl, by rw [e]; exact h⟩
theorem asgK_of {t : E} {d : D} {ρ2 : En} {G2 : List C} (e : asgD cf t d ρ G = some (ρ2, G2)) (h : Q .nx ρ2 G2) : asgK cf t ρ Q d G := ⟨_, _, e, h⟩
theorem wS_ex {e : E} (h : Goal cf e ρ G (fun _ G1 => Q .nx ρ G1)) : wS cf wf (.ex e) ρ G Q := by
  obtain ⟨d, G1, e1, h2⟩ := h _ fun _ _ z => z
  exact ⟨_, _, _, by rw [es_ex, e1], h2⟩
theorem wS_ret {e : E} (h : Goal cf e ρ G (fun d G1 => Q (.ret d) ρ G1)) : wS cf wf (.ret e) ρ G Q := by
  obtain ⟨d, G1, e1, h2⟩ := h _ fun _ _ z => z
  exact ⟨_, _, _, by rw [es_ret, e1], h2⟩
theorem wS_ifs {c : E} {s t : Iv.St} (h : Goal cf c ρ G (ifK cf wf s t ρ Q)) : wS cf wf (.ifs c s t) ρ G Q := by
  obtain ⟨d, G1, e1, h2⟩ := h _ fun _ _ z => z
  cases d with
  | bl b =>
    cases b
    · obtain ⟨r, ρ', G', e2, h3⟩ : wS cf wf t ρ G1 Q := h2
      refine ⟨r, ρ', G', ?_, h3⟩
      rw [es_ifs, e1]
      exact e2
    · obtain ⟨r, ρ', G', e2, h3⟩ : wS cf wf s ρ G1 Q := h2
      refine ⟨r, ρ', G', ?_, h3⟩
      rw [es_ifs, e1]
      exact e2
  | _ => exact h2.elim
theorem ifK_true {s t : Iv.St} (h : wS cf wf s ρ G Q) : ifK cf wf s t ρ Q (.bl true) G := h
theorem ifK_false {s t : Iv.St} (h : wS cf wf t ρ G Q) : ifK cf wf s t ρ Q (.bl false) G := h
theorem ifK_bl {s t : Iv.St} {b : Bool} (h1 : b = true → wS cf wf s ρ G Q) (h2 : b = false → wS cf wf t ρ G Q) : ifK cf wf s t ρ Q (.bl b) G := by
  cases b
  · exact h2 rfl
  · exact h1 rfl
theorem wS_par {is : List Nat} {es : E} {ds : List D} {G1 : List C} {ρ1 : En} (h : evL cf es ρ G = some (ds, G1)) (h1 : setMany is ds ρ = some ρ1) (h2 : Q .nx ρ1 G1) : wS cf wf (.par is es) ρ G Q :=
  ⟨_, _, _, by rw [es_par, h]; dsimp only; rw [h1], h2⟩
def parK (is : List Nat) (ρ : En) (Q : Res → En → List C → Prop) : List D → List C → Prop := fun ds G => ∃ ρ1, setMany is ds ρ = some ρ1 ∧ Q .nx ρ1 G
theorem wS_parK {is : List Nat} {es : E} (h : ∀ K : List D → List C → Prop, (∀ ds G, parK is ρ Q ds G → K ds G) → ∃ ds G', evL cf es ρ G = some (ds, G') ∧ K ds G') : wS cf wf (.par is es) ρ G Q := by
  obtain ⟨ds, G1, e1, ρ1, e2, h2⟩ := h _ fun _ _ z => z
  exact wS_par e1 e2 h2
theorem parK_of {is : List Nat} {ds : List D} {ρ1 : En} (e : setMany is ds ρ = some ρ1) (h : Q .nx ρ1 G) : parK is ρ Q ds G := ⟨_, e, h⟩
theorem wS_fors {k : IK} {a b t : E} {s : Iv.St} (h : Goal cf a ρ G (forQ cf wf k b t s ρ Q)) : wS cf wf (.fors k a b t s) ρ G Q := by
  obtain ⟨x, G1, e1, y, G2, its, e2, e3, r, ρ', G', e4, h4⟩ := h _ fun _ _ z => z
  refine ⟨r, ρ', G', ?_, h4⟩
  simp only [ev_fors, e1, e2, e3, forK_some, e4]
theorem es_aug_add {i : Nat} {e : E} {x y : Int} {G1 : List C} (h : ρ[i]? = some (some (.int x))) (h1 : evE cf e ρ G = some (.int y, G1)) (h2 : Q .nx (ρ.set i (some (.int (x + y)))) G1) : wS cf wf (.aug i .add e) ρ G Q :=
  ⟨_, _, _, by rw [es_aug, h]; dsimp only; rw [h1], h2⟩
theorem forQ_nil {k : IK} {t : E} {s : Iv.St} {x : D} {its : List D} (e : itemsOf k x (.bl true) G = some its) (h : wLp (stF cf wf t s) its ρ G Q) : forQ cf wf k .nil t s ρ Q x G := ⟨_, _, _, ev_nil, e, h⟩
theorem wLp_run {α : Type} {g : α → D} {t : E} {s : Iv.St} {xs : List α} (I : List α → En → List C → Prop) (h0 : I [] ρ G)
    (hs : ∀ dn x rest, xs = dn ++ x :: rest → ∀ ρ G, I dn ρ G → ∃ ρ1, bindV t (g x) ρ = some ρ1 ∧ wS cf wf s ρ1 G (stepK (I (dn ++ [x])) Q)) (hq : ∀ ρ G, I xs ρ G → Q .nx ρ G) : wLp (stF cf wf t s) (xs.map g) ρ G Q := by
  suffices H : ∀ rest dn ρ G, xs = dn ++ rest → I dn ρ G → wLp (stF cf wf t s) (rest.map g) ρ G Q from H xs [] ρ G rfl h0
  intro rest
  induction rest with
  | nil =>
    intro dn ρ G e hI
    rw [List.append_nil] at e
    subst e
    exact ⟨_, _, _, rfl, hq _ _ hI⟩
  | cons x rest ih =>
    intro dn ρ G e hI
    obtain ⟨ρ1, e1, r, ρ2, G2, e2, h2⟩ := hs dn x rest e ρ G hI
    have st : stF cf wf t s (g x) ρ G = some (r, ρ2, G2) := by
      unfold stF
      rw [e1]
      exact e2
    have go : I (dn ++ [x]) ρ2 G2 → ∃ r ρ' G', loopS (stF cf wf t s) (rest.map g) ρ2 G2 = some (r, ρ', G') ∧ Q r ρ' G' := fun h => ih (dn ++ [x]) ρ2 G2 (by rw [e, List.append_assoc]; rfl) h
    cases r with
    | nx =>
      obtain ⟨r, ρ', G', e3, h3⟩ := go h2
      exact ⟨r, ρ', G', by rw [List.map_cons, loopS, st]; exact e3, h3⟩
    | ct =>
      obtain ⟨r, ρ', G', e3, h3⟩ := go h2
      exact ⟨r, ρ', G', by rw [List.map_cons, loopS, st]; exact e3, h3⟩
    | bk => exact ⟨_, _, _, by rw [List.map_cons, loopS, st], h2⟩
    | ret d => exact ⟨_, _, _, by rw [List.map_cons, loopS, st], h2⟩
theorem rv_of {P : D → List C → Prop} {s : Iv.St} (h : wS cf wf s ρ G (retK P)) : ∃ d G1, rv (evS cf wf s ρ G) = some (d, G1) ∧ P d G1 := by
  obtain ⟨r, ρ', G', e, h⟩ := h
  cases r with
  | nx => exact ⟨_, _, by rw [e]; rfl, h⟩
  | ret d => exact ⟨_, _, by rw [e]; rfl, h⟩
  | bk => exact h.elim
  | ct => exact h.elim
end
section
variable {PT : List FD} {wf : Nat}
theorem Con.ofW {F : FD} {k : Nat} {f : Str} {ds : List D} {d : D} (hF : findF PT f = some F) (hf : (F.raw, F.ini, F.rc) = (false, false, false)) (hc : D.cleans 0 ds = true) (hd : D.clean 0 d = true) (hl : ds.length = F.ps.length)
    (h : ∀ m, k ≤ m → wS (cfOf PT wf m) wf F.body (en0 F ds) [] (retK fun d0 G1 => frzI (frz G1 0 none G1.length) d0 = some d)) : Con PT wf (k + 1) f ds d :=
  Con.of hF hf hc hd hl fun m hm => by
    obtain ⟨d0, G1, e, h1⟩ := rv_of (h m hm)
    exact ⟨G1, d0, e, h1⟩
/-- what comes is such -/
def ConP (PT : List FD) (wf k : Nat) (f : Str) (ds : List D) (P : D → Prop) : Prop := ∀ m, k ≤ m → ∃ d, P d ∧ ∀ G, cfOf PT wf m false f ds G = some (d, G)
theorem ConP.ofW {F : FD} {k : Nat} {f : Str} {ds : List D} {P : D → Prop} (hF : findF PT f = some F) (hf : (F.raw, F.ini, F.rc) = (false, false, false)) (hc : D.cleans 0 ds = true) (hl : ds.length = F.ps.length)
    (h : ∀ m, k ≤ m → wS (cfOf PT wf m) wf F.body (en0 F ds) [] (retK fun d0 G1 => ∃ d, P d ∧ D.clean 0 d = true ∧ frzI (frz G1 0 none G1.length) d0 = some d)) : ConP PT wf (k + 1) f ds P := by
  simp only [Prod.mk.injEq] at hf
  obtain ⟨h1, h2, h3⟩ := hf
  intro m hm
  obtain ⟨m, rfl⟩ : ∃ m', m = m' + 1 := ⟨m - 1, by omega⟩
  obtain ⟨d0, G1, e, d, hp, hd, hz⟩ := rv_of (h m (by omega))
  refine ⟨d, hp, fun G => ?_⟩
  unfold cfOf
  rw [hF]
  simp only [h2, Bool.false_eq_true, if_false]
  unfold viewC
  simp only [h1, Bool.false_eq_true, if_false, hc, if_true]
  have : call PT wf (m + 1) f ds [] = some (d, []) := by
    rw [call_succ, hF]
    show runF _ wf F ds [] = _
    rw [runF_rv hl e]
    show Iv.finish F 0 d0 G1 = _
    unfold Iv.finish
    simp only [h1, h3, Bool.false_eq_true, if_false, List.take_zero, List.all_nil, if_true, hz]
  rw [this]
  simp only [hd, if_true]
theorem fz0 {d : D} (hd : D.clean 0 d = true) : frzI (frz [] 0 none 0) d = some d := frzI_clean (fun n hn => absurd hn (Nat.not_lt_zero n)) hd
/-- where the jar lies first in the cells behind -/
def drK (P : D → Prop) (d0 : D) (G1 : List C) : Prop := ∃ (d : D) (j' : J) (G2 : List C), G1 = j'.C :: G2 ∧ j'.Ok ∧ P d ∧ D.clean 0 d = true ∧ frzI (frz (j'.C :: G2) 1 none (G2.length + 1)) d0 = some d
theorem drK_of {P : D → Prop} {d : D} {j : J} {G2 : List C} (hj : j.Ok) (hp : P d) (hd : D.clean 0 d = true) : drK P d (j.C :: G2) := ⟨d, j, G2, rfl, hj, hp, hd, frzI_clean (k := 1) (fun n hn => frz_lt _ _ _ _ _ hn) (clean_mono (Nat.zero_le 1) hd)⟩
theorem Dr.ofW {F : FD} {k : Nat} {f : Str} {ds : List D} {P : D → Prop} (hF : findF PT f = some F) (hf : (F.raw, F.ini, F.rc) = (false, false, false)) (hc : D.cleans 0 ds = true) (hl : ds.length + 1 = F.ps.length)
    (h : ∀ m, k ≤ m → ∀ j : J, j.Ok → wS (cfOf PT wf m) wf F.body (en0 F (.cell 0 :: ds)) [j.C] (retK (drK P))) : Dr PT wf (k + 1) f ds P :=
  Dr.of hF hf hc hl fun m hm j hj => by
    obtain ⟨d0, G1, e, d, j', G2, rfl, hj', hp, hd, h1⟩ := rv_of (h m hm j hj)
    exact ⟨d0, d, j', G2, hj', hp, hd, e, h1⟩
theorem Dr.gen {k m n : Nat} {f : Str} {ds : List D} {P : D → Prop} {j : J} {G : List C} {z : Option (D × List C)} (h : Dr PT wf k f ds P) (hm : k ≤ m) (hj : j.Ok) (hG : G[n]? = some j.C) (hz : cfOf PT wf m false f (.cell n :: ds) G = z) : ∃ (d : D) (j' : J), j'.Ok ∧ P d ∧ z = some (d, G.set n j'.C) := by
  obtain ⟨d, j', h1, h2, h3⟩ := h m hm j hj n G hG
  exact ⟨d, j', h1, h2, hz ▸ h3⟩
end
end Ct

set_option Elab.async false
set_option linter.all false
set_option maxRecDepth 100000
set_option maxHeartbeats 0
namespace Pt
open PySem PySem.Spec PyProof.Rows L2 Iv
def F_Sheet : FD := { name := "Sheet", ps := ["self", "kinds"], N := ["self", "kinds"], body := .seq (.asg (.attr (.var 0) "sorts") (.var 1)) (.seq (.asg (.attr (.var 0) "grids") (.dK0 true)) (.seq (.asg (.attr (.var 0) "rows") (.dK0 true)) (.skip))), raw := true, ini := true }
def F_is_tag : FD := { name := "is_tag", ps := ["value"], N := ["value", "sign"], body := .seq (.ifs (.or (.not (.isi (.var 0) "str")) (.or (.not (.chain .le .le (.int 1) (.bi .len false (.cons (.var 0) (.nil))) (.gl "MOST_SIGNS" (.int 8)))) (.cmp .eq (.var 0) (.gl "BAD" (.str "error"))))) (.seq (.ret (.bl false)) (.skip)) (.skip)) (.seq (.ret (.bi .all false (.cons (.comp false [("sign", 1)] .plain (.var 0) (.nil) (.var 1) (.bl true) (.cmp .inn (.var 1) (.gl "SIGNS" (.str "abcdefghijklmnopqrstuvwxyz")))) (.nil)))) (.skip)) }
def F_is_cell : FD := { name := "is_cell", ps := ["kinds", "word"], N := ["kinds", "word"], body := .seq (.ret (.or (.cmp .eq (.var 1) (.gl "REFUSED" (.str "-"))) (.or (.cmp .inn (.var 1) (.var 0)) (.and (.meth .endswith false (.var 1) (.cons (.gl "LOSS" (.str "!")) (.nil))) (.cmp .inn (.slice false (.var 1) (.nil) (.neg (.int 1))) (.var 0)))))) (.skip) }
def F_read_cells : FD := { name := "read_cells", ps := ["kinds", "words"], N := ["kinds", "words", "word"], body := .seq (.ifs (.or (.cmp .ne (.bi .len false (.cons (.var 1) (.nil))) (.bi .len false (.cons (.var 0) (.nil)))) (.not (.bi .all false (.cons (.comp false [("word", 2)] .plain (.var 1) (.nil) (.var 2) (.bl true) (.call "is_cell" (.cons (.var 0) (.cons (.var 2) (.nil))))) (.nil))))) (.seq (.ret (.non)) (.skip)) (.skip)) (.seq (.ret (.dictZ false (.var 0) (.var 1))) (.skip)) }
def F_read_grid : FD := { name := "read_grid", ps := ["kinds", "lines"], N := ["kinds", "lines", "found", "left", "line", "cells", "right"], body := .seq (.asg (.var 2) (.dT0 true)) (.seq (.fors .zip (.var 0) (.var 1) (.tup (.cons (.var 3) (.cons (.var 4) (.nil)))) (.seq (.asg (.var 5) (.call "read_cells" (.cons (.var 0) (.cons (.meth .split false (.var 4) (.cons (.str " ") (.nil))) (.nil))))) (.seq (.ifs (.cmp .isn (.var 5) (.non)) (.seq (.ret (.non)) (.skip)) (.skip)) (.seq (.fors .plain (.var 0) (.nil) (.var 6) (.seq (.asg (.idx (.var 2) (.tup (.cons (.var 3) (.cons (.var 6) (.nil))))) (.idx (.var 5) (.var 6))) (.skip))) (.skip))))) (.seq (.ret (.ite (.cmp .eq (.bi .len false (.cons (.var 2) (.nil))) (.bin .pow false (.bi .len false (.cons (.var 0) (.nil))) (.int 2))) (.var 2) (.non))) (.skip))) }
def F_fill_grids : FD := { name := "fill_grids", ps := ["sheet", "lines"], N := ["sheet", "lines", "size", "turn", "words", "grid"], body := .seq (.asg (.var 2) (.bin .add false (.bi .len false (.cons (.attr (.var 0) "sorts") (.nil))) (.int 1))) (.seq (.fors .range1 (.bin .add false (.gl "MOST_OPERATORS" (.int 3)) (.int 1)) (.nil) (.var 3) (.seq (.asg (.var 4) (.ite (.cmp .gt (.bi .len false (.cons (.var 1) (.nil))) (.int 0)) (.meth .split false (.idx (.var 1) (.int 0)) (.cons (.str " ") (.nil))) (.lst false (.nil)))) (.seq (.ifs (.or (.cmp .ne (.bi .len false (.cons (.var 4) (.nil))) (.int 2)) (.cmp .ne (.idx (.var 4) (.int 0)) (.str "op"))) (.seq (.ret (.var 1)) (.skip)) (.skip)) (.seq (.asg (.var 5) (.call "read_grid" (.cons (.attr (.var 0) "sorts") (.cons (.slice false (.var 1) (.int 1) (.var 2)) (.nil))))) (.seq (.ifs (.or (.cmp .isn (.var 5) (.non)) (.or (.cmp .inn (.idx (.var 4) (.int 1)) (.attr (.var 0) "grids")) (.cmp .lt (.bi .len false (.cons (.var 1) (.nil))) (.var 2)))) (.seq (.ret (.non)) (.skip)) (.skip)) (.seq (.asg (.idx (.attr (.var 0) "grids") (.idx (.var 4) (.int 1))) (.var 5)) (.seq (.asg (.var 1) (.slice false (.var 1) (.var 2) (.nil))) (.skip)))))))) (.seq (.ret (.var 1)) (.skip))), raw := true }
def F_fill_rows : FD := { name := "fill_rows", ps := ["sheet", "lines"], N := ["sheet", "lines", "line", "words", "cells"], body := .seq (.fors .plain (.var 1) (.nil) (.var 2) (.seq (.asg (.var 3) (.meth .split false (.var 2) (.cons (.str " ") (.nil)))) (.seq (.asg (.var 4) (.call "read_cells" (.cons (.attr (.var 0) "sorts") (.cons (.slice false (.var 3) (.int 2) (.nil)) (.nil))))) (.seq (.ifs (.or (.cmp .lt (.bi .len false (.cons (.var 3) (.nil))) (.int 3)) (.or (.cmp .ne (.idx (.var 3) (.int 0)) (.str "cast")) (.or (.cmp .isn (.var 4) (.non)) (.cmp .inn (.idx (.var 3) (.int 1)) (.attr (.var 0) "rows"))))) (.seq (.ret (.bl false)) (.skip)) (.skip)) (.seq (.asg (.idx (.attr (.var 0) "rows") (.idx (.var 3) (.int 1))) (.var 4)) (.skip)))))) (.seq (.ret (.bl true)) (.skip)), raw := true }
def F_has_fine_names : FD := { name := "has_fine_names", ps := ["sheet"], N := ["sheet", "names", "name"], body := .seq (.asg (.var 1) (.lst false (.star (.attr (.var 0) "sorts") (.star (.attr (.var 0) "grids") (.star (.attr (.var 0) "rows") (.nil)))))) (.seq (.ifs (.or (.not (.chain .le .le (.int 1) (.bi .len false (.cons (.attr (.var 0) "sorts") (.nil))) (.gl "MOST_KINDS" (.int 8)))) (.not (.chain .le .le (.int 1) (.bi .len false (.cons (.attr (.var 0) "grids") (.nil))) (.gl "MOST_OPERATORS" (.int 3))))) (.seq (.ret (.bl false)) (.skip)) (.skip)) (.seq (.ret (.and (.cmp .le (.bi .len false (.cons (.attr (.var 0) "rows") (.nil))) (.gl "MOST_CASTS" (.int 4))) (.and (.bi .all false (.cons (.comp false [("name", 2)] .plain (.var 1) (.nil) (.var 2) (.bl true) (.call "is_tag" (.cons (.var 2) (.nil)))) (.nil))) (.cmp .eq (.lenSet (.var 1)) (.bi .len false (.cons (.var 1) (.nil))))))) (.skip))), raw := true }
def F_read_sheet : FD := { name := "read_sheet", ps := ["text"], N := ["text", "lines", "words", "sheet", "rest"], body := .seq (.asg (.var 1) (.ite (.isi (.var 0) "str") (.meth .split false (.var 0) (.cons (.str "\n") (.nil))) (.lst false (.cons (.str "") (.nil))))) (.seq (.asg (.var 2) (.meth .split false (.idx (.var 1) (.int 0)) (.cons (.str " ") (.nil)))) (.seq (.ifs (.or (.cmp .ne (.idx (.var 2) (.int 0)) (.str "kinds")) (.or (.cmp .lt (.bi .len false (.cons (.var 2) (.nil))) (.int 2)) (.cmp .lt (.lenSet (.slice false (.var 2) (.int 1) (.nil))) (.bin .sub false (.bi .len false (.cons (.var 2) (.nil))) (.int 1))))) (.seq (.ret (.non)) (.skip)) (.skip)) (.seq (.asg (.var 3) (.new "Sheet" (.cons (.bi .tuple false (.cons (.slice false (.var 2) (.int 1) (.nil)) (.nil))) (.nil)))) (.seq (.asg (.var 4) (.call "fill_grids" (.cons (.var 3) (.cons (.slice false (.var 1) (.int 1) (.nil)) (.nil))))) (.seq (.ifs (.or (.cmp .isn (.var 4) (.non)) (.or (.not (.call "fill_rows" (.cons (.var 3) (.cons (.var 4) (.nil))))) (.not (.call "has_fine_names" (.cons (.var 3) (.nil)))))) (.seq (.ret (.non)) (.skip)) (.skip)) (.seq (.ret (.var 3)) (.skip))))))) }
def F_outcomes_of : FD := { name := "outcomes_of", ps := ["sheet"], N := ["sheet", "found", "kind"], body := .seq (.asg (.var 1) (.lst false (.nil))) (.seq (.fors .plain (.attr (.var 0) "sorts") (.nil) (.var 2) (.seq (.asg (.var 1) (.lst false (.star (.var 1) (.cons (.var 2) (.cons (.bin .add false (.var 2) (.gl "LOSS" (.str "!"))) (.nil)))))) (.skip))) (.seq (.ret (.tup (.star (.var 1) (.cons (.gl "BAD" (.str "error")) (.nil))))) (.skip))) }
def F_word_at : FD := { name := "word_at", ps := ["text", "at"], N := ["text", "at", "end"], body := .seq (.asg (.var 2) (.var 1)) (.seq (.whl (.and (.cmp .lt (.var 2) (.bi .len false (.cons (.var 0) (.nil)))) (.cmp .inn (.idx (.var 0) (.var 2)) (.gl "SIGNS" (.str "abcdefghijklmnopqrstuvwxyz")))) (.seq (.aug 2 .add (.int 1)) (.skip))) (.seq (.ret (.slice false (.var 0) (.var 1) (.var 2))) (.skip))) }
def F_part_at : FD := { name := "part_at", ps := ["sheet", "text", "at", "leaves"], N := ["sheet", "text", "at", "leaves", "word", "end", "inner"], body := .seq (.ifs (.cmp .eq (.slice false (.var 1) (.var 2) (.bin .add false (.var 2) (.int 1))) (.str "(")) (.seq (.ret (.call "pair_at" (.cons (.var 0) (.cons (.var 1) (.cons (.var 2) (.cons (.var 3) (.nil))))))) (.skip)) (.skip)) (.seq (.ifs (.and (.cmp .inn (.slice false (.var 1) (.var 2) (.bin .add false (.var 2) (.int 1))) (.var 3)) (.cmp .nin (.slice false (.var 1) (.var 2) (.bin .add false (.var 2) (.int 1))) (.gl "SIGNS" (.str "abcdefghijklmnopqrstuvwxyz")))) (.seq (.ret (.tup (.cons (.tup (.cons (.idx (.var 1) (.var 2)) (.nil))) (.cons (.bin .add false (.var 2) (.int 1)) (.nil))))) (.skip)) (.skip)) (.seq (.asg (.var 4) (.call "word_at" (.cons (.var 1) (.cons (.var 2) (.nil))))) (.seq (.asg (.var 5) (.bin .add false (.var 2) (.bi .len false (.cons (.var 4) (.nil))))) (.seq (.ifs (.cmp .ne (.slice false (.var 1) (.var 5) (.bin .add false (.var 5) (.int 1))) (.str "(")) (.seq (.ret (.ite (.cmp .inn (.var 4) (.var 3)) (.tup (.cons (.tup (.cons (.var 4) (.nil))) (.cons (.var 5) (.nil)))) (.non))) (.skip)) (.skip)) (.seq (.asg (.var 6) (.ite (.cmp .inn (.var 4) (.attr (.var 0) "rows")) (.call "part_at" (.cons (.var 0) (.cons (.var 1) (.cons (.bin .add false (.var 5) (.int 1)) (.cons (.var 3) (.nil)))))) (.non))) (.seq (.ifs (.or (.cmp .isn (.var 6) (.non)) (.cmp .ne (.slice false (.var 1) (.idx (.var 6) (.int 1)) (.bin .add false (.idx (.var 6) (.int 1)) (.int 1))) (.str ")"))) (.seq (.ret (.non)) (.skip)) (.skip)) (.seq (.ret (.tup (.cons (.tup (.cons (.var 4) (.cons (.idx (.var 6) (.int 0)) (.nil)))) (.cons (.bin .add false (.idx (.var 6) (.int 1)) (.int 1)) (.nil))))) (.skip)))))))) }
def F_pair_at : FD := { name := "pair_at", ps := ["sheet", "text", "at", "leaves"], N := ["sheet", "text", "at", "leaves", "one", "word", "end", "other"], body := .seq (.asg (.var 4) (.call "part_at" (.cons (.var 0) (.cons (.var 1) (.cons (.bin .add false (.var 2) (.int 1)) (.cons (.var 3) (.nil))))))) (.seq (.ifs (.or (.cmp .isn (.var 4) (.non)) (.cmp .ne (.slice false (.var 1) (.idx (.var 4) (.int 1)) (.bin .add false (.idx (.var 4) (.int 1)) (.int 1))) (.str " "))) (.seq (.ret (.non)) (.skip)) (.skip)) (.seq (.asg (.var 5) (.call "word_at" (.cons (.var 1) (.cons (.bin .add false (.idx (.var 4) (.int 1)) (.int 1)) (.nil))))) (.seq (.asg (.var 6) (.bin .add false (.bin .add false (.idx (.var 4) (.int 1)) (.int 1)) (.bi .len false (.cons (.var 5) (.nil))))) (.seq (.ifs (.or (.cmp .nin (.var 5) (.attr (.var 0) "grids")) (.cmp .ne (.slice false (.var 1) (.var 6) (.bin .add false (.var 6) (.int 1))) (.str " "))) (.seq (.ret (.non)) (.skip)) (.skip)) (.seq (.asg (.var 7) (.call "part_at" (.cons (.var 0) (.cons (.var 1) (.cons (.bin .add false (.var 6) (.int 1)) (.cons (.var 3) (.nil))))))) (.seq (.ifs (.or (.cmp .isn (.var 7) (.non)) (.cmp .ne (.slice false (.var 1) (.idx (.var 7) (.int 1)) (.bin .add false (.idx (.var 7) (.int 1)) (.int 1))) (.str ")"))) (.seq (.ret (.non)) (.skip)) (.skip)) (.seq (.ret (.tup (.cons (.tup (.cons (.var 5) (.cons (.idx (.var 4) (.int 0)) (.cons (.idx (.var 7) (.int 0)) (.nil))))) (.cons (.bin .add false (.idx (.var 7) (.int 1)) (.int 1)) (.nil))))) (.skip)))))))) }
def F_read_part : FD := { name := "read_part", ps := ["sheet", "text", "leaves"], N := ["sheet", "text", "leaves", "found"], body := .seq (.ifs (.or (.not (.isi (.var 1) "str")) (.cmp .eq (.var 1) (.str ""))) (.seq (.ret (.non)) (.skip)) (.skip)) (.seq (.asg (.var 3) (.call "part_at" (.cons (.var 0) (.cons (.var 1) (.cons (.int 0) (.cons (.var 2) (.nil))))))) (.seq (.ret (.ite (.and (.cmp .notn (.var 3) (.non)) (.cmp .eq (.idx (.var 3) (.int 1)) (.bi .len false (.cons (.var 1) (.nil))))) (.idx (.var 3) (.int 0)) (.non))) (.skip))) }
def F_leaves_in : FD := { name := "leaves_in", ps := ["part"], N := ["part", "found", "inner"], body := .seq (.ifs (.cmp .eq (.bi .len false (.cons (.var 0) (.nil))) (.int 1)) (.seq (.ret (.tup (.cons (.idx (.var 0) (.int 0)) (.nil)))) (.skip)) (.skip)) (.seq (.asg (.var 1) (.tup (.nil))) (.seq (.fors .plain (.slice false (.var 0) (.int 1) (.nil)) (.nil) (.var 2) (.seq (.asg (.var 1) (.bin .add false (.var 1) (.call "leaves_in" (.cons (.var 2) (.nil))))) (.skip))) (.seq (.ret (.var 1)) (.skip)))) }
def F_is_by : FD := { name := "is_by", ps := ["part", "op"], N := ["part", "op"], body := .seq (.ret (.or (.cmp .eq (.bi .len false (.cons (.var 0) (.nil))) (.int 1)) (.and (.cmp .eq (.bi .len false (.cons (.var 0) (.nil))) (.int 3)) (.and (.cmp .eq (.idx (.var 0) (.int 0)) (.var 1)) (.and (.call "is_by" (.cons (.idx (.var 0) (.int 1)) (.cons (.var 1) (.nil)))) (.call "is_by" (.cons (.idx (.var 0) (.int 2)) (.cons (.var 1) (.nil))))))))) (.skip) }
def F_kind_of : FD := { name := "kind_of", ps := ["outcome"], N := ["outcome"], body := .seq (.ret (.ite (.meth .endswith false (.var 0) (.cons (.gl "LOSS" (.str "!")) (.nil))) (.slice false (.var 0) (.nil) (.neg (.int 1))) (.var 0))) (.skip) }
def F_marked_by : FD := { name := "marked_by", ps := ["entry", "lost"], N := ["entry", "lost"], body := .seq (.ifs (.cmp .eq (.var 0) (.gl "REFUSED" (.str "-"))) (.seq (.ret (.gl "BAD" (.str "error"))) (.skip)) (.skip)) (.seq (.ret (.ite (.or (.var 1) (.meth .endswith false (.var 0) (.cons (.gl "LOSS" (.str "!")) (.nil)))) (.bin .add false (.call "kind_of" (.cons (.var 0) (.nil))) (.gl "LOSS" (.str "!"))) (.var 0))) (.skip)) }
def F_joined : FD := { name := "joined", ps := ["sheet", "op", "one", "other"], N := ["sheet", "op", "one", "other"], body := .seq (.ifs (.cmp .inn (.gl "BAD" (.str "error")) (.tup (.cons (.var 2) (.cons (.var 3) (.nil))))) (.seq (.ret (.gl "BAD" (.str "error"))) (.skip)) (.skip)) (.seq (.ret (.call "marked_by" (.cons (.idx (.idx (.attr (.var 0) "grids") (.var 1)) (.tup (.cons (.call "kind_of" (.cons (.var 2) (.nil))) (.cons (.call "kind_of" (.cons (.var 3) (.nil))) (.nil))))) (.cons (.or (.meth .endswith false (.var 2) (.cons (.gl "LOSS" (.str "!")) (.nil))) (.meth .endswith false (.var 3) (.cons (.gl "LOSS" (.str "!")) (.nil)))) (.nil))))) (.skip)) }
def F_turned : FD := { name := "turned", ps := ["sheet", "cast", "one"], N := ["sheet", "cast", "one"], body := .seq (.ret (.ite (.cmp .eq (.var 2) (.gl "BAD" (.str "error"))) (.gl "BAD" (.str "error")) (.call "marked_by" (.cons (.idx (.idx (.attr (.var 0) "rows") (.var 1)) (.call "kind_of" (.cons (.var 2) (.nil)))) (.cons (.meth .endswith false (.var 2) (.cons (.gl "LOSS" (.str "!")) (.nil))) (.nil)))))) (.skip) }
def F_reckoned : FD := { name := "reckoned", ps := ["sheet", "part", "values"], N := ["sheet", "part", "values"], body := .seq (.ifs (.cmp .eq (.bi .len false (.cons (.var 1) (.nil))) (.int 1)) (.seq (.ret (.meth .get2 false (.var 2) (.cons (.idx (.var 1) (.int 0)) (.cons (.idx (.var 1) (.int 0)) (.nil))))) (.skip)) (.skip)) (.seq (.ifs (.cmp .eq (.bi .len false (.cons (.var 1) (.nil))) (.int 2)) (.seq (.ret (.call "turned" (.cons (.var 0) (.cons (.idx (.var 1) (.int 0)) (.cons (.call "reckoned" (.cons (.var 0) (.cons (.idx (.var 1) (.int 1)) (.cons (.var 2) (.nil))))) (.nil)))))) (.skip)) (.skip)) (.seq (.ret (.call "joined" (.cons (.var 0) (.cons (.idx (.var 1) (.int 0)) (.cons (.call "reckoned" (.cons (.var 0) (.cons (.idx (.var 1) (.int 1)) (.cons (.var 2) (.nil))))) (.cons (.call "reckoned" (.cons (.var 0) (.cons (.idx (.var 1) (.int 2)) (.cons (.var 2) (.nil))))) (.nil))))))) (.skip))) }
def F_led : FD := { name := "led", ps := ["sheet", "lot", "operators", "casts"], N := ["sheet", "lot", "operators", "casts", "found", "op", "cast", "one", "other"], body := .seq (.asg (.var 4) (.comp2 false [("cast", 6), ("one", 7)] [7] .plain (.var 3) (.nil) (.var 6) .plain (.var 1) (.nil) (.var 7) (.call "turned" (.cons (.var 0) (.cons (.var 6) (.cons (.var 7) (.nil))))))) (.seq (.fors .plain (.var 2) (.nil) (.var 5) (.seq (.asg (.var 4) (.bin .add false (.var 4) (.comp2 false [("one", 7), ("other", 8)] [8] .plain (.var 1) (.nil) (.var 7) .plain (.var 1) (.nil) (.var 8) (.call "joined" (.cons (.var 0) (.cons (.var 5) (.cons (.var 7) (.cons (.var 8) (.nil))))))))) (.skip))) (.seq (.ret (.var 4)) (.skip))) }
def F_in_order : FD := { name := "in_order", ps := ["sheet", "outcomes"], N := ["sheet", "outcomes", "outcome"], body := .seq (.ret (.bi .tuple false (.cons (.comp false [("outcome", 2)] .plain (.call "outcomes_of" (.cons (.var 0) (.nil))) (.nil) (.var 2) (.cmp .inn (.var 2) (.var 1)) (.var 2)) (.nil)))) (.skip) }
def F_closed_lot : FD := { name := "closed_lot", ps := ["sheet", "leaves", "operators", "casts"], N := ["sheet", "leaves", "operators", "casts", "found", "turn"], body := .seq (.asg (.var 4) (.call "in_order" (.cons (.var 0) (.cons (.var 1) (.nil))))) (.seq (.fors .plain (.call "outcomes_of" (.cons (.var 0) (.nil))) (.nil) (.var 5) (.seq (.asg (.var 4) (.call "in_order" (.cons (.var 0) (.cons (.lst false (.star (.var 4) (.star (.call "led" (.cons (.var 0) (.cons (.var 4) (.cons (.var 2) (.cons (.var 3) (.nil)))))) (.nil)))) (.nil))))) (.skip))) (.seq (.ret (.var 4)) (.skip))) }
def F_folded : FD := { name := "folded", ps := ["sheet", "op", "word"], N := ["sheet", "op", "word", "found", "kind"], body := .seq (.asg (.var 3) (.idx (.var 2) (.int 0))) (.seq (.fors .plain (.slice false (.var 2) (.int 1) (.nil)) (.nil) (.var 4) (.seq (.asg (.var 3) (.call "joined" (.cons (.var 0) (.cons (.var 1) (.cons (.var 3) (.cons (.var 4) (.nil))))))) (.skip))) (.seq (.ret (.var 3)) (.skip))) }
def F_badness : FD := { name := "badness", ps := ["outcome"], N := ["outcome"], body := .seq (.ret (.ite (.cmp .eq (.var 0) (.gl "BAD" (.str "error"))) (.int 2) (.bi .int false (.cons (.meth .endswith false (.var 0) (.cons (.gl "LOSS" (.str "!")) (.nil))) (.nil))))) (.skip) }
def F_sight : FD := { name := "sight", ps := ["outcome", "marked"], N := ["outcome", "marked"], body := .seq (.ret (.tup (.cons (.call "badness" (.cons (.var 0) (.nil))) (.cons (.and (.cmp .ne (.var 0) (.gl "BAD" (.str "error"))) (.cmp .inn (.call "kind_of" (.cons (.var 0) (.nil))) (.var 1))) (.nil))))) (.skip) }
def F_marks_of : FD := { name := "marks_of", ps := ["sheet", "lots", "reached", "outcome"], N := ["sheet", "lots", "reached", "outcome", "found", "op", "cast", "other"], body := .seq (.asg (.var 4) (.comp false [("cast", 6)] .plain (.attr (.var 0) "rows") (.nil) (.var 6) (.bl true) (.idx (.var 1) (.call "turned" (.cons (.var 0) (.cons (.var 6) (.cons (.var 3) (.nil)))))))) (.seq (.fors .plain (.attr (.var 0) "grids") (.nil) (.var 5) (.seq (.asg (.var 4) (.bin .add false (.var 4) (.comp false [("other", 7)] .plain (.var 2) (.nil) (.var 7) (.bl true) (.idx (.var 1) (.call "joined" (.cons (.var 0) (.cons (.var 5) (.cons (.var 3) (.cons (.var 7) (.nil)))))))))) (.seq (.asg (.var 4) (.bin .add false (.var 4) (.comp false [("other", 7)] .plain (.var 2) (.nil) (.var 7) (.bl true) (.idx (.var 1) (.call "joined" (.cons (.var 0) (.cons (.var 5) (.cons (.var 7) (.cons (.var 3) (.nil)))))))))) (.skip)))) (.seq (.ret (.bi .tuple false (.cons (.var 4) (.nil)))) (.skip))) }
def F_is_marked : FD := { name := "is_marked", ps := ["sheet", "value"], N := ["sheet", "value", "kind"], body := .seq (.ret (.and (.isi (.var 1) "tuple") (.cmp .eq (.var 1) (.bi .tuple false (.cons (.comp false [("kind", 2)] .plain (.attr (.var 0) "sorts") (.nil) (.var 2) (.cmp .inn (.var 2) (.var 1)) (.var 2)) (.nil)))))) (.skip) }
def F_are_leaves : FD := { name := "are_leaves", ps := ["sheet", "value"], N := ["sheet", "value"], body := .seq (.ret (.and (.call "is_marked" (.cons (.var 0) (.cons (.var 1) (.nil)))) (.cmp .gt (.bi .len false (.cons (.var 1) (.nil))) (.int 0)))) (.skip) }
def F_is_outcome : FD := { name := "is_outcome", ps := ["sheet", "value"], N := ["sheet", "value"], body := .seq (.ret (.and (.isi (.var 1) "str") (.cmp .inn (.var 1) (.call "outcomes_of" (.cons (.var 0) (.nil)))))) (.skip) }
def F_is_lot : FD := { name := "is_lot", ps := ["sheet", "value"], N := ["sheet", "value", "outcome"], body := .seq (.ret (.and (.isi (.var 1) "tuple") (.cmp .eq (.var 1) (.bi .tuple false (.cons (.comp false [("outcome", 2)] .plain (.call "outcomes_of" (.cons (.var 0) (.nil))) (.nil) (.var 2) (.cmp .inn (.var 2) (.var 1)) (.var 2)) (.nil)))))) (.skip) }
def F_is_named : FD := { name := "is_named", ps := ["names", "value"], N := ["names", "value"], body := .seq (.ret (.and (.isi (.var 1) "str") (.cmp .inn (.var 1) (.var 0)))) (.skip) }
def F_is_closed : FD := { name := "is_closed", ps := ["sheet", "lot", "leaves", "operators", "casts"], N := ["sheet", "lot", "leaves", "operators", "casts", "outcome", "leaf"], body := .seq (.ifs (.or (.not (.call "is_lot" (.cons (.var 0) (.cons (.var 1) (.nil))))) (.not (.bi .all false (.cons (.comp false [("leaf", 6)] .plain (.var 2) (.nil) (.var 6) (.bl true) (.cmp .inn (.var 6) (.var 1))) (.nil))))) (.seq (.ret (.bl false)) (.skip)) (.skip)) (.seq (.ret (.bi .all false (.cons (.comp false [("outcome", 5)] .plain (.call "led" (.cons (.var 0) (.cons (.var 1) (.cons (.var 3) (.cons (.var 4) (.nil)))))) (.nil) (.var 5) (.bl true) (.cmp .inn (.var 5) (.var 1))) (.nil)))) (.skip)) }
def F_is_two : FD := { name := "is_two", ps := ["value"], N := ["value"], body := .seq (.ret (.and (.isi (.var 0) "tuple") (.cmp .eq (.bi .len false (.cons (.var 0) (.nil))) (.int 2)))) (.skip) }
def F_parts_by : FD := { name := "parts_by", ps := ["sheet", "op", "leaves", "value"], N := ["sheet", "op", "leaves", "value", "parts", "text", "part"], body := .seq (.ifs (.not (.call "is_two" (.cons (.var 3) (.nil)))) (.seq (.ret (.non)) (.skip)) (.skip)) (.seq (.asg (.var 4) (.comp false [("text", 5)] .plain (.var 3) (.nil) (.var 5) (.bl true) (.call "read_part" (.cons (.var 0) (.cons (.var 5) (.cons (.var 2) (.nil))))))) (.seq (.ret (.ite (.bi .all false (.cons (.comp false [("part", 6)] .plain (.var 4) (.nil) (.var 6) (.bl true) (.and (.cmp .notn (.var 6) (.non)) (.call "is_by" (.cons (.var 6) (.cons (.var 1) (.nil)))))) (.nil))) (.var 4) (.non))) (.skip))) }
def F_outcome_shown : FD := { name := "outcome_shown", ps := ["sheet", "rest", "paper"], N := ["sheet", "rest", "paper", "part"], body := .seq (.asg (.var 3) (.call "read_part" (.cons (.var 0) (.cons (.idx (.var 1) (.int 0)) (.cons (.attr (.var 0) "sorts") (.nil)))))) (.seq (.ret (.and (.cmp .isn (.var 2) (.non)) (.and (.cmp .notn (.var 3) (.non)) (.and (.call "is_named" (.cons (.call "outcomes_of" (.cons (.var 0) (.nil))) (.cons (.idx (.var 1) (.int 1)) (.nil)))) (.cmp .eq (.call "reckoned" (.cons (.var 0) (.cons (.var 3) (.cons (.dK0 false) (.nil))))) (.idx (.var 1) (.int 1))))))) (.skip)) }
def F_reach_shown : FD := { name := "reach_shown", ps := ["word", "sheet", "rest", "paper"], N := ["word", "sheet", "rest", "paper", "part", "leaves", "outcome"], body := .seq (.asg (.tup (.cons (.var 5) (.cons (.var 6) (.nil)))) (.var 2)) (.seq (.ifs (.or (.not (.call "are_leaves" (.cons (.var 1) (.cons (.var 5) (.nil))))) (.not (.call "is_outcome" (.cons (.var 1) (.cons (.var 6) (.nil)))))) (.seq (.ret (.bl false)) (.skip)) (.skip)) (.seq (.ifs (.cmp .eq (.var 0) (.str "never")) (.seq (.ret (.and (.call "is_closed" (.cons (.var 1) (.cons (.var 3) (.cons (.var 5) (.cons (.attr (.var 1) "grids") (.cons (.attr (.var 1) "rows") (.nil))))))) (.cmp .nin (.var 6) (.var 3)))) (.skip)) (.skip)) (.seq (.asg (.var 4) (.call "read_part" (.cons (.var 1) (.cons (.var 3) (.cons (.var 5) (.nil)))))) (.seq (.ret (.and (.cmp .notn (.var 4) (.non)) (.cmp .eq (.call "reckoned" (.cons (.var 1) (.cons (.var 4) (.cons (.dK0 false) (.nil))))) (.var 6)))) (.skip))))) }
def F_agrees : FD := { name := "agrees", ps := ["sheet", "op", "one", "other", "third"], N := ["sheet", "op", "one", "other", "third", "left"], body := .seq (.asg (.var 5) (.call "joined" (.cons (.var 0) (.cons (.var 1) (.cons (.call "joined" (.cons (.var 0) (.cons (.var 1) (.cons (.var 2) (.cons (.var 3) (.nil)))))) (.cons (.var 4) (.nil))))))) (.seq (.ret (.cmp .eq (.var 5) (.call "joined" (.cons (.var 0) (.cons (.var 1) (.cons (.var 2) (.cons (.call "joined" (.cons (.var 0) (.cons (.var 1) (.cons (.var 3) (.cons (.var 4) (.nil)))))) (.nil)))))))) (.skip)) }
def F_groups : FD := { name := "groups", ps := ["sheet", "op", "lot"], N := ["sheet", "op", "lot", "one", "other", "third"], body := .seq (.fors .plain (.var 2) (.nil) (.var 3) (.seq (.fors .plain (.var 2) (.nil) (.var 4) (.seq (.ifs (.not (.bi .all false (.cons (.comp false [("third", 5)] .plain (.var 2) (.nil) (.var 5) (.bl true) (.call "agrees" (.cons (.var 0) (.cons (.var 1) (.cons (.var 3) (.cons (.var 4) (.cons (.var 5) (.nil)))))))) (.nil)))) (.seq (.ret (.bl false)) (.skip)) (.skip)) (.skip))) (.skip))) (.seq (.ret (.bl true)) (.skip)) }
def F_swaps : FD := { name := "swaps", ps := ["sheet", "op", "lot"], N := ["sheet", "op", "lot", "one", "other"], body := .seq (.ret (.bi .all false (.cons (.comp2 false [("one", 3), ("other", 4)] [4] .plain (.var 2) (.nil) (.var 3) .plain (.var 2) (.nil) (.var 4) (.cmp .eq (.call "joined" (.cons (.var 0) (.cons (.var 1) (.cons (.var 3) (.cons (.var 4) (.nil)))))) (.call "joined" (.cons (.var 0) (.cons (.var 1) (.cons (.var 4) (.cons (.var 3) (.nil)))))))) (.nil)))) (.skip) }
def F_grouping_shown : FD := { name := "grouping_shown", ps := ["word", "sheet", "rest", "paper"], N := ["word", "sheet", "rest", "paper", "parts", "op", "leaves"], body := .seq (.asg (.tup (.cons (.var 5) (.cons (.var 6) (.nil)))) (.var 2)) (.seq (.ifs (.or (.not (.call "is_named" (.cons (.attr (.var 1) "grids") (.cons (.var 5) (.nil))))) (.not (.call "are_leaves" (.cons (.var 1) (.cons (.var 6) (.nil)))))) (.seq (.ret (.bl false)) (.skip)) (.skip)) (.seq (.ifs (.cmp .eq (.var 0) (.str "grouping")) (.seq (.ret (.and (.call "is_closed" (.cons (.var 1) (.cons (.var 3) (.cons (.var 6) (.cons (.tup (.cons (.var 5) (.nil))) (.cons (.tup (.nil)) (.nil))))))) (.call "groups" (.cons (.var 1) (.cons (.var 5) (.cons (.var 3) (.nil))))))) (.skip)) (.skip)) (.seq (.asg (.var 4) (.call "parts_by" (.cons (.var 1) (.cons (.var 5) (.cons (.var 6) (.cons (.var 3) (.nil))))))) (.seq (.ifs (.or (.cmp .isn (.var 4) (.non)) (.cmp .ne (.call "leaves_in" (.cons (.idx (.var 4) (.int 0)) (.nil))) (.call "leaves_in" (.cons (.idx (.var 4) (.int 1)) (.nil))))) (.seq (.ret (.bl false)) (.skip)) (.skip)) (.seq (.ret (.cmp .ne (.call "reckoned" (.cons (.var 1) (.cons (.idx (.var 4) (.int 0)) (.cons (.dK0 false) (.nil))))) (.call "reckoned" (.cons (.var 1) (.cons (.idx (.var 4) (.int 1)) (.cons (.dK0 false) (.nil))))))) (.skip)))))) }
def F_exchange_shown : FD := { name := "exchange_shown", ps := ["word", "sheet", "rest", "paper"], N := ["word", "sheet", "rest", "paper", "parts", "op", "leaves", "part"], body := .seq (.asg (.tup (.cons (.var 5) (.cons (.var 6) (.nil)))) (.var 2)) (.seq (.ifs (.or (.not (.call "is_named" (.cons (.attr (.var 1) "grids") (.cons (.var 5) (.nil))))) (.not (.call "are_leaves" (.cons (.var 1) (.cons (.var 6) (.nil)))))) (.seq (.ret (.bl false)) (.skip)) (.skip)) (.seq (.ifs (.cmp .eq (.var 0) (.str "exchange")) (.seq (.ret (.and (.call "is_closed" (.cons (.var 1) (.cons (.var 3) (.cons (.var 6) (.cons (.tup (.cons (.var 5) (.nil))) (.cons (.tup (.nil)) (.nil))))))) (.call "swaps" (.cons (.var 1) (.cons (.var 5) (.cons (.var 3) (.nil))))))) (.skip)) (.skip)) (.seq (.asg (.var 4) (.call "parts_by" (.cons (.var 1) (.cons (.var 5) (.cons (.var 6) (.cons (.var 3) (.nil))))))) (.seq (.ret (.and (.cmp .notn (.var 4) (.non)) (.not (.call "swaps" (.cons (.var 1) (.cons (.var 5) (.cons (.comp false [("part", 7)] .plain (.var 4) (.nil) (.var 7) (.bl true) (.call "reckoned" (.cons (.var 1) (.cons (.var 7) (.cons (.dK0 false) (.nil)))))) (.nil)))))))) (.skip))))) }
def F_turns_fold : FD := { name := "turns_fold", ps := ["sheet", "op", "start", "one", "other"], N := ["sheet", "op", "start", "one", "other", "left"], body := .seq (.asg (.var 5) (.call "joined" (.cons (.var 0) (.cons (.var 1) (.cons (.call "joined" (.cons (.var 0) (.cons (.var 1) (.cons (.var 2) (.cons (.var 3) (.nil)))))) (.cons (.var 4) (.nil))))))) (.seq (.ret (.cmp .ne (.var 5) (.call "joined" (.cons (.var 0) (.cons (.var 1) (.cons (.call "joined" (.cons (.var 0) (.cons (.var 1) (.cons (.var 2) (.cons (.var 4) (.nil)))))) (.cons (.var 3) (.nil)))))))) (.skip)) }
def F_folds_by : FD := { name := "folds_by", ps := ["sheet", "op", "leaves", "lot"], N := ["sheet", "op", "leaves", "lot", "start", "one", "other", "leaf"], body := .seq (.ifs (.or (.not (.call "is_lot" (.cons (.var 0) (.cons (.var 3) (.nil))))) (.or (.not (.bi .all false (.cons (.comp false [("leaf", 7)] .plain (.var 2) (.nil) (.var 7) (.bl true) (.cmp .inn (.var 7) (.var 3))) (.nil)))) (.not (.call "swaps" (.cons (.var 0) (.cons (.var 1) (.cons (.var 2) (.nil)))))))) (.seq (.ret (.bl false)) (.skip)) (.skip)) (.seq (.fors .plain (.var 3) (.nil) (.var 4) (.seq (.ifs (.not (.bi .all false (.cons (.comp false [("leaf", 7)] .plain (.var 2) (.nil) (.var 7) (.bl true) (.cmp .inn (.call "joined" (.cons (.var 0) (.cons (.var 1) (.cons (.var 4) (.cons (.var 7) (.nil)))))) (.var 3))) (.nil)))) (.seq (.ret (.bl false)) (.skip)) (.skip)) (.seq (.ifs (.bi .any false (.cons (.comp2 false [("one", 5), ("other", 6)] [6] .plain (.var 2) (.nil) (.var 5) .plain (.var 2) (.nil) (.var 6) (.call "turns_fold" (.cons (.var 0) (.cons (.var 1) (.cons (.var 4) (.cons (.var 5) (.cons (.var 6) (.nil)))))))) (.nil))) (.seq (.ret (.bl false)) (.skip)) (.skip)) (.skip)))) (.seq (.ret (.bl true)) (.skip))) }
def F_are_lists : FD := { name := "are_lists", ps := ["leaves", "value"], N := ["leaves", "value", "leaf", "kind", "each"], body := .seq (.ifs (.or (.not (.call "is_two" (.cons (.var 1) (.nil)))) (.not (.bi .all false (.cons (.comp false [("each", 4)] .plain (.var 1) (.nil) (.var 4) (.bl true) (.and (.isi (.var 4) "tuple") (.cmp .gt (.bi .len false (.cons (.var 4) (.nil))) (.int 0)))) (.nil))))) (.seq (.ret (.bl false)) (.skip)) (.skip)) (.seq (.ifs (.not (.bi .all false (.cons (.comp false [("kind", 3)] .plain (.bin .add false (.idx (.var 1) (.int 0)) (.idx (.var 1) (.int 1))) (.nil) (.var 3) (.bl true) (.call "is_named" (.cons (.var 0) (.cons (.var 3) (.nil))))) (.nil)))) (.seq (.ret (.bl false)) (.skip)) (.skip)) (.seq (.ret (.bi .all false (.cons (.comp false [("leaf", 2)] .plain (.var 0) (.nil) (.var 2) (.bl true) (.cmp .eq (.star .nil .nil) (.star .nil .nil))) (.nil)))) (.skip))) }
def F_folds_shown : FD := { name := "folds_shown", ps := ["word", "sheet", "rest", "paper"], N := ["word", "sheet", "rest", "paper", "op", "leaves"], body := .seq (.asg (.tup (.cons (.var 4) (.cons (.var 5) (.nil)))) (.var 2)) (.seq (.ifs (.or (.not (.call "is_named" (.cons (.attr (.var 1) "grids") (.cons (.var 4) (.nil))))) (.not (.call "are_leaves" (.cons (.var 1) (.cons (.var 5) (.nil)))))) (.seq (.ret (.bl false)) (.skip)) (.skip)) (.seq (.ifs (.cmp .eq (.var 0) (.str "folds")) (.seq (.ret (.call "folds_by" (.cons (.var 1) (.cons (.var 4) (.cons (.var 5) (.cons (.var 3) (.nil))))))) (.skip)) (.skip)) (.seq (.ret (.and (.call "are_lists" (.cons (.var 5) (.cons (.var 3) (.nil)))) (.cmp .ne (.call "folded" (.cons (.var 1) (.cons (.var 4) (.cons (.idx (.var 3) (.int 0)) (.nil))))) (.call "folded" (.cons (.var 1) (.cons (.var 4) (.cons (.idx (.var 3) (.int 1)) (.nil)))))))) (.skip)))) }
def F_variables_in : FD := { name := "variables_in", ps := ["parts"], N := ["parts", "found", "part", "leaf", "variable"], body := .seq (.asg (.var 1) (.comp2 false [("part", 2), ("leaf", 3)] [3] .plain (.var 0) (.nil) (.var 2) .plain (.call "leaves_in" (.cons (.var 2) (.nil))) (.nil) (.var 3) (.var 3))) (.seq (.ret (.comp false [("variable", 4)] .plain (.star .nil .nil) (.nil) (.var 4) (.cmp .inn (.var 4) (.var 1)) (.var 4))) (.skip)) }
def F_is_equal : FD := { name := "is_equal", ps := ["sheet", "parts", "values"], N := ["sheet", "parts", "values"], body := .seq (.ret (.cmp .eq (.call "reckoned" (.cons (.var 0) (.cons (.idx (.var 1) (.int 0)) (.cons (.var 2) (.nil))))) (.call "reckoned" (.cons (.var 0) (.cons (.idx (.var 1) (.int 1)) (.cons (.var 2) (.nil))))))) (.skip) }
def F_all_values : FD := { name := "all_values", ps := ["variables", "lot"], N := ["variables", "lot", "found", "variable", "values", "outcome"], body := .seq (.asg (.var 2) (.lst false (.cons (.dK0 false) (.nil)))) (.seq (.fors .plain (.var 0) (.nil) (.var 3) (.seq (.asg (.var 2) (.comp2 false [("values", 4), ("outcome", 5)] [5] .plain (.var 2) (.nil) (.var 4) .plain (.var 1) (.nil) (.var 5) (.star .nil .nil))) (.skip))) (.seq (.ret (.var 2)) (.skip))) }
def F_given_values : FD := { name := "given_values", ps := ["sheet", "variables", "leaves", "paper"], N := ["sheet", "variables", "leaves", "paper", "found", "variable", "pair", "part"], body := .seq (.ifs (.or (.not (.isi (.var 3) "tuple")) (.or (.cmp .ne (.bi .len false (.cons (.var 3) (.nil))) (.bi .len false (.cons (.var 1) (.nil)))) (.not (.bi .all false (.cons (.comp false [("pair", 6)] .plain (.var 3) (.nil) (.var 6) (.bl true) (.call "is_two" (.cons (.var 6) (.nil)))) (.nil)))))) (.seq (.ret (.non)) (.skip)) (.skip)) (.seq (.asg (.var 4) (.dK0 true)) (.seq (.fors .zip (.var 1) (.var 3) (.tup (.cons (.var 5) (.cons (.var 6) (.nil)))) (.seq (.asg (.var 7) (.call "read_part" (.cons (.var 0) (.cons (.idx (.var 6) (.int 1)) (.cons (.var 2) (.nil)))))) (.seq (.ifs (.or (.cmp .ne (.idx (.var 6) (.int 0)) (.var 5)) (.cmp .isn (.var 7) (.non))) (.seq (.ret (.non)) (.skip)) (.skip)) (.seq (.asg (.idx (.var 4) (.var 5)) (.call "reckoned" (.cons (.var 0) (.cons (.var 7) (.cons (.dK0 false) (.nil)))))) (.skip))))) (.seq (.ret (.var 4)) (.skip)))) }
def F_equal_shown : FD := { name := "equal_shown", ps := ["word", "sheet", "rest", "paper"], N := ["word", "sheet", "rest", "paper", "leaves", "parts", "variables", "values", "text"], body := .seq (.asg (.var 4) (.idx (.var 2) (.int 0))) (.seq (.asg (.var 5) (.comp false [("text", 8)] .plain (.slice false (.var 2) (.int 1) (.nil)) (.nil) (.var 8) (.bl true) (.call "read_part" (.cons (.var 1) (.cons (.var 8) (.cons (.tup (.star (.attr (.var 1) "sorts") (.star (.star .nil .nil) (.nil)))) (.nil))))))) (.seq (.ifs (.or (.not (.call "are_leaves" (.cons (.var 1) (.cons (.var 4) (.nil))))) (.cmp .inn (.non) (.var 5))) (.seq (.ret (.bl false)) (.skip)) (.skip)) (.seq (.asg (.var 6) (.call "variables_in" (.cons (.var 5) (.nil)))) (.seq (.ifs (.cmp .eq (.var 0) (.str "breaks")) (.seq (.asg (.var 7) (.call "given_values" (.cons (.var 1) (.cons (.var 6) (.cons (.var 4) (.cons (.var 3) (.nil))))))) (.seq (.ret (.and (.cmp .notn (.var 7) (.non)) (.not (.call "is_equal" (.cons (.var 1) (.cons (.var 5) (.cons (.var 7) (.nil)))))))) (.skip))) (.skip)) (.seq (.ifs (.not (.call "is_closed" (.cons (.var 1) (.cons (.var 3) (.cons (.var 4) (.cons (.attr (.var 1) "grids") (.cons (.attr (.var 1) "rows") (.nil)))))))) (.seq (.ret (.bl false)) (.skip)) (.skip)) (.seq (.ret (.bi .all false (.cons (.comp false [("values", 7)] .plain (.call "all_values" (.cons (.var 6) (.cons (.var 3) (.nil)))) (.nil) (.var 7) (.bl true) (.call "is_equal" (.cons (.var 1) (.cons (.var 5) (.cons (.var 7) (.nil)))))) (.nil)))) (.skip))))))) }
def F_are_matched : FD := { name := "are_matched", ps := ["one", "other"], N := ["one", "other"], body := .seq (.ret (.and (.cmp .eq (.attr (.var 0) "sorts") (.attr (.var 1) "sorts")) (.and (.cmp .eq (.bi .list false (.cons (.attr (.var 0) "grids") (.nil))) (.bi .list false (.cons (.attr (.var 1) "grids") (.nil)))) (.cmp .eq (.bi .list false (.cons (.attr (.var 0) "rows") (.nil))) (.bi .list false (.cons (.attr (.var 1) "rows") (.nil))))))) (.skip) }
def F_two_shown : FD := { name := "two_shown", ps := ["word", "sheet", "rest", "paper"], N := ["word", "sheet", "rest", "paper", "part", "other", "leaves", "here", "there"], body := .seq (.par [5, 6] (.cons (.call "read_sheet" (.cons (.idx (.var 2) (.int 0)) (.nil))) (.cons (.idx (.var 2) (.int 1)) (.nil)))) (.seq (.ifs (.or (.cmp .isn (.var 5) (.non)) (.or (.not (.call "are_matched" (.cons (.var 1) (.cons (.var 5) (.nil))))) (.not (.call "are_leaves" (.cons (.var 1) (.cons (.var 6) (.nil))))))) (.seq (.ret (.bl false)) (.skip)) (.skip)) (.seq (.ifs (.cmp .eq (.var 0) (.str "alike")) (.seq (.ret (.and (.call "is_closed" (.cons (.var 1) (.cons (.var 3) (.cons (.var 6) (.cons (.attr (.var 1) "grids") (.cons (.attr (.var 1) "rows") (.nil))))))) (.cmp .eq (.call "led" (.cons (.var 1) (.cons (.var 3) (.cons (.attr (.var 1) "grids") (.cons (.attr (.var 1) "rows") (.nil)))))) (.call "led" (.cons (.var 5) (.cons (.var 3) (.cons (.attr (.var 1) "grids") (.cons (.attr (.var 1) "rows") (.nil))))))))) (.skip)) (.skip)) (.seq (.asg (.var 4) (.call "read_part" (.cons (.var 1) (.cons (.var 3) (.cons (.var 6) (.nil)))))) (.seq (.ifs (.cmp .isn (.var 4) (.non)) (.seq (.ret (.bl false)) (.skip)) (.skip)) (.seq (.par [7, 8] (.cons (.call "reckoned" (.cons (.var 1) (.cons (.var 4) (.cons (.dK0 false) (.nil))))) (.cons (.call "reckoned" (.cons (.var 5) (.cons (.var 4) (.cons (.dK0 false) (.nil))))) (.nil)))) (.seq (.ret (.ite (.cmp .eq (.var 0) (.str "apart")) (.cmp .ne (.var 7) (.var 8)) (.cmp .gt (.call "badness" (.cons (.var 7) (.nil))) (.call "badness" (.cons (.var 8) (.nil)))))) (.skip))))))) }
def F_lots_by : FD := { name := "lots_by", ps := ["sheet", "paper"], N := ["sheet", "paper", "found", "lot", "outcome", "at"], body := .seq (.ifs (.or (.not (.isi (.var 1) "tuple")) (.not (.bi .all false (.cons (.comp false [("lot", 3)] .plain (.var 1) (.nil) (.var 3) (.bl true) (.call "is_lot" (.cons (.var 0) (.cons (.var 3) (.nil))))) (.nil))))) (.seq (.ret (.non)) (.skip)) (.skip)) (.seq (.asg (.var 2) (.comp2 false [("lot", 3), ("outcome", 4)] [4] .plain (.var 1) (.nil) (.var 3) .plain (.var 3) (.nil) (.var 4) (.var 4))) (.seq (.ifs (.or (.cmp .ne (.bi .len false (.cons (.var 2) (.nil))) (.lenSet (.var 2))) (.cmp .ne (.bi .len false (.cons (.var 2) (.nil))) (.bi .len false (.cons (.call "outcomes_of" (.cons (.var 0) (.nil))) (.nil))))) (.seq (.ret (.non)) (.skip)) (.skip)) (.seq (.ret (.star .nil .nil)) (.skip)))) }
def F_same_by : FD := { name := "same_by", ps := ["sheet", "leaves", "marked", "paper"], N := ["sheet", "leaves", "marked", "paper", "lots", "reached", "lot", "marks", "outcome", "mark"], body := .seq (.asg (.var 4) (.call "lots_by" (.cons (.var 0) (.cons (.var 3) (.nil))))) (.seq (.ifs (.cmp .isn (.var 4) (.non)) (.seq (.ret (.non)) (.skip)) (.skip)) (.seq (.asg (.var 5) (.call "closed_lot" (.cons (.var 0) (.cons (.var 1) (.cons (.attr (.var 0) "grids") (.cons (.attr (.var 0) "rows") (.nil))))))) (.seq (.fors .plain (.var 3) (.nil) (.var 6) (.seq (.asg (.var 7) (.comp false [("outcome", 8)] .plain (.var 6) (.nil) (.var 8) (.bl true) (.tup (.cons (.call "sight" (.cons (.var 8) (.cons (.var 2) (.nil)))) (.cons (.call "marks_of" (.cons (.var 0) (.cons (.var 4) (.cons (.var 5) (.cons (.var 8) (.nil)))))) (.nil)))))) (.seq (.ifs (.not (.bi .all false (.cons (.comp false [("mark", 9)] .plain (.var 7) (.nil) (.var 9) (.bl true) (.cmp .eq (.var 9) (.idx (.var 7) (.int 0)))) (.nil)))) (.seq (.ret (.non)) (.skip)) (.skip)) (.skip)))) (.seq (.ret (.var 4)) (.skip))))) }
def F_same_shown : FD := { name := "same_shown", ps := ["word", "sheet", "rest", "paper"], N := ["word", "sheet", "rest", "paper", "part", "leaves", "marked", "first", "second", "lots", "one", "other"], body := .seq (.asg (.tup (.cons (.var 5) (.cons (.var 6) (.cons (.var 7) (.cons (.var 8) (.nil)))))) (.var 2)) (.seq (.ifs (.or (.not (.call "are_leaves" (.cons (.var 1) (.cons (.var 5) (.nil))))) (.not (.call "is_marked" (.cons (.var 1) (.cons (.var 6) (.nil)))))) (.seq (.ret (.bl false)) (.skip)) (.skip)) (.seq (.ifs (.or (.not (.call "is_outcome" (.cons (.var 1) (.cons (.var 7) (.nil))))) (.not (.call "is_outcome" (.cons (.var 1) (.cons (.var 8) (.nil)))))) (.seq (.ret (.bl false)) (.skip)) (.skip)) (.seq (.ifs (.cmp .eq (.var 0) (.str "same")) (.seq (.asg (.var 9) (.call "same_by" (.cons (.var 1) (.cons (.var 5) (.cons (.var 6) (.cons (.var 3) (.nil))))))) (.seq (.ret (.and (.cmp .notn (.var 9) (.non)) (.cmp .eq (.idx (.var 9) (.var 7)) (.idx (.var 9) (.var 8))))) (.skip))) (.skip)) (.seq (.asg (.var 4) (.call "read_part" (.cons (.var 1) (.cons (.var 3) (.cons (.tup (.star (.var 5) (.cons (.gl "HOLE" (.str "_")) (.nil)))) (.nil)))))) (.seq (.ifs (.or (.cmp .isn (.var 4) (.non)) (.cmp .ne (.star .nil .nil) (.int 1))) (.seq (.ret (.bl false)) (.skip)) (.skip)) (.seq (.par [10, 11] (.cons (.call "reckoned" (.cons (.var 1) (.cons (.var 4) (.cons (.dic true (.cons (.gl "HOLE" (.str "_")) (.cons (.var 7) (.nil)))) (.nil))))) (.cons (.call "reckoned" (.cons (.var 1) (.cons (.var 4) (.cons (.dic true (.cons (.gl "HOLE" (.str "_")) (.cons (.var 8) (.nil)))) (.nil))))) (.nil)))) (.seq (.ret (.cmp .ne (.call "sight" (.cons (.var 10) (.cons (.var 6) (.nil)))) (.call "sight" (.cons (.var 11) (.cons (.var 6) (.nil)))))) (.skip)))))))) }
def F_length_of : FD := { name := "length_of", ps := ["word"], N := ["word"], body := .seq (.ifs (.cmp .inn (.var 0) (.tup (.cons (.str "same") (.cons (.str "told") (.nil))))) (.seq (.ret (.int 6)) (.skip)) (.skip)) (.seq (.ifs (.cmp .inn (.var 0) (.tup (.cons (.str "equal") (.cons (.str "breaks") (.nil))))) (.seq (.ret (.int 5)) (.skip)) (.skip)) (.seq (.ifs (.cmp .inn (.var 0) (.tup (.cons (.str "alike") (.cons (.str "apart") (.cons (.str "worse") (.cons (.str "outcome") (.cons (.str "reached") (.cons (.str "never") (.nil))))))))) (.seq (.ret (.int 4)) (.skip)) (.skip)) (.seq (.ret (.ite (.cmp .inn (.var 0) (.tup (.cons (.str "grouping") (.cons (.str "hangs") (.cons (.str "exchange") (.cons (.str "turns") (.cons (.str "folds") (.cons (.str "order") (.nil))))))))) (.int 4) (.int 0))) (.skip)))) }
def F_shown : FD := { name := "shown", ps := ["word", "sheet", "rest", "paper"], N := ["word", "sheet", "rest", "paper"], body := .seq (.ifs (.cmp .eq (.var 0) (.str "outcome")) (.seq (.ret (.call "outcome_shown" (.cons (.var 1) (.cons (.var 2) (.cons (.var 3) (.nil)))))) (.skip)) (.skip)) (.seq (.ifs (.cmp .inn (.var 0) (.tup (.cons (.str "reached") (.cons (.str "never") (.nil))))) (.seq (.ret (.call "reach_shown" (.cons (.var 0) (.cons (.var 1) (.cons (.var 2) (.cons (.var 3) (.nil))))))) (.skip)) (.skip)) (.seq (.ifs (.cmp .inn (.var 0) (.tup (.cons (.str "grouping") (.cons (.str "hangs") (.nil))))) (.seq (.ret (.call "grouping_shown" (.cons (.var 0) (.cons (.var 1) (.cons (.var 2) (.cons (.var 3) (.nil))))))) (.skip)) (.skip)) (.seq (.ifs (.cmp .inn (.var 0) (.tup (.cons (.str "exchange") (.cons (.str "turns") (.nil))))) (.seq (.ret (.call "exchange_shown" (.cons (.var 0) (.cons (.var 1) (.cons (.var 2) (.cons (.var 3) (.nil))))))) (.skip)) (.skip)) (.seq (.ifs (.cmp .inn (.var 0) (.tup (.cons (.str "folds") (.cons (.str "order") (.nil))))) (.seq (.ret (.call "folds_shown" (.cons (.var 0) (.cons (.var 1) (.cons (.var 2) (.cons (.var 3) (.nil))))))) (.skip)) (.skip)) (.seq (.ifs (.cmp .inn (.var 0) (.tup (.cons (.str "equal") (.cons (.str "breaks") (.nil))))) (.seq (.ret (.call "equal_shown" (.cons (.var 0) (.cons (.var 1) (.cons (.var 2) (.cons (.var 3) (.nil))))))) (.skip)) (.skip)) (.seq (.ifs (.cmp .inn (.var 0) (.tup (.cons (.str "same") (.cons (.str "told") (.nil))))) (.seq (.ret (.call "same_shown" (.cons (.var 0) (.cons (.var 1) (.cons (.var 2) (.cons (.var 3) (.nil))))))) (.skip)) (.skip)) (.seq (.ret (.call "two_shown" (.cons (.var 0) (.cons (.var 1) (.cons (.var 2) (.cons (.var 3) (.nil))))))) (.skip)))))))) }
def F_accepts : FD := { name := "accepts", ps := ["claim", "certificate"], N := ["claim", "certificate", "sheet"], body := .seq (.ifs (.or (.not (.isi (.var 0) "tuple")) (.or (.cmp .lt (.bi .len false (.cons (.var 0) (.nil))) (.int 4)) (.cmp .ne (.bi .len false (.cons (.var 0) (.nil))) (.call "length_of" (.cons (.idx (.var 0) (.int 0)) (.nil)))))) (.seq (.ret (.bl false)) (.skip)) (.skip)) (.seq (.asg (.var 2) (.call "read_sheet" (.cons (.idx (.var 0) (.int 1)) (.nil)))) (.seq (.ret (.and (.cmp .notn (.var 2) (.non)) (.call "shown" (.cons (.idx (.var 0) (.int 0)) (.cons (.var 2) (.cons (.slice false (.var 0) (.int 2) (.nil)) (.cons (.var 1) (.nil)))))))) (.skip))) }
def F__law_jar : FD := { name := "_law_jar", ps := ["_law_script", "_law_k"], N := ["_law_script", "_law_k", "_law_mixed", "_law_cell_here", "_law_own"], body := .seq (.asg (.var 2) (.bin .add false (.int 91009) (.bin .mul false (.int 3307) (.var 1)))) (.seq (.fors .plain (.slice false (.var 0) (.nil) (.int 6)) (.nil) (.var 3) (.seq (.asg (.var 2) (.bin .mod false (.bi .int false (.cons (.bin .add false (.bin .mul false (.var 2) (.int 48029)) (.bi .int false (.cons (.var 3) (.nil)))) (.nil))) (.int 2147483353))) (.skip))) (.seq (.asg (.var 4) (.ite (.cmp .lt (.var 1) (.bi .len false (.cons (.var 0) (.nil)))) (.bi .int false (.cons (.idx (.var 0) (.var 1)) (.nil))) (.var 2))) (.seq (.ret (.lst true (.cons (.ite (.cmp .ge (.bi .abs false (.cons (.var 4) (.nil))) (.bin .pow false (.int 10) (.int 18))) (.bi .abs false (.cons (.var 4) (.nil))) (.int 0)) (.cons (.bin .mod false (.bi .int false (.cons (.bin .add false (.bin .mul false (.var 2) (.int 41017)) (.var 4)) (.nil))) (.int 2147483353)) (.cons (.int 0) (.nil)))))) (.skip)))), rc := true }
def F__law_scoop : FD := { name := "_law_scoop", ps := ["_law_jar_here", "_law_many"], N := ["_law_jar_here", "_law_many", "_law_state", "_law_factor", "_law_digit"], body := .seq (.asg (.idx (.var 0) (.int 2)) (.bin .add false (.idx (.var 0) (.int 2)) (.int 1))) (.seq (.ifs (.cmp .gt (.idx (.var 0) (.int 0)) (.int 0)) (.seq (.asg (.tup (.cons (.idx (.var 0) (.int 0)) (.cons (.var 4) (.nil)))) (.bi .divmod false (.cons (.idx (.var 0) (.int 0)) (.cons (.var 1) (.nil))))) (.seq (.ret (.var 4)) (.skip))) (.skip)) (.seq (.asg (.var 2) (.bi .int false (.cons (.idx (.var 0) (.int 1)) (.nil)))) (.seq (.asg (.var 3) (.bin .add false (.int 40151) (.bin .mul false (.int 2) (.bin .mod false (.bi .int false (.cons (.var 2) (.nil))) (.int 9007))))) (.seq (.asg (.idx (.var 0) (.int 1)) (.bin .mod false (.bi .int false (.cons (.bin .add false (.bin .add false (.bin .mul false (.var 2) (.var 3)) (.bin .mul false (.int 919) (.idx (.var 0) (.int 2)))) (.int 31)) (.nil))) (.int 2147483353))) (.seq (.ret (.bin .mod false (.bi .int false (.cons (.bin .fdiv false (.idx (.var 0) (.int 1)) (.int 83)) (.nil))) (.var 1))) (.skip)))))) }
def F__law_any : FD := { name := "_law_any", ps := ["_law_jar_here", "_law_some"], N := ["_law_jar_here", "_law_some"], body := .seq (.ret (.idx (.var 1) (.call "_law_scoop" (.cons (.var 0) (.cons (.bi .len false (.cons (.var 1) (.nil))) (.nil)))))) (.skip) }
def F__law_words : FD := { name := "_law_words", ps := ["_law_jar_here", "_law_many"], N := ["_law_jar_here", "_law_many", "_law_found", "_law_k", "_law_fresh", "_law_spare", "_law_sign", "_law_turn", "_law_each"], body := .seq (.asg (.var 2) (.lst true (.nil))) (.seq (.fors .range1 (.var 1) (.nil) (.var 3) (.seq (.asg (.var 4) (.meth .join false (.str "") (.cons (.comp false [("_law_turn", 7)] .range1 (.call "_law_any" (.cons (.var 0) (.cons (.lst false (.cons (.int 1) (.cons (.int 1) (.cons (.int 1) (.cons (.int 2) (.cons (.int 8) (.nil))))))) (.nil)))) (.nil) (.var 7) (.bl true) (.call "_law_any" (.cons (.var 0) (.cons (.str "abcdefghijklmnopqrstuvwxyz") (.nil))))) (.nil)))) (.seq (.ifs (.cmp .eq (.call "_law_scoop" (.cons (.var 0) (.cons (.int 6) (.nil)))) (.int 0)) (.seq (.asg (.var 4) (.call "_law_any" (.cons (.var 0) (.cons (.lst false (.cons (.str "op") (.cons (.str "cast") (.cons (.str "kinds") (.cons (.str "err") (.cons (.str "not") (.nil))))))) (.nil))))) (.skip)) (.skip)) (.seq (.asg (.var 5) (.comp false [("_law_sign", 6)] .plain (.str "abcdefghijklmnopqrstuvwxyz") (.nil) (.var 6) (.bl true) (.bin .add false (.str "z") (.var 6)))) (.seq (.ex (.meth .append false (.var 2) (.cons (.idx (.comp false [("_law_each", 8)] .plain (.bin .add false (.lst false (.cons (.var 4) (.nil))) (.var 5)) (.nil) (.var 8) (.cmp .nin (.var 8) (.bin .add false (.var 2) (.lst false (.cons (.str "error") (.nil))))) (.var 8)) (.int 0)) (.nil)))) (.skip)))))) (.seq (.ret (.var 2)) (.skip))) }
def F__law_cell : FD := { name := "_law_cell", ps := ["_law_jar_here", "_law_tags", "_law_near", "_law_far"], N := ["_law_jar_here", "_law_tags", "_law_near", "_law_far", "_law_later", "_law_found"], body := .seq (.asg (.var 4) (.idx (.var 1) (.bi .max2 false (.cons (.var 2) (.cons (.var 3) (.nil)))))) (.seq (.asg (.var 5) (.call "_law_any" (.cons (.var 0) (.cons (.lst false (.cons (.var 4) (.cons (.var 4) (.cons (.var 4) (.cons (.idx (.var 1) (.bi .min2 false (.cons (.var 2) (.cons (.var 3) (.nil))))) (.cons (.call "_law_any" (.cons (.var 0) (.cons (.var 1) (.nil)))) (.nil))))))) (.nil))))) (.seq (.ret (.call "_law_any" (.cons (.var 0) (.cons (.lst false (.cons (.var 5) (.cons (.var 5) (.cons (.var 5) (.cons (.var 5) (.cons (.bin .add false (.var 5) (.str "!")) (.cons (.var 5) (.cons (.ite (.cmp .eq (.call "_law_scoop" (.cons (.var 0) (.cons (.int 2) (.nil)))) (.int 0)) (.str "-") (.var 5)) (.nil))))))))) (.nil))))) (.skip))) }
def F__law_web : FD := { name := "_law_web", ps := ["_law_jar_here", "_law_most"], N := ["_law_jar_here", "_law_most", "_law_tags", "_law_web_here", "_law_tag", "_law_count", "_law_ops", "_law_casts", "_law_near", "_law_far", "_law_at"], body := .seq (.asg (.tup (.cons (.var 5) (.cons (.var 6) (.cons (.var 7) (.nil))))) (.tup (.cons (.bin .add false (.int 1) (.call "_law_scoop" (.cons (.var 0) (.cons (.var 1) (.nil))))) (.cons (.bin .add false (.int 1) (.call "_law_any" (.cons (.var 0) (.cons (.lst false (.cons (.int 0) (.cons (.int 0) (.cons (.int 1) (.cons (.int 2) (.nil)))))) (.nil))))) (.cons (.call "_law_any" (.cons (.var 0) (.cons (.lst false (.cons (.int 0) (.cons (.int 1) (.cons (.int 1) (.cons (.int 2) (.cons (.int 4) (.nil))))))) (.nil)))) (.nil)))))) (.seq (.asg (.var 2) (.call "_law_words" (.cons (.var 0) (.cons (.bin .add false (.bin .add false (.var 5) (.var 6)) (.var 7)) (.nil))))) (.seq (.asg (.var 3) (.dic true (.cons (.str "kinds") (.cons (.slice true (.var 2) (.nil) (.var 5)) (.cons (.str "ops") (.cons (.dK0 true) (.cons (.str "casts") (.cons (.dK0 true) (.nil))))))))) (.seq (.fors .plain (.slice false (.var 2) (.var 5) (.bin .add false (.var 5) (.var 6))) (.nil) (.var 4) (.seq (.asg (.idx (.idx (.var 3) (.str "ops")) (.var 4)) (.dT0 true)) (.seq (.fors .range1 (.var 5) (.nil) (.var 8) (.seq (.fors .range1 (.var 5) (.nil) (.var 9) (.seq (.asg (.idx (.idx (.idx (.var 3) (.str "ops")) (.var 4)) (.tup (.cons (.idx (.var 2) (.var 8)) (.cons (.idx (.var 2) (.var 9)) (.nil))))) (.call "_law_cell" (.cons (.var 0) (.cons (.slice false (.var 2) (.nil) (.var 5)) (.cons (.var 8) (.cons (.var 9) (.nil))))))) (.skip))) (.skip))) (.skip)))) (.seq (.fors .plain (.slice false (.var 2) (.bin .add false (.var 5) (.var 6)) (.nil)) (.nil) (.var 4) (.seq (.asg (.idx (.idx (.var 3) (.str "casts")) (.var 4)) (.bi .dictP false (.cons (.comp false [("_law_at", 10)] .range1 (.var 5) (.nil) (.var 10) (.bl true) (.tup (.cons (.idx (.var 2) (.var 10)) (.cons (.call "_law_cell" (.cons (.var 0) (.cons (.slice false (.var 2) (.nil) (.var 5)) (.cons (.var 10) (.cons (.var 10) (.nil)))))) (.nil))))) (.nil)))) (.skip))) (.seq (.ret (.var 3)) (.skip)))))) }
def F__law_page : FD := { name := "_law_page", ps := ["_law_web_here"], N := ["_law_web_here", "_law_rows", "_law_tag", "_law_near", "_law_far"], body := .seq (.asg (.var 1) (.lst true (.cons (.bin .add false (.str "kinds ") (.meth .join false (.str " ") (.cons (.idx (.var 0) (.str "kinds")) (.nil)))) (.nil)))) (.seq (.fors .plain (.idx (.var 0) (.str "ops")) (.nil) (.var 2) (.seq (.ex (.meth .append false (.var 1) (.cons (.bin .add false (.str "op ") (.var 2)) (.nil)))) (.seq (.fors .plain (.idx (.var 0) (.str "kinds")) (.nil) (.var 3) (.seq (.ex (.meth .append false (.var 1) (.cons (.meth .join false (.str " ") (.cons (.comp false [("_law_far", 4)] .plain (.idx (.var 0) (.str "kinds")) (.nil) (.var 4) (.bl true) (.idx (.idx (.idx (.var 0) (.str "ops")) (.var 2)) (.tup (.cons (.var 3) (.cons (.var 4) (.nil)))))) (.nil))) (.nil)))) (.skip))) (.skip)))) (.seq (.fors .plain (.idx (.var 0) (.str "casts")) (.nil) (.var 2) (.seq (.ex (.meth .append false (.var 1) (.cons (.bin .add false (.bin .add false (.bin .add false (.str "cast ") (.var 2)) (.str " ")) (.meth .join false (.str " ") (.cons (.comp false [("_law_near", 3)] .plain (.idx (.var 0) (.str "kinds")) (.nil) (.var 3) (.bl true) (.idx (.idx (.idx (.var 0) (.str "casts")) (.var 2)) (.var 3))) (.nil)))) (.nil)))) (.skip))) (.seq (.ret (.meth .join false (.str "\n") (.cons (.var 1) (.nil)))) (.skip)))) }
def F__law_lot : FD := { name := "_law_lot", ps := ["_law_jar_here", "_law_web_here"], N := ["_law_jar_here", "_law_web_here", "_law_found", "_law_tag"], body := .seq (.asg (.var 2) (.comp false [("_law_tag", 3)] .plain (.idx (.var 1) (.str "kinds")) (.nil) (.var 3) (.cmp .gt (.call "_law_scoop" (.cons (.var 0) (.cons (.int 3) (.nil)))) (.int 0)) (.var 3))) (.seq (.ret (.bi .tuple false (.cons (.ite (.cmp .ne (.var 2) (.lst false (.nil))) (.var 2) (.slice false (.idx (.var 1) (.str "kinds")) (.nil) (.int 1))) (.nil)))) (.skip)) }
def F__law_mark : FD := { name := "_law_mark", ps := ["_law_cell_here", "_law_is_lost"], N := ["_law_cell_here", "_law_is_lost"], body := .seq (.ifs (.cmp .eq (.var 0) (.str "-")) (.seq (.ret (.str "error")) (.skip)) (.skip)) (.seq (.ret (.ite (.and (.var 1) (.cmp .ne (.idx (.var 0) (.neg (.int 1))) (.str "!"))) (.bin .add false (.var 0) (.str "!")) (.var 0))) (.skip)) }
def F__law_both : FD := { name := "_law_both", ps := ["_law_web_here", "_law_tag", "_law_here", "_law_there"], N := ["_law_web_here", "_law_tag", "_law_here", "_law_there", "_law_cell_here"], body := .seq (.ifs (.cmp .inn (.str "error") (.lst false (.cons (.var 2) (.cons (.var 3) (.nil))))) (.seq (.ret (.str "error")) (.skip)) (.skip)) (.seq (.asg (.var 4) (.idx (.idx (.idx (.var 0) (.str "ops")) (.var 1)) (.tup (.cons (.idx (.meth .split false (.var 2) (.cons (.str "!") (.nil))) (.int 0)) (.cons (.idx (.meth .split false (.var 3) (.cons (.str "!") (.nil))) (.int 0)) (.nil)))))) (.seq (.ret (.call "_law_mark" (.cons (.var 4) (.cons (.cmp .inn (.str "!") (.bin .add false (.var 2) (.var 3))) (.nil))))) (.skip))) }
def F__law_all : FD := { name := "_law_all", ps := ["_law_web_here"], N := ["_law_web_here", "_law_found", "_law_tag"], body := .seq (.asg (.var 1) (.lst false (.nil))) (.seq (.fors .plain (.idx (.var 0) (.str "kinds")) (.nil) (.var 2) (.seq (.asg (.var 1) (.bin .add false (.var 1) (.lst false (.cons (.var 2) (.cons (.bin .add false (.var 2) (.str "!")) (.nil)))))) (.skip))) (.seq (.ret (.bin .add false (.var 1) (.lst false (.cons (.str "error") (.nil))))) (.skip))) }
def F__law_is_lot : FD := { name := "_law_is_lot", ps := ["_law_web_here", "_law_thing"], N := ["_law_web_here", "_law_thing", "_law_each"], body := .seq (.ret (.and (.isi (.var 1) "tuple") (.cmp .eq (.var 1) (.bi .tuple false (.cons (.comp false [("_law_each", 2)] .plain (.call "_law_all" (.cons (.var 0) (.nil))) (.nil) (.var 2) (.cmp .inn (.var 2) (.var 1)) (.var 2)) (.nil)))))) (.skip) }
def F__law_is_leaves : FD := { name := "_law_is_leaves", ps := ["_law_web_here", "_law_thing"], N := ["_law_web_here", "_law_thing", "_law_tag"], body := .seq (.ret (.and (.isi (.var 1) "tuple") (.and (.cmp .ne (.var 1) (.tup (.nil))) (.cmp .eq (.var 1) (.bi .tuple false (.cons (.comp false [("_law_tag", 2)] .plain (.idx (.var 0) (.str "kinds")) (.nil) (.var 2) (.cmp .inn (.var 2) (.var 1)) (.var 2)) (.nil))))))) (.skip) }
def F__law_is_tag : FD := { name := "_law_is_tag", ps := ["_law_some", "_law_thing"], N := ["_law_some", "_law_thing"], body := .seq (.ret (.and (.isi (.var 1) "str") (.cmp .inn (.var 1) (.var 0)))) (.skip) }
def F__law_odd : FD := { name := "_law_odd", ps := ["_law_jar_here", "_law_web_here"], N := ["_law_jar_here", "_law_web_here", "_law_some"], body := .seq (.asg (.var 2) (.lst false (.cons (.non) (.cons (.bl true) (.cons (.int 0) (.cons (.str "") (.cons (.str "!") (.cons (.str "-") (.cons (.str "error") (.cons (.str "zz") (.cons (.tup (.nil)) (.cons (.lst false (.nil)) (.cons (.dK0 false) (.cons (.tup (.cons (.str "zz") (.nil))) (.cons (.idx (.idx (.var 1) (.str "kinds")) (.int 0)) (.cons (.bin .add false (.idx (.idx (.var 1) (.str "kinds")) (.neg (.int 1))) (.str "!")) (.nil))))))))))))))))) (.seq (.ret (.call "_law_any" (.cons (.var 0) (.cons (.bin .add false (.var 2) (.lst false (.cons (.bi .list false (.cons (.idx (.var 1) (.str "kinds")) (.nil))) (.cons (.bi .tuple false (.cons (.idx (.var 1) (.str "kinds")) (.nil))) (.cons (.bi .tuple false (.cons (.rev false (.idx (.var 1) (.str "kinds"))) (.nil))) (.cons (.idx (.bi .list false (.cons (.idx (.var 1) (.str "ops")) (.nil))) (.int 0)) (.nil))))))) (.nil))))) (.skip)) }
def F__law_bent_lot : FD := { name := "_law_bent_lot", ps := ["_law_jar_here", "_law_web_here", "_law_lot_here"], N := ["_law_jar_here", "_law_web_here", "_law_lot_here", "_law_way", "_law_at", "_law_every", "_law_fresh", "_law_each"], body := .seq (.par [3, 4, 5] (.cons (.call "_law_scoop" (.cons (.var 0) (.cons (.int 6) (.nil)))) (.cons (.call "_law_scoop" (.cons (.var 0) (.cons (.bin .add false (.bi .len false (.cons (.var 2) (.nil))) (.int 1)) (.nil)))) (.cons (.call "_law_all" (.cons (.var 1) (.nil))) (.nil))))) (.seq (.ifs (.cmp .eq (.var 3) (.int 0)) (.seq (.ret (.bin .add false (.slice false (.var 2) (.nil) (.var 4)) (.slice false (.var 2) (.bin .add false (.var 4) (.int 1)) (.nil)))) (.skip)) (.skip)) (.seq (.ifs (.cmp .eq (.var 3) (.int 1)) (.seq (.asg (.var 6) (.call "_law_any" (.cons (.var 0) (.cons (.var 5) (.nil))))) (.seq (.ret (.bi .tuple false (.cons (.comp false [("_law_each", 7)] .plain (.var 5) (.nil) (.var 7) (.or (.cmp .inn (.var 7) (.var 2)) (.cmp .eq (.var 7) (.var 6))) (.var 7)) (.nil)))) (.skip))) (.skip)) (.seq (.ifs (.cmp .eq (.var 3) (.int 2)) (.seq (.ret (.call "_law_any" (.cons (.var 0) (.cons (.lst false (.cons (.bi .list false (.cons (.var 2) (.nil))) (.cons (.non) (.cons (.tup (.nil)) (.cons (.bin .add false (.var 2) (.slice false (.var 2) (.nil) (.int 1))) (.cons (.bin .add false (.var 2) (.tup (.cons (.str "zz") (.nil)))) (.cons (.rev false (.var 2)) (.cons (.bin .add false (.slice false (.var 2) (.var 4) (.nil)) (.slice false (.var 2) (.nil) (.var 4))) (.cons (.str "") (.cons (.int 0) (.nil))))))))))) (.nil))))) (.skip)) (.skip)) (.seq (.ret (.ite (.cmp .eq (.var 3) (.int 3)) (.bi .tuple false (.cons (.var 5) (.nil))) (.var 2))) (.skip))))) }
def F__law_fold_lot : FD := { name := "_law_fold_lot", ps := ["_law_web_here", "_law_tag", "_law_lot_here"], N := ["_law_web_here", "_law_tag", "_law_lot_here", "_law_found", "_law_turn", "_law_near", "_law_more", "_law_each", "_law_here"], body := .seq (.asg (.var 3) (.bi .list false (.cons (.var 2) (.nil)))) (.seq (.fors .range1 (.int 20) (.nil) (.var 4) (.seq (.fors .plain (.var 2) (.nil) (.var 5) (.seq (.asg (.var 6) (.comp false [("_law_here", 8)] .plain (.sortSet false (.var 3)) (.nil) (.var 8) (.bl true) (.call "_law_both" (.cons (.var 0) (.cons (.var 1) (.cons (.var 8) (.cons (.var 5) (.nil)))))))) (.seq (.asg (.var 3) (.bin .add false (.var 3) (.comp false [("_law_each", 7)] .plain (.var 6) (.nil) (.var 7) (.cmp .nin (.var 7) (.var 3)) (.var 7)))) (.skip)))) (.skip))) (.seq (.ret (.bi .tuple false (.cons (.comp false [("_law_each", 7)] .plain (.call "_law_all" (.cons (.var 0) (.nil))) (.nil) (.var 7) (.cmp .inn (.var 7) (.var 3)) (.var 7)) (.nil)))) (.skip))) }
def F__law_turns : FD := { name := "_law_turns", ps := ["_law_web_here", "_law_tag", "_law_here", "_law_near", "_law_far"], N := ["_law_web_here", "_law_tag", "_law_here", "_law_near", "_law_far", "_law_there"], body := .seq (.asg (.var 5) (.call "_law_both" (.cons (.var 0) (.cons (.var 1) (.cons (.call "_law_both" (.cons (.var 0) (.cons (.var 1) (.cons (.var 2) (.cons (.var 3) (.nil)))))) (.cons (.var 4) (.nil))))))) (.seq (.ret (.cmp .ne (.var 5) (.call "_law_both" (.cons (.var 0) (.cons (.var 1) (.cons (.call "_law_both" (.cons (.var 0) (.cons (.var 1) (.cons (.var 2) (.cons (.var 4) (.nil)))))) (.cons (.var 3) (.nil)))))))) (.skip)) }
def F__law_folds_by : FD := { name := "_law_folds_by", ps := ["_law_web_here", "_law_tag", "_law_lot_here", "_law_thing"], N := ["_law_web_here", "_law_tag", "_law_lot_here", "_law_thing", "_law_near", "_law_far", "_law_each", "_law_here"], body := .seq (.ifs (.or (.not (.call "_law_is_lot" (.cons (.var 0) (.cons (.var 3) (.nil))))) (.cmp .ne (.comp false [("_law_each", 6)] .plain (.var 2) (.nil) (.var 6) (.cmp .nin (.var 6) (.var 3)) (.var 6)) (.lst false (.nil)))) (.seq (.ret (.bl false)) (.skip)) (.skip)) (.seq (.fors .plain (.var 2) (.nil) (.var 4) (.seq (.ifs (.cmp .ne (.comp false [("_law_here", 7)] .plain (.var 3) (.nil) (.var 7) (.cmp .nin (.call "_law_both" (.cons (.var 0) (.cons (.var 1) (.cons (.var 7) (.cons (.var 4) (.nil)))))) (.var 3)) (.var 7)) (.lst false (.nil))) (.seq (.ret (.bl false)) (.skip)) (.skip)) (.seq (.fors .plain (.var 2) (.nil) (.var 5) (.seq (.ifs (.cmp .ne (.call "_law_both" (.cons (.var 0) (.cons (.var 1) (.cons (.var 4) (.cons (.var 5) (.nil)))))) (.call "_law_both" (.cons (.var 0) (.cons (.var 1) (.cons (.var 5) (.cons (.var 4) (.nil))))))) (.seq (.ret (.bl false)) (.skip)) (.skip)) (.seq (.ifs (.cmp .ne (.comp false [("_law_here", 7)] .plain (.var 3) (.nil) (.var 7) (.call "_law_turns" (.cons (.var 0) (.cons (.var 1) (.cons (.var 7) (.cons (.var 4) (.cons (.var 5) (.nil))))))) (.var 7)) (.lst false (.nil))) (.seq (.ret (.bl false)) (.skip)) (.skip)) (.skip)))) (.skip)))) (.seq (.ret (.bl true)) (.skip))) }
def F__law_right : FD := { name := "_law_right", ps := ["_law_jar_here"], N := ["_law_jar_here", "_law_lap", "_law_web_here", "_law_whole", "_law_turn", "_law_page_here", "_law_lot_here", "_law_tag", "_law_paper", "_law_some", "_law_sign", "_law_fine"], body := .seq (.fors .range1 (.int 2) (.nil) (.var 1) (.seq (.asg (.var 2) (.call "_law_web" (.cons (.var 0) (.cons (.int 6) (.nil))))) (.seq (.par [5, 6, 7] (.cons (.call "_law_page" (.cons (.var 2) (.nil))) (.cons (.call "_law_lot" (.cons (.var 0) (.cons (.var 2) (.nil)))) (.cons (.call "_law_any" (.cons (.var 0) (.cons (.bi .list false (.cons (.idx (.var 2) (.str "ops")) (.nil))) (.nil)))) (.nil))))) (.seq (.asg (.var 3) (.call "_law_fold_lot" (.cons (.var 2) (.cons (.var 7) (.cons (.var 6) (.nil)))))) (.seq (.fors .range1 (.int 8) (.nil) (.var 4) (.seq (.asg (.var 8) (.call "_law_bent_lot" (.cons (.var 0) (.cons (.var 2) (.cons (.var 3) (.nil)))))) (.seq (.asg (.var 9) (.call "_law_any" (.cons (.var 0) (.cons (.lst false (.cons (.var 6) (.cons (.var 6) (.cons (.var 6) (.cons (.var 6) (.cons (.var 6) (.cons (.call "_law_odd" (.cons (.var 0) (.cons (.var 2) (.nil)))) (.cons (.rev false (.var 6)) (.nil))))))))) (.nil))))) (.seq (.asg (.var 10) (.call "_law_any" (.cons (.var 0) (.cons (.lst false (.cons (.var 7) (.cons (.var 7) (.cons (.var 7) (.cons (.var 7) (.cons (.call "_law_any" (.cons (.var 0) (.cons (.bi .list false (.cons (.idx (.var 2) (.str "ops")) (.nil))) (.nil)))) (.cons (.call "_law_odd" (.cons (.var 0) (.cons (.var 2) (.nil)))) (.nil)))))))) (.nil))))) (.seq (.asg (.var 11) (.and (.call "_law_is_tag" (.cons (.idx (.var 2) (.str "ops")) (.cons (.var 10) (.nil)))) (.call "_law_is_leaves" (.cons (.var 2) (.cons (.var 9) (.nil)))))) (.seq (.asg (.var 11) (.and (.var 11) (.call "_law_folds_by" (.cons (.var 2) (.cons (.var 10) (.cons (.var 9) (.cons (.var 8) (.nil)))))))) (.seq (.ifs (.cmp .ne (.bi .repr false (.cons (.call "accepts" (.cons (.tup (.cons (.str "folds") (.cons (.var 5) (.cons (.var 10) (.cons (.var 9) (.nil)))))) (.cons (.var 8) (.nil)))) (.nil))) (.bi .repr false (.cons (.var 11) (.nil)))) (.seq (.ret (.bl false)) (.skip)) (.skip)) (.skip)))))))) (.skip)))))) (.seq (.ret (.bl true)) (.skip)) }
def F_law : FD := { name := "law", ps := ["_law_script"], N := ["_law_script", "_law_k"], body := .seq (.ret (.bi .all false (.cons (.comp false [("_law_k", 1)] .range1 (.bi .max2 false (.cons (.int 2) (.cons (.bi .min2 false (.cons (.bi .len false (.cons (.var 0) (.nil))) (.cons (.int 4) (.nil)))) (.nil)))) (.nil) (.var 1) (.bl true) (.call "_law_right" (.cons (.call "_law_jar" (.cons (.var 0) (.cons (.var 1) (.nil)))) (.nil)))) (.nil)))) (.skip) }
def PT : List FD := [F_Sheet, F_is_tag, F_is_cell, F_read_cells, F_read_grid, F_fill_grids, F_fill_rows, F_has_fine_names, F_read_sheet, F_outcomes_of, F_word_at, F_part_at, F_pair_at, F_read_part, F_leaves_in, F_is_by, F_kind_of, F_marked_by, F_joined, F_turned, F_reckoned, F_led, F_in_order, F_closed_lot, F_folded, F_badness, F_sight, F_marks_of, F_is_marked, F_are_leaves, F_is_outcome, F_is_lot, F_is_named, F_is_closed, F_is_two, F_parts_by, F_outcome_shown, F_reach_shown, F_agrees, F_groups, F_swaps, F_grouping_shown, F_exchange_shown, F_turns_fold, F_folds_by, F_are_lists, F_folds_shown, F_variables_in, F_is_equal, F_all_values, F_given_values, F_equal_shown, F_are_matched, F_two_shown, F_lots_by, F_same_by, F_same_shown, F_length_of, F_shown, F_accepts, F__law_jar, F__law_scoop, F__law_any, F__law_words, F__law_cell, F__law_web, F__law_page, F__law_lot, F__law_mark, F__law_both, F__law_all, F__law_is_lot, F__law_is_leaves, F__law_is_tag, F__law_odd, F__law_bent_lot, F__law_fold_lot, F__law_turns, F__law_folds_by, F__law_right, F_law]
def cl : List Str := ["Sheet"]
def fl : List Str := ["grids", "rows", "sorts"]
def blt : List Str := (["abs", "all", "any", "dict", "divmod", "int", "isinstance", "len", "list", "max"] : List Str) ++ (["min", "range", "repr", "set", "sorted", "str", "tuple", "zip"] : List Str)
def gt : List (Str × D) := [("BAD", (.str "error")), ("HOLE", (.str "_")), ("LOSS", (.str "!")), ("MOST_CASTS", (.int 4)), ("MOST_KINDS", (.int 8)), ("MOST_OPERATORS", (.int 3)), ("MOST_SIGNS", (.int 8)), ("REFUSED", (.str "-")), ("SIGNS", (.str "abcdefghijklmnopqrstuvwxyz"))]
def Sx (K : PySem.W.Frag) (mg : Str → Option Value) : Sta := ⟨K, mg, cl, fl, blt, gt, []⟩
end Pt

set_option Elab.async false
set_option linter.all false
set_option maxRecDepth 100000
set_option maxHeartbeats 4000000
namespace Ct
open PySem PySem.Spec PyProof.Rows L2 Iv SX Pt
set_option hygiene false in
local macro_rules | `(tactic| push_cast) => `(tactic| simp only [ev_nil, ev_var, ev_int, ev_str, ev_bl, ev_non, ev_gl, ev_bin, ev_neg, ev_cmp, ev_chain, ev_and, ev_or, ev_not, ev_ite, ev_lst, ev_tup, ev_dK0, ev_dT0, ev_dic, ev_idx, ev_slice, ev_rev, ev_attr, ev_call, ev_callK, ev_new, ev_bi, ev_isi, ev_lenSet, ev_sortSet, ev_dictZ, ev_meth, ev_replC, es_skip, es_seq, es_asg, es_par, es_aug, es_ex, es_ret, es_ifs, es_brk, es_cnt, ev_comp, ev_comp2, ev_fors, evL, asgD, asgDs, bindV, bindVs, isNil, if_true, if_false, reduceIte, Bool.false_eq_true, List.map_cons, List.map_nil, List.length_cons, List.length_nil, Nat.reduceAdd, Nat.reduceSub, Nat.zero_add, List.replicate, List.cons_append, List.nil_append, List.append_nil, List.getElem?_cons_zero, List.getElem?_cons_succ, List.set_cons_zero, List.set_cons_succ, wipeD, Option.map_some, Option.map_none, Bool.not_true, Bool.not_false, setMany, Bool.true_and, Bool.and_true, Bool.false_and, Bool.and_false, Bool.true_or, Bool.or_true, Bool.false_or, Bool.or_false, methOk, tyD, aftC_some, compK_some, forK_some, it_lst, it_wls, it_tup, it_strp, it_dic, it_zipTL, lstOf, seqOf, rv_ret, rv_nx, en0, O.d, O.ed, decide_true, decide_false, l_error, l_bang, l_dash, l_kinds, l_ops, l_casts, l_sp, l_nl, l_no, ends_bang, cmp_eq_sd, cmp_ne_sd, cmp_inn, cmp_nin, cmp_gt, cmp_lt, cmp_ge, cmp_le, cmp_isn, cmp_notn, in2, sz0, sz1, sz2, sz3, sz4, sz5, sz6, sz7, sz8, sz9, sz10, sz11, sz12, sgn_S, l_signs, zipT, add_int, sub_int, isNon_lst, isNon_dic, isNon_str, isNon_bl, isNon_int, Option.isSome_some, mkL_nil, mkL_true, l_err5, l_not, l_z, l_zz, mkL_small, Nat.reduceLeDiff, l_outcome, l_reached, l_never, l_grouping, l_hangs, l_exchange, l_turns, l_folds, l_order, l_equal, l_breaks, l_alike, l_apart, l_worse, l_same, l_told, l_op, l_cast, l_kinds_, l_op_, l_cast_, it_0, it_1, it_2, it_3, it_4, it_5, cmp_eq_int, cmp_ne_int, cut2, bi_len_tup, bi_len_lst, List.cons.injEq, reduceCtorEq, and_true, true_and, and_false, false_and, Nat.reduceEqDiff, Int.reduceLT, Int.reduceLE, Int.reduceEq, c_cast, isNon_ins, isNon_non, isNon_tup, bi_tuple, bi_all, bi_any, ty_NoneType_tuple, ty_NoneType_str, ty_NoneType_list, ty_NoneType_int, ty_NoneType_dict, ty_NoneType_bool, ty_bool_tuple, ty_bool_str, ty_bool_list, ty_bool_int, ty_bool_dict, ty_bool_bool, ty_int_tuple, ty_int_str, ty_int_list, ty_int_int, ty_int_dict, ty_int_bool, ty_str_tuple, ty_str_str, ty_str_list, ty_str_int, ty_str_dict, ty_str_bool, ty_list_tuple, ty_list_str, ty_list_list, ty_list_int, ty_list_dict, ty_list_bool, ty_tuple_tuple, ty_tuple_str, ty_tuple_list, ty_tuple_int, ty_tuple_dict, ty_tuple_bool, ty_dict_tuple, ty_dict_str, ty_dict_list, ty_dict_int, ty_dict_dict, ty_dict_bool, attr_sorts, attr_grids, attr_rows]) | `(tactic| push_cast [$xs,*]) => `(tactic| simp only [ev_nil, ev_var, ev_int, ev_str, ev_bl, ev_non, ev_gl, ev_bin, ev_neg, ev_cmp, ev_chain, ev_and, ev_or, ev_not, ev_ite, ev_lst, ev_tup, ev_dK0, ev_dT0, ev_dic, ev_idx, ev_slice, ev_rev, ev_attr, ev_call, ev_callK, ev_new, ev_bi, ev_isi, ev_lenSet, ev_sortSet, ev_dictZ, ev_meth, ev_replC, es_skip, es_seq, es_asg, es_par, es_aug, es_ex, es_ret, es_ifs, es_brk, es_cnt, ev_comp, ev_comp2, ev_fors, evL, asgD, asgDs, bindV, bindVs, isNil, if_true, if_false, reduceIte, Bool.false_eq_true, List.map_cons, List.map_nil, List.length_cons, List.length_nil, Nat.reduceAdd, Nat.reduceSub, Nat.zero_add, List.replicate, List.cons_append, List.nil_append, List.append_nil, List.getElem?_cons_zero, List.getElem?_cons_succ, List.set_cons_zero, List.set_cons_succ, wipeD, Option.map_some, Option.map_none, Bool.not_true, Bool.not_false, setMany, Bool.true_and, Bool.and_true, Bool.false_and, Bool.and_false, Bool.true_or, Bool.or_true, Bool.false_or, Bool.or_false, methOk, tyD, aftC_some, compK_some, forK_some, it_lst, it_wls, it_tup, it_strp, it_dic, it_zipTL, lstOf, seqOf, rv_ret, rv_nx, en0, O.d, O.ed, decide_true, decide_false, l_error, l_bang, l_dash, l_kinds, l_ops, l_casts, l_sp, l_nl, l_no, ends_bang, cmp_eq_sd, cmp_ne_sd, cmp_inn, cmp_nin, cmp_gt, cmp_lt, cmp_ge, cmp_le, cmp_isn, cmp_notn, in2, sz0, sz1, sz2, sz3, sz4, sz5, sz6, sz7, sz8, sz9, sz10, sz11, sz12, sgn_S, l_signs, zipT, add_int, sub_int, isNon_lst, isNon_dic, isNon_str, isNon_bl, isNon_int, Option.isSome_some, mkL_nil, mkL_true, l_err5, l_not, l_z, l_zz, mkL_small, Nat.reduceLeDiff, l_outcome, l_reached, l_never, l_grouping, l_hangs, l_exchange, l_turns, l_folds, l_order, l_equal, l_breaks, l_alike, l_apart, l_worse, l_same, l_told, l_op, l_cast, l_kinds_, l_op_, l_cast_, it_0, it_1, it_2, it_3, it_4, it_5, cmp_eq_int, cmp_ne_int, cut2, bi_len_tup, bi_len_lst, List.cons.injEq, reduceCtorEq, and_true, true_and, and_false, false_and, Nat.reduceEqDiff, Int.reduceLT, Int.reduceLE, Int.reduceEq, c_cast, isNon_ins, isNon_non, isNon_tup, bi_tuple, bi_all, bi_any, ty_NoneType_tuple, ty_NoneType_str, ty_NoneType_list, ty_NoneType_int, ty_NoneType_dict, ty_NoneType_bool, ty_bool_tuple, ty_bool_str, ty_bool_list, ty_bool_int, ty_bool_dict, ty_bool_bool, ty_int_tuple, ty_int_str, ty_int_list, ty_int_int, ty_int_dict, ty_int_bool, ty_str_tuple, ty_str_str, ty_str_list, ty_str_int, ty_str_dict, ty_str_bool, ty_list_tuple, ty_list_str, ty_list_list, ty_list_int, ty_list_dict, ty_list_bool, ty_tuple_tuple, ty_tuple_str, ty_tuple_list, ty_tuple_int, ty_tuple_dict, ty_tuple_bool, ty_dict_tuple, ty_dict_str, ty_dict_list, ty_dict_int, ty_dict_dict, ty_dict_bool, attr_sorts, attr_grids, attr_rows, $xs,*])
set_option hygiene false in
local macro_rules | `(tactic| ac_rfl) => `(tactic| ((repeat' (with_reducible first | refine wS_seq ?_ | refine seqK_nx ?_ | refine seqK_ret ?_ | refine retK_ret ?_ | refine retK_nx ?_ | refine stepK_nx ?_ | refine stepK_ret ?_ | refine wS_skip ?_ | refine wS_asg ?_ | refine wS_ex ?_ | refine wS_ret ?_ | refine wS_ifs ?_ | refine wS_fors ?_ | refine wS_parK ?_ | (refine parK_of (by simp only [setMany, List.set_cons_succ, List.set_cons_zero]; rfl) ?_) | refine ifK_true ?_ | refine ifK_false ?_ | (refine asgK_var (by simp only [List.set_cons_succ, List.set_cons_zero]; rfl) ?_))); try intro K hK))
set_option hygiene false in
local macro_rules | `(tactic| subst_eqs) => `(tactic| (refine ⟨_, _, rfl, hK _ _ ?_⟩; clear hK K; ((repeat' (with_reducible first | refine wS_seq ?_ | refine seqK_nx ?_ | refine seqK_ret ?_ | refine retK_ret ?_ | refine retK_nx ?_ | refine stepK_nx ?_ | refine stepK_ret ?_ | refine wS_skip ?_ | refine wS_asg ?_ | refine wS_ex ?_ | refine wS_ret ?_ | refine wS_ifs ?_ | refine wS_fors ?_ | refine wS_parK ?_ | (refine parK_of (by simp only [setMany, List.set_cons_succ, List.set_cons_zero]; rfl) ?_) | refine ifK_true ?_ | refine ifK_false ?_ | (refine asgK_var (by simp only [List.set_cons_succ, List.set_cons_zero]; rfl) ?_))); try intro K hK)))
set_option hygiene false in
local macro_rules | `(tactic| and_intros) => `(tactic| (refine ⟨_, (by simp only [bindV, bindVs, List.set_cons_succ, List.set_cons_zero]; rfl), ?_⟩; ((repeat' (with_reducible first | refine wS_seq ?_ | refine seqK_nx ?_ | refine seqK_ret ?_ | refine retK_ret ?_ | refine retK_nx ?_ | refine stepK_nx ?_ | refine stepK_ret ?_ | refine wS_skip ?_ | refine wS_asg ?_ | refine wS_ex ?_ | refine wS_ret ?_ | refine wS_ifs ?_ | refine wS_fors ?_ | refine wS_parK ?_ | (refine parK_of (by simp only [setMany, List.set_cons_succ, List.set_cons_zero]; rfl) ?_) | refine ifK_true ?_ | refine ifK_false ?_ | (refine asgK_var (by simp only [List.set_cons_succ, List.set_cons_zero]; rfl) ?_))); try intro K hK)))

/-! written texts -/
theorem l_error : Str.ofString "error" = S wErr := by decide +kernel
theorem l_bang : Str.ofString "!" = S [33] := by decide +kernel
theorem l_dash : Str.ofString "-" = S [45] := by decide +kernel
theorem l_sp : Str.ofString " " = S [32] := by decide +kernel
theorem l_nl : Str.ofString "\n" = S [10] := by decide +kernel
theorem l_no : Str.ofString "" = S [] := by decide +kernel
theorem sz0 : (0 ≤ sizeLine) = True := by simp [sizeLine]
theorem sz1 : (1 ≤ sizeLine) = True := by simp [sizeLine]
theorem sz2 : (2 ≤ sizeLine) = True := by simp [sizeLine]
theorem sz3 : (3 ≤ sizeLine) = True := by simp [sizeLine]
theorem sz4 : (4 ≤ sizeLine) = True := by simp [sizeLine]
theorem sz5 : (5 ≤ sizeLine) = True := by simp [sizeLine]
theorem sz6 : (6 ≤ sizeLine) = True := by simp [sizeLine]
theorem sz7 : (7 ≤ sizeLine) = True := by simp [sizeLine]
theorem sz8 : (8 ≤ sizeLine) = True := by simp [sizeLine]
theorem sz9 : (9 ≤ sizeLine) = True := by simp [sizeLine]
theorem sz10 : (10 ≤ sizeLine) = True := by simp [sizeLine]
theorem sz11 : (11 ≤ sizeLine) = True := by simp [sizeLine]
theorem sz12 : (12 ≤ sizeLine) = True := by simp [sizeLine]
theorem l_kinds : Str.ofString "kinds" = S [107, 105, 110, 100, 115] := by decide +kernel
theorem l_ops : Str.ofString "ops" = S [111, 112, 115] := by decide +kernel
theorem l_casts : Str.ofString "casts" = S [99, 97, 115, 116, 115] := by decide +kernel

/-! the operations on these values -/
theorem mkL_small {xs : List D} {G : List C} (h : xs.length ≤ 100000) : mkL false xs G = some (.lst xs, G) := by
  unfold mkL
  rw [if_pos (Nat.le_trans h (by decide))]
  rfl
theorem ty_NoneType_tuple : (("NoneType" : String) == "tuple" || ("NoneType" == "bool" && "tuple" == "int")) = false := by decide +kernel
theorem ty_NoneType_str : (("NoneType" : String) == "str" || ("NoneType" == "bool" && "str" == "int")) = false := by decide +kernel
theorem ty_NoneType_list : (("NoneType" : String) == "list" || ("NoneType" == "bool" && "list" == "int")) = false := by decide +kernel
theorem ty_NoneType_int : (("NoneType" : String) == "int" || ("NoneType" == "bool" && "int" == "int")) = false := by decide +kernel
theorem ty_NoneType_dict : (("NoneType" : String) == "dict" || ("NoneType" == "bool" && "dict" == "int")) = false := by decide +kernel
theorem ty_NoneType_bool : (("NoneType" : String) == "bool" || ("NoneType" == "bool" && "bool" == "int")) = false := by decide +kernel
theorem ty_bool_tuple : (("bool" : String) == "tuple" || ("bool" == "bool" && "tuple" == "int")) = false := by decide +kernel
theorem ty_bool_str : (("bool" : String) == "str" || ("bool" == "bool" && "str" == "int")) = false := by decide +kernel
theorem ty_bool_list : (("bool" : String) == "list" || ("bool" == "bool" && "list" == "int")) = false := by decide +kernel
theorem ty_bool_int : (("bool" : String) == "int" || ("bool" == "bool" && "int" == "int")) = true := by decide +kernel
theorem ty_bool_dict : (("bool" : String) == "dict" || ("bool" == "bool" && "dict" == "int")) = false := by decide +kernel
theorem ty_bool_bool : (("bool" : String) == "bool" || ("bool" == "bool" && "bool" == "int")) = true := by decide +kernel
theorem ty_int_tuple : (("int" : String) == "tuple" || ("int" == "bool" && "tuple" == "int")) = false := by decide +kernel
theorem ty_int_str : (("int" : String) == "str" || ("int" == "bool" && "str" == "int")) = false := by decide +kernel
theorem ty_int_list : (("int" : String) == "list" || ("int" == "bool" && "list" == "int")) = false := by decide +kernel
theorem ty_int_int : (("int" : String) == "int" || ("int" == "bool" && "int" == "int")) = true := by decide +kernel
theorem ty_int_dict : (("int" : String) == "dict" || ("int" == "bool" && "dict" == "int")) = false := by decide +kernel
theorem ty_int_bool : (("int" : String) == "bool" || ("int" == "bool" && "bool" == "int")) = false := by decide +kernel
theorem ty_str_tuple : (("str" : String) == "tuple" || ("str" == "bool" && "tuple" == "int")) = false := by decide +kernel
theorem ty_str_str : (("str" : String) == "str" || ("str" == "bool" && "str" == "int")) = true := by decide +kernel
theorem ty_str_list : (("str" : String) == "list" || ("str" == "bool" && "list" == "int")) = false := by decide +kernel
theorem ty_str_int : (("str" : String) == "int" || ("str" == "bool" && "int" == "int")) = false := by decide +kernel
theorem ty_str_dict : (("str" : String) == "dict" || ("str" == "bool" && "dict" == "int")) = false := by decide +kernel
theorem ty_str_bool : (("str" : String) == "bool" || ("str" == "bool" && "bool" == "int")) = false := by decide +kernel
theorem ty_list_tuple : (("list" : String) == "tuple" || ("list" == "bool" && "tuple" == "int")) = false := by decide +kernel
theorem ty_list_str : (("list" : String) == "str" || ("list" == "bool" && "str" == "int")) = false := by decide +kernel
theorem ty_list_list : (("list" : String) == "list" || ("list" == "bool" && "list" == "int")) = true := by decide +kernel
theorem ty_list_int : (("list" : String) == "int" || ("list" == "bool" && "int" == "int")) = false := by decide +kernel
theorem ty_list_dict : (("list" : String) == "dict" || ("list" == "bool" && "dict" == "int")) = false := by decide +kernel
theorem ty_list_bool : (("list" : String) == "bool" || ("list" == "bool" && "bool" == "int")) = false := by decide +kernel
theorem ty_tuple_tuple : (("tuple" : String) == "tuple" || ("tuple" == "bool" && "tuple" == "int")) = true := by decide +kernel
theorem ty_tuple_str : (("tuple" : String) == "str" || ("tuple" == "bool" && "str" == "int")) = false := by decide +kernel
theorem ty_tuple_list : (("tuple" : String) == "list" || ("tuple" == "bool" && "list" == "int")) = false := by decide +kernel
theorem ty_tuple_int : (("tuple" : String) == "int" || ("tuple" == "bool" && "int" == "int")) = false := by decide +kernel
theorem ty_tuple_dict : (("tuple" : String) == "dict" || ("tuple" == "bool" && "dict" == "int")) = false := by decide +kernel
theorem ty_tuple_bool : (("tuple" : String) == "bool" || ("tuple" == "bool" && "bool" == "int")) = false := by decide +kernel
theorem ty_dict_tuple : (("dict" : String) == "tuple" || ("dict" == "bool" && "tuple" == "int")) = false := by decide +kernel
theorem ty_dict_str : (("dict" : String) == "str" || ("dict" == "bool" && "str" == "int")) = false := by decide +kernel
theorem ty_dict_list : (("dict" : String) == "list" || ("dict" == "bool" && "list" == "int")) = false := by decide +kernel
theorem ty_dict_int : (("dict" : String) == "int" || ("dict" == "bool" && "int" == "int")) = false := by decide +kernel
theorem ty_dict_dict : (("dict" : String) == "dict" || ("dict" == "bool" && "dict" == "int")) = true := by decide +kernel
theorem ty_dict_bool : (("dict" : String) == "bool" || ("dict" == "bool" && "bool" == "int")) = false := by decide +kernel
theorem bls_map (bs : List Bool) : blsOf (bs.map D.bl) = some bs := by
  induction bs with
  | nil => rfl
  | cons b bs ih => rw [List.map_cons, blsOf, ih]; rfl
theorem bi_all (bs : List Bool) (c : Bool) (G : List C) : biD .all c [.lst (bs.map D.bl)] G = some (.bl (bs.all id), G) := by
  show (blsOf (bs.map D.bl)).map _ = _
  rw [bls_map]
  rfl
theorem bi_any (bs : List Bool) (c : Bool) (G : List C) : biD .any c [.lst (bs.map D.bl)] G = some (.bl (bs.any id), G) := by
  show (blsOf (bs.map D.bl)).map _ = _
  rw [bls_map]
  rfl
theorem bi_tuple (xs : List D) (c : Bool) (G : List C) : biD .tuple c [.lst xs] G = some (.tup xs, G) := rfl
theorem sgn_S (c : Nat) : sgn c = S [c] := rfl
def signsW : W := [97, 98, 99, 100, 101, 102, 103, 104, 105, 106, 107, 108, 109, 110, 111, 112, 113, 114, 115, 116, 117, 118, 119, 120, 121, 122]
theorem l_signs : Str.ofString "abcdefghijklmnopqrstuvwxyz" = S signsW := by decide +kernel
def kp (p : W × W) : D := .tup [sd p.1, sd p.2]
theorem zipT (ks ls : List W) : List.zipWith (fun a b => D.tup [a, b]) (ks.map sd) (ls.map sd) = (ks.zip ls).map kp := by
  rw [List.zipWith_map, List.map_zip_eq_zipWith]
  rfl
theorem add_int (c : Bool) (i j : Int) (G : List C) : binD .add c (.int i) (.int j) G = some (.int (i + j), G) := rfl
theorem sub_int (c : Bool) (i j : Int) (G : List C) : binD .sub c (.int i) (.int j) G = some (.int (i - j), G) := rfl
theorem cat_lst {xs ys : List D} (h : (xs ++ ys).length ≤ 100000) (G : List C) : binD .add false (.lst xs) (.lst ys) G = some (.lst (xs ++ ys), G) := by
  show mkL false (xs ++ ys) G = _
  unfold mkL
  rw [if_pos (Nat.le_trans h (by decide))]
  rfl
theorem mkL_true {xs : List D} {G : List C} (h : xs.length ≤ 100000) : mkL true xs G = some (.cell G.length, G ++ [.lst xs]) := by
  unfold mkL
  rw [if_pos (Nat.le_trans h (by decide))]
  rfl
theorem l_err5 : Str.ofString "err" = S [101, 114, 114] := by decide +kernel
theorem l_not : Str.ofString "not" = S [110, 111, 116] := by decide +kernel
theorem l_z : Str.ofString "z" = S [122] := by decide +kernel
theorem l_zz : Str.ofString "zz" = S [122, 122] := by decide +kernel
theorem mkL_nil (G : List C) : mkL false [] G = some (.lst [], G) := by simp [mkL, sizeLine]
theorem attr_sorts (T : Tab) (G : List C) : attrD (sh T) "sorts" G = some (.tup (T.kinds.map sd)) := by
  simp [attrD, sh, fieldOf]
theorem attr_grids (T : Tab) (G : List C) : attrD (sh T) "grids" G = some (opsD T) := by
  have : ("sorts" : Str) ≠ "grids" := by decide +kernel
  simp [attrD, sh, fieldOf, this]
theorem attr_rows (T : Tab) (G : List C) : attrD (sh T) "rows" G = some (castsD T) := by
  have h1 : ("sorts" : Str) ≠ "rows" := by decide +kernel
  have h2 : ("grids" : Str) ≠ "rows" := by decide +kernel
  simp [attrD, sh, fieldOf, h1, h2]
theorem idx_ops {T : Tab} {n : W} {f : W → W → O} (h : T.op n = some f) (G : List C) : idxD (opsD T) (sd n) G = some (gridD T.kinds f) := by
  show (if isKey false (sd n) = true then dget _ _ _ else none) = _
  refine Eq.trans (if_pos rfl) ?_
  rw [dget_ops, h]
  rfl
theorem idx_casts {T : Tab} {n : W} {f : W → O} (h : T.cast n = some f) (G : List C) : idxD (castsD T) (sd n) G = some (rowD T.kinds f) := by
  show (if isKey false (sd n) = true then dget _ _ _ else none) = _
  refine Eq.trans (if_pos rfl) ?_
  rw [dget_casts, h]
  rfl
theorem idx_grid {ks : List W} {f : W → W → O} {a b : W} (ha : a ∈ ks) (hb : b ∈ ks) (G : List C) : idxD (gridD ks f) (.tup [sd a, sd b]) G = some (f a b).ed := by
  show (if isKey true (.tup [sd a, sd b]) = true then dget _ _ _ else none) = _
  refine Eq.trans (if_pos rfl) ?_
  rw [dget_grid ha hb]
theorem idx_row {ks : List W} {f : W → O} {a : W} (ha : a ∈ ks) (G : List C) : idxD (rowD ks f) (sd a) G = some (f a).ed := by
  show (if isKey false (sd a) = true then dget _ _ _ else none) = _
  refine Eq.trans (if_pos rfl) ?_
  rw [dget_row ha]
theorem eq_sd (a b : W) : eqD (sd a) (sd b) = decide (a = b) := S_beq_eq
theorem eqOk_sd (a b : W) : eqOk (sd a) (sd b) = true := rfl
theorem in2 (a b c : W) (G : List C) : inD (sd a) (.tup [sd b, sd c]) G = some (decide (b = a) || decide (c = a)) := by
  show (if (([sd b, sd c].all fun z => eqOk z (sd a)) && D.plain false (sd a)) = true then some ([sd b, sd c].any fun z => eqD z (sd a)) else none) = _
  refine Eq.trans (if_pos rfl) ?_
  simp only [List.any_cons, List.any_nil, eq_sd, Bool.or_false]
theorem cmp_inn (x y : D) (G : List C) : cmpD .inn x y G = inD x y G := rfl
theorem cmp_nin (x y : D) (G : List C) : cmpD .nin x y G = (inD x y G).map not := rfl
theorem cmp_gt (i j : Int) (G : List C) : cmpD .gt (.int i) (.int j) G = some (decide (j < i)) := rfl
theorem cmp_lt (i j : Int) (G : List C) : cmpD .lt (.int i) (.int j) G = some (decide (i < j)) := rfl
theorem cmp_ge (i j : Int) (G : List C) : cmpD .ge (.int i) (.int j) G = some (decide (j ≤ i)) := rfl
theorem cmp_le (i j : Int) (G : List C) : cmpD .le (.int i) (.int j) G = some (decide (i ≤ j)) := rfl
def isNon : D → Bool
  | .non => true
  | _ => false
theorem cmp_isn (x : D) (G : List C) : cmpD .isn x .non G = some (isNon x) := by cases x <;> rfl
theorem cmp_notn (x : D) (G : List C) : cmpD .notn x .non G = some (!isNon x) := by cases x <;> rfl
theorem l_outcome : Str.ofString "outcome" = S [111, 117, 116, 99, 111, 109, 101] := by decide +kernel
theorem l_reached : Str.ofString "reached" = S [114, 101, 97, 99, 104, 101, 100] := by decide +kernel
theorem l_never : Str.ofString "never" = S [110, 101, 118, 101, 114] := by decide +kernel
theorem l_grouping : Str.ofString "grouping" = S [103, 114, 111, 117, 112, 105, 110, 103] := by decide +kernel
theorem l_hangs : Str.ofString "hangs" = S [104, 97, 110, 103, 115] := by decide +kernel
theorem l_exchange : Str.ofString "exchange" = S [101, 120, 99, 104, 97, 110, 103, 101] := by decide +kernel
theorem l_turns : Str.ofString "turns" = S [116, 117, 114, 110, 115] := by decide +kernel
theorem l_folds : Str.ofString "folds" = S [102, 111, 108, 100, 115] := by decide +kernel
theorem l_order : Str.ofString "order" = S [111, 114, 100, 101, 114] := by decide +kernel
theorem l_equal : Str.ofString "equal" = S [101, 113, 117, 97, 108] := by decide +kernel
theorem l_breaks : Str.ofString "breaks" = S [98, 114, 101, 97, 107, 115] := by decide +kernel
theorem l_alike : Str.ofString "alike" = S [97, 108, 105, 107, 101] := by decide +kernel
theorem l_apart : Str.ofString "apart" = S [97, 112, 97, 114, 116] := by decide +kernel
theorem l_worse : Str.ofString "worse" = S [119, 111, 114, 115, 101] := by decide +kernel
theorem l_same : Str.ofString "same" = S [115, 97, 109, 101] := by decide +kernel
theorem l_told : Str.ofString "told" = S [116, 111, 108, 100] := by decide +kernel
theorem l_op : Str.ofString "op" = S [111, 112] := by decide +kernel
theorem l_cast : Str.ofString "cast" = S [99, 97, 115, 116] := by decide +kernel
theorem l_kinds_ : Str.ofString "kinds " = S [107, 105, 110, 100, 115, 32] := by decide +kernel
theorem l_op_ : Str.ofString "op " = S [111, 112, 32] := by decide +kernel
theorem l_cast_ : Str.ofString "cast " = S [99, 97, 115, 116, 32] := by decide +kernel
theorem it_0 (a0 : D) (r : List D) (G : List C) : idxD (.tup (a0 :: r)) (.int 0) G = some a0 := by
  show atI _ _ = _
  simp only [atI, ixN, List.length_cons]
  rw [if_pos (by omega), if_pos (by omega)]
  rfl
theorem it_1 (a0 a1 : D) (r : List D) (G : List C) : idxD (.tup (a0 :: a1 :: r)) (.int 1) G = some a1 := by
  show atI _ _ = _
  simp only [atI, ixN, List.length_cons]
  rw [if_pos (by omega), if_pos (by omega)]
  rfl
theorem it_2 (a0 a1 a2 : D) (r : List D) (G : List C) : idxD (.tup (a0 :: a1 :: a2 :: r)) (.int 2) G = some a2 := by
  show atI _ _ = _
  simp only [atI, ixN, List.length_cons]
  rw [if_pos (by omega), if_pos (by omega)]
  rfl
theorem it_3 (a0 a1 a2 a3 : D) (r : List D) (G : List C) : idxD (.tup (a0 :: a1 :: a2 :: a3 :: r)) (.int 3) G = some a3 := by
  show atI _ _ = _
  simp only [atI, ixN, List.length_cons]
  rw [if_pos (by omega), if_pos (by omega)]
  rfl
theorem it_4 (a0 a1 a2 a3 a4 : D) (r : List D) (G : List C) : idxD (.tup (a0 :: a1 :: a2 :: a3 :: a4 :: r)) (.int 4) G = some a4 := by
  show atI _ _ = _
  simp only [atI, ixN, List.length_cons]
  rw [if_pos (by omega), if_pos (by omega)]
  rfl
theorem it_5 (a0 a1 a2 a3 a4 a5 : D) (r : List D) (G : List C) : idxD (.tup (a0 :: a1 :: a2 :: a3 :: a4 :: a5 :: r)) (.int 5) G = some a5 := by
  show atI _ _ = _
  simp only [atI, ixN, List.length_cons]
  rw [if_pos (by omega), if_pos (by omega)]
  rfl
theorem cmp_eq_int (i j : Int) (G : List C) : cmpD .eq (.int i) (.int j) G = some (decide (i = j)) := by
  show (if eqOk (.int i) (.int j) = true then some (eqD (.int i) (.int j)) else none) = _
  refine Eq.trans (if_pos rfl) ?_
  rw [eqD]
  rfl
theorem cmp_ne_int (i j : Int) (G : List C) : cmpD .ne (.int i) (.int j) G = some (!decide (i = j)) := by
  show (if eqOk (.int i) (.int j) = true then some (!eqD (.int i) (.int j)) else none) = _
  refine Eq.trans (if_pos rfl) ?_
  rw [eqD]
  rfl
theorem cut2 (a b : D) (r : List D) (G : List C) : sliceD false (.tup (a :: b :: r)) (some 2) none G = some (.tup r, G) := by
  show some (D.tup (Iv.cutD _ _ _), G) = _
  unfold Iv.cutD
  simp [HT.sIx]
theorem bi_len_tup (xs : List D) (c : Bool) (G : List C) : biD .len c [.tup xs] G = some (.int xs.length, G) := rfl
theorem bi_len_lst (xs : List D) (c : Bool) (G : List C) : biD .len c [.lst xs] G = some (.int xs.length, G) := rfl
theorem c_cast (n : Nat) : ((no_index (OfNat.ofNat n) : Nat) : Int) = (OfNat.ofNat n : Int) := rfl
theorem isNon_ins (c : Str) (fs : List Str) (vs : List D) : isNon (.ins c fs vs) = false := rfl
theorem isNon_lst (xs : List D) : isNon (.lst xs) = false := rfl
theorem isNon_dic (t : Bool) (ks vs : List D) : isNon (.dic t ks vs) = false := rfl
theorem isNon_str (x : Str) : isNon (.str x) = false := rfl
theorem isNon_bl (b : Bool) : isNon (.bl b) = false := rfl
theorem isNon_int (b : Int) : isNon (.int b) = false := rfl
theorem isNon_non : isNon .non = true := rfl
theorem isNon_tup (xs : List D) : isNon (.tup xs) = false := rfl
theorem cmp_eq_sd (a b : W) (G : List C) : cmpD .eq (sd a) (sd b) G = some (decide (a = b)) := by
  show (if eqOk (sd a) (sd b) = true then some (eqD (sd a) (sd b)) else none) = _
  refine Eq.trans (if_pos rfl) ?_
  rw [eq_sd]
theorem cmp_ne_sd (a b : W) (G : List C) : cmpD .ne (sd a) (sd b) G = some (!decide (a = b)) := by
  show (if eqOk (sd a) (sd b) = true then some (!eqD (sd a) (sd b)) else none) = _
  refine Eq.trans (if_pos rfl) ?_
  rw [eq_sd]
theorem ends_bang (a : W) (G : List C) : methD .endswith false (sd a) [sd [33]] G = some (.bl (a.getLast? == some 33), G) := by
  show some (D.bl (Txt.endswith _ _), G) = _
  rw [endswith1]
theorem cut_last {a : W} (h : a.length ≤ 100000) (G : List C) : sliceD false (sd a) none (some (-1)) G = some (sd a.dropLast, G) := by
  show (if (S a).length ≤ sizeLine then _ else none) = _
  rw [if_pos (by rw [S_len]; exact Nat.le_trans h (by decide)), cut_init]
theorem add_sd {a b : W} (h : a.length ≤ 100000) (h2 : b.length ≤ 100000) (c : Bool) (G : List C) : binD .add c (sd a) (sd b) G = some (sd (a ++ b), G) := by
  show (if (S a).length + (S b).length ≤ sizeLine then _ else none) = _
  rw [if_pos (by rw [S_len, S_len]; exact Nat.le_trans (Nat.add_le_add h h2) (by decide)), S_cat]

/-! sizes -/
theorem Nm.l1000 {k : W} (h : Nm k) : k.length ≤ 100000 := Nat.le_trans h.len (by decide)
theorem O.len {o : O} (h : OV o) : o.w.length ≤ 9 := by
  cases o with
  | err => decide
  | kd k l =>
    have := h.len
    cases l <;> simp [O.w] <;> omega
def O.lost : O → Bool
  | .kd _ l => l
  | .err => false
def O.kind : O → W
  | .kd k _ => k
  | .err => wErr
theorem O.last_w {o : O} (h : OV o) : (o.w.getLast? == some 33) = o.lost := by
  cases o with
  | err => rfl
  | kd k l =>
    cases l
    · exact beq_eq_false_iff_ne.mpr h.last
    · simp [O.w, O.lost]
theorem O.last_ew {o : O} (h : OV o) : (o.ew.getLast? == some 33) = o.lost := by
  cases o with
  | err => rfl
  | kd k l =>
    cases l
    · exact beq_eq_false_iff_ne.mpr h.last
    · simp [O.ew, O.lost]
variable {wf : Nat}
/-- without the sign of loss -/
def kindW (w : W) : W := if (w.getLast? == some 33) = true then w.dropLast else w
def lostW (w : W) : Bool := w.getLast? == some 33
def markW (w : W) (l : Bool) : W := if w = [45] then wErr else if (l || lostW w) = true then kindW w ++ [33] else w
theorem kindW_len {w : W} {n : Nat} (h : w.length ≤ n) : (kindW w).length ≤ n := by
  unfold kindW
  split
  · rw [List.length_dropLast]; omega
  · exact h
theorem c_kind_of {w : W} (h : w.length ≤ 100000) : Con PT wf 1 "kind_of" [sd w] (sd (kindW w)) := by
  refine Con.of0 (F := F_kind_of) rfl rfl rfl rfl rfl fun m hm => ?_
  simp only [F_kind_of]
  push_cast [l_bang, ends_bang, cut_last h]
  unfold kindW
  cases w.getLast? == some 33 <;> rfl
theorem c_marked_by {w : W} {l : Bool} (h : w.length ≤ 900) : Con PT wf 2 "marked_by" [sd w, .bl l] (sd (markW w l)) := by
  refine Con.of0 (F := F_marked_by) rfl rfl rfl rfl rfl fun m hm => ?_
  have hk := (c_kind_of (wf := wf) (w := w) (by omega)) m hm
  have hkl := kindW_len h
  simp only [F_marked_by]
  unfold markW lostW
  by_cases hw : w = [45] <;> cases l <;> cases hb : w.getLast? == some 33 <;>
  push_cast [l_bang, l_dash, l_error, ends_bang, cmp_eq_sd, hk, add_sd (a := kindW w) (b := [33]) (by omega) (by decide), hw, hb, decide_true, decide_false]

theorem kindW_kd {a : W} {l : Bool} (h : Nm a) : kindW (O.kd a l).w = a := by
  have e := O.last_w (o := .kd a l) h
  unfold kindW
  rw [e]
  cases l
  · rfl
  · simp [O.lost, O.w]
theorem kindW_ke {a : W} {l : Bool} (h : Nm a) : kindW (O.kd a l).ew = a := kindW_kd h
theorem lostW_w {o : O} (h : OV o) : lostW o.w = o.lost := O.last_w h
theorem lostW_ew {o : O} (h : OV o) : lostW o.ew = o.lost := O.last_ew h
theorem ew_dash {a : W} {l : Bool} (h : Nm a) : (O.kd a l).ew ≠ [45] := fun e => by
  have : (45 : Nat) ∈ (O.kd a l).ew := by rw [e]; simp
  cases l
  · exact h.lw.no (c := 45) (by decide) this
  · simp only [O.ew, if_true, List.mem_append, List.mem_singleton] at this
    rcases this with q | q
    · exact h.lw.no (c := 45) (by decide) q
    · cases q
theorem markW_ew {o : O} {l : Bool} (h : OV o) : markW o.ew l = (mark o l).w := by
  cases o with
  | err => simp [markW, O.ew, mark, O.w]
  | kd a m =>
    unfold markW
    rw [if_neg (ew_dash h), lostW_ew h, kindW_ke h]
    cases l <;> cases m <;> rfl
theorem O.elen {o : O} (h : OV o) : o.ew.length ≤ 9 := by
  cases o with
  | err => decide
  | kd k l =>
    have := h.len
    cases l <;> simp [O.ew] <;> omega
theorem err_w : O.err.w = wErr := rfl
theorem err_err : decide (wErr = wErr) = true := rfl
theorem kd_err {a : W} {l : Bool} (h : Nm a) : decide ((O.kd a l).w = wErr) = false := decide_eq_false fun e => by
  have := O.w_inj (a := .kd a l) (b := .err) h trivial e
  cases this
theorem Tab.op_mem {T : Tab} {n : W} {f : W → W → O} (h : T.op n = some f) : ∃ p ∈ T.ops, p.1 = n ∧ p.2 = f := by
  unfold Tab.op at h
  cases e : T.ops.find? (fun p => decide (p.1 = n)) with
  | none => rw [e] at h; cases h
  | some p =>
    rw [e] at h
    cases h
    exact ⟨p, List.mem_of_find?_eq_some e, by simpa using List.find?_some e, rfl⟩
theorem Tab.cast_mem {T : Tab} {n : W} {f : W → O} (h : T.cast n = some f) : ∃ p ∈ T.casts, p.1 = n ∧ p.2 = f := by
  unfold Tab.cast at h
  cases e : T.casts.find? (fun p => decide (p.1 = n)) with
  | none => rw [e] at h; cases h
  | some p =>
    rw [e] at h
    cases h
    exact ⟨p, List.mem_of_find?_eq_some e, by simpa using List.find?_some e, rfl⟩
theorem Tab.Ok.opE {T : Tab} (h : T.Ok) {n : W} {f : W → W → O} (hf : T.op n = some f) {a b : W} (ha : a ∈ T.kinds) (hb : b ∈ T.kinds) : ent T.kinds (f a b) := by
  obtain ⟨p, hp, _, rfl⟩ := Tab.op_mem hf
  exact h.oe p hp a ha b hb
theorem Tab.Ok.castE {T : Tab} (h : T.Ok) {n : W} {f : W → O} (hf : T.cast n = some f) {a : W} (ha : a ∈ T.kinds) : ent T.kinds (f a) := by
  obtain ⟨p, hp, _, rfl⟩ := Tab.cast_mem hf
  exact h.ce p hp a ha
theorem Tab.Ok.eov {T : Tab} (h : T.Ok) {o : O} (m : ent T.kinds o) : OV o := h.ov (mem_outs.mpr m)
theorem mark_ent {ks : List W} {o : O} {l : Bool} (h : ent ks o) : ent ks (mark o l) := by
  cases o with
  | err => trivial
  | kd k m => exact h
theorem joinF_mem {T : Tab} (h : T.Ok) {n : W} {f : W → W → O} (hf : T.op n = some f) {a b : O} (ha : a ∈ T.outs) (hb : b ∈ T.outs) : joinF f a b ∈ T.outs := by
  rw [mem_outs] at *
  cases a with
  | err => cases b <;> trivial
  | kd a l =>
    cases b with
    | err => trivial
    | kd b m => exact mark_ent (h.opE hf ha hb)
theorem turnF_mem {T : Tab} (h : T.Ok) {n : W} {f : W → O} (hf : T.cast n = some f) {a : O} (ha : a ∈ T.outs) : turnF f a ∈ T.outs := by
  rw [mem_outs] at *
  cases a with
  | err => trivial
  | kd a l => exact mark_ent (h.castE hf ha)

/-! the sheet has no cells -/
theorem cl_sd (k : Nat) (w : W) : D.clean k (sd w) = true := rfl
theorem cl_opsD (k : Nat) (T : Tab) : D.clean k (opsD T) = true := by
  unfold opsD
  rw [D.clean]
  refine clean_map fun p _ => ?_
  unfold gridD
  rw [D.clean]
  exact clean_map fun _ _ => rfl
theorem cl_castsD (k : Nat) (T : Tab) : D.clean k (castsD T) = true := by
  unfold castsD
  rw [D.clean]
  refine clean_map fun p _ => ?_
  unfold rowD
  rw [D.clean]
  exact clean_map fun _ _ => rfl
theorem cl_sds (k : Nat) (ws : List W) : D.cleans k (ws.map sd) = true := clean_map fun _ _ => rfl
theorem cl_os (k : Nat) (os : List O) : D.cleans k (os.map O.d) = true := clean_map fun _ _ => rfl
theorem cl_sh (k : Nat) (T : Tab) : D.clean k (sh T) = true := by
  unfold sh
  simp only [D.clean, D.cleans, cl_opsD, cl_castsD, cl_sds, Bool.and_true]
theorem cl_web (k : Nat) (T : Tab) : D.clean k (web T) = true := by
  unfold web
  simp only [D.clean, D.cleans, cl_opsD, cl_castsD, cl_sds, Bool.and_true]
theorem c_joined {T : Tab} (h : T.Ok) {n : W} {f : W → W → O} (hf : T.op n = some f) {a b : O} (ha : a ∈ T.outs) (hb : b ∈ T.outs) : Con PT wf 3 "joined" [sh T, sd n, a.d, b.d] (joinF f a b).d := by
  refine Con.of0 (F := F_joined) rfl rfl (by simp only [D.cleans, D.clean, cl_sh, Bool.and_true]) rfl rfl fun m hm => ?_
  simp only [F_joined]
  cases a with
  | err => push_cast [err_w, err_err, joinF]
  | kd a l =>
    have na : Nm a := h.ov ha
    cases b with
    | err => push_cast [err_w, err_err, joinF]
    | kd b l' =>
      have nb : Nm b := h.ov hb
      have ka : a ∈ T.kinds := mem_outs.mp ha
      have kb : b ∈ T.kinds := mem_outs.mp hb
      have k1 := (c_kind_of (wf := wf) (w := (O.kd a l).w) (by have := O.len (o := .kd a l) na; omega)) m (by omega)
      have k2 := (c_kind_of (wf := wf) (w := (O.kd b l').w) (by have := O.len (o := .kd b l') nb; omega)) m (by omega)
      rw [kindW_kd na] at k1
      rw [kindW_kd nb] at k2
      have ov := h.eov (h.opE hf ka kb)
      have k3 := fun z => (c_marked_by (wf := wf) (w := (f a b).ew) (l := z) (by have := O.elen ov; omega)) m (by omega)
      simp only [markW_ew ov] at k3
      have e1 : ((O.kd a l).w.getLast? == some 33) = l := O.last_w (o := .kd a l) na
      have e2 : ((O.kd b l').w.getLast? == some 33) = l' := O.last_w (o := .kd b l') nb
      cases l <;> cases l' <;> push_cast [kd_err na, kd_err nb, k1, k2, k3, e1, e2, idx_ops hf, idx_grid ka kb, joinF]

/-! in */ -/
theorem eqOk_str {z : D} {w : W} (h1 : D.plain false z = true) (h2 : D.depth z ≤ 60) : eqOk z (sd w) = true := by
  unfold eqOk
  rw [h1, show D.plain false (sd w) = true from rfl]
  simp [h2]
theorem plains_all {ds : List D} (h : D.plains false ds = true) : ∀ z ∈ ds, D.plain false z = true := by
  induction ds with
  | nil => intro z hz; cases hz
  | cons x ds ih =>
    rw [D.plains, Bool.and_eq_true] at h
    intro z hz
    rcases List.mem_cons.mp hz with rfl | hz
    · exact h.1
    · exact ih h.2 z hz
theorem depths_all {k : Nat} {ds : List D} (h : D.depths ds ≤ k) : ∀ z ∈ ds, D.depth z ≤ k := by
  induction ds with
  | nil => intro z hz; cases hz
  | cons x ds ih =>
    rw [D.depths] at h
    intro z hz
    rcases List.mem_cons.mp hz with rfl | hz
    · omega
    · exact ih (by omega) z hz
theorem in_tup {xs : List D} (h1 : D.plains false xs = true) (h2 : D.depths xs ≤ 50) (w : W) (G : List C) : inD (sd w) (.tup xs) G = some (xs.any fun z => eqD z (sd w)) := by
  show (if ((xs.all fun z => eqOk z (sd w)) && D.plain false (sd w)) = true then some (xs.any fun z => eqD z (sd w)) else none) = _
  refine Eq.trans (if_pos ?_) rfl
  rw [Bool.and_eq_true, List.all_eq_true]
  exact ⟨fun z hz => eqOk_str (plains_all h1 z hz) (Nat.le_trans (depths_all h2 z hz) (by decide)), rfl⟩
theorem plains_sds (ws : List W) : D.plains false (ws.map sd) = true := by
  induction ws with
  | nil => rfl
  | cons w ws ih => rw [List.map_cons, D.plains, ih]; rfl
theorem depths_sds (ws : List W) : D.depths (ws.map sd) = 0 := by
  induction ws with
  | nil => rfl
  | cons w ws ih => rw [List.map_cons, D.depths, ih]; rfl
theorem any_sds (ws : List W) (w : W) : (ws.map sd).any (fun z => eqD z (sd w)) = decide (w ∈ ws) := by
  induction ws with
  | nil => simp
  | cons x ws ih =>
    rw [List.map_cons, List.any_cons, ih, eq_sd]
    by_cases h : x = w
    · simp [h]
    · simp [h, Ne.symm h]
theorem in_sds (ws : List W) (w : W) (G : List C) : inD (sd w) (.tup (ws.map sd)) G = some (decide (w ∈ ws)) := by
  rw [in_tup (plains_sds ws) (by rw [depths_sds]; exact Nat.zero_le _), any_sds]
theorem in_lst (ws : List W) (w : W) (G : List C) : inD (sd w) (.lst (ws.map sd)) G = some (decide (w ∈ ws)) := by
  show (if (((ws.map sd).all fun z => eqOk z (sd w)) && D.plain false (sd w)) = true then some ((ws.map sd).any fun z => eqD z (sd w)) else none) = _
  rw [any_sds]
  refine Eq.trans (if_pos ?_) rfl
  rw [Bool.and_eq_true, List.all_eq_true]
  exact ⟨fun z hz => eqOk_str (plains_all (plains_sds ws) z hz) (Nat.le_trans (depths_all (k := 0) (by rw [depths_sds]; exact Nat.le_refl _) z hz) (by decide)), rfl⟩
theorem map_od (os : List O) : os.map O.d = (os.map O.w).map sd := by rw [List.map_map]; rfl
theorem mem_w {T : Tab} (h : T.Ok) {os : List O} (hs : ∀ o ∈ os, o ∈ T.outs) {o : O} (ho : o ∈ T.outs) : o.w ∈ os.map O.w ↔ o ∈ os := by
  rw [List.mem_map]
  constructor
  · rintro ⟨p, hp, e⟩
    rw [← O.w_inj (h.ov (hs p hp)) (h.ov ho) e]
    exact hp
  · exact fun m => ⟨o, m, rfl⟩
theorem in_os {T : Tab} (h : T.Ok) {os : List O} (hs : ∀ o ∈ os, o ∈ T.outs) {o : O} (ho : o ∈ T.outs) (G : List C) : inD o.d (.tup (os.map O.d)) G = some (decide (o ∈ os)) := by
  rw [map_od]
  show inD (sd o.w) _ _ = _
  rw [in_sds]
  exact congrArg some (decide_eq_decide.mpr (mem_w h hs ho))
theorem in_opsD (T : Tab) (n : W) (G : List C) : inD (sd n) (opsD T) G = some (T.op n).isSome := by
  show (if isKey false (sd n) = true then some (dget _ _ _).isSome else none) = _
  refine Eq.trans (if_pos rfl) ?_
  rw [dget_ops]
  cases T.op n <;> rfl
theorem in_castsD (T : Tab) (n : W) (G : List C) : inD (sd n) (castsD T) G = some (T.cast n).isSome := by
  show (if isKey false (sd n) = true then some (dget _ _ _).isSome else none) = _
  refine Eq.trans (if_pos rfl) ?_
  rw [dget_casts]
  cases T.cast n <;> rfl

/-! all outcomes */ -/
theorem fm_len (ks : List W) : (ks.flatMap fun k => [O.kd k false, O.kd k true]).length = 2 * ks.length := by
  induction ks with
  | nil => rfl
  | cons k ks ih => rw [List.flatMap_cons, List.length_append, ih]; simp; omega
theorem outs_len {T : Tab} (h : T.Ok) : T.outs.length ≤ 17 := by
  unfold Tab.outs
  rw [List.length_append, fm_len]
  have := h.nk.2
  simp
  omega
theorem c_outcomes_of {T : Tab} (h : T.Ok) : Con PT wf 1 "outcomes_of" [sh T] (.tup (T.outs.map O.d)) := by
  refine Con.of0 (F := F_outcomes_of) rfl rfl (by simp only [D.cleans, cl_sh, Bool.and_true]) (by rw [D.clean]; exact cl_os _ _) rfl fun m hm => ?_
  simp only [F_outcomes_of]
  push_cast
  have hk := h.nk.2
  generalize hL : loopS _ _ _ _ = L
  obtain ⟨ρ1, G1, rfl, rfl, x, rfl⟩ : ∃ ρ1 G1, L = some (.nx, ρ1, G1) ∧ G1 = [] ∧ ∃ x, ρ1 = [some (sh T), some (.lst ((T.kinds.flatMap (fun k => [O.kd k false, O.kd k true])).map O.d)), x] := by
    rw [← hL]
    refine loopS_run (fun dn ρ G => G = [] ∧ ∃ x, ρ = [some (sh T), some (.lst ((dn.flatMap (fun k => [O.kd k false, O.kd k true])).map O.d)), x]) ⟨rfl, _, rfl⟩ ?_
    rintro dn k rest er ρ G ⟨rfl, x, rfl⟩
    have hm : k ∈ T.kinds := by rw [er]; simp
    have nk := h.knm hm
    have hl := congrArg List.length er
    rw [List.length_append, List.length_cons] at hl
    push_cast [stF, add_sd (a := k) (b := [33]) nk.l1000 (by decide)]
    rw [mkL_small (by rw [List.length_append, List.length_map, fm_len]; simp; omega)]
    refine ⟨_, _, rfl, rfl, some (sd k), ?_⟩
    rw [List.flatMap_append, List.map_append]
    rfl
  push_cast
  rw [if_pos (Nat.le_trans (m := 17) (by rw [List.length_append, List.length_map, fm_len]; simp; omega) (by decide))]
  unfold Tab.outs
  rw [List.map_append]
  rfl

/-! values of any kind */ -/
inductive Vl : D → Prop
  | tup {xs : List D} : D.plains false xs = true → D.depths xs ≤ 50 → Vl (.tup xs)
  | non : Vl .non
  | bl (b : Bool) : Vl (.bl b)
  | int (i : Int) : Vl (.int i)
  | str (x : Str) : Vl (.str x)
  | lst {xs : List D} : D.plains false xs = true → D.depths xs ≤ 50 → Vl (.lst xs)
  | dic {ks vs : List D} : D.cleans 0 vs = true → Vl (.dic false ks vs)
mutual
theorem plain_clean : ∀ {d : D}, D.plain false d = true → D.clean 0 d = true
  | .non, _ => rfl
  | .bl _, _ => rfl
  | .int _, _ => rfl
  | .str _, _ => rfl
  | .lst xs, h => by rw [D.plain] at h; rw [D.clean]; exact plains_clean h
  | .tup xs, h => by rw [D.plain] at h; rw [D.clean]; exact plains_clean h
theorem plains_clean : ∀ {ds : List D}, D.plains false ds = true → D.cleans 0 ds = true
  | [], _ => rfl
  | d :: ds, h => by
    rw [D.plains, Bool.and_eq_true] at h
    rw [D.cleans, plain_clean h.1, plains_clean h.2]
    rfl
end
theorem Vl.clean {v : D} (h : Vl v) : D.clean 0 v = true := by
  cases h with
  | tup h _ => rw [D.clean]; exact plains_clean h
  | lst h _ => rw [D.clean]; exact plains_clean h
  | dic h => rw [D.clean]; exact h
  | non => rfl
  | bl => rfl
  | int => rfl
  | str => rfl
theorem Vl.sds (ws : List W) : Vl (.tup (ws.map sd)) := .tup (plains_sds ws) (by rw [depths_sds]; exact Nat.zero_le _)
theorem eqs_sds {xs : List D} {ws : List W} (h : eqDs xs (ws.map sd) = true) : xs = ws.map sd := by
  induction ws generalizing xs with
  | nil =>
    cases xs with
    | nil => rfl
    | cons x xs => simp [eqDs] at h
  | cons w ws ih =>
    cases xs with
    | nil => simp [eqDs] at h
    | cons x xs =>
      rw [List.map_cons, eqDs, Bool.and_eq_true] at h
      rw [List.map_cons, ih h.2]
      congr 1
      cases x <;> simp [eqD] at h
      rw [h.1]
theorem eqs_refl (ws : List W) : eqDs (ws.map sd) (ws.map sd) = true := by
  induction ws with
  | nil => rfl
  | cons w ws ih => rw [List.map_cons, eqDs, ih, eq_sd]; simp
theorem cmp_eq_tup {xs ys : List D} (h1 : D.plains false xs = true) (h2 : D.depths xs ≤ 50) (h3 : D.plains false ys = true) (h4 : D.depths ys ≤ 50) (G : List C) : cmpD .eq (.tup xs) (.tup ys) G = some (eqDs xs ys) := by
  show (if eqOk (.tup xs) (.tup ys) = true then some (eqD (.tup xs) (.tup ys)) else none) = _
  refine Eq.trans (if_pos ?_) (by rw [eqD])
  unfold eqOk
  rw [D.plain, D.plain, h1, h3, D.depth]
  simp
  omega
def isLot (T : Tab) : D → Bool
  | .tup xs => eqDs xs ((T.outs.filter fun o => xs.any fun z => eqD z o.d).map O.d)
  | _ => false
theorem isLot_iff {T : Tab} (h : T.Ok) {v : D} (hl : isLot T v = true) : ∃ os : List O, v = .tup (os.map O.d) ∧ os = T.outs.filter fun o => decide (o ∈ os) := by
  cases v <;> simp only [isLot, Bool.false_eq_true] at hl
  rename_i xs
  rw [map_od] at hl
  have e := eqs_sds hl
  rw [← map_od] at e
  refine ⟨_, by rw [← e], ?_⟩
  generalize hos : T.outs.filter (fun o => xs.any fun z => eqD z o.d) = os at *
  have hs : ∀ o ∈ os, o ∈ T.outs := by
    intro o ho
    rw [← hos] at ho
    exact (List.mem_filter.mp ho).1
  have hf : ∀ o ∈ T.outs, (xs.any fun z => eqD z o.d) = decide (o ∈ os) := by
    intro o ho
    rw [e, map_od, any_sds]
    exact decide_eq_decide.mpr (mem_w h hs ho)
  conv => lhs; rw [← hos]
  exact List.filter_congr hf
theorem c_is_lot {T : Tab} (h : T.Ok) {v : D} (hv : Vl v) : Con PT wf 2 "is_lot" [sh T, v] (.bl (isLot T v)) := by
  refine Con.of0 (F := F_is_lot) rfl rfl (by simp only [D.cleans, cl_sh, hv.clean, Bool.and_true]) rfl rfl fun m hm => ?_
  simp only [F_is_lot]
  have k1 := c_outcomes_of (wf := wf) h m (by omega)
  have hl := outs_len h
  cases hv with
  | tup h1 h2 =>
    rename_i xs
    push_cast [k1]
    generalize hL : compL _ _ _ = L
    obtain rfl : L = some ((T.outs.filter fun o => xs.any fun z => eqD z o.d).map O.d, []) := by
      rw [← hL]
      refine compL_filter fun o ho => ?_
      push_cast [stC, in_tup h1 h2]
      cases xs.any fun z => eqD z (sd o.w) <;> rfl
    have hz := List.length_filter_le (fun o => xs.any fun z => eqD z o.d) T.outs
    push_cast [mkL_small (xs := (T.outs.filter fun o => xs.any fun z => eqD z o.d).map O.d) (by rw [List.length_map]; omega), cmp_eq_tup h1 h2 (ys := (T.outs.filter fun o => xs.any fun z => eqD z o.d).map O.d) (by rw [map_od]; exact plains_sds _) (by rw [map_od, depths_sds]; exact Nat.zero_le _), isLot]
  | non => push_cast [isLot]
  | bl => push_cast [isLot]
  | int => push_cast [isLot]
  | str => push_cast [isLot]
  | lst => push_cast [isLot]
  | dic => push_cast [isLot]

def isMarked (T : Tab) : D → Bool
  | .tup xs => eqDs xs ((T.kinds.filter fun k => xs.any fun z => eqD z (sd k)).map sd)
  | _ => false
def lenT : D → Nat
  | .tup xs => xs.length
  | _ => 0
def isLeaves (T : Tab) (v : D) : Bool := isMarked T v && decide (0 < lenT v)
theorem isMarked_iff {T : Tab} {v : D} (hl : isMarked T v = true) : ∃ ks : List W, v = .tup (ks.map sd) ∧ ks = T.kinds.filter fun k => decide (k ∈ ks) := by
  cases v <;> simp only [isMarked, Bool.false_eq_true] at hl
  rename_i xs
  have e := eqs_sds hl
  refine ⟨_, by rw [← e], ?_⟩
  generalize hos : T.kinds.filter (fun o => xs.any fun z => eqD z (sd o)) = os at *
  have hf : ∀ o ∈ T.kinds, (xs.any fun z => eqD z (sd o)) = decide (o ∈ os) := by
    intro o ho
    rw [e, any_sds]
  conv => lhs; rw [← hos]
  exact List.filter_congr hf
theorem c_is_marked {T : Tab} (h : T.Ok) {v : D} (hv : Vl v) : Con PT wf 1 "is_marked" [sh T, v] (.bl (isMarked T v)) := by
  refine Con.of0 (F := F_is_marked) rfl rfl (by simp only [D.cleans, cl_sh, hv.clean, Bool.and_true]) rfl rfl fun m hm => ?_
  simp only [F_is_marked]
  have hl := h.nk.2
  cases hv with
  | tup h1 h2 =>
    rename_i xs
    push_cast
    generalize hL : compL _ _ _ = L
    obtain rfl : L = some ((T.kinds.filter fun k => xs.any fun z => eqD z (sd k)).map sd, []) := by
      rw [← hL]
      refine compL_filter fun o ho => ?_
      push_cast [stC, in_tup h1 h2]
      cases xs.any fun z => eqD z (sd o) <;> rfl
    have hz := List.length_filter_le (fun k => xs.any fun z => eqD z (sd k)) T.kinds
    push_cast [mkL_small (xs := (T.kinds.filter fun k => xs.any fun z => eqD z (sd k)).map sd) (by rw [List.length_map]; omega), cmp_eq_tup h1 h2 (ys := (T.kinds.filter fun k => xs.any fun z => eqD z (sd k)).map sd) (plains_sds _) (by rw [depths_sds]; exact Nat.zero_le _), isMarked]
  | non => push_cast [isMarked]
  | bl => push_cast [isMarked]
  | int => push_cast [isMarked]
  | str => push_cast [isMarked]
  | lst => push_cast [isMarked]
  | dic => push_cast [isMarked]
theorem int0_lt (n : Nat) : decide ((0 : Int) < n) = decide (0 < n) := decide_eq_decide.mpr (by omega)
theorem c_are_leaves {T : Tab} (h : T.Ok) {v : D} (hv : Vl v) : Con PT wf 2 "are_leaves" [sh T, v] (.bl (isLeaves T v)) := by
  refine Con.of0 (F := F_are_leaves) rfl rfl (by simp only [D.cleans, cl_sh, hv.clean, Bool.and_true]) rfl rfl fun m hm => ?_
  simp only [F_are_leaves]
  have k1 := c_is_marked (wf := wf) h hv m (by omega)
  unfold isLeaves
  cases e : isMarked T v
  · push_cast [k1, e]
  · obtain ⟨ks, rfl, _⟩ := isMarked_iff e
    push_cast [k1, e, bi_len_tup, int0_lt, lenT] <;> rfl
def strOf : D → W
  | .str x => x.cps.toList
  | _ => []
def isStr : D → Bool
  | .str _ => true
  | _ => false
theorem sd_strOf (x : Str) : D.str x = sd (strOf (.str x)) := by
  show D.str x = D.str (S x.cps.toList)
  rw [S_tl]
theorem c_is_named_ops {T : Tab} {v : D} (hv : Vl v) : Con PT wf 1 "is_named" [opsD T, v] (.bl (isStr v && (T.op (strOf v)).isSome)) := by
  refine Con.of0 (F := F_is_named) rfl rfl (by simp only [D.cleans, cl_opsD, hv.clean, Bool.and_true]) rfl rfl fun m hm => ?_
  simp only [F_is_named]
  cases hv with
  | str x =>
    rw [sd_strOf x]
    generalize strOf (.str x) = w
    push_cast [in_opsD, isStr, show strOf (sd w) = w from rfl]
  | tup => push_cast [isStr]
  | non => push_cast [isStr]
  | bl => push_cast [isStr]
  | int => push_cast [isStr]
  | lst => push_cast [isStr]
  | dic => push_cast [isStr]

/-! the checker's reckoning with lots */ -/
def dJ (f : W → W → O) (a b : O) : Bool := decide (joinF f a b = joinF f b a)
def swapsF (f : W → W → O) (os : List O) : Bool := os.all fun a => os.all fun b => dJ f a b
theorem itN_os (os : List O) (y : D) (G : List C) : itemsN .plain (.tup (os.map O.d)) y G = some (os.map O.d) := rfl
theorem itN_ol (os : List O) (y : D) (G : List C) : itemsN .plain (.lst (os.map O.d)) y G = some (os.map O.d) := rfl
theorem eq_o {T : Tab} (h : T.Ok) {a b : O} (ha : a ∈ T.outs) (hb : b ∈ T.outs) : decide (a.w = b.w) = decide (a = b) := decide_eq_decide.mpr (O.w_eq (h.ov ha) (h.ov hb))
theorem all_fm {α β : Type} (xs : List α) (ys : List β) (b : α → β → Bool) : ((xs.flatMap fun x => ys.map (b x)).all id) = xs.all fun x => ys.all (b x) := by
  induction xs with
  | nil => rfl
  | cons x xs ih => rw [List.flatMap_cons, List.all_append, ih, List.all_cons, List.all_map]; rfl
theorem any_fm {α β : Type} (xs : List α) (ys : List β) (b : α → β → Bool) : ((xs.flatMap fun x => ys.map (b x)).any id) = xs.any fun x => ys.any (b x) := by
  induction xs with
  | nil => rfl
  | cons x xs ih => rw [List.flatMap_cons, List.any_append, ih, List.any_cons, List.any_map]; rfl
theorem fm_map {α β : Type} (xs : List α) (ys : List β) (b : α → β → Bool) : (xs.flatMap fun x => ys.map fun y => D.bl (b x y)) = (xs.flatMap fun x => ys.map (b x)).map D.bl := by
  rw [List.map_flatMap]
  congr 1
  funext x
  rw [List.map_map]
  rfl
theorem fm_length {α β : Type} (xs : List α) (ys : List β) (b : α → β → Bool) : (xs.flatMap fun x => ys.map (b x)).length = xs.length * ys.length := by
  induction xs with
  | nil => simp
  | cons x xs ih => rw [List.flatMap_cons, List.length_append, ih, List.length_map, List.length_cons, Nat.succ_mul, Nat.add_comm]
theorem c_swaps {T : Tab} (h : T.Ok) {n : W} {f : W → W → O} (hf : T.op n = some f) {os : List O} (hs : ∀ o ∈ os, o ∈ T.outs) (hl : os.length ≤ 30) {lot : D} (hlot : lot = .tup (os.map O.d) ∨ lot = .lst (os.map O.d)) : Con PT wf 4 "swaps" [sh T, sd n, lot] (.bl (swapsF f os)) := by
  refine Con.of0 (F := F_swaps) rfl rfl (by rcases hlot with rfl | rfl <;> simp only [D.cleans, D.clean, cl_sh, cl_os, Bool.and_true]) rfl rfl fun m hm => ?_
  simp only [F_swaps]
  have hz : ((os.flatMap fun a => os.map (dJ f a)).map D.bl).length ≤ 100000 := by
    rw [List.length_map, fm_length]
    exact Nat.le_trans (Nat.mul_le_mul hl hl) (by decide)
  have step : ∀ a ∈ os, ∀ b ∈ os, ∀ G, cfOf PT wf m false "joined" [sh T, sd n, a.d, b.d] G = some ((joinF f a b).d, G) := fun a ha b hb => c_joined h hf (hs a ha) (hs b hb) m (by omega)
  rcases hlot with rfl | rfl
  · push_cast
    generalize hL : compL _ _ _ = L
    obtain rfl : L = some ((os.flatMap fun a => os.map (dJ f a)).map D.bl, []) := by
      rw [← hL, ← fm_map os os (dJ f)]
      refine compL_map fun a ha => ?_
      push_cast [stC2, itN_os]
      refine compL_map1 fun b hb => ?_
      push_cast [stD]
      have j1 := step a ha b hb
      have j2 := step b hb a ha
      push_cast [j1, j2, dJ, eq_o h (joinF_mem h hf (hs a ha) (hs b hb)) (joinF_mem h hf (hs b hb) (hs a ha))]
    push_cast [mkL_small hz, swapsF, all_fm]
  · push_cast
    generalize hL : compL _ _ _ = L
    obtain rfl : L = some ((os.flatMap fun a => os.map (dJ f a)).map D.bl, []) := by
      rw [← hL, ← fm_map os os (dJ f)]
      refine compL_map fun a ha => ?_
      push_cast [stC2, itN_ol]
      refine compL_map1 fun b hb => ?_
      push_cast [stD]
      have j1 := step a ha b hb
      have j2 := step b hb a ha
      push_cast [j1, j2, dJ, eq_o h (joinF_mem h hf (hs a ha) (hs b hb)) (joinF_mem h hf (hs b hb) (hs a ha))]
    push_cast [mkL_small hz, swapsF, all_fm]

def turnsF (f : W → W → O) (s a b : O) : Bool := !decide (joinF f (joinF f s a) b = joinF f (joinF f s b) a)
theorem c_turns_fold {T : Tab} (h : T.Ok) {n : W} {f : W → W → O} (hf : T.op n = some f) {s a b : O} (hs : s ∈ T.outs) (ha : a ∈ T.outs) (hb : b ∈ T.outs) : Con PT wf 4 "turns_fold" [sh T, sd n, s.d, a.d, b.d] (.bl (turnsF f s a b)) := by
  refine Con.of0 (F := F_turns_fold) rfl rfl (by simp only [D.cleans, D.clean, cl_sh, Bool.and_true]) rfl rfl fun m hm => ?_
  simp only [F_turns_fold]
  have m1 := joinF_mem h hf hs ha
  have m2 := joinF_mem h hf hs hb
  have k1 := c_joined (wf := wf) h hf hs ha m (by omega)
  have k2 := c_joined (wf := wf) h hf hs hb m (by omega)
  have k3 := c_joined (wf := wf) h hf m1 hb m (by omega)
  have k4 := c_joined (wf := wf) h hf m2 ha m (by omega)
  push_cast [k1, k2, k3, k4, turnsF, eq_o h (joinF_mem h hf m1 hb) (joinF_mem h hf m2 ha)]
/-- a lot shows that order does not matter for folds */ -/
def foldsLot (f : W → W → O) (lv os : List O) : Bool :=
  (lv.all fun l => decide (l ∈ os)) && swapsF f lv && os.all fun s => (lv.all fun l => decide (joinF f s l ∈ os)) && !(lv.any fun a => lv.any fun b => turnsF f s a b)
theorem c_folds_by {T : Tab} (h : T.Ok) {n : W} {f : W → W → O} (hf : T.op n = some f) {lv : List O} (hs : ∀ o ∈ lv, o ∈ T.outs) (hl : lv.length ≤ 30) {lot : D} (hv : Vl lot) {os : List O} (hos : isLot T lot = true → lot = .tup (os.map O.d) ∧ ∀ o ∈ os, o ∈ T.outs) :
    Con PT wf 5 "folds_by" [sh T, sd n, .tup (lv.map O.d), lot] (.bl (isLot T lot && foldsLot f lv os)) := by
  refine Con.of0 (F := F_folds_by) rfl rfl (by simp only [D.cleans, D.clean, cl_sh, cl_os, hv.clean, Bool.and_true]) rfl rfl fun m hm => ?_
  simp only [F_folds_by]
  have k1 := c_is_lot (wf := wf) h hv m (by omega)
  cases e : isLot T lot
  · push_cast [k1, e]
  · obtain ⟨rfl, hm2⟩ := hos e
    have k2 := c_swaps (wf := wf) h hf hs hl (.inl rfl) m (by omega)
    have kj : ∀ a ∈ os, ∀ b ∈ lv, ∀ G, cfOf PT wf m false "joined" [sh T, sd n, a.d, b.d] G = some ((joinF f a b).d, G) := fun a ha b hb => c_joined h hf (hm2 a ha) (hs b hb) m (by omega)
    have kt : ∀ s ∈ os, ∀ a ∈ lv, ∀ b ∈ lv, ∀ G, cfOf PT wf m false "turns_fold" [sh T, sd n, s.d, a.d, b.d] G = some (.bl (turnsF f s a b), G) := fun s hs' a ha b hb => c_turns_fold h hf (hm2 s hs') (hs a ha) (hs b hb) m (by omega)
    push_cast [k1, e]
    generalize hL : compL _ _ _ = L
    obtain rfl : L = some ((lv.map fun l => decide (l ∈ os)).map D.bl, []) := by
      rw [← hL, List.map_map]
      refine compL_map1 fun a ha => ?_
      push_cast [stC, in_os h hm2 (hs a ha)] <;> rfl
    push_cast [mkL_small (xs := (lv.map fun l => decide (l ∈ os)).map D.bl) (by simp; omega), foldsLot, k2]
    cases e1 : (lv.map fun l => decide (l ∈ os)).all id
    · have e2 : (lv.all fun l => decide (l ∈ os)) = false := by
        rw [List.all_map] at e1
        exact e1
      push_cast [e2]
    · have e2 : (lv.all fun l => decide (l ∈ os)) = true := by
        rw [List.all_map] at e1
        exact e1
      cases e3 : swapsF f lv
      · push_cast [k2, e2, e3]
      · push_cast [k2, e2, e3]
        generalize hL : loopS _ _ _ _ = L
        obtain ⟨ρ1, G1, rfl, rfl, x, y, z, u, rfl⟩ : ∃ ρ1 G1, L = some (if (os.any fun s => !((lv.all fun l => decide (joinF f s l ∈ os)) && !(lv.any fun a => lv.any fun b => turnsF f s a b))) = true then .ret (.bl false) else .nx, ρ1, G1) ∧ G1 = [] ∧ ∃ x y z u, ρ1 = [some (sh T), some (sd n), some (.tup (lv.map O.d)), some (.tup (os.map O.d)), x, y, z, u] := by
          rw [← hL]
          refine loopS_find (I := fun ρ1 G1 => G1 = [] ∧ ∃ x y z u, ρ1 = [some (sh T), some (sd n), some (.tup (lv.map O.d)), some (.tup (os.map O.d)), x, y, z, u]) ⟨rfl, _, _, _, _, rfl⟩ ?_
          rintro s hs' ρ G ⟨rfl, x, y, z, u, rfl⟩
          push_cast [stF]
          generalize hL : compL _ _ _ = L
          obtain rfl : L = some ((lv.map fun l => decide (joinF f s l ∈ os)).map D.bl, []) := by
            rw [← hL, List.map_map]
            refine compL_map1 fun a ha => ?_
            have j1 := kj s hs' a ha
            push_cast [stC, j1, in_os h hm2 (joinF_mem h hf (hm2 s hs') (hs a ha))] <;> rfl
          push_cast [mkL_small (xs := (lv.map fun l => decide (joinF f s l ∈ os)).map D.bl) (by simp; omega)]
          cases e4 : (lv.map fun l => decide (joinF f s l ∈ os)).all id
          · have e5 : (lv.all fun l => decide (joinF f s l ∈ os)) = false := by
              rw [List.all_map] at e4
              exact e4
            push_cast [e5]
            exact ⟨_, _, rfl, rfl, _, _, _, _, rfl⟩
          · have e5 : (lv.all fun l => decide (joinF f s l ∈ os)) = true := by
              rw [List.all_map] at e4
              exact e4
            push_cast [e5]
            generalize hL : compL _ _ _ = L
            obtain rfl : L = some ((lv.flatMap fun a => lv.map (turnsF f s a)).map D.bl, []) := by
              rw [← hL, ← fm_map lv lv (turnsF f s)]
              refine compL_map fun a ha => ?_
              push_cast [stC2, itN_os]
              refine compL_map1 fun b hb => ?_
              push_cast [stD]
              have j1 := kt s hs' a ha b hb
              push_cast [j1]
            have hz : ((lv.flatMap fun a => lv.map (turnsF f s a)).map D.bl).length ≤ 100000 := by
              rw [List.length_map, fm_length]
              exact Nat.le_trans (Nat.mul_le_mul hl hl) (by decide)
            push_cast [mkL_small hz, any_fm]
            cases (lv.any fun a => lv.any fun b => turnsF f s a b)
            · push_cast
              exact ⟨_, _, rfl, rfl, _, _, _, _, rfl⟩
            · push_cast
              exact ⟨_, _, rfl, rfl, _, _, _, _, rfl⟩
        rw [List.all_eq_not_any_not]
        cases os.any fun s => !((lv.all fun l => decide (joinF f s l ∈ os)) && !(lv.any fun a => lv.any fun b => turnsF f s a b))
        · push_cast
        · push_cast

/-- the outcome with this text */ -/
def toO (w : W) : O := if w = wErr then .err else .kd (kindW w) (lostW w)
theorem toO_w {o : O} (h : OV o) : toO o.w = o := by
  cases o with
  | err => rfl
  | kd k l =>
    unfold toO
    rw [if_neg (by have := kd_err (l := l) h; simpa using this), kindW_kd h, lostW_w h]
    rfl
def osOf : D → List O
  | .tup xs => xs.map fun d => toO (strOf d)
  | _ => []
theorem osOf_map {T : Tab} (h : T.Ok) {os : List O} (hs : ∀ o ∈ os, o ∈ T.outs) : osOf (.tup (os.map O.d)) = os := by
  show (os.map O.d).map _ = os
  rw [List.map_map]
  refine (List.map_congr_left fun o ho => ?_).trans (List.map_id os)
  exact toO_w (h.ov (hs o ho))
theorem isLot_os {T : Tab} (h : T.Ok) {v : D} (hl : isLot T v = true) : v = .tup ((osOf v).map O.d) ∧ (∀ o ∈ osOf v, o ∈ T.outs) ∧ osOf v = T.outs.filter fun o => decide (o ∈ osOf v) := by
  obtain ⟨os, rfl, e⟩ := isLot_iff h hl
  have hs : ∀ o ∈ os, o ∈ T.outs := fun o ho => by
    rw [e] at ho
    exact (List.mem_filter.mp ho).1
  rw [osOf_map h hs]
  exact ⟨rfl, hs, e⟩
theorem isMarked_os {T : Tab} (h : T.Ok) {v : D} (hl : isMarked T v = true) : v = .tup ((osOf v).map O.d) ∧ (∀ o ∈ osOf v, o ∈ T.outs) ∧ (osOf v).length ≤ 8 ∧ ∀ o ∈ osOf v, ∃ k ∈ T.kinds, o = .kd k false := by
  obtain ⟨ks, rfl, e⟩ := isMarked_iff hl
  have hs : ∀ o ∈ ks.map (fun k => O.kd k false), o ∈ T.outs := fun o ho => by
    obtain ⟨k, hk, rfl⟩ := List.mem_map.mp ho
    rw [e] at hk
    exact mem_outs.mpr (List.mem_filter.mp hk).1
  have e2 : ks.map sd = (ks.map fun k => O.kd k false).map O.d := by
    rw [List.map_map]
    rfl
  rw [e2, osOf_map h hs]
  refine ⟨rfl, hs, ?_, fun o ho => ?_⟩
  · rw [List.length_map, e]
    exact Nat.le_trans (List.length_filter_le _ _) h.nk.2
  · obtain ⟨k, hk, rfl⟩ := List.mem_map.mp ho
    rw [e] at hk
    exact ⟨k, (List.mem_filter.mp hk).1, rfl⟩
def opOf (T : Tab) (v : D) : Option (W → W → O) := if isStr v = true then T.op (strOf v) else none
theorem opOf_some {T : Tab} {v : D} {f : W → W → O} (h : opOf T v = some f) : v = sd (strOf v) ∧ T.op (strOf v) = some f := by
  unfold opOf at h
  split at h
  · rename_i hs
    cases v <;> simp only [isStr, Bool.false_eq_true] at hs
    exact ⟨sd_strOf _, h⟩
  · cases h
theorem opOf_is {T : Tab} {v : D} : (isStr v && (T.op (strOf v)).isSome) = (opOf T v).isSome := by
  unfold opOf
  cases isStr v <;> simp
def foldsOk (T : Tab) (v l p : D) : Bool := match opOf T v with
  | some f => isLeaves T l && (isLot T p && foldsLot f (osOf l) (osOf p))
  | none => false
theorem c_folds_shown {T : Tab} (h : T.Ok) {v l p : D} (hv : Vl v) (hl : Vl l) (hp : Vl p) : Con PT wf 6 "folds_shown" [.str "folds", sh T, .tup [v, l], p] (.bl (foldsOk T v l p)) := by
  refine Con.of0 (F := F_folds_shown) rfl rfl (by simp only [D.cleans, D.clean, cl_sh, hv.clean, hl.clean, hp.clean, Bool.and_true]) rfl rfl fun m hm => ?_
  simp only [F_folds_shown]
  have k1 := c_is_named_ops (wf := wf) (T := T) hv m (by omega)
  have k2 := c_are_leaves (wf := wf) h hl m (by omega)
  rw [opOf_is] at k1
  unfold foldsOk
  cases e1 : opOf T v with
  | none => push_cast [k1, e1, Option.isSome_none]
  | some f =>
    cases e2 : isLeaves T l with
    | false => push_cast [k1, e1, k2, e2, Option.isSome_some]
    | true =>
      obtain ⟨ev, ef⟩ := opOf_some e1
      have e3 : isMarked T l = true := by
        unfold isLeaves at e2
        rw [Bool.and_eq_true] at e2
        exact e2.1
      obtain ⟨el, hlm, hl8, _⟩ := isMarked_os h e3
      have k3 := c_folds_by (wf := wf) h ef hlm (by omega) hp (os := osOf p) (fun e => ⟨(isLot_os h e).1, (isLot_os h e).2.1⟩) m (by omega)
      rw [← ev, ← el] at k3
      push_cast [k1, e1, k2, e2, k3, Option.isSome_some]
theorem c_length_of_folds : Con PT wf 1 "length_of" [.str "folds"] (.int 4) := by
  refine Con.of0 (F := F_length_of) rfl rfl rfl rfl rfl fun m hm => ?_
  kernel_rfl
theorem in2' (a b c : W) (G : List C) : inD (.str (S a)) (.tup [.str (S b), .str (S c)]) G = some (decide (b = a) || decide (c = a)) := in2 a b c G
theorem c_shown_folds {T : Tab} (h : T.Ok) {v l p : D} (hv : Vl v) (hl : Vl l) (hp : Vl p) : Con PT wf 7 "shown" [.str "folds", sh T, .tup [v, l], p] (.bl (foldsOk T v l p)) := by
  refine Con.of0 (F := F_shown) rfl rfl (by simp only [D.cleans, D.clean, cl_sh, hv.clean, hl.clean, hp.clean, Bool.and_true]) rfl rfl fun m hm => ?_
  simp only [F_shown]
  have k1 := c_folds_shown (wf := wf) h hv hl hp m (by omega)
  rw [l_folds] at k1
  push_cast [k1]
theorem c_accepts_folds {T : Tab} (h : T.Ok) {pg : W} {kr : Nat} (hr : Con PT wf kr "read_sheet" [sd pg] (sh T)) (hk : 7 ≤ kr) {v l p : D} (hv : Vl v) (hl : Vl l) (hp : Vl p) : Con PT wf (kr + 1) "accepts" [.tup [.str "folds", sd pg, v, l], p] (.bl (foldsOk T v l p)) := by
  refine Con.of0 (F := F_accepts) rfl rfl (by simp only [D.cleans, D.clean, hv.clean, hl.clean, hp.clean, Bool.and_true]) rfl rfl fun m hm => ?_
  simp only [F_accepts]
  have k1 := c_shown_folds (wf := wf) h hv hl hp m (by omega)
  have k2 := c_length_of_folds (wf := wf) m (by omega)
  have k3 := hr m hm
  rw [l_folds] at k1 k2
  have k4 : isNon (sh T) = false := rfl
  push_cast [k1, k2, k3, k4]

/-! reading the texts of tables: whatever the text */ -/
def tagOk (w : W) : Bool := (decide (1 ≤ w.length) && decide (w.length ≤ 8)) && (!decide (w = wErr) && w.all fun c => decide (c ∈ signsW))
theorem mem_signs (c : Nat) : c ∈ signsW ↔ 97 ≤ c ∧ c ≤ 122 := by
  unfold signsW
  simp only [List.mem_cons, List.not_mem_nil, or_false]
  omega
theorem tagOk_iff (w : W) : tagOk w = true ↔ Nm w := by
  unfold tagOk
  simp only [Bool.and_eq_true, decide_eq_true_eq, Bool.not_eq_true', decide_eq_false_iff_not, List.all_eq_true, mem_signs]
  constructor
  · rintro ⟨⟨h1, h2⟩, h3, h4⟩
    exact ⟨fun e => by subst e; simp at h1, h2, h4, h3⟩
  · intro h
    exact ⟨⟨List.length_pos_iff.mpr h.ne, h.len⟩, h.ner, h.lw⟩
theorem bi_len_sd {w : W} (h : w.length ≤ 100000) (c : Bool) (G : List C) : biD .len c [sd w] G = some (.int w.length, G) := by
  have : lenD (sd w) G = some w.length := by
    show (if (S w).length ≤ sizeLine then some (S w).length else none) = _
    rw [if_pos (by rw [S_len]; exact Nat.le_trans h (by decide)), S_len]
  simp only [biD, this]
  rfl
theorem int_le (a b : Nat) : decide ((a : Int) ≤ b) = decide (a ≤ b) := decide_eq_decide.mpr (by omega)
theorem int1_le (b : Nat) : decide ((1 : Int) ≤ b) = decide (1 ≤ b) := decide_eq_decide.mpr (by omega)
theorem int_le8 (b : Nat) : decide ((b : Int) ≤ 8) = decide (b ≤ 8) := decide_eq_decide.mpr (by omega)
theorem it_sd (w : W) (y : D) (G : List C) : itemsOf .plain (sd w) y G = some (w.map fun c => sd [c]) := rfl
theorem in_str1 (a : W) (c : Nat) (G : List C) : inD (sd [c]) (sd a) G = some (decide (c ∈ a)) := by
  show some (strIn (S [c]) (S a)) = _
  rw [strIn1]
theorem c_is_tag {w : W} (h : w.length ≤ 100000) : Con PT wf 1 "is_tag" [sd w] (.bl (tagOk w)) := by
  refine Con.of0 (F := F_is_tag) rfl rfl rfl rfl rfl fun m hm => ?_
  simp only [F_is_tag]
  unfold tagOk
  cases e1 : decide (1 ≤ w.length)
  · push_cast [bi_len_sd h, int1_le, e1]
  · cases e2 : decide (w.length ≤ 8)
    · push_cast [bi_len_sd h, int1_le, int_le8, e1, e2]
    · cases e3 : decide (w = wErr)
      · push_cast [bi_len_sd h, int1_le, int_le8, e1, e2, e3]
        generalize hL : compL _ _ _ = L
        obtain rfl : L = some ((w.map fun c => decide (c ∈ signsW)).map D.bl, []) := by
          rw [← hL, List.map_map]
          refine compL_map1 fun c hc => ?_
          push_cast [stC, l_signs, in_str1] <;> rfl
        push_cast [mkL_small (xs := (w.map fun c => decide (c ∈ signsW)).map D.bl) (by simp; omega), List.all_map] <;> rfl
      · push_cast [bi_len_sd h, int1_le, int_le8, e1, e2, e3]
def cellOk (ks : List W) (w : W) : Bool := decide (w = [45]) || (decide (w ∈ ks) || (lostW w && decide (w.dropLast ∈ ks)))
theorem c_is_cell {ks : List W} {w : W} (h : w.length ≤ 100000) : Con PT wf 1 "is_cell" [.tup (ks.map sd), sd w] (.bl (cellOk ks w)) := by
  refine Con.of0 (F := F_is_cell) rfl rfl (by simp only [D.cleans, D.clean, cl_sds, Bool.and_true]) rfl rfl fun m hm => ?_
  simp only [F_is_cell]
  unfold cellOk lostW
  cases e1 : decide (w = [45]) <;> cases e2 : decide (w ∈ ks) <;> cases e3 : w.getLast? == some 33 <;> push_cast [e1, e2, e3, in_sds, cut_last h]
theorem pairs_zip : ∀ (ks ws : List W), pairsOf (List.zipWith (fun a b => .tup [a, b]) (ks.map sd) (ws.map sd)) = some ((ks.zip ws).map fun p => (sd p.1, sd p.2))
  | [], _ => rfl
  | _ :: _, [] => rfl
  | k :: ks, w :: ws => by
    show (if isK (sd k) = true then (pairsOf (List.zipWith (fun a b => .tup [a, b]) (ks.map sd) (ws.map sd))).map ((sd k, sd w) :: ·) else none) = _
    rw [pairs_zip ks ws]
    rfl
theorem pairs_zip' (ks ws : List W) : pairsOf ((ks.zip ws).map kp) = some ((ks.zip ws).map fun p => (sd p.1, sd p.2)) := by
  rw [← zipT, pairs_zip]
theorem dput_new {ks : List W} {vs : List D} {k : W} (v : D) (h : k ∉ ks) : dputK (ks.map sd) (sd k) = ks.map sd ++ [sd k] ∧ dputV (ks.map sd) vs (sd k) v = vs ++ [v] := by
  have : ((ks.map sd).any fun x => kEq x (sd k)) = false := by
    rw [List.any_map, List.any_eq_false]
    intro x hx
    show ¬ kEq (sd x) (sd k) = true
    rw [kEq_str]
    have : x ≠ k := fun e => h (e ▸ hx)
    simp [this]
  unfold dputK dputV
  rw [this]
  exact ⟨rfl, rfl⟩
theorem dputs_new : ∀ (ks : List W) (vs : List D) (k0 : List W) (v0 : List D), ks.length = vs.length → (k0 ++ ks).Nodup → dputs (k0.map sd) v0 ((ks.zip vs).map fun p => (sd p.1, p.2)) = ((k0 ++ ks).map sd, v0 ++ vs)
  | [], [], k0, v0, _, _ => by simp [dputs]
  | k :: ks, v :: vs, k0, v0, hl, nd => by
    have nk : k ∉ k0 := by
      rw [List.nodup_append] at nd
      intro hm
      exact nd.2.2 k hm k (List.mem_cons_self ..) rfl
    obtain ⟨e1, e2⟩ := dput_new (vs := v0) v nk
    show dputs (dputK (k0.map sd) (sd k)) (dputV (k0.map sd) v0 (sd k) v) ((ks.zip vs).map fun p => (sd p.1, p.2)) = _
    rw [e1, e2, show k0.map sd ++ [sd k] = (k0 ++ [k]).map sd by simp]
    rw [dputs_new ks vs (k0 ++ [k]) (v0 ++ [v]) (by simpa using hl) (by simpa using nd)]
    simp
/-- ks with ws as a dict's -/
theorem c_read_cells {ks ws : List W} (hk : ks.Nodup) (h : ∀ w ∈ ws, w.length ≤ 100000) (hw : ws.length ≤ 100000) : Con PT wf 2 "read_cells" [.tup (ks.map sd), .lst (ws.map sd)]
    (if (decide (ws.length = ks.length) && ws.all (cellOk ks)) = true then .dic false (ks.map sd) (ws.map sd) else .non) := by
  refine Con.of0 (F := F_read_cells) rfl rfl (by simp only [D.cleans, D.clean, cl_sds, Bool.and_true]) (by split; rw [D.clean]; exact cl_sds _ _; rfl) rfl fun m hm => ?_
  simp only [F_read_cells]
  have ei : decide ((ws.length : Int) = ks.length) = decide (ws.length = ks.length) := decide_eq_decide.mpr (by omega)
  cases e1 : decide (ws.length = ks.length)
  · push_cast [List.length_map, ei, e1]
  · push_cast [List.length_map, ei, e1]
    generalize hL : compL _ _ _ = L
    obtain rfl : L = some ((ws.map (cellOk ks)).map D.bl, []) := by
      rw [← hL, List.map_map]
      refine compL_map1 fun w hm' => ?_
      have k1 := c_is_cell (wf := wf) (ks := ks) (h w hm') m (by omega)
      push_cast [stC, k1] <;> rfl
    push_cast [mkL_small (xs := (ws.map (cellOk ks)).map D.bl) (by simp; omega), List.all_map]
    have e2 : ws.all (id ∘ cellOk ks) = ws.all (cellOk ks) := rfl
    rw [e2]
    cases e3 : ws.all (cellOk ks)
    · push_cast
    · have e4 := dputs_new ks (ws.map sd) [] [] (by simpa using (of_decide_eq_true e1).symm) (by simpa using hk)
      have e5 : ((ks.zip (ws.map sd)).map fun p => (sd p.1, p.2)) = (ks.zip ws).map fun p => (sd p.1, sd p.2) := by
        rw [List.zip_map_right, List.map_map]
        rfl
      rw [e5] at e4
      simp only [List.map_nil, List.nil_append] at e4
      push_cast [pairs_zip', e4, mkK]

def sp (c : Nat) (a : W) : List W := TL.spl [c] 0 [] a
theorem sp_len (c : Nat) (hc : c < 256) (a : W) : (sp c a).length ≤ a.length + 2 := by
  have := PyProof.Rows.split_le (S a) (S [c])
  rw [split1 a c hc, List.length_map, S_len] at this
  exact this
theorem sp_part {c : Nat} (hc : c < 256) {a p : W} (h : p ∈ sp c a) : p.length ≤ a.length := by
  have : S p ∈ Txt.split (S a) (S [c]) := by
    rw [split1 a c hc]
    exact List.mem_map.mpr ⟨p, h, rfl⟩
  have := PyProof.Rows.part_short this
  rwa [S_len, S_len] at this
theorem sp_ne (c : Nat) (hc : c < 256) (a : W) : sp c a ≠ [] := by
  intro e
  have := PyProof.Rows.split_pos (S a) (S [c])
  rw [split1 a c hc, show TL.spl [c] 0 [] a = [] from e] at this
  simp at this
theorem split_sd {c : Nat} (hc : c < 256) {a : W} (h : a.length ≤ 99000) (G : List C) : methD .split false (sd a) [sd [c]] G = some (.lst ((sp c a).map sd), G) := by
  show (if ((S [c]).length == 0) = false ∧ (S a).length + 2 ≤ sizeLine then mkL false ((Txt.split (S a) (S [c])).map .str) G else none) = _
  rw [if_pos ⟨by rw [S_len]; rfl, by rw [S_len]; exact Nat.le_trans (Nat.add_le_add_right h 2) (by decide)⟩, split1 a c hc, List.map_map]
  have : (TL.spl [c] 0 [] a).length ≤ a.length + 2 := sp_len c hc a
  exact mkL_small (by rw [List.length_map]; omega)
/-- a line as a row of cells -/
def rowOk (ks : List W) (l : W) : Bool := decide ((sp 32 l).length = ks.length) && (sp 32 l).all (cellOk ks)
theorem dput_newT {ks : List (W × W)} {vs : List D} {k : W × W} (v : D) (h : k ∉ ks) : dputK (ks.map kp) (kp k) = ks.map kp ++ [kp k] ∧ dputV (ks.map kp) vs (kp k) v = vs ++ [v] := by
  have : ((ks.map kp).any fun x => kEq x (kp k)) = false := by
    rw [List.any_map, List.any_eq_false]
    intro x hx
    show ¬ kEq (kp x) (kp k) = true
    unfold kp
    rw [kEq_pair]
    have : x ≠ k := fun e => h (e ▸ hx)
    simp [this]
  unfold dputK dputV
  rw [this]
  exact ⟨rfl, rfl⟩
theorem set_dT {ks : List (W × W)} {vs : List D} {k : W × W} {v : D} {r : List C} (h : k ∉ ks) (hl : ks.length ≤ 100000) : setD (.cell 0) (.tup [sd k.1, sd k.2]) v (.dT (ks.map kp) vs :: r) = some (.dT ((ks ++ [k]).map kp) (vs ++ [v]) :: r) := by
  obtain ⟨e1, e2⟩ := dput_newT (vs := vs) v h
  show (if (isKey true (kp k) && decide ((ks.map kp).length < sizeLine)) = true then some ((.dT (ks.map kp) vs :: r).set 0 (.dT (dputK (ks.map kp) (kp k)) (dputV (ks.map kp) vs (kp k) v))) else none) = _
  rw [e1, e2, if_pos]
  · simp
  · rw [Bool.and_eq_true]
    refine ⟨rfl, decide_eq_true ?_⟩
    rw [List.length_map]
    exact Nat.lt_of_le_of_lt hl (by decide)
theorem find_key {β : Type} {z : List (W × β)} (nd : (z.map (·.1)).Nodup) {p : W × β} (h : p ∈ z) : z.find? (fun q => decide (q.1 = p.1)) = some p := by
  induction z with
  | nil => cases h
  | cons q z ih =>
    rw [List.find?_cons]
    rw [List.map_cons, List.nodup_cons] at nd
    rcases List.mem_cons.mp h with rfl | h
    · simp
    · have : q.1 ≠ p.1 := fun e => nd.1 (e ▸ List.mem_map_of_mem h)
      rw [decide_eq_false this]
      exact ih nd.2 h
theorem dget_zip {ks ws : List W} (hl : ws.length = ks.length) (nd : ks.Nodup) {p : W × W} (h : p ∈ ks.zip ws) : dget (ks.map sd) (ws.map sd) (sd p.1) = some (sd p.2) := by
  have e1 : (ks.zip ws).map (·.1) = ks := List.map_fst_zip (by omega)
  have e2 : (ks.zip ws).map (·.2) = ws := List.map_snd_zip (by omega)
  have e3 : ks.map sd = (ks.zip ws).map fun q => sd q.1 := by
    conv => lhs; rw [← e1]
    rw [List.map_map]; rfl
  have e4 : ws.map sd = (ks.zip ws).map fun q => sd q.2 := by
    conv => lhs; rw [← e2]
    rw [List.map_map]; rfl
  rw [e3, e4, dget_map (fun q : W × W => sd q.1) (fun q => sd q.2)]
  have : (fun q : W × W => kEq (sd q.1) (sd p.1)) = fun q => decide (q.1 = p.1) := by
    funext q
    exact kEq_str _ _
  rw [this, find_key (by rw [e1]; exact nd) h]
  rfl
theorem idx_dic {ks vs : List D} {t : Bool} {i : D} (h : isKey t i = true) (G : List C) : idxD (.dic t ks vs) i G = dget ks vs i := by
  show (if isKey t i = true then dget ks vs i else none) = _
  rw [if_pos h]
theorem idx_zip {ks ws : List W} (hl : ws.length = ks.length) (nd : ks.Nodup) {p : W × W} (h : p ∈ ks.zip ws) (G : List C) : idxD (.dic false (ks.map sd) (ws.map sd)) (sd p.1) G = some (sd p.2) := by
  rw [idx_dic rfl, dget_zip hl nd h]
theorem bi_lenT (ks vs : List D) (c : Bool) (r : List C) : biD .len c [.cell 0] (.dT ks vs :: r) = some (.int ks.length, .dT ks vs :: r) := rfl
theorem pow2 {n : Nat} (h : n ≤ 100000) (c : Bool) (G : List C) : binD .pow c (.int n) (.int 2) G = some (.int (n * n : Nat), G) := by
  show (if (0 : Int) ≤ 2 ∧ (2 : Int) ≤ 1000000 ∧ (n : Int).natAbs < 2 ^ 64 then some (D.int ((n : Int) ^ (2 : Int).toNat), G) else none) = _
  rw [if_pos ⟨by decide, by decide, by simp; omega⟩]
  congr 3
  show (n : Int) ^ 2 = _
  rw [Int.pow_succ, Int.pow_succ, Int.pow_zero, Int.one_mul]
  simp
theorem frz0 {c : C} (h : frzC (frz [c] 0 none 0) c = some c) : frzI (frz [c] 0 none 1) (.cell 0) = some c.toD := by
  show frz [c] 0 none 1 0 = _
  show (if (0 : Nat) < 0 then some (D.cell 0) else if (none : Option Nat) = some 0 then none else match [c][0]? with
    | some c => (frzC (frz [c] 0 none 0) c).map C.toD
    | none => none) = _
  rw [if_neg (by decide), if_neg (by simp)]
  show (frzC (frz [c] 0 none 0) c).map C.toD = _
  rw [h]
  rfl
def gridOf (ks ls : List W) : D := .dic true ((ks.zip ls).flatMap fun p => ks.map fun r => kp (p.1, r)) ((ks.zip ls).flatMap fun p => (sp 32 p.2).map sd)
def readGrid (ks ls : List W) : D := if (decide (ks.length ≤ ls.length) && (ls.take ks.length).all (rowOk ks)) = true then gridOf ks ls else .non

theorem len_fm {α : Type} (z : List α) (n : Nat) (g : α → List D) (h : ∀ x ∈ z, (g x).length = n) : (z.flatMap g).length = z.length * n := by
  induction z with
  | nil => simp
  | cons x z ih =>
    rw [List.flatMap_cons, List.length_append, ih fun y hy => h y (List.mem_cons_of_mem _ hy), h x (List.mem_cons_self ..), List.length_cons, Nat.succ_mul, Nat.add_comm]
theorem zip_ge {ks ls : List W} : (ks.zip ls).length = min ks.length ls.length := List.length_zip
theorem zip_all {ks ls : List W} (p : W → Bool) (h : ks.length ≤ ls.length) : ((ks.zip ls).any fun q => !p q.2) = !((ls.take ks.length).all p) := by
  induction ks generalizing ls with
  | nil => simp
  | cons k ks ih =>
    cases ls with
    | nil => simp at h
    | cons l ls =>
      rw [List.zip_cons_cons, List.any_cons, ih (by simpa using h), List.length_cons, List.take_succ_cons, List.all_cons, Bool.not_and]
theorem zip_sub : ∀ (ks ls : List W), ((ks.zip ls).map (·.1)).Sublist ks
  | [], _ => by simp
  | _ :: _, [] => by simp
  | k :: ks, l :: ls => (zip_sub ks ls).cons_cons k
theorem fp_len (z : List (W × W)) (ks : List W) : (z.flatMap fun p => ks.map fun r => (p.1, r)).length = z.length * ks.length := by
  induction z with
  | nil => simp
  | cons x z ih => rw [List.flatMap_cons, List.length_append, ih, List.length_map, List.length_cons, Nat.succ_mul, Nat.add_comm]
theorem c_read_grid {ks ls : List W} (nd : ks.Nodup) (hk0 : ks ≠ []) (hk : ks.length ≤ 300) (hl : ∀ l ∈ ls, l.length ≤ 99000) : Con PT wf 3 "read_grid" [.tup (ks.map sd), .lst (ls.map sd)] (readGrid ks ls) := by
  have cg : D.cleans 0 ((ks.zip ls).flatMap fun p => (sp 32 p.2).map sd) = true := by
    rw [show ((ks.zip ls).flatMap fun p => (sp 32 p.2).map sd) = ((ks.zip ls).flatMap fun p => sp 32 p.2).map sd by rw [List.map_flatMap]]
    exact cl_sds _ _
  refine Con.of (F := F_read_grid) rfl rfl (by simp only [D.cleans, D.clean, cl_sds, Bool.and_true]) (by unfold readGrid gridOf; split; rw [D.clean]; exact cg; rfl) rfl fun m hm => ?_
  simp only [F_read_grid]
  have kc : ∀ l : W, l ∈ ls → ∀ G, cfOf PT wf m false "read_cells" [.tup (ks.map sd), .lst ((sp 32 l).map sd)] G = some (if rowOk ks l = true then .dic false (ks.map sd) ((sp 32 l).map sd) else .non, G) := fun l hm' => by
    have h1 := hl l hm'
    exact c_read_cells nd (fun w hw => Nat.le_trans (sp_part (by decide) hw) (by omega)) (by have := sp_len 32 (by decide) l; omega) m (by omega)
  push_cast
  generalize hL : loopS _ _ _ _ = L
  obtain ⟨hl1, hl2⟩ : (((ks.zip ls).any fun q => !rowOk ks q.2) = true → ∃ ρ1 G1, L = some (.ret .non, ρ1, G1)) ∧ (((ks.zip ls).any fun q => !rowOk ks q.2) = false → ∃ ρ1 G1, L = some (.nx, ρ1, G1) ∧
      (fun (dn : List (W × W)) ρ G => ∃ a b c d, ρ = [some (.tup (ks.map sd)), some (.lst (ls.map sd)), some (.cell 0), a, b, c, d] ∧ G = [C.dT ((dn.flatMap fun p => ks.map fun r => (p.1, r)).map kp) (dn.flatMap fun p => (sp 32 p.2).map sd)]) (ks.zip ls) ρ1 G1) := by
    rw [← hL]
    refine loopS_until (fun (q : W × W) => !rowOk ks q.2) .non (fun (dn : List (W × W)) ρ G => ∃ a b c d, ρ = [some (.tup (ks.map sd)), some (.lst (ls.map sd)), some (.cell 0), a, b, c, d] ∧ G = [C.dT ((dn.flatMap fun p => ks.map fun r => (p.1, r)).map kp) (dn.flatMap fun p => (sp 32 p.2).map sd)]) ⟨_, _, _, _, rfl, rfl⟩ ?_
    rintro dn ⟨a, l⟩ rest er ρ G ⟨x1, x2, x3, x4, rfl, rfl⟩
    have hmem : (a, l) ∈ ks.zip ls := by rw [er]; simp
    have hll := (List.of_mem_zip hmem).2
    have k1 := kc l hll
    have hl0 := hl l hll
    constructor
    · intro hp
      have hp : rowOk ks l = false := by simpa using hp
      rw [hp] at k1
      push_cast [stF, kp, split_sd (c := 32) (by decide) hl0, k1]
      exact ⟨_, _, rfl⟩
    · intro hp
      have hp : rowOk ks l = true := by simpa using hp
      rw [hp] at k1
      unfold rowOk at hp
      rw [Bool.and_eq_true] at hp
      have hlen : (sp 32 l).length = ks.length := of_decide_eq_true hp.1
      push_cast [stF, kp, split_sd (c := 32) (by decide) hl0, k1, isNon]
      have e1 : (ks.zip (sp 32 l)).map (fun p => sd p.1) = ks.map sd := by
        rw [show (fun p : W × W => sd p.1) = sd ∘ Prod.fst from rfl, ← List.map_map, List.map_fst_zip (by omega)]
      generalize hL2 : loopS _ _ _ _ = L2
      obtain ⟨ρ1, G1, rfl, y, rfl, rfl⟩ : ∃ ρ1 G1, L2 = some (.nx, ρ1, G1) ∧ (fun (dm : List (W × W)) ρ G => ∃ y, ρ = [some (.tup (ks.map sd)), some (.lst (ls.map sd)), some (.cell 0), some (sd a), some (sd l), some (.dic false (ks.map sd) ((sp 32 l).map sd)), y] ∧
          G = [C.dT (((dn.flatMap fun p => ks.map fun r => (p.1, r)) ++ dm.map fun p => (a, p.1)).map kp) ((dn.flatMap fun p => (sp 32 p.2).map sd) ++ dm.map fun p => sd p.2)]) (ks.zip (sp 32 l)) ρ1 G1 := by
        rw [← hL2, show ∀ st ρ G, loopS st (ks.map sd) ρ G = loopS st ((ks.zip (sp 32 l)).map fun p => sd p.1) ρ G from fun _ _ _ => by rw [e1]]
        refine loopS_run (fun (dm : List (W × W)) ρ G => ∃ y, ρ = [some (.tup (ks.map sd)), some (.lst (ls.map sd)), some (.cell 0), some (sd a), some (sd l), some (.dic false (ks.map sd) ((sp 32 l).map sd)), y] ∧
          G = [C.dT (((dn.flatMap fun p => ks.map fun r => (p.1, r)) ++ dm.map fun p => (a, p.1)).map kp) ((dn.flatMap fun p => (sp 32 p.2).map sd) ++ dm.map fun p => sd p.2)]) ⟨_, rfl, by simp⟩ ?_
        rintro dm ⟨r, w⟩ rest2 er2 ρ G ⟨y, rfl, rfl⟩
        have hm2 : (r, w) ∈ ks.zip (sp 32 l) := by rw [er2]; simp
        have i1 := fun G => idx_zip hlen nd hm2 G
        have hlr := congrArg List.length er
        rw [List.length_append, List.length_cons, List.length_zip] at hlr
        have hlr2 := congrArg List.length er2
        rw [List.length_append, List.length_cons, List.length_zip] at hlr2
        have hsz : ((dn.flatMap fun p => ks.map fun r => (p.1, r)) ++ dm.map fun p => (a, p.1)).length ≤ 100000 := by
          rw [List.length_append, List.length_map]
          rw [fp_len]
          have : dn.length * ks.length ≤ 300 * 300 := Nat.mul_le_mul (by omega) hk
          omega
        have fr : (a, r) ∉ (dn.flatMap fun p => ks.map fun r => (p.1, r)) ++ dm.map fun p => (a, p.1) := by
          rw [List.mem_append]
          rintro (hm' | hm')
          · obtain ⟨q, hq, hm'⟩ := List.mem_flatMap.mp hm'
            obtain ⟨r', _, e⟩ := List.mem_map.mp hm'
            have : (dn ++ (a, l) :: rest).map (·.1) = (ks.zip ls).map (·.1) := by rw [er]
            have nd2 : ((ks.zip ls).map (·.1)).Nodup := (zip_sub ks ls).nodup nd
            rw [← this, List.map_append, List.map_cons] at nd2
            rw [List.nodup_append] at nd2
            refine nd2.2.2 q.1 (List.mem_map_of_mem hq) a (List.mem_cons_self ..) ?_
            cases e
            rfl
          · obtain ⟨q, hq, e⟩ := List.mem_map.mp hm'
            have nd2 : ((ks.zip (sp 32 l)).map (·.1)).Nodup := by
              rw [List.map_fst_zip (by omega)]
              exact nd
            rw [er2, List.map_append, List.map_cons, List.nodup_append] at nd2
            refine nd2.2.2 q.1 (List.mem_map_of_mem hq) r (List.mem_cons_self ..) ?_
            cases e
            rfl
        have i2 := set_dT (k := (a, r)) (v := sd w) (vs := (dn.flatMap fun p => (sp 32 p.2).map sd) ++ dm.map fun p => sd p.2) (r := []) fr hsz
        push_cast [stF, i1, i2]
        refine ⟨_, _, rfl, _, rfl, ?_⟩
        simp
      refine ⟨_, _, rfl, _, _, _, _, rfl, ?_⟩
      have e2 : (ks.zip (sp 32 l)).map (fun p => (a, p.1)) = ks.map fun r => (a, r) := by
        rw [show (fun p : W × W => (a, p.1)) = (fun r => (a, r)) ∘ Prod.fst from rfl, ← List.map_map, List.map_fst_zip (by omega)]
      have e3 : (ks.zip (sp 32 l)).map (fun p => sd p.2) = (sp 32 l).map sd := by
        rw [show (fun p : W × W => sd p.2) = sd ∘ Prod.snd from rfl, ← List.map_map, List.map_snd_zip (by omega)]
      rw [e2, e3, List.flatMap_append, List.flatMap_append]
      simp
  cases hb : (ks.zip ls).any fun q => !rowOk ks q.2
  · obtain ⟨ρ1, G1, rfl, x1, x2, x3, x4, rfl, rfl⟩ := hl2 hb
    have hkl : (ks.zip ls).length = min ks.length ls.length := List.length_zip
    have e1 := fp_len (ks.zip ls) ks
    have hkp : 0 < ks.length := List.length_pos_iff.mpr hk0
    push_cast [bi_lenT, pow2 (n := ks.length) (by omega), List.length_map, e1, hkl]
    by_cases hle : ks.length ≤ ls.length
    · have e2 : min ks.length ls.length = ks.length := Nat.min_eq_left hle
      have e3 : decide (((min ks.length ls.length * ks.length : Nat) : Int) = ((ks.length * ks.length : Nat) : Int)) = true := by rw [e2]; simp
      push_cast [e3]
      refine ⟨_, _, rfl, ?_⟩
      have e4 : readGrid ks ls = gridOf ks ls := by
        unfold readGrid
        have := zip_all (rowOk ks) hle
        rw [hb] at this
        rw [if_pos]
        rw [Bool.and_eq_true]
        exact ⟨decide_eq_true hle, by simpa using this.symm⟩
      rw [e4, show ([C.dT (((ks.zip ls).flatMap fun p => ks.map fun r => (p.1, r)).map kp) ((ks.zip ls).flatMap fun p => (sp 32 p.2).map sd)] : List C).length = 1 from rfl, frz0]
      · unfold gridOf
        rw [List.map_flatMap]
        simp only [List.map_map]
        rfl
      · show (frzIs _ _).map _ = _
        rw [frzIs_clean (k := 0) (fun n hn => absurd hn (Nat.not_lt_zero n)) cg]
        rfl
    · have e2 : min ks.length ls.length = ls.length := Nat.min_eq_right (by omega)
      have e3 : decide (((min ks.length ls.length * ks.length : Nat) : Int) = ((ks.length * ks.length : Nat) : Int)) = false := by
        rw [e2]
        refine decide_eq_false fun e => ?_
        have : ls.length * ks.length = ks.length * ks.length := by exact_mod_cast e
        have := Nat.eq_of_mul_eq_mul_right hkp this
        omega
      push_cast [e3]
      refine ⟨_, _, rfl, ?_⟩
      have e4 : readGrid ks ls = .non := by
        unfold readGrid
        rw [decide_eq_false hle]
        rfl
      rw [e4]
      rfl
  · obtain ⟨ρ1, G1, rfl⟩ := hl1 hb
    push_cast
    refine ⟨_, _, rfl, ?_⟩
    have e4 : readGrid ks ls = .non := by
      unfold readGrid
      by_cases hle : ks.length ≤ ls.length
      · have := zip_all (rowOk ks) hle
        rw [hb] at this
        have : (ls.take ks.length).all (rowOk ks) = false := by simpa using this.symm
        rw [this, Bool.and_false]
        rfl
      · rw [decide_eq_false hle]
        rfl
    rw [e4]
    rfl

theorem cf_raw {m : Nat} {F : FD} {f : Str} {ds : List D} {G G1 : List C} {d : D} (hF : findF PT f = some F) (hf : (F.raw, F.ini) = (true, false)) (hl : ds.length = F.ps.length) (e : rv (evS (cfOf PT wf m) wf F.body (en0 F ds) G) = some (d, G1)) : cfOf PT wf (m + 1) false f ds G = some (d, G1) := by
  simp only [Prod.mk.injEq] at hf
  obtain ⟨h1, h2⟩ := hf
  unfold cfOf
  rw [hF]
  simp only [h2, Bool.false_eq_true, if_false]
  unfold viewC
  simp only [h1, if_true]
  rw [call_succ, hF]
  show runF _ wf F ds G = _
  rw [runF_rv hl e]
  unfold Iv.finish
  simp only [h1, if_true]
abbrev fl3 : List Str := ["sorts", "grids", "rows"]
/-- a sheet under way */ -/
def SG (ks : List W) (g r : List (W × D)) : List C := [.ins "Sheet" fl3 [.tup (ks.map sd), .cell 1, .cell 2], .dK (g.map fun p => sd p.1) (g.map (·.2)), .dK (r.map fun p => sd p.1) (r.map (·.2))]
section
variable {ks : List W} {g r : List (W × D)}
theorem sg_sorts : attrD (.cell 0) "sorts" (SG ks g r) = some (.tup (ks.map sd)) := by
  show fieldOf fl3 _ "sorts" = _
  simp [fieldOf]
theorem sg_grids : attrD (.cell 0) "grids" (SG ks g r) = some (.cell 1) := by
  have : ("sorts" : Str) ≠ "grids" := by decide +kernel
  show fieldOf fl3 _ "grids" = _
  simp [fieldOf, this]
theorem sg_rows : attrD (.cell 0) "rows" (SG ks g r) = some (.cell 2) := by
  have h1 : ("sorts" : Str) ≠ "rows" := by decide +kernel
  have h2 : ("grids" : Str) ≠ "rows" := by decide +kernel
  show fieldOf fl3 _ "rows" = _
  simp [fieldOf, h1, h2]
theorem dget_has (g : List (W × D)) (w : W) : (dget (g.map fun p => sd p.1) (g.map (·.2)) (sd w)).isSome = decide (w ∈ g.map (·.1)) := by
  rw [dget_map (fun p : W × D => sd p.1) (·.2), Option.isSome_map]
  refine (Bool.eq_iff_iff.mpr ?_)
  rw [List.find?_isSome]
  simp only [kEq_str, decide_eq_true_eq, List.mem_map]
theorem sg_in1 (w : W) : inD (sd w) (.cell 1) (SG ks g r) = some (decide (w ∈ g.map (·.1))) := by
  rw [← dget_has]
  rfl
theorem sg_in2 (w : W) : inD (sd w) (.cell 2) (SG ks g r) = some (decide (w ∈ r.map (·.1))) := by
  rw [← dget_has]
  rfl
theorem new_key {g : List (W × D)} {w : W} (d : D) (h : w ∉ g.map (·.1)) : dputK (g.map fun p => sd p.1) (sd w) = (g ++ [(w, d)]).map (fun p => sd p.1) ∧ dputV (g.map fun p => sd p.1) (g.map (·.2)) (sd w) d = (g ++ [(w, d)]).map (·.2) := by
  have := dput_new (vs := g.map (·.2)) d h
  rw [List.map_map] at this
  rw [List.map_append, List.map_append]
  exact this
theorem sg_set1 {w : W} (d : D) (h : w ∉ g.map (·.1)) (hl : g.length ≤ 1000) : setD (.cell 1) (sd w) d (SG ks g r) = some (SG ks (g ++ [(w, d)]) r) := by
  obtain ⟨e1, e2⟩ := new_key d h
  show (if (isKey false (sd w) && decide ((g.map fun p => sd p.1).length < sizeLine)) = true then some ((SG ks g r).set 1 (.dK (dputK (g.map fun p => sd p.1) (sd w)) (dputV (g.map fun p => sd p.1) (g.map (·.2)) (sd w) d))) else none) = _
  rw [e1, e2, if_pos]
  · rfl
  · rw [Bool.and_eq_true]
    refine ⟨rfl, decide_eq_true ?_⟩
    rw [List.length_map]
    exact Nat.lt_of_le_of_lt hl (by decide)
theorem sg_set2 {w : W} (d : D) (h : w ∉ r.map (·.1)) (hl : r.length ≤ 1000) : setD (.cell 2) (sd w) d (SG ks g r) = some (SG ks g (r ++ [(w, d)])) := by
  obtain ⟨e1, e2⟩ := new_key d h
  show (if (isKey false (sd w) && decide ((r.map fun p => sd p.1).length < sizeLine)) = true then some ((SG ks g r).set 2 (.dK (dputK (r.map fun p => sd p.1) (sd w)) (dputV (r.map fun p => sd p.1) (r.map (·.2)) (sd w) d))) else none) = _
  rw [e1, e2, if_pos]
  · rfl
  · rw [Bool.and_eq_true]
    refine ⟨rfl, decide_eq_true ?_⟩
    rw [List.length_map]
    exact Nat.lt_of_le_of_lt hl (by decide)
end
def wOp : W := [111, 112]
def wCast : W := [99, 97, 115, 116]
def wKinds : W := [107, 105, 110, 100, 115]
def gridOk (ks ls : List W) : Bool := decide (ks.length ≤ ls.length) && (ls.take ks.length).all (rowOk ks)
theorem readGrid_eq (ks ls : List W) : readGrid ks ls = if gridOk ks ls = true then gridOf ks ls else .non := rfl
def fillG (ks : List W) : Nat → List W → List (W × D) → Option (List W) × List (W × D)
  | 0, ls, g => (some ls, g)
  | n + 1, ls, g => match ls with
    | [] => (some [], g)
    | l :: rest => if (sp 32 l).length = 2 ∧ (sp 32 l)[0]? = some wOp then
        (if gridOk ks (rest.take ks.length) = false ∨ ((sp 32 l)[1]?.getD []) ∈ g.map (·.1) ∨ rest.length < ks.length then (none, g)
         else fillG ks n (rest.drop ks.length) (g ++ [((sp 32 l)[1]?.getD [], gridOf ks (rest.take ks.length))]))
      else (some ls, g)
theorem atl0 (x : D) (xs : List D) (G : List C) : idxD (.lst (x :: xs)) (.int 0) G = some x := by
  show atI _ _ = _
  simp only [atI, ixN, List.length_cons]
  rw [if_pos (by omega), if_pos (by omega)]
  rfl
theorem atl1 (x y : D) (xs : List D) (G : List C) : idxD (.lst (x :: y :: xs)) (.int 1) G = some y := by
  show atI _ _ = _
  simp only [atI, ixN, List.length_cons]
  rw [if_pos (by omega), if_pos (by omega)]
  rfl
theorem cut1 (x : D) (xs : List D) (n : Nat) (h : xs.length ≤ 99000) (G : List C) : sliceD false (.lst (x :: xs)) (some 1) (some ((n : Int) + 1)) G = some (.lst (xs.take n), G) := by
  show mkL false (Iv.cutD (x :: xs) (some 1) (some ((n : Int) + 1))) G = _
  have : Iv.cutD (x :: xs) (some 1) (some ((n : Int) + 1)) = xs.take n := by
    unfold Iv.cutD
    have e1 : HT.sIx (x :: xs).length 0 (some 1) = 1 := by
      simp [HT.sIx]
    have e2 : HT.sIx (x :: xs).length (x :: xs).length (some ((n : Int) + 1)) = min (n + 1) (xs.length + 1) := by
      have : ((n : Int) + 1) = ((n + 1 : Nat) : Int) := by simp
      rw [this, HT.sIx_nat]
      rfl
    rw [e1, e2]
    show xs.take (min (n + 1) (xs.length + 1) - 1) = _
    rw [show min (n + 1) (xs.length + 1) - 1 = min n xs.length by omega]
    by_cases hn : n ≤ xs.length
    · rw [Nat.min_eq_left hn]
    · rw [Nat.min_eq_right (by omega), List.take_length, List.take_of_length_le (by omega)]
  rw [this]
  exact mkL_small (by rw [List.length_take]; omega)
theorem cutn (x : D) (xs : List D) (n : Nat) (h : xs.length ≤ 99000) (G : List C) : sliceD false (.lst (x :: xs)) (some ((n : Int) + 1)) none G = some (.lst (xs.drop n), G) := by
  show mkL false (Iv.cutD (x :: xs) (some ((n : Int) + 1)) none) G = _
  have : Iv.cutD (x :: xs) (some ((n : Int) + 1)) none = xs.drop n := by
    unfold Iv.cutD
    have e2 : HT.sIx (x :: xs).length 0 (some ((n : Int) + 1)) = min (n + 1) (xs.length + 1) := by
      have : ((n : Int) + 1) = ((n + 1 : Nat) : Int) := by simp
      rw [this, HT.sIx_nat]
      rfl
    rw [e2]
    show ((x :: xs).drop (min (n + 1) (xs.length + 1))).take ((x :: xs).length - min (n + 1) (xs.length + 1)) = _
    rw [List.take_of_length_le (by rw [List.length_drop]; exact Nat.le_refl _)]
    by_cases hn : n ≤ xs.length
    · rw [Nat.min_eq_left (by omega)]
      rfl
    · rw [Nat.min_eq_right (by omega)]
      simp
      omega
  rw [this]
  exact mkL_small (by rw [List.length_drop]; omega)
theorem isNon_gridOf (ks ls : List W) : isNon (gridOf ks ls) = false := rfl
abbrev fgE : E := .tup (.cons (.var 3) (.cons (.var 6) .nil))
/-- the turns of fill_grids */ -/
theorem fill_loop {m : Nat} {ks : List W} (nd : ks.Nodup) (hk0 : ks ≠ []) (hk : ks.length ≤ 300) (hm : 3 ≤ m) {st : D → En → List C → Option (Res × En × List C)}
    (hst : st = stF (cfOf PT wf m) wf (E.var 3) (match F_fill_grids.body with | .seq _ (.seq (.fors _ _ _ _ s) _) => s | _ => .skip)) : ∀ (its : List D) (ls : List W) (g : List (W × D)) (x y z : Option D), (∀ l ∈ ls, l.length ≤ 99000) → ls.length ≤ 99000 → g.length + its.length ≤ 1000 →
    ∃ r ρ1 G1, loopS st its [some (.cell 0), some (.lst (ls.map sd)), some (.int ((ks.length : Int) + 1)), x, y, z] (SG ks g []) = some (r, ρ1, G1) ∧
      match fillG ks its.length ls g with
      | (none, _) => r = .ret .non
      | (some ls', g') => G1 = SG ks g' [] ∧ (r = .ret (.lst (ls'.map sd)) ∨ (r = .nx ∧ ρ1[1]? = some (some (.lst (ls'.map sd)))))
  | [], ls, g, x, y, z, hl, hl2, hg => ⟨.nx, _, _, rfl, rfl, .inr ⟨rfl, rfl⟩⟩
  | i :: its, ls, g, x, y, z, hl, hl2, hg => by
    cases ls with
    | nil =>
      have e : st i [some (.cell 0), some (.lst (([] : List W).map sd)), some (.int ((ks.length : Int) + 1)), x, y, z] (SG ks g []) = some (.ret (.lst []), [some (.cell 0), some (.lst (([] : List W).map sd)), some (.int ((ks.length : Int) + 1)), some i, some (.lst []), z], SG ks g []) := by
        rw [hst]
        simp only [F_fill_grids]
        push_cast [stF]
      rw [loopS, e]
      exact ⟨_, _, _, rfl, rfl, .inl rfl⟩
    | cons l rest =>
      have hll := hl l (List.mem_cons_self ..)
      have hpos : decide ((0 : Int) < ((rest.length + 1 : Nat) : Int)) = true := by
        refine decide_eq_true ?_
        omega
      have hs := fun G => split_sd (c := 32) (by decide) hll G
      have h2 : decide (((sp 32 l).length : Int) = 2) = decide ((sp 32 l).length = 2) := decide_eq_decide.mpr (by omega)
      rw [List.length_cons, fillG]
      generalize sp 32 l = ws at *
      by_cases c1 : ws.length = 2
      · obtain ⟨u, v, rfl⟩ : ∃ u v, ws = [u, v] := by
          match ws, c1 with
          | [u, v], _ => exact ⟨u, v, rfl⟩
        by_cases c2 : u = wOp
        · subst c2
          rw [if_pos ⟨rfl, rfl⟩]
          have kr := c_read_grid (wf := wf) (ks := ks) (ls := rest.take ks.length) nd hk0 hk (fun l' h => hl l' (List.mem_cons_of_mem _ (List.mem_of_mem_take h))) m (by omega)
          rw [readGrid_eq] at kr
          have hcut := fun G => cut1 (sd l) (rest.map sd) ks.length (by simp at hl2 ⊢; omega) G
          have hcn := fun G => cutn (sd l) (rest.map sd) ks.length (by simp at hl2 ⊢; omega) G
          rw [← List.map_take] at hcut
          rw [← List.map_drop] at hcn
          have e5 : decide (((rest.length + 1 : Nat) : Int) < (ks.length : Int) + 1) = decide (rest.length < ks.length) := decide_eq_decide.mpr (by omega)
          cases c3 : gridOk ks (rest.take ks.length)
          · rw [if_pos (.inl rfl)]
            rw [c3] at kr
            have e : ∃ ρ1, st i [some (.cell 0), some (.lst ((l :: rest).map sd)), some (.int ((ks.length : Int) + 1)), x, y, z] (SG ks g []) = some (.ret .non, ρ1, SG ks g []) := by
              rw [hst]
              simp only [F_fill_grids]
              push_cast [stF, bi_len_lst, List.map_cons, List.length_map, hpos, atl0, hs, wOp, sg_sorts, hcut, kr]
              exact ⟨_, rfl⟩
            obtain ⟨ρ1, e⟩ := e
            rw [loopS, e]
            exact ⟨_, _, _, rfl, rfl⟩
          · rw [c3] at kr
            by_cases c4 : v ∈ g.map (·.1)
            · rw [if_pos (.inr (.inl c4))]
              have e : ∃ ρ1, st i [some (.cell 0), some (.lst ((l :: rest).map sd)), some (.int ((ks.length : Int) + 1)), x, y, z] (SG ks g []) = some (.ret .non, ρ1, SG ks g []) := by
                rw [hst]
                simp only [F_fill_grids]
                push_cast [stF, bi_len_lst, List.map_cons, List.length_map, hpos, atl0, atl1, hs, wOp, sg_sorts, sg_grids, hcut, kr, isNon_gridOf, sg_in1, c4]
                exact ⟨_, rfl⟩
              obtain ⟨ρ1, e⟩ := e
              rw [loopS, e]
              exact ⟨_, _, _, rfl, rfl⟩
            · by_cases c5 : rest.length < ks.length
              · rw [if_pos (.inr (.inr c5))]
                have e : ∃ ρ1, st i [some (.cell 0), some (.lst ((l :: rest).map sd)), some (.int ((ks.length : Int) + 1)), x, y, z] (SG ks g []) = some (.ret .non, ρ1, SG ks g []) := by
                  rw [hst]
                  simp only [F_fill_grids]
                  push_cast [stF, bi_len_lst, List.map_cons, List.length_map, hpos, atl0, atl1, hs, wOp, sg_sorts, sg_grids, hcut, kr, isNon_gridOf, sg_in1, c4, e5, c5]
                  exact ⟨_, rfl⟩
                obtain ⟨ρ1, e⟩ := e
                rw [loopS, e]
                exact ⟨_, _, _, rfl, rfl⟩
              · rw [if_neg (by rintro (h | h | h); cases h; exact c4 h; exact c5 h)]
                have hset := sg_set1 (ks := ks) (r := []) (gridOf ks (rest.take ks.length)) c4 (by simp at hg; omega)
                have ih := fill_loop nd hk0 hk hm hst its (rest.drop ks.length) (g ++ [(v, gridOf ks (rest.take ks.length))]) (some i) (some (.lst [sd wOp, sd v])) (some (gridOf ks (rest.take ks.length))) (fun l' h => hl l' (List.mem_cons_of_mem _ (List.mem_of_mem_drop h))) (by simp at hl2 ⊢; omega) (by simp at hg ⊢; omega)
                have e : st i [some (.cell 0), some (.lst ((l :: rest).map sd)), some (.int ((ks.length : Int) + 1)), x, y, z] (SG ks g []) = some (.nx, [some (.cell 0), some (.lst ((rest.drop ks.length).map sd)), some (.int ((ks.length : Int) + 1)), some i, some (.lst [sd wOp, sd v]), some (gridOf ks (rest.take ks.length))], SG ks (g ++ [(v, gridOf ks (rest.take ks.length))]) []) := by
                  rw [hst]
                  simp only [F_fill_grids]
                  push_cast [stF, bi_len_lst, List.map_cons, List.length_map, hpos, atl0, atl1, hs, wOp, sg_sorts, sg_grids, hcut, hcn, kr, isNon_gridOf, sg_in1, c4, e5, c5, hset]
                rw [loopS, e]
                exact ih
        · rw [if_neg (fun h => c2 (by simpa using h.2))]
          have : decide (u = [111, 112]) = false := decide_eq_false c2
          have e : ∃ ρ1, st i [some (.cell 0), some (.lst ((l :: rest).map sd)), some (.int ((ks.length : Int) + 1)), x, y, z] (SG ks g []) = some (.ret (.lst ((l :: rest).map sd)), ρ1, SG ks g []) := by
            rw [hst]
            simp only [F_fill_grids]
            push_cast [stF, bi_len_lst, List.map_cons, List.length_map, hpos, atl0, hs, this]
            exact ⟨_, rfl⟩
          obtain ⟨ρ1, e⟩ := e
          rw [loopS, e]
          exact ⟨_, _, _, rfl, rfl, .inl rfl⟩
      · rw [if_neg (fun h => c1 h.1)]
        rw [decide_eq_false c1] at h2
        have e : ∃ ρ1, st i [some (.cell 0), some (.lst ((l :: rest).map sd)), some (.int ((ks.length : Int) + 1)), x, y, z] (SG ks g []) = some (.ret (.lst ((l :: rest).map sd)), ρ1, SG ks g []) := by
          rw [hst]
          simp only [F_fill_grids]
          push_cast [stF, bi_len_lst, List.map_cons, List.length_map, hpos, atl0, hs, h2]
          exact ⟨_, rfl⟩
        obtain ⟨ρ1, e⟩ := e
        rw [loopS, e]
        exact ⟨_, _, _, rfl, rfl, .inl rfl⟩

theorem range1_4 (G : List C) : itemsOf .range1 (.int (3 + 1)) (.bl true) G = some ((List.range 4).map fun (i : Nat) => D.int i) := rfl
theorem c_fill_grids {m : Nat} {ks : List W} (nd : ks.Nodup) (hk0 : ks ≠ []) (hk : ks.length ≤ 300) (hm : 3 ≤ m) (ls : List W) (hl : ∀ l ∈ ls, l.length ≤ 99000) (hl2 : ls.length ≤ 99000) :
    ∃ G1, cfOf PT wf (m + 1) false "fill_grids" [.cell 0, .lst (ls.map sd)] (SG ks [] []) = some ((match (fillG ks 4 ls []).1 with | some ls' => .lst (ls'.map sd) | none => .non), G1) ∧ ((fillG ks 4 ls []).1.isSome = true → G1 = SG ks (fillG ks 4 ls []).2 []) := by
  have hl4 : ((List.range 4).map fun (i : Nat) => D.int i).length = 4 := by simp
  have key := fill_loop (wf := wf) nd hk0 hk hm rfl ((List.range 4).map fun (i : Nat) => D.int i) ls [] none none none hl hl2 (by simp)
  rw [hl4] at key
  simp only [F_fill_grids] at key
  obtain ⟨r, ρ1, G1, e, h⟩ := key
  have e2 : rv (evS (cfOf PT wf m) wf F_fill_grids.body (en0 F_fill_grids [.cell 0, .lst (ls.map sd)]) (SG ks [] [])) = some ((match (fillG ks 4 ls []).1 with | some ls' => .lst (ls'.map sd) | none => .non), G1) := by
    simp only [F_fill_grids]
    simp only [en0, es_seq, es_asg, ev_bin, ev_bi, ev_attr, ev_var, ev_gl, ev_int, ev_nil, evL, List.map_cons, List.map_nil, List.length_cons, List.length_nil, Nat.reduceAdd, Nat.reduceSub, Nat.zero_add, List.replicate, List.cons_append, List.nil_append, List.getElem?_cons_zero, List.getElem?_cons_succ, sg_sorts, bi_len_tup, List.length_map, add_int, asgD, List.set_cons_zero, List.set_cons_succ, ev_fors, forK_some, range1_4]
    rw [e]
    generalize fillG ks 4 ls [] = X at *
    obtain ⟨o, g'⟩ := X
    cases o with
    | none =>
      obtain rfl := h
      rfl
    | some ls' =>
      obtain ⟨rfl, rfl | ⟨rfl, h⟩⟩ := h
      · rfl
      · simp only [es_ret, ev_var, h, rv]
  refine ⟨G1, cf_raw (F := F_fill_grids) rfl rfl rfl e2, fun hs => ?_⟩
  generalize fillG ks 4 ls [] = X at *
  obtain ⟨o, g'⟩ := X
  cases o with
  | none => cases hs
  | some ls' => exact h.1
def fillR (ks : List W) : List W → List (W × D) → Option (List (W × D))
  | [], r => some r
  | l :: ls, r => if 3 ≤ (sp 32 l).length ∧ (sp 32 l)[0]? = some wCast ∧ (((sp 32 l).drop 2).length = ks.length ∧ ((sp 32 l).drop 2).all (cellOk ks) = true) ∧ ¬ ((sp 32 l)[1]?.getD []) ∈ r.map (·.1) then
      fillR ks ls (r ++ [((sp 32 l)[1]?.getD [], .dic false (ks.map sd) (((sp 32 l).drop 2).map sd))]) else none
theorem cutn2 (xs : List D) (h : xs.length ≤ 100000) (G : List C) : sliceD false (.lst xs) (some 2) none G = some (.lst (xs.drop 2), G) := by
  show mkL false (Iv.cutD xs (some 2) none) G = _
  have : Iv.cutD xs (some 2) none = xs.drop 2 := by
    unfold Iv.cutD
    have e2 : HT.sIx xs.length 0 (some 2) = min 2 xs.length := HT.sIx_nat _ _ 2
    rw [e2]
    show (xs.drop (min 2 xs.length)).take (xs.length - min 2 xs.length) = _
    rw [List.take_of_length_le (by rw [List.length_drop]; exact Nat.le_refl _)]
    by_cases hn : 2 ≤ xs.length
    · rw [Nat.min_eq_left hn]
    · rw [Nat.min_eq_right (by omega), List.drop_length, List.drop_eq_nil_of_le (by omega)]
  rw [this]
  exact mkL_small (by rw [List.length_drop]; omega)
theorem rows_loop {m : Nat} {ks : List W} {g : List (W × D)} {lsD : D} (nd : ks.Nodup) (hm : 2 ≤ m) {st : D → En → List C → Option (Res × En × List C)}
    (hst : st = stF (cfOf PT wf m) wf (E.var 2) (match F_fill_rows.body with | .seq (.fors _ _ _ _ s) _ => s | _ => .skip)) : ∀ (ls : List W) (r : List (W × D)) (x y z : Option D), (∀ l ∈ ls, l.length ≤ 99000) → r.length + ls.length ≤ 1000 →
    ∃ q ρ1 G1, loopS st (ls.map sd) [some (.cell 0), some lsD, x, y, z] (SG ks g r) = some (q, ρ1, G1) ∧
      match fillR ks ls r with
      | none => q = .ret (.bl false)
      | some r' => G1 = SG ks g r' ∧ q = .nx
  | [], r, x, y, z, hl, hg => ⟨.nx, _, _, rfl, rfl, rfl⟩
  | l :: ls, r, x, y, z, hl, hg => by
    have hll := hl l (List.mem_cons_self ..)
    have hs := fun G => split_sd (c := 32) (by decide) hll G
    have hspl := sp_len 32 (by decide) l
    have kc := c_read_cells (wf := wf) (ks := ks) (ws := (sp 32 l).drop 2) nd (fun w hw => Nat.le_trans (sp_part (by decide) (List.mem_of_mem_drop hw)) (by omega)) (by simp; omega) m (by omega)
    rw [fillR, List.map_cons]
    generalize sp 32 l = ws at *
    have hcn := fun G => cutn2 (ws.map sd) (by simp; omega) G
    rw [← List.map_drop] at hcn
    have h3 : decide ((ws.length : Int) < 3) = !decide (3 ≤ ws.length) := by
      by_cases h : 3 ≤ ws.length
      · rw [decide_eq_true h, decide_eq_false (by omega)]; rfl
      · rw [decide_eq_false h, decide_eq_true (by omega)]; rfl
    by_cases c1 : 3 ≤ ws.length
    · rw [decide_eq_true c1] at h3
      obtain ⟨u, v, ws2, rfl⟩ : ∃ u v ws2, ws = u :: v :: ws2 := by
        match ws, c1 with
        | u :: v :: w :: r, _ => exact ⟨u, v, w :: r, rfl⟩
      simp only [List.drop_succ_cons, List.drop_zero, List.map_cons] at kc hcn
      simp only [List.length_cons] at h3
      by_cases c2 : u = wCast
      · subst c2
        simp only [wCast] at hcn
        cases c3 : (decide (ws2.length = ks.length) && ws2.all (cellOk ks))
        · rw [c3] at kc
          rw [if_neg (by
            rintro ⟨_, _, ⟨h1, h2⟩, _⟩
            simp only [List.drop_succ_cons, List.drop_zero] at h1 h2
            rw [decide_eq_true h1, h2] at c3
            cases c3)]
          have e : ∃ ρ1, st (sd l) [some (.cell 0), some lsD, x, y, z] (SG ks g r) = some (.ret (.bl false), ρ1, SG ks g r) := by
            rw [hst]
            simp only [F_fill_rows]
            push_cast [stF, hs, sg_sorts, hcn, kc, bi_len_lst, List.length_map, h3, atl0, wCast]
            exact ⟨_, rfl⟩
          obtain ⟨ρ1, e⟩ := e
          rw [loopS, e]
          exact ⟨_, _, _, rfl, rfl⟩
        · rw [c3] at kc
          rw [Bool.and_eq_true] at c3
          by_cases c4 : v ∈ r.map (·.1)
          · rw [if_neg (fun h => h.2.2.2 c4)]
            have e : ∃ ρ1, st (sd l) [some (.cell 0), some lsD, x, y, z] (SG ks g r) = some (.ret (.bl false), ρ1, SG ks g r) := by
              rw [hst]
              simp only [F_fill_rows]
              push_cast [stF, hs, sg_sorts, sg_rows, hcn, kc, bi_len_lst, List.length_map, h3, atl0, atl1, wCast, isNon, sg_in2, c4]
              exact ⟨_, rfl⟩
            obtain ⟨ρ1, e⟩ := e
            rw [loopS, e]
            exact ⟨_, _, _, rfl, rfl⟩
          · rw [if_pos ⟨c1, rfl, ⟨of_decide_eq_true c3.1, c3.2⟩, c4⟩]
            have hset := sg_set2 (ks := ks) (g := g) (.dic false (ks.map sd) (ws2.map sd)) c4 (by simp at hg; omega)
            have ih := rows_loop (g := g) (lsD := lsD) nd hm hst ls (r ++ [(v, .dic false (ks.map sd) (ws2.map sd))]) (some (sd l)) (some (.lst ((wCast :: v :: ws2).map sd))) (some (.dic false (ks.map sd) (ws2.map sd))) (fun l' h => hl l' (List.mem_cons_of_mem _ h)) (by simp at hg ⊢; omega)
            have e : st (sd l) [some (.cell 0), some lsD, x, y, z] (SG ks g r) = some (.nx, [some (.cell 0), some lsD, some (sd l), some (.lst ((wCast :: v :: ws2).map sd)), some (.dic false (ks.map sd) (ws2.map sd))], SG ks g (r ++ [(v, .dic false (ks.map sd) (ws2.map sd))])) := by
              rw [hst]
              simp only [F_fill_rows]
              push_cast [stF, hs, sg_sorts, sg_rows, hcn, kc, bi_len_lst, List.length_map, h3, atl0, atl1, wCast, isNon, sg_in2, c4, hset]
            rw [loopS, e]
            exact ih
      · rw [if_neg (fun h => c2 (by simpa using h.2.1))]
        have : decide (u = [99, 97, 115, 116]) = false := decide_eq_false c2
        have e : ∃ ρ1, st (sd l) [some (.cell 0), some lsD, x, y, z] (SG ks g r) = some (.ret (.bl false), ρ1, SG ks g r) := by
          rw [hst]
          simp only [F_fill_rows]
          push_cast [stF, hs, sg_sorts, hcn, kc, bi_len_lst, List.length_map, h3, atl0, this]
          exact ⟨_, rfl⟩
        obtain ⟨ρ1, e⟩ := e
        rw [loopS, e]
        exact ⟨_, _, _, rfl, rfl⟩
    · rw [decide_eq_false c1] at h3
      rw [if_neg (fun h => c1 h.1)]
      have e : ∃ ρ1, st (sd l) [some (.cell 0), some lsD, x, y, z] (SG ks g r) = some (.ret (.bl false), ρ1, SG ks g r) := by
        rw [hst]
        simp only [F_fill_rows]
        push_cast [stF, hs, sg_sorts, hcn, kc, bi_len_lst, List.length_map, h3]
        exact ⟨_, rfl⟩
      obtain ⟨ρ1, e⟩ := e
      rw [loopS, e]
      exact ⟨_, _, _, rfl, rfl⟩
theorem c_fill_rows {m : Nat} {ks : List W} {g : List (W × D)} (nd : ks.Nodup) (hm : 2 ≤ m) (ls : List W) (hl : ∀ l ∈ ls, l.length ≤ 99000) (hl2 : ls.length ≤ 1000) :
    ∃ G1, cfOf PT wf (m + 1) false "fill_rows" [.cell 0, .lst (ls.map sd)] (SG ks g []) = some (.bl (fillR ks ls []).isSome, G1) ∧ (∀ r, fillR ks ls [] = some r → G1 = SG ks g r) := by
  obtain ⟨q, ρ1, G1, e, h⟩ := rows_loop (wf := wf) (g := g) (lsD := .lst (ls.map sd)) nd hm rfl ls [] none none none hl (by simpa using hl2)
  simp only [F_fill_rows] at e
  have e2 : rv (evS (cfOf PT wf m) wf F_fill_rows.body (en0 F_fill_rows [.cell 0, .lst (ls.map sd)]) (SG ks g [])) = some (.bl (fillR ks ls []).isSome, G1) := by
    simp only [F_fill_rows]
    simp only [en0, es_seq, ev_var, ev_nil, List.map_cons, List.map_nil, List.length_cons, List.length_nil, Nat.reduceAdd, Nat.reduceSub, Nat.zero_add, List.replicate, List.cons_append, List.nil_append, List.getElem?_cons_zero, List.getElem?_cons_succ, ev_fors, forK_some, it_lst]
    rw [e]
    cases hf : fillR ks ls [] with
    | none =>
      rw [hf] at h
      subst h
      rfl
    | some r =>
      rw [hf] at h
      obtain ⟨rfl, rfl⟩ := h
      simp only [es_ret, ev_bl, rv, Option.isSome_some]
  refine ⟨G1, cf_raw (F := F_fill_rows) rfl rfl rfl e2, fun r hr => ?_⟩
  rw [hr] at h
  exact h.1

/-- all different */ -/
def nd (ws : List W) : Bool := decide ((ws.map S).eraseDups.length = ws.length)
theorem strs_sds (ws : List W) : strsOf (ws.map sd) = some (ws.map S) := by
  induction ws with
  | nil => rfl
  | cons w ws ih => rw [List.map_cons, strsOf, ih]; rfl
theorem dups_len (l : List Str) : l.eraseDups.length ≤ l.length ∧ (l.eraseDups.length = l.length ↔ l.Nodup) := by
  suffices h : ∀ n (l : List Str), l.length ≤ n → l.eraseDups.length ≤ l.length ∧ (l.eraseDups.length = l.length ↔ l.Nodup) from h _ l (Nat.le_refl _)
  intro n
  induction n with
  | zero =>
    intro l h
    have : l = [] := List.length_eq_zero_iff.mp (Nat.le_zero.mp h)
    subst this
    simp
  | succ n ih =>
    intro l h
    cases l with
    | nil => simp
    | cons x l =>
      rw [List.eraseDups_cons, List.length_cons, List.length_cons, List.nodup_cons]
      have hf := List.length_filter_le (fun b => !b == x) l
      obtain ⟨i1, i2⟩ := ih (l.filter fun b => !b == x) (by simp at h; omega)
      refine ⟨by omega, ?_⟩
      by_cases hx : x ∈ l
      · have : (l.filter fun b => !b == x).length < l.length := by
          refine List.length_filter_lt_length_iff_exists.mpr ⟨x, hx, by simp⟩
        constructor
        · intro h; omega
        · intro h; exact absurd hx h.1
      · have e : (l.filter fun b => !b == x) = l := by
          refine List.filter_eq_self.mpr fun b hb => ?_
          have : b ≠ x := fun e => hx (e ▸ hb)
          simp [this]
        rw [e] at i2 ⊢
        constructor
        · intro h; exact ⟨hx, i2.mp (by omega)⟩
        · intro h; rw [i2.mpr h.2]
theorem nodup_S (ws : List W) : (ws.map S).Nodup ↔ ws.Nodup := by
  constructor
  · intro h
    rw [List.nodup_iff_pairwise_ne, List.pairwise_map] at h
    rw [List.nodup_iff_pairwise_ne]
    exact h.imp fun h e => h (by rw [e])
  · intro h
    rw [List.nodup_iff_pairwise_ne] at h
    rw [List.nodup_iff_pairwise_ne, List.pairwise_map]
    exact h.imp fun h e => h (S_inj e)
theorem nd_iff (ws : List W) : nd ws = true ↔ ws.Nodup := by
  unfold nd
  rw [decide_eq_true_iff, ← nodup_S, ← (dups_len (ws.map S)).2, List.length_map]
theorem lt_nd (ws : List W) : decide (((ws.map S).eraseDups.length : Int) < ws.length) = !nd ws := by
  have h := (dups_len (ws.map S)).1
  rw [List.length_map] at h
  unfold nd
  by_cases e : (ws.map S).eraseDups.length = ws.length
  · rw [decide_eq_true e, decide_eq_false (by omega)]; rfl
  · rw [decide_eq_false e, decide_eq_true (by omega)]; rfl
theorem eq_nd (ws : List W) : decide (((ws.map S).eraseDups.length : Int) = ws.length) = nd ws := decide_eq_decide.mpr (by omega)
def fineN (ks : List W) (g r : List (W × D)) : Bool := ((decide (1 ≤ ks.length) && decide (ks.length ≤ 8)) && (decide (1 ≤ g.length) && decide (g.length ≤ 3))) && (decide (r.length ≤ 4) && ((ks ++ (g.map (·.1) ++ r.map (·.1))).all tagOk && nd (ks ++ (g.map (·.1) ++ r.map (·.1)))))
theorem sg_len1 {ks : List W} {g r : List (W × D)} (c : Bool) : biD .len c [.cell 1] (SG ks g r) = some (.int g.length, SG ks g r) := by
  have : lenD (.cell 1) (SG ks g r) = some g.length := by
    show some (g.map fun p => sd p.1).length = _
    rw [List.length_map]
  simp only [biD, this]
  rfl
theorem sg_len2 {ks : List W} {g r : List (W × D)} (c : Bool) : biD .len c [.cell 2] (SG ks g r) = some (.int r.length, SG ks g r) := by
  have : lenD (.cell 2) (SG ks g r) = some r.length := by
    show some (r.map fun p => sd p.1).length = _
    rw [List.length_map]
  simp only [biD, this]
  rfl
theorem sg_seq {ks : List W} {g r : List (W × D)} {n : Nat} (h : n = 1 ∨ n = 2) : seqOf (SG ks g r) (.cell n) = none := by rcases h with rfl | rfl <;> rfl
theorem sg_dic1 {ks : List W} {g r : List (W × D)} : dicOf (SG ks g r) (.cell 1) = some (false, g.map (fun p => sd p.1), g.map (·.2)) := rfl
theorem sg_dic2 {ks : List W} {g r : List (W × D)} : dicOf (SG ks g r) (.cell 2) = some (false, r.map (fun p => sd p.1), r.map (·.2)) := rfl
theorem ev_nilG {cf : CF} {ρ : En} {G : List C} : evL cf .nil ρ G = some ([], G) := rfl
theorem c_has_fine_names {m : Nat} {ks : List W} {g r : List (W × D)} (hm : 1 ≤ m) (hk : ks.length ≤ 300) (hg : g.length ≤ 300) (hr : r.length ≤ 300) (hl : ∀ w ∈ ks ++ (g.map (·.1) ++ r.map (·.1)), w.length ≤ 99000) :
    cfOf PT wf (m + 1) false "has_fine_names" [.cell 0] (SG ks g r) = some (.bl (fineN ks g r), SG ks g r) := by
  refine cf_raw (F := F_has_fine_names) rfl rfl rfl ?_
  simp only [F_has_fine_names]
  have e1 : decide ((1 : Int) ≤ ks.length) = decide (1 ≤ ks.length) := decide_eq_decide.mpr (by omega)
  have e2 : decide ((ks.length : Int) ≤ 8) = decide (ks.length ≤ 8) := decide_eq_decide.mpr (by omega)
  have e3 : decide ((1 : Int) ≤ g.length) = decide (1 ≤ g.length) := decide_eq_decide.mpr (by omega)
  have e4 : decide ((g.length : Int) ≤ 3) = decide (g.length ≤ 3) := decide_eq_decide.mpr (by omega)
  have e5 : decide ((r.length : Int) ≤ 4) = decide (r.length ≤ 4) := decide_eq_decide.mpr (by omega)
  have en : ks.map sd ++ (g.map (fun p => sd p.1) ++ (r.map (fun p => sd p.1) ++ [])) = (ks ++ (g.map (·.1) ++ r.map (·.1))).map sd := by
    simp
    rfl
  have hz : ((ks ++ (g.map (·.1) ++ r.map (·.1))).map sd).length ≤ 100000 := by simp; omega
  have hz2 : (ks ++ (g.map (·.1) ++ r.map (·.1))).length < 1000 := by simp; omega
  rw [show fineN ks g r = (((decide (1 ≤ ks.length) && decide (ks.length ≤ 8)) && (decide (1 ≤ g.length) && decide (g.length ≤ 3))) && (decide (r.length ≤ 4) && ((ks ++ (g.map (·.1) ++ r.map (·.1))).all tagOk && nd (ks ++ (g.map (·.1) ++ r.map (·.1)))))) from rfl]
  have k1 : evL (cfOf PT wf m) (.star (.attr (.var 0) "sorts") (.star (.attr (.var 0) "grids") (.star (.attr (.var 0) "rows") .nil))) [some (.cell 0), none, none] (SG ks g r) = some ((ks ++ (g.map (·.1) ++ r.map (·.1))).map sd, SG ks g r) := by
    rw [← en]
    simp only [evL, ev_attr, ev_var, List.getElem?_cons_zero, sg_sorts, sg_grids, sg_rows, seqOf, sg_dic1, sg_dic2]
    rfl
  generalize ks ++ (g.map (·.1) ++ r.map (·.1)) = ns at *
  simp only [es_seq, es_asg, ev_lst, en0, List.map_cons, List.map_nil, List.length_cons, List.length_nil, Nat.reduceAdd, Nat.reduceSub, Nat.zero_add, List.replicate, List.cons_append, List.nil_append, k1, mkL_small hz]
  cases c1 : decide (1 ≤ ks.length)
  · push_cast [sg_sorts, sg_grids, sg_rows, bi_len_tup, List.length_map, sg_len1, sg_len2, e1, e2, e3, e4, e5, c1]
  cases c2 : decide (ks.length ≤ 8)
  · push_cast [sg_sorts, sg_grids, sg_rows, bi_len_tup, List.length_map, sg_len1, sg_len2, e1, e2, e3, e4, e5, c1, c2]
  cases c3 : decide (1 ≤ g.length)
  · push_cast [sg_sorts, sg_grids, sg_rows, bi_len_tup, List.length_map, sg_len1, sg_len2, e1, e2, e3, e4, e5, c1, c2, c3]
  cases c4 : decide (g.length ≤ 3)
  · push_cast [sg_sorts, sg_grids, sg_rows, bi_len_tup, List.length_map, sg_len1, sg_len2, e1, e2, e3, e4, e5, c1, c2, c3, c4]
  cases c5 : decide (r.length ≤ 4)
  · push_cast [sg_sorts, sg_grids, sg_rows, bi_len_tup, List.length_map, sg_len1, sg_len2, e1, e2, e3, e4, e5, c1, c2, c3, c4, c5]
  push_cast [sg_sorts, sg_grids, sg_rows, bi_len_tup, List.length_map, sg_len1, sg_len2, e1, e2, e3, e4, e5, c1, c2, c3, c4, c5]
  generalize hL : compL _ _ _ = L
  obtain rfl : L = some ((ns.map tagOk).map D.bl, SG ks g r) := by
    rw [← hL, List.map_map]
    refine compL_map1 fun w hw => ?_
    have kt := c_is_tag (wf := wf) (w := w) (Nat.le_trans (hl w hw) (by decide)) m hm
    push_cast [stC, kt] <;> rfl
  have ea : (ns.map tagOk).all id = ns.all tagOk := by rw [List.all_map]; rfl
  push_cast [mkL_small (xs := (ns.map tagOk).map D.bl) (by simp at hz ⊢; omega), ea]
  cases c6 : ns.all tagOk
  · push_cast
  · push_cast [ev_lenSet, strs_sds, hz2, bi_len_lst, List.length_map, eq_nd]

theorem setA_new (c : Str) (fs : List Str) (vs : List D) (f : Str) (v : D) (r : List C) (h : fs.length < 900) : setA (.cell 0) f v (.ins c fs vs :: r) = some (.ins c (putFd f v fs vs).1 (putFd f v fs vs).2 :: r) := by
  show (if fs.length < 900 then some ((.ins c fs vs :: r).set 0 (.ins c (putFd f v fs vs).1 (putFd f v fs vs).2)) else none) = _
  rw [if_pos h]
  rfl
theorem c_new {m : Nat} (ks : List W) : cfOf PT wf (m + 2) true "Sheet" [.cell 0, .tup (ks.map sd)] [.ins "Sheet" [] []] = some (.non, SG ks [] []) := by
  have hF : findF PT "Sheet" = some F_Sheet := rfl
  have h1 : ("sorts" : Str) ≠ "rows" := by decide +kernel
  have h2 : ("grids" : Str) ≠ "rows" := by decide +kernel
  have h3 : ("sorts" : Str) ≠ "grids" := by decide +kernel
  unfold cfOf
  rw [hF]
  show call PT wf (m + 1) "Sheet" [.cell 0, .tup (ks.map sd)] [.ins "Sheet" [] []] = _
  rw [call_succ, hF]
  show runF _ wf F_Sheet _ _ = _
  rw [runF_rv (d := .non) (G1 := SG ks [] []) rfl]
  · rfl
  · show rv (evS _ wf F_Sheet.body (en0 F_Sheet [.cell 0, .tup (ks.map sd)]) _) = _
    simp only [F_Sheet]
    push_cast [ev_dK0, setA_new, List.length_nil, List.length_cons, show (0 : Nat) < 900 from by decide, show 0 + 1 < 900 from by decide, show 0 + 1 + 1 < 900 from by decide, putFd, h1, h2, h3, show (1 : Nat) < 900 from by decide, show (2 : Nat) < 900 from by decide]
    rfl
def readK : List W → List W → D
  | [], _ => .non
  | w0 :: ks, rest => if w0 = wKinds ∧ ks ≠ [] ∧ nd ks = true then
    (match fillG ks 4 rest [] with
    | (some rest2, g) => match fillR ks rest2 [] with
      | some r => if fineN ks g r = true then .ins "Sheet" fl3 [.tup (ks.map sd), .dic false (g.map fun p => sd p.1) (g.map (·.2)), .dic false (r.map fun p => sd p.1) (r.map (·.2))] else .non
      | none => .non
    | (none, _) => .non)
  else .non
def readL : List W → D
  | [] => .non
  | l0 :: rest => readK (sp 32 l0) rest
def readSh (t : W) : D := readL (sp 10 t)
structure GInv (B : Nat) (g : List (W × D)) : Prop where
  nm : ∀ p ∈ g, p.1.length ≤ B
  cl : ∀ p ∈ g, D.clean 0 p.2 = true
theorem gridOf_clean (ks ls : List W) : D.clean 0 (gridOf ks ls) = true := by
  unfold gridOf
  rw [D.clean]
  rw [show ((ks.zip ls).flatMap fun p => (sp 32 p.2).map sd) = ((ks.zip ls).flatMap fun p => sp 32 p.2).map sd by rw [List.map_flatMap]]
  exact cl_sds _ _
theorem fillG_inv {ks : List W} {B : Nat} : ∀ (n : Nat) (ls : List W) (g : List (W × D)), (∀ l ∈ ls, l.length ≤ B) → GInv B g → GInv B (fillG ks n ls g).2 ∧ (fillG ks n ls g).2.length ≤ g.length + n ∧ ∀ r, (fillG ks n ls g).1 = some r → ∃ k, r = ls.drop k
  | 0, ls, g, hl, hg => ⟨hg, Nat.le_refl _, fun r e => ⟨0, by cases e; rfl⟩⟩
  | n + 1, [], g, hl, hg => ⟨hg, Nat.le_add_right _ _, fun r e => ⟨0, by cases e; rfl⟩⟩
  | n + 1, l :: rest, g, hl, hg => by
    rw [fillG]
    split
    · split
      · exact ⟨hg, Nat.le_add_right _ _, fun r e => by cases e⟩
      · rename_i h1 h2
        have hv : ((sp 32 l)[1]?.getD []).length ≤ B := by
          have := h1.1
          have hm : (sp 32 l)[1]?.getD [] ∈ sp 32 l := by
            rw [List.getElem?_eq_getElem (by omega)]
            exact List.getElem_mem _
          exact Nat.le_trans (sp_part (by decide) hm) (hl l (List.mem_cons_self ..))
        obtain ⟨i1, i2, i3⟩ := fillG_inv (ks := ks) (B := B) n (rest.drop ks.length) (g ++ [((sp 32 l)[1]?.getD [], gridOf ks (rest.take ks.length))]) (fun l' h => hl l' (List.mem_cons_of_mem _ (List.mem_of_mem_drop h))) ⟨fun p hp => by
          rcases List.mem_append.mp hp with hp | hp
          · exact hg.nm p hp
          · rw [List.mem_singleton.mp hp]; exact hv, fun p hp => by
          rcases List.mem_append.mp hp with hp | hp
          · exact hg.cl p hp
          · rw [List.mem_singleton.mp hp]; exact gridOf_clean _ _⟩
        refine ⟨i1, by simp at i2; omega, fun r e => ?_⟩
        obtain ⟨k, rfl⟩ := i3 r e
        exact ⟨ks.length + k + 1, by rw [List.drop_drop]; rfl⟩
    · exact ⟨hg, Nat.le_add_right _ _, fun r e => ⟨0, by cases e; rfl⟩⟩
theorem fillR_inv {ks : List W} {B : Nat} : ∀ (ls : List W) (r r' : List (W × D)), (∀ l ∈ ls, l.length ≤ B) → GInv B r → fillR ks ls r = some r' → GInv B r' ∧ r'.length = r.length + ls.length
  | [], r, r', hl, hg, e => by cases e; exact ⟨hg, rfl⟩
  | l :: rest, r, r', hl, hg, e => by
    rw [fillR] at e
    split at e
    · rename_i h1
      have hv : ((sp 32 l)[1]?.getD []).length ≤ B := by
        have := h1.1
        have hm : (sp 32 l)[1]?.getD [] ∈ sp 32 l := by
          rw [List.getElem?_eq_getElem (by omega)]
          exact List.getElem_mem _
        exact Nat.le_trans (sp_part (by decide) hm) (hl l (List.mem_cons_self ..))
      obtain ⟨i1, i2⟩ := fillR_inv rest _ r' (fun l' h => hl l' (List.mem_cons_of_mem _ h)) ⟨fun p hp => by
        rcases List.mem_append.mp hp with hp | hp
        · exact hg.nm p hp
        · rw [List.mem_singleton.mp hp]; exact hv, fun p hp => by
        rcases List.mem_append.mp hp with hp | hp
        · exact hg.cl p hp
        · rw [List.mem_singleton.mp hp, D.clean]; exact cl_sds _ _⟩ e
      exact ⟨i1, by rw [i2]; simp; omega⟩
    · cases e
theorem frz_SG {ks : List W} {g r : List (W × D)} {B : Nat} (hg : GInv B g) (hr : GInv B r) : frzI (frz (SG ks g r) 0 none 3) (.cell 0) = some (.ins "Sheet" fl3 [.tup (ks.map sd), .dic false (g.map fun p => sd p.1) (g.map (·.2)), .dic false (r.map fun p => sd p.1) (r.map (·.2))]) := by
  have z : ∀ (t : Nat) (n : Nat) (c : C), (SG ks g r)[n]? = some c → frz (SG ks g r) 0 none (t + 1) n = (frzC (frz (SG ks g r) 0 none t) c).map C.toD := by
    intro t n c h
    rw [frz, if_neg (Nat.not_lt_zero _), if_neg (by simp), h]
  have c0 : ∀ t n, n < 0 → frz (SG ks g r) 0 none t n = some (.cell n) := fun t n h => absurd h (Nat.not_lt_zero n)
  have g1 : D.cleans 0 (g.map (·.2)) = true := clean_map hg.cl
  have r1 : D.cleans 0 (r.map (·.2)) = true := clean_map hr.cl
  have z1 : frz (SG ks g r) 0 none 2 1 = some (.dic false (g.map fun p => sd p.1) (g.map (·.2))) := by
    rw [z 1 1 _ rfl, frzC, frzIs_clean (c0 1) g1]
    rfl
  have z2 : frz (SG ks g r) 0 none 2 2 = some (.dic false (r.map fun p => sd p.1) (r.map (·.2))) := by
    rw [z 1 2 _ rfl, frzC, frzIs_clean (c0 1) r1]
    rfl
  show frz (SG ks g r) 0 none 3 0 = _
  rw [z 2 0 _ rfl, frzC, frzIs, frzI, frzIs_clean (c0 2) (cl_sds 0 ks), frzIs, frzI, z1, frzIs, frzI, z2]
  rfl

theorem split_nl {a : W} (h : a.length ≤ 99000) (G : List C) : methD .split false (sd a) [sd [10]] G = some (.lst ((sp 10 a).map sd), G) := split_sd (by decide) h G
theorem cut1n (x : D) (xs : List D) (h : xs.length ≤ 99000) (G : List C) : sliceD false (.lst (x :: xs)) (some 1) none G = some (.lst xs, G) := cutn x xs 0 h G
theorem c_read_sheet {t : W} (h1 : t.length ≤ 90000) (h2 : (sp 32 ((sp 10 t).headD [])).length ≤ 300) (h3 : (sp 10 t).length ≤ 290) : Con PT wf 6 "read_sheet" [sd t] (readSh t) := by
  have hpart : ∀ l ∈ sp 10 t, l.length ≤ 90000 := fun l hl => Nat.le_trans (sp_part (by decide) hl) h1
  have hne := sp_ne 10 (by decide) t
  have hs1 := fun G => split_nl (a := t) (by omega) G
  have key : ∀ m, 5 ≤ m → ∃ G1 d0, rv (evS (cfOf PT wf m) wf F_read_sheet.body (en0 F_read_sheet [sd t]) []) = some (d0, G1) ∧ frzI (frz G1 0 none G1.length) d0 = some (readSh t) := by
    intro m hm
    obtain ⟨m, rfl⟩ : ∃ m', m = m' + 2 := ⟨m - 2, by omega⟩
    unfold readSh
    simp only [F_read_sheet]
    generalize sp 10 t = lines at *
    cases lines with
    | nil => exact absurd rfl hne
    | cons l0 rest =>
      simp only [List.headD_cons] at h2
      rw [readL]
      have hl0 := hpart l0 (List.mem_cons_self ..)
      have hs2 := fun G => split_sd (c := 32) (by decide) (a := l0) (by omega) G
      have hne2 := sp_ne 32 (by decide) l0
      have hwp : ∀ w ∈ sp 32 l0, w.length ≤ 90000 := fun w hw => Nat.le_trans (sp_part (by decide) hw) hl0
      generalize sp 32 l0 = ws at *
      cases ws with
      | nil => exact absurd rfl hne2
      | cons w0 ks =>
        rw [readK]
        simp only [List.length_cons] at h2 h3
        have ec := fun G => cut1n (sd w0) (ks.map sd) (by simp; omega) G
        have el := fun G => cut1n (sd l0) (rest.map sd) (by simp; omega) G
        have e2 : decide (((ks.length + 1 : Nat) : Int) < 2) = decide (ks = []) := decide_eq_decide.mpr (by
          constructor
          · intro h; exact List.length_eq_zero_iff.mp (by omega)
          · intro h; subst h; decide)
        have e3 : decide (((ks.map S).eraseDups.length : Int) < ((ks.length + 1 : Nat) : Int) - 1) = !nd ks := by
          rw [← lt_nd]
          exact decide_eq_decide.mpr (by omega)
        by_cases c1 : w0 = wKinds
        · subst c1
          by_cases c2 : ks = []
          · rw [if_neg (fun h => h.2.1 c2)]
            rw [decide_eq_true c2] at e2
            push_cast [hs1, atl0, hs2, bi_len_lst, List.length_map, wKinds, e2]
            refine ⟨_, _, rfl, ?_⟩
            rfl
          · rw [decide_eq_false c2] at e2
            have hk9 : ks.length < 1000 := by omega
            cases c3 : nd ks
            · rw [if_neg (fun h => by cases h.2.2)]
              rw [c3] at e3
              simp only [wKinds] at ec
              push_cast [hs1, atl0, hs2, bi_len_lst, List.length_map, wKinds, e2, ev_lenSet, ec, strs_sds, hk9, e3]
              refine ⟨_, _, rfl, ?_⟩
              rfl
            · rw [if_pos ⟨rfl, c2, rfl⟩]
              have ndk := (nd_iff ks).mp c3
              rw [c3] at e3
              simp only [wKinds] at ec
              have kn := c_new (wf := wf) (m := m) ks
              obtain ⟨G1, eg, hg⟩ := c_fill_grids (wf := wf) (m := m + 1) (ks := ks) ndk c2 (by omega) (by omega) rest (fun l h => by have := hpart l (List.mem_cons_of_mem _ h); omega) (by omega)
              obtain ⟨i1, i2, i3⟩ := fillG_inv (ks := ks) (B := 90000) 4 rest [] (fun l h => hpart l (List.mem_cons_of_mem _ h)) ⟨(fun _ h => by cases h), (fun _ h => by cases h)⟩
              push_cast [hs1, atl0, hs2, bi_len_lst, List.length_map, wKinds, e2, ev_lenSet, ec, strs_sds, hk9, e3, ev_new, List.length_nil, kn, el]
              rw [eg]
              generalize fillG ks 4 rest [] = X at *
              obtain ⟨o, g⟩ := X
              cases o with
              | none =>
                push_cast
                refine ⟨_, _, rfl, ?_⟩
                rfl
              | some rest2 =>
                obtain rfl := hg rfl
                obtain ⟨k, rfl⟩ := i3 rest2 rfl
                have hdl : ∀ l ∈ rest.drop k, l.length ≤ 90000 := fun l h => hpart l (List.mem_cons_of_mem _ (List.mem_of_mem_drop h))
                have hdn : (rest.drop k).length ≤ 290 := by rw [List.length_drop]; omega
                obtain ⟨G2, er, hr⟩ := c_fill_rows (wf := wf) (m := m + 1) (ks := ks) (g := g) ndk (by omega) (rest.drop k) (fun l h => by have := hdl l h; omega) (by omega)
                push_cast [er]
                cases c4 : fillR ks (rest.drop k) [] with
                | none =>
                  push_cast [Option.isSome_none]
                  refine ⟨_, _, rfl, ?_⟩
                  rfl
                | some r =>
                  obtain rfl := hr r c4
                  obtain ⟨j1, j2⟩ := fillR_inv (ks := ks) (B := 90000) (rest.drop k) [] r hdl ⟨(fun _ h => by cases h), (fun _ h => by cases h)⟩ c4
                  have kf := c_has_fine_names (wf := wf) (m := m + 1) (ks := ks) (g := g) (r := r) (by omega) (by omega) (by simp at i2; omega) (by simp at j2; omega) (fun w hw => by
                    rcases List.mem_append.mp hw with hw | hw
                    · have := hwp w (List.mem_cons_of_mem _ hw); omega
                    · rcases List.mem_append.mp hw with hw | hw
                      · obtain ⟨p, hp, rfl⟩ := List.mem_map.mp hw
                        have := i1.nm p hp; omega
                      · obtain ⟨p, hp, rfl⟩ := List.mem_map.mp hw
                        have := j1.nm p hp; omega)
                  push_cast [Option.isSome_some, kf]
                  cases c5 : fineN ks g r
                  · push_cast
                    refine ⟨_, _, rfl, ?_⟩
                    rfl
                  · push_cast
                    exact ⟨_, _, rfl, frz_SG i1 j1⟩
        · rw [if_neg (fun h => c1 h.1)]
          have : decide (w0 = [107, 105, 110, 100, 115]) = false := decide_eq_false c1
          push_cast [hs1, atl0, hs2, bi_len_lst, List.length_map, this]
          refine ⟨_, _, rfl, ?_⟩
          rfl
  have hc : D.clean 0 (readSh t) = true := by
    unfold readSh
    generalize sp 10 t = lines at *
    cases lines with
    | nil => rfl
    | cons l0 rest =>
      rw [readL]
      generalize sp 32 l0 = ws
      cases ws with
      | nil => rfl
      | cons w0 ks =>
        rw [readK]
        split
        · split
          · rename_i rest2 g hg
            obtain ⟨i1, i2, i3⟩ := fillG_inv (ks := ks) (B := 90000) 4 rest [] (fun l h => hpart l (List.mem_cons_of_mem _ h)) ⟨(fun _ h => by cases h), (fun _ h => by cases h)⟩
            rw [hg] at i1 i3
            obtain ⟨k, rfl⟩ := i3 rest2 rfl
            split
            · rename_i r hr
              obtain ⟨j1, _⟩ := fillR_inv (B := 90000) _ [] r (fun l h => hpart l (List.mem_cons_of_mem _ (List.mem_of_mem_drop h))) ⟨(fun _ h => by cases h), (fun _ h => by cases h)⟩ hr
              split
              · rw [D.clean, D.cleans, D.cleans, D.cleans, D.cleans, D.clean, D.clean, D.clean, cl_sds, clean_map i1.cl, clean_map j1.cl]
                rfl
              · rfl
            · rfl
          · rfl
        · rfl
  exact Con.of (F := F_read_sheet) rfl rfl rfl hc rfl key

/-! the text of a table, read back */ -/
abbrev jn (c : Nat) (ws : List W) : W := TL.joinL [c] ws
def rowLn (ks : List W) (f : W → O) : List W := ks.map fun b => (f b).ew
def opLines (ks : List W) (p : W × (W → W → O)) : List (List W) := [wOp, p.1] :: ks.map fun a => rowLn ks (p.2 a)
def castLine (ks : List W) (p : W × (W → O)) : List W := wCast :: p.1 :: rowLn ks p.2
def lineWs (T : Tab) : List (List W) := (wKinds :: T.kinds) :: (T.ops.flatMap (opLines T.kinds) ++ T.casts.map (castLine T.kinds))
def pageW (T : Tab) : W := jn 10 ((lineWs T).map (jn 32))
/-- without blanks and line feeds */ -/
def Wd (w : W) : Prop := ∀ c ∈ w, c ≠ 10 ∧ c ≠ 32
theorem mem_jn {c x : Nat} : ∀ {ws : List W}, x ∈ jn c ws → x = c ∨ ∃ w ∈ ws, x ∈ w
  | [], h => by cases h
  | [w], h => .inr ⟨w, List.mem_singleton.mpr rfl, h⟩
  | w :: v :: r, h => by
    rw [jn, TL.joinL, List.mem_append, List.mem_append] at h
    rcases h with h | h | h
    · exact .inr ⟨w, List.mem_cons_self .., h⟩
    · exact .inl (List.mem_singleton.mp h)
    · rcases mem_jn h with h | ⟨u, hu, h⟩
      · exact .inl h
      · exact .inr ⟨u, List.mem_cons_of_mem _ hu, h⟩
theorem jn_len {c B : Nat} : ∀ {ws : List W}, (∀ w ∈ ws, w.length ≤ B) → (jn c ws).length ≤ ws.length * (B + 1)
  | [], _ => by simp [jn, TL.joinL]
  | [w], h => by
    have := h w (List.mem_singleton.mpr rfl)
    simp [jn, TL.joinL]
    omega
  | w :: v :: r, h => by
    have h1 := h w (List.mem_cons_self ..)
    have h2 := jn_len (c := c) (ws := v :: r) fun u hu => h u (List.mem_cons_of_mem _ hu)
    rw [show (w :: v :: r).length = (v :: r).length + 1 from rfl, Nat.succ_mul]
    have : (TL.joinL [c] (v :: r)).length ≤ (v :: r).length * (B + 1) := h2
    have e : (jn c (w :: v :: r)).length = w.length + (1 + (TL.joinL [c] (v :: r)).length) := by
      rw [jn, TL.joinL, List.length_append, List.length_append]
      rfl
    omega
theorem sp_jn {c : Nat} {ws : List W} (hn : ws ≠ []) (h : ∀ w ∈ ws, c ∉ w) : sp c (jn c ws) = ws := TL.spl_join hn h
theorem Lw.wd {w : W} (h : Lw w) : Wd w := fun c hc => by have := h c hc; omega
theorem ew_wd {o : O} (h : OV o) : Wd o.ew := by
  cases o with
  | err => intro c hc; rw [List.mem_singleton.mp hc]; decide
  | kd k l =>
    have := (Nm.lw h).wd
    intro c hc
    cases l
    · exact this c hc
    · rcases List.mem_append.mp hc with hc | hc
      · exact this c hc
      · rw [List.mem_singleton.mp hc]; decide
theorem zip_self (ks : List W) (g : W → W) : ks.zip (ks.map g) = ks.map fun a => (a, g a) := by
  induction ks with
  | nil => rfl
  | cons k ks ih => rw [List.map_cons, List.zip_cons_cons, ih, List.map_cons]
theorem fm_congr {α β : Type} {f g : α → List β} : ∀ {l : List α}, (∀ x ∈ l, f x = g x) → l.flatMap f = l.flatMap g
  | [], _ => rfl
  | x :: l, h => by rw [List.flatMap_cons, List.flatMap_cons, h x (List.mem_cons_self ..), fm_congr fun y hy => h y (List.mem_cons_of_mem _ hy)]
section
variable {T : Tab} (h : T.Ok)
include h
theorem ok_kd : T.kinds.Nodup := (List.nodup_append.mp h.nd).1
theorem ok_ne : T.kinds ≠ [] := List.length_pos_iff.mp h.nk.1
theorem ok_nm {p : W × (W → W → O)} (hp : p ∈ T.ops) : Nm p.1 := h.nm _ (List.mem_append_right _ (List.mem_append_left _ (List.mem_map_of_mem hp)))
theorem ok_cm {p : W × (W → O)} (hp : p ∈ T.casts) : Nm p.1 := h.nm _ (List.mem_append_right _ (List.mem_append_right _ (List.mem_map_of_mem hp)))
theorem ok_ent {o : O} (m : ent T.kinds o) : OV o := h.eov m
theorem row_wd {f : W → O} (hf : ∀ b ∈ T.kinds, ent T.kinds (f b)) : ∀ w ∈ rowLn T.kinds f, Wd w ∧ w.length ≤ 9 := fun w hw => by
  obtain ⟨b, hb, rfl⟩ := List.mem_map.mp hw
  exact ⟨ew_wd (h.eov (hf b hb)), O.elen (h.eov (hf b hb))⟩
theorem line_wd : ∀ ws ∈ lineWs T, ws ≠ [] ∧ ws.length ≤ 10 ∧ ∀ w ∈ ws, Wd w ∧ w.length ≤ 9 := fun ws hws => by
  have hk8 := h.nk.2
  rcases List.mem_cons.mp hws with rfl | hws
  · refine ⟨List.cons_ne_nil _ _, by simp; omega, fun w hw => ?_⟩
    rcases List.mem_cons.mp hw with rfl | hw
    · refine ⟨?_, by decide⟩
      unfold Wd wKinds
      decide
    · have := h.knm hw
      exact ⟨this.lw.wd, by have := this.len; omega⟩
  · rcases List.mem_append.mp hws with hws | hws
    · obtain ⟨p, hp, hws⟩ := List.mem_flatMap.mp hws
      rcases List.mem_cons.mp hws with rfl | hws
      · refine ⟨List.cons_ne_nil _ _, by simp, fun w hw => ?_⟩
        rcases List.mem_cons.mp hw with rfl | hw
        · refine ⟨?_, by decide⟩
          unfold Wd wOp
          decide
        · rw [List.mem_singleton.mp hw]
          have := ok_nm h hp
          exact ⟨this.lw.wd, by have := this.len; omega⟩
      · obtain ⟨a, ha, rfl⟩ := List.mem_map.mp hws
        refine ⟨by unfold rowLn; simp [ok_ne h], by unfold rowLn; simp; omega, row_wd h fun b hb => h.oe p hp a ha b hb⟩
    · obtain ⟨p, hp, rfl⟩ := List.mem_map.mp hws
      refine ⟨List.cons_ne_nil _ _, by unfold castLine rowLn; simp; omega, fun w hw => ?_⟩
      rcases List.mem_cons.mp hw with rfl | hw
      · refine ⟨?_, by decide⟩
        unfold Wd wCast
        decide
      · rcases List.mem_cons.mp hw with rfl | hw
        · have := ok_cm h hp
          exact ⟨this.lw.wd, by have := this.len; omega⟩
        · exact row_wd h (fun b hb => h.ce p hp b hb) w hw
theorem sp_line {ws : List W} (hws : ws ∈ lineWs T) : sp 32 (jn 32 ws) = ws := sp_jn (line_wd h ws hws).1 fun w hw hc => (((line_wd h ws hws).2.2 w hw).1 32 hc).2 rfl
theorem line_len {ws : List W} (hws : ws ∈ lineWs T) : (jn 32 ws).length ≤ 100 := by
  have h1 := jn_len (c := 32) (B := 9) fun w hw => ((line_wd h ws hws).2.2 w hw).2
  have h2 := (line_wd h ws hws).2.1
  have := Nat.mul_le_mul_right 10 h2
  omega
theorem lines_n : (lineWs T).length ≤ 32 := by
  have h1 := h.nk.2
  have h2 := h.no.2
  have h3 := h.nc
  have : (T.ops.flatMap (opLines T.kinds)).length = T.ops.length * (T.kinds.length + 1) := by
    generalize T.ops = os
    induction os with
    | nil => simp
    | cons p os ih => rw [List.flatMap_cons, List.length_append, ih, List.length_cons, Nat.succ_mul]; unfold opLines; simp; omega
  unfold lineWs
  rw [List.length_cons, List.length_append, this, List.length_map]
  have := Nat.mul_le_mul h2 (Nat.succ_le_succ h1)
  simp only [Nat.succ_eq_add_one] at this
  omega
theorem page_len : (pageW T).length ≤ 4000 := by
  have h1 := jn_len (c := 10) (ws := (lineWs T).map (jn 32)) (B := 100) fun w hw => by
    obtain ⟨ws, hws, rfl⟩ := List.mem_map.mp hw
    exact line_len h hws
  have h2 := lines_n h
  rw [List.length_map] at h1
  have := Nat.mul_le_mul_right 101 h2
  unfold pageW
  omega
theorem sp_page : sp 10 (pageW T) = (lineWs T).map (jn 32) := by
  refine sp_jn (by unfold lineWs; simp) fun l hl hc => ?_
  obtain ⟨ws, hws, rfl⟩ := List.mem_map.mp hl
  rcases mem_jn hc with e | ⟨w, hw, hc⟩
  · cases e
  · exact (((line_wd h ws hws).2.2 w hw).1 10 hc).1 rfl
theorem ew_ok {o : O} (m : ent T.kinds o) : cellOk T.kinds o.ew = true := by
  unfold cellOk
  cases o with
  | err => rfl
  | kd k l =>
    cases l
    · have : k ∈ T.kinds := m
      simp [O.ew, this]
    · have : k ∈ T.kinds := m
      simp [O.ew, this, lostW]
theorem gridOf_eq {p : W × (W → W → O)} (hp : p ∈ T.ops) : gridOf T.kinds (T.kinds.map fun a => jn 32 (rowLn T.kinds (p.2 a))) = gridD T.kinds p.2 := by
  have hz : T.kinds.zip (T.kinds.map fun a => jn 32 (rowLn T.kinds (p.2 a))) = T.kinds.map fun a => (a, jn 32 (rowLn T.kinds (p.2 a))) := by
    exact zip_self _ _
  unfold gridOf gridD pairs
  rw [hz, List.flatMap_map, List.flatMap_map, List.map_flatMap, List.map_flatMap]
  congr 1
  · refine fm_congr fun a ha => ?_
    rw [List.map_map]
    rfl
  · refine fm_congr fun a ha => ?_
    have : rowLn T.kinds (p.2 a) ∈ lineWs T := List.mem_cons_of_mem _ (List.mem_append_left _ (List.mem_flatMap.mpr ⟨p, hp, List.mem_cons_of_mem _ (List.mem_map.mpr ⟨a, ha, rfl⟩)⟩))
    rw [sp_line h this]
    unfold rowLn
    rw [List.map_map, List.map_map]
    rfl

theorem op_of {p : W × (W → W → O)} (hp : p ∈ T.ops) : T.op p.1 = some p.2 := by
  have nd0 := (List.nodup_append.mp (List.nodup_append.mp h.nd).2.1).1
  unfold Tab.op
  rw [find_key nd0 hp]
  rfl
theorem cast_of {p : W × (W → O)} (hp : p ∈ T.casts) : T.cast p.1 = some p.2 := by
  have nd0 := (List.nodup_append.mp (List.nodup_append.mp h.nd).2.1).2.1
  unfold Tab.cast
  rw [find_key nd0 hp]
  rfl
theorem fillG_ops {cl : List W} (hcl : ∀ k g, fillG T.kinds (k + 1) cl g = (some cl, g)) : ∀ (os : List (W × (W → W → O))) (k : Nat) (g : List (W × D)), os.length < k → (∀ p ∈ os, p ∈ T.ops) → ((g.map (·.1)) ++ os.map (·.1)).Nodup →
    fillG T.kinds k ((os.flatMap (opLines T.kinds)).map (jn 32) ++ cl) g = (some cl, g ++ os.map fun p => (p.1, gridD T.kinds p.2))
  | [], k, g, hk, _, _ => by
    obtain ⟨k, rfl⟩ : ∃ k', k = k' + 1 := ⟨k - 1, by simp at hk; omega⟩
    simp only [List.flatMap_nil, List.map_nil, List.nil_append, List.append_nil]
    exact hcl k g
  | p :: os, k, g, hk, hm, nd => by
    obtain ⟨k, rfl⟩ : ∃ k', k = k' + 1 := ⟨k - 1, by simp at hk; omega⟩
    have hp := hm p (List.mem_cons_self ..)
    have e : ((p :: os).flatMap (opLines T.kinds)).map (jn 32) ++ cl = jn 32 [wOp, p.1] :: ((T.kinds.map fun a => jn 32 (rowLn T.kinds (p.2 a))) ++ ((os.flatMap (opLines T.kinds)).map (jn 32) ++ cl)) := by
      rw [List.flatMap_cons, List.map_append, List.append_assoc]
      show (jn 32 [wOp, p.1] :: (T.kinds.map fun a => rowLn T.kinds (p.2 a)).map (jn 32)) ++ _ = _
      rw [List.map_map]
      rfl
    have hl : [wOp, p.1] ∈ lineWs T := List.mem_cons_of_mem _ (List.mem_append_left _ (List.mem_flatMap.mpr ⟨p, hp, List.mem_cons_self ..⟩))
    have hlen : (T.kinds.map fun a => jn 32 (rowLn T.kinds (p.2 a))).length = T.kinds.length := List.length_map _
    rw [e, fillG, sp_line h hl, if_pos ⟨rfl, rfl⟩]
    rw [List.take_left' hlen, List.drop_left' hlen, gridOf_eq h hp]
    have g1 : gridOk T.kinds (T.kinds.map fun a => jn 32 (rowLn T.kinds (p.2 a))) = true := by
      unfold gridOk
      rw [Bool.and_eq_true, List.all_eq_true]
      refine ⟨decide_eq_true (by rw [hlen]; exact Nat.le_refl _), fun l hl => ?_⟩
      obtain ⟨a, ha, rfl⟩ := List.mem_map.mp (List.mem_of_mem_take hl)
      have : rowLn T.kinds (p.2 a) ∈ lineWs T := List.mem_cons_of_mem _ (List.mem_append_left _ (List.mem_flatMap.mpr ⟨p, hp, List.mem_cons_of_mem _ (List.mem_map.mpr ⟨a, ha, rfl⟩)⟩))
      unfold rowOk
      rw [sp_line h this, Bool.and_eq_true, List.all_eq_true]
      refine ⟨decide_eq_true (by unfold rowLn; simp), fun w hw => ?_⟩
      obtain ⟨b, hb, rfl⟩ := List.mem_map.mp hw
      exact ew_ok h (h.oe p hp a ha b hb)
    have nk : ¬ p.1 ∈ g.map (·.1) := by
      rw [List.map_cons] at nd
      intro hx
      exact (List.nodup_append.mp nd).2.2 p.1 hx p.1 (List.mem_cons_self ..) rfl
    rw [if_neg (by
      rintro (q | q | q)
      · rw [g1] at q; cases q
      · exact nk q
      · rw [List.length_append, hlen] at q; omega)]
    have ih := fillG_ops hcl os k (g ++ [(p.1, gridD T.kinds p.2)]) (by simp at hk; omega) (fun q hq => hm q (List.mem_cons_of_mem _ hq)) (by simpa using nd)
    rw [show ([wOp, p.1] : List W)[1]?.getD [] = p.1 from rfl, ih]
    simp
theorem fillR_casts : ∀ (cs : List (W × (W → O))) (r : List (W × D)), (∀ p ∈ cs, p ∈ T.casts) → ((r.map (·.1)) ++ cs.map (·.1)).Nodup →
    fillR T.kinds (cs.map fun p => jn 32 (castLine T.kinds p)) r = some (r ++ cs.map fun p => (p.1, rowD T.kinds p.2))
  | [], r, _, _ => by simp [fillR]
  | p :: cs, r, hm, nd => by
    have hp := hm p (List.mem_cons_self ..)
    have hl : castLine T.kinds p ∈ lineWs T := List.mem_cons_of_mem _ (List.mem_append_right _ (List.mem_map.mpr ⟨p, hp, rfl⟩))
    have nk : ¬ p.1 ∈ r.map (·.1) := by
      rw [List.map_cons] at nd
      intro hx
      exact (List.nodup_append.mp nd).2.2 p.1 hx p.1 (List.mem_cons_self ..) rfl
    have hd : (castLine T.kinds p).drop 2 = rowLn T.kinds p.2 := rfl
    have h1 := h.nk.1
    rw [List.map_cons, fillR, sp_line h hl, hd, if_pos]
    · rw [fillR_casts cs _ (fun q hq => hm q (List.mem_cons_of_mem _ hq)) (by simpa [castLine] using nd)]
      simp [castLine, rowD, rowLn]
    · refine ⟨by unfold castLine rowLn; simp; omega, rfl, ⟨by unfold rowLn; simp, ?_⟩, nk⟩
      rw [List.all_eq_true]
      intro w hw
      obtain ⟨b, hb, rfl⟩ := List.mem_map.mp hw
      exact ew_ok h (h.ce p hp b hb)
theorem read_page : readSh (pageW T) = sh T := by
  have nd0 := h.nd
  have nda := (List.nodup_append.mp nd0).2.1
  unfold readSh
  rw [sp_page h]
  unfold lineWs
  rw [List.map_cons, List.map_append, List.map_map, readL, sp_line h (List.mem_cons_self ..), readK, if_pos ⟨rfl, ok_ne h, (nd_iff _).mpr (ok_kd h)⟩]
  have hcl : ∀ k g, fillG T.kinds (k + 1) (T.casts.map (jn 32 ∘ castLine T.kinds)) g = (some (T.casts.map (jn 32 ∘ castLine T.kinds)), g) := by
    intro k g
    cases hc : T.casts with
    | nil => rfl
    | cons p cs =>
      have hp : p ∈ T.casts := by rw [hc]; exact List.mem_cons_self ..
      have hl : castLine T.kinds p ∈ lineWs T := List.mem_cons_of_mem _ (List.mem_append_right _ (List.mem_map.mpr ⟨p, hp, rfl⟩))
      have h1 := h.nk.1
      rw [List.map_cons, fillG]
      refine if_neg ?_
      rintro ⟨q, _⟩
      have q : (sp 32 (jn 32 (castLine T.kinds p))).length = 2 := q
      rw [sp_line h hl] at q
      have : (castLine T.kinds p).length = T.kinds.length + 2 := by unfold castLine rowLn; simp
      omega
  rw [fillG_ops h hcl T.ops 4 [] (by have := h.no.2; omega) (fun _ hp => hp) (by simpa using (List.nodup_append.mp nda).1)]
  show (match fillR T.kinds (T.casts.map (jn 32 ∘ castLine T.kinds)) [] with | some r => _ | none => _) = _
  rw [show (T.casts.map (jn 32 ∘ castLine T.kinds)) = T.casts.map fun p => jn 32 (castLine T.kinds p) from rfl, fillR_casts h T.casts [] (fun _ hp => hp) (by simpa using (List.nodup_append.mp nda).2.1)]
  have hf : fineN T.kinds ([] ++ T.ops.map fun p => (p.1, gridD T.kinds p.2)) ([] ++ T.casts.map fun p => (p.1, rowD T.kinds p.2)) = true := by
    unfold fineN
    simp only [List.nil_append, List.length_map, List.map_map, Bool.and_eq_true, decide_eq_true_eq]
    refine ⟨⟨h.nk, h.no⟩, h.nc, ?_, ?_⟩
    · rw [List.all_eq_true]
      exact fun w hw => (tagOk_iff w).mpr (h.nm w hw)
    · exact (nd_iff _).mpr nd0
  show (if _ then _ else _) = _
  rw [if_pos hf]
  unfold sh opsD castsD
  simp only [List.nil_append, List.map_map]
  rfl
theorem c_read_page : Con PT wf 6 "read_sheet" [sd (pageW T)] (sh T) := by
  have := c_read_sheet (wf := wf) (t := pageW T) (by have := page_len h; omega) (by
    rw [sp_page h]
    show (sp 32 (jn 32 (wKinds :: T.kinds))).length ≤ 300
    rw [sp_line h (List.mem_cons_self ..)]
    have := h.nk.2
    simp
    omega) (by rw [sp_page h, List.length_map]; have := lines_n h; omega)
  rw [read_page h] at this
  exact this
end

/-! the law's own reckoning */ -/
theorem idx_last {w : W} (h : w ≠ []) (hl : w.length ≤ 100000) (G : List C) : idxD (sd w) (.int (-1)) G = some (sd [w.getLast h]) := by
  have hp : 0 < w.length := List.length_pos_iff.mpr h
  show (if (S w).length ≤ sizeLine then (atI w (-1)).map fun c => D.str (sgn c) else none) = _
  rw [if_pos (by rw [S_len]; exact Nat.le_trans hl (by decide))]
  have : atI w (-1) = some (w.getLast h) := by
    unfold atI ixN
    rw [if_neg (by decide), if_pos (by omega)]
    show w[((-1 : Int) + (w.length : Int)).toNat]? = _
    rw [show ((-1 : Int) + (w.length : Int)).toNat = w.length - 1 by omega, ← List.getLast?_eq_getElem?, List.getLast?_eq_some_getLast h]
  rw [this]
  rfl
theorem ew_nil {o : O} (h : OV o) : o.ew ≠ [] := by
  cases o with
  | err => exact List.cons_ne_nil _ _
  | kd k l =>
    cases l
    · exact Nm.ne h
    · simp [O.ew]
theorem last33 {w : W} (h : w ≠ []) : decide (w.getLast h = 33) = (w.getLast? == some 33) := by
  rw [List.getLast?_eq_some_getLast h]
  by_cases e : w.getLast h = 33
  · rw [e]; rfl
  · rw [decide_eq_false e]
    symm
    simp [e]
theorem l_mark {o : O} {l : Bool} (h : OV o) : Con PT wf 1 "_law_mark" [o.ed, .bl l] (mark o l).d := by
  refine Con.of0 (F := F__law_mark) rfl rfl rfl rfl rfl fun m hm => ?_
  simp only [F__law_mark]
  cases o with
  | err => push_cast [show O.err.ew = [45] from rfl, mark, err_w]
  | kd k l' =>
    have hne := ew_nil (o := .kd k l') h
    have hd : decide ((O.kd k l').ew = [45]) = false := decide_eq_false (ew_dash h)
    have h1 := fun G => idx_last hne (by have := O.elen (o := .kd k l') h; omega) G
    have h2 := last33 hne
    rw [O.last_ew (o := .kd k l') h] at h2
    have h3 := fun c G => add_sd (a := (O.kd k l').ew) (b := [33]) (by have := O.elen (o := .kd k l') h; omega) (by decide) c G
    simp only [O.ed]
    generalize hw : (O.kd k l').ew = w at *
    cases l <;> cases l' <;> push_cast [hd, h1, h2, h3, O.lost, mark, Int.reduceNeg] <;> (try rw [← hw]) <;> rfl
theorem in2l (a b c : W) (G : List C) : inD (sd a) (.lst [sd b, sd c]) G = some (decide (b = a) || decide (c = a)) := by
  show (if (([sd b, sd c].all fun z => eqOk z (sd a)) && D.plain false (sd a)) = true then some ([sd b, sd c].any fun z => eqD z (sd a)) else none) = _
  refine Eq.trans (if_pos rfl) ?_
  simp only [List.any_cons, List.any_nil, eq_sd, Bool.or_false]
theorem web_kinds (T : Tab) (G : List C) : idxD (web T) (sd [107, 105, 110, 100, 115]) G = some (.lst (T.kinds.map sd)) := by
  show dget [D.str "kinds", D.str "ops", D.str "casts"] _ (sd [107, 105, 110, 100, 115]) = _
  rw [l_kinds, l_ops, l_casts, dget, kEq_str]
  rfl
theorem web_ops (T : Tab) (G : List C) : idxD (web T) (sd [111, 112, 115]) G = some (opsD T) := by
  show dget [D.str "kinds", D.str "ops", D.str "casts"] _ (sd [111, 112, 115]) = _
  rw [l_kinds, l_ops, l_casts, dget, kEq_str, dget, kEq_str]
  rfl
theorem web_casts (T : Tab) (G : List C) : idxD (web T) (sd [99, 97, 115, 116, 115]) G = some (castsD T) := by
  show dget [D.str "kinds", D.str "ops", D.str "casts"] _ (sd [99, 97, 115, 116, 115]) = _
  rw [l_kinds, l_ops, l_casts, dget, kEq_str, dget, kEq_str, dget, kEq_str]
  rfl
theorem sp33 {k : W} {l : Bool} (h : Nm k) : ∃ r, sp 33 (O.kd k l).w = k :: r := by
  have hk : (33 : Nat) ∉ k := h.lw.no (by decide)
  cases l
  · exact ⟨[], spl_none hk⟩
  · exact ⟨_, spl_one (b := []) hk⟩
theorem lost33 {k k' : W} {l l' : Bool} (h : Nm k) (h' : Nm k') : decide ((33 : Nat) ∈ (O.kd k l).w ++ (O.kd k' l').w) = (l || l') := by
  have h1 : (33 : Nat) ∉ k := h.lw.no (by decide)
  have h2 : (33 : Nat) ∉ k' := h'.lw.no (by decide)
  cases l <;> cases l' <;> simp [O.w, h1, h2]
theorem l_both {T : Tab} (h : T.Ok) {n : W} {f : W → W → O} (hf : T.op n = some f) {a b : O} (ha : a ∈ T.outs) (hb : b ∈ T.outs) : Con PT wf 2 "_law_both" [web T, sd n, a.d, b.d] (joinF f a b).d := by
  refine Con.of0 (F := F__law_both) rfl rfl (by simp only [D.cleans, D.clean, cl_web, Bool.and_true]) rfl rfl fun m hm => ?_
  simp only [F__law_both]
  cases a with
  | err => push_cast [in2l, err_w, err_err, joinF]
  | kd a l =>
    have na : Nm a := h.ov ha
    cases b with
    | err => push_cast [in2l, err_w, err_err, joinF]
    | kd b l' =>
      have nb : Nm b := h.ov hb
      have ka : a ∈ T.kinds := mem_outs.mp ha
      have kb : b ∈ T.kinds := mem_outs.mp hb
      have la := O.len (o := .kd a l) na
      have lb := O.len (o := .kd b l') nb
      obtain ⟨ra, ea⟩ := sp33 (l := l) na
      obtain ⟨rb, eb⟩ := sp33 (l := l') nb
      have s1 := fun G => split_sd (c := 33) (by decide) (a := (O.kd a l).w) (by omega) G
      have s2 := fun G => split_sd (c := 33) (by decide) (a := (O.kd b l').w) (by omega) G
      rw [ea, List.map_cons] at s1
      rw [eb, List.map_cons] at s2
      have s3 := fun c G => add_sd (a := (O.kd a l).w) (b := (O.kd b l').w) (by omega) (by omega) c G
      have ov := h.eov (h.opE hf ka kb)
      have k3 := l_mark (wf := wf) (o := f a b) (l := l || l') ov m (by omega)
      have k4 := lost33 (l := l) (l' := l') na nb
      push_cast [in2l, kd_err na, kd_err nb, web_ops, idx_ops hf, s1, s2, atl0, idx_grid ka kb, s3, in_str1, k4, k3, joinF]
theorem l_all {T : Tab} (h : T.Ok) : Con PT wf 1 "_law_all" [web T] (.lst (T.outs.map O.d)) := by
  refine Con.of0 (F := F__law_all) rfl rfl (by simp only [D.cleans, cl_web, Bool.and_true]) (by rw [D.clean]; exact cl_os _ _) rfl fun m hm => ?_
  have hk := h.nk.2
  simp only [F__law_all]
  push_cast [web_kinds]
  generalize hL : loopS _ _ _ _ = L
  obtain ⟨ρ1, G1, rfl, rfl, x, rfl⟩ : ∃ ρ1 G1, L = some (.nx, ρ1, G1) ∧ G1 = [] ∧ ∃ x, ρ1 = [some (web T), some (.lst ((T.kinds.flatMap (fun k => [O.kd k false, O.kd k true])).map O.d)), x] := by
    rw [← hL]
    refine loopS_run (fun dn ρ G => G = [] ∧ ∃ x, ρ = [some (web T), some (.lst ((dn.flatMap (fun k => [O.kd k false, O.kd k true])).map O.d)), x]) ⟨rfl, _, rfl⟩ ?_
    rintro dn k rest er ρ G ⟨rfl, x, rfl⟩
    have hm : k ∈ T.kinds := by rw [er]; simp
    have nk := h.knm hm
    have hl := congrArg List.length er
    rw [List.length_append, List.length_cons] at hl
    push_cast [stF, add_sd (a := k) (b := [33]) nk.l1000 (by decide), mkL_small (xs := [sd k, sd (k ++ [33])]) (show 2 ≤ 100000 by decide), cat_lst (xs := (dn.flatMap (fun k => [O.kd k false, O.kd k true])).map O.d) (ys := [sd k, sd (k ++ [33])]) (by rw [List.length_append, List.length_map, fm_len]; simp; omega)]
    refine ⟨_, _, rfl, rfl, some (sd k), ?_⟩
    rw [List.flatMap_append, List.map_append]
    rfl
  push_cast [cat_lst (xs := (T.kinds.flatMap (fun k => [O.kd k false, O.kd k true])).map O.d) (ys := [sd wErr]) (by rw [List.length_append, List.length_map, fm_len]; simp; omega)]
  unfold Tab.outs
  rw [List.map_append]
  rfl

theorem l_is_lot {T : Tab} (h : T.Ok) {v : D} (hv : Vl v) : Con PT wf 2 "_law_is_lot" [web T, v] (.bl (isLot T v)) := by
  refine Con.of0 (F := F__law_is_lot) rfl rfl (by simp only [D.cleans, cl_web, hv.clean, Bool.and_true]) rfl rfl fun m hm => ?_
  simp only [F__law_is_lot]
  have k1 := l_all (wf := wf) h m (by omega)
  have hl := outs_len h
  cases hv with
  | tup h1 h2 =>
    rename_i xs
    push_cast [k1]
    generalize hL : compL _ _ _ = L
    obtain rfl : L = some ((T.outs.filter fun o => xs.any fun z => eqD z o.d).map O.d, []) := by
      rw [← hL]
      refine compL_filter fun o ho => ?_
      push_cast [stC, in_tup h1 h2]
      cases xs.any fun z => eqD z (sd o.w) <;> rfl
    have hz := List.length_filter_le (fun o => xs.any fun z => eqD z o.d) T.outs
    push_cast [mkL_small (xs := (T.outs.filter fun o => xs.any fun z => eqD z o.d).map O.d) (by rw [List.length_map]; omega), cmp_eq_tup h1 h2 (ys := (T.outs.filter fun o => xs.any fun z => eqD z o.d).map O.d) (by rw [map_od]; exact plains_sds _) (by rw [map_od, depths_sds]; exact Nat.zero_le _), isLot]
  | non => push_cast [isLot]
  | bl => push_cast [isLot]
  | int => push_cast [isLot]
  | str => push_cast [isLot]
  | lst => push_cast [isLot]
  | dic => push_cast [isLot]
theorem ne_unit {xs : List D} (h1 : D.plains false xs = true) (h2 : D.depths xs ≤ 50) (G : List C) : cmpD .ne (.tup xs) (.tup []) G = some (decide (0 < xs.length)) := by
  show (if eqOk (.tup xs) (.tup []) = true then some (!eqD (.tup xs) (.tup [])) else none) = _
  refine Eq.trans (if_pos ?_) ?_
  · unfold eqOk
    rw [D.plain, h1, D.depth]
    have : D.depth (.tup []) = 1 := rfl
    simp [this, D.plain, D.plains]
    omega
  · rw [eqD]
    cases xs <;> simp [eqDs]
theorem l_is_leaves {T : Tab} (h : T.Ok) {v : D} (hv : Vl v) : Con PT wf 1 "_law_is_leaves" [web T, v] (.bl (isLeaves T v)) := by
  refine Con.of0 (F := F__law_is_leaves) rfl rfl (by simp only [D.cleans, cl_web, hv.clean, Bool.and_true]) rfl rfl fun m hm => ?_
  simp only [F__law_is_leaves]
  have hl := h.nk.2
  unfold isLeaves
  cases hv with
  | tup h1 h2 =>
    rename_i xs
    rw [show decide (0 < lenT (.tup xs)) = decide (0 < xs.length) from rfl]
    cases e : decide (0 < xs.length)
    · push_cast [ne_unit h1 h2, e]
    · push_cast [ne_unit h1 h2, e, web_kinds]
      generalize hL : compL _ _ _ = L
      obtain rfl : L = some ((T.kinds.filter fun k => xs.any fun z => eqD z (sd k)).map sd, []) := by
        rw [← hL]
        refine compL_filter fun o ho => ?_
        push_cast [stC, in_tup h1 h2]
        cases xs.any fun z => eqD z (sd o) <;> rfl
      have hz := List.length_filter_le (fun k => xs.any fun z => eqD z (sd k)) T.kinds
      push_cast [mkL_small (xs := (T.kinds.filter fun k => xs.any fun z => eqD z (sd k)).map sd) (by rw [List.length_map]; omega), cmp_eq_tup h1 h2 (ys := (T.kinds.filter fun k => xs.any fun z => eqD z (sd k)).map sd) (plains_sds _) (by rw [depths_sds]; exact Nat.zero_le _), isMarked]
  | non => push_cast [isMarked]
  | bl => push_cast [isMarked]
  | int => push_cast [isMarked]
  | str => push_cast [isMarked]
  | lst => push_cast [isMarked]
  | dic => push_cast [isMarked]
theorem l_is_tag_ops {T : Tab} {v : D} (hv : Vl v) : Con PT wf 1 "_law_is_tag" [opsD T, v] (.bl (opOf T v).isSome) := by
  rw [← opOf_is]
  refine Con.of0 (F := F__law_is_tag) rfl rfl (by simp only [D.cleans, D.clean, cl_opsD, hv.clean, Bool.and_true]) rfl rfl fun m hm => ?_
  simp only [F__law_is_tag]
  cases hv with
  | str x =>
    rw [sd_strOf x]
    generalize strOf (.str x) = w
    push_cast [in_opsD, isStr, show strOf (sd w) = w from rfl]
  | tup => push_cast [isStr]
  | non => push_cast [isStr]
  | bl => push_cast [isStr]
  | int => push_cast [isStr]
  | lst => push_cast [isStr]
  | dic => push_cast [isStr]
theorem ne_nil_od (os : List O) (G : List C) : cmpD .ne (.lst (os.map O.d)) (.lst []) G = some (!os.isEmpty) := by
  show (if eqOk (.lst (os.map O.d)) (.lst []) = true then some (!eqD (.lst (os.map O.d)) (.lst [])) else none) = _
  refine Eq.trans (if_pos ?_) ?_
  · unfold eqOk
    rw [D.plain, map_od, plains_sds, D.depth, depths_sds]
    rfl
  · rw [eqD]
    cases os <;> simp [eqDs]
theorem filter_emp {α : Type} (p : α → Bool) (xs : List α) : (xs.filter p).isEmpty = xs.all fun x => !p x := by
  induction xs with
  | nil => rfl
  | cons x xs ih =>
    rw [List.filter_cons, List.all_cons, ← ih]
    cases p x <;> simp

theorem sum_le (ws : List W) (h : ∀ w ∈ ws, w.length ≤ 4000) : ((ws.map S).map (·.length)).sum ≤ ws.length * 4000 := by
  induction ws with
  | nil => simp
  | cons w ws ih =>
    have := ih fun v hv => h v (List.mem_cons_of_mem _ hv)
    have := h w (List.mem_cons_self ..)
    rw [List.map_cons, List.map_cons, List.sum_cons, List.length_cons, Nat.succ_mul, S_len]
    omega
theorem join_go {a : W} {ws : List W} (ha : a.length ≤ 1) (hw : ∀ w ∈ ws, w.length ≤ 4000) (hl : ws.length ≤ 1000) {x : D} {G : List C} (hx : seqOf G x = some (ws.map sd)) : methD .join false (sd a) [x] G = some (sd (TL.joinL a ws), G) := by
  have h1 := sum_le ws hw
  have h2 : ((ws.map S).map (·.length)).sum + (ws.map S).length * (S a).length ≤ 16777216 := by
    rw [List.length_map, S_len]
    have := Nat.mul_le_mul_left ws.length ha
    omega
  simp only [methD, hx, strs_sds]
  rw [if_pos h2, join_S]
theorem join_lst {c : Nat} {ws : List W} (hw : ∀ w ∈ ws, w.length ≤ 4000) (hl : ws.length ≤ 1000) (G : List C) : methD .join false (sd [c]) [.lst (ws.map sd)] G = some (sd (jn c ws), G) := join_go (by simp) hw hl rfl
theorem join_cell {c : Nat} {ws : List W} (hw : ∀ w ∈ ws, w.length ≤ 4000) (hl : ws.length ≤ 1000) (G : List C) : methD .join false (sd [c]) [.cell 0] (.lst (ws.map sd) :: G) = some (sd (jn c ws), .lst (ws.map sd) :: G) := join_go (by simp) hw hl rfl
theorem app0 {xs : List D} (h : xs.length ≤ 100000) (x : D) (G : List C) : methD .append false (.cell 0) [x] (.lst xs :: G) = some (.non, .lst (xs ++ [x]) :: G) := by
  show (if xs.length < sizeLine then some (D.non, (.lst xs :: G).set 0 (.lst (xs ++ [x]))) else none) = _
  rw [if_pos (Nat.lt_of_le_of_lt h (by decide))]
  rfl
theorem appOk (xs : List D) (G : List C) : (lstOf (.lst xs :: G) (.cell 0)).isSome = true := rfl
theorem jn_cons {c : Nat} {w : W} {ws : List W} (h : ws ≠ []) : jn c (w :: ws) = w ++ c :: jn c ws := by
  cases ws with
  | nil => exact absurd rfl h
  | cons v r => rfl
/-- lines as they stand in a list */ -/
def LL (ls : List (List W)) : List D := (ls.map (jn 32)).map sd
theorem LL_app (a b : List (List W)) : LL (a ++ b) = LL a ++ LL b := by unfold LL; rw [List.map_append, List.map_append]
theorem LL_len (a : List (List W)) : (LL a).length = a.length := by unfold LL; rw [List.length_map, List.length_map]
theorem l_page {T : Tab} (h : T.Ok) : Con PT wf 1 "_law_page" [web T] (sd (pageW T)) := by
  refine Con.of (F := F__law_page) rfl rfl (by simp only [D.cleans, cl_web, Bool.and_true]) rfl rfl fun m hm => ?_
  have hk8 := h.nk.2
  have hne := ok_ne h
  have wl : ∀ {ws : List W}, ws ∈ lineWs T → ∀ w ∈ ws, w.length ≤ 4000 := fun hws w hw => by have := ((line_wd h _ hws).2.2 w hw).2; omega
  have hln := lines_n h
  simp only [F__law_page]
  have kl : ∀ w ∈ T.kinds, w.length ≤ 4000 := fun w hw => wl (ws := wKinds :: T.kinds) (List.mem_cons_self ..) w (List.mem_cons_of_mem _ hw)
  have j1 := fun G => join_lst (c := 32) (ws := T.kinds) kl (by omega) G
  have ln1 : (jn 32 (wKinds :: T.kinds)).length ≤ 100 := line_len h (List.mem_cons_self ..)
  have e1 : wKinds ++ [32] ++ jn 32 T.kinds = jn 32 (wKinds :: T.kinds) := by rw [jn_cons hne]; simp
  have hl1 : (jn 32 T.kinds).length ≤ 100000 := by
    have := congrArg List.length e1
    rw [List.length_append] at this
    omega
  have a1 := fun c G => add_sd (a := [107, 105, 110, 100, 115, 32]) (b := jn 32 T.kinds) (by decide) hl1 c G
  have e1' : [107, 105, 110, 100, 115, 32] ++ jn 32 T.kinds = jn 32 (wKinds :: T.kinds) := e1
  rw [e1'] at a1
  push_cast [web_kinds, j1, a1, web_ops, opsD]
  rw [show ([C.lst [sd (jn 32 (wKinds :: T.kinds))]] : List C) = [C.lst (LL [wKinds :: T.kinds])] from rfl]
  generalize hL : loopS _ _ _ _ = L
  obtain ⟨ρ1, G1, rfl, x, y, z, rfl, rfl⟩ : ∃ ρ1 G1, L = some (.nx, ρ1, G1) ∧ ∃ x y z, ρ1 = [some (web T), some (.cell 0), x, y, z] ∧ G1 = [.lst (LL ([wKinds :: T.kinds] ++ T.ops.flatMap (opLines T.kinds)))] := by
    rw [← hL]
    refine loopS_run (fun dn ρ G => ∃ x y z, ρ = [some (web T), some (.cell 0), x, y, z] ∧ G = [.lst (LL ([wKinds :: T.kinds] ++ dn.flatMap (opLines T.kinds)))]) ⟨_, _, _, rfl, rfl⟩ ?_
    rintro dn p rest er ρ G ⟨x, y, z, rfl, rfl⟩
    have hp : p ∈ T.ops := by rw [er]; simp
    have np := ok_nm h hp
    have hdn : ([wKinds :: T.kinds] ++ dn.flatMap (opLines T.kinds)).length + (T.kinds.length + 1) ≤ 100 := by
      have : ((T.ops.flatMap (opLines T.kinds))).length ≤ 32 := by
        unfold lineWs at hln
        simp only [List.length_cons, List.length_append] at hln
        omega
      rw [er, List.flatMap_append, List.length_append] at this
      simp only [List.length_append, List.length_singleton]
      omega
    have a2 := fun c G => add_sd (a := [111, 112, 32]) (b := p.1) (by decide) np.l1000 c G
    have e2 : [111, 112, 32] ++ p.1 = jn 32 [wOp, p.1] := rfl
    rw [e2] at a2
    have hf : T.op p.1 = some p.2 := op_of h hp
    generalize hls : [wKinds :: T.kinds] ++ dn.flatMap (opLines T.kinds) = ls at *
    have ap1 := fun G => app0 (xs := LL ls) (by rw [LL_len]; omega) (sd (jn 32 [wOp, p.1])) G
    rw [show LL ls ++ [sd (jn 32 [wOp, p.1])] = LL (ls ++ [[wOp, p.1]]) by rw [LL_app]; rfl] at ap1
    push_cast [stF, a2, ap1, web_kinds]
    generalize hL2 : loopS _ _ _ _ = L2
    obtain ⟨ρ2, G2, rfl, y', z', rfl, rfl⟩ : ∃ ρ1 G1, L2 = some (.nx, ρ1, G1) ∧ ∃ y z, ρ1 = [some (web T), some (.cell 0), some (sd p.1), y, z] ∧ G1 = [.lst (LL (ls ++ [[wOp, p.1]] ++ T.kinds.map fun a => rowLn T.kinds (p.2 a)))] := by
      rw [← hL2]
      refine loopS_run (fun dk ρ G => ∃ y z, ρ = [some (web T), some (.cell 0), some (sd p.1), y, z] ∧ G = [.lst (LL (ls ++ [[wOp, p.1]] ++ dk.map fun a => rowLn T.kinds (p.2 a)))]) ⟨_, _, rfl, by simp⟩ ?_
      rintro dk a rest2 er2 ρ G ⟨y, z, rfl, rfl⟩
      have ha : a ∈ T.kinds := by rw [er2]; simp
      have hkl := congrArg List.length er2
      rw [List.length_append, List.length_cons] at hkl
      have hrow : rowLn T.kinds (p.2 a) ∈ lineWs T := List.mem_cons_of_mem _ (List.mem_append_left _ (List.mem_flatMap.mpr ⟨p, hp, List.mem_cons_of_mem _ (List.mem_map.mpr ⟨a, ha, rfl⟩)⟩))
      have hrl : (rowLn T.kinds (p.2 a)).length ≤ 8 := by unfold rowLn; rw [List.length_map]; omega
      have j2 := fun G => join_lst (c := 32) (ws := rowLn T.kinds (p.2 a)) (wl hrow) (by omega) G
      generalize hls2 : ls ++ [[wOp, p.1]] ++ dk.map (fun a => rowLn T.kinds (p.2 a)) = ls2 at *
      have hl2 : ls2.length ≤ 1000 := by rw [← hls2]; simp only [List.length_append, List.length_map, List.length_singleton]; omega
      have ap2 := fun G => app0 (xs := LL ls2) (by rw [LL_len]; omega) (sd (jn 32 (rowLn T.kinds (p.2 a)))) G
      rw [show LL ls2 ++ [sd (jn 32 (rowLn T.kinds (p.2 a)))] = LL (ls2 ++ [rowLn T.kinds (p.2 a)]) by rw [LL_app]; rfl] at ap2
      push_cast [stF, web_kinds]
      generalize hL3 : compL _ _ _ = L3
      obtain rfl : L3 = some ((rowLn T.kinds (p.2 a)).map sd, [.lst (LL ls2)]) := by
        rw [← hL3]
        unfold rowLn
        rw [List.map_map]
        refine compL_map1 fun b hb => ?_
        push_cast [stC, web_ops, idx_ops hf, idx_grid ha hb]
        rfl
      push_cast [mkL_small (xs := (rowLn T.kinds (p.2 a)).map sd) (by rw [List.length_map]; omega), j2, ap2]
      refine ⟨_, _, rfl, _, _, rfl, ?_⟩
      rw [← hls2]
      simp
    refine ⟨_, _, rfl, _, _, _, rfl, ?_⟩
    rw [← hls]
    simp [opLines]
  push_cast [web_casts, castsD]
  generalize hL : loopS _ _ _ _ = L
  obtain ⟨ρ2, G2, rfl, x', y', z', rfl, rfl⟩ : ∃ ρ1 G1, L = some (.nx, ρ1, G1) ∧ ∃ x y z, ρ1 = [some (web T), some (.cell 0), x, y, z] ∧ G1 = [.lst (LL ([wKinds :: T.kinds] ++ T.ops.flatMap (opLines T.kinds) ++ T.casts.map (castLine T.kinds)))] := by
    rw [← hL]
    refine loopS_run (fun dn ρ G => ∃ x y z, ρ = [some (web T), some (.cell 0), x, y, z] ∧ G = [.lst (LL ([wKinds :: T.kinds] ++ T.ops.flatMap (opLines T.kinds) ++ dn.map (castLine T.kinds)))]) ⟨_, _, _, rfl, by simp⟩ ?_
    rintro dn p rest er ρ G ⟨x, y, z, rfl, rfl⟩
    have hp : p ∈ T.casts := by rw [er]; simp
    have np := ok_cm h hp
    have hcl := congrArg List.length er
    rw [List.length_append, List.length_cons] at hcl
    have hdn : ([wKinds :: T.kinds] ++ T.ops.flatMap (opLines T.kinds) ++ dn.map (castLine T.kinds)).length ≤ 100 := by
      unfold lineWs at hln
      simp only [List.length_cons, List.length_append, List.length_map, List.length_nil] at hln ⊢
      omega
    have hf : T.cast p.1 = some p.2 := cast_of h hp
    have hrow : castLine T.kinds p ∈ lineWs T := List.mem_cons_of_mem _ (List.mem_append_right _ (List.mem_map.mpr ⟨p, hp, rfl⟩))
    have hrw : ∀ w ∈ rowLn T.kinds p.2, w.length ≤ 4000 := fun w hw => wl hrow w (List.mem_cons_of_mem _ (List.mem_cons_of_mem _ hw))
    have hrl : (rowLn T.kinds p.2).length ≤ 8 := by unfold rowLn; rw [List.length_map]; omega
    have hrn : rowLn T.kinds p.2 ≠ [] := by unfold rowLn; simp [hne]
    have a1 := fun c G => add_sd (a := [99, 97, 115, 116, 32]) (b := p.1) (by decide) np.l1000 c G
    have a2 := fun c G => add_sd (a := [99, 97, 115, 116, 32] ++ p.1) (b := [32]) (by have := np.len; simp; omega) (by decide) c G
    have e3 : [99, 97, 115, 116, 32] ++ p.1 ++ [32] ++ jn 32 (rowLn T.kinds p.2) = jn 32 (castLine T.kinds p) := by
      unfold castLine
      rw [jn_cons (List.cons_ne_nil _ _), jn_cons hrn]
      simp [wCast]
    have l3 : (jn 32 (castLine T.kinds p)).length ≤ 100 := line_len h hrow
    have l4 : (jn 32 (rowLn T.kinds p.2)).length ≤ 100000 := by
      have := congrArg List.length e3
      rw [List.length_append] at this
      omega
    have a3 := fun c G => add_sd (a := [99, 97, 115, 116, 32] ++ p.1 ++ [32]) (b := jn 32 (rowLn T.kinds p.2)) (by have := np.len; simp; omega) l4 c G
    rw [e3] at a3
    have j2 := fun G => join_lst (c := 32) (ws := rowLn T.kinds p.2) hrw (by omega) G
    simp only [List.cons_append, List.nil_append] at a1 a2 a3
    generalize hls : [wKinds :: T.kinds] ++ T.ops.flatMap (opLines T.kinds) ++ dn.map (castLine T.kinds) = ls at *
    have ap1 := fun G => app0 (xs := LL ls) (by rw [LL_len]; omega) (sd (jn 32 (castLine T.kinds p))) G
    rw [show LL ls ++ [sd (jn 32 (castLine T.kinds p))] = LL (ls ++ [castLine T.kinds p]) by rw [LL_app]; rfl] at ap1
    push_cast [stF, a1, a2, web_kinds]
    generalize hL3 : compL _ _ _ = L3
    obtain rfl : L3 = some ((rowLn T.kinds p.2).map sd, [.lst (LL ls)]) := by
      rw [← hL3]
      unfold rowLn
      rw [List.map_map]
      refine compL_map1 fun b hb => ?_
      push_cast [stC, web_casts, idx_casts hf, idx_row hb]
      rfl
    push_cast [mkL_small (xs := (rowLn T.kinds p.2).map sd) (by rw [List.length_map]; omega), j2, a3, ap1]
    refine ⟨_, _, rfl, _, _, _, rfl, ?_⟩
    rw [← hls]
    simp
  have hlw : lineWs T = [wKinds :: T.kinds] ++ T.ops.flatMap (opLines T.kinds) ++ T.casts.map (castLine T.kinds) := by unfold lineWs; simp
  have j3 := fun G => join_cell (c := 10) (ws := (lineWs T).map (jn 32)) (fun w hw => by
    obtain ⟨ws, hws, rfl⟩ := List.mem_map.mp hw
    have := line_len h (ws := ws) hws
    omega) (by rw [List.length_map]; omega) G
  rw [← hlw]
  have j4 : ∀ G, methD .join false (sd [10]) [.cell 0] (.lst (LL (lineWs T)) :: G) = some (sd (pageW T), .lst (LL (lineWs T)) :: G) := j3
  push_cast [j4]
  refine ⟨_, _, rfl, ?_⟩
  rfl

/-! drawing */ -/
theorem jar_at0 (x y z : D) (r : List C) : idxD (.cell 0) (.int 0) (.lst [x, y, z] :: r) = some x := rfl
theorem jar_at1 (x y z : D) (r : List C) : idxD (.cell 0) (.int 1) (.lst [x, y, z] :: r) = some y := rfl
theorem jar_at2 (x y z : D) (r : List C) : idxD (.cell 0) (.int 2) (.lst [x, y, z] :: r) = some z := rfl
theorem jar_set0 (x y z d : D) (r : List C) : setD (.cell 0) (.int 0) d (.lst [x, y, z] :: r) = some (.lst [d, y, z] :: r) := rfl
theorem jar_set1 (x y z d : D) (r : List C) : setD (.cell 0) (.int 1) d (.lst [x, y, z] :: r) = some (.lst [x, d, z] :: r) := rfl
theorem jar_set2 (x y z d : D) (r : List C) : setD (.cell 0) (.int 2) d (.lst [x, y, z] :: r) = some (.lst [x, y, d] :: r) := rfl
theorem bi_int (c : Bool) (i : Int) (G : List C) : biD .int c [.int i] G = some (.int i, G) := rfl
theorem mul_l {i : Int} (h : -big < i ∧ i < big) (c : Bool) (j : Int) (G : List C) : binD .mul c (.int i) (.int j) G = some (.int (i * j), G) := by
  show (if (-big < i ∧ i < big) ∨ (-big < j ∧ j < big) then some (D.int (i * j), G) else none) = _
  rw [if_pos (.inl h)]
theorem mod_p {j : Int} (h : 0 < j) (c : Bool) (i : Int) (G : List C) : binD .mod c (.int i) (.int j) G = some (.int (i % j), G) := by
  show (if 0 < j then some (D.int (i % j), G) else none) = _
  rw [if_pos h]
theorem fdiv_p {j : Int} (h : 0 < j ∧ j < 1073741824) (c : Bool) (i : Int) (G : List C) : binD .fdiv c (.int i) (.int j) G = some (.int (i / j), G) := by
  show (if 0 < j ∧ j < 1073741824 then some (D.int (i / j), G) else none) = _
  rw [if_pos h]
theorem divmod_p {j : Int} (h : 0 < j ∧ j < 1073741824) (c : Bool) (i : Int) (G : List C) : biD .divmod c [.int i, .int j] G = some (.tup [.int (i / j), .int (i % j)], G) := by
  show (if 0 < j ∧ j < 1073741824 then some (D.tup [.int (i / j), .int (i % j)], G) else none) = _
  rw [if_pos h]
theorem d_scoop {n : Nat} (h0 : 0 < n) (h1 : n < 1073741824) : Dr PT wf 1 "_law_scoop" [.int n] (fun d => ∃ i : Nat, i < n ∧ d = .int i) := by
  refine Dr.of0 (F := F__law_scoop) rfl rfl rfl rfl fun m hm j hj => ?_
  obtain ⟨a, s, c⟩ := j
  obtain ⟨ha, hs, ht⟩ := hj
  simp only at ha hs ht
  have hn0 : (0 : Int) < n := by omega
  have hn1 : (0 : Int) < n ∧ (n : Int) < 1073741824 := by omega
  have fin : ∀ z : Int, ∃ i : Nat, i < n ∧ D.int (z % n) = .int i := fun z => by
    have h2 := Int.emod_lt_of_pos z hn0
    have h3 := Int.emod_nonneg z (Int.ne_of_gt hn0)
    exact ⟨(z % n).toNat, by omega, by rw [Int.toNat_of_nonneg h3]⟩
  simp only [F__law_scoop]
  by_cases hp : 0 < a
  · refine ⟨.int (a % n), ⟨a / n, s, c + 1⟩, [], ⟨Int.ediv_nonneg ha (by omega), hs, ht⟩, fin a, rfl, ?_⟩
    push_cast [jar_at0, jar_at1, jar_at2, jar_set0, jar_set1, jar_set2, hp, divmod_p hn1]
  · have hM : (0 : Int) < 2147483353 := by decide
    refine ⟨.int (((s * (40151 + 2 * (s % 9007)) + 919 * (c + 1) + 31) % 2147483353 / 83) % n), ⟨a, (s * (40151 + 2 * (s % 9007)) + 919 * (c + 1) + 31) % 2147483353, c + 1⟩, [], ⟨ha, Int.emod_nonneg _ (by decide), Int.emod_lt_of_pos _ hM⟩, fin _, rfl, ?_⟩
    push_cast [jar_at0, jar_at1, jar_at2, jar_set0, jar_set1, jar_set2, hp, bi_int, mod_p (j := 9007) (by decide), mul_l (i := 2) (by decide), mul_l (i := s) (by unfold big; omega), mul_l (i := 919) (by decide), mod_p hM, fdiv_p (j := 83) (by decide), mod_p hn0]
theorem at_nat {α : Type} {xs : List α} {i : Nat} (h : i < xs.length) : atI xs (i : Int) = some xs[i] := by
  unfold atI ixN
  rw [if_pos (by omega), if_pos (by omega)]
  show xs[(i : Int).toNat]? = _
  rw [Int.toNat_natCast, List.getElem?_eq_getElem h]
theorem d_any {xs : List D} (h0 : xs ≠ []) (h1 : xs.length ≤ 100000) (hc : D.cleans 0 xs = true) : Dr PT wf 2 "_law_any" [.lst xs] (fun d => d ∈ xs) := by
  have hp : 0 < xs.length := List.length_pos_iff.mpr h0
  refine Dr.of0 (F := F__law_any) rfl rfl (by simp only [D.cleans, D.clean, hc, Bool.and_true]) rfl fun m hm j hj => ?_
  obtain ⟨d, j', hj', ⟨i, hi, rfl⟩, e⟩ := d_scoop (wf := wf) (n := xs.length) hp (by omega) m hm j hj 0 [j.C] rfl
  refine ⟨xs[i], j', [], hj', List.getElem_mem hi, ?_, ?_⟩
  · have : ∀ {ds : List D}, D.cleans 0 ds = true → ∀ d ∈ ds, D.clean 0 d = true := by
      intro ds
      induction ds with
      | nil => intro _ d hd; cases hd
      | cons x ds ih =>
        intro h d hd
        rw [D.cleans, Bool.and_eq_true] at h
        rcases List.mem_cons.mp hd with rfl | hd
        · exact h.1
        · exact ih h.2 d hd
    exact this hc _ (List.getElem_mem hi)
  · have e2 : ∀ G, idxD (.lst xs) (.int (i : Nat)) G = some xs[i] := fun G => at_nat hi
    simp only [F__law_any]
    push_cast [bi_len_lst, e, e2]
theorem d_any_str {w : W} (h0 : w ≠ []) (h1 : w.length ≤ 100000) : Dr PT wf 2 "_law_any" [sd w] (fun d => ∃ c ∈ w, d = sd [c]) := by
  have hp : 0 < w.length := List.length_pos_iff.mpr h0
  refine Dr.of0 (F := F__law_any) rfl rfl rfl rfl fun m hm j hj => ?_
  obtain ⟨d, j', hj', ⟨i, hi, rfl⟩, e⟩ := d_scoop (wf := wf) (n := w.length) hp (by omega) m hm j hj 0 [j.C] rfl
  refine ⟨sd [w[i]], j', [], hj', ⟨_, List.getElem_mem hi, rfl⟩, rfl, ?_⟩
  have e2 : ∀ G, idxD (sd w) (.int (i : Nat)) G = some (sd [w[i]]) := fun G => by
    show (if (S w).length ≤ sizeLine then (atI w (i : Int)).map fun c => D.str (sgn c) else none) = _
    rw [if_pos (by rw [S_len]; exact Nat.le_trans h1 (by decide)), at_nat hi]
    rfl
  simp only [F__law_any]
  push_cast [bi_len_sd h1, e, e2]

theorem sub_len {α : Type} [DecidableEq α] : ∀ {a b : List α}, a.Nodup → (∀ x ∈ a, x ∈ b) → a.length ≤ b.length
  | [], _, _, _ => Nat.zero_le _
  | x :: a, b, nd, h => by
    have hx := h x (List.mem_cons_self ..)
    rw [List.nodup_cons] at nd
    have ih := sub_len (a := a) (b := b.erase x) nd.2 fun y hy => (List.mem_erase_of_ne (fun e => nd.1 (by rw [← e]; exact hy))).mpr (h y (List.mem_cons_of_mem _ hy))
    rw [List.length_erase_of_mem hx] at ih
    have := List.length_pos_of_mem hx
    rw [List.length_cons]
    omega
theorem range1_n {r : Nat} (h : r ≤ 100000) (y : D) (G : List C) : itemsOf .range1 (.int r) y G = some ((List.range r).map fun (i : Nat) => D.int i) := by
  have h1 : (-1048576 : Int) < (r : Int) ∧ (r : Int) < 1048576 := by omega
  have h2 : (r : Int).toNat = r := Int.toNat_natCast r
  generalize (r : Int) = z at *
  simp only [itemsOf]
  rw [if_pos h1, h2]
theorem signs_of : ∀ {ds : List D}, (∀ d ∈ ds, ∃ c ∈ signsW, d = sd [c]) → ∃ w : W, w.length = ds.length ∧ Lw w ∧ ds = (w.map fun c => [c]).map sd
  | [], _ => ⟨[], rfl, (fun c h => by cases h), rfl⟩
  | d :: ds, h => by
    obtain ⟨c, hc, rfl⟩ := h d (List.mem_cons_self ..)
    obtain ⟨w, h1, h2, rfl⟩ := signs_of fun e he => h e (List.mem_cons_of_mem _ he)
    refine ⟨c :: w, by rw [List.length_cons, List.length_cons, h1], fun x hx => ?_, rfl⟩
    rcases List.mem_cons.mp hx with rfl | hx
    · exact (mem_signs _).mp hc
    · exact h2 x hx
theorem joinL_nil : ∀ w : W, TL.joinL [] (w.map fun c => [c]) = w
  | [] => rfl
  | [c] => rfl
  | c :: d :: w => by
    have := joinL_nil (d :: w)
    rw [List.map_cons, List.map_cons, TL.joinL, List.nil_append]
    rw [List.map_cons] at this
    rw [this]
    rfl
theorem join_e (w : W) (h : w.length ≤ 1000) (G : List C) : methD .join false (sd []) [.lst ((w.map fun c => [c]).map sd)] G = some (sd w, G) := by
  rw [join_go (by decide) (fun v hv => by obtain ⟨c, _, rfl⟩ := List.mem_map.mp hv; simp) (by rw [List.length_map]; exact h) rfl, joinL_nil]
theorem app1 {xs : List D} (h : xs.length ≤ 100000) (x : D) (c : C) (G : List C) : methD .append false (.cell 1) [x] (c :: .lst xs :: G) = some (.non, c :: .lst (xs ++ [x]) :: G) := by
  show (if xs.length < sizeLine then some (D.non, (c :: .lst xs :: G).set 1 (.lst (xs ++ [x]))) else none) = _
  rw [if_pos (Nat.lt_of_le_of_lt h (by decide))]
  rfl
theorem cat_c1 {xs ys : List D} (h : (xs ++ ys).length ≤ 100000) (c : C) (G : List C) : binD .add false (.cell 1) (.lst ys) (c :: .lst xs :: G) = some (.lst (xs ++ ys), c :: .lst xs :: G) := by
  show mkL false (xs ++ ys) (c :: .lst xs :: G) = _
  exact mkL_small h
theorem appOk1 (xs : List D) (c : C) (G : List C) : lstOf (c :: .lst xs :: G) (.cell 1) = some xs := rfl
def spareW : List W := signsW.map fun c => [122, c]
theorem spare_ok : spareW.Nodup ∧ (∀ w ∈ spareW, w ≠ [] ∧ w.length ≤ 8 ∧ Lw w) ∧ spareW.length = 26 := by
  refine ⟨by decide +kernel, ?_, by decide +kernel⟩
  unfold Lw
  decide +kernel
theorem frz1 {c d : C} (h : frzC (frz [c, d] 1 none 1) d = some d) : frzI (frz [c, d] 1 none 2) (.cell 1) = some d.toD := by
  show frz [c, d] 1 none 2 1 = _
  show (if (1 : Nat) < 1 then some (D.cell 1) else if (none : Option Nat) = some 1 then none else match [c, d][1]? with
    | some c' => (frzC (frz [c, d] 1 none 1) c').map C.toD
    | none => none) = _
  rw [if_neg (by decide), if_neg (by simp)]
  show (frzC (frz [c, d] 1 none 1) d).map C.toD = _
  rw [h]
  rfl
structure Ws (ws : List W) : Prop where
  nd : ws.Nodup
  nm : ∀ w ∈ ws, Nm w

theorem max_nat (a b : Nat) (c : Bool) (G : List C) : biD .max2 c [.int a, .int b] G = some (.int (max a b : Nat), G) := by
  show some (D.int (if (b : Int) > a then (b : Int) else a), G) = _
  congr 3
  split <;> omega
theorem min_nat (a b : Nat) (c : Bool) (G : List C) : biD .min2 c [.int a, .int b] G = some (.int (min a b : Nat), G) := by
  show some (D.int (if (b : Int) < a then (b : Int) else a), G) = _
  congr 3
  split <;> omega
/-- the rows of a turn of _law_words behind the draws */ -/
def wTail : Iv.St := match F__law_words.body with | .seq _ (.seq (.fors _ _ _ _ (.seq _ (.seq _ s))) _) => s | _ => .skip
theorem words_tail {m : Nat} {ws : List W} (hw : Ws ws) (hwl : ws.length ≤ 14) (jc : C) (gw : W) (h1 : 1 ≤ gw.length) (h8 : gw.length ≤ 8) (hl : Lw gw) (x0 x1 x3 x5 x6 x7 x8 : Option D) :
    ∃ w' ρ1, evS (cfOf PT wf m) wf wTail [x0, x1, some (.cell 1), x3, some (sd gw), x5, x6, x7, x8] [jc, .lst (ws.map sd)] = some (.nx, ρ1, [jc, .lst ((ws ++ [w']).map sd)]) ∧ Nm w' ∧ w' ∉ ws ∧ ∃ y3 y4 y5 y6 y7 y8, ρ1 = [x0, x1, some (.cell 1), y3, y4, y5, y6, y7, y8] := by
  simp only [wTail, F__law_words]
  push_cast
  generalize hL1 : compL _ _ _ = L1
  obtain rfl : L1 = some (spareW.map sd, [jc, .lst (ws.map sd)]) := by
    rw [← hL1]
    unfold spareW
    rw [List.map_map]
    refine compL_map1 fun c hc => ?_
    push_cast [stC, add_sd (a := [122]) (b := [c]) (by decide) (by simp)]
    rfl
  obtain ⟨sp1, sp2, sp3⟩ := spare_ok
  push_cast [mkL_small (xs := spareW.map sd) (by rw [List.length_map, sp3]; decide), appOk1, cat_lst (xs := [sd gw]) (ys := spareW.map sd) (by rw [List.length_append, List.length_map, sp3]; simp)]
  generalize hL2 : compL _ _ _ = L2
  obtain rfl : L2 = some (((gw :: spareW).filter fun w => !decide (w ∈ ws ++ [wErr])).map sd, [jc, .lst (ws.map sd)]) := by
    rw [← hL2, show sd gw :: spareW.map sd = (gw :: spareW).map sd from rfl]
    refine compL_filter fun w hw' => ?_
    have ec := fun G => cat_c1 (xs := ws.map sd) (ys := [sd wErr]) (by rw [List.length_append, List.length_map]; simp; omega) jc G
    rw [show ws.map sd ++ [sd wErr] = (ws ++ [wErr]).map sd by simp] at ec
    push_cast [stC, ec, in_lst]
    cases decide (w ∈ ws ++ [wErr]) <;> rfl
  have hf27 := List.length_filter_le (fun w => !decide (w ∈ ws ++ [wErr])) (gw :: spareW)
  have hmem : ∀ w ∈ (gw :: spareW).filter (fun w => !decide (w ∈ ws ++ [wErr])), w ∉ ws ∧ Nm w := by
    intro w hw'
    obtain ⟨a1, a2⟩ := List.mem_filter.mp hw'
    have a3 : w ∉ ws ++ [wErr] := by simpa using a2
    rw [List.mem_append, List.mem_singleton] at a3
    refine ⟨fun h => a3 (.inl h), ?_⟩
    rcases List.mem_cons.mp a1 with rfl | a1
    · exact ⟨List.length_pos_iff.mp h1, h8, hl, fun h => a3 (.inr h)⟩
    · obtain ⟨b1, b2, b3⟩ := sp2 w a1
      exact ⟨b1, b2, b3, fun h => a3 (.inr h)⟩
  have hne : (gw :: spareW).filter (fun w => !decide (w ∈ ws ++ [wErr])) ≠ [] := by
    intro e
    have : ∀ w ∈ spareW, w ∈ ws ++ [wErr] := by
      intro w hw'
      have := List.filter_eq_nil_iff.mp e w (List.mem_cons_of_mem _ hw')
      rw [Bool.not_eq_true', Bool.not_eq_false] at this
      exact of_decide_eq_true this
    have := sub_len sp1 this
    rw [sp3, List.length_append, List.length_singleton] at this
    omega
  generalize (gw :: spareW).filter (fun w => !decide (w ∈ ws ++ [wErr])) = fs at *
  cases fs with
  | nil => exact absurd rfl hne
  | cons w' r =>
    obtain ⟨c1, c2⟩ := hmem w' (List.mem_cons_self ..)
    have ap := fun G => app1 (xs := ws.map sd) (by rw [List.length_map]; omega) (sd w') jc G
    rw [show ws.map sd ++ [sd w'] = (ws ++ [w']).map sd by simp] at ap
    have hml := fun G => mkL_small (G := G) (xs := sd w' :: r.map sd) (by rw [List.length_cons, List.length_map]; simp only [List.length_cons] at hf27 ⊢; omega)
    push_cast [hml, atl0, ap]
    exact ⟨w', _, rfl, c2, c1, _, _, _, _, _, _, rfl⟩
theorem d_words {n : Nat} (hn : n ≤ 15) : Dr PT wf 3 "_law_words" [.int n] (fun d => ∃ ws : List W, d = .lst (ws.map sd) ∧ ws.length = n ∧ Ws ws) := by
  refine Dr.ofW (F := F__law_words) rfl rfl rfl rfl fun m hm j hj => ?_
  have hr := fun y G => range1_n (r := n) (by omega) y G
  generalize D.int (n : Int) = zn at hr ⊢
  (simp only [F__law_words, en0, List.map_cons, List.map_nil, List.length_cons, List.length_nil, Nat.reduceAdd, Nat.reduceSub, Nat.zero_add, List.replicate, List.cons_append, List.nil_append]; ac_rfl)
  push_cast
  subst_eqs
  push_cast
  subst_eqs
  refine forQ_nil (hr _ _) ?_
  refine wLp_run (fun dn ρ1 G1 => ∃ (j' : J) (ws : List W), j'.Ok ∧ ws.length = dn.length ∧ Ws ws ∧ G1 = [j'.C, .lst (ws.map sd)] ∧ ∃ x1 x2 x3 x4 x5 x6, ρ1 = [some (.cell 0), some zn, some (.cell 1), x1, x2, x3, x4, x5, x6]) ⟨j, [], hj, rfl, ⟨List.nodup_nil, (fun _ h => by cases h)⟩, rfl, _, _, _, _, _, _, rfl⟩ ?_ ?_
  · rintro dn i rest er ρ G ⟨j1, ws, hj1, hl, hw, rfl, x1, x2, x3, x4, x5, x6, rfl⟩
    have hwl : ws.length ≤ 14 := by
      have := congrArg List.length er
      rw [List.length_range, List.length_append, List.length_cons] at this
      omega
    and_intros
    push_cast
    (generalize hz : cfOf _ _ _ false _ (D.cell _ :: _) _ = z); obtain ⟨d1, j2, hj2, hd1, rfl⟩ := Dr.gen (d_any (wf := wf) (by simp) (by simp) rfl) (by omega) (by assumption) rfl hz; clear hz
    obtain ⟨r, hr1, hr8, hd2⟩ : ∃ r : Nat, 1 ≤ r ∧ r ≤ 8 ∧ d1 = .int r := by
      simp only [List.mem_cons, List.not_mem_nil, or_false] at hd1
      rcases hd1 with rfl | rfl | rfl | rfl | rfl
      · exact ⟨1, by decide, by decide, rfl⟩
      · exact ⟨1, by decide, by decide, rfl⟩
      · exact ⟨1, by decide, by decide, rfl⟩
      · exact ⟨2, by decide, by decide, rfl⟩
      · exact ⟨8, by decide, by decide, rfl⟩
    have hr2 : ∀ y G, itemsOf .range1 d1 y G = some ((List.range r).map fun (i : Nat) => D.int i) := fun y G => by rw [hd2]; exact range1_n (by omega) y G
    clear hd2
    push_cast [hr2]
    generalize hL1 : compL _ _ _ = L1
    obtain ⟨ds, G1, hdl, hds, ⟨j3, hj3, rfl⟩, rfl⟩ : ∃ (ds : List D) (G' : List C), ds.length = ((List.range r).map fun (i : Nat) => D.int i).length ∧ (∀ d ∈ ds, ∃ c ∈ signsW, d = sd [c]) ∧ (∃ j : J, j.Ok ∧ G' = [j.C, .lst (ws.map sd)]) ∧ L1 = some (ds, G') := by
      rw [← hL1]
      refine compL_dr (I := fun G => ∃ j : J, j.Ok ∧ G = [j.C, .lst (ws.map sd)]) ⟨j2, hj2, rfl⟩ ?_
      rintro x hx G ⟨j4, hj4, rfl⟩
      obtain ⟨i', hi', rfl⟩ := List.mem_map.mp hx
      push_cast [stC]
      (generalize hz : cfOf _ _ _ false _ (D.cell _ :: _) _ = z); obtain ⟨d, j5, hj5, hd, rfl⟩ := Dr.gen (d_any_str (wf := wf) (w := signsW) (by decide) (by decide)) (by omega) (by assumption) rfl hz; clear hz
      refine ⟨d, _, hd, ⟨j5, hj5, rfl⟩, ?_⟩
      push_cast
    obtain ⟨fw, hfl, hfw, rfl⟩ := signs_of hds
    have hf8 : 1 ≤ fw.length ∧ fw.length ≤ 8 := by
      rw [hfl, hdl, List.length_map, List.length_range]
      exact ⟨hr1, hr8⟩
    have ej := fun G => join_e fw (by omega) G
    have hml := fun G => mkL_small (G := G) (xs := (fw.map fun c => [c]).map sd) (by rw [List.length_map, List.length_map]; omega)
    push_cast [hml, ej]
    subst_eqs
    have tail : ∀ (jt : J) (gw : W), jt.Ok → 1 ≤ gw.length → gw.length ≤ 8 → Lw gw → wS (cfOf PT wf m) wf wTail [some (.cell 0), some zn, some (.cell 1), some (.int i), some (sd gw), x3, x4, x5, x6] [jt.C, .lst (ws.map sd)] (stepK (fun ρ1 G1 => ∃ (j' : J) (ws : List W), j'.Ok ∧ ws.length = (dn ++ [i]).length ∧ Ws ws ∧ G1 = [j'.C, .lst (ws.map sd)] ∧ ∃ x1 x2 x3 x4 x5 x6, ρ1 = [some (.cell 0), some zn, some (.cell 1), x1, x2, x3, x4, x5, x6])
        (seqK (cfOf PT wf m) wf (.seq (.ret (.var 2)) .skip) (retK (drK fun d => ∃ ws : List W, d = .lst (ws.map sd) ∧ ws.length = n ∧ Ws ws)))) := by
      intro jt gw hjt h1 h8 hlw
      obtain ⟨w', ρ1, e, hn, hni, y3, y4, y5, y6, y7, y8, rfl⟩ := words_tail (wf := wf) (m := m) hw hwl jt.C gw h1 h8 hlw (some (.cell 0)) (some zn) (some (.int i)) x3 x4 x5 x6
      refine ⟨_, _, _, e, ?_⟩
      refine stepK_nx ⟨jt, ws ++ [w'], hjt, by simp [hl], ⟨?_, ?_⟩, rfl, _, _, _, _, _, _, rfl⟩
      · rw [List.nodup_append]
        refine ⟨hw.nd, by simp, fun a ha b hb => ?_⟩
        rw [List.mem_singleton] at hb
        subst hb
        exact fun e => hni (e ▸ ha)
      · intro w hw'
        rcases List.mem_append.mp hw' with h | h
        · exact hw.nm w h
        · rw [List.mem_singleton.mp h]; exact hn
    push_cast
    (generalize hz : cfOf _ _ _ false _ (D.cell _ :: _) _ = z); obtain ⟨d6, j6, hj6, hd6, rfl⟩ := Dr.gen (d_scoop (wf := wf) (n := 6) (by decide) (by decide)) (by omega) (by assumption) rfl hz; clear hz
    obtain ⟨i6, hi6, rfl⟩ := hd6
    push_cast
    subst_eqs
    refine ifK_bl (fun c => ?_) (fun c => ?_)
    · ac_rfl
      push_cast
      (generalize hz : cfOf _ _ _ false _ (D.cell _ :: _) _ = z); obtain ⟨d7, j7, hj7, hd7, rfl⟩ := Dr.gen (d_any (wf := wf) (by simp) (by simp) rfl) (by omega) (by assumption) rfl hz; clear hz
      obtain ⟨gw, h1, h8, hlw, rfl⟩ : ∃ gw : W, 1 ≤ gw.length ∧ gw.length ≤ 8 ∧ Lw gw ∧ d7 = sd gw := by
        simp only [List.mem_cons, List.not_mem_nil, or_false] at hd7
        have q : ∀ w : W, (∀ c ∈ w, 97 ≤ c ∧ c ≤ 122) → Lw w := fun w h => h
        rcases hd7 with rfl | rfl | rfl | rfl | rfl
        · exact ⟨_, by decide, by decide, q _ (by decide), rfl⟩
        · exact ⟨_, by decide, by decide, q _ (by decide), rfl⟩
        · exact ⟨_, by decide, by decide, q _ (by decide), rfl⟩
        · exact ⟨_, by decide, by decide, q _ (by decide), rfl⟩
        · exact ⟨_, by decide, by decide, q _ (by decide), rfl⟩
      push_cast
      refine ⟨_, _, rfl, hK _ _ ?_⟩
      refine asgK_var (by simp only [List.set_cons_succ, List.set_cons_zero]; rfl) ?_
      refine seqK_nx (wS_skip (seqK_nx ?_))
      exact tail j7 gw hj7 h1 h8 hlw
    · refine wS_skip (seqK_nx ?_)
      exact tail j6 fw hj6 hf8.1 hf8.2 hfw
  · rintro ρ G ⟨j1, ws, hj1, hl, hw, rfl, x1, x2, x3, x4, x5, x6, rfl⟩
    ac_rfl
    push_cast
    subst_eqs
    refine ⟨.lst (ws.map sd), j1, _, rfl, hj1, ⟨ws, rfl, by rw [hl, List.length_range], hw⟩, by rw [D.clean]; exact cl_sds _ _, ?_⟩
    refine frz1 ?_
    show (frzIs _ _).map _ = _
    rw [frzIs_clean (k := 0) (fun n hn => absurd hn (Nat.not_lt_zero n)) (cl_sds _ _)]
    rfl

theorem lst_at {ks : List W} {i : Nat} (h : i < ks.length) (G : List C) : idxD (.lst (ks.map sd)) (.int i) G = some (sd ks[i]) := by
  have e : atI (ks.map sd) (i : Int) = some (sd ks[i]) := by
    rw [at_nat (by rw [List.length_map]; exact h), List.getElem_map]
  exact e
theorem d_cell {ks : List W} (hk : ks.length ≤ 8) (hn : ∀ k ∈ ks, Nm k) {a b : Nat} (ha : a < ks.length) (hb : b < ks.length) : Dr PT wf 3 "_law_cell" [.lst (ks.map sd), .int a, .int b] (fun d => ∃ o : O, ent ks o ∧ d = o.ed) := by
  have e1 := fun G => lst_at (ks := ks) (i := max a b) (by omega) G
  have e2 := fun G => lst_at (ks := ks) (i := min a b) (by omega) G
  have m1 : ks[max a b]'(by omega) ∈ ks := List.getElem_mem _
  have m2 : ks[min a b]'(by omega) ∈ ks := List.getElem_mem _
  generalize ks[max a b]'(by omega) = k1 at *
  generalize ks[min a b]'(by omega) = k2 at *
  have em := max_nat a b
  have en := min_nat a b
  generalize (a : Int) = ai at *
  generalize (b : Int) = bi at *
  generalize ((max a b : Nat) : Int) = mx at *
  generalize ((min a b : Nat) : Int) = mn at *
  refine Dr.ofW (F := F__law_cell) rfl rfl (by simp only [D.cleans, D.clean, cl_sds, Bool.and_true]) rfl fun m hm j hj => ?_
  (simp only [F__law_cell, en0, List.map_cons, List.map_nil, List.length_cons, List.length_nil, Nat.reduceAdd, Nat.reduceSub, Nat.zero_add, List.replicate, List.cons_append, List.nil_append]; ac_rfl)
  push_cast [em, e1]
  subst_eqs
  push_cast [en, e2]
  (generalize hz : cfOf _ _ _ false _ (D.cell _ :: _) _ = z); obtain ⟨d3, j3, hj3, hd3, rfl⟩ := Dr.gen (d_any (wf := wf) (xs := ks.map sd) (by intro e; rw [List.map_eq_nil_iff] at e; rw [e] at m1; cases m1) (by rw [List.length_map]; omega) (cl_sds _ _)) (by omega) (by assumption) rfl hz; clear hz
  obtain ⟨k3, m3, rfl⟩ := List.mem_map.mp hd3
  push_cast
  (generalize hz : cfOf _ _ _ false _ (D.cell _ :: _) _ = z); obtain ⟨d4, j4, hj4, hd4, rfl⟩ := Dr.gen (d_any (wf := wf) (by simp) (by simp) rfl) (by omega) (by assumption) rfl hz; clear hz
  obtain ⟨k4, m4, rfl⟩ : ∃ k ∈ ks, d4 = sd k := by
    simp only [List.mem_cons, List.not_mem_nil, or_false] at hd4
    rcases hd4 with rfl | rfl | rfl | rfl | rfl
    · exact ⟨_, m1, rfl⟩
    · exact ⟨_, m1, rfl⟩
    · exact ⟨_, m1, rfl⟩
    · exact ⟨_, m2, rfl⟩
    · exact ⟨_, m3, rfl⟩
  push_cast
  subst_eqs
  have ad := fun c G => add_sd (a := k4) (b := [33]) (hn _ m4).l1000 (by decide) c G
  push_cast [ad]
  (generalize hz : cfOf _ _ _ false _ (D.cell _ :: _) _ = z); obtain ⟨d5, j5, hj5, hd5, rfl⟩ := Dr.gen (d_scoop (wf := wf) (n := 2) (by decide) (by decide)) (by omega) (by assumption) rfl hz; clear hz
  obtain ⟨i, hi, rfl⟩ := hd5
  obtain ⟨w, hw, e5⟩ : ∃ w, (w = [45] ∨ w = k4) ∧ (if (i : Int) = 0 then sd [45] else sd k4) = sd w := by
    by_cases c : (i : Int) = 0
    · exact ⟨_, .inl rfl, if_pos c⟩
    · exact ⟨_, .inr rfl, if_neg c⟩
  have fin2 : ∀ d, d ∈ [sd k4, sd k4, sd k4, sd k4, sd (k4 ++ [33]), sd k4, sd w] → ∃ o : O, ent ks o ∧ d = o.ed := by
    intro d hd
    simp only [List.mem_cons, List.not_mem_nil, or_false] at hd
    have q : ∃ o : O, ent ks o ∧ sd k4 = o.ed := ⟨.kd k4 false, m4, rfl⟩
    have q2 : ∃ o : O, ent ks o ∧ sd (k4 ++ [33]) = o.ed := ⟨.kd k4 true, m4, rfl⟩
    have q3 : ∃ o : O, ent ks o ∧ sd [45] = o.ed := ⟨.err, trivial, rfl⟩
    rcases hd with rfl | rfl | rfl | rfl | rfl | rfl | rfl
    · exact q
    · exact q
    · exact q
    · exact q
    · exact q2
    · exact q
    · rcases hw with rfl | rfl
      · exact q3
      · exact q
  have last : ∀ {ds : List D}, ds = [sd k4, sd k4, sd k4, sd k4, sd (k4 ++ [33]), sd k4, sd w] → ∃ (d' : D) (j' : J), j'.Ok ∧ (∃ o : O, ent ks o ∧ d' = o.ed) ∧ D.clean 0 d' = true ∧ cfOf PT wf m false "_law_any" [.cell 0, .lst ds] [j5.C] = some (d', [j'.C]) := by
    rintro ds rfl
    obtain ⟨d6, j6, hj6, hd6, e6⟩ := d_any (wf := wf) (xs := [sd k4, sd k4, sd k4, sd k4, sd (k4 ++ [33]), sd k4, sd w]) (by simp) (by simp) rfl m (by omega) j5 hj5 0 [j5.C] rfl
    obtain ⟨o, ho, rfl⟩ := fin2 d6 hd6
    exact ⟨_, j6, hj6, ⟨o, ho, rfl⟩, rfl, e6⟩
  by_cases c : (i : Int) = 0
  · rw [if_pos c] at e5
    obtain ⟨d6, j6, hj6, hp, hc, e6⟩ := last (ds := [sd k4, sd k4, sd k4, sd k4, sd (k4 ++ [33]), sd k4, sd [45]]) (by rw [e5])
    push_cast [c, e6]
    subst_eqs
    exact drK_of hj6 hp hc
  · rw [if_neg c] at e5
    obtain ⟨d6, j6, hj6, hp, hc, e6⟩ := last (ds := [sd k4, sd k4, sd k4, sd k4, sd (k4 ++ [33]), sd k4, sd k4]) (by rw [← e5])
    push_cast [c, e6]
    subst_eqs
    exact drK_of hj6 hp hc

theorem sl_to {xs : List D} (n : Nat) (c : Bool) (G : List C) : sliceD c (.lst xs) none (some (n : Int)) G = mkL c (xs.take n) G := by
  show mkL c (Iv.cutD xs none (some (n : Int))) G = _
  congr 1
  unfold Iv.cutD
  rw [HT.sIx_nat]
  have : HT.sIx xs.length 0 none = 0 := by simp [HT.sIx]
  rw [this, List.drop_zero, Nat.sub_zero, ← List.take_eq_take_min]
theorem sl_from {xs : List D} (n : Nat) (c : Bool) (G : List C) : sliceD c (.lst xs) (some (n : Int)) none G = mkL c (xs.drop n) G := by
  show mkL c (Iv.cutD xs (some (n : Int)) none) G = _
  congr 1
  unfold Iv.cutD
  rw [HT.sIx_nat]
  have : HT.sIx xs.length xs.length none = xs.length := by simp [HT.sIx]
  rw [this, List.take_of_length_le (by rw [List.length_drop]; exact Nat.le_refl _)]
  by_cases h : n ≤ xs.length
  · rw [Nat.min_eq_left h]
  · rw [Nat.min_eq_right (by omega), List.drop_of_length_le (Nat.le_refl _), List.drop_of_length_le (by omega)]
theorem sl_ft {xs : List D} (a b : Nat) (hb : b ≤ xs.length) (ha : a ≤ b) (c : Bool) (G : List C) : sliceD c (.lst xs) (some (a : Int)) (some (b : Int)) G = mkL c ((xs.drop a).take (b - a)) G := by
  show mkL c (Iv.cutD xs (some (a : Int)) (some (b : Int))) G = _
  congr 1
  unfold Iv.cutD
  rw [HT.sIx_nat, HT.sIx_nat, Nat.min_eq_left hb, Nat.min_eq_left (by omega)]

/-! functions of lists of outcomes -/
theorem fn_of {α β : Type} [DecidableEq α] [Inhabited β] : ∀ {ks : List α} {os : List β}, ks.Nodup → os.length = ks.length → ∃ f : α → β, ks.map f = os
  | [], [], _, _ => ⟨fun _ => default, rfl⟩
  | k :: ks, o :: os, nd, hl => by
    obtain ⟨f, hf⟩ := fn_of (ks := ks) (os := os) (List.nodup_cons.mp nd).2 (by simpa using hl)
    refine ⟨fun x => if x = k then o else f x, ?_⟩
    rw [List.map_cons, if_pos rfl]
    congr 1
    rw [← hf]
    refine List.map_congr_left fun x hx => ?_
    rw [if_neg fun e => (List.nodup_cons.mp nd).1 (by rw [← e]; exact hx)]
theorem nodup_map {α β : Type} {f : α → β} : ∀ {xs : List α}, (∀ x ∈ xs, ∀ y ∈ xs, f x = f y → x = y) → xs.Nodup → (xs.map f).Nodup
  | [], _, _ => List.nodup_nil
  | x :: xs, h, nd => by
    rw [List.nodup_cons] at nd
    rw [List.map_cons, List.nodup_cons]
    refine ⟨fun m => ?_, nodup_map (fun a ha b hb => h a (List.mem_cons_of_mem _ ha) b (List.mem_cons_of_mem _ hb)) nd.2⟩
    obtain ⟨y, hy, e⟩ := List.mem_map.mp m
    have := h y (List.mem_cons_of_mem _ hy) x (List.mem_cons_self ..) e
    exact nd.1 (this ▸ hy)
theorem pairs_nd : ∀ {as bs : List W}, as.Nodup → bs.Nodup → (as.flatMap fun a => bs.map fun b => (a, b)).Nodup
  | [], _, _, _ => List.nodup_nil
  | a :: as, bs, na, nb => by
    rw [List.nodup_cons] at na
    rw [List.flatMap_cons, List.nodup_append]
    refine ⟨nodup_map (fun x _ y _ e => (Prod.mk.inj e).2) nb, pairs_nd na.2 nb, ?_⟩
    intro x hx y hy e
    subst e
    obtain ⟨b, _, rfl⟩ := List.mem_map.mp hx
    obtain ⟨a', ha', hy⟩ := List.mem_flatMap.mp hy
    obtain ⟨b', _, e⟩ := List.mem_map.mp hy
    exact na.1 ((Prod.mk.inj e).1 ▸ ha')
theorem pairs_eq_nd {ks : List W} (h : ks.Nodup) : (pairs ks).Nodup := pairs_nd h h

/-! the law's table as it is made -/
def kt (p : W × W) : D := .tup [sd p.1, sd p.2]
def wKs : List D := [sd [107, 105, 110, 100, 115], sd [111, 112, 115], sd [99, 97, 115, 116, 115]]
def gridC (ks : List W) (f : W → W → O) : C := .dT ((pairs ks).map kt) ((pairs ks).map fun p => (f p.1 p.2).ed)
def wG (j : J) (ks ns : List W) (gs : List C) (cs : List (W × (W → O))) : List C := j.C :: .dK wKs [.cell 2, .cell 3, .cell 4] :: .lst (ks.map sd) :: .dK (ns.map sd) ((List.range ns.length).map fun i => .cell (5 + i)) :: .dK ((cs.map (·.1)).map sd) (cs.map fun p => rowD ks p.2) :: gs
section
variable {j j' : J} {ks ns : List W} {gs : List C} {cs : List (W × (W → O))}
theorem wG_len : (wG j ks ns gs cs).length = 5 + gs.length := by
  unfold wG
  simp only [List.length_cons]
  omega
theorem wG_app (c : C) : wG j ks ns gs cs ++ [c] = wG j ks ns (gs ++ [c]) cs := rfl
theorem wG_jar : (wG j ks ns gs cs)[0]? = some j.C := rfl
theorem wG_jset : (wG j ks ns gs cs).set 0 j'.C = wG j' ks ns gs cs := rfl
theorem dget3 (b c x y z : D) (a : D) (w : W) (h : kEq a (sd w) = false) : dget (a :: [b, c]) [x, y, z] (sd w) = dget [b, c] [y, z] (sd w) := by
  rw [dget, h]
  rfl
theorem wG_ops : idxD (.cell 1) (sd [111, 112, 115]) (wG j ks ns gs cs) = some (.cell 3) := by
  show (if isKey false (sd [111, 112, 115]) = true then dget wKs _ _ else none) = _
  refine Eq.trans (if_pos rfl) ?_
  unfold wKs
  simp only [dget, kEq_str]
  rfl
theorem wG_casts : idxD (.cell 1) (sd [99, 97, 115, 116, 115]) (wG j ks ns gs cs) = some (.cell 4) := by
  show (if isKey false (sd [99, 97, 115, 116, 115]) = true then dget wKs _ _ else none) = _
  refine Eq.trans (if_pos rfl) ?_
  unfold wKs
  simp only [dget, kEq_str]
  rfl
theorem wG_setop {t : W} (h : t ∉ ns) (hl : ns.length ≤ 100) : setD (.cell 3) (sd t) (.cell (5 + ns.length)) (wG j ks ns gs cs) = some (wG j ks (ns ++ [t]) gs cs) := by
  obtain ⟨e1, e2⟩ := dput_new (vs := (List.range ns.length).map fun i => D.cell (5 + i)) (.cell (5 + ns.length)) h
  show (if (isKey false (sd t) && decide ((ns.map sd).length < sizeLine)) = true then some ((wG j ks ns gs cs).set 3 (.dK (dputK (ns.map sd) (sd t)) (dputV (ns.map sd) ((List.range ns.length).map fun i => D.cell (5 + i)) (sd t) (.cell (5 + ns.length))))) else none) = _
  rw [if_pos, e1, e2]
  · unfold wG
    simp [List.range_succ]
  · rw [List.length_map, decide_eq_true (Nat.lt_of_le_of_lt hl (by decide))]
    rfl
theorem wG_getop {t : W} (h : t ∉ ns) : idxD (.cell 3) (sd t) (wG j ks (ns ++ [t]) gs cs) = some (.cell (5 + ns.length)) := by
  show (if isKey false (sd t) = true then dget ((ns ++ [t]).map sd) ((List.range (ns ++ [t]).length).map fun i => D.cell (5 + i)) (sd t) else none) = _
  refine Eq.trans (if_pos rfl) ?_
  have : ∀ (ns : List W) (vs : List D) (v : D), t ∉ ns → ns.length = vs.length → dget ((ns ++ [t]).map sd) (vs ++ [v]) (sd t) = some v := by
    intro ns
    induction ns with
    | nil =>
      intro vs v _ hl
      cases vs with
      | nil =>
        show dget [sd t] [v] (sd t) = _
        rw [dget, kEq_str, decide_eq_true rfl]
        rfl
      | cons _ _ => cases hl
    | cons n ns ih =>
      intro vs v hn hl
      cases vs with
      | nil => cases hl
      | cons w vs =>
        show dget (sd n :: (ns ++ [t]).map sd) (w :: (vs ++ [v])) (sd t) = _
        rw [dget, kEq_str, decide_eq_false fun e => hn (by rw [e]; exact List.mem_cons_self ..)]
        exact ih vs v (fun h => hn (List.mem_cons_of_mem _ h)) (by simpa using hl)
  have e : ((List.range (ns ++ [t]).length).map fun i => D.cell (5 + i)) = ((List.range ns.length).map fun i => D.cell (5 + i)) ++ [D.cell (5 + ns.length)] := by
    rw [List.length_append, List.length_singleton, List.range_succ, List.map_append]
    rfl
  rw [e]
  refine this ns _ _ h ?_
  rw [List.length_map, List.length_range]
theorem kEq_kt (a b : W × W) : kEq (kt a) (kt b) = decide (a = b) := kEq_pair _ _ _ _
theorem wG_setgr {ps : List (W × W)} {vs : List D} {q : W × W} (hq : q ∉ ps) (hl : ps.length ≤ 1000) (v : D) : setD (.cell (5 + gs.length)) (kt q) v (wG j ks ns (gs ++ [.dT (ps.map kt) vs]) cs) = some (wG j ks ns (gs ++ [.dT ((ps ++ [q]).map kt) (vs ++ [v])]) cs) := by
  have e0 : (wG j ks ns (gs ++ [.dT (ps.map kt) vs]) cs)[5 + gs.length]? = some (.dT (ps.map kt) vs) := by
    unfold wG
    rw [Nat.add_comm]
    simp only [List.getElem?_cons_succ]
    rw [List.getElem?_append_right (Nat.le_refl _), Nat.sub_self]
    rfl
  have e1 : ∀ c, (wG j ks ns (gs ++ [.dT (ps.map kt) vs]) cs).set (5 + gs.length) c = wG j ks ns (gs ++ [c]) cs := by
    intro c
    unfold wG
    rw [Nat.add_comm]
    simp only [List.set_cons_succ]
    rw [List.set_append_right _ _ (Nat.le_refl _), Nat.sub_self]
    rfl
  have ha : ((ps.map kt).any fun x => kEq x (kt q)) = false := by
    rw [List.any_map, List.any_eq_false]
    intro x hx
    show ¬ kEq (kt x) (kt q) = true
    rw [kEq_kt, decide_eq_true_eq]
    exact fun e => hq (e ▸ hx)
  have e2 : setD (.cell (5 + gs.length)) (kt q) v (wG j ks ns (gs ++ [.dT (ps.map kt) vs]) cs) = (if (isKey true (kt q) && decide ((ps.map kt).length < sizeLine)) = true then some ((wG j ks ns (gs ++ [.dT (ps.map kt) vs]) cs).set (5 + gs.length) (.dT (dputK (ps.map kt) (kt q)) (dputV (ps.map kt) vs (kt q) v))) else none) := by
    simp only [setD, e0, kt]
    rfl
  rw [e2]
  rw [if_pos, e1]
  · unfold dputK dputV
    rw [ha]
    simp
  · rw [List.length_map, decide_eq_true (Nat.lt_of_le_of_lt hl (by decide))]
    rfl
theorem wG_setcast {t : W} {f : W → O} (h : t ∉ cs.map (·.1)) (hl : cs.length ≤ 100) : setD (.cell 4) (sd t) (rowD ks f) (wG j ks ns gs cs) = some (wG j ks ns gs (cs ++ [(t, f)])) := by
  obtain ⟨e1, e2⟩ := dput_new (vs := cs.map fun p => rowD ks p.2) (rowD ks f) h
  show (if (isKey false (sd t) && decide (((cs.map (·.1)).map sd).length < sizeLine)) = true then some ((wG j ks ns gs cs).set 4 (.dK (dputK ((cs.map (·.1)).map sd) (sd t)) (dputV ((cs.map (·.1)).map sd) (cs.map fun p => rowD ks p.2) (sd t) (rowD ks f)))) else none) = _
  rw [if_pos, e1, e2]
  · unfold wG
    simp
  · rw [List.length_map, List.length_map, decide_eq_true (Nat.lt_of_le_of_lt hl (by decide))]
    rfl
end
theorem frzIs_map {α : Type} {g : Nat → Option D} {f h : α → D} : ∀ {xs : List α}, (∀ x ∈ xs, frzI g (f x) = some (h x)) → frzIs g (xs.map f) = some (xs.map h)
  | [], _ => rfl
  | x :: xs, e => by
    rw [List.map_cons, frzIs, e x (List.mem_cons_self ..), frzIs_map fun y hy => e y (List.mem_cons_of_mem _ hy)]
    rfl
theorem frz_at {G : List C} {k t n : Nat} {c c' : C} (hk : ¬ n < k) (hg : G[n]? = some c) (h : frzC (frz G k none t) c = some c') : frzI (frz G k none (t + 1)) (.cell n) = some c'.toD := by
  show frz G k none (t + 1) n = _
  rw [frz, if_neg hk, if_neg (by simp), hg]
  show (frzC (frz G k none t) c).map C.toD = _
  rw [h]
  rfl
theorem wG_frz {j : J} {ks : List W} {fs : List (W × (W → W → O))} {cs : List (W × (W → O))} {t : Nat} : frzI (frz (wG j ks (fs.map (·.1)) (fs.map fun p => gridC ks p.2) cs) 1 none (t + 3)) (.cell 1) = some (web ⟨ks, fs, cs⟩) := by
  have cl : ∀ {d : D} {t : Nat}, D.clean 0 d = true → frzI (frz (wG j ks (fs.map (·.1)) (fs.map fun p => gridC ks p.2) cs) 1 none t) d = some d := fun h => frzI_clean (k := 0) (fun n hn => absurd hn (Nat.not_lt_zero n)) h
  have cls : ∀ {ds : List D} {t : Nat}, D.cleans 0 ds = true → frzIs (frz (wG j ks (fs.map (·.1)) (fs.map fun p => gridC ks p.2) cs) 1 none t) ds = some ds := fun h => frzIs_clean (k := 0) (fun n hn => absurd hn (Nat.not_lt_zero n)) h
  have k2 : frzI (frz (wG j ks (fs.map (·.1)) (fs.map fun p => gridC ks p.2) cs) 1 none (t + 2)) (.cell 2) = some (.lst (ks.map sd)) := by
    refine frz_at (c := .lst (ks.map sd)) (c' := .lst (ks.map sd)) (by decide) rfl ?_
    show (frzIs _ _).map _ = _
    rw [cls (cl_sds _ _)]
    rfl
  have k4 : frzI (frz (wG j ks (fs.map (·.1)) (fs.map fun p => gridC ks p.2) cs) 1 none (t + 2)) (.cell 4) = some (castsD ⟨ks, fs, cs⟩) := by
    refine frz_at (c' := .dK ((cs.map (·.1)).map sd) (cs.map fun p => rowD ks p.2)) (by decide) rfl ?_ |>.trans ?_
    · show (frzIs _ _).map _ = _
      rw [cls (clean_map fun p _ => by unfold rowD; rw [D.clean]; exact clean_map fun _ _ => rfl)]
      rfl
    · unfold castsD C.toD
      rw [List.map_map]
      rfl
  have k3 : frzI (frz (wG j ks (fs.map (·.1)) (fs.map fun p => gridC ks p.2) cs) 1 none (t + 2)) (.cell 3) = some (opsD ⟨ks, fs, cs⟩) := by
    refine frz_at (c' := .dK ((fs.map (·.1)).map sd) (fs.map fun p => gridD ks p.2)) (by decide) rfl ?_ |>.trans ?_
    · show (frzIs _ _).map _ = _
      have : frzIs (frz (wG j ks (fs.map (·.1)) (fs.map fun p => gridC ks p.2) cs) 1 none (t + 1)) ((List.range (fs.map (·.1)).length).map fun i => D.cell (5 + i)) = some ((List.range (fs.map (·.1)).length).map fun i => gridD ks (fs.getD i ([], fun _ _ => .err)).2) := by
        refine frzIs_map fun i hi => ?_
        rw [List.mem_range, List.length_map] at hi
        refine frz_at (c := gridC ks (fs.getD i ([], fun _ _ => .err)).2) (c' := gridC ks (fs.getD i ([], fun _ _ => .err)).2) (by omega) ?_ ?_
        · unfold wG
          rw [Nat.add_comm]
          simp only [List.getElem?_cons_succ]
          rw [List.getElem?_map, List.getD_eq_getElem?_getD, List.getElem?_eq_getElem hi]
          rfl
        · show (frzIs _ _).map _ = _
          rw [cls (clean_map fun _ _ => rfl)]
          rfl
      rw [this]
      show some _ = some _
      congr 2
      refine List.ext_getElem (by simp) fun i h1 h2 => ?_
      rw [List.getElem_map, List.getElem_map, List.getElem_range]
      rw [List.length_map] at h2
      rw [List.getD_eq_getElem?_getD, List.getElem?_eq_getElem h2]
      rfl
    · unfold opsD C.toD
      rw [List.map_map]
      rfl
  refine frz_at (c := .dK wKs [.cell 2, .cell 3, .cell 4]) (c' := .dK wKs [.lst (ks.map sd), opsD ⟨ks, fs, cs⟩, castsD ⟨ks, fs, cs⟩]) (by decide) rfl ?_ |>.trans ?_
  · show (frzIs _ _).map _ = _
    rw [frzIs, k2, frzIs, k3, frzIs, k4, frzIs]
    rfl
  · have e1 := l_kinds
    have e2 := l_ops
    have e3 := l_casts
    unfold web C.toD wKs
    show some _ = some _
    rw [show (D.str "kinds") = sd [107, 105, 110, 100, 115] from congrArg D.str e1, show (D.str "ops") = sd [111, 112, 115] from congrArg D.str e2, show (D.str "casts") = sd [99, 97, 115, 116, 115] from congrArg D.str e3]

theorem compL_drw {α β : Type} {step : D → List C → Option (List D × List C)} {I : List C → Prop} {B : β → Prop} {g : α → D} (h : α → β → D) : ∀ {xs : List α} {G : List C}, I G → (∀ x ∈ xs, ∀ G, I G → ∃ y G', B y ∧ I G' ∧ step (g x) G = some ([h x y], G')) →
    ∃ ys G', ys.length = xs.length ∧ (∀ y ∈ ys, B y) ∧ I G' ∧ compL step (xs.map g) G = some (List.zipWith h xs ys, G')
  | [], G, hI, _ => ⟨[], G, rfl, (fun _ h => by cases h), hI, rfl⟩
  | x :: xs, G, hI, hs => by
    obtain ⟨y, G1, hy, hI1, e⟩ := hs x (List.mem_cons_self ..) G hI
    obtain ⟨ys, G2, hl, hys, hI2, e2⟩ := compL_drw h hI1 fun z hz => hs z (List.mem_cons_of_mem _ hz)
    refine ⟨y :: ys, G2, by simp [hl], fun z hz => ?_, hI2, ?_⟩
    · rcases List.mem_cons.mp hz with rfl | hz
      · exact hy
      · exact hys z hz
    · rw [List.map_cons, compL, e]
      simp only [e2, List.singleton_append, List.zipWith_cons_cons]
theorem lst_atD {ks : List W} {i : Nat} (h : i < ks.length) (G : List C) : idxD (.lst (ks.map sd)) (.int i) G = some (sd (ks.getD i [])) := by
  rw [lst_at h, List.getD_eq_getElem?_getD, List.getElem?_eq_getElem h]
  rfl
theorem take_range (ws : List W) {n : Nat} (h : n ≤ ws.length) : ws.take n = (List.range n).map fun i => ws.getD i [] := by
  refine List.ext_getElem (by simp; omega) fun i h1 h2 => ?_
  rw [List.length_map, List.length_range] at h2
  rw [List.getElem_take, List.getElem_map, List.getElem_range, List.getD_eq_getElem?_getD, List.getElem?_eq_getElem (by omega)]
  rfl
theorem dputs3 (x y z : D) : dputs [] [] [(sd [107, 105, 110, 100, 115], x), (sd [111, 112, 115], y), (sd [99, 97, 115, 116, 115], z)] = (wKs, [x, y, z]) := by
  have := dputs_new [[107, 105, 110, 100, 115], [111, 112, 115], [99, 97, 115, 116, 115]] [x, y, z] [] [] rfl (by decide)
  simpa [wKs] using this
theorem altOf3 (a b c : W) (x y z : D) : altOf [sd a, x, sd b, y, sd c, z] = some [(sd a, x), (sd b, y), (sd c, z)] := rfl
theorem pairs_zipD : ∀ (ks : List W) (vs : List D), pairsOf (List.zipWith (fun a b => .tup [sd a, b]) ks vs) = some ((ks.zip vs).map fun p => (sd p.1, p.2))
  | [], _ => rfl
  | _ :: _, [] => rfl
  | k :: ks, w :: ws => by
    show (if isK (sd k) = true then (pairsOf (List.zipWith (fun a b => .tup [sd a, b]) ks ws)).map ((sd k, w) :: ·) else none) = _
    rw [pairs_zipD ks ws]
    rfl
theorem dictP_row {ks : List W} {vs : List D} (nd : ks.Nodup) (hl : ks.length = vs.length) (G : List C) : biD .dictP false [.lst (List.zipWith (fun a b => .tup [sd a, b]) ks vs)] G = some (.dic false (ks.map sd) vs, G) := by
  show (match pairsOf (List.zipWith (fun a b => .tup [sd a, b]) ks vs) with
      | some ps => mkK false (dputs [] [] ps).1 (dputs [] [] ps).2 G
      | none => none) = _
  rw [pairs_zipD]
  have := dputs_new ks vs [] [] hl (by simpa using nd)
  simp only [List.map_nil, List.nil_append] at this
  dsimp only
  rw [this]
  rfl
/-- the entries of one operator -/
theorem web_grid {m nk : Nat} (hm : 3 ≤ m) (hk8 : nk ≤ 8) {ws ks : List W} {g : Nat → W} (hg : ∀ i, i < nk → ∀ G, idxD (.lst (ws.map sd)) (.int i) G = some (sd (g i))) (hks : ks = (List.range nk).map g) (hn : ∀ k ∈ ks, Nm k) (hnd : ks.Nodup)
    (s1 : ∀ G, sliceD false (.lst (ws.map sd)) none (some (nk : Int)) G = some (.lst (ks.map sd), G)) {dn : List W} {t : W} (ht : t ∉ dn) {gs : List C} (hgl : gs.length = dn.length) {j : J} (hj : j.Ok) {x1 x6 x7 x8 x9 x10 : Option D} {Q : Res → En → List C → Prop}
    (hQ : ∀ (j : J) (f : W → W → O) x8 x9, j.Ok → (∀ a ∈ ks, ∀ b ∈ ks, ent ks (f a b)) → Q .nx [some (.cell 0), x1, some (.lst (ws.map sd)), some (.cell 1), some (sd t), some (.int nk), x6, x7, x8, x9, x10] (wG j ks (dn ++ [t]) (gs ++ [gridC ks f]) [])) {s0 : Iv.St}
    (hs0 : s0 = match F__law_web.body with | .seq _ (.seq _ (.seq _ (.seq (.fors _ _ _ _ (.seq _ (.seq s _))) _))) => s | _ => .skip) :
    wS (cfOf PT wf m) wf s0 [some (.cell 0), x1, some (.lst (ws.map sd)), some (.cell 1), some (sd t), some (.int nk), x6, x7, x8, x9, x10] (wG j ks (dn ++ [t]) (gs ++ [.dT [] []]) []) Q := by
  subst hs0
  have hkl : ks.length = nk := by rw [hks, List.length_map, List.length_range]
  have hrow : ∀ i : Nat, ((List.range nk).map fun jj => (g i, g jj)).length = nk := fun i => by rw [List.length_map, List.length_range]
  have hpe : pairs ks = (List.range nk).flatMap fun i => (List.range nk).map fun jj => (g i, g jj) := by
    rw [hks]
    unfold pairs
    rw [List.flatMap_map]
    simp only [List.map_map]
    rfl
  have hpn := pairs_eq_nd hnd
  have hpl : (pairs ks).length ≤ 64 := by
    unfold pairs
    rw [List.length_flatMap]
    have : (ks.map fun a => (ks.map fun b => (a, b)).length) = ks.map fun _ => nk := List.map_congr_left fun a _ => by rw [List.length_map, hkl]
    rw [this, List.map_const', List.sum_replicate_nat, hkl]
    have := Nat.mul_le_mul hk8 hk8
    omega
  have hcut := fun (ps : List (W × W)) (q : W × W) (r : List (W × W)) (h : pairs ks = ps ++ q :: r) => (show q ∉ ps ∧ ps.length ≤ 1000 from by
    rw [h] at hpn hpl
    rw [List.nodup_append] at hpn
    rw [List.length_append] at hpl
    exact ⟨fun m => hpn.2.2 q m q (List.mem_cons_self ..) rfl, by omega⟩)
  simp only [F__law_web]
  ac_rfl
  push_cast
  subst_eqs
  refine forQ_nil (range1_n (by omega) _ _) ?_
  refine wLp_run (fun dk ρ G => ∃ (j : J) (os : List O) (x8 x9 : Option D), j.Ok ∧ os.length = (dk.flatMap fun i => (List.range nk).map fun jj => (g i, g jj)).length ∧ (∀ o ∈ os, ent ks o) ∧ ρ = [some (.cell 0), x1, some (.lst (ws.map sd)), some (.cell 1), some (sd t), some (.int nk), x6, x7, x8, x9, x10] ∧
    G = wG j ks (dn ++ [t]) (gs ++ [.dT ((dk.flatMap fun i => (List.range nk).map fun jj => (g i, g jj)).map kt) (os.map O.ed)]) []) ⟨j, [], _, _, hj, rfl, (fun _ h => by cases h), rfl, rfl⟩ ?_ ?_
  · rintro dk i rest er ρ G ⟨j1, os, x8, x9, hj1, hol, hoe, rfl, rfl⟩
    have hi : i < nk := by rw [← List.mem_range, er]; simp
    and_intros
    push_cast
    subst_eqs
    refine forQ_nil (range1_n (by omega) _ _) ?_
    refine wLp_run (fun dl ρ G => ∃ (j : J) (os : List O) (x9 : Option D), j.Ok ∧ os.length = ((dk.flatMap fun i => (List.range nk).map fun jj => (g i, g jj)) ++ dl.map fun jj => (g i, g jj)).length ∧ (∀ o ∈ os, ent ks o) ∧ ρ = [some (.cell 0), x1, some (.lst (ws.map sd)), some (.cell 1), some (sd t), some (.int nk), x6, x7, some (.int i), x9, x10] ∧
      G = wG j ks (dn ++ [t]) (gs ++ [.dT (((dk.flatMap fun i => (List.range nk).map fun jj => (g i, g jj)) ++ dl.map fun jj => (g i, g jj)).map kt) (os.map O.ed)]) []) ⟨j1, os, _, hj1, by simpa using hol, hoe, rfl, by simp⟩ ?_ ?_
    · rintro dl l rest2 er2 ρ G ⟨j2, os2, x9', hj2, hol2, hoe2, rfl, rfl⟩
      have hl : l < nk := by rw [← List.mem_range, er2]; simp
      have hp : pairs ks = ((dk.flatMap fun i => (List.range nk).map fun jj => (g i, g jj)) ++ dl.map fun jj => (g i, g jj)) ++ (g i, g l) :: (rest2.map (fun jj => (g i, g jj)) ++ rest.flatMap fun i => (List.range nk).map fun jj => (g i, g jj)) := by
        rw [hpe, er, List.flatMap_append, List.flatMap_cons, ← er]
        have : (List.range nk).map (fun jj => (g i, g jj)) = dl.map (fun jj => (g i, g jj)) ++ (g i, g l) :: rest2.map fun jj => (g i, g jj) := by rw [er2, List.map_append, List.map_cons]
        rw [this]
        simp only [List.append_assoc, List.cons_append]
      obtain ⟨hq1, hq2⟩ := hcut _ _ _ hp
      generalize hps : ((dk.flatMap fun i => (List.range nk).map fun jj => (g i, g jj)) ++ dl.map fun jj => (g i, g jj)) = ps at *
      and_intros
      push_cast [s1]
      (generalize hz : cfOf _ _ _ false _ (D.cell _ :: _) _ = z); obtain ⟨d3, j3, hj3, hd3, rfl⟩ := Dr.gen (d_cell (wf := wf) (ks := ks) (by omega) hn (a := i) (b := l) (by omega) (by omega)) (by omega) (by assumption) rfl hz; clear hz
      obtain ⟨o, ho, rfl⟩ := hd3
      push_cast [wG_jset]
      subst_eqs
      have st := wG_setgr (j := j3) (ks := ks) (ns := dn ++ [t]) (gs := gs) (cs := []) (vs := os2.map O.ed) hq1 hq2 o.ed
      rw [hgl] at st
      have st' : setD (.cell (5 + dn.length)) (.tup [sd (g i), sd (g l)]) o.ed _ = _ := st
      refine asgK_of (by push_cast [wG_ops, wG_getop ht, hg i hi, hg l hl, st']; rfl) ?_
      ac_rfl
      refine ⟨j3, os2 ++ [o], _, hj3, ?_, ?_, rfl, ?_⟩
      · rw [List.map_append, ← List.append_assoc, hps]
        simp [hol2]
      · intro z hz
        rcases List.mem_append.mp hz with z' | z'
        · exact hoe2 z z'
        · rw [List.mem_singleton.mp z']; exact ho
      · rw [List.map_append (l₁ := dl), ← List.append_assoc, hps]
        simp
    · rintro ρ G ⟨j2, os2, x9', hj2, hol2, hoe2, rfl, rfl⟩
      ac_rfl
      refine ⟨j2, os2, _, _, hj2, ?_, hoe2, rfl, ?_⟩
      · rw [hol2, List.flatMap_append, List.flatMap_singleton]
      · rw [List.flatMap_append, List.flatMap_singleton]
  · rintro ρ G ⟨j1, os, x8, x9, hj1, hol, hoe, rfl, rfl⟩
    rw [← hpe] at hol ⊢
    obtain ⟨f, hf⟩ := fn_of (ks := pairs ks) (os := os) hpn hol
    have := hQ j1 (fun a b => f (a, b)) x8 x9 hj1 fun a ha b hb => hoe _ (by
      rw [← hf]
      refine List.mem_map.mpr ⟨(a, b), ?_, rfl⟩
      unfold pairs
      simp only [List.mem_flatMap, List.mem_map]
      exact ⟨a, ha, b, hb, rfl⟩)
    have e : gridC ks (fun a b => f (a, b)) = .dT ((pairs ks).map kt) (os.map O.ed) := by
      unfold gridC
      rw [← hf, List.map_map]
      rfl
    rw [e] at this
    exact this
theorem d_web {mo : Nat} (h1 : 1 ≤ mo) (h8 : mo ≤ 8) : Dr PT wf 4 "_law_web" [.int mo] (fun d => ∃ T : Tab, T.Ok ∧ T.kinds.length ≤ mo ∧ d = web T) := by
  refine Dr.ofW (F := F__law_web) rfl rfl rfl rfl fun m hm j hj => ?_
  (simp only [F__law_web, en0, List.map_cons, List.map_nil, List.length_cons, List.length_nil, Nat.reduceAdd, Nat.reduceSub, Nat.zero_add, List.replicate, List.cons_append, List.nil_append]; ac_rfl)
  push_cast
  (generalize hz : cfOf _ _ _ false _ (D.cell _ :: _) _ = z); obtain ⟨d1, j1, hj1, hd1, rfl⟩ := Dr.gen (d_scoop (wf := wf) (n := mo) (by omega) (by omega)) (by omega) (by assumption) rfl hz; clear hz
  obtain ⟨i1, hi1, rfl⟩ := hd1
  push_cast
  (generalize hz : cfOf _ _ _ false _ (D.cell _ :: _) _ = z); obtain ⟨d2, j2, hj2, hd2, rfl⟩ := Dr.gen (d_any (wf := wf) (by simp) (by simp) rfl) (by omega) (by assumption) rfl hz; clear hz
  obtain ⟨i2, hi2, rfl⟩ : ∃ n : Nat, n ≤ 2 ∧ d2 = .int n := by
    simp only [List.mem_cons, List.not_mem_nil, or_false] at hd2
    rcases hd2 with rfl | rfl | rfl | rfl
    · exact ⟨0, by decide, rfl⟩
    · exact ⟨0, by decide, rfl⟩
    · exact ⟨1, by decide, rfl⟩
    · exact ⟨2, by decide, rfl⟩
  push_cast
  (generalize hz : cfOf _ _ _ false _ (D.cell _ :: _) _ = z); obtain ⟨d3, j3, hj3, hd3, rfl⟩ := Dr.gen (d_any (wf := wf) (by simp) (by simp) rfl) (by omega) (by assumption) rfl hz; clear hz
  obtain ⟨nc, hnc, rfl⟩ : ∃ n : Nat, n ≤ 4 ∧ d3 = .int n := by
    simp only [List.mem_cons, List.not_mem_nil, or_false] at hd3
    rcases hd3 with rfl | rfl | rfl | rfl | rfl
    · exact ⟨0, by decide, rfl⟩
    · exact ⟨1, by decide, rfl⟩
    · exact ⟨1, by decide, rfl⟩
    · exact ⟨2, by decide, rfl⟩
    · exact ⟨4, by decide, rfl⟩
  have e1 : (1 : Int) + i1 = ((i1 + 1 : Nat) : Int) := by omega
  have e2 : (1 : Int) + i2 = ((i2 + 1 : Nat) : Int) := by omega
  push_cast [e1, e2]
  subst_eqs
  obtain ⟨nk, hnk1, hnk, hnke⟩ : ∃ n, 1 ≤ n ∧ n ≤ mo ∧ n = i1 + 1 := ⟨_, by omega, by omega, rfl⟩
  obtain ⟨no, hno1, hno, hnoe⟩ : ∃ n, 1 ≤ n ∧ n ≤ 3 ∧ n = i2 + 1 := ⟨_, by omega, by omega, rfl⟩
  rw [← hnke, ← hnoe]
  clear e1 e2 hnke hnoe
  refine asgK_of (by push_cast; rfl) ?_
  ac_rfl
  have e3 : (nk : Int) + no + nc = ((nk + no + nc : Nat) : Int) := by omega
  push_cast [e3]
  (generalize hz : cfOf _ _ _ false _ (D.cell _ :: _) _ = z); obtain ⟨d4, j4, hj4, hd4, rfl⟩ := Dr.gen (d_words (wf := wf) (n := nk + no + nc) (by omega)) (by omega) (by assumption) rfl hz; clear hz
  obtain ⟨ws, rfl, hwl, hws⟩ := hd4
  push_cast
  subst_eqs
  have hlen : ∀ ks : List W, ks.length ≤ 15 → (ks.map sd).length ≤ 100000 := fun ks h => by rw [List.length_map]; omega
  have htk : (ws.take nk).length ≤ 15 := by rw [List.length_take]; omega
  have s0 : ∀ G, sliceD true (.lst (ws.map sd)) none (some (nk : Int)) G = some (.cell G.length, G ++ [.lst ((ws.take nk).map sd)]) := fun G => by
    rw [sl_to, ← List.map_take, mkL_true (hlen _ htk)]
  have s1 : ∀ G, sliceD false (.lst (ws.map sd)) none (some (nk : Int)) G = some (.lst ((ws.take nk).map sd), G) := fun G => by
    rw [sl_to, ← List.map_take, mkL_small (hlen _ htk)]
  have e4 : (nk : Int) + no = ((nk + no : Nat) : Int) := by omega
  have s2 : ∀ G, sliceD false (.lst (ws.map sd)) (some (nk : Int)) (some ((nk + no : Nat) : Int)) G = some (.lst (((ws.drop nk).take no).map sd), G) := fun G => by
    rw [sl_ft _ _ (by rw [List.length_map]; omega) (by omega), ← List.map_drop, ← List.map_take, Nat.add_sub_cancel_left, mkL_small (hlen _ (by rw [List.length_take]; omega))]
  have s3 : ∀ G, sliceD false (.lst (ws.map sd)) (some ((nk + no : Nat) : Int)) none G = some (.lst ((ws.drop (nk + no)).map sd), G) := fun G => by
    rw [sl_from, ← List.map_drop, mkL_small (hlen _ (by rw [List.length_drop]; omega))]
  have hg : ∀ i, i < nk → ∀ G, idxD (.lst (ws.map sd)) (.int i) G = some (sd (ws.getD i [])) := fun i hi G => lst_atD (by omega) G
  have hks := take_range ws (n := nk) (by omega)
  have hsplit : ws = ws.take nk ++ ((ws.drop nk).take no ++ ws.drop (nk + no)) := by
    rw [← List.drop_drop, List.take_append_drop, List.take_append_drop]
  have l1 : (ws.take nk).length = nk := by rw [List.length_take]; omega
  have l2 : ((ws.drop nk).take no).length = no := by rw [List.length_take, List.length_drop]; omega
  have l3 : (ws.drop (nk + no)).length = nc := by rw [List.length_drop]; omega
  obtain ⟨wnd, wnm⟩ := hws
  rw [hsplit] at wnd wnm
  push_cast [s0, altOf3, dputs3]
  subst_eqs
  generalize hgf : (fun i => ws.getD i []) = g at hks
  replace hg : ∀ i, i < nk → ∀ G, idxD (.lst (ws.map sd)) (.int i) G = some (sd (g i)) := fun i hi G => by rw [← hgf]; exact hg i hi G
  generalize ws.take nk = ks at *
  generalize (ws.drop nk).take no = os at *
  generalize ws.drop (nk + no) = cs at *
  have hkn : ∀ k ∈ ks, Nm k := fun k hk => wnm k (List.mem_append_left _ hk)
  have hknd := (List.nodup_append.mp wnd).1
  have hoc := (List.nodup_append.mp wnd).2.1
  have hod := (List.nodup_append.mp hoc).1
  have hcd := (List.nodup_append.mp hoc).2.1
  rw [show ([j4.C, .dK wKs [.cell 2, .cell 3, .cell 4], .lst (ks.map sd), .dK [] [], .dK [] []] : List C) = wG j4 ks [] [] [] from rfl]
  push_cast [e4, s2]
  subst_eqs
  refine forQ_nil (it_lst _ _ _) ?_
  refine wLp_run (fun dn ρ G => ∃ (j : J) (fs : List (W × (W → W → O))) (x4 x8 x9 : Option D), j.Ok ∧ fs.map (·.1) = dn ∧ (∀ p ∈ fs, ∀ a ∈ ks, ∀ b ∈ ks, ent ks (p.2 a b)) ∧
    ρ = [some (.cell 0), some (.int mo), some (.lst (ws.map sd)), some (.cell 1), x4, some (.int nk), some (.int no), some (.int nc), x8, x9, none] ∧ G = wG j ks dn (fs.map fun p => gridC ks p.2) []) ⟨j4, [], _, _, _, hj4, rfl, (fun _ h => by cases h), rfl, rfl⟩ ?_ ?_
  · rintro dn t rest er ρ G ⟨j5, fs, x4, x8, x9, hj5, hfd, hfe, rfl, rfl⟩
    have ht : t ∉ dn := by
      rw [er, List.nodup_append] at hod
      exact fun hm => hod.2.2 t hm t (List.mem_cons_self ..) rfl
    have hdl : dn.length ≤ 3 := by have := congrArg List.length er; rw [List.length_append, List.length_cons] at this; omega
    have hfl : (fs.map fun p => gridC ks p.2).length = dn.length := by rw [← hfd, List.length_map, List.length_map]
    and_intros
    push_cast [wG_len, wG_app, hfl]
    subst_eqs
    have so := wG_setop (j := j5) (ks := ks) (gs := (fs.map fun p => gridC ks p.2) ++ [.dT [] []]) (cs := []) ht (by omega)
    refine asgK_of (by push_cast [wG_ops, so]; rfl) ?_
    refine seqK_nx (wS_seq ?_)
    refine web_grid (m := m) (nk := nk) (g := g) (by omega) (by omega) hg hks hkn hknd s1 ht hfl hj5 (fun j6 f x8 x9 hj6 hf => ?_) rfl
    refine seqK_nx (wS_skip (stepK_nx ⟨j6, fs ++ [(t, f)], _, _, _, hj6, by simp [hfd], ?_, rfl, by simp⟩))
    intro p hp
    rcases List.mem_append.mp hp with h | h
    · exact hfe p h
    · rw [List.mem_singleton.mp h]; exact hf
  · rintro ρ G ⟨j5, fs, x4, x8, x9, hj5, hfd, hfe, rfl, rfl⟩
    ac_rfl
    push_cast [e4, s3]
    subst_eqs
    refine forQ_nil (it_lst _ _ _) ?_
    refine wLp_run (fun dn ρ G => ∃ (j : J) (fc : List (W × (W → O))) (x4 : Option D), j.Ok ∧ fc.map (·.1) = dn ∧ (∀ p ∈ fc, ∀ a ∈ ks, ent ks (p.2 a)) ∧
      ρ = [some (.cell 0), some (.int mo), some (.lst (ws.map sd)), some (.cell 1), x4, some (.int nk), some (.int no), some (.int nc), x8, x9, none] ∧ G = wG j ks os (fs.map fun p => gridC ks p.2) fc) ⟨j5, [], _, hj5, rfl, (fun _ h => by cases h), rfl, rfl⟩ ?_ ?_
    · rintro dn t rest er ρ G ⟨j6, fc, x4, hj6, hcd', hce, rfl, rfl⟩
      have ht : t ∉ fc.map (·.1) := by
        rw [hcd']
        rw [er, List.nodup_append] at hcd
        exact fun hm => hcd.2.2 t hm t (List.mem_cons_self ..) rfl
      have hfl : fc.length ≤ 100 := by
        have := congrArg List.length er
        rw [List.length_append, List.length_cons, ← hcd', List.length_map] at this
        omega
      and_intros
      obtain ⟨zk, hzk, hr⟩ : ∃ zk, D.int (nk : Int) = zk ∧ ∀ y G, itemsOf .range1 zk y G = some ((List.range nk).map fun (i : Nat) => D.int i) := ⟨_, rfl, fun y G => range1_n (r := nk) (by omega) y G⟩
      have hzk' := hzk.symm
      rw [hzk]
      push_cast [hr]
      clear hr
      generalize hL : compL _ _ _ = L
      obtain ⟨os', G', hol, hoe, ⟨j7, hj7, rfl⟩, rfl⟩ : ∃ (os' : List O) (G' : List C), os'.length = (List.range nk).length ∧ (∀ o ∈ os', ent ks o) ∧ (∃ j : J, j.Ok ∧ G' = wG j ks os (fs.map fun p => gridC ks p.2) fc) ∧ L = some (List.zipWith (fun i o => .tup [sd (g i), o.ed]) (List.range nk) os', G') := by
        rw [← hL]
        refine compL_drw (I := fun G => ∃ j : J, j.Ok ∧ G = wG j ks os (fs.map fun p => gridC ks p.2) fc) (B := ent ks) (fun (i : Nat) (o : O) => D.tup [sd (g i), o.ed]) ⟨j6, hj6, rfl⟩ ?_
        rintro i hi G ⟨j8, hj8, rfl⟩
        have hi' : i < nk := List.mem_range.mp hi
        push_cast [stC, hzk', hg i hi', s1]
        (generalize hz : cfOf _ _ _ false _ (D.cell _ :: _) _ = z); obtain ⟨d9, j9, hj9, hd9, rfl⟩ := Dr.gen (d_cell (wf := wf) (ks := ks) (by omega) hkn (a := i) (b := i) (by omega) (by omega)) (by omega) (by assumption) rfl hz; clear hz
        obtain ⟨o, ho, rfl⟩ := hd9
        refine ⟨o, _, ho, ⟨j9, hj9, rfl⟩, ?_⟩
        push_cast [wG_jset]
      have hz : List.zipWith (fun i o => D.tup [sd (g i), O.ed o]) (List.range nk) os' = List.zipWith (fun a b => D.tup [sd a, b]) ks (os'.map O.ed) := by
        rw [hks, List.zipWith_map]
      have hkl : ks.length = os'.length := by rw [hol, List.length_range, l1]
      obtain ⟨f, hf⟩ := fn_of (ks := ks) (os := os') hknd hkl.symm
      have hro : rowD ks f = .dic false (ks.map sd) (os'.map O.ed) := by
        unfold rowD
        rw [← hf, List.map_map]
        rfl
      have hdp := fun G => dictP_row (ks := ks) (vs := os'.map O.ed) hknd (by rw [List.length_map]; exact hkl) G
      rw [← hro] at hdp
      rw [hz]
      push_cast [mkL_small (xs := List.zipWith (fun a b => D.tup [sd a, b]) ks (os'.map O.ed)) (by rw [List.length_zipWith]; omega), hdp]
      subst hzk'
      subst_eqs
      refine asgK_of (by push_cast [wG_casts, wG_setcast ht hfl]; rfl) ?_
      ac_rfl
      refine ⟨j7, fc ++ [(t, f)], _, hj7, by simp [hcd'], ?_, rfl, rfl⟩
      intro p hp
      rcases List.mem_append.mp hp with h | h
      · exact hce p h
      · rw [List.mem_singleton.mp h]
        intro a ha
        refine hoe _ ?_
        rw [← hf]
        exact List.mem_map_of_mem ha
    · rintro ρ G ⟨j6, fc, x4, hj6, hcd', hce, rfl, rfl⟩
      ac_rfl
      push_cast
      subst_eqs
      subst hfd hcd'
      rw [List.length_map] at l2 l3
      refine ⟨web ⟨ks, fs, fc⟩, j6, _, rfl, hj6, ⟨⟨ks, fs, fc⟩, ⟨⟨?_, ?_⟩, ⟨?_, ?_⟩, ?_, wnm, wnd, hfe, hce⟩, ?_, rfl⟩, cl_web _ _, wG_frz⟩
      all_goals show _ ≤ _
      all_goals first | omega | (simp only; omega)

/-- a walk that draws and keeps some of its items -/
theorem compL_sub {α : Type} {step : D → List C → Option (List D × List C)} {I : List C → Prop} {g f : α → D} : ∀ {xs : List α} {G : List C}, I G → (∀ x ∈ xs, ∀ G, I G → ∃ b G', I G' ∧ step (g x) G = some (if b = true then [f x] else [], G')) →
    ∃ (ys : List α) (G' : List C), ys.Sublist xs ∧ I G' ∧ compL step (xs.map g) G = some (ys.map f, G')
  | [], G, hI, _ => ⟨[], G, .slnil, hI, rfl⟩
  | x :: xs, G, hI, hs => by
    obtain ⟨b, G1, hI1, e⟩ := hs x (List.mem_cons_self ..) G hI
    obtain ⟨ys, G2, hl, hI2, e2⟩ := compL_sub hI1 fun z hz => hs z (List.mem_cons_of_mem _ hz)
    cases b
    · refine ⟨ys, G2, .cons _ hl, hI2, ?_⟩
      rw [List.map_cons, compL, e]
      simp only [e2, Bool.false_eq_true, if_false, List.nil_append]
    · refine ⟨x :: ys, G2, .cons₂ _ hl, hI2, ?_⟩
      rw [List.map_cons, compL, e]
      simp only [e2, if_true, List.singleton_append, List.map_cons]
theorem ne_nil_sds (ws : List W) (G : List C) : cmpD .ne (.lst (ws.map sd)) (.lst []) G = some (!ws.isEmpty) := by
  show (if eqOk (.lst (ws.map sd)) (.lst []) = true then some (!eqD (.lst (ws.map sd)) (.lst [])) else none) = _
  refine Eq.trans (if_pos ?_) ?_
  · unfold eqOk
    rw [D.plain, plains_sds, D.depth, depths_sds]
    rfl
  · rw [eqD]
    cases ws <;> rfl
theorem tup_lst (xs : List D) (c : Bool) (G : List C) : biD .tuple c [.lst xs] G = some (.tup xs, G) := rfl
theorem d_lot {T : Tab} (h : T.Ok) : Dr PT wf 2 "_law_lot" [web T] (fun d => ∃ ks : List W, ks ≠ [] ∧ ks.Sublist T.kinds ∧ d = .tup (ks.map sd)) := by
  have hne := ok_ne h
  have h8 := h.nk.2
  refine Dr.ofW (F := F__law_lot) rfl rfl (by simp only [D.cleans, cl_web, Bool.and_true]) rfl fun m hm j hj => ?_
  (simp only [F__law_lot, en0, List.map_cons, List.map_nil, List.length_cons, List.length_nil, Nat.reduceAdd, Nat.reduceSub, Nat.zero_add, List.replicate, List.cons_append, List.nil_append]; ac_rfl)
  push_cast [web_kinds]
  generalize hL : compL _ _ _ = L
  obtain ⟨ys, G1, hsub, ⟨j1, hj1, rfl⟩, rfl⟩ : ∃ (ys : List W) (G' : List C), ys.Sublist T.kinds ∧ (∃ j : J, j.Ok ∧ G' = [j.C]) ∧ L = some (ys.map sd, G') := by
    rw [← hL]
    refine compL_sub (I := fun G => ∃ j : J, j.Ok ∧ G = [j.C]) ⟨j, hj, rfl⟩ ?_
    rintro x hx G ⟨j2, hj2, rfl⟩
    push_cast [stC]
    (generalize hz : cfOf _ _ _ false _ (D.cell _ :: _) _ = z); obtain ⟨d3, j3, hj3, hd3, rfl⟩ := Dr.gen (d_scoop (wf := wf) (n := 3) (by decide) (by decide)) (by omega) (by assumption) rfl hz; clear hz
    obtain ⟨i, hi, rfl⟩ := hd3
    refine ⟨decide ((0 : Int) < i), [j3.C], ⟨j3, hj3, rfl⟩, ?_⟩
    push_cast
    cases decide ((0 : Int) < i) <;> rfl
  have hyl : ys.length ≤ 8 := Nat.le_trans hsub.length_le h8
  push_cast [mkL_small (xs := ys.map sd) (by rw [List.length_map]; omega)]
  subst_eqs
  cases ys with
  | nil =>
    have e1 := fun G => sl_to (xs := T.kinds.map sd) 1 false G
    have e2 := fun G => mkL_small (G := G) (xs := (T.kinds.map sd).take 1) (by rw [List.length_take, List.length_map]; omega)
    have e0 : ∀ G, cmpD .ne (.lst []) (.lst []) G = some false := fun G => ne_nil_sds [] G
    have e1' : ∀ G, sliceD false (.lst (T.kinds.map sd)) none (some 1) G = mkL false ((T.kinds.map sd).take 1) G := e1
    push_cast [e0, web_kinds, e1', e2, tup_lst]
    subst_eqs
    rw [← List.map_take]
    refine drK_of hj1 ⟨T.kinds.take 1, ?_, List.take_sublist _ _, rfl⟩ (by rw [D.clean]; exact cl_sds _ _)
    intro e
    rw [List.take_eq_nil_iff] at e
    rcases e with e | e
    · cases e
    · exact hne e
  | cons y ys =>
    have e3 := fun G => ne_nil_sds (y :: ys) G
    rw [List.map_cons, List.isEmpty_cons] at e3
    push_cast [e3, tup_lst]
    subst_eqs
    exact drK_of hj1 ⟨y :: ys, by simp, hsub, rfl⟩ (by rw [D.clean]; exact cl_sds _ _)
theorem lst_last {ks : List W} (h : ks ≠ []) (G : List C) : idxD (.lst (ks.map sd)) (.int (-1)) G = some (sd (ks.getLast h)) := by
  have hp : 0 < ks.length := List.length_pos_iff.mpr h
  have : atI (ks.map sd) (-1) = some (sd (ks.getLast h)) := by
    unfold atI ixN
    rw [if_neg (by decide), if_pos (by rw [List.length_map]; omega)]
    show (ks.map sd)[((-1 : Int) + ((ks.map sd).length : Int)).toNat]? = _
    rw [List.length_map, show ((-1 : Int) + (ks.length : Int)).toNat = ks.length - 1 by omega, List.getElem?_map, ← List.getLast?_eq_getElem?, List.getLast?_eq_some_getLast h]
    rfl
  exact this
theorem rev_lst {xs : List D} (h : xs.length ≤ 100000) (G : List C) : mkL false xs.reverse G = some (.lst xs.reverse, G) := mkL_small (by rw [List.length_reverse]; exact h)
theorem list_ops (T : Tab) (hl : T.ops.length ≤ 1000) (G : List C) : biD .list false [opsD T] G = some (.lst ((T.ops.map (·.1)).map sd), G) := by
  show mkL false (T.ops.map fun p => sd p.1) G = _
  rw [mkL_small (by rw [List.length_map]; omega), List.map_map]
  rfl
theorem list_lst {xs : List D} (hl : xs.length ≤ 1000) (G : List C) : biD .list false [.lst xs] G = some (.lst xs, G) := mkL_small (by omega)
theorem list_tup {xs : List D} (hl : xs.length ≤ 1000) (G : List C) : biD .list false [.tup xs] G = some (.lst xs, G) := mkL_small (by omega)
theorem Vl.lsds (ws : List W) : Vl (.lst (ws.map sd)) := .lst (plains_sds ws) (by rw [depths_sds]; exact Nat.zero_le _)
theorem d_odd {T : Tab} (h : T.Ok) : Dr PT wf 3 "_law_odd" [web T] Vl := by
  have hne := ok_ne h
  have h8 := h.nk.2
  have h3 := h.no.2
  refine Dr.ofW (F := F__law_odd) rfl rfl (by simp only [D.cleans, cl_web, Bool.and_true]) rfl fun m hm j hj => ?_
  obtain ⟨k0, kr, hk⟩ : ∃ k0 kr, T.kinds = k0 :: kr := by
    cases e : T.kinds with
    | nil => exact absurd e hne
    | cons a b => exact ⟨a, b, rfl⟩
  have e1 : ∀ G, idxD (.lst (T.kinds.map sd)) (.int 0) G = some (sd k0) := fun G => by rw [hk]; exact atl0 _ _ G
  have e2 := fun G => lst_last hne G
  have hkl : (T.kinds.getLast hne).length ≤ 100000 := (h.knm (List.getLast_mem hne)).l1000
  generalize T.kinds.getLast hne = kl at *
  have e3 := fun c G => add_sd (a := kl) (b := [33]) hkl (by decide) c G
  (simp only [F__law_odd, en0, List.map_cons, List.map_nil, List.length_cons, List.length_nil, Nat.reduceAdd, Nat.reduceSub, Nat.zero_add, List.replicate, List.cons_append, List.nil_append]; ac_rfl)
  push_cast [web_kinds, e1, e2, e3, Int.reduceNeg]
  subst_eqs
  have n1 := fun G => list_lst (xs := T.kinds.map sd) (by rw [List.length_map]; omega) G
  have n2 := fun G => rev_lst (xs := T.kinds.map sd) (by rw [List.length_map]; omega) G
  have n3 := fun G => list_ops T (by omega) G
  obtain ⟨o0, or, ho⟩ : ∃ o0 orr, T.ops.map (·.1) = o0 :: orr := by
    cases e : T.ops.map (·.1) with
    | nil =>
      have h1 := h.no.1
      rw [← List.length_map (f := (·.1)), e] at h1
      exact absurd h1 (by decide)
    | cons a b => exact ⟨a, b, rfl⟩
  rw [ho, List.map_cons] at n3
  push_cast [web_kinds, web_ops, n1, n2, n3, tup_lst, atl0]
  rw [cat_lst (by simp)]
  push_cast
  (generalize hz : cfOf _ _ _ false _ (D.cell _ :: _) _ = z); obtain ⟨d4, j4, hj4, hd4, rfl⟩ := Dr.gen (d_any (wf := wf) (by simp) (by simp) (by simp only [List.cons_append, List.nil_append, D.cleans, D.clean, Bool.and_true, cl_sds, ← List.map_reverse])) (by omega) (by assumption) rfl hz; clear hz
  push_cast
  subst_eqs
  have hv : Vl d4 := by
    simp only [List.cons_append, List.nil_append, List.mem_cons, List.not_mem_nil, or_false, ← List.map_reverse] at hd4
    rcases hd4 with rfl | rfl | rfl | rfl | rfl | rfl | rfl | rfl | rfl | rfl | rfl | rfl | rfl | rfl | rfl | rfl | rfl | rfl
    · exact .non
    · exact .bl _
    · exact .int _
    · exact .str _
    · exact .str _
    · exact .str _
    · exact .str _
    · exact .str _
    · exact .sds []
    · exact .lsds []
    · exact .dic rfl
    · exact .sds [_]
    · exact .str _
    · exact .str _
    · exact .lsds _
    · exact .sds _
    · exact .sds _
    · exact .str _
  exact drK_of hj4 hv hv.clean

theorem sl_tup (xs : List D) (lo hi : Option Int) (G : List C) : sliceD false (.tup xs) lo hi G = some (.tup (Iv.cutD xs lo hi), G) := rfl
theorem cut_sds (ws : List W) (lo hi : Option Int) : ∃ vs : List W, vs.length ≤ ws.length ∧ Iv.cutD (ws.map sd) lo hi = vs.map sd := by
  unfold Iv.cutD
  rw [← List.map_drop, ← List.map_take]
  exact ⟨_, by rw [List.length_take, List.length_drop]; omega, rfl⟩
theorem cat_tup {xs ys : List D} (h : xs.length + ys.length ≤ 100000) (G : List C) : binD .add false (.tup xs) (.tup ys) G = some (.tup (xs ++ ys), G) := by
  show (if xs.length + ys.length ≤ sizeLine then some (D.tup (xs ++ ys), G) else none) = _
  rw [if_pos (Nat.le_trans h (by decide))]
theorem d_bent_lot {T : Tab} (h : T.Ok) {ws : List W} (hw : ws.length ≤ 100) : Dr PT wf 3 "_law_bent_lot" [web T, .tup (ws.map sd)] Vl := by
  refine Dr.ofW (F := F__law_bent_lot) rfl rfl (by simp only [D.cleans, D.clean, cl_web, cl_sds, Bool.and_true]) rfl fun m hm j hj => ?_
  have ka := l_all (wf := wf) h m (by omega)
  have hol := outs_len h
  (simp only [F__law_bent_lot, en0, List.map_cons, List.map_nil, List.length_cons, List.length_nil, Nat.reduceAdd, Nat.reduceSub, Nat.zero_add, List.replicate, List.cons_append, List.nil_append]; ac_rfl)
  push_cast
  (generalize hz : cfOf _ _ _ false _ (D.cell _ :: _) _ = z); obtain ⟨d1, j1, hj1, hd1, rfl⟩ := Dr.gen (d_scoop (wf := wf) (n := 6) (by decide) (by decide)) (by omega) (by assumption) rfl hz; clear hz
  obtain ⟨w, hw6, rfl⟩ := hd1
  have e1 : (((ws.map sd).length : Nat) : Int) + 1 = ((ws.length + 1 : Nat) : Int) := by rw [List.length_map]; omega
  push_cast [bi_len_tup, e1]
  (generalize hz : cfOf _ _ _ false _ (D.cell _ :: _) _ = z); obtain ⟨d2, j2, hj2, hd2, rfl⟩ := Dr.gen (d_scoop (wf := wf) (n := ws.length + 1) (by omega) (by omega)) (by omega) (by assumption) rfl hz; clear hz
  obtain ⟨at_, hat, rfl⟩ := hd2
  push_cast [ka]
  subst_eqs
  push_cast
  subst_eqs
  refine ifK_bl (fun c => ?_) (fun c0 => ?_)
  · ac_rfl
    obtain ⟨v1, l1, q1⟩ := cut_sds ws none (some (at_ : Int))
    obtain ⟨v2, l2, q2⟩ := cut_sds ws (some ((at_ : Int) + 1)) none
    push_cast [sl_tup, q1, q2]
    rw [cat_tup (by rw [List.length_map, List.length_map]; omega), ← List.map_append]
    subst_eqs
    exact drK_of hj2 (.sds _) (by rw [D.clean]; exact cl_sds _ _)
  · ac_rfl
    push_cast
    subst_eqs
    refine ifK_bl (fun c => ?_) (fun c1 => ?_)
    · ac_rfl
      push_cast
      (generalize hz : cfOf _ _ _ false _ (D.cell _ :: _) _ = z); obtain ⟨d3, j3, hj3, hd3, rfl⟩ := Dr.gen (d_any (wf := wf) (xs := T.outs.map O.d) (by unfold Tab.outs; simp) (by rw [List.length_map]; omega) (cl_os _ _)) (by omega) (by assumption) rfl hz; clear hz
      obtain ⟨o, ho, rfl⟩ := List.mem_map.mp hd3
      push_cast
      subst_eqs
      push_cast
      generalize hL : compL _ _ _ = L
      obtain rfl : L = some ((T.outs.filter fun z => decide (z.w ∈ ws) || decide (z.w = o.w)).map O.d, [j3.C]) := by
        rw [← hL]
        refine compL_filter fun z hz => ?_
        have i1 := fun G => in_sds ws z.w G
        cases e : decide (z.w ∈ ws)
        · rw [e] at i1
          cases e2 : decide (z.w = o.w) <;> push_cast [stC, i1, e2]
        · rw [e] at i1
          push_cast [stC, i1]
      have hz2 := List.length_filter_le (fun z => decide (z.w ∈ ws) || decide (z.w = o.w)) T.outs
      push_cast [mkL_small (xs := (T.outs.filter fun z => decide (z.w ∈ ws) || decide (z.w = o.w)).map O.d) (by simp only [List.length_map]; omega), tup_lst]
      subst_eqs
      rw [map_od]
      exact drK_of hj3 (.sds _) (by rw [D.clean]; exact cl_sds _ _)
    · ac_rfl
      push_cast
      subst_eqs
      refine ifK_bl (fun c => ?_) (fun c2 => ?_)
      · ac_rfl
        obtain ⟨v1, l1, q1⟩ := cut_sds ws none (some 1)
        obtain ⟨v2, l2, q2⟩ := cut_sds ws (some (at_ : Int)) none
        obtain ⟨v3, l3, q3⟩ := cut_sds ws none (some (at_ : Int))
        have t1 := fun G => cat_tup (xs := ws.map sd) (ys := v1.map sd) (by rw [List.length_map, List.length_map]; omega) G
        have t2 := fun G => cat_tup (xs := ws.map sd) (ys := [sd [122, 122]]) (by rw [List.length_map]; simp; omega) G
        have t3 := fun G => cat_tup (xs := v2.map sd) (ys := v3.map sd) (by rw [List.length_map, List.length_map]; omega) G
        have n1 := fun G => list_tup (xs := ws.map sd) (by rw [List.length_map]; omega) G
        rw [← List.map_append] at t1 t3
        rw [show ws.map sd ++ [sd [122, 122]] = (ws ++ [[122, 122]]).map sd by simp] at t2
        push_cast [sl_tup, q1, q2, q3, t1, t2, t3, n1, ← List.map_reverse]
        (generalize hz : cfOf _ _ _ false _ (D.cell _ :: _) _ = z); obtain ⟨d4, j4, hj4, hd4, rfl⟩ := Dr.gen (d_any (wf := wf) (by simp) (by simp) (by simp only [D.cleans, D.clean, cl_sds, Bool.and_true])) (by omega) (by assumption) rfl hz; clear hz
        push_cast
        subst_eqs
        have hv : Vl d4 := by
          simp only [List.mem_cons, List.not_mem_nil, or_false] at hd4
          rcases hd4 with rfl | rfl | rfl | rfl | rfl | rfl | rfl | rfl | rfl
          · exact .lsds _
          · exact .non
          · exact .sds []
          · exact .sds _
          · exact .sds _
          · exact .sds _
          · exact .sds _
          · exact .str _
          · exact .int _
        exact drK_of hj4 hv hv.clean
      · ac_rfl
        push_cast
        cases decide ((w : Int) = 3)
        · push_cast
          subst_eqs
          exact drK_of hj2 (.sds _) (by rw [D.clean]; exact cl_sds _ _)
        · push_cast [tup_lst]
          subst_eqs
          rw [map_od]
          exact drK_of hj2 (.sds _) (by rw [D.clean]; exact cl_sds _ _)

theorem dups_nodup (l : List Str) : l.eraseDups.Nodup := by
  suffices h : ∀ n (l : List Str), l.length ≤ n → l.eraseDups.Nodup from h _ l (Nat.le_refl _)
  intro n
  induction n with
  | zero =>
    intro l hl
    rw [List.length_eq_zero_iff.mp (Nat.le_zero.mp hl)]
    simp
  | succ n ih =>
    intro l hl
    cases l with
    | nil => simp
    | cons x l =>
      rw [List.eraseDups_cons, List.nodup_cons]
      constructor
      · intro hm
        rw [List.mem_eraseDups] at hm
        have := (List.mem_filter.mp hm).2
        simp at this
      · refine ih _ ?_
        have := List.length_filter_le (fun b => !b == x) l
        simp only [List.length_cons] at hl
        omega
/-- sorted(set(..)) -/
def srtD (ws : List W) : List D := ((ws.map S).eraseDups.mergeSort (fun a b => !decide (b.cps.toList < a.cps.toList))).map .str
theorem pick_os {os : List O} : ∀ {L : List Str}, (∀ s ∈ L, ∃ o ∈ os, s = S o.w) → ∃ zs : List O, (∀ z ∈ zs, z ∈ os) ∧ L.map D.str = zs.map O.d
  | [], _ => ⟨[], (fun _ h => by cases h), rfl⟩
  | s :: L, h => by
    obtain ⟨o, ho, rfl⟩ := h s (List.mem_cons_self ..)
    obtain ⟨zs, h1, h2⟩ := pick_os fun t ht => h t (List.mem_cons_of_mem _ ht)
    refine ⟨o :: zs, fun z hz => ?_, by rw [List.map_cons, h2]; rfl⟩
    rcases List.mem_cons.mp hz with rfl | hz
    · exact ho
    · exact h1 z hz
theorem srt_os {T : Tab} (h : T.Ok) {os : List O} (hs : ∀ o ∈ os, o ∈ T.outs) : ∃ zs : List O, (∀ z ∈ zs, z ∈ os) ∧ zs.length ≤ 17 ∧ srtD (os.map O.w) = zs.map O.d := by
  have hm : ∀ s ∈ ((os.map O.w).map S).eraseDups.mergeSort (fun a b => !decide (b.cps.toList < a.cps.toList)), ∃ o ∈ os, s = S o.w := by
    intro s hs'
    rw [List.mem_mergeSort, List.mem_eraseDups, List.map_map] at hs'
    obtain ⟨o, ho, e⟩ := List.mem_map.mp hs'
    exact ⟨o, ho, e.symm⟩
  obtain ⟨zs, h1, h2⟩ := pick_os hm
  refine ⟨zs, h1, ?_, h2⟩
  have hl := congrArg List.length h2
  rw [List.length_map, List.length_map, List.length_mergeSort] at hl
  rw [← hl]
  have := sub_len (b := T.outs.map fun o => S o.w) (dups_nodup ((os.map O.w).map S)) fun s hs' => by
    rw [List.mem_eraseDups, List.map_map] at hs'
    obtain ⟨o, ho, rfl⟩ := List.mem_map.mp hs'
    exact List.mem_map.mpr ⟨o, hs o ho, rfl⟩
  rw [List.length_map] at this
  exact Nat.le_trans this (outs_len h)
theorem ev_sorted {cf : CF} {ρ : En} {G : List C} {a : E} {ws : List W} (h : evE cf a ρ G = some (.lst (ws.map sd), G)) (hl : ws.length < 1000) : evE cf (.sortSet false a) ρ G = some (.lst (srtD ws), G) := by
  rw [ev_sortSet, h]
  show (match strsOf (ws.map sd) with
        | some ys => if ys.length < 1000 then mkL false ((ys.eraseDups.mergeSort (fun a b => !decide (b.cps.toList < a.cps.toList))).map .str) G else none
        | none => none) = _
  rw [strs_sds]
  show (if (ws.map S).length < 1000 then mkL false (srtD ws) G else none) = _
  rw [if_pos (by rw [List.length_map]; exact hl), mkL_small]
  unfold srtD
  have := (dups_len (ws.map S)).1
  rw [List.length_map] at this
  rw [List.length_map, List.length_mergeSort]
  omega
def cnt (T : Tab) (os : List O) : Nat := (T.outs.filter fun o => decide (o ∈ os)).length
theorem filter_mono {α : Type} {p q : α → Bool} : ∀ {xs : List α}, (∀ x ∈ xs, p x = true → q x = true) → (xs.filter p).length ≤ (xs.filter q).length
  | [], _ => Nat.le_refl _
  | x :: xs, h => by
    have ih := filter_mono (p := p) (q := q) fun y hy => h y (List.mem_cons_of_mem _ hy)
    have := h x (List.mem_cons_self ..)
    rw [List.filter_cons, List.filter_cons]
    cases hp : p x
    · cases hq : q x
      · exact ih
      · exact Nat.le_succ_of_le ih
    · rw [this hp]
      exact Nat.succ_le_succ ih
theorem filter_lt {α : Type} {p q : α → Bool} : ∀ {xs : List α}, (∀ x ∈ xs, p x = true → q x = true) → (∃ x ∈ xs, q x = true ∧ p x = false) → (xs.filter p).length + 1 ≤ (xs.filter q).length
  | [], _, ⟨_, h, _⟩ => by cases h
  | x :: xs, h, ⟨y, hy, h1, h2⟩ => by
    have ih := filter_mono (p := p) (q := q) (xs := xs) fun y hy => h y (List.mem_cons_of_mem _ hy)
    have hx := h x (List.mem_cons_self ..)
    rw [List.filter_cons, List.filter_cons]
    rcases List.mem_cons.mp hy with rfl | hy
    · rw [h1, h2]
      exact Nat.succ_le_succ ih
    · have ih2 := filter_lt (p := p) (q := q) (xs := xs) (fun y hy => h y (List.mem_cons_of_mem _ hy)) ⟨y, hy, h1, h2⟩
      cases hp : p x
      · cases hq : q x
        · exact ih2
        · exact Nat.le_succ_of_le ih2
      · rw [hx hp]
        exact Nat.succ_le_succ ih2
theorem cnt_le {T : Tab} (h : T.Ok) (os : List O) : cnt T os ≤ 17 := Nat.le_trans (List.length_filter_le _ _) (outs_len h)
theorem cnt_add {T : Tab} {os zs : List O} (hz : ∀ z ∈ zs, z ∈ T.outs ∧ z ∉ os) (hl : zs.length ≤ 17) : zs.length + 17 * cnt T os ≤ 17 * cnt T (os ++ zs) := by
  cases zs with
  | nil => simp
  | cons z zs =>
    have : cnt T os + 1 ≤ cnt T (os ++ z :: zs) := by
      refine filter_lt (fun x _ hx => ?_) ⟨z, (hz z (List.mem_cons_self ..)).1, ?_, ?_⟩
      · rw [decide_eq_true_eq] at hx ⊢
        exact List.mem_append_left _ hx
      · simp
      · exact decide_eq_false (hz z (List.mem_cons_self ..)).2
    have := Nat.mul_le_mul_left 17 this
    omega
theorem cat_os {os zs : List O} (h : os.length + zs.length ≤ 1000) (G : List C) : binD .add false (.lst (os.map O.d)) (.lst (zs.map O.d)) G = some (.lst ((os ++ zs).map O.d), G) := by
  rw [cat_lst (by rw [List.length_append, List.length_map, List.length_map]; omega), List.map_append]
theorem in_osl {T : Tab} (h : T.Ok) {os : List O} (hs : ∀ o ∈ os, o ∈ T.outs) {o : O} (ho : o ∈ T.outs) (G : List C) : inD o.d (.lst (os.map O.d)) G = some (decide (o ∈ os)) := by
  rw [map_od]
  refine (in_lst _ _ G).trans ?_
  congr 1
  exact decide_eq_decide.mpr (mem_w h hs ho)

theorem mul_r {j : Int} (h : -big < j ∧ j < big) (c : Bool) (i : Int) (G : List C) : binD .mul c (.int i) (.int j) G = some (.int (i * j), G) := by
  show (if (-big < i ∧ i < big) ∨ (-big < j ∧ j < big) then some (D.int (i * j), G) else none) = _
  rw [if_pos (.inr h)]
theorem wls_len (xs : List D) (c : Bool) (G : List C) : biD .len c [.wls xs] G = some (.int xs.length, G) := rfl
theorem wls_cut {xs : List D} (n : Nat) (h : xs.length ≤ 1000) (G : List C) : sliceD false (.wls xs) none (some (n : Int)) G = some (.lst (xs.take n), G) := by
  show mkL false (Iv.cutD xs none (some (n : Int))) G = _
  have : Iv.cutD xs none (some (n : Int)) = xs.take n := by
    unfold Iv.cutD
    rw [HT.sIx_nat]
    have : HT.sIx xs.length 0 none = 0 := by simp [HT.sIx]
    rw [this, List.drop_zero, Nat.sub_zero, ← List.take_eq_take_min]
  rw [this, mkL_small (by rw [List.length_take]; omega)]
theorem wls_at {xs : List D} {i : Nat} (h : i < xs.length) (G : List C) : idxD (.wls xs) (.int i) G = some xs[i] := at_nat h
theorem bi_abs (c : Bool) (i : Int) (G : List C) : biD .abs c [.int i] G = some (.int (if i < 0 then -i else i), G) := rfl
theorem pow18 (c : Bool) (G : List C) : binD .pow c (.int 10) (.int 18) G = some (.int (10 ^ 18), G) := rfl
theorem cl_ints (k : Nat) (ns : List Int) : D.cleans k (ns.map D.int) = true := clean_map fun _ _ => rfl
theorem l_jar {ns : List Int} (hl : ns.length ≤ 63) {k m : Nat} (hm : 1 ≤ m) (G : List C) : ∃ j : J, j.Ok ∧ cfOf PT wf m false "_law_jar" [.wls (ns.map .int), .int k] G = some (.cell G.length, G ++ [j.C]) := by
  obtain ⟨m, rfl⟩ : ∃ m', m = m' + 1 := ⟨m - 1, by omega⟩
  have key : wS (cfOf PT wf m) wf F__law_jar.body (en0 F__law_jar [.wls (ns.map .int), .int k]) [] (retK fun d G1 => ∃ j : J, j.Ok ∧ d = .cell 0 ∧ G1 = [j.C]) := by
    have hxl : (ns.map D.int).length = ns.length := List.length_map ..
    have h0 : ∀ i : Nat, i < ns.length → ∃ z : Int, ∀ G, idxD (.wls (ns.map .int)) (.int i) G = some (.int z) := fun i hi => ⟨ns[i], fun G => by rw [wls_at (by rw [hxl]; exact hi), List.getElem_map]⟩
    have h1 := fun G => wls_cut (xs := ns.map D.int) 6 (by omega) G
    have hM : (0 : Int) < 2147483353 := by decide
    (simp only [F__law_jar, en0, List.map_cons, List.map_nil, List.length_cons, List.length_nil, Nat.reduceAdd, Nat.reduceSub, Nat.zero_add, List.replicate, List.cons_append, List.nil_append]; ac_rfl)
    push_cast [mul_l (i := 3307) (by decide)]
    subst_eqs
    have h1' : ∀ G, sliceD false (.wls (ns.map .int)) none (some 6) G = some (.lst ((ns.map D.int).take 6), G) := h1
    rw [← List.map_take] at h1'
    push_cast [h1']
    subst_eqs
    refine forQ_nil (it_lst _ _ _) ?_
    refine wLp_run (fun _ ρ G => G = [] ∧ ∃ (z : Int) (x3 : Option D), ρ = [some (.wls (ns.map .int)), some (.int k), some (.int z), x3, none]) ⟨rfl, _, _, rfl⟩ ?_ ?_
    · rintro dn x rest er ρ G ⟨rfl, z, x3, rfl⟩
      and_intros
      push_cast [bi_int, mul_r (j := 48029) (by decide), mod_p hM]
      subst_eqs
      exact ⟨rfl, _, _, rfl⟩
    · rintro ρ G ⟨rfl, z, x3, rfl⟩
      ac_rfl
      push_cast [wls_len, hxl]
      obtain ⟨own, ho⟩ : ∃ own : Int, (∀ (c : (k : Int) < ns.length) G, idxD (.wls (ns.map .int)) (.int k) G = some (.int own)) ∧ (¬ (k : Int) < ns.length → own = z) := by
        by_cases c : (k : Int) < ns.length
        · obtain ⟨y, hy⟩ := h0 k (by omega)
          exact ⟨y, fun _ => hy, fun h => absurd c h⟩
        · exact ⟨z, fun h => absurd h c, fun _ => rfl⟩
      obtain ⟨ho1, ho2⟩ := ho
      have last : ∀ ρ, ρ = [some (.wls (ns.map .int)), some (.int k), some (.int z), x3, some (.int own)] → wS (cfOf PT wf m) wf (match F__law_jar.body with | .seq _ (.seq _ (.seq _ s)) => s | _ => .skip) ρ [] (retK fun d G1 => ∃ j : J, j.Ok ∧ d = .cell 0 ∧ G1 = [j.C]) := by
        rintro ρ rfl
        simp only [F__law_jar]
        ac_rfl
        by_cases c : (10 ^ 18 : Int) ≤ (if own < 0 then -own else own)
        · push_cast [bi_abs, pow18, bi_int, mul_r (j := 41017) (by decide), mod_p hM, c, mkL_true (xs := [D.int (if own < 0 then -own else own), D.int ((z * 41017 + own) % 2147483353), D.int 0]) (by simp)]
          subst_eqs
          refine ⟨⟨_, _, 0⟩, ⟨?_, Int.emod_nonneg _ (by decide), Int.emod_lt_of_pos _ hM⟩, rfl, rfl⟩
          exact Int.le_trans (by decide) c
        · push_cast [bi_abs, pow18, bi_int, mul_r (j := 41017) (by decide), mod_p hM, c, mkL_true (xs := [D.int 0, D.int ((z * 41017 + own) % 2147483353), D.int 0]) (by simp)]
          subst_eqs
          exact ⟨⟨_, _, 0⟩, ⟨Int.le_refl _, Int.emod_nonneg _ (by decide), Int.emod_lt_of_pos _ hM⟩, rfl, rfl⟩
      by_cases c : (k : Int) < ns.length
      · push_cast [c, ho1 c, bi_int]
        refine ⟨_, _, rfl, hK _ _ ?_⟩
        refine asgK_var (by simp only [List.set_cons_succ, List.set_cons_zero]) (seqK_nx (last _ rfl))
      · have := ho2 c
        subst this
        push_cast [c]
        refine ⟨_, _, rfl, hK _ _ ?_⟩
        refine asgK_var (by simp only [List.set_cons_succ, List.set_cons_zero]) (seqK_nx (last _ rfl))
  obtain ⟨d, G1, e, j, hj, rfl, rfl⟩ := rv_of key
  refine ⟨j, hj, ?_⟩
  unfold cfOf
  have hF : findF PT "_law_jar" = some F__law_jar := rfl
  rw [hF]
  have hc : D.cleans 0 [.wls (ns.map .int), .int (k : Int)] = true := by simp only [D.cleans, D.clean, cl_ints, Bool.and_true]
  have hr : call PT wf (m + 1) "_law_jar" [.wls (ns.map .int), .int (k : Int)] [] = some (.cell 0, [j.C]) := by
    rw [call_succ, hF]
    show runF _ wf F__law_jar _ [] = _
    rw [runF_rv rfl e]
    rfl
  show viewC F__law_jar (call PT wf (m + 1) "_law_jar") _ G = _
  unfold viewC
  rw [if_neg (by decide), if_pos hc, hr]
  rfl

theorem ne_same (x : Str) (G : List C) : cmpD .ne (.str x) (.str x) G = some false := by
  show (if eqOk (.str x) (.str x) = true then some (!eqD (.str x) (.str x)) else none) = _
  refine Eq.trans (if_pos rfl) ?_
  rw [eqD]
  simp
theorem repr_bl (b : Bool) (c : Bool) (G : List C) : biD .repr c [.bl b] G = some (.str (if b then "True" else "False"), G) := rfl
theorem any_ops {T : Tab} (h : T.Ok) : Dr PT wf 2 "_law_any" [.lst ((T.ops.map (·.1)).map sd)] (fun d => ∃ n f, T.op n = some f ∧ d = sd n) := by
  have h1 := h.no
  intro m hm j hj n G hG
  obtain ⟨d, j', hj', hd, e⟩ := d_any (wf := wf) (xs := (T.ops.map (·.1)).map sd) (by
    intro e
    rw [List.map_eq_nil_iff, List.map_eq_nil_iff] at e
    rw [e] at h1
    exact absurd h1.1 (by decide)) (by rw [List.length_map, List.length_map]; omega) (cl_sds _ _) m hm j hj n G hG
  obtain ⟨w, hw, rfl⟩ := List.mem_map.mp hd
  obtain ⟨p, hp, rfl⟩ := List.mem_map.mp hw
  exact ⟨_, j', hj', ⟨_, _, op_of h hp, rfl⟩, e⟩
/-- one of some values of any kind -/
theorem any_Vl {xs : List D} (h0 : xs ≠ []) (h1 : xs.length ≤ 100000) (hv : ∀ x ∈ xs, Vl x) : Dr PT wf 2 "_law_any" [.lst xs] Vl := by
  have hc : D.cleans 0 xs = true := by
    clear h0 h1
    induction xs with
    | nil => rfl
    | cons x xs ih =>
      rw [D.cleans, (hv x (List.mem_cons_self ..)).clean, ih fun y hy => hv y (List.mem_cons_of_mem _ hy)]
      rfl
  intro m hm j hj n G hG
  obtain ⟨d, j', hj', hd, e⟩ := d_any (wf := wf) h0 h1 hc m hm j hj n G hG
  exact ⟨d, j', hj', hv d hd, e⟩
theorem vl_nil : ∀ y ∈ ([] : List D), Vl y := fun _ h => by cases h
theorem vl_cons {x : D} {xs : List D} (h : Vl x) (t : ∀ y ∈ xs, Vl y) : ∀ y ∈ x :: xs, Vl y := fun y hy => by
  rcases List.mem_cons.mp hy with rfl | hy
  · exact h
  · exact t y hy
theorem all_true {ds : List D} (h : ∀ d ∈ ds, d = .bl true) : ds = (List.replicate ds.length true).map D.bl := by
  induction ds with
  | nil => rfl
  | cons d ds ih => rw [List.length_cons, List.replicate_succ, List.map_cons, ← ih fun x hx => h x (List.mem_cons_of_mem _ hx), h d (List.mem_cons_self ..)]

theorem w_turns {T : Tab} (h : T.Ok) {n : W} {f : W → W → O} (hf : T.op n = some f) {s a b : O} (hs : s ∈ T.outs) (ha : a ∈ T.outs) (hb : b ∈ T.outs) : Con PT wf 3 "_law_turns" [web T, sd n, s.d, a.d, b.d] (.bl (turnsF f s a b)) := by
  refine Con.of0 (F := F__law_turns) rfl rfl (by simp only [D.cleans, D.clean, cl_web, Bool.and_true]) rfl rfl fun m hm => ?_
  simp only [F__law_turns]
  have m1 := joinF_mem h hf hs ha
  have m2 := joinF_mem h hf hs hb
  have k1 := l_both (wf := wf) h hf hs ha m (by omega)
  have k2 := l_both (wf := wf) h hf hs hb m (by omega)
  have k3 := l_both (wf := wf) h hf m1 hb m (by omega)
  have k4 := l_both (wf := wf) h hf m2 ha m (by omega)
  push_cast [k1, k2, k3, k4, turnsF, eq_o h (joinF_mem h hf m1 hb) (joinF_mem h hf m2 ha)]
def foldsLaw (f : W → W → O) (lv os : List O) : Bool :=
  (lv.all fun l => decide (l ∈ os)) && lv.all fun near => (os.all fun s => decide (joinF f s near ∈ os)) && lv.all fun far => dJ f near far && os.all fun s => !turnsF f s near far
theorem folds_same (f : W → W → O) (lv os : List O) : foldsLaw f lv os = foldsLot f lv os := by
  unfold foldsLaw foldsLot swapsF
  rw [Bool.eq_iff_iff]
  simp only [Bool.and_eq_true, List.all_eq_true, Bool.not_eq_true', List.any_eq_false, Bool.not_eq_true]
  constructor
  · rintro ⟨h1, h2⟩
    refine ⟨⟨h1, fun a ha b hb => ((h2 a ha).2 b hb).1⟩, fun s hs => ⟨fun l hl => (h2 l hl).1 s hs, fun a ha b hb => ((h2 a ha).2 b hb).2 s hs⟩⟩
  · rintro ⟨⟨h1, h2⟩, h3⟩
    exact ⟨h1, fun a ha => ⟨fun s hs => (h3 s hs).1 a ha, fun b hb => ⟨h2 a ha b hb, fun s hs => (h3 s hs).2 a ha b hb⟩⟩⟩
theorem l_folds_by {T : Tab} (h : T.Ok) {n : W} {f : W → W → O} (hf : T.op n = some f) {lv : List O} (hs : ∀ o ∈ lv, o ∈ T.outs) (hl : lv.length ≤ 30) {lot : D} (hv : Vl lot) :
    Con PT wf 4 "_law_folds_by" [web T, sd n, .tup (lv.map O.d), lot] (.bl (isLot T lot && foldsLot f lv (osOf lot))) := by
  rw [← folds_same]
  refine Con.of0 (F := F__law_folds_by) rfl rfl (by simp only [D.cleans, D.clean, cl_web, cl_os, hv.clean, Bool.and_true]) rfl rfl fun m hm => ?_
  simp only [F__law_folds_by]
  have k1 := l_is_lot (wf := wf) h hv m (by omega)
  cases e : isLot T lot
  · push_cast [k1, e]
  · obtain ⟨hlot, hm2, hfil⟩ := isLot_os h e
    have hosl : (osOf lot).length ≤ 17 := by
      rw [hfil]
      exact Nat.le_trans (List.length_filter_le _ _) (outs_len h)
    generalize osOf lot = os at *
    subst hlot
    have kj : ∀ a ∈ T.outs, ∀ b ∈ T.outs, ∀ G, cfOf PT wf m false "_law_both" [web T, sd n, a.d, b.d] G = some ((joinF f a b).d, G) := fun a ha b hb => l_both h hf ha hb m (by omega)
    have kt : ∀ s ∈ os, ∀ a ∈ lv, ∀ b ∈ lv, ∀ G, cfOf PT wf m false "_law_turns" [web T, sd n, s.d, a.d, b.d] G = some (.bl (turnsF f s a b), G) := fun s hs' a ha b hb => w_turns h hf (hm2 s hs') (hs a ha) (hs b hb) m (by omega)
    push_cast [k1, e]
    generalize hL : compL _ _ _ = L
    obtain rfl : L = some ((lv.filter fun l => !decide (l ∈ os)).map O.d, []) := by
      rw [← hL]
      refine compL_filter fun a ha => ?_
      push_cast [stC, in_os h hm2 (hs a ha)]
      cases decide (a ∈ os) <;> rfl
    have hz1 := List.length_filter_le (fun l => !decide (l ∈ os)) lv
    push_cast [mkL_small (xs := (lv.filter fun l => !decide (l ∈ os)).map O.d) (by simp only [List.length_map]; omega), ne_nil_od, filter_emp, Bool.not_not, foldsLaw]
    cases e1 : lv.all fun l => decide (l ∈ os)
    · push_cast
    · push_cast
      generalize hL : loopS _ _ _ _ = L
      obtain ⟨ρ1, G1, rfl, rfl, x, y, z, u, rfl⟩ : ∃ ρ1 G1, L = some (if (lv.any fun near => !((os.all fun s => decide (joinF f s near ∈ os)) && lv.all fun far => dJ f near far && os.all fun s => !turnsF f s near far)) = true then .ret (.bl false) else .nx, ρ1, G1) ∧ G1 = [] ∧ ∃ x y z u, ρ1 = [some (web T), some (sd n), some (.tup (lv.map O.d)), some (.tup (os.map O.d)), x, y, z, u] := by
        rw [← hL]
        refine loopS_find (I := fun ρ1 G1 => G1 = [] ∧ ∃ x y z u, ρ1 = [some (web T), some (sd n), some (.tup (lv.map O.d)), some (.tup (os.map O.d)), x, y, z, u]) ⟨rfl, _, _, _, _, rfl⟩ ?_
        rintro near hn ρ G ⟨rfl, x, y, z, u, rfl⟩
        push_cast [stF]
        generalize hL : compL _ _ _ = L
        obtain rfl : L = some ((os.filter fun s => !decide (joinF f s near ∈ os)).map O.d, []) := by
          rw [← hL]
          refine compL_filter fun s hs' => ?_
          have j1 := kj s (hm2 s hs') near (hs near hn)
          push_cast [stC, j1, in_os h hm2 (joinF_mem h hf (hm2 s hs') (hs near hn))]
          cases decide (joinF f s near ∈ os) <;> rfl
        have hz2 := List.length_filter_le (fun s => !decide (joinF f s near ∈ os)) os
        push_cast [mkL_small (xs := (os.filter fun s => !decide (joinF f s near ∈ os)).map O.d) (by simp only [List.length_map]; omega), ne_nil_od, filter_emp, Bool.not_not]
        cases e2 : os.all fun s => decide (joinF f s near ∈ os)
        · push_cast
          exact ⟨_, _, rfl, rfl, _, _, _, _, rfl⟩
        · push_cast
          generalize hL : loopS _ _ _ _ = L
          obtain ⟨ρ1, G1, rfl, rfl, y', z', u', rfl⟩ : ∃ ρ1 G1, L = some (if (lv.any fun far => !(dJ f near far && os.all fun s => !turnsF f s near far)) = true then .ret (.bl false) else .nx, ρ1, G1) ∧ G1 = [] ∧ ∃ y z u, ρ1 = [some (web T), some (sd n), some (.tup (lv.map O.d)), some (.tup (os.map O.d)), some near.d, y, z, u] := by
            rw [← hL]
            refine loopS_find (I := fun ρ1 G1 => G1 = [] ∧ ∃ y z u, ρ1 = [some (web T), some (sd n), some (.tup (lv.map O.d)), some (.tup (os.map O.d)), some near.d, y, z, u]) ⟨rfl, _, _, _, rfl⟩ ?_
            rintro far hr ρ G ⟨rfl, y, z, u, rfl⟩
            have j1 := kj near (hs near hn) far (hs far hr)
            have j2 := kj far (hs far hr) near (hs near hn)
            have eo := eq_o h (joinF_mem h hf (hs near hn) (hs far hr)) (joinF_mem h hf (hs far hr) (hs near hn))
            unfold dJ
            cases e3 : decide (joinF f near far = joinF f far near)
            · rw [e3] at eo
              push_cast [stF, j1, j2, eo]
              exact ⟨_, _, rfl, rfl, _, _, _, rfl⟩
            · rw [e3] at eo
              push_cast [stF, j1, j2, eo]
              generalize hL : compL _ _ _ = L
              obtain rfl : L = some ((os.filter fun s => turnsF f s near far).map O.d, []) := by
                rw [← hL]
                refine compL_filter fun s hs' => ?_
                have j1 := kt s hs' near hn far hr
                push_cast [stC, j1]
                cases turnsF f s near far <;> rfl
              have hz2 := List.length_filter_le (fun s => turnsF f s near far) os
              push_cast [mkL_small (xs := (os.filter fun s => turnsF f s near far).map O.d) (by simp only [List.length_map]; omega), ne_nil_od, filter_emp, Bool.not_not]
              cases e4 : os.all fun s => !turnsF f s near far
              · push_cast
                exact ⟨_, _, rfl, rfl, _, _, _, rfl⟩
              · push_cast
                exact ⟨_, _, rfl, rfl, _, _, _, rfl⟩
          rw [List.all_eq_not_any_not (l := lv)]
          cases lv.any fun far => !(dJ f near far && os.all fun s => !turnsF f s near far)
          · push_cast
            exact ⟨_, _, rfl, rfl, _, _, _, _, rfl⟩
          · push_cast
            exact ⟨_, _, rfl, rfl, _, _, _, _, rfl⟩
      rw [List.all_eq_not_any_not (l := lv)]
      cases lv.any fun near => !((os.all fun s => decide (joinF f s near ∈ os)) && lv.all fun far => dJ f near far && os.all fun s => !turnsF f s near far)
      · push_cast
      · push_cast
theorem l_fold_lot {T : Tab} (h : T.Ok) {n : W} {f : W → W → O} (hf : T.op n = some f) {lv : List O} (hs : ∀ o ∈ lv, o ∈ T.outs) (hl : lv.length ≤ 20) :
    ConP PT wf 4 "_law_fold_lot" [web T, sd n, .tup (lv.map O.d)] (fun d => ∃ os : List O, os.length ≤ 17 ∧ (∀ o ∈ os, o ∈ T.outs) ∧ d = .tup (os.map O.d)) := by
  refine ConP.ofW (F := F__law_fold_lot) rfl rfl (by simp only [D.cleans, D.clean, cl_web, cl_os, Bool.and_true]) rfl fun m hm => ?_
  have ka := l_all (wf := wf) h m (by omega)
  have kj : ∀ a ∈ T.outs, ∀ b ∈ T.outs, ∀ G, cfOf PT wf m false "_law_both" [web T, sd n, a.d, b.d] G = some ((joinF f a b).d, G) := fun a ha b hb => l_both h hf ha hb m (by omega)
  (simp only [F__law_fold_lot, en0, List.map_cons, List.map_nil, List.length_cons, List.length_nil, Nat.reduceAdd, Nat.reduceSub, Nat.zero_add, List.replicate, List.cons_append, List.nil_append]; ac_rfl)
  push_cast [fun G => list_tup (xs := lv.map O.d) (by rw [List.length_map]; omega) G]
  subst_eqs
  push_cast
  subst_eqs
  refine forQ_nil (range1_n (r := 20) (by decide) _ _) ?_
  refine wLp_run (fun _ ρ G => G = [] ∧ ∃ (os : List O) (x4 x5 x6 : Option D), os.length ≤ 20 + 17 * cnt T os ∧ (∀ o ∈ os, o ∈ T.outs) ∧ ρ = [some (web T), some (sd n), some (.tup (lv.map O.d)), some (.lst (os.map O.d)), x4, x5, x6, none, none]) ⟨rfl, lv, _, _, _, by omega, hs, rfl⟩ ?_ ?_
  · rintro dn i rest er ρ G ⟨rfl, os, x4, x5, x6, hol, hoo, rfl⟩
    and_intros
    push_cast
    subst_eqs
    refine forQ_nil (it_tup _ _ _) ?_
    refine wLp_run (fun _ ρ G => G = [] ∧ ∃ (os : List O) (x5 x6 : Option D), os.length ≤ 20 + 17 * cnt T os ∧ (∀ o ∈ os, o ∈ T.outs) ∧ ρ = [some (web T), some (sd n), some (.tup (lv.map O.d)), some (.lst (os.map O.d)), some (.int i), x5, x6, none, none]) ⟨rfl, os, _, _, hol, hoo, rfl⟩ ?_ ?_
    · rintro dk near rest2 er2 ρ G ⟨rfl, os, x5, x6, hol, hoo, rfl⟩
      have hn : near ∈ T.outs := hs _ (by rw [er2]; simp)
      have hc := cnt_le h os
      obtain ⟨zs, z1, z2, z3⟩ := srt_os h hoo
      and_intros
      have es := fun (ρ : En) (he : evE (cfOf PT wf m) (.var 3) ρ [] = some (.lst ((os.map O.w).map sd), [])) => ev_sorted (cf := cfOf PT wf m) (ρ := ρ) (G := []) he (by rw [List.length_map]; omega)
      rw [z3] at es
      have es1 := es [some (web T), some (sd n), some (.tup (lv.map O.d)), some (.lst (os.map O.d)), some (.int i), some near.d, x6, none, none] (by rw [← map_od]; push_cast)
      push_cast [es1]
      generalize hL : compL _ _ _ = L
      obtain rfl : L = some ((zs.map fun z => joinF f z near).map O.d, []) := by
        rw [← hL, List.map_map]
        refine compL_map1 fun z hz => ?_
        have j1 := kj z (hoo z (z1 z hz)) near hn
        push_cast [stC, j1]
        rfl
      push_cast [mkL_small (xs := (zs.map fun z => joinF f z near).map O.d) (by rw [List.length_map, List.length_map]; omega)]
      subst_eqs
      push_cast
      generalize hL : compL _ _ _ = L
      have hzo : ∀ o ∈ zs.map fun z => joinF f z near, o ∈ T.outs := by
        intro o ho
        obtain ⟨z, hz, rfl⟩ := List.mem_map.mp ho
        exact joinF_mem h hf (hoo z (z1 z hz)) hn
      obtain rfl : L = some (((zs.map fun z => joinF f z near).filter fun o => !decide (o ∈ os)).map O.d, []) := by
        rw [← hL]
        refine compL_filter fun o ho => ?_
        push_cast [stC, in_osl h hoo (hzo o ho)]
        cases decide (o ∈ os) <;> rfl
      have hlf := List.length_filter_le (fun o => !decide (o ∈ os)) (zs.map fun z => joinF f z near)
      rw [List.length_map] at hlf
      have hmem : ∀ o ∈ (zs.map fun z => joinF f z near).filter fun o => !decide (o ∈ os), o ∈ T.outs ∧ o ∉ os := by
        intro o ho
        obtain ⟨h1, h2⟩ := List.mem_filter.mp ho
        exact ⟨hzo o h1, by simpa using h2⟩
      generalize (zs.map fun z => joinF f z near).filter (fun o => !decide (o ∈ os)) = ys at *
      have hadd := cnt_add hmem (by omega)
      push_cast [mkL_small (xs := ys.map O.d) (by rw [List.length_map]; omega), cat_os (os := os) (zs := ys) (by omega)]
      subst_eqs
      refine ⟨rfl, os ++ ys, _, _, ?_, ?_, rfl⟩
      · rw [List.length_append]
        omega
      · intro o ho
        rcases List.mem_append.mp ho with h' | h'
        · exact hoo o h'
        · exact (hmem o h').1
    · rintro ρ G ⟨rfl, os, x5, x6, hol, hoo, rfl⟩
      ac_rfl
      exact ⟨rfl, os, _, _, _, hol, hoo, rfl⟩
  · rintro ρ G ⟨rfl, os, x4, x5, x6, hol, hoo, rfl⟩
    ac_rfl
    push_cast [ka]
    generalize hL : compL _ _ _ = L
    obtain rfl : L = some ((T.outs.filter fun o => decide (o ∈ os)).map O.d, []) := by
      rw [← hL]
      refine compL_filter fun o ho => ?_
      push_cast [stC, in_osl h hoo ho]
      cases decide (o ∈ os) <;> rfl
    have hc := cnt_le h os
    unfold cnt at hc
    push_cast [mkL_small (xs := (T.outs.filter fun o => decide (o ∈ os)).map O.d) (by rw [List.length_map]; omega), tup_lst]
    subst_eqs
    have hcl : D.clean 0 (.tup ((T.outs.filter fun o => decide (o ∈ os)).map O.d)) = true := by rw [D.clean]; exact cl_os _ _
    exact ⟨_, ⟨_, hc, fun o ho => (List.mem_filter.mp ho).1, rfl⟩, hcl, fz0 hcl⟩
theorem d_right : Dr PT wf 9 "_law_right" [] (fun d => d = .bl true) := by
  refine Dr.ofW (F := F__law_right) rfl rfl rfl rfl fun m hm j hj => ?_
  (simp only [F__law_right, en0, List.map_cons, List.map_nil, List.length_cons, List.length_nil, Nat.reduceAdd, Nat.reduceSub, Nat.zero_add, List.replicate, List.cons_append, List.nil_append]; ac_rfl)
  push_cast
  subst_eqs
  refine forQ_nil (range1_n (r := 2) (by decide) _ _) ?_
  refine wLp_run (fun _ ρ G => ∃ (j : J) (x1 x2 x3 x4 x5 x6 x7 x8 x9 x10 x11 : Option D), j.Ok ∧ G = [j.C] ∧ ρ = [some (.cell 0), x1, x2, x3, x4, x5, x6, x7, x8, x9, x10, x11]) ⟨j, _, _, _, _, _, _, _, _, _, _, _, hj, rfl, rfl⟩ ?_ ?_
  · rintro dn i rest er ρ G ⟨j, x1, x2, x3, x4, x5, x6, x7, x8, x9, x10, x11, hj, rfl, rfl⟩
    and_intros
    push_cast
    (generalize hz : cfOf _ _ _ false _ (D.cell _ :: _) _ = z); obtain ⟨d1, j1, hj1, hd1, rfl⟩ := Dr.gen (d_web (wf := wf) (mo := 6) (by decide) (by decide)) (by omega) (by assumption) rfl hz; clear hz
    obtain ⟨T, h, hT6, rfl⟩ := hd1
    push_cast
    subst_eqs
    have kp := l_page (wf := wf) h m (by omega)
    push_cast [kp]
    (generalize hz : cfOf _ _ _ false _ (D.cell _ :: _) _ = z); obtain ⟨d2, j2, hj2, hd2, rfl⟩ := Dr.gen (d_lot (wf := wf) h) (by omega) (by assumption) rfl hz; clear hz
    obtain ⟨lv, hlv, hls, rfl⟩ := hd2
    have h8 := h.nk.2
    have hl8 := hls.length_le
    push_cast [web_ops, fun G => list_ops T (by have := h.no.2; omega) G]
    (generalize hz : cfOf _ _ _ false _ (D.cell _ :: _) _ = z); obtain ⟨d3, j3, hj3, hd3, rfl⟩ := Dr.gen (any_ops (wf := wf) h) (by omega) (by assumption) rfl hz; clear hz
    obtain ⟨n, f, hf, rfl⟩ := hd3
    push_cast
    subst_eqs
    have elv : lv.map sd = (lv.map fun k => O.kd k false).map O.d := by rw [List.map_map]; rfl
    obtain ⟨d4, ⟨os, ho1, ho2, rfl⟩, e4⟩ := l_fold_lot (wf := wf) h hf (lv := lv.map fun k => O.kd k false) (fun o ho => by
      obtain ⟨k, hk, rfl⟩ := List.mem_map.mp ho
      exact mem_outs.mpr (hls.subset hk)) (by rw [List.length_map]; omega) m (by omega)
    rw [← elv, map_od] at e4
    push_cast [e4]
    subst_eqs
    push_cast
    subst_eqs
    refine forQ_nil (range1_n (r := 8) (by decide) _ _) ?_
    refine wLp_run (fun _ ρ G => ∃ (j : J) (x4 x8 x9 x10 x11 : Option D), j.Ok ∧ G = [j.C] ∧ ρ = [some (.cell 0), some (.int i), some (web T), some (.tup ((os.map O.w).map sd)), x4, some (sd (pageW T)), some (.tup (lv.map sd)), some (sd n), x8, x9, x10, x11]) ⟨j3, _, _, _, _, _, hj3, rfl, rfl⟩ ?_ ?_
    · rintro dk i2 rest2 er2 ρ G ⟨j4, x4, x8, x9, x10, x11, hj4, rfl, rfl⟩
      and_intros
      push_cast
      (generalize hz : cfOf _ _ _ false _ (D.cell _ :: _) _ = z); obtain ⟨p, j5, hj5, hp, rfl⟩ := Dr.gen (d_bent_lot (wf := wf) h (ws := os.map O.w) (by rw [List.length_map]; omega)) (by omega) (by assumption) rfl hz; clear hz
      push_cast
      subst_eqs
      push_cast
      (generalize hz : cfOf _ _ _ false _ (D.cell _ :: _) _ = z); obtain ⟨v6, j6, hj6, hv6, rfl⟩ := Dr.gen (d_odd (wf := wf) h) (by omega) (by assumption) rfl hz; clear hz
      push_cast [← List.map_reverse]
      (generalize hz : cfOf _ _ _ false _ (D.cell _ :: _) _ = z); obtain ⟨l, j7, hj7, hl, rfl⟩ := Dr.gen (any_Vl (wf := wf) (by simp) (by simp) (vl_cons (.sds _) (vl_cons (.sds _) (vl_cons (.sds _) (vl_cons (.sds _) (vl_cons (.sds _) (vl_cons hv6 (vl_cons (.sds _) (vl_nil))))))))) (by omega) (by assumption) rfl hz; clear hz
      push_cast
      subst_eqs
      push_cast [web_ops, fun G => list_ops T (by have := h.no.2; omega) G]
      (generalize hz : cfOf _ _ _ false _ (D.cell _ :: _) _ = z); obtain ⟨d8, j8, hj8, hd8, rfl⟩ := Dr.gen (any_ops (wf := wf) h) (by omega) (by assumption) rfl hz; clear hz
      obtain ⟨n8, f8, hf8, rfl⟩ := hd8
      push_cast
      (generalize hz : cfOf _ _ _ false _ (D.cell _ :: _) _ = z); obtain ⟨v9, j9, hj9, hv9, rfl⟩ := Dr.gen (d_odd (wf := wf) h) (by omega) (by assumption) rfl hz; clear hz
      push_cast
      (generalize hz : cfOf _ _ _ false _ (D.cell _ :: _) _ = z); obtain ⟨v, ja, hja, hv, rfl⟩ := Dr.gen (any_Vl (wf := wf) (by simp) (by simp) (vl_cons (.str _) (vl_cons (.str _) (vl_cons (.str _) (vl_cons (.str _) (vl_cons (.str _) (vl_cons hv9 (vl_nil)))))))) (by omega) (by assumption) rfl hz; clear hz
      push_cast
      subst_eqs
      have k1 := l_is_tag_ops (wf := wf) (T := T) hv m (by omega)
      have k2 := l_is_leaves (wf := wf) h hl m (by omega)
      have k3 := c_accepts_folds (wf := wf) h (c_read_page (wf := wf) h |>.mono (k' := 7) (by omega)) (by omega) hv hl hp m (by omega)
      rw [l_folds] at k3
      have key : ∀ b, b = foldsOk T v l p → ∀ ρ, ρ = [some (.cell 0), some (.int i), some (web T), some (.tup ((os.map O.w).map sd)), some (.int i2), some (sd (pageW T)), some (.tup (lv.map sd)), some (sd n), some p, some l, some v, some (.bl b)] → wS (cfOf PT wf m) wf (match F__law_right.body with | .seq (.fors _ _ _ _ (.seq _ (.seq _ (.seq _ (.seq (.fors _ _ _ _ (.seq _ (.seq _ (.seq _ (.seq _ (.seq _ s)))))) _))))) _ => s | _ => .skip) ρ [ja.C] (stepK (fun ρ G => ∃ (j : J) (x4 x8 x9 x10 x11 : Option D), j.Ok ∧ G = [j.C] ∧ ρ = [some (.cell 0), some (.int i), some (web T), some (.tup ((os.map O.w).map sd)), x4, some (sd (pageW T)), some (.tup (lv.map sd)), some (sd n), x8, x9, x10, x11]) (seqK (cfOf PT wf m) wf .skip (stepK (fun ρ G => ∃ (j : J) (x1 x2 x3 x4 x5 x6 x7 x8 x9 x10 x11 : Option D), j.Ok ∧ G = [j.C] ∧ ρ = [some (.cell 0), x1, x2, x3, x4, x5, x6, x7, x8, x9, x10, x11]) (seqK (cfOf PT wf m) wf (.seq (.ret (.bl true)) .skip) (retK (drK fun d => d = .bl true)))))) := by
        rintro b hb ρ rfl
        subst hb
        simp only [F__law_right]
        ac_rfl
        push_cast [k3, repr_bl, ne_same]
        subst_eqs
        exact ⟨ja, _, _, _, _, _, hja, rfl, rfl⟩
      cases e1 : opOf T v with
      | none =>
        rw [e1] at k1
        push_cast [k1, Option.isSome_none, web_ops]
        subst_eqs
        push_cast
        refine ⟨_, _, rfl, hK _ _ ?_⟩
        refine asgK_var (by simp only [List.set_cons_succ, List.set_cons_zero]) (seqK_nx (key false (by unfold foldsOk; rw [e1]) _ rfl))
      | some g =>
        rw [e1] at k1
        cases e2 : isLeaves T l with
        | false =>
          rw [e2] at k2
          push_cast [k1, Option.isSome_some, web_ops, k2]
          subst_eqs
          push_cast
          refine ⟨_, _, rfl, hK _ _ ?_⟩
          refine asgK_var (by simp only [List.set_cons_succ, List.set_cons_zero]) (seqK_nx (key false (by unfold foldsOk; simp only [e1, e2, Bool.false_and]) _ rfl))
        | true =>
          obtain ⟨ev, ef⟩ := opOf_some e1
          have e3 : isMarked T l = true := by
            unfold isLeaves at e2
            rw [Bool.and_eq_true] at e2
            exact e2.1
          obtain ⟨el, hlm, hl8', _⟩ := isMarked_os h e3
          have k4 := l_folds_by (wf := wf) h ef hlm (by omega) hp m (by omega)
          rw [← ev, ← el] at k4
          rw [e2] at k2
          push_cast [k1, Option.isSome_some, web_ops, k2]
          subst_eqs
          push_cast [k4]
          refine ⟨_, _, rfl, hK _ _ ?_⟩
          refine asgK_var (by simp only [List.set_cons_succ, List.set_cons_zero]) (seqK_nx (key (isLot T p && foldsLot g (osOf l) (osOf p)) (by unfold foldsOk; simp only [e1, e2, Bool.true_and]) _ rfl))
    · rintro ρ G ⟨j4, x4, x8, x9, x10, x11, hj4, rfl, rfl⟩
      ac_rfl
      exact ⟨j4, _, _, _, _, _, _, _, _, _, _, _, hj4, rfl, rfl⟩
  · rintro ρ G ⟨j, x1, x2, x3, x4, x5, x6, x7, x8, x9, x10, x11, hj, rfl, rfl⟩
    ac_rfl
    push_cast
    subst_eqs
    exact drK_of hj rfl rfl

theorem law_true (ns : List Int) (hl : ns.length ≤ 63) : call PT wf 30 "law" [.wls (ns.map .int)] [] = some (.bl true, []) := by
  have key : wS (cfOf PT wf 29) wf F_law.body (en0 F_law [.wls (ns.map .int)]) [] (retK fun d G1 => d = .bl true) := by
    (simp only [F_law, en0, List.map_cons, List.map_nil, List.length_cons, List.length_nil, Nat.reduceAdd, Nat.reduceSub, Nat.zero_add, List.replicate, List.cons_append, List.nil_append]; ac_rfl)
    obtain ⟨c, hc, e1⟩ : ∃ c : Nat, c ≤ 4 ∧ ((max 2 (min ns.length 4) : Nat) : Int) = c := ⟨_, by omega, rfl⟩
    have e2 := fun G => min_nat ns.length 4 false G
    have e2' : ∀ G, biD .min2 false [.int ns.length, .int 4] G = some (.int (min ns.length 4 : Nat), G) := e2
    have e3 := fun G => max_nat 2 (min ns.length 4) false G
    have e3' : ∀ G, biD .max2 false [.int 2, .int (min ns.length 4 : Nat)] G = some (.int c, G) := fun G => by rw [← e1]; exact e3 G
    obtain ⟨zk, hzk, hr⟩ : ∃ zk, D.int (c : Int) = zk ∧ ∀ y G, itemsOf .range1 zk y G = some ((List.range c).map fun (i : Nat) => D.int i) := ⟨_, rfl, fun y G => range1_n (r := c) (by omega) y G⟩
    rw [hzk] at e3'
    push_cast [wls_len, List.length_map, e2', e3', hr]
    generalize hL : compL _ _ _ = L
    obtain ⟨ds, G1, hdl, hds, _, rfl⟩ : ∃ (ds : List D) (G' : List C), ds.length = ((List.range c).map fun (i : Nat) => D.int i).length ∧ (∀ d ∈ ds, d = .bl true) ∧ True ∧ L = some (ds, G') := by
      rw [← hL]
      refine compL_dr (I := fun _ => True) trivial ?_
      rintro x hx G -
      obtain ⟨i, hi, rfl⟩ := List.mem_map.mp hx
      obtain ⟨j, hj, ej⟩ := l_jar (wf := wf) hl (k := i) (m := 29) (by decide) G
      obtain ⟨d, j', hj', rfl, er⟩ := d_right (wf := wf) 29 (by decide) j hj G.length (G ++ [j.C]) (by simp)
      refine ⟨.bl true, (G ++ [j.C]).set G.length j'.C, rfl, trivial, ?_⟩
      push_cast [stC, ej, er]
    have hb := all_true hds
    have hdl4 : ds.length ≤ 4 := by
      rw [hdl, List.length_map, List.length_range]
      exact hc
    have hball : ∀ G, biD .all false [.lst ds] G = some (.bl true, G) := fun G => by
      rw [hb, bi_all]
      simp
    push_cast [mkL_small (xs := ds) (by omega), hball]
    subst_eqs
    rfl
  obtain ⟨d, G1, e, rfl⟩ := rv_of key
  have hF : findF PT "law" = some F_law := rfl
  rw [call_succ, hF]
  show runF _ wf F_law _ [] = _
  rw [runF_rv rfl e]
  rfl
end Ct
set_option Elab.async false
set_option linter.all false
set_option maxRecDepth 100000
set_option maxHeartbeats 0
namespace Pt
open PySem PySem.Spec PyProof.Rows L2 Iv
def top (i : Nat) : Stmt := PySem.Challenge.pw_promotetables_k58_whole_folds_claimed.main.body.getD i (.Pass ⟨0, 0, 0, 0⟩)
def clsBody : Stmt → List Stmt
  | .ClassDef _ _ _ body _ _ _ _ _ _ _ => body
  | _ => []

theorem m_Sheet (K : PySem.W.Frag) (mg : Str → Option Value) : dfM (Sx K mg) F_Sheet (defScope ((clsBody (top 11)).getD 0 (.Pass ⟨0, 0, 0, 0⟩))) (defBody ((clsBody (top 11)).getD 0 (.Pass ⟨0, 0, 0, 0⟩))) = true := by kernel_rfl
theorem m_is_tag (K : PySem.W.Frag) (mg : Str → Option Value) : dfM (Sx K mg) F_is_tag (defScope (top 12)) (defBody (top 12)) = true := by kernel_rfl
theorem m_is_cell (K : PySem.W.Frag) (mg : Str → Option Value) : dfM (Sx K mg) F_is_cell (defScope (top 13)) (defBody (top 13)) = true := by kernel_rfl
theorem m_read_cells (K : PySem.W.Frag) (mg : Str → Option Value) : dfM (Sx K mg) F_read_cells (defScope (top 14)) (defBody (top 14)) = true := by kernel_rfl
theorem m_read_grid (K : PySem.W.Frag) (mg : Str → Option Value) : dfM (Sx K mg) F_read_grid (defScope (top 15)) (defBody (top 15)) = true := by kernel_rfl
theorem m_fill_grids (K : PySem.W.Frag) (mg : Str → Option Value) : dfM (Sx K mg) F_fill_grids (defScope (top 16)) (defBody (top 16)) = true := by kernel_rfl
theorem m_fill_rows (K : PySem.W.Frag) (mg : Str → Option Value) : dfM (Sx K mg) F_fill_rows (defScope (top 17)) (defBody (top 17)) = true := by kernel_rfl
theorem m_has_fine_names (K : PySem.W.Frag) (mg : Str → Option Value) : dfM (Sx K mg) F_has_fine_names (defScope (top 18)) (defBody (top 18)) = true := by kernel_rfl
theorem m_read_sheet (K : PySem.W.Frag) (mg : Str → Option Value) : dfM (Sx K mg) F_read_sheet (defScope (top 19)) (defBody (top 19)) = true := by kernel_rfl
theorem m_outcomes_of (K : PySem.W.Frag) (mg : Str → Option Value) : dfM (Sx K mg) F_outcomes_of (defScope (top 20)) (defBody (top 20)) = true := by kernel_rfl
theorem m_word_at (K : PySem.W.Frag) (mg : Str → Option Value) : dfM (Sx K mg) F_word_at (defScope (top 21)) (defBody (top 21)) = true := by kernel_rfl
theorem m_part_at (K : PySem.W.Frag) (mg : Str → Option Value) : dfM (Sx K mg) F_part_at (defScope (top 22)) (defBody (top 22)) = true := by kernel_rfl
theorem m_pair_at (K : PySem.W.Frag) (mg : Str → Option Value) : dfM (Sx K mg) F_pair_at (defScope (top 23)) (defBody (top 23)) = true := by kernel_rfl
theorem m_read_part (K : PySem.W.Frag) (mg : Str → Option Value) : dfM (Sx K mg) F_read_part (defScope (top 24)) (defBody (top 24)) = true := by kernel_rfl
theorem m_leaves_in (K : PySem.W.Frag) (mg : Str → Option Value) : dfM (Sx K mg) F_leaves_in (defScope (top 25)) (defBody (top 25)) = true := by kernel_rfl
theorem m_is_by (K : PySem.W.Frag) (mg : Str → Option Value) : dfM (Sx K mg) F_is_by (defScope (top 26)) (defBody (top 26)) = true := by kernel_rfl
theorem m_kind_of (K : PySem.W.Frag) (mg : Str → Option Value) : dfM (Sx K mg) F_kind_of (defScope (top 28)) (defBody (top 28)) = true := by kernel_rfl
theorem m_marked_by (K : PySem.W.Frag) (mg : Str → Option Value) : dfM (Sx K mg) F_marked_by (defScope (top 29)) (defBody (top 29)) = true := by kernel_rfl
theorem m_joined (K : PySem.W.Frag) (mg : Str → Option Value) : dfM (Sx K mg) F_joined (defScope (top 30)) (defBody (top 30)) = true := by kernel_rfl
theorem m_turned (K : PySem.W.Frag) (mg : Str → Option Value) : dfM (Sx K mg) F_turned (defScope (top 31)) (defBody (top 31)) = true := by kernel_rfl
theorem m_reckoned (K : PySem.W.Frag) (mg : Str → Option Value) : dfM (Sx K mg) F_reckoned (defScope (top 32)) (defBody (top 32)) = true := by kernel_rfl
theorem m_led (K : PySem.W.Frag) (mg : Str → Option Value) : dfM (Sx K mg) F_led (defScope (top 33)) (defBody (top 33)) = true := by kernel_rfl
theorem m_in_order (K : PySem.W.Frag) (mg : Str → Option Value) : dfM (Sx K mg) F_in_order (defScope (top 34)) (defBody (top 34)) = true := by kernel_rfl
theorem m_closed_lot (K : PySem.W.Frag) (mg : Str → Option Value) : dfM (Sx K mg) F_closed_lot (defScope (top 35)) (defBody (top 35)) = true := by kernel_rfl
theorem m_folded (K : PySem.W.Frag) (mg : Str → Option Value) : dfM (Sx K mg) F_folded (defScope (top 36)) (defBody (top 36)) = true := by kernel_rfl
theorem m_badness (K : PySem.W.Frag) (mg : Str → Option Value) : dfM (Sx K mg) F_badness (defScope (top 37)) (defBody (top 37)) = true := by kernel_rfl
theorem m_sight (K : PySem.W.Frag) (mg : Str → Option Value) : dfM (Sx K mg) F_sight (defScope (top 38)) (defBody (top 38)) = true := by kernel_rfl
theorem m_marks_of (K : PySem.W.Frag) (mg : Str → Option Value) : dfM (Sx K mg) F_marks_of (defScope (top 39)) (defBody (top 39)) = true := by kernel_rfl
theorem m_is_marked (K : PySem.W.Frag) (mg : Str → Option Value) : dfM (Sx K mg) F_is_marked (defScope (top 41)) (defBody (top 41)) = true := by kernel_rfl
theorem m_are_leaves (K : PySem.W.Frag) (mg : Str → Option Value) : dfM (Sx K mg) F_are_leaves (defScope (top 42)) (defBody (top 42)) = true := by kernel_rfl
theorem m_is_outcome (K : PySem.W.Frag) (mg : Str → Option Value) : dfM (Sx K mg) F_is_outcome (defScope (top 43)) (defBody (top 43)) = true := by kernel_rfl
theorem m_is_lot (K : PySem.W.Frag) (mg : Str → Option Value) : dfM (Sx K mg) F_is_lot (defScope (top 44)) (defBody (top 44)) = true := by kernel_rfl
theorem m_is_named (K : PySem.W.Frag) (mg : Str → Option Value) : dfM (Sx K mg) F_is_named (defScope (top 45)) (defBody (top 45)) = true := by kernel_rfl
theorem m_is_closed (K : PySem.W.Frag) (mg : Str → Option Value) : dfM (Sx K mg) F_is_closed (defScope (top 46)) (defBody (top 46)) = true := by kernel_rfl
theorem m_is_two (K : PySem.W.Frag) (mg : Str → Option Value) : dfM (Sx K mg) F_is_two (defScope (top 47)) (defBody (top 47)) = true := by kernel_rfl
theorem m_parts_by (K : PySem.W.Frag) (mg : Str → Option Value) : dfM (Sx K mg) F_parts_by (defScope (top 48)) (defBody (top 48)) = true := by kernel_rfl
theorem m_outcome_shown (K : PySem.W.Frag) (mg : Str → Option Value) : dfM (Sx K mg) F_outcome_shown (defScope (top 49)) (defBody (top 49)) = true := by kernel_rfl
theorem m_reach_shown (K : PySem.W.Frag) (mg : Str → Option Value) : dfM (Sx K mg) F_reach_shown (defScope (top 50)) (defBody (top 50)) = true := by kernel_rfl
theorem m_agrees (K : PySem.W.Frag) (mg : Str → Option Value) : dfM (Sx K mg) F_agrees (defScope (top 51)) (defBody (top 51)) = true := by kernel_rfl
theorem m_groups (K : PySem.W.Frag) (mg : Str → Option Value) : dfM (Sx K mg) F_groups (defScope (top 52)) (defBody (top 52)) = true := by kernel_rfl
theorem m_swaps (K : PySem.W.Frag) (mg : Str → Option Value) : dfM (Sx K mg) F_swaps (defScope (top 53)) (defBody (top 53)) = true := by kernel_rfl
theorem m_grouping_shown (K : PySem.W.Frag) (mg : Str → Option Value) : dfM (Sx K mg) F_grouping_shown (defScope (top 54)) (defBody (top 54)) = true := by kernel_rfl
theorem m_exchange_shown (K : PySem.W.Frag) (mg : Str → Option Value) : dfM (Sx K mg) F_exchange_shown (defScope (top 55)) (defBody (top 55)) = true := by kernel_rfl
theorem m_turns_fold (K : PySem.W.Frag) (mg : Str → Option Value) : dfM (Sx K mg) F_turns_fold (defScope (top 56)) (defBody (top 56)) = true := by kernel_rfl
theorem m_folds_by (K : PySem.W.Frag) (mg : Str → Option Value) : dfM (Sx K mg) F_folds_by (defScope (top 57)) (defBody (top 57)) = true := by kernel_rfl
theorem m_are_lists (K : PySem.W.Frag) (mg : Str → Option Value) : dfM (Sx K mg) F_are_lists (defScope (top 58)) (defBody (top 58)) = true := by kernel_rfl
theorem m_folds_shown (K : PySem.W.Frag) (mg : Str → Option Value) : dfM (Sx K mg) F_folds_shown (defScope (top 59)) (defBody (top 59)) = true := by kernel_rfl
theorem m_variables_in (K : PySem.W.Frag) (mg : Str → Option Value) : dfM (Sx K mg) F_variables_in (defScope (top 60)) (defBody (top 60)) = true := by kernel_rfl
theorem m_is_equal (K : PySem.W.Frag) (mg : Str → Option Value) : dfM (Sx K mg) F_is_equal (defScope (top 61)) (defBody (top 61)) = true := by kernel_rfl
theorem m_all_values (K : PySem.W.Frag) (mg : Str → Option Value) : dfM (Sx K mg) F_all_values (defScope (top 62)) (defBody (top 62)) = true := by kernel_rfl
theorem m_given_values (K : PySem.W.Frag) (mg : Str → Option Value) : dfM (Sx K mg) F_given_values (defScope (top 63)) (defBody (top 63)) = true := by kernel_rfl
theorem m_equal_shown (K : PySem.W.Frag) (mg : Str → Option Value) : dfM (Sx K mg) F_equal_shown (defScope (top 64)) (defBody (top 64)) = true := by kernel_rfl
theorem m_are_matched (K : PySem.W.Frag) (mg : Str → Option Value) : dfM (Sx K mg) F_are_matched (defScope (top 65)) (defBody (top 65)) = true := by kernel_rfl
theorem m_two_shown (K : PySem.W.Frag) (mg : Str → Option Value) : dfM (Sx K mg) F_two_shown (defScope (top 66)) (defBody (top 66)) = true := by kernel_rfl
theorem m_lots_by (K : PySem.W.Frag) (mg : Str → Option Value) : dfM (Sx K mg) F_lots_by (defScope (top 67)) (defBody (top 67)) = true := by kernel_rfl
theorem m_same_by (K : PySem.W.Frag) (mg : Str → Option Value) : dfM (Sx K mg) F_same_by (defScope (top 68)) (defBody (top 68)) = true := by kernel_rfl
theorem m_same_shown (K : PySem.W.Frag) (mg : Str → Option Value) : dfM (Sx K mg) F_same_shown (defScope (top 69)) (defBody (top 69)) = true := by kernel_rfl
theorem m_length_of (K : PySem.W.Frag) (mg : Str → Option Value) : dfM (Sx K mg) F_length_of (defScope (top 70)) (defBody (top 70)) = true := by kernel_rfl
theorem m_shown (K : PySem.W.Frag) (mg : Str → Option Value) : dfM (Sx K mg) F_shown (defScope (top 71)) (defBody (top 71)) = true := by kernel_rfl
theorem m_accepts (K : PySem.W.Frag) (mg : Str → Option Value) : dfM (Sx K mg) F_accepts (defScope (top 72)) (defBody (top 72)) = true := by kernel_rfl
theorem m__law_jar (K : PySem.W.Frag) (mg : Str → Option Value) : dfM (Sx K mg) F__law_jar (defScope (top 74)) (defBody (top 74)) = true := by kernel_rfl
theorem m__law_scoop (K : PySem.W.Frag) (mg : Str → Option Value) : dfM (Sx K mg) F__law_scoop (defScope (top 75)) (defBody (top 75)) = true := by kernel_rfl
theorem m__law_any (K : PySem.W.Frag) (mg : Str → Option Value) : dfM (Sx K mg) F__law_any (defScope (top 76)) (defBody (top 76)) = true := by kernel_rfl
theorem m__law_words (K : PySem.W.Frag) (mg : Str → Option Value) : dfM (Sx K mg) F__law_words (defScope (top 77)) (defBody (top 77)) = true := by kernel_rfl
theorem m__law_cell (K : PySem.W.Frag) (mg : Str → Option Value) : dfM (Sx K mg) F__law_cell (defScope (top 78)) (defBody (top 78)) = true := by kernel_rfl
theorem m__law_web (K : PySem.W.Frag) (mg : Str → Option Value) : dfM (Sx K mg) F__law_web (defScope (top 79)) (defBody (top 79)) = true := by kernel_rfl
theorem m__law_page (K : PySem.W.Frag) (mg : Str → Option Value) : dfM (Sx K mg) F__law_page (defScope (top 80)) (defBody (top 80)) = true := by kernel_rfl
theorem m__law_lot (K : PySem.W.Frag) (mg : Str → Option Value) : dfM (Sx K mg) F__law_lot (defScope (top 81)) (defBody (top 81)) = true := by kernel_rfl
theorem m__law_mark (K : PySem.W.Frag) (mg : Str → Option Value) : dfM (Sx K mg) F__law_mark (defScope (top 82)) (defBody (top 82)) = true := by kernel_rfl
theorem m__law_both (K : PySem.W.Frag) (mg : Str → Option Value) : dfM (Sx K mg) F__law_both (defScope (top 83)) (defBody (top 83)) = true := by kernel_rfl
theorem m__law_all (K : PySem.W.Frag) (mg : Str → Option Value) : dfM (Sx K mg) F__law_all (defScope (top 84)) (defBody (top 84)) = true := by kernel_rfl
theorem m__law_is_lot (K : PySem.W.Frag) (mg : Str → Option Value) : dfM (Sx K mg) F__law_is_lot (defScope (top 85)) (defBody (top 85)) = true := by kernel_rfl
theorem m__law_is_leaves (K : PySem.W.Frag) (mg : Str → Option Value) : dfM (Sx K mg) F__law_is_leaves (defScope (top 86)) (defBody (top 86)) = true := by kernel_rfl
theorem m__law_is_tag (K : PySem.W.Frag) (mg : Str → Option Value) : dfM (Sx K mg) F__law_is_tag (defScope (top 87)) (defBody (top 87)) = true := by kernel_rfl
theorem m__law_odd (K : PySem.W.Frag) (mg : Str → Option Value) : dfM (Sx K mg) F__law_odd (defScope (top 88)) (defBody (top 88)) = true := by kernel_rfl
theorem m__law_bent_lot (K : PySem.W.Frag) (mg : Str → Option Value) : dfM (Sx K mg) F__law_bent_lot (defScope (top 89)) (defBody (top 89)) = true := by kernel_rfl
theorem m__law_fold_lot (K : PySem.W.Frag) (mg : Str → Option Value) : dfM (Sx K mg) F__law_fold_lot (defScope (top 90)) (defBody (top 90)) = true := by kernel_rfl
theorem m__law_turns (K : PySem.W.Frag) (mg : Str → Option Value) : dfM (Sx K mg) F__law_turns (defScope (top 91)) (defBody (top 91)) = true := by kernel_rfl
theorem m__law_folds_by (K : PySem.W.Frag) (mg : Str → Option Value) : dfM (Sx K mg) F__law_folds_by (defScope (top 92)) (defBody (top 92)) = true := by kernel_rfl
theorem m__law_right (K : PySem.W.Frag) (mg : Str → Option Value) : dfM (Sx K mg) F__law_right (defScope (top 93)) (defBody (top 93)) = true := by kernel_rfl
theorem m_law (K : PySem.W.Frag) (mg : Str → Option Value) : dfM (Sx K mg) F_law (defScope (top 94)) (defBody (top 94)) = true := by kernel_rfl
end Pt

set_option Elab.async false
set_option linter.all false
set_option maxRecDepth 100000
set_option maxHeartbeats 0
namespace En
open PySem PySem.Spec PyProof.Rows L2 Iv Pt
section
variable {K : PySem.W.Frag} {h : Heap} {mg : Str → Option Value}
theorem df0 (X : K.In h) (G : h.Ns mainGlobals mg) (c : He.SaysD Hd.fa Hd.fn K) : ∃ fA fd, DfOk (Sx K mg) F_Sheet fA fd := by
  obtain ⟨fd, FD⟩ := c.def_ 0 (d := Hd.d0) rfl
  exact ⟨_, fd, ⟨⟨_, _, _, _, _, _, FD, ⟨by kernel_rfl, by kernel_rfl, by kernel_rfl, by decide +kernel, by kernel_rfl, by decide +kernel, by decide +kernel⟩, m_Sheet K mg⟩, FD.bindsN (ps := F_Sheet.ps) (fun _ _ _ _ _ _ us hl => match us, hl with | [_, _], _ => rfl), FD.kp, fun h => (by cases h), fun _ => ⟨_, He.glo_ok X G (c.fact 0 (f := .glo "Sheet") rfl), He.mkr_ok (c.fact 101 (f := .mkr "Sheet") rfl), (by show F_Sheet.name ∈ Pt.cl; decide +kernel)⟩⟩⟩
theorem df1 (X : K.In h) (G : h.Ns mainGlobals mg) (c : He.SaysD Hd.fa Hd.fn K) : ∃ fA fd, DfOk (Sx K mg) F_is_tag fA fd := by
  obtain ⟨fd, FD⟩ := c.def_ 1 (d := Hd.d1) rfl
  exact ⟨_, fd, ⟨⟨_, _, _, _, _, _, FD, ⟨by kernel_rfl, by kernel_rfl, by kernel_rfl, by decide +kernel, by kernel_rfl, by decide +kernel, by decide +kernel⟩, m_is_tag K mg⟩, FD.bindsN (ps := F_is_tag.ps) (fun _ _ _ _ _ _ us hl => match us, hl with | [_], _ => rfl), FD.kp, fun _ => He.glo_ok X G (c.fact 1 (f := .glo "is_tag") rfl), fun h => (by cases h)⟩⟩
theorem df2 (X : K.In h) (G : h.Ns mainGlobals mg) (c : He.SaysD Hd.fa Hd.fn K) : ∃ fA fd, DfOk (Sx K mg) F_is_cell fA fd := by
  obtain ⟨fd, FD⟩ := c.def_ 2 (d := Hd.d2) rfl
  exact ⟨_, fd, ⟨⟨_, _, _, _, _, _, FD, ⟨by kernel_rfl, by kernel_rfl, by kernel_rfl, by decide +kernel, by kernel_rfl, by decide +kernel, by decide +kernel⟩, m_is_cell K mg⟩, FD.bindsN (ps := F_is_cell.ps) (fun _ _ _ _ _ _ us hl => match us, hl with | [_, _], _ => rfl), FD.kp, fun _ => He.glo_ok X G (c.fact 2 (f := .glo "is_cell") rfl), fun h => (by cases h)⟩⟩
theorem df3 (X : K.In h) (G : h.Ns mainGlobals mg) (c : He.SaysD Hd.fa Hd.fn K) : ∃ fA fd, DfOk (Sx K mg) F_read_cells fA fd := by
  obtain ⟨fd, FD⟩ := c.def_ 3 (d := Hd.d3) rfl
  exact ⟨_, fd, ⟨⟨_, _, _, _, _, _, FD, ⟨by kernel_rfl, by kernel_rfl, by kernel_rfl, by decide +kernel, by kernel_rfl, by decide +kernel, by decide +kernel⟩, m_read_cells K mg⟩, FD.bindsN (ps := F_read_cells.ps) (fun _ _ _ _ _ _ us hl => match us, hl with | [_, _], _ => rfl), FD.kp, fun _ => He.glo_ok X G (c.fact 3 (f := .glo "read_cells") rfl), fun h => (by cases h)⟩⟩
theorem df4 (X : K.In h) (G : h.Ns mainGlobals mg) (c : He.SaysD Hd.fa Hd.fn K) : ∃ fA fd, DfOk (Sx K mg) F_read_grid fA fd := by
  obtain ⟨fd, FD⟩ := c.def_ 4 (d := Hd.d4) rfl
  exact ⟨_, fd, ⟨⟨_, _, _, _, _, _, FD, ⟨by kernel_rfl, by kernel_rfl, by kernel_rfl, by decide +kernel, by kernel_rfl, by decide +kernel, by decide +kernel⟩, m_read_grid K mg⟩, FD.bindsN (ps := F_read_grid.ps) (fun _ _ _ _ _ _ us hl => match us, hl with | [_, _], _ => rfl), FD.kp, fun _ => He.glo_ok X G (c.fact 4 (f := .glo "read_grid") rfl), fun h => (by cases h)⟩⟩
theorem df5 (X : K.In h) (G : h.Ns mainGlobals mg) (c : He.SaysD Hd.fa Hd.fn K) : ∃ fA fd, DfOk (Sx K mg) F_fill_grids fA fd := by
  obtain ⟨fd, FD⟩ := c.def_ 5 (d := Hd.d5) rfl
  exact ⟨_, fd, ⟨⟨_, _, _, _, _, _, FD, ⟨by kernel_rfl, by kernel_rfl, by kernel_rfl, by decide +kernel, by kernel_rfl, by decide +kernel, by decide +kernel⟩, m_fill_grids K mg⟩, FD.bindsN (ps := F_fill_grids.ps) (fun _ _ _ _ _ _ us hl => match us, hl with | [_, _], _ => rfl), FD.kp, fun _ => He.glo_ok X G (c.fact 5 (f := .glo "fill_grids") rfl), fun h => (by cases h)⟩⟩
theorem df6 (X : K.In h) (G : h.Ns mainGlobals mg) (c : He.SaysD Hd.fa Hd.fn K) : ∃ fA fd, DfOk (Sx K mg) F_fill_rows fA fd := by
  obtain ⟨fd, FD⟩ := c.def_ 6 (d := Hd.d6) rfl
  exact ⟨_, fd, ⟨⟨_, _, _, _, _, _, FD, ⟨by kernel_rfl, by kernel_rfl, by kernel_rfl, by decide +kernel, by kernel_rfl, by decide +kernel, by decide +kernel⟩, m_fill_rows K mg⟩, FD.bindsN (ps := F_fill_rows.ps) (fun _ _ _ _ _ _ us hl => match us, hl with | [_, _], _ => rfl), FD.kp, fun _ => He.glo_ok X G (c.fact 6 (f := .glo "fill_rows") rfl), fun h => (by cases h)⟩⟩
theorem df7 (X : K.In h) (G : h.Ns mainGlobals mg) (c : He.SaysD Hd.fa Hd.fn K) : ∃ fA fd, DfOk (Sx K mg) F_has_fine_names fA fd := by
  obtain ⟨fd, FD⟩ := c.def_ 7 (d := Hd.d7) rfl
  exact ⟨_, fd, ⟨⟨_, _, _, _, _, _, FD, ⟨by kernel_rfl, by kernel_rfl, by kernel_rfl, by decide +kernel, by kernel_rfl, by decide +kernel, by decide +kernel⟩, m_has_fine_names K mg⟩, FD.bindsN (ps := F_has_fine_names.ps) (fun _ _ _ _ _ _ us hl => match us, hl with | [_], _ => rfl), FD.kp, fun _ => He.glo_ok X G (c.fact 7 (f := .glo "has_fine_names") rfl), fun h => (by cases h)⟩⟩
theorem df8 (X : K.In h) (G : h.Ns mainGlobals mg) (c : He.SaysD Hd.fa Hd.fn K) : ∃ fA fd, DfOk (Sx K mg) F_read_sheet fA fd := by
  obtain ⟨fd, FD⟩ := c.def_ 8 (d := Hd.d8) rfl
  exact ⟨_, fd, ⟨⟨_, _, _, _, _, _, FD, ⟨by kernel_rfl, by kernel_rfl, by kernel_rfl, by decide +kernel, by kernel_rfl, by decide +kernel, by decide +kernel⟩, m_read_sheet K mg⟩, FD.bindsN (ps := F_read_sheet.ps) (fun _ _ _ _ _ _ us hl => match us, hl with | [_], _ => rfl), FD.kp, fun _ => He.glo_ok X G (c.fact 8 (f := .glo "read_sheet") rfl), fun h => (by cases h)⟩⟩
theorem df9 (X : K.In h) (G : h.Ns mainGlobals mg) (c : He.SaysD Hd.fa Hd.fn K) : ∃ fA fd, DfOk (Sx K mg) F_outcomes_of fA fd := by
  obtain ⟨fd, FD⟩ := c.def_ 9 (d := Hd.d9) rfl
  exact ⟨_, fd, ⟨⟨_, _, _, _, _, _, FD, ⟨by kernel_rfl, by kernel_rfl, by kernel_rfl, by decide +kernel, by kernel_rfl, by decide +kernel, by decide +kernel⟩, m_outcomes_of K mg⟩, FD.bindsN (ps := F_outcomes_of.ps) (fun _ _ _ _ _ _ us hl => match us, hl with | [_], _ => rfl), FD.kp, fun _ => He.glo_ok X G (c.fact 9 (f := .glo "outcomes_of") rfl), fun h => (by cases h)⟩⟩
theorem df10 (X : K.In h) (G : h.Ns mainGlobals mg) (c : He.SaysD Hd.fa Hd.fn K) : ∃ fA fd, DfOk (Sx K mg) F_word_at fA fd := by
  obtain ⟨fd, FD⟩ := c.def_ 10 (d := Hd.d10) rfl
  exact ⟨_, fd, ⟨⟨_, _, _, _, _, _, FD, ⟨by kernel_rfl, by kernel_rfl, by kernel_rfl, by decide +kernel, by kernel_rfl, by decide +kernel, by decide +kernel⟩, m_word_at K mg⟩, FD.bindsN (ps := F_word_at.ps) (fun _ _ _ _ _ _ us hl => match us, hl with | [_, _], _ => rfl), FD.kp, fun _ => He.glo_ok X G (c.fact 10 (f := .glo "word_at") rfl), fun h => (by cases h)⟩⟩
theorem df11 (X : K.In h) (G : h.Ns mainGlobals mg) (c : He.SaysD Hd.fa Hd.fn K) : ∃ fA fd, DfOk (Sx K mg) F_part_at fA fd := by
  obtain ⟨fd, FD⟩ := c.def_ 11 (d := Hd.d11) rfl
  exact ⟨_, fd, ⟨⟨_, _, _, _, _, _, FD, ⟨by kernel_rfl, by kernel_rfl, by kernel_rfl, by decide +kernel, by kernel_rfl, by decide +kernel, by decide +kernel⟩, m_part_at K mg⟩, FD.bindsN (ps := F_part_at.ps) (fun _ _ _ _ _ _ us hl => match us, hl with | [_, _, _, _], _ => rfl), FD.kp, fun _ => He.glo_ok X G (c.fact 11 (f := .glo "part_at") rfl), fun h => (by cases h)⟩⟩
theorem df12 (X : K.In h) (G : h.Ns mainGlobals mg) (c : He.SaysD Hd.fa Hd.fn K) : ∃ fA fd, DfOk (Sx K mg) F_pair_at fA fd := by
  obtain ⟨fd, FD⟩ := c.def_ 12 (d := Hd.d12) rfl
  exact ⟨_, fd, ⟨⟨_, _, _, _, _, _, FD, ⟨by kernel_rfl, by kernel_rfl, by kernel_rfl, by decide +kernel, by kernel_rfl, by decide +kernel, by decide +kernel⟩, m_pair_at K mg⟩, FD.bindsN (ps := F_pair_at.ps) (fun _ _ _ _ _ _ us hl => match us, hl with | [_, _, _, _], _ => rfl), FD.kp, fun _ => He.glo_ok X G (c.fact 12 (f := .glo "pair_at") rfl), fun h => (by cases h)⟩⟩
theorem df13 (X : K.In h) (G : h.Ns mainGlobals mg) (c : He.SaysD Hd.fa Hd.fn K) : ∃ fA fd, DfOk (Sx K mg) F_read_part fA fd := by
  obtain ⟨fd, FD⟩ := c.def_ 13 (d := Hd.d13) rfl
  exact ⟨_, fd, ⟨⟨_, _, _, _, _, _, FD, ⟨by kernel_rfl, by kernel_rfl, by kernel_rfl, by decide +kernel, by kernel_rfl, by decide +kernel, by decide +kernel⟩, m_read_part K mg⟩, FD.bindsN (ps := F_read_part.ps) (fun _ _ _ _ _ _ us hl => match us, hl with | [_, _, _], _ => rfl), FD.kp, fun _ => He.glo_ok X G (c.fact 13 (f := .glo "read_part") rfl), fun h => (by cases h)⟩⟩
theorem df14 (X : K.In h) (G : h.Ns mainGlobals mg) (c : He.SaysD Hd.fa Hd.fn K) : ∃ fA fd, DfOk (Sx K mg) F_leaves_in fA fd := by
  obtain ⟨fd, FD⟩ := c.def_ 14 (d := Hd.d14) rfl
  exact ⟨_, fd, ⟨⟨_, _, _, _, _, _, FD, ⟨by kernel_rfl, by kernel_rfl, by kernel_rfl, by decide +kernel, by kernel_rfl, by decide +kernel, by decide +kernel⟩, m_leaves_in K mg⟩, FD.bindsN (ps := F_leaves_in.ps) (fun _ _ _ _ _ _ us hl => match us, hl with | [_], _ => rfl), FD.kp, fun _ => He.glo_ok X G (c.fact 14 (f := .glo "leaves_in") rfl), fun h => (by cases h)⟩⟩
theorem df15 (X : K.In h) (G : h.Ns mainGlobals mg) (c : He.SaysD Hd.fa Hd.fn K) : ∃ fA fd, DfOk (Sx K mg) F_is_by fA fd := by
  obtain ⟨fd, FD⟩ := c.def_ 15 (d := Hd.d15) rfl
  exact ⟨_, fd, ⟨⟨_, _, _, _, _, _, FD, ⟨by kernel_rfl, by kernel_rfl, by kernel_rfl, by decide +kernel, by kernel_rfl, by decide +kernel, by decide +kernel⟩, m_is_by K mg⟩, FD.bindsN (ps := F_is_by.ps) (fun _ _ _ _ _ _ us hl => match us, hl with | [_, _], _ => rfl), FD.kp, fun _ => He.glo_ok X G (c.fact 15 (f := .glo "is_by") rfl), fun h => (by cases h)⟩⟩
theorem df16 (X : K.In h) (G : h.Ns mainGlobals mg) (c : He.SaysD Hd.fa Hd.fn K) : ∃ fA fd, DfOk (Sx K mg) F_kind_of fA fd := by
  obtain ⟨fd, FD⟩ := c.def_ 16 (d := Hd.d16) rfl
  exact ⟨_, fd, ⟨⟨_, _, _, _, _, _, FD, ⟨by kernel_rfl, by kernel_rfl, by kernel_rfl, by decide +kernel, by kernel_rfl, by decide +kernel, by decide +kernel⟩, m_kind_of K mg⟩, FD.bindsN (ps := F_kind_of.ps) (fun _ _ _ _ _ _ us hl => match us, hl with | [_], _ => rfl), FD.kp, fun _ => He.glo_ok X G (c.fact 16 (f := .glo "kind_of") rfl), fun h => (by cases h)⟩⟩
theorem df17 (X : K.In h) (G : h.Ns mainGlobals mg) (c : He.SaysD Hd.fa Hd.fn K) : ∃ fA fd, DfOk (Sx K mg) F_marked_by fA fd := by
  obtain ⟨fd, FD⟩ := c.def_ 17 (d := Hd.d17) rfl
  exact ⟨_, fd, ⟨⟨_, _, _, _, _, _, FD, ⟨by kernel_rfl, by kernel_rfl, by kernel_rfl, by decide +kernel, by kernel_rfl, by decide +kernel, by decide +kernel⟩, m_marked_by K mg⟩, FD.bindsN (ps := F_marked_by.ps) (fun _ _ _ _ _ _ us hl => match us, hl with | [_, _], _ => rfl), FD.kp, fun _ => He.glo_ok X G (c.fact 17 (f := .glo "marked_by") rfl), fun h => (by cases h)⟩⟩
theorem df18 (X : K.In h) (G : h.Ns mainGlobals mg) (c : He.SaysD Hd.fa Hd.fn K) : ∃ fA fd, DfOk (Sx K mg) F_joined fA fd := by
  obtain ⟨fd, FD⟩ := c.def_ 18 (d := Hd.d18) rfl
  exact ⟨_, fd, ⟨⟨_, _, _, _, _, _, FD, ⟨by kernel_rfl, by kernel_rfl, by kernel_rfl, by decide +kernel, by kernel_rfl, by decide +kernel, by decide +kernel⟩, m_joined K mg⟩, FD.bindsN (ps := F_joined.ps) (fun _ _ _ _ _ _ us hl => match us, hl with | [_, _, _, _], _ => rfl), FD.kp, fun _ => He.glo_ok X G (c.fact 18 (f := .glo "joined") rfl), fun h => (by cases h)⟩⟩
theorem df19 (X : K.In h) (G : h.Ns mainGlobals mg) (c : He.SaysD Hd.fa Hd.fn K) : ∃ fA fd, DfOk (Sx K mg) F_turned fA fd := by
  obtain ⟨fd, FD⟩ := c.def_ 19 (d := Hd.d19) rfl
  exact ⟨_, fd, ⟨⟨_, _, _, _, _, _, FD, ⟨by kernel_rfl, by kernel_rfl, by kernel_rfl, by decide +kernel, by kernel_rfl, by decide +kernel, by decide +kernel⟩, m_turned K mg⟩, FD.bindsN (ps := F_turned.ps) (fun _ _ _ _ _ _ us hl => match us, hl with | [_, _, _], _ => rfl), FD.kp, fun _ => He.glo_ok X G (c.fact 19 (f := .glo "turned") rfl), fun h => (by cases h)⟩⟩
theorem df20 (X : K.In h) (G : h.Ns mainGlobals mg) (c : He.SaysD Hd.fa Hd.fn K) : ∃ fA fd, DfOk (Sx K mg) F_reckoned fA fd := by
  obtain ⟨fd, FD⟩ := c.def_ 20 (d := Hd.d20) rfl
  exact ⟨_, fd, ⟨⟨_, _, _, _, _, _, FD, ⟨by kernel_rfl, by kernel_rfl, by kernel_rfl, by decide +kernel, by kernel_rfl, by decide +kernel, by decide +kernel⟩, m_reckoned K mg⟩, FD.bindsN (ps := F_reckoned.ps) (fun _ _ _ _ _ _ us hl => match us, hl with | [_, _, _], _ => rfl), FD.kp, fun _ => He.glo_ok X G (c.fact 20 (f := .glo "reckoned") rfl), fun h => (by cases h)⟩⟩
theorem df21 (X : K.In h) (G : h.Ns mainGlobals mg) (c : He.SaysD Hd.fa Hd.fn K) : ∃ fA fd, DfOk (Sx K mg) F_led fA fd := by
  obtain ⟨fd, FD⟩ := c.def_ 21 (d := Hd.d21) rfl
  exact ⟨_, fd, ⟨⟨_, _, _, _, _, _, FD, ⟨by kernel_rfl, by kernel_rfl, by kernel_rfl, by decide +kernel, by kernel_rfl, by decide +kernel, by decide +kernel⟩, m_led K mg⟩, FD.bindsN (ps := F_led.ps) (fun _ _ _ _ _ _ us hl => match us, hl with | [_, _, _, _], _ => rfl), FD.kp, fun _ => He.glo_ok X G (c.fact 21 (f := .glo "led") rfl), fun h => (by cases h)⟩⟩
theorem df22 (X : K.In h) (G : h.Ns mainGlobals mg) (c : He.SaysD Hd.fa Hd.fn K) : ∃ fA fd, DfOk (Sx K mg) F_in_order fA fd := by
  obtain ⟨fd, FD⟩ := c.def_ 22 (d := Hd.d22) rfl
  exact ⟨_, fd, ⟨⟨_, _, _, _, _, _, FD, ⟨by kernel_rfl, by kernel_rfl, by kernel_rfl, by decide +kernel, by kernel_rfl, by decide +kernel, by decide +kernel⟩, m_in_order K mg⟩, FD.bindsN (ps := F_in_order.ps) (fun _ _ _ _ _ _ us hl => match us, hl with | [_, _], _ => rfl), FD.kp, fun _ => He.glo_ok X G (c.fact 22 (f := .glo "in_order") rfl), fun h => (by cases h)⟩⟩
theorem df23 (X : K.In h) (G : h.Ns mainGlobals mg) (c : He.SaysD Hd.fa Hd.fn K) : ∃ fA fd, DfOk (Sx K mg) F_closed_lot fA fd := by
  obtain ⟨fd, FD⟩ := c.def_ 23 (d := Hd.d23) rfl
  exact ⟨_, fd, ⟨⟨_, _, _, _, _, _, FD, ⟨by kernel_rfl, by kernel_rfl, by kernel_rfl, by decide +kernel, by kernel_rfl, by decide +kernel, by decide +kernel⟩, m_closed_lot K mg⟩, FD.bindsN (ps := F_closed_lot.ps) (fun _ _ _ _ _ _ us hl => match us, hl with | [_, _, _, _], _ => rfl), FD.kp, fun _ => He.glo_ok X G (c.fact 23 (f := .glo "closed_lot") rfl), fun h => (by cases h)⟩⟩
theorem df24 (X : K.In h) (G : h.Ns mainGlobals mg) (c : He.SaysD Hd.fa Hd.fn K) : ∃ fA fd, DfOk (Sx K mg) F_folded fA fd := by
  obtain ⟨fd, FD⟩ := c.def_ 24 (d := Hd.d24) rfl
  exact ⟨_, fd, ⟨⟨_, _, _, _, _, _, FD, ⟨by kernel_rfl, by kernel_rfl, by kernel_rfl, by decide +kernel, by kernel_rfl, by decide +kernel, by decide +kernel⟩, m_folded K mg⟩, FD.bindsN (ps := F_folded.ps) (fun _ _ _ _ _ _ us hl => match us, hl with | [_, _, _], _ => rfl), FD.kp, fun _ => He.glo_ok X G (c.fact 24 (f := .glo "folded") rfl), fun h => (by cases h)⟩⟩
theorem df25 (X : K.In h) (G : h.Ns mainGlobals mg) (c : He.SaysD Hd.fa Hd.fn K) : ∃ fA fd, DfOk (Sx K mg) F_badness fA fd := by
  obtain ⟨fd, FD⟩ := c.def_ 25 (d := Hd.d25) rfl
  exact ⟨_, fd, ⟨⟨_, _, _, _, _, _, FD, ⟨by kernel_rfl, by kernel_rfl, by kernel_rfl, by decide +kernel, by kernel_rfl, by decide +kernel, by decide +kernel⟩, m_badness K mg⟩, FD.bindsN (ps := F_badness.ps) (fun _ _ _ _ _ _ us hl => match us, hl with | [_], _ => rfl), FD.kp, fun _ => He.glo_ok X G (c.fact 25 (f := .glo "badness") rfl), fun h => (by cases h)⟩⟩
theorem df26 (X : K.In h) (G : h.Ns mainGlobals mg) (c : He.SaysD Hd.fa Hd.fn K) : ∃ fA fd, DfOk (Sx K mg) F_sight fA fd := by
  obtain ⟨fd, FD⟩ := c.def_ 26 (d := Hd.d26) rfl
  exact ⟨_, fd, ⟨⟨_, _, _, _, _, _, FD, ⟨by kernel_rfl, by kernel_rfl, by kernel_rfl, by decide +kernel, by kernel_rfl, by decide +kernel, by decide +kernel⟩, m_sight K mg⟩, FD.bindsN (ps := F_sight.ps) (fun _ _ _ _ _ _ us hl => match us, hl with | [_, _], _ => rfl), FD.kp, fun _ => He.glo_ok X G (c.fact 26 (f := .glo "sight") rfl), fun h => (by cases h)⟩⟩
theorem df27 (X : K.In h) (G : h.Ns mainGlobals mg) (c : He.SaysD Hd.fa Hd.fn K) : ∃ fA fd, DfOk (Sx K mg) F_marks_of fA fd := by
  obtain ⟨fd, FD⟩ := c.def_ 27 (d := Hd.d27) rfl
  exact ⟨_, fd, ⟨⟨_, _, _, _, _, _, FD, ⟨by kernel_rfl, by kernel_rfl, by kernel_rfl, by decide +kernel, by kernel_rfl, by decide +kernel, by decide +kernel⟩, m_marks_of K mg⟩, FD.bindsN (ps := F_marks_of.ps) (fun _ _ _ _ _ _ us hl => match us, hl with | [_, _, _, _], _ => rfl), FD.kp, fun _ => He.glo_ok X G (c.fact 27 (f := .glo "marks_of") rfl), fun h => (by cases h)⟩⟩
theorem df28 (X : K.In h) (G : h.Ns mainGlobals mg) (c : He.SaysD Hd.fa Hd.fn K) : ∃ fA fd, DfOk (Sx K mg) F_is_marked fA fd := by
  obtain ⟨fd, FD⟩ := c.def_ 28 (d := Hd.d28) rfl
  exact ⟨_, fd, ⟨⟨_, _, _, _, _, _, FD, ⟨by kernel_rfl, by kernel_rfl, by kernel_rfl, by decide +kernel, by kernel_rfl, by decide +kernel, by decide +kernel⟩, m_is_marked K mg⟩, FD.bindsN (ps := F_is_marked.ps) (fun _ _ _ _ _ _ us hl => match us, hl with | [_, _], _ => rfl), FD.kp, fun _ => He.glo_ok X G (c.fact 28 (f := .glo "is_marked") rfl), fun h => (by cases h)⟩⟩
theorem df29 (X : K.In h) (G : h.Ns mainGlobals mg) (c : He.SaysD Hd.fa Hd.fn K) : ∃ fA fd, DfOk (Sx K mg) F_are_leaves fA fd := by
  obtain ⟨fd, FD⟩ := c.def_ 29 (d := Hd.d29) rfl
  exact ⟨_, fd, ⟨⟨_, _, _, _, _, _, FD, ⟨by kernel_rfl, by kernel_rfl, by kernel_rfl, by decide +kernel, by kernel_rfl, by decide +kernel, by decide +kernel⟩, m_are_leaves K mg⟩, FD.bindsN (ps := F_are_leaves.ps) (fun _ _ _ _ _ _ us hl => match us, hl with | [_, _], _ => rfl), FD.kp, fun _ => He.glo_ok X G (c.fact 29 (f := .glo "are_leaves") rfl), fun h => (by cases h)⟩⟩
theorem df30 (X : K.In h) (G : h.Ns mainGlobals mg) (c : He.SaysD Hd.fa Hd.fn K) : ∃ fA fd, DfOk (Sx K mg) F_is_outcome fA fd := by
  obtain ⟨fd, FD⟩ := c.def_ 30 (d := Hd.d30) rfl
  exact ⟨_, fd, ⟨⟨_, _, _, _, _, _, FD, ⟨by kernel_rfl, by kernel_rfl, by kernel_rfl, by decide +kernel, by kernel_rfl, by decide +kernel, by decide +kernel⟩, m_is_outcome K mg⟩, FD.bindsN (ps := F_is_outcome.ps) (fun _ _ _ _ _ _ us hl => match us, hl with | [_, _], _ => rfl), FD.kp, fun _ => He.glo_ok X G (c.fact 30 (f := .glo "is_outcome") rfl), fun h => (by cases h)⟩⟩
theorem df31 (X : K.In h) (G : h.Ns mainGlobals mg) (c : He.SaysD Hd.fa Hd.fn K) : ∃ fA fd, DfOk (Sx K mg) F_is_lot fA fd := by
  obtain ⟨fd, FD⟩ := c.def_ 31 (d := Hd.d31) rfl
  exact ⟨_, fd, ⟨⟨_, _, _, _, _, _, FD, ⟨by kernel_rfl, by kernel_rfl, by kernel_rfl, by decide +kernel, by kernel_rfl, by decide +kernel, by decide +kernel⟩, m_is_lot K mg⟩, FD.bindsN (ps := F_is_lot.ps) (fun _ _ _ _ _ _ us hl => match us, hl with | [_, _], _ => rfl), FD.kp, fun _ => He.glo_ok X G (c.fact 31 (f := .glo "is_lot") rfl), fun h => (by cases h)⟩⟩
theorem df32 (X : K.In h) (G : h.Ns mainGlobals mg) (c : He.SaysD Hd.fa Hd.fn K) : ∃ fA fd, DfOk (Sx K mg) F_is_named fA fd := by
  obtain ⟨fd, FD⟩ := c.def_ 32 (d := Hd.d32) rfl
  exact ⟨_, fd, ⟨⟨_, _, _, _, _, _, FD, ⟨by kernel_rfl, by kernel_rfl, by kernel_rfl, by decide +kernel, by kernel_rfl, by decide +kernel, by decide +kernel⟩, m_is_named K mg⟩, FD.bindsN (ps := F_is_named.ps) (fun _ _ _ _ _ _ us hl => match us, hl with | [_, _], _ => rfl), FD.kp, fun _ => He.glo_ok X G (c.fact 32 (f := .glo "is_named") rfl), fun h => (by cases h)⟩⟩
theorem df33 (X : K.In h) (G : h.Ns mainGlobals mg) (c : He.SaysD Hd.fa Hd.fn K) : ∃ fA fd, DfOk (Sx K mg) F_is_closed fA fd := by
  obtain ⟨fd, FD⟩ := c.def_ 33 (d := Hd.d33) rfl
  exact ⟨_, fd, ⟨⟨_, _, _, _, _, _, FD, ⟨by kernel_rfl, by kernel_rfl, by kernel_rfl, by decide +kernel, by kernel_rfl, by decide +kernel, by decide +kernel⟩, m_is_closed K mg⟩, FD.bindsN (ps := F_is_closed.ps) (fun _ _ _ _ _ _ us hl => match us, hl with | [_, _, _, _, _], _ => rfl), FD.kp, fun _ => He.glo_ok X G (c.fact 33 (f := .glo "is_closed") rfl), fun h => (by cases h)⟩⟩
theorem df34 (X : K.In h) (G : h.Ns mainGlobals mg) (c : He.SaysD Hd.fa Hd.fn K) : ∃ fA fd, DfOk (Sx K mg) F_is_two fA fd := by
  obtain ⟨fd, FD⟩ := c.def_ 34 (d := Hd.d34) rfl
  exact ⟨_, fd, ⟨⟨_, _, _, _, _, _, FD, ⟨by kernel_rfl, by kernel_rfl, by kernel_rfl, by decide +kernel, by kernel_rfl, by decide +kernel, by decide +kernel⟩, m_is_two K mg⟩, FD.bindsN (ps := F_is_two.ps) (fun _ _ _ _ _ _ us hl => match us, hl with | [_], _ => rfl), FD.kp, fun _ => He.glo_ok X G (c.fact 34 (f := .glo "is_two") rfl), fun h => (by cases h)⟩⟩
theorem df35 (X : K.In h) (G : h.Ns mainGlobals mg) (c : He.SaysD Hd.fa Hd.fn K) : ∃ fA fd, DfOk (Sx K mg) F_parts_by fA fd := by
  obtain ⟨fd, FD⟩ := c.def_ 35 (d := Hd.d35) rfl
  exact ⟨_, fd, ⟨⟨_, _, _, _, _, _, FD, ⟨by kernel_rfl, by kernel_rfl, by kernel_rfl, by decide +kernel, by kernel_rfl, by decide +kernel, by decide +kernel⟩, m_parts_by K mg⟩, FD.bindsN (ps := F_parts_by.ps) (fun _ _ _ _ _ _ us hl => match us, hl with | [_, _, _, _], _ => rfl), FD.kp, fun _ => He.glo_ok X G (c.fact 35 (f := .glo "parts_by") rfl), fun h => (by cases h)⟩⟩
theorem df36 (X : K.In h) (G : h.Ns mainGlobals mg) (c : He.SaysD Hd.fa Hd.fn K) : ∃ fA fd, DfOk (Sx K mg) F_outcome_shown fA fd := by
  obtain ⟨fd, FD⟩ := c.def_ 36 (d := Hd.d36) rfl
  exact ⟨_, fd, ⟨⟨_, _, _, _, _, _, FD, ⟨by kernel_rfl, by kernel_rfl, by kernel_rfl, by decide +kernel, by kernel_rfl, by decide +kernel, by decide +kernel⟩, m_outcome_shown K mg⟩, FD.bindsN (ps := F_outcome_shown.ps) (fun _ _ _ _ _ _ us hl => match us, hl with | [_, _, _], _ => rfl), FD.kp, fun _ => He.glo_ok X G (c.fact 36 (f := .glo "outcome_shown") rfl), fun h => (by cases h)⟩⟩
theorem df37 (X : K.In h) (G : h.Ns mainGlobals mg) (c : He.SaysD Hd.fa Hd.fn K) : ∃ fA fd, DfOk (Sx K mg) F_reach_shown fA fd := by
  obtain ⟨fd, FD⟩ := c.def_ 37 (d := Hd.d37) rfl
  exact ⟨_, fd, ⟨⟨_, _, _, _, _, _, FD, ⟨by kernel_rfl, by kernel_rfl, by kernel_rfl, by decide +kernel, by kernel_rfl, by decide +kernel, by decide +kernel⟩, m_reach_shown K mg⟩, FD.bindsN (ps := F_reach_shown.ps) (fun _ _ _ _ _ _ us hl => match us, hl with | [_, _, _, _], _ => rfl), FD.kp, fun _ => He.glo_ok X G (c.fact 37 (f := .glo "reach_shown") rfl), fun h => (by cases h)⟩⟩
theorem df38 (X : K.In h) (G : h.Ns mainGlobals mg) (c : He.SaysD Hd.fa Hd.fn K) : ∃ fA fd, DfOk (Sx K mg) F_agrees fA fd := by
  obtain ⟨fd, FD⟩ := c.def_ 38 (d := Hd.d38) rfl
  exact ⟨_, fd, ⟨⟨_, _, _, _, _, _, FD, ⟨by kernel_rfl, by kernel_rfl, by kernel_rfl, by decide +kernel, by kernel_rfl, by decide +kernel, by decide +kernel⟩, m_agrees K mg⟩, FD.bindsN (ps := F_agrees.ps) (fun _ _ _ _ _ _ us hl => match us, hl with | [_, _, _, _, _], _ => rfl), FD.kp, fun _ => He.glo_ok X G (c.fact 38 (f := .glo "agrees") rfl), fun h => (by cases h)⟩⟩
theorem df39 (X : K.In h) (G : h.Ns mainGlobals mg) (c : He.SaysD Hd.fa Hd.fn K) : ∃ fA fd, DfOk (Sx K mg) F_groups fA fd := by
  obtain ⟨fd, FD⟩ := c.def_ 39 (d := Hd.d39) rfl
  exact ⟨_, fd, ⟨⟨_, _, _, _, _, _, FD, ⟨by kernel_rfl, by kernel_rfl, by kernel_rfl, by decide +kernel, by kernel_rfl, by decide +kernel, by decide +kernel⟩, m_groups K mg⟩, FD.bindsN (ps := F_groups.ps) (fun _ _ _ _ _ _ us hl => match us, hl with | [_, _, _], _ => rfl), FD.kp, fun _ => He.glo_ok X G (c.fact 39 (f := .glo "groups") rfl), fun h => (by cases h)⟩⟩
theorem df40 (X : K.In h) (G : h.Ns mainGlobals mg) (c : He.SaysD Hd.fa Hd.fn K) : ∃ fA fd, DfOk (Sx K mg) F_swaps fA fd := by
  obtain ⟨fd, FD⟩ := c.def_ 40 (d := Hd.d40) rfl
  exact ⟨_, fd, ⟨⟨_, _, _, _, _, _, FD, ⟨by kernel_rfl, by kernel_rfl, by kernel_rfl, by decide +kernel, by kernel_rfl, by decide +kernel, by decide +kernel⟩, m_swaps K mg⟩, FD.bindsN (ps := F_swaps.ps) (fun _ _ _ _ _ _ us hl => match us, hl with | [_, _, _], _ => rfl), FD.kp, fun _ => He.glo_ok X G (c.fact 40 (f := .glo "swaps") rfl), fun h => (by cases h)⟩⟩
theorem df41 (X : K.In h) (G : h.Ns mainGlobals mg) (c : He.SaysD Hd.fa Hd.fn K) : ∃ fA fd, DfOk (Sx K mg) F_grouping_shown fA fd := by
  obtain ⟨fd, FD⟩ := c.def_ 41 (d := Hd.d41) rfl
  exact ⟨_, fd, ⟨⟨_, _, _, _, _, _, FD, ⟨by kernel_rfl, by kernel_rfl, by kernel_rfl, by decide +kernel, by kernel_rfl, by decide +kernel, by decide +kernel⟩, m_grouping_shown K mg⟩, FD.bindsN (ps := F_grouping_shown.ps) (fun _ _ _ _ _ _ us hl => match us, hl with | [_, _, _, _], _ => rfl), FD.kp, fun _ => He.glo_ok X G (c.fact 41 (f := .glo "grouping_shown") rfl), fun h => (by cases h)⟩⟩
theorem df42 (X : K.In h) (G : h.Ns mainGlobals mg) (c : He.SaysD Hd.fa Hd.fn K) : ∃ fA fd, DfOk (Sx K mg) F_exchange_shown fA fd := by
  obtain ⟨fd, FD⟩ := c.def_ 42 (d := Hd.d42) rfl
  exact ⟨_, fd, ⟨⟨_, _, _, _, _, _, FD, ⟨by kernel_rfl, by kernel_rfl, by kernel_rfl, by decide +kernel, by kernel_rfl, by decide +kernel, by decide +kernel⟩, m_exchange_shown K mg⟩, FD.bindsN (ps := F_exchange_shown.ps) (fun _ _ _ _ _ _ us hl => match us, hl with | [_, _, _, _], _ => rfl), FD.kp, fun _ => He.glo_ok X G (c.fact 42 (f := .glo "exchange_shown") rfl), fun h => (by cases h)⟩⟩
theorem df43 (X : K.In h) (G : h.Ns mainGlobals mg) (c : He.SaysD Hd.fa Hd.fn K) : ∃ fA fd, DfOk (Sx K mg) F_turns_fold fA fd := by
  obtain ⟨fd, FD⟩ := c.def_ 43 (d := Hd.d43) rfl
  exact ⟨_, fd, ⟨⟨_, _, _, _, _, _, FD, ⟨by kernel_rfl, by kernel_rfl, by kernel_rfl, by decide +kernel, by kernel_rfl, by decide +kernel, by decide +kernel⟩, m_turns_fold K mg⟩, FD.bindsN (ps := F_turns_fold.ps) (fun _ _ _ _ _ _ us hl => match us, hl with | [_, _, _, _, _], _ => rfl), FD.kp, fun _ => He.glo_ok X G (c.fact 43 (f := .glo "turns_fold") rfl), fun h => (by cases h)⟩⟩
theorem df44 (X : K.In h) (G : h.Ns mainGlobals mg) (c : He.SaysD Hd.fa Hd.fn K) : ∃ fA fd, DfOk (Sx K mg) F_folds_by fA fd := by
  obtain ⟨fd, FD⟩ := c.def_ 44 (d := Hd.d44) rfl
  exact ⟨_, fd, ⟨⟨_, _, _, _, _, _, FD, ⟨by kernel_rfl, by kernel_rfl, by kernel_rfl, by decide +kernel, by kernel_rfl, by decide +kernel, by decide +kernel⟩, m_folds_by K mg⟩, FD.bindsN (ps := F_folds_by.ps) (fun _ _ _ _ _ _ us hl => match us, hl with | [_, _, _, _], _ => rfl), FD.kp, fun _ => He.glo_ok X G (c.fact 44 (f := .glo "folds_by") rfl), fun h => (by cases h)⟩⟩
theorem df45 (X : K.In h) (G : h.Ns mainGlobals mg) (c : He.SaysD Hd.fa Hd.fn K) : ∃ fA fd, DfOk (Sx K mg) F_are_lists fA fd := by
  obtain ⟨fd, FD⟩ := c.def_ 45 (d := Hd.d45) rfl
  exact ⟨_, fd, ⟨⟨_, _, _, _, _, _, FD, ⟨by kernel_rfl, by kernel_rfl, by kernel_rfl, by decide +kernel, by kernel_rfl, by decide +kernel, by decide +kernel⟩, m_are_lists K mg⟩, FD.bindsN (ps := F_are_lists.ps) (fun _ _ _ _ _ _ us hl => match us, hl with | [_, _], _ => rfl), FD.kp, fun _ => He.glo_ok X G (c.fact 45 (f := .glo "are_lists") rfl), fun h => (by cases h)⟩⟩
theorem df46 (X : K.In h) (G : h.Ns mainGlobals mg) (c : He.SaysD Hd.fa Hd.fn K) : ∃ fA fd, DfOk (Sx K mg) F_folds_shown fA fd := by
  obtain ⟨fd, FD⟩ := c.def_ 46 (d := Hd.d46) rfl
  exact ⟨_, fd, ⟨⟨_, _, _, _, _, _, FD, ⟨by kernel_rfl, by kernel_rfl, by kernel_rfl, by decide +kernel, by kernel_rfl, by decide +kernel, by decide +kernel⟩, m_folds_shown K mg⟩, FD.bindsN (ps := F_folds_shown.ps) (fun _ _ _ _ _ _ us hl => match us, hl with | [_, _, _, _], _ => rfl), FD.kp, fun _ => He.glo_ok X G (c.fact 46 (f := .glo "folds_shown") rfl), fun h => (by cases h)⟩⟩
theorem df47 (X : K.In h) (G : h.Ns mainGlobals mg) (c : He.SaysD Hd.fa Hd.fn K) : ∃ fA fd, DfOk (Sx K mg) F_variables_in fA fd := by
  obtain ⟨fd, FD⟩ := c.def_ 47 (d := Hd.d47) rfl
  exact ⟨_, fd, ⟨⟨_, _, _, _, _, _, FD, ⟨by kernel_rfl, by kernel_rfl, by kernel_rfl, by decide +kernel, by kernel_rfl, by decide +kernel, by decide +kernel⟩, m_variables_in K mg⟩, FD.bindsN (ps := F_variables_in.ps) (fun _ _ _ _ _ _ us hl => match us, hl with | [_], _ => rfl), FD.kp, fun _ => He.glo_ok X G (c.fact 47 (f := .glo "variables_in") rfl), fun h => (by cases h)⟩⟩
theorem df48 (X : K.In h) (G : h.Ns mainGlobals mg) (c : He.SaysD Hd.fa Hd.fn K) : ∃ fA fd, DfOk (Sx K mg) F_is_equal fA fd := by
  obtain ⟨fd, FD⟩ := c.def_ 48 (d := Hd.d48) rfl
  exact ⟨_, fd, ⟨⟨_, _, _, _, _, _, FD, ⟨by kernel_rfl, by kernel_rfl, by kernel_rfl, by decide +kernel, by kernel_rfl, by decide +kernel, by decide +kernel⟩, m_is_equal K mg⟩, FD.bindsN (ps := F_is_equal.ps) (fun _ _ _ _ _ _ us hl => match us, hl with | [_, _, _], _ => rfl), FD.kp, fun _ => He.glo_ok X G (c.fact 48 (f := .glo "is_equal") rfl), fun h => (by cases h)⟩⟩
theorem df49 (X : K.In h) (G : h.Ns mainGlobals mg) (c : He.SaysD Hd.fa Hd.fn K) : ∃ fA fd, DfOk (Sx K mg) F_all_values fA fd := by
  obtain ⟨fd, FD⟩ := c.def_ 49 (d := Hd.d49) rfl
  exact ⟨_, fd, ⟨⟨_, _, _, _, _, _, FD, ⟨by kernel_rfl, by kernel_rfl, by kernel_rfl, by decide +kernel, by kernel_rfl, by decide +kernel, by decide +kernel⟩, m_all_values K mg⟩, FD.bindsN (ps := F_all_values.ps) (fun _ _ _ _ _ _ us hl => match us, hl with | [_, _], _ => rfl), FD.kp, fun _ => He.glo_ok X G (c.fact 49 (f := .glo "all_values") rfl), fun h => (by cases h)⟩⟩
theorem df50 (X : K.In h) (G : h.Ns mainGlobals mg) (c : He.SaysD Hd.fa Hd.fn K) : ∃ fA fd, DfOk (Sx K mg) F_given_values fA fd := by
  obtain ⟨fd, FD⟩ := c.def_ 50 (d := Hd.d50) rfl
  exact ⟨_, fd, ⟨⟨_, _, _, _, _, _, FD, ⟨by kernel_rfl, by kernel_rfl, by kernel_rfl, by decide +kernel, by kernel_rfl, by decide +kernel, by decide +kernel⟩, m_given_values K mg⟩, FD.bindsN (ps := F_given_values.ps) (fun _ _ _ _ _ _ us hl => match us, hl with | [_, _, _, _], _ => rfl), FD.kp, fun _ => He.glo_ok X G (c.fact 50 (f := .glo "given_values") rfl), fun h => (by cases h)⟩⟩
theorem df51 (X : K.In h) (G : h.Ns mainGlobals mg) (c : He.SaysD Hd.fa Hd.fn K) : ∃ fA fd, DfOk (Sx K mg) F_equal_shown fA fd := by
  obtain ⟨fd, FD⟩ := c.def_ 51 (d := Hd.d51) rfl
  exact ⟨_, fd, ⟨⟨_, _, _, _, _, _, FD, ⟨by kernel_rfl, by kernel_rfl, by kernel_rfl, by decide +kernel, by kernel_rfl, by decide +kernel, by decide +kernel⟩, m_equal_shown K mg⟩, FD.bindsN (ps := F_equal_shown.ps) (fun _ _ _ _ _ _ us hl => match us, hl with | [_, _, _, _], _ => rfl), FD.kp, fun _ => He.glo_ok X G (c.fact 51 (f := .glo "equal_shown") rfl), fun h => (by cases h)⟩⟩
theorem df52 (X : K.In h) (G : h.Ns mainGlobals mg) (c : He.SaysD Hd.fa Hd.fn K) : ∃ fA fd, DfOk (Sx K mg) F_are_matched fA fd := by
  obtain ⟨fd, FD⟩ := c.def_ 52 (d := Hd.d52) rfl
  exact ⟨_, fd, ⟨⟨_, _, _, _, _, _, FD, ⟨by kernel_rfl, by kernel_rfl, by kernel_rfl, by decide +kernel, by kernel_rfl, by decide +kernel, by decide +kernel⟩, m_are_matched K mg⟩, FD.bindsN (ps := F_are_matched.ps) (fun _ _ _ _ _ _ us hl => match us, hl with | [_, _], _ => rfl), FD.kp, fun _ => He.glo_ok X G (c.fact 52 (f := .glo "are_matched") rfl), fun h => (by cases h)⟩⟩
theorem df53 (X : K.In h) (G : h.Ns mainGlobals mg) (c : He.SaysD Hd.fa Hd.fn K) : ∃ fA fd, DfOk (Sx K mg) F_two_shown fA fd := by
  obtain ⟨fd, FD⟩ := c.def_ 53 (d := Hd.d53) rfl
  exact ⟨_, fd, ⟨⟨_, _, _, _, _, _, FD, ⟨by kernel_rfl, by kernel_rfl, by kernel_rfl, by decide +kernel, by kernel_rfl, by decide +kernel, by decide +kernel⟩, m_two_shown K mg⟩, FD.bindsN (ps := F_two_shown.ps) (fun _ _ _ _ _ _ us hl => match us, hl with | [_, _, _, _], _ => rfl), FD.kp, fun _ => He.glo_ok X G (c.fact 53 (f := .glo "two_shown") rfl), fun h => (by cases h)⟩⟩
theorem df54 (X : K.In h) (G : h.Ns mainGlobals mg) (c : He.SaysD Hd.fa Hd.fn K) : ∃ fA fd, DfOk (Sx K mg) F_lots_by fA fd := by
  obtain ⟨fd, FD⟩ := c.def_ 54 (d := Hd.d54) rfl
  exact ⟨_, fd, ⟨⟨_, _, _, _, _, _, FD, ⟨by kernel_rfl, by kernel_rfl, by kernel_rfl, by decide +kernel, by kernel_rfl, by decide +kernel, by decide +kernel⟩, m_lots_by K mg⟩, FD.bindsN (ps := F_lots_by.ps) (fun _ _ _ _ _ _ us hl => match us, hl with | [_, _], _ => rfl), FD.kp, fun _ => He.glo_ok X G (c.fact 54 (f := .glo "lots_by") rfl), fun h => (by cases h)⟩⟩
theorem df55 (X : K.In h) (G : h.Ns mainGlobals mg) (c : He.SaysD Hd.fa Hd.fn K) : ∃ fA fd, DfOk (Sx K mg) F_same_by fA fd := by
  obtain ⟨fd, FD⟩ := c.def_ 55 (d := Hd.d55) rfl
  exact ⟨_, fd, ⟨⟨_, _, _, _, _, _, FD, ⟨by kernel_rfl, by kernel_rfl, by kernel_rfl, by decide +kernel, by kernel_rfl, by decide +kernel, by decide +kernel⟩, m_same_by K mg⟩, FD.bindsN (ps := F_same_by.ps) (fun _ _ _ _ _ _ us hl => match us, hl with | [_, _, _, _], _ => rfl), FD.kp, fun _ => He.glo_ok X G (c.fact 55 (f := .glo "same_by") rfl), fun h => (by cases h)⟩⟩
theorem df56 (X : K.In h) (G : h.Ns mainGlobals mg) (c : He.SaysD Hd.fa Hd.fn K) : ∃ fA fd, DfOk (Sx K mg) F_same_shown fA fd := by
  obtain ⟨fd, FD⟩ := c.def_ 56 (d := Hd.d56) rfl
  exact ⟨_, fd, ⟨⟨_, _, _, _, _, _, FD, ⟨by kernel_rfl, by kernel_rfl, by kernel_rfl, by decide +kernel, by kernel_rfl, by decide +kernel, by decide +kernel⟩, m_same_shown K mg⟩, FD.bindsN (ps := F_same_shown.ps) (fun _ _ _ _ _ _ us hl => match us, hl with | [_, _, _, _], _ => rfl), FD.kp, fun _ => He.glo_ok X G (c.fact 56 (f := .glo "same_shown") rfl), fun h => (by cases h)⟩⟩
theorem df57 (X : K.In h) (G : h.Ns mainGlobals mg) (c : He.SaysD Hd.fa Hd.fn K) : ∃ fA fd, DfOk (Sx K mg) F_length_of fA fd := by
  obtain ⟨fd, FD⟩ := c.def_ 57 (d := Hd.d57) rfl
  exact ⟨_, fd, ⟨⟨_, _, _, _, _, _, FD, ⟨by kernel_rfl, by kernel_rfl, by kernel_rfl, by decide +kernel, by kernel_rfl, by decide +kernel, by decide +kernel⟩, m_length_of K mg⟩, FD.bindsN (ps := F_length_of.ps) (fun _ _ _ _ _ _ us hl => match us, hl with | [_], _ => rfl), FD.kp, fun _ => He.glo_ok X G (c.fact 57 (f := .glo "length_of") rfl), fun h => (by cases h)⟩⟩
theorem df58 (X : K.In h) (G : h.Ns mainGlobals mg) (c : He.SaysD Hd.fa Hd.fn K) : ∃ fA fd, DfOk (Sx K mg) F_shown fA fd := by
  obtain ⟨fd, FD⟩ := c.def_ 58 (d := Hd.d58) rfl
  exact ⟨_, fd, ⟨⟨_, _, _, _, _, _, FD, ⟨by kernel_rfl, by kernel_rfl, by kernel_rfl, by decide +kernel, by kernel_rfl, by decide +kernel, by decide +kernel⟩, m_shown K mg⟩, FD.bindsN (ps := F_shown.ps) (fun _ _ _ _ _ _ us hl => match us, hl with | [_, _, _, _], _ => rfl), FD.kp, fun _ => He.glo_ok X G (c.fact 58 (f := .glo "shown") rfl), fun h => (by cases h)⟩⟩
theorem df59 (X : K.In h) (G : h.Ns mainGlobals mg) (c : He.SaysD Hd.fa Hd.fn K) : ∃ fA fd, DfOk (Sx K mg) F_accepts fA fd := by
  obtain ⟨fd, FD⟩ := c.def_ 59 (d := Hd.d59) rfl
  exact ⟨_, fd, ⟨⟨_, _, _, _, _, _, FD, ⟨by kernel_rfl, by kernel_rfl, by kernel_rfl, by decide +kernel, by kernel_rfl, by decide +kernel, by decide +kernel⟩, m_accepts K mg⟩, FD.bindsN (ps := F_accepts.ps) (fun _ _ _ _ _ _ us hl => match us, hl with | [_, _], _ => rfl), FD.kp, fun _ => He.glo_ok X G (c.fact 59 (f := .glo "accepts") rfl), fun h => (by cases h)⟩⟩
theorem df60 (X : K.In h) (G : h.Ns mainGlobals mg) (c : He.SaysD Hd.fa Hd.fn K) : ∃ fA fd, DfOk (Sx K mg) F__law_jar fA fd := by
  obtain ⟨fd, FD⟩ := c.def_ 60 (d := Hd.d60) rfl
  exact ⟨_, fd, ⟨⟨_, _, _, _, _, _, FD, ⟨by kernel_rfl, by kernel_rfl, by kernel_rfl, by decide +kernel, by kernel_rfl, by decide +kernel, by decide +kernel⟩, m__law_jar K mg⟩, FD.bindsN (ps := F__law_jar.ps) (fun _ _ _ _ _ _ us hl => match us, hl with | [_, _], _ => rfl), FD.kp, fun _ => He.glo_ok X G (c.fact 60 (f := .glo "_law_jar") rfl), fun h => (by cases h)⟩⟩
theorem df61 (X : K.In h) (G : h.Ns mainGlobals mg) (c : He.SaysD Hd.fa Hd.fn K) : ∃ fA fd, DfOk (Sx K mg) F__law_scoop fA fd := by
  obtain ⟨fd, FD⟩ := c.def_ 61 (d := Hd.d61) rfl
  exact ⟨_, fd, ⟨⟨_, _, _, _, _, _, FD, ⟨by kernel_rfl, by kernel_rfl, by kernel_rfl, by decide +kernel, by kernel_rfl, by decide +kernel, by decide +kernel⟩, m__law_scoop K mg⟩, FD.bindsN (ps := F__law_scoop.ps) (fun _ _ _ _ _ _ us hl => match us, hl with | [_, _], _ => rfl), FD.kp, fun _ => He.glo_ok X G (c.fact 61 (f := .glo "_law_scoop") rfl), fun h => (by cases h)⟩⟩
theorem df62 (X : K.In h) (G : h.Ns mainGlobals mg) (c : He.SaysD Hd.fa Hd.fn K) : ∃ fA fd, DfOk (Sx K mg) F__law_any fA fd := by
  obtain ⟨fd, FD⟩ := c.def_ 62 (d := Hd.d62) rfl
  exact ⟨_, fd, ⟨⟨_, _, _, _, _, _, FD, ⟨by kernel_rfl, by kernel_rfl, by kernel_rfl, by decide +kernel, by kernel_rfl, by decide +kernel, by decide +kernel⟩, m__law_any K mg⟩, FD.bindsN (ps := F__law_any.ps) (fun _ _ _ _ _ _ us hl => match us, hl with | [_, _], _ => rfl), FD.kp, fun _ => He.glo_ok X G (c.fact 62 (f := .glo "_law_any") rfl), fun h => (by cases h)⟩⟩
theorem df63 (X : K.In h) (G : h.Ns mainGlobals mg) (c : He.SaysD Hd.fa Hd.fn K) : ∃ fA fd, DfOk (Sx K mg) F__law_words fA fd := by
  obtain ⟨fd, FD⟩ := c.def_ 63 (d := Hd.d63) rfl
  exact ⟨_, fd, ⟨⟨_, _, _, _, _, _, FD, ⟨by kernel_rfl, by kernel_rfl, by kernel_rfl, by decide +kernel, by kernel_rfl, by decide +kernel, by decide +kernel⟩, m__law_words K mg⟩, FD.bindsN (ps := F__law_words.ps) (fun _ _ _ _ _ _ us hl => match us, hl with | [_, _], _ => rfl), FD.kp, fun _ => He.glo_ok X G (c.fact 63 (f := .glo "_law_words") rfl), fun h => (by cases h)⟩⟩
theorem df64 (X : K.In h) (G : h.Ns mainGlobals mg) (c : He.SaysD Hd.fa Hd.fn K) : ∃ fA fd, DfOk (Sx K mg) F__law_cell fA fd := by
  obtain ⟨fd, FD⟩ := c.def_ 64 (d := Hd.d64) rfl
  exact ⟨_, fd, ⟨⟨_, _, _, _, _, _, FD, ⟨by kernel_rfl, by kernel_rfl, by kernel_rfl, by decide +kernel, by kernel_rfl, by decide +kernel, by decide +kernel⟩, m__law_cell K mg⟩, FD.bindsN (ps := F__law_cell.ps) (fun _ _ _ _ _ _ us hl => match us, hl with | [_, _, _, _], _ => rfl), FD.kp, fun _ => He.glo_ok X G (c.fact 64 (f := .glo "_law_cell") rfl), fun h => (by cases h)⟩⟩
theorem df65 (X : K.In h) (G : h.Ns mainGlobals mg) (c : He.SaysD Hd.fa Hd.fn K) : ∃ fA fd, DfOk (Sx K mg) F__law_web fA fd := by
  obtain ⟨fd, FD⟩ := c.def_ 65 (d := Hd.d65) rfl
  exact ⟨_, fd, ⟨⟨_, _, _, _, _, _, FD, ⟨by kernel_rfl, by kernel_rfl, by kernel_rfl, by decide +kernel, by kernel_rfl, by decide +kernel, by decide +kernel⟩, m__law_web K mg⟩, FD.bindsN (ps := F__law_web.ps) (fun _ _ _ _ _ _ us hl => match us, hl with | [_, _], _ => rfl), FD.kp, fun _ => He.glo_ok X G (c.fact 65 (f := .glo "_law_web") rfl), fun h => (by cases h)⟩⟩
theorem df66 (X : K.In h) (G : h.Ns mainGlobals mg) (c : He.SaysD Hd.fa Hd.fn K) : ∃ fA fd, DfOk (Sx K mg) F__law_page fA fd := by
  obtain ⟨fd, FD⟩ := c.def_ 66 (d := Hd.d66) rfl
  exact ⟨_, fd, ⟨⟨_, _, _, _, _, _, FD, ⟨by kernel_rfl, by kernel_rfl, by kernel_rfl, by decide +kernel, by kernel_rfl, by decide +kernel, by decide +kernel⟩, m__law_page K mg⟩, FD.bindsN (ps := F__law_page.ps) (fun _ _ _ _ _ _ us hl => match us, hl with | [_], _ => rfl), FD.kp, fun _ => He.glo_ok X G (c.fact 66 (f := .glo "_law_page") rfl), fun h => (by cases h)⟩⟩
theorem df67 (X : K.In h) (G : h.Ns mainGlobals mg) (c : He.SaysD Hd.fa Hd.fn K) : ∃ fA fd, DfOk (Sx K mg) F__law_lot fA fd := by
  obtain ⟨fd, FD⟩ := c.def_ 67 (d := Hd.d67) rfl
  exact ⟨_, fd, ⟨⟨_, _, _, _, _, _, FD, ⟨by kernel_rfl, by kernel_rfl, by kernel_rfl, by decide +kernel, by kernel_rfl, by decide +kernel, by decide +kernel⟩, m__law_lot K mg⟩, FD.bindsN (ps := F__law_lot.ps) (fun _ _ _ _ _ _ us hl => match us, hl with | [_, _], _ => rfl), FD.kp, fun _ => He.glo_ok X G (c.fact 67 (f := .glo "_law_lot") rfl), fun h => (by cases h)⟩⟩
theorem df68 (X : K.In h) (G : h.Ns mainGlobals mg) (c : He.SaysD Hd.fa Hd.fn K) : ∃ fA fd, DfOk (Sx K mg) F__law_mark fA fd := by
  obtain ⟨fd, FD⟩ := c.def_ 68 (d := Hd.d68) rfl
  exact ⟨_, fd, ⟨⟨_, _, _, _, _, _, FD, ⟨by kernel_rfl, by kernel_rfl, by kernel_rfl, by decide +kernel, by kernel_rfl, by decide +kernel, by decide +kernel⟩, m__law_mark K mg⟩, FD.bindsN (ps := F__law_mark.ps) (fun _ _ _ _ _ _ us hl => match us, hl with | [_, _], _ => rfl), FD.kp, fun _ => He.glo_ok X G (c.fact 68 (f := .glo "_law_mark") rfl), fun h => (by cases h)⟩⟩
theorem df69 (X : K.In h) (G : h.Ns mainGlobals mg) (c : He.SaysD Hd.fa Hd.fn K) : ∃ fA fd, DfOk (Sx K mg) F__law_both fA fd := by
  obtain ⟨fd, FD⟩ := c.def_ 69 (d := Hd.d69) rfl
  exact ⟨_, fd, ⟨⟨_, _, _, _, _, _, FD, ⟨by kernel_rfl, by kernel_rfl, by kernel_rfl, by decide +kernel, by kernel_rfl, by decide +kernel, by decide +kernel⟩, m__law_both K mg⟩, FD.bindsN (ps := F__law_both.ps) (fun _ _ _ _ _ _ us hl => match us, hl with | [_, _, _, _], _ => rfl), FD.kp, fun _ => He.glo_ok X G (c.fact 69 (f := .glo "_law_both") rfl), fun h => (by cases h)⟩⟩
theorem df70 (X : K.In h) (G : h.Ns mainGlobals mg) (c : He.SaysD Hd.fa Hd.fn K) : ∃ fA fd, DfOk (Sx K mg) F__law_all fA fd := by
  obtain ⟨fd, FD⟩ := c.def_ 70 (d := Hd.d70) rfl
  exact ⟨_, fd, ⟨⟨_, _, _, _, _, _, FD, ⟨by kernel_rfl, by kernel_rfl, by kernel_rfl, by decide +kernel, by kernel_rfl, by decide +kernel, by decide +kernel⟩, m__law_all K mg⟩, FD.bindsN (ps := F__law_all.ps) (fun _ _ _ _ _ _ us hl => match us, hl with | [_], _ => rfl), FD.kp, fun _ => He.glo_ok X G (c.fact 70 (f := .glo "_law_all") rfl), fun h => (by cases h)⟩⟩
theorem df71 (X : K.In h) (G : h.Ns mainGlobals mg) (c : He.SaysD Hd.fa Hd.fn K) : ∃ fA fd, DfOk (Sx K mg) F__law_is_lot fA fd := by
  obtain ⟨fd, FD⟩ := c.def_ 71 (d := Hd.d71) rfl
  exact ⟨_, fd, ⟨⟨_, _, _, _, _, _, FD, ⟨by kernel_rfl, by kernel_rfl, by kernel_rfl, by decide +kernel, by kernel_rfl, by decide +kernel, by decide +kernel⟩, m__law_is_lot K mg⟩, FD.bindsN (ps := F__law_is_lot.ps) (fun _ _ _ _ _ _ us hl => match us, hl with | [_, _], _ => rfl), FD.kp, fun _ => He.glo_ok X G (c.fact 71 (f := .glo "_law_is_lot") rfl), fun h => (by cases h)⟩⟩
theorem df72 (X : K.In h) (G : h.Ns mainGlobals mg) (c : He.SaysD Hd.fa Hd.fn K) : ∃ fA fd, DfOk (Sx K mg) F__law_is_leaves fA fd := by
  obtain ⟨fd, FD⟩ := c.def_ 72 (d := Hd.d72) rfl
  exact ⟨_, fd, ⟨⟨_, _, _, _, _, _, FD, ⟨by kernel_rfl, by kernel_rfl, by kernel_rfl, by decide +kernel, by kernel_rfl, by decide +kernel, by decide +kernel⟩, m__law_is_leaves K mg⟩, FD.bindsN (ps := F__law_is_leaves.ps) (fun _ _ _ _ _ _ us hl => match us, hl with | [_, _], _ => rfl), FD.kp, fun _ => He.glo_ok X G (c.fact 72 (f := .glo "_law_is_leaves") rfl), fun h => (by cases h)⟩⟩
theorem df73 (X : K.In h) (G : h.Ns mainGlobals mg) (c : He.SaysD Hd.fa Hd.fn K) : ∃ fA fd, DfOk (Sx K mg) F__law_is_tag fA fd := by
  obtain ⟨fd, FD⟩ := c.def_ 73 (d := Hd.d73) rfl
  exact ⟨_, fd, ⟨⟨_, _, _, _, _, _, FD, ⟨by kernel_rfl, by kernel_rfl, by kernel_rfl, by decide +kernel, by kernel_rfl, by decide +kernel, by decide +kernel⟩, m__law_is_tag K mg⟩, FD.bindsN (ps := F__law_is_tag.ps) (fun _ _ _ _ _ _ us hl => match us, hl with | [_, _], _ => rfl), FD.kp, fun _ => He.glo_ok X G (c.fact 73 (f := .glo "_law_is_tag") rfl), fun h => (by cases h)⟩⟩
theorem df74 (X : K.In h) (G : h.Ns mainGlobals mg) (c : He.SaysD Hd.fa Hd.fn K) : ∃ fA fd, DfOk (Sx K mg) F__law_odd fA fd := by
  obtain ⟨fd, FD⟩ := c.def_ 74 (d := Hd.d74) rfl
  exact ⟨_, fd, ⟨⟨_, _, _, _, _, _, FD, ⟨by kernel_rfl, by kernel_rfl, by kernel_rfl, by decide +kernel, by kernel_rfl, by decide +kernel, by decide +kernel⟩, m__law_odd K mg⟩, FD.bindsN (ps := F__law_odd.ps) (fun _ _ _ _ _ _ us hl => match us, hl with | [_, _], _ => rfl), FD.kp, fun _ => He.glo_ok X G (c.fact 74 (f := .glo "_law_odd") rfl), fun h => (by cases h)⟩⟩
theorem df75 (X : K.In h) (G : h.Ns mainGlobals mg) (c : He.SaysD Hd.fa Hd.fn K) : ∃ fA fd, DfOk (Sx K mg) F__law_bent_lot fA fd := by
  obtain ⟨fd, FD⟩ := c.def_ 75 (d := Hd.d75) rfl
  exact ⟨_, fd, ⟨⟨_, _, _, _, _, _, FD, ⟨by kernel_rfl, by kernel_rfl, by kernel_rfl, by decide +kernel, by kernel_rfl, by decide +kernel, by decide +kernel⟩, m__law_bent_lot K mg⟩, FD.bindsN (ps := F__law_bent_lot.ps) (fun _ _ _ _ _ _ us hl => match us, hl with | [_, _, _], _ => rfl), FD.kp, fun _ => He.glo_ok X G (c.fact 75 (f := .glo "_law_bent_lot") rfl), fun h => (by cases h)⟩⟩
theorem df76 (X : K.In h) (G : h.Ns mainGlobals mg) (c : He.SaysD Hd.fa Hd.fn K) : ∃ fA fd, DfOk (Sx K mg) F__law_fold_lot fA fd := by
  obtain ⟨fd, FD⟩ := c.def_ 76 (d := Hd.d76) rfl
  exact ⟨_, fd, ⟨⟨_, _, _, _, _, _, FD, ⟨by kernel_rfl, by kernel_rfl, by kernel_rfl, by decide +kernel, by kernel_rfl, by decide +kernel, by decide +kernel⟩, m__law_fold_lot K mg⟩, FD.bindsN (ps := F__law_fold_lot.ps) (fun _ _ _ _ _ _ us hl => match us, hl with | [_, _, _], _ => rfl), FD.kp, fun _ => He.glo_ok X G (c.fact 76 (f := .glo "_law_fold_lot") rfl), fun h => (by cases h)⟩⟩
theorem df77 (X : K.In h) (G : h.Ns mainGlobals mg) (c : He.SaysD Hd.fa Hd.fn K) : ∃ fA fd, DfOk (Sx K mg) F__law_turns fA fd := by
  obtain ⟨fd, FD⟩ := c.def_ 77 (d := Hd.d77) rfl
  exact ⟨_, fd, ⟨⟨_, _, _, _, _, _, FD, ⟨by kernel_rfl, by kernel_rfl, by kernel_rfl, by decide +kernel, by kernel_rfl, by decide +kernel, by decide +kernel⟩, m__law_turns K mg⟩, FD.bindsN (ps := F__law_turns.ps) (fun _ _ _ _ _ _ us hl => match us, hl with | [_, _, _, _, _], _ => rfl), FD.kp, fun _ => He.glo_ok X G (c.fact 77 (f := .glo "_law_turns") rfl), fun h => (by cases h)⟩⟩
theorem df78 (X : K.In h) (G : h.Ns mainGlobals mg) (c : He.SaysD Hd.fa Hd.fn K) : ∃ fA fd, DfOk (Sx K mg) F__law_folds_by fA fd := by
  obtain ⟨fd, FD⟩ := c.def_ 78 (d := Hd.d78) rfl
  exact ⟨_, fd, ⟨⟨_, _, _, _, _, _, FD, ⟨by kernel_rfl, by kernel_rfl, by kernel_rfl, by decide +kernel, by kernel_rfl, by decide +kernel, by decide +kernel⟩, m__law_folds_by K mg⟩, FD.bindsN (ps := F__law_folds_by.ps) (fun _ _ _ _ _ _ us hl => match us, hl with | [_, _, _, _], _ => rfl), FD.kp, fun _ => He.glo_ok X G (c.fact 78 (f := .glo "_law_folds_by") rfl), fun h => (by cases h)⟩⟩
theorem df79 (X : K.In h) (G : h.Ns mainGlobals mg) (c : He.SaysD Hd.fa Hd.fn K) : ∃ fA fd, DfOk (Sx K mg) F__law_right fA fd := by
  obtain ⟨fd, FD⟩ := c.def_ 79 (d := Hd.d79) rfl
  exact ⟨_, fd, ⟨⟨_, _, _, _, _, _, FD, ⟨by kernel_rfl, by kernel_rfl, by kernel_rfl, by decide +kernel, by kernel_rfl, by decide +kernel, by decide +kernel⟩, m__law_right K mg⟩, FD.bindsN (ps := F__law_right.ps) (fun _ _ _ _ _ _ us hl => match us, hl with | [_], _ => rfl), FD.kp, fun _ => He.glo_ok X G (c.fact 79 (f := .glo "_law_right") rfl), fun h => (by cases h)⟩⟩
theorem df80 (X : K.In h) (G : h.Ns mainGlobals mg) (c : He.SaysD Hd.fa Hd.fn K) : ∃ fA fd, DfOk (Sx K mg) F_law fA fd := by
  obtain ⟨fd, FD⟩ := c.def_ 80 (d := Hd.d80) rfl
  exact ⟨_, fd, ⟨⟨_, _, _, _, _, _, FD, ⟨by kernel_rfl, by kernel_rfl, by kernel_rfl, by decide +kernel, by kernel_rfl, by decide +kernel, by decide +kernel⟩, m_law K mg⟩, FD.bindsN (ps := F_law.ps) (fun _ _ _ _ _ _ us hl => match us, hl with | [_], _ => rfl), FD.kp, fun _ => He.glo_ok X G (c.fact 80 (f := .glo "law") rfl), fun h => (by cases h)⟩⟩
theorem md (X : K.In h) (G : h.Ns mainGlobals mg) (c : He.SaysD Hd.fa Hd.fn K) : MdOk (Sx K mg) := by
  refine ⟨fun cn ca f h1 h2 h3 => ?_, fun x hx => ?_, fun x d hx => ?_⟩
  · simp only [Sx, cl, List.mem_cons, List.not_mem_nil, or_false] at h1
    simp only [Sx, fl, List.mem_cons, List.not_mem_nil, or_false] at h3
    rcases h1 with rfl
    · have e := h2.symm.trans (He.glo_ok X G (c.fact 0 (f := .glo "Sheet") rfl))
      cases e
      refine ⟨He.cls_ok (c.fact 100 (f := .cls "Sheet") rfl), ?_⟩
      rcases h3 with rfl | rfl | rfl
      · exact He.noat_ok (c.fact 111 (f := .noat "Sheet" "grids") rfl)
      · exact He.noat_ok (c.fact 112 (f := .noat "Sheet" "rows") rfl)
      · exact He.noat_ok (c.fact 113 (f := .noat "Sheet" "sorts") rfl)
  · simp only [Sx, blt, List.cons_append, List.nil_append, List.append_nil, List.mem_cons, List.not_mem_nil, or_false] at hx
    rcases hx with rfl | rfl | rfl | rfl | rfl | rfl | rfl | rfl | rfl | rfl | rfl | rfl | rfl | rfl | rfl | rfl | rfl | rfl
    · exact He.free_ok X G (c.fact 98 (f := .free "abs") rfl)
    · exact He.free_ok X G (c.fact 83 (f := .free "all") rfl)
    · exact He.free_ok X G (c.fact 84 (f := .free "any") rfl)
    · exact He.free_ok X G (c.fact 88 (f := .free "dict") rfl)
    · exact He.free_ok X G (c.fact 99 (f := .free "divmod") rfl)
    · exact He.free_ok X G (c.fact 90 (f := .free "int") rfl)
    · exact He.free_ok X G (c.fact 82 (f := .free "isinstance") rfl)
    · exact He.free_ok X G (c.fact 81 (f := .free "len") rfl)
    · exact He.free_ok X G (c.fact 87 (f := .free "list") rfl)
    · exact He.free_ok X G (c.fact 95 (f := .free "max") rfl)
    · exact He.free_ok X G (c.fact 96 (f := .free "min") rfl)
    · exact He.free_ok X G (c.fact 85 (f := .free "range") rfl)
    · exact He.free_ok X G (c.fact 94 (f := .free "repr") rfl)
    · exact He.free_ok X G (c.fact 93 (f := .free "set") rfl)
    · exact He.free_ok X G (c.fact 97 (f := .free "sorted") rfl)
    · exact He.free_ok X G (c.fact 89 (f := .free "str") rfl)
    · exact He.free_ok X G (c.fact 86 (f := .free "tuple") rfl)
    · exact He.free_ok X G (c.fact 91 (f := .free "zip") rfl)
  · simp only [Sx, gt, List.mem_cons, List.not_mem_nil, or_false, Prod.mk.injEq] at hx
    rcases hx with ⟨rfl, rfl⟩ | ⟨rfl, rfl⟩ | ⟨rfl, rfl⟩ | ⟨rfl, rfl⟩ | ⟨rfl, rfl⟩ | ⟨rfl, rfl⟩ | ⟨rfl, rfl⟩ | ⟨rfl, rfl⟩ | ⟨rfl, rfl⟩
    · obtain ⟨t, e⟩ := He.str_ok X G (c.fact 102 (f := .str "BAD" "error") rfl)
      exact ⟨.str "error", _, e, ⟨t, rfl⟩, fun _ _ _ => .str _⟩
    · obtain ⟨t, e⟩ := He.str_ok X G (c.fact 103 (f := .str "HOLE" "_") rfl)
      exact ⟨.str "_", _, e, ⟨t, rfl⟩, fun _ _ _ => .str _⟩
    · obtain ⟨t, e⟩ := He.str_ok X G (c.fact 104 (f := .str "LOSS" "!") rfl)
      exact ⟨.str "!", _, e, ⟨t, rfl⟩, fun _ _ _ => .str _⟩
    · obtain ⟨t, e⟩ := He.int_ok X G (c.fact 105 (f := .int "MOST_CASTS" 4) rfl)
      exact ⟨.int 4, _, e, ⟨t, rfl⟩, fun _ _ _ => .int _⟩
    · obtain ⟨t, e⟩ := He.int_ok X G (c.fact 106 (f := .int "MOST_KINDS" 8) rfl)
      exact ⟨.int 8, _, e, ⟨t, rfl⟩, fun _ _ _ => .int _⟩
    · obtain ⟨t, e⟩ := He.int_ok X G (c.fact 107 (f := .int "MOST_OPERATORS" 3) rfl)
      exact ⟨.int 3, _, e, ⟨t, rfl⟩, fun _ _ _ => .int _⟩
    · obtain ⟨t, e⟩ := He.int_ok X G (c.fact 108 (f := .int "MOST_SIGNS" 8) rfl)
      exact ⟨.int 8, _, e, ⟨t, rfl⟩, fun _ _ _ => .int _⟩
    · obtain ⟨t, e⟩ := He.str_ok X G (c.fact 109 (f := .str "REFUSED" "-") rfl)
      exact ⟨.str "-", _, e, ⟨t, rfl⟩, fun _ _ _ => .str _⟩
    · obtain ⟨t, e⟩ := He.str_ok X G (c.fact 110 (f := .str "SIGNS" "abcdefghijklmnopqrstuvwxyz") rfl)
      exact ⟨.str "abcdefghijklmnopqrstuvwxyz", _, e, ⟨t, rfl⟩, fun _ _ _ => .str _⟩
theorem dfs (X : K.In h) (G : h.Ns mainGlobals mg) (c : He.SaysD Hd.fa Hd.fn K) : ∀ f F, findF Pt.PT f = some F → ∃ fA fd, DfOk (Sx K mg) F fA fd := by
  refine all_find fun F hF => ?_
  simp only [Pt.PT, List.mem_cons, List.not_mem_nil, or_false] at hF
  rcases hF with rfl | rfl | rfl | rfl | rfl | rfl | rfl | rfl | rfl | rfl | rfl | rfl | rfl | rfl | rfl | rfl | rfl | rfl | rfl | rfl | rfl | rfl | rfl | rfl | rfl | rfl | rfl | rfl | rfl | rfl | rfl | rfl | rfl | rfl | rfl | rfl | rfl | rfl | rfl | rfl | rfl | rfl | rfl | rfl | rfl | rfl | rfl | rfl | rfl | rfl | rfl | rfl | rfl | rfl | rfl | rfl | rfl | rfl | rfl | rfl | rfl | rfl | rfl | rfl | rfl | rfl | rfl | rfl | rfl | rfl | rfl | rfl | rfl | rfl | rfl | rfl | rfl | rfl | rfl | rfl | rfl
  · exact df0 X G c
  · exact df1 X G c
  · exact df2 X G c
  · exact df3 X G c
  · exact df4 X G c
  · exact df5 X G c
  · exact df6 X G c
  · exact df7 X G c
  · exact df8 X G c
  · exact df9 X G c
  · exact df10 X G c
  · exact df11 X G c
  · exact df12 X G c
  · exact df13 X G c
  · exact df14 X G c
  · exact df15 X G c
  · exact df16 X G c
  · exact df17 X G c
  · exact df18 X G c
  · exact df19 X G c
  · exact df20 X G c
  · exact df21 X G c
  · exact df22 X G c
  · exact df23 X G c
  · exact df24 X G c
  · exact df25 X G c
  · exact df26 X G c
  · exact df27 X G c
  · exact df28 X G c
  · exact df29 X G c
  · exact df30 X G c
  · exact df31 X G c
  · exact df32 X G c
  · exact df33 X G c
  · exact df34 X G c
  · exact df35 X G c
  · exact df36 X G c
  · exact df37 X G c
  · exact df38 X G c
  · exact df39 X G c
  · exact df40 X G c
  · exact df41 X G c
  · exact df42 X G c
  · exact df43 X G c
  · exact df44 X G c
  · exact df45 X G c
  · exact df46 X G c
  · exact df47 X G c
  · exact df48 X G c
  · exact df49 X G c
  · exact df50 X G c
  · exact df51 X G c
  · exact df52 X G c
  · exact df53 X G c
  · exact df54 X G c
  · exact df55 X G c
  · exact df56 X G c
  · exact df57 X G c
  · exact df58 X G c
  · exact df59 X G c
  · exact df60 X G c
  · exact df61 X G c
  · exact df62 X G c
  · exact df63 X G c
  · exact df64 X G c
  · exact df65 X G c
  · exact df66 X G c
  · exact df67 X G c
  · exact df68 X G c
  · exact df69 X G c
  · exact df70 X G c
  · exact df71 X G c
  · exact df72 X G c
  · exact df73 X G c
  · exact df74 X G c
  · exact df75 X G c
  · exact df76 X G c
  · exact df77 X G c
  · exact df78 X G c
  · exact df79 X G c
  · exact df80 X G c
end
end En
open PySem PySem.W PySem.Calls PyProof.Rows
theorem PySem.Challenge.cw_promotetables_k58_whole_folds_claimed_holds : PySem.Challenge.rw_promotetables_k58_whole_folds_claimed.Holds := by
  w_on; o_law
  refine HandSHeadRun.head_any (r := OpenLaw.row PySem.Challenge.rw_promotetables_k58_whole_folds_claimed) (q := view (OpenLaw.row PySem.Challenge.rw_promotetables_k58_whole_folds_claimed).prog [94]) (H := Hd.hk) (ob := Hd.ob) (M := 20000) (loose := Hd.names) (d := HandSHeadRun.topDef (OpenLaw.row PySem.Challenge.rw_promotetables_k58_whole_folds_claimed).prog 94) (kwd := []) Hd.ob_eq
    (by kernel_rfl) (fun s => by kernel_rfl) Hd.run (by kernel_rfl) (by kernel_rfl) (by kernel_rfl) (by rfl) (by first | assumption | decide +kernel) (by decide +kernel) ⟨rfl, rfl, rfl, rfl, rfl, by decide +kernel⟩ ?hw ?hc
  case hw => w_witness2
  case hc =>
    refine L2.walk_ofE (l := PySem.Challenge.rw_promotetables_k58_whole_folds_claimed) (n := 63) (k := 30) (x := "_law_script") (CX := L2.CX0) rfl (by decide) (by kernel_rfl) ⟨rfl, by decide, by decide⟩ ?F (fun _ _ _ _ z => z)
    intro w mg fa h Y G hmg0
    obtain ⟨K, KX, c⟩ := Y
    have hmg : mg ("law" : PySem.Str) = some (.ref fa) := by
      have e : (HandSHeadRun.topDef (OpenLaw.row PySem.Challenge.rw_promotetables_k58_whole_folds_claimed).prog 94).name = ("law" : PySem.Str) := by kernel_rfl
      rw [← e]
      exact hmg0
    obtain ⟨fd, FD⟩ := He.SaysD.def_ c 80 (d := Hd.d80) rfl
    have e := hmg.symm.trans (He.glo_ok KX G (He.SaysD.fact c 80 (f := .glo "law") rfl))
    cases e
    have b := L2.FunD.bindsA (ps := ["_law_script"]) FD fun _ _ _ _ _ _ us hl => match us, hl with | [_], _ => rfl
    refine ⟨K, fd, Iv.spD (Pt.Sx K mg) Pt.PT 40 30 "law", KX, fun s v => b s [v] rfl, fun H a ns hl _ hS => Iv.law_sp (S := Pt.Sx K mg) (Ct.law_true ns hl) hS, fun base hb hbn => ?_⟩
    exact Iv.law_fn (S := Pt.Sx K mg) (F := Pt.F_law) rfl rfl (En.md KX G c) rfl (En.dfs KX G c) hmg FD

