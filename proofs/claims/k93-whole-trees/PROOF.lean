import PyProof.Rows.All
import Wide.All
import OpenK.AllK
import Wide.FinOn
import HandS.ForMost
import PyProof.NeKinds
import HandS.Style
import KE.GoesEnum
import HandS.SetFor
import HandS.Strs
import HandS.Star
import HandS.Evl
import HandS.TupAny
import HandS.IsInst
import HandS.SortInts
import HandS.Conv
import HandS.Wide
import HandS.Zip
import HandS.WordsDict
import HandS.Dict
import PyProof.Rows.SortShell
import PySem.Challenge.RW_evencoins_k93_whole_trees_or_locked_squa
set_option Elab.async false
set_option linter.all false
set_option maxRecDepth 100000
set_option maxHeartbeats 4000000
namespace Kw
open PySem PySem.Spec PyProof.Rows L2
def topS (i : Nat) : Stmt := PySem.Challenge.pw_evencoins_k93_whole_trees_or_locked_squa.main.body.getD i (.Pass ⟨0, 0, 0, 0⟩)
abbrev s_is_integer : Stmt := topS 4
theorem sc_is_integer : FnScope ["value"] ["value"] (defScope s_is_integer) := ⟨rfl, rfl, rfl, by decide +kernel, rfl, by decide +kernel, by decide +kernel⟩
abbrev s_is_within : Stmt := topS 5
theorem sc_is_within : FnScope ["value", "least", "most"] ["value", "least", "most"] (defScope s_is_within) := ⟨rfl, rfl, rfl, by decide +kernel, rfl, by decide +kernel, by decide +kernel⟩
abbrev s_is_square_table : Stmt := topS 19
theorem sc_is_square_table : FnScope ["value", "row", "entry"] ["value"] (defScope s_is_square_table) := ⟨rfl, rfl, rfl, by decide +kernel, rfl, by decide +kernel, by decide +kernel⟩
abbrev s_turned_square : Stmt := topS 20
theorem sc_turned_square : FnScope ["square", "column"] ["square"] (defScope s_turned_square) := ⟨rfl, rfl, rfl, by decide +kernel, rfl, by decide +kernel, by decide +kernel⟩
abbrev s_is_flat : Stmt := topS 21
theorem sc_is_flat : FnScope ["square", "rows", "columns", "first", "row", "column"] ["square", "rows", "columns"] (defScope s_is_flat) := ⟨rfl, rfl, rfl, by decide +kernel, rfl, by decide +kernel, by decide +kernel⟩
abbrev s_link_of : Stmt := topS 22
theorem sc_link_of : FnScope ["square", "row", "other", "columns", "some", "column"] ["square", "row", "other", "columns"] (defScope s_link_of) := ⟨rfl, rfl, rfl, by decide +kernel, rfl, by decide +kernel, by decide +kernel⟩
abbrev s_classes_of : Stmt := topS 23
theorem sc_classes_of : FnScope ["square", "rows", "columns", "left", "found", "links", "fresh", "here", "row", "other", "link"] ["square", "rows", "columns"] (defScope s_classes_of) := ⟨rfl, rfl, rfl, by decide +kernel, rfl, by decide +kernel, by decide +kernel⟩
abbrev s_paper_of : Stmt := topS 24
theorem sc_paper_of : FnScope ["square", "rows", "columns", "classes", "links", "others", "more", "lot"] ["square", "rows", "columns"] (defScope s_paper_of) := ⟨rfl, rfl, rfl, by decide +kernel, rfl, by decide +kernel, by decide +kernel⟩
abbrev s_joined_paper : Stmt := topS 25
theorem sc_joined_paper : FnScope ["word", "classes", "papers", "locked", "kind", "told"] ["word", "classes", "papers"] (defScope s_joined_paper) := ⟨rfl, rfl, rfl, by decide +kernel, rfl, by decide +kernel, by decide +kernel⟩
abbrev s_are_lines : Stmt := topS 26
theorem sc_are_lines : FnScope ["value", "size", "line", "one", "other"] ["value", "size"] (defScope s_are_lines) := ⟨rfl, rfl, rfl, by decide +kernel, rfl, by decide +kernel, by decide +kernel⟩
abbrev s_are_classes : Stmt := topS 27
theorem sc_are_classes : FnScope ["square", "rows", "columns", "value", "place", "lot", "others", "row", "later", "other"] ["square", "rows", "columns", "value"] (defScope s_are_classes) := ⟨rfl, rfl, rfl, by decide +kernel, rfl, by decide +kernel, by decide +kernel⟩
abbrev s_is_tree : Stmt := topS 28
theorem sc_is_tree : FnScope ["square", "rows", "columns", "value", "word", "classes", "trees", "lot", "tree"] ["square", "rows", "columns", "value"] (defScope s_is_tree) := ⟨rfl, rfl, rfl, by decide +kernel, rfl, by decide +kernel, by decide +kernel⟩
abbrev s_are_links : Stmt := topS 29
theorem sc_are_links : FnScope ["square", "rows", "columns", "value", "places", "row", "other", "column", "found", "fresh", "here", "link", "one"] ["square", "rows", "columns", "value"] (defScope s_are_links) := ⟨rfl, rfl, rfl, by decide +kernel, rfl, by decide +kernel, by decide +kernel⟩
abbrev s_is_locked : Stmt := topS 30
theorem sc_is_locked : FnScope ["square", "value", "rows", "columns"] ["square", "value"] (defScope s_is_locked) := ⟨rfl, rfl, rfl, by decide +kernel, rfl, by decide +kernel, by decide +kernel⟩
abbrev s_require_square : Stmt := topS 31
theorem sc_require_square : FnScope ["value"] ["value"] (defScope s_require_square) := ⟨rfl, rfl, rfl, by decide +kernel, rfl, by decide +kernel, by decide +kernel⟩
abbrev s_tree_or_locked : Stmt := topS 33
theorem sc_tree_or_locked : FnScope ["square", "word", "told"] ["square"] (defScope s_tree_or_locked) := ⟨rfl, rfl, rfl, by decide +kernel, rfl, by decide +kernel, by decide +kernel⟩
abbrev s_is_tree_paper : Stmt := topS 34
theorem sc_is_tree_paper : FnScope ["square", "value"] ["square", "value"] (defScope s_is_tree_paper) := ⟨rfl, rfl, rfl, by decide +kernel, rfl, by decide +kernel, by decide +kernel⟩
abbrev s_is_whole_tree : Stmt := topS 35
theorem sc_is_whole_tree : FnScope ["square", "value"] ["square", "value"] (defScope s_is_whole_tree) := ⟨rfl, rfl, rfl, by decide +kernel, rfl, by decide +kernel, by decide +kernel⟩
abbrev s_L_dice : Stmt := topS 37
theorem sc_L_dice : FnScope ["_law_script", "_law_spot", "_law_cell", "_law_left"] ["_law_script", "_law_spot"] (defScope s_L_dice) := ⟨rfl, rfl, rfl, by decide +kernel, rfl, by decide +kernel, by decide +kernel⟩
abbrev s_L_roll : Stmt := topS 38
theorem sc_L_roll : FnScope ["_law_dice_here", "_law_most", "_law_found", "_law_one", "_law_two"] ["_law_dice_here", "_law_most"] (defScope s_L_roll) := ⟨rfl, rfl, rfl, by decide +kernel, rfl, by decide +kernel, by decide +kernel⟩
abbrev s_L_pick : Stmt := topS 39
theorem sc_L_pick : FnScope ["_law_dice_here", "_law_items"] ["_law_dice_here", "_law_items"] (defScope s_L_pick) := ⟨rfl, rfl, rfl, by decide +kernel, rfl, by decide +kernel, by decide +kernel⟩
abbrev s_L_mixed : Stmt := topS 40
theorem sc_L_mixed : FnScope ["_law_dice_here", "_law_items", "_law_left", "_law_found"] ["_law_dice_here", "_law_items"] (defScope s_L_mixed) := ⟨rfl, rfl, rfl, by decide +kernel, rfl, by decide +kernel, by decide +kernel⟩
abbrev s_L_lk_turned : Stmt := topS 41
theorem sc_L_lk_turned : FnScope ["_law_square", "_law_at", "_law_row"] ["_law_square"] (defScope s_L_lk_turned) := ⟨rfl, rfl, rfl, by decide +kernel, rfl, by decide +kernel, by decide +kernel⟩
abbrev s_L_lk_classes : Stmt := topS 42
theorem sc_L_lk_classes : FnScope ["_law_square", "_law_rows", "_law_columns", "_law_left", "_law_found", "_law_here", "_law_fresh", "_law_row", "_law_one", "_law_at"] ["_law_square", "_law_rows", "_law_columns"] (defScope s_L_lk_classes) := ⟨rfl, rfl, rfl, by decide +kernel, rfl, by decide +kernel, by decide +kernel⟩
abbrev s_L_lk_is_flat : Stmt := topS 43
theorem sc_L_lk_is_flat : FnScope ["_law_square", "_law_rows", "_law_columns", "_law_first", "_law_row", "_law_at"] ["_law_square", "_law_rows", "_law_columns"] (defScope s_L_lk_is_flat) := ⟨rfl, rfl, rfl, by decide +kernel, rfl, by decide +kernel, by decide +kernel⟩
abbrev s_L_lk_has_tree : Stmt := topS 44
theorem sc_L_lk_has_tree : FnScope ["_law_square", "_law_rows", "_law_columns", "_law_lots", "_law_turned", "_law_crew"] ["_law_square", "_law_rows", "_law_columns"] (defScope s_L_lk_has_tree) := ⟨rfl, rfl, rfl, by decide +kernel, rfl, by decide +kernel, by decide +kernel⟩
abbrev s_L_lk_is_within : Stmt := topS 45
theorem sc_L_lk_is_within : FnScope ["_law_value", "_law_least", "_law_most"] ["_law_value", "_law_least", "_law_most"] (defScope s_L_lk_is_within) := ⟨rfl, rfl, rfl, by decide +kernel, rfl, by decide +kernel, by decide +kernel⟩
abbrev s_L_lk_are_lines : Stmt := topS 46
theorem sc_L_lk_are_lines : FnScope ["_law_value", "_law_size", "_law_one", "_law_other"] ["_law_value", "_law_size"] (defScope s_L_lk_are_lines) := ⟨rfl, rfl, rfl, by decide +kernel, rfl, by decide +kernel, by decide +kernel⟩
abbrev s_L_lk_are_classes : Stmt := topS 47
theorem sc_L_lk_are_classes : FnScope ["_law_square", "_law_rows", "_law_columns", "_law_value", "_law_place", "_law_at", "_law_crew", "_law_row", "_law_one", "_law_other"] ["_law_square", "_law_rows", "_law_columns", "_law_value"] (defScope s_L_lk_are_classes) := ⟨rfl, rfl, rfl, by decide +kernel, rfl, by decide +kernel, by decide +kernel⟩
abbrev s_L_lk_is_tree : Stmt := topS 48
theorem sc_L_lk_is_tree : FnScope ["_law_square", "_law_rows", "_law_columns", "_law_value", "_law_is_right", "_law_crew", "_law_tree", "_law_row", "_law_at"] ["_law_square", "_law_rows", "_law_columns", "_law_value"] (defScope s_L_lk_is_tree) := ⟨rfl, rfl, rfl, by decide +kernel, rfl, by decide +kernel, by decide +kernel⟩
abbrev s_L_lk_are_links : Stmt := topS 49
theorem sc_L_lk_are_links : FnScope ["_law_square", "_law_rows", "_law_columns", "_law_value", "_law_link", "_law_known", "_law_turn", "_law_one"] ["_law_square", "_law_rows", "_law_columns", "_law_value"] (defScope s_L_lk_are_links) := ⟨rfl, rfl, rfl, by decide +kernel, rfl, by decide +kernel, by decide +kernel⟩
abbrev s_L_lk_is_paper : Stmt := topS 50
theorem sc_L_lk_is_paper : FnScope ["_law_square", "_law_value", "_law_turned"] ["_law_square", "_law_value"] (defScope s_L_lk_is_paper) := ⟨rfl, rfl, rfl, by decide +kernel, rfl, by decide +kernel, by decide +kernel⟩
abbrev s_L_lk_filled : Stmt := topS 51
theorem sc_L_lk_filled : FnScope ["_law_dice_here", "_law_table", "_law_rows", "_law_columns", "_law_low", "_law_high", "_law_way", "_law_lined", "_law_entry", "_law_row", "_law_at", "_law_some", "_law_cut", "_law_middle", "_law_one", "_law_other"] ["_law_dice_here", "_law_table", "_law_rows", "_law_columns", "_law_low", "_law_high"] (defScope s_L_lk_filled) := ⟨rfl, rfl, rfl, by decide +kernel, rfl, by decide +kernel, by decide +kernel⟩
abbrev s_L_lk_drawn : Stmt := topS 52
theorem sc_L_lk_drawn : FnScope ["_law_dice_here", "_law_most", "_law_many", "_law_wide", "_law_way", "_law_size", "_law_table", "_law_row", "_law_at"] ["_law_dice_here", "_law_most"] (defScope s_L_lk_drawn) := ⟨rfl, rfl, rfl, by decide +kernel, rfl, by decide +kernel, by decide +kernel⟩
abbrev s_L_bent : Stmt := topS 53
theorem sc_L_bent : FnScope ["_law_dice_here", "_law_value", "_law_odd", "_law_at", "_law_way"] ["_law_dice_here", "_law_value"] (defScope s_L_bent) := ⟨rfl, rfl, rfl, by decide +kernel, rfl, by decide +kernel, by decide +kernel⟩
abbrev s_L_right : Stmt := topS 54
theorem sc_L_right : FnScope ["_law_dice_here", "_law_square", "_law_rows", "_law_columns", "_law_paper", "_law_near", "_law_turn", "_law_word", "_law_classes", "_law_trees", "_law_value"] ["_law_dice_here"] (defScope s_L_right) := ⟨rfl, rfl, rfl, by decide +kernel, rfl, by decide +kernel, by decide +kernel⟩
abbrev s_law : Stmt := topS 55
theorem sc_law : FnScope ["_law_script", "_law_spot", "_law_dice_here", "_law_turn", "_law_both", "_law_ring", "_law_told", "_law_some", "_law_value"] ["_law_script"] (defScope s_law) := ⟨rfl, rfl, rfl, by decide +kernel, rfl, by decide +kernel, by decide +kernel⟩
structure Txt (K : PySem.W.Frag) (mg : Str → Option Value) where
  a_is_integer : Addr
  d_is_integer : FuncData
  F_is_integer : Fun K "is_integer" "is_integer" s_is_integer a_is_integer d_is_integer
  g_is_integer : mg "is_integer" = some (.ref a_is_integer)
  b_is_integer : Binds K d_is_integer ["value"] []
  a_is_within : Addr
  d_is_within : FuncData
  F_is_within : Fun K "is_within" "is_within" s_is_within a_is_within d_is_within
  g_is_within : mg "is_within" = some (.ref a_is_within)
  b_is_within : Binds K d_is_within ["value", "least", "most"] []
  a_is_square_table : Addr
  d_is_square_table : FuncData
  F_is_square_table : Fun K "is_square_table" "is_square_table" s_is_square_table a_is_square_table d_is_square_table
  g_is_square_table : mg "is_square_table" = some (.ref a_is_square_table)
  b_is_square_table : Binds K d_is_square_table ["value"] []
  a_turned_square : Addr
  d_turned_square : FuncData
  F_turned_square : Fun K "turned_square" "turned_square" s_turned_square a_turned_square d_turned_square
  g_turned_square : mg "turned_square" = some (.ref a_turned_square)
  b_turned_square : Binds K d_turned_square ["square"] []
  a_is_flat : Addr
  d_is_flat : FuncData
  F_is_flat : Fun K "is_flat" "is_flat" s_is_flat a_is_flat d_is_flat
  g_is_flat : mg "is_flat" = some (.ref a_is_flat)
  b_is_flat : Binds K d_is_flat ["square", "rows", "columns"] []
  a_link_of : Addr
  d_link_of : FuncData
  F_link_of : Fun K "link_of" "link_of" s_link_of a_link_of d_link_of
  g_link_of : mg "link_of" = some (.ref a_link_of)
  b_link_of : Binds K d_link_of ["square", "row", "other", "columns"] []
  a_classes_of : Addr
  d_classes_of : FuncData
  F_classes_of : Fun K "classes_of" "classes_of" s_classes_of a_classes_of d_classes_of
  g_classes_of : mg "classes_of" = some (.ref a_classes_of)
  b_classes_of : Binds K d_classes_of ["square", "rows", "columns"] []
  a_paper_of : Addr
  d_paper_of : FuncData
  F_paper_of : Fun K "paper_of" "paper_of" s_paper_of a_paper_of d_paper_of
  g_paper_of : mg "paper_of" = some (.ref a_paper_of)
  b_paper_of : Binds K d_paper_of ["square", "rows", "columns"] []
  a_joined_paper : Addr
  d_joined_paper : FuncData
  F_joined_paper : Fun K "joined_paper" "joined_paper" s_joined_paper a_joined_paper d_joined_paper
  g_joined_paper : mg "joined_paper" = some (.ref a_joined_paper)
  b_joined_paper : Binds K d_joined_paper ["word", "classes", "papers"] []
  a_are_lines : Addr
  d_are_lines : FuncData
  F_are_lines : Fun K "are_lines" "are_lines" s_are_lines a_are_lines d_are_lines
  g_are_lines : mg "are_lines" = some (.ref a_are_lines)
  b_are_lines : Binds K d_are_lines ["value", "size"] []
  a_are_classes : Addr
  d_are_classes : FuncData
  F_are_classes : Fun K "are_classes" "are_classes" s_are_classes a_are_classes d_are_classes
  g_are_classes : mg "are_classes" = some (.ref a_are_classes)
  b_are_classes : Binds K d_are_classes ["square", "rows", "columns", "value"] []
  a_is_tree : Addr
  d_is_tree : FuncData
  F_is_tree : Fun K "is_tree" "is_tree" s_is_tree a_is_tree d_is_tree
  g_is_tree : mg "is_tree" = some (.ref a_is_tree)
  b_is_tree : Binds K d_is_tree ["square", "rows", "columns", "value"] []
  a_are_links : Addr
  d_are_links : FuncData
  F_are_links : Fun K "are_links" "are_links" s_are_links a_are_links d_are_links
  g_are_links : mg "are_links" = some (.ref a_are_links)
  b_are_links : Binds K d_are_links ["square", "rows", "columns", "value"] []
  a_is_locked : Addr
  d_is_locked : FuncData
  F_is_locked : Fun K "is_locked" "is_locked" s_is_locked a_is_locked d_is_locked
  g_is_locked : mg "is_locked" = some (.ref a_is_locked)
  b_is_locked : Binds K d_is_locked ["square", "value"] []
  a_require_square : Addr
  d_require_square : FuncData
  F_require_square : Fun K "require_square" "require_square" s_require_square a_require_square d_require_square
  g_require_square : mg "require_square" = some (.ref a_require_square)
  b_require_square : Binds K d_require_square ["value"] []
  a_tree_or_locked : Addr
  d_tree_or_locked : FuncData
  F_tree_or_locked : Fun K "tree_or_locked" "tree_or_locked" s_tree_or_locked a_tree_or_locked d_tree_or_locked
  g_tree_or_locked : mg "tree_or_locked" = some (.ref a_tree_or_locked)
  b_tree_or_locked : Binds K d_tree_or_locked ["square"] []
  a_is_tree_paper : Addr
  d_is_tree_paper : FuncData
  F_is_tree_paper : Fun K "is_tree_paper" "is_tree_paper" s_is_tree_paper a_is_tree_paper d_is_tree_paper
  g_is_tree_paper : mg "is_tree_paper" = some (.ref a_is_tree_paper)
  b_is_tree_paper : Binds K d_is_tree_paper ["square", "value"] []
  a_is_whole_tree : Addr
  d_is_whole_tree : FuncData
  F_is_whole_tree : Fun K "is_whole_tree" "is_whole_tree" s_is_whole_tree a_is_whole_tree d_is_whole_tree
  g_is_whole_tree : mg "is_whole_tree" = some (.ref a_is_whole_tree)
  b_is_whole_tree : Binds K d_is_whole_tree ["square", "value"] []
  a_L_dice : Addr
  d_L_dice : FuncData
  F_L_dice : Fun K "_law_dice" "_law_dice" s_L_dice a_L_dice d_L_dice
  g_L_dice : mg "_law_dice" = some (.ref a_L_dice)
  b_L_dice : Binds K d_L_dice ["_law_script", "_law_spot"] []
  a_L_roll : Addr
  d_L_roll : FuncData
  F_L_roll : Fun K "_law_roll" "_law_roll" s_L_roll a_L_roll d_L_roll
  g_L_roll : mg "_law_roll" = some (.ref a_L_roll)
  b_L_roll : Binds K d_L_roll ["_law_dice_here", "_law_most"] []
  a_L_pick : Addr
  d_L_pick : FuncData
  F_L_pick : Fun K "_law_pick" "_law_pick" s_L_pick a_L_pick d_L_pick
  g_L_pick : mg "_law_pick" = some (.ref a_L_pick)
  b_L_pick : Binds K d_L_pick ["_law_dice_here", "_law_items"] []
  a_L_mixed : Addr
  d_L_mixed : FuncData
  F_L_mixed : Fun K "_law_mixed" "_law_mixed" s_L_mixed a_L_mixed d_L_mixed
  g_L_mixed : mg "_law_mixed" = some (.ref a_L_mixed)
  b_L_mixed : Binds K d_L_mixed ["_law_dice_here", "_law_items"] []
  a_L_lk_turned : Addr
  d_L_lk_turned : FuncData
  F_L_lk_turned : Fun K "_law_lk_turned" "_law_lk_turned" s_L_lk_turned a_L_lk_turned d_L_lk_turned
  g_L_lk_turned : mg "_law_lk_turned" = some (.ref a_L_lk_turned)
  b_L_lk_turned : Binds K d_L_lk_turned ["_law_square"] []
  a_L_lk_classes : Addr
  d_L_lk_classes : FuncData
  F_L_lk_classes : Fun K "_law_lk_classes" "_law_lk_classes" s_L_lk_classes a_L_lk_classes d_L_lk_classes
  g_L_lk_classes : mg "_law_lk_classes" = some (.ref a_L_lk_classes)
  b_L_lk_classes : Binds K d_L_lk_classes ["_law_square", "_law_rows", "_law_columns"] []
  a_L_lk_is_flat : Addr
  d_L_lk_is_flat : FuncData
  F_L_lk_is_flat : Fun K "_law_lk_is_flat" "_law_lk_is_flat" s_L_lk_is_flat a_L_lk_is_flat d_L_lk_is_flat
  g_L_lk_is_flat : mg "_law_lk_is_flat" = some (.ref a_L_lk_is_flat)
  b_L_lk_is_flat : Binds K d_L_lk_is_flat ["_law_square", "_law_rows", "_law_columns"] []
  a_L_lk_has_tree : Addr
  d_L_lk_has_tree : FuncData
  F_L_lk_has_tree : Fun K "_law_lk_has_tree" "_law_lk_has_tree" s_L_lk_has_tree a_L_lk_has_tree d_L_lk_has_tree
  g_L_lk_has_tree : mg "_law_lk_has_tree" = some (.ref a_L_lk_has_tree)
  b_L_lk_has_tree : Binds K d_L_lk_has_tree ["_law_square", "_law_rows", "_law_columns"] []
  a_L_lk_is_within : Addr
  d_L_lk_is_within : FuncData
  F_L_lk_is_within : Fun K "_law_lk_is_within" "_law_lk_is_within" s_L_lk_is_within a_L_lk_is_within d_L_lk_is_within
  g_L_lk_is_within : mg "_law_lk_is_within" = some (.ref a_L_lk_is_within)
  b_L_lk_is_within : Binds K d_L_lk_is_within ["_law_value", "_law_least", "_law_most"] []
  a_L_lk_are_lines : Addr
  d_L_lk_are_lines : FuncData
  F_L_lk_are_lines : Fun K "_law_lk_are_lines" "_law_lk_are_lines" s_L_lk_are_lines a_L_lk_are_lines d_L_lk_are_lines
  g_L_lk_are_lines : mg "_law_lk_are_lines" = some (.ref a_L_lk_are_lines)
  b_L_lk_are_lines : Binds K d_L_lk_are_lines ["_law_value", "_law_size"] []
  a_L_lk_are_classes : Addr
  d_L_lk_are_classes : FuncData
  F_L_lk_are_classes : Fun K "_law_lk_are_classes" "_law_lk_are_classes" s_L_lk_are_classes a_L_lk_are_classes d_L_lk_are_classes
  g_L_lk_are_classes : mg "_law_lk_are_classes" = some (.ref a_L_lk_are_classes)
  b_L_lk_are_classes : Binds K d_L_lk_are_classes ["_law_square", "_law_rows", "_law_columns", "_law_value"] []
  a_L_lk_is_tree : Addr
  d_L_lk_is_tree : FuncData
  F_L_lk_is_tree : Fun K "_law_lk_is_tree" "_law_lk_is_tree" s_L_lk_is_tree a_L_lk_is_tree d_L_lk_is_tree
  g_L_lk_is_tree : mg "_law_lk_is_tree" = some (.ref a_L_lk_is_tree)
  b_L_lk_is_tree : Binds K d_L_lk_is_tree ["_law_square", "_law_rows", "_law_columns", "_law_value"] []
  a_L_lk_are_links : Addr
  d_L_lk_are_links : FuncData
  F_L_lk_are_links : Fun K "_law_lk_are_links" "_law_lk_are_links" s_L_lk_are_links a_L_lk_are_links d_L_lk_are_links
  g_L_lk_are_links : mg "_law_lk_are_links" = some (.ref a_L_lk_are_links)
  b_L_lk_are_links : Binds K d_L_lk_are_links ["_law_square", "_law_rows", "_law_columns", "_law_value"] []
  a_L_lk_is_paper : Addr
  d_L_lk_is_paper : FuncData
  F_L_lk_is_paper : Fun K "_law_lk_is_paper" "_law_lk_is_paper" s_L_lk_is_paper a_L_lk_is_paper d_L_lk_is_paper
  g_L_lk_is_paper : mg "_law_lk_is_paper" = some (.ref a_L_lk_is_paper)
  b_L_lk_is_paper : Binds K d_L_lk_is_paper ["_law_square", "_law_value"] []
  a_L_lk_filled : Addr
  d_L_lk_filled : FuncData
  F_L_lk_filled : Fun K "_law_lk_filled" "_law_lk_filled" s_L_lk_filled a_L_lk_filled d_L_lk_filled
  g_L_lk_filled : mg "_law_lk_filled" = some (.ref a_L_lk_filled)
  b_L_lk_filled : Binds K d_L_lk_filled ["_law_dice_here", "_law_table", "_law_rows", "_law_columns", "_law_low", "_law_high"] []
  a_L_lk_drawn : Addr
  d_L_lk_drawn : FuncData
  F_L_lk_drawn : Fun K "_law_lk_drawn" "_law_lk_drawn" s_L_lk_drawn a_L_lk_drawn d_L_lk_drawn
  g_L_lk_drawn : mg "_law_lk_drawn" = some (.ref a_L_lk_drawn)
  b_L_lk_drawn : Binds K d_L_lk_drawn ["_law_dice_here", "_law_most"] []
  a_L_bent : Addr
  d_L_bent : FuncData
  F_L_bent : Fun K "_law_bent" "_law_bent" s_L_bent a_L_bent d_L_bent
  g_L_bent : mg "_law_bent" = some (.ref a_L_bent)
  b_L_bent : Binds K d_L_bent ["_law_dice_here", "_law_value"] []
  a_L_right : Addr
  d_L_right : FuncData
  F_L_right : Fun K "_law_right" "_law_right" s_L_right a_L_right d_L_right
  g_L_right : mg "_law_right" = some (.ref a_L_right)
  b_L_right : Binds K d_L_right ["_law_dice_here"] []
  a_law : Addr
  d_law : FuncData
  F_law : Fun K "law" "law" s_law a_law d_law
  g_law : mg "law" = some (.ref a_law)
  b_law : Binds K d_law ["_law_script"] []
  t_MAX_LINES : Tok
  g_MAX_LINES : mg "MAX_LINES" = some (.int 12 t_MAX_LINES)
  t_MAX_ENTRY : Tok
  g_MAX_ENTRY : mg "MAX_ENTRY" = some (.int 60 t_MAX_ENTRY)
  t_LEAST_CLASSES : Tok
  g_LEAST_CLASSES : mg "LEAST_CLASSES" = some (.int 2 t_LEAST_CLASSES)
  t_LINK_SIZE : Tok
  g_LINK_SIZE : mg "LINK_SIZE" = some (.int 3 t_LINK_SIZE)
  t_FLAT_SIZE : Tok
  g_FLAT_SIZE : mg "FLAT_SIZE" = some (.int 2 t_FLAT_SIZE)
  t_NODE_SIZE : Tok
  g_NODE_SIZE : mg "NODE_SIZE" = some (.int 3 t_NODE_SIZE)
  t_LOCKED_SIZE : Tok
  g_LOCKED_SIZE : mg "LOCKED_SIZE" = some (.int 5 t_LOCKED_SIZE)
  t_FLAT : Tok
  g_FLAT : mg "FLAT" = some (.str "flat" t_FLAT)
  t_ROWS : Tok
  g_ROWS : mg "ROWS" = some (.str "rows" t_ROWS)
  t_COLUMNS : Tok
  g_COLUMNS : mg "COLUMNS" = some (.str "columns" t_COLUMNS)
  t_TREE : Tok
  g_TREE : mg "TREE" = some (.str "tree" t_TREE)
  t_LOCKED : Tok
  g_LOCKED : mg "LOCKED" = some (.str "locked" t_LOCKED)
  z_isinstance : mg "isinstance" = none
  z_all : mg "all" = none
  z_any : mg "any" = none
  z_len : mg "len" = none
  z_list : mg "list" = none
  z_tuple : mg "tuple" = none
  z_range : mg "range" = none
  z_sorted : mg "sorted" = none
  z_set : mg "set" = none
  z_zip : mg "zip" = none
  z_enumerate : mg "enumerate" = none
  z_int : mg "int" = none
  z_bool : mg "bool" = none
  z_str : mg "str" = none
  z_abs : mg "abs" = none
  z_max : mg "max" = none
  z_min : mg "min" = none
  z_repr : mg "repr" = none
end Kw
namespace Kw
open PySem PySem.Spec PyProof.Rows L2
section
variable {X : Cx}
/-! == and != against something empty, whatever stands in the other -/
def rEmp (K : PySem.W.Frag) (neg : Bool) : R2 := fun x y H Q => ∃ (a b : Addr) (xs : List V), x = .ref a ∧ y = .ref b ∧ ((SqL K H a xs ∧ SqL K H b []) ∨ (SqT K H a xs ∧ SqT K H b [])) ∧ Q (.bl (if neg then !xs.isEmpty else xs.isEmpty)) H
theorem op_eqE (hu : X.A.units < cLine) : OpR X (compareOp .Eq) (rEmp X.K false) := by
  intro pins s σ H x y v u Q I rx ry h
  obtain ⟨a, b, xs, rfl, rfl, hq, q⟩ := h
  cases rx
  cases ry
  rcases hq with ⟨h1, h2⟩ | ⟨h1, h2⟩
  · obtain ⟨its, r, p, _⟩ := I.list h1
    obtain ⟨its2, r2, p2, _⟩ := I.list h2
    cases r2
    cases r with
    | nil => exact SeqAt.eq_listAt (e := fun _ => true) p.isList p2.isList rfl hu (fun j h1 _ => absurd h1 (by simp)) ⟨.bl true, H, I, rfl, q⟩
    | cons r t => exact SeqAt.eq_list_lengthsAt p.isList p2.isList (by simp) hu ⟨.bl false, H, I, rfl, q⟩
  · obtain ⟨its, r, p, _⟩ := I.tuple h1
    obtain ⟨its2, r2, p2, _⟩ := I.tuple h2
    cases r2
    refine SeqAt.eq_tupleAt (e := fun _ => true) p p2 hu (fun j h1 h2 => absurd h2 (by simp)) ?_
    cases r with
    | nil => exact ⟨.bl true, H, I, rfl, q⟩
    | cons r t => exact ⟨.bl false, H, I, by show Value.bool _ = Value.bool false; congr 1, q⟩
theorem op_neE (hu : X.A.units < cLine) : OpR X (compareOp .NotEq) (rEmp X.K true) := by
  intro pins s σ H x y v u Q I rx ry h
  obtain ⟨a, b, xs, rfl, rfl, hq, q⟩ := h
  cases rx
  cases ry
  show wpAny _ _ (richCompare .NotEq _ _) _ _ _
  rcases hq with ⟨h1, h2⟩ | ⟨h1, h2⟩
  · obtain ⟨its, r, p, _⟩ := I.list h1
    obtain ⟨its2, r2, p2, _⟩ := I.list h2
    cases r2
    cases r with
    | nil => exact SeqAt.RcNeAt.lists (e := fun _ => true) p.isList p2.isList rfl hu (fun j h1 _ => absurd h1 (by simp)) _ _ _ _ ⟨.bl false, H, I, rfl, q⟩
    | cons r t => exact SeqAt.RcNeAt.lists_lengths p.isList p2.isList (by simp) hu _ _ _ _ ⟨.bl true, H, I, rfl, q⟩
  · obtain ⟨its, r, p, _⟩ := I.tuple h1
    obtain ⟨its2, r2, p2, _⟩ := I.tuple h2
    cases r2
    refine SeqAt.RcNeAt.tuples (e := fun _ => true) p p2 hu (fun j h1 h2 => absurd h2 (by simp)) _ _ _ _ ?_
    cases r with
    | nil => exact ⟨.bl false, H, I, rfl, q⟩
    | cons r t => exact ⟨.bl true, H, I, by show Value.bool _ = Value.bool true; congr 1, q⟩
/-! repr of a truth value -/
theorem call_repr_bool : CallR X (.builtin "repr") (fun xs H Q => ∃ b : Bool, xs = [.bl b] ∧ Q (.str (if b then "True" else "False")) H) := by
  intro pins s σ H xs us Q I r h
  obtain ⟨b, rfl, q⟩ := h
  obtain ⟨u, rfl, r1⟩ := vals1 r
  cases r1
  exact PySem.P.repr_of_bool ⟨.str _, H, I.tok _, ⟨_, rfl⟩, q⟩
end
end Kw
namespace Kw
open PySem PySem.Spec PyProof.Rows L2 HT
section
variable {prog : Program} {w : World} {A : Around} {E : Value → Shared → Prop} {s : Shared}
theorem rev_adjust (n : Nat) : Builtin.Slice.sliceAdjust none none (-1) (n : Int) = ((n : Int) - 1, -1) := by
  unfold Builtin.Slice.sliceAdjust
  simp
theorem rev_places (n : Nat) : Builtin.Slice.slicePlaces ((n : Int) - 1) (-1) (-1) = n := by
  unfold Builtin.Slice.slicePlaces
  simp
  omega
theorem applied_rev {sl : Addr} {a b c : Value} {n : Nat} {Q : Int × Int × Nat → Shared → Prop} (hs : s.heap.IsSliceOf sl a b c) (pa : IsPart a none) (pb : IsPart b none) (pc : IsPart c (some (-1)))
    (h : Q ((n : Int) - 1, -1, n) s) : wpAny (model prog w) A (Builtin.Slice.sliceApplied (.ref sl) (pure (n : Int))) Q E s := by
  rcases id hs with ⟨ob, h1, h2, h3⟩
  unfold Builtin.Slice.sliceApplied Builtin.Slice.sliceFields
  refine wpAny_bind (wpAny_bind (wpAny_field h1 h3 (x := a) rfl ?_))
  refine wpAny_bind (wpAny_field h1 h3 (x := b) rfl ?_)
  refine wpAny_bind (wpAny_field h1 h3 (x := c) rfl (wpAny_pure ?_))
  refine wpAny_bind (slicePart_ pc ?_)
  show wpAny _ _ (if ((-1 : Int) == 0) = true then _ else _) _ _ s
  rw [if_neg (by decide)]
  refine wpAny_bind (slicePart_ pa ?_)
  refine wpAny_bind (slicePart_ pb (wpAny_bind (wpAny_pure ?_)))
  show wpAny _ _ (match Builtin.Slice.sliceAdjust none none (-1) (n : Int) with | (x, y) => pure (x, (-1 : Int), Builtin.Slice.slicePlaces x y (-1))) _ _ s
  rw [rev_adjust]
  show wpAny _ _ (pure ((n : Int) - 1, (-1 : Int), Builtin.Slice.slicePlaces ((n : Int) - 1) (-1) (-1))) _ _ s
  rw [rev_places]
  exact wpAny_pure h
theorem fm_congr {α β : Type} {f g : α → Option β} : ∀ {l : List α}, (∀ x ∈ l, f x = g x) → l.filterMap f = l.filterMap g
  | [], _ => rfl
  | a :: l, h => by
    rw [List.filterMap_cons, List.filterMap_cons, h a List.mem_cons_self, fm_congr fun x hx => h x (List.mem_cons_of_mem _ hx)]
theorem pick_rev (xs : Array Value) : ((List.range xs.size).filterMap fun (m : Nat) => xs[((xs.size : Int) - 1 + (m : Int) * (-1)).toNat]?).toArray = xs.toList.reverse.toArray := by
  congr 1
  have e : ((List.range xs.size).filterMap fun (m : Nat) => xs[((xs.size : Int) - 1 + (m : Int) * (-1)).toNat]?) = ((List.range xs.size).map fun m => xs.size - 1 - m).filterMap (xs[·]?) := by
    rw [List.filterMap_map]
    refine fm_congr fun m hm => ?_
    have hlt := List.mem_range.mp hm
    have : ((xs.size : Int) - 1 + (m : Int) * (-1)).toNat = xs.size - 1 - m := by omega
    simp only [this, Function.comp]
  rw [e, PySem.W.krv_range, List.filterMap_reverse, PySem.W.krv_all]
theorem item_rev {t sl : Addr} {items : Array Value} {a b c : Value} {Q : Value → Shared → Prop} (ht : IsTup s.heap t items) (hs : s.heap.IsSliceOf sl a b c) (pa : IsPart a none) (pb : IsPart b none) (pc : IsPart c (some (-1)))
    (h : Q (.ref s.heap.objs.size) { s with heap := s.heap.push { cls := .type "tuple", data := .seq items.toList.reverse.toArray } })
    (hsz : items.size ≤ sizeLine) : wpAny (model prog w) A (getItem (.ref t) (.ref sl)) Q E s := by
  have fits : sizeOk (.seq items.toList.reverse.toArray) := by
    show items.toList.reverse.toArray.size ≤ sizeLine
    rw [List.size_toArray, List.length_reverse, Array.length_toList]
    exact hsz
  rcases id hs with ⟨ob, h1, h2, h3⟩
  have hT : s.TypeIs (.ref sl) "slice" := ⟨ob, h1, h2⟩
  unfold getItem
  try with_reducible refine wpAny_holding ?_
  first | refine wpAny_bind (wpAny_pure ?_) | skip
  refine wpAny_bind (wpAny_sequenceKey ht.typeIs (by decide) ?_)
  refine wpAny_bind (wpAny_callSpecial?_slot (name := Str.ofString "__getitem__") ht.typeIs PyProof.Rows.slot_tuple_getitem ?_)
  refine wpAny_call_entry PyProof.Rows.slot_tuple_getitem ht.typeIs entry_tuple_getitem ?_ (args_tuple_getitem _ _)
  show wpAny _ _ (Builtin.Tuple.tupleItemsOf (.ref t) >>= _) _ _ s
  refine wpAny_bind (tupleItemsOf_ ht ?_)
  refine wpAny_bind (wpAny_typeOf hT ?_)
  rw [if_pos (by decide)]
  refine wpAny_bind (applied_rev hs pa pb pc ?_)
  have hno : ¬ ((((items.size : Int) - 1) == 0 && (-1 : Int) == 1 && items.size == items.size) = true) := by
    intro q
    rw [show ((-1 : Int) == 1) = false by decide, Bool.and_false, Bool.false_and] at q
    cases q
  show wpAny _ _ (if ((((items.size : Int) - 1) == 0 && (-1 : Int) == 1 && items.size == items.size) = true) then _ else _) _ _ s
  rw [if_neg hno, pick_rev]
  first
    | exact wpAny_bind (m := Builtin.Tuple.tupleExact _) (wpAny_newObj_type (wpAny_pure ⟨_, rfl, wpAny_pure h⟩) fits)
    | exact wpAny_bind (m := Builtin.Tuple.tupleExact _) (wpAny_newObj_type (wpAny_bind (wpAny_pure (wpAny_pure ⟨_, rfl, wpAny_pure h⟩))) fits)
    | exact wpAny_bind (wpAny_bind (m := Builtin.Tuple.tupleExact _) (wpAny_newObj_type (wpAny_pure (wpAny_pure ⟨_, rfl, wpAny_pure h⟩)) fits))
    | exact wpAny_bind (wpAny_bind (m := Builtin.Tuple.tupleExact _) (wpAny_newObj_type (wpAny_pure ⟨_, rfl, wpAny_pure h⟩) fits))
end
section
variable {X : Cx}
/-! t[::-1] of a tuple: a new one -/
def tRevT (K : PySem.W.Frag) (te : TE) : TE := fun σ H Q => te σ H fun x H1 => ∃ a xs, x = .ref a ∧ SqT K H1 a xs ∧ ∀ p, H1 p = none → Q (.ref p) (upd H1 p (.tup xs.reverse))
theorem pe_revT {e : Expr} {te : TE} {k : Nat} {p1 p2 p3 pos : Pos} (he : PE X e te) : PE X (.Subscript e (.Slice none none (some (.UnaryOp .USub (.Constant (.int 1) k p1) p2)) p3) pos) (tRevT X.K te) := by
  refine ⟨fun pins s σ H Q I h => Subscript_ (thn (he.run pins s σ H _ I h) fun v s1 ⟨x, H1, I1, r1, q1⟩ => ?_)⟩
  obtain ⟨a, xs, rfl, hx, q⟩ := q1
  cases r1
  have hstep : PO X (some (.UnaryOp .USub (.Constant (.int 1) k p1) p2)) (tPart (tUn (rU fun i => .int (-i)) (tC (.int 1)))) := po_some (pe_un un_neg pe_int)
  refine wpAny_Slice (thn (po_none.run pins s1 σ H1 (fun o H2 => o = none ∧ H2 = H1) I1 ⟨rfl, rfl⟩) fun v1 s2 ⟨o1, H2, I2, q1, e1, e2⟩ => ?_)
  subst e1 e2
  refine thn (po_none.run pins s2 σ H2 (fun o H3 => o = none ∧ H3 = H2) I2 ⟨rfl, rfl⟩) fun v2 s3 ⟨o2, H3, I3, q2, e1, e2⟩ => ?_
  subst e1 e2
  refine thn (hstep.run pins s3 σ H3 (fun o H4 => o = some (-1) ∧ H4 = H3) I3 ⟨1, rfl, -1, rfl, rfl, rfl⟩) fun v3 s4 ⟨o3, H4, I4, q3, e1, e2⟩ => ?_
  subst e1 e2
  have I5 : Inv X pins σ H4 { s4 with heap := s4.heap.push { cls := .type "slice", data := .fields #[v1, v2, v3] } } := I4.kept (t' := s4.toks) fun b ob q => Heap.get?_push_of_some _ q
  obtain ⟨its, r, ht, hz⟩ := I5.tuple hx
  have hl := r.length
  refine tail_any (ops := [.ref a, .ref s4.heap.objs.size]) ht.typeIs PyProof.Rows.slot_tuple_getitem.lookup ?_ (by with_unfolding_all rfl)
  refine item_rev ht (Heap.IsSliceOf.new _ v1 v2 v3) q1 q2 q3 ?_ (by rw [List.size_toArray]; omega)
  refine ⟨.ref _, _, I5.laid (t' := s4.toks) (o := .tup xs.reverse) (fun b ob q => Heap.get?_push_of_some _ q) (Nat.le_refl _) ?_, rfl, q _ (I5.hok.fresh (Nat.le_refl _))⟩
  exact ⟨by rw [List.length_reverse]; exact hz, its.reverse, r.reverse, ⟨_, Heap.get?_push_size _ rfl, rfl, _, rfl⟩⟩
end
end Kw
namespace Kw
open PySem PySem.Spec PyProof.Rows L2
theorem enum_new1 {v : Value} {o : Obj} {P : Heap → Prop} (B : Begins v o P) :
    Meets (Builtin.«enumerate.__new__» ⟨[.type "enumerate", v], []⟩) (fun _ R s => P s.heap ∧
      R (.ok (.ret (.ref (s.heap.push o).objs.size))) { s with heap := (s.heap.push o).push { cls := .type "enumerate", data := .fields #[.none, .bool false, .ref s.heap.objs.size, rawInt 0, .none, .none] } }) :=
  .of_wp fun prog w A R s h => by
    obtain ⟨hp, g, d, tk, os⟩ := s
    obtain ⟨h1, h⟩ := h
    have hsub := sub_enumerate
    have q1 : ∀ {A' : Around} {E : Value → Shared → Prop} {Q : Value → Shared → Prop}, Q (.ref hp.objs.size) ⟨hp.push o, g, d, tk, os⟩ → wpAny (model prog w) A' (pyIter v) Q E ⟨hp, g, d, tk, os⟩ :=
      fun q => B.iter prog w _ _ ⟨hp, g, d, tk, os⟩ _ h1 q
    wp_walk using q1
    refine wpAny_stack_any fun st => wpAny_pure ?_
    split
    · rename_i c _ _ _ _ _
      cases (c == Value.type "enumerate") <;> (wp_walk using q1; exact ⟨_, rfl, h⟩)
    · wp_walk using q1
      exact ⟨_, rfl, h⟩
theorem call_enum1 {prog : Program} {w : World} {A : Around} {E : Value → Shared → Prop} {s : Shared} {v : Value} {o : Obj} {P : Heap → Prop} {Q : Value → Shared → Prop} (B : Begins v o P) (h1 : P s.heap)
    (h : ∀ h', IsEnum h' (s.heap.objs.size + 1) s.heap.objs.size 0 .none → h'.get? s.heap.objs.size = some o →
      (∀ b u, s.heap.get? b = some u → h'.get? b = some u) → Q (.ref (s.heap.objs.size + 1)) { s with heap := h' }) :
    wpAny (model prog w) A (call (.type "enumerate") [v]) Q E s := by
  refine callType_new F.called_enumerate (by decide) (F.typeCall_enumerate_1 _) (F.newCall_enumerate_1 _) (fun obj => F.args_object_init_2 obj _) F.entry_enumerate_new (enum_new1 B) ⟨h1, ?_⟩
  have hz : (s.heap.push o).objs.size = s.heap.objs.size + 1 := Heap.size_push ..
  show _ ∧ _
  rw [hz]
  have he : IsEnum ((s.heap.push o).push { cls := .type "enumerate", data := .fields #[.none, .bool false, .ref s.heap.objs.size, rawInt 0, .none, .none] }) (s.heap.objs.size + 1) s.heap.objs.size 0 .none := by
    have q := Heap.get?_push_size (s.heap.push o) (o := { cls := .type "enumerate", data := .fields #[.none, .bool false, .ref s.heap.objs.size, rawInt 0, .none, .none] }) rfl
    rw [hz] at q
    exact q
  exact ⟨⟨_, he, rfl⟩, h _ he (Heap.get?_push_of_some _ (Heap.get?_push_size _ B.free)) fun b u x => Heap.get?_push_of_some _ (Heap.get?_push_of_some _ x)⟩
/-! the tuple at a, each item in a new pair with its place -/
def ItEn (K : PySem.W.Frag) (a : Addr) : It where
  go := fun i H => ∃ (xs : List V) (x : V), SqT K H a xs ∧ xs[i]? = some x
  yld := fun i H v H' => ∃ T x, v = .ref T ∧ H T = none ∧ H' = upd H T (.tup [.int (i : Nat), x]) ∧ ∀ xs, SqT K H a xs → xs[i]? = some x
  stop := fun i H => ∃ xs : List V, SqT K H a xs ∧ i = xs.length
theorem turn_en {P : Program} {w : World} {K : PySem.W.Frag} {elts : List Expr} {kk : Nat} {tpos : Pos} (a e it : Addr) :
    Turn P w K (.Tuple elts kk tpos) (ItEn K a) [e, it] e (fun i h => (∃ old, IsEnum h e it ((i : Nat) : Int) old) ∧ h.IsTupleIter it a i ∧ e ≠ it) where
  mem := List.mem_cons_self
  obj := fun i h st b hb => by
    obtain ⟨⟨old, he⟩, ⟨o, ho, hc, hd⟩, _⟩ := st
    have e' : b = e ∨ b = it := by simpa using hb
    rcases e' with rfl | rfl
    · exact ⟨_, he, fun v q => nomatch q⟩
    · exact ⟨o, ho, fun v q => by rw [hd] at q; cases q⟩
  keep := fun i h h' st k => by
    obtain ⟨⟨old, he⟩, hi, hne⟩ := st
    exact ⟨⟨old, k e (by simp) _ he⟩, hi.at fun o q => k it (by simp) o q, hne⟩
  item := by
    intro X hP hw hK hc i pins s σ H E I hf st hg
    subst hP hw hK
    obtain ⟨⟨old, he⟩, hit, hne⟩ := st
    obtain ⟨xs, x, hq, hx⟩ := hg
    obtain ⟨its, rv, p, hz⟩ := I.tuple hq
    have hlt : i < its.toArray.size := by
      rw [List.size_toArray, ← rv.length]
      exact (List.getElem?_eq_some_iff.mp hx).1
    have ea : a ≠ e := fun z => by
      obtain ⟨o, h1, h2, _⟩ := p
      rw [z, he] at h1
      cases h1
      injection h2 with q
      exact absurd q (by decide)
    have ia : a ≠ it := fun z => by
      obtain ⟨o, h1, h2, n, h3⟩ := p
      obtain ⟨o', g1, g2, g3⟩ := hit
      rw [z, g1] at h1
      cases h1
      rw [g3] at h3
      cases h3
    have hh : X.A.handled = none := I.ok.hd hc
    have hel : e < s.heap.objs.size := Heap.lt_size he
    have hil : it < s.heap.objs.size := by
      obtain ⟨_, q, _⟩ := hit
      exact Heap.lt_size q
    refine wpAny_pyNext_enum_itemD (Draws.tuple (show X.A.in1.handled = none from hh) it a ia its.toArray) he ⟨hit, p⟩ hlt hne (by simp [hne, Ne.symm ea]) fun y h' tk hy ho st' hT hsz hk => ?_
    obtain ⟨u, hu, ru⟩ := rv.get hx
    have ey : y = u := by
      have : its[i]? = some y := by simpa using hy
      rw [hu] at this
      exact (Option.some.inj this).symm
    subst ey
    refine ⟨_, rfl, wpAny_letOwnedTupleGo_enum (s := { s with heap := h', toks := tk + 1 }) ho fun h'' he' sb => ?_⟩
    have hT2 : h''.get? s.heap.objs.size = some { cls := .type "tuple", data := .seq #[.int i tk, y] } := (sb.2 _ (Nat.ne_of_gt hel)).trans hT
    have new : ObjOk X.prog X.w (upd H s.heap.objs.size (.tup [.int (i : Nat), x])) h'' s.heap.objs.size (.tup [.int (i : Nat), x]) :=
      ⟨by show 2 ≤ sizeLine; decide, [.int i tk, y], .cons ⟨_, rfl⟩ (.cons ru .nil), ⟨_, hT2, rfl, _, rfl⟩⟩
    have I1 : Inv X pins σ (upd H s.heap.objs.size (.tup [.int (i : Nat), x])) { s with heap := h'', toks := tk + 1 } :=
      I.turnedNew (ch := [e, it]) (fun b ob hb q => (sb.2 b (fun z => hb (by simp [z]))).trans (hk b ob (fun z => hb (by simp [z])) (fun z => hb (by simp [z])) q)) hf (Nat.le_refl _) new
    refine ⟨.ref s.heap.objs.size, _, I1, rfl, ⟨_, x, rfl, I.hok.fresh (Nat.le_refl _), rfl, fun ys hy => by rw [I.tuple_inj hy hq]; exact hx⟩, ⟨⟨y, ?_⟩, st'.1.at fun o q => (sb.2 it (Ne.symm hne)).trans q, hne⟩, fun b hb => ?_⟩
    · have e1 : ((i + 1 : Nat) : Int) = (i : Int) + 1 := by omega
      rw [e1]
      exact he'
    · have e' : b = e ∨ b = it := by simpa using hb
      have hb' : b < s.heap.objs.size := by
        rcases e' with z | z <;> rw [z] <;> assumption
      rw [upd_ne (Nat.ne_of_lt hb')]
      exact (hf b hb).1
  done := by
    intro X hP hw hK hc i pins s σ H E I hf st hg
    subst hP hw hK
    obtain ⟨⟨old, he⟩, hit, hne⟩ := st
    obtain ⟨xs, hq, hx⟩ := hg
    obtain ⟨its, rv, p, hz⟩ := I.tuple hq
    obtain ⟨f0, f1, f2, f3, f4, f5⟩ := hf it (by simp)
    have ia : a ≠ it := fun z => by
      obtain ⟨o, h1, h2, n, h3⟩ := p
      obtain ⟨o', g1, g2, g3⟩ := hit
      rw [z, g1] at h1
      cases h1
      rw [g3] at h3
      cases h3
    have hh : X.A.handled = none := I.ok.hd hc
    have hn : its.toArray.size = i := by rw [List.size_toArray, ← rv.length, hx]
    exact wpAny_pyNext_enum_endD (Draws.tuple (show X.A.in1.handled = none from hh) it a ia its.toArray) he ⟨by rw [hn]; exact hit, p⟩ fun h' eb => ⟨rfl, I.turned (t' := s.toks) (fun b o hb q => eb b o hb q) f0 f1 f3 f4 f5⟩
  self := fun A i s Q E st h => by
    obtain ⟨⟨_, he⟩, _⟩ := st
    exact wpAny_pyIter_enum he h
def iEnT (K : PySem.W.Frag) (ta : TA) : TI := fun σ H R => ta σ H fun vs H1 => ∃ a xs, vs = [.ref a] ∧ SqT K H1 a xs ∧ R (ItEn K a) H1
theorem pi_enumT {X : Cx} {e : Expr} {ta : TA} {p pos tpos : Pos} {elts : List Expr} {kk : Nat} (hg : Gl X "enumerate") (hm : X.mg "enumerate" = none) (ha : PA X [e] ta) (hs : starEach [e] X.env = [(false, eval e X.env)] := by rfl) :
    PI X (.Tuple elts kk tpos) (.Call (.Name "enumerate" p) [e] [] pos) (iEnT X.K ta) := by
  refine ⟨fun pins s σ H R I h => Call_ (ld_blt I hg hm boot_enumerate (PyProof.Rows.callWith_type1 (thn (ha.run pos pins s σ H _ I h) fun us s1 ⟨vs, H1, I1, r1, q1⟩ => ?_) hs rfl))⟩
  obtain ⟨a, xs, rfl, hq, q⟩ := q1
  obtain ⟨u, rfl, r⟩ := vals1 r1
  cases r
  obtain ⟨its, rv, p', hz⟩ := I1.tuple hq
  refine call_enum1 (begins_tuple (t := a) (items := its.toArray)) p' fun h' he hit hk => wpAny_pyIter_enum he ?_
  have I2 : Inv X pins σ H1 { s1 with heap := h' } := I1.kept (t' := s1.toks) hk
  refine ⟨s1.heap.objs.size + 1, [s1.heap.objs.size + 1, s1.heap.objs.size], _, _, H1, rfl, I2, turn_en a (s1.heap.objs.size + 1) s1.heap.objs.size, ⟨⟨.none, he⟩, ⟨_, hit, rfl, rfl⟩, Nat.succ_ne_self _⟩, fun b hb => ?_, q⟩
  have e' : b = s1.heap.objs.size + 1 ∨ b = s1.heap.objs.size := by simpa using hb
  have hle : s1.heap.objs.size ≤ b := by
    rcases e' with z | z <;> rw [z]
    · exact Nat.le_add_right _ _
    · exact Nat.le_refl _
  exact I1.fpOk hle (I1.hok.fresh hle)
end Kw
set_option maxHeartbeats 8000000
namespace Kw
open PySem PySem.Spec PyProof.Rows L2
/-! set(xs) of a list of ints, then sorted -/
abbrev emptySet (w : World) : Obj := { cls := .type "set", dict := none, data := .set #[] 0 (.fresh 0 0 (!w.params.followText "set-order")) }
section
variable {P : Program} {w : World} {A : Around} {E : Value → Shared → Prop} {s : Shared}
/-- what set.__init__ leaves of a list of ints -/
def SetMade (w : World) (s : Shared) (ns : List Int) (r : Value) (s2 : Shared) : Prop :=
  r = .none ∧ ∃ g tk c, s2 = { s with heap := g, toks := tk } ∧ SetR w g s.heap.objs.size (fun j => decide (j ∈ ns)) c ∧ c ≤ ns.length ∧ ∀ b o, s.heap.get? b = some o → g.get? b = some o
theorem call_setL {l : Addr} {items : Array Value} (ns : List Int) {Q : Value → Shared → Prop} (hh : A.handled = none) (hl : s.heap.IsList l items) (hit : IntsAre items.toList ns) (hb : ns.length + 1 < scanBound)
    (h : ∀ (g : Heap) (tk c : Nat), SetR w g s.heap.objs.size (fun j => decide (j ∈ ns)) c → c ≤ ns.length → (∀ b o, s.heap.get? b = some o → g.get? b = some o) → Q (.ref s.heap.objs.size) { s with heap := g, toks := tk }) :
    wpAny (model P w) A (call (.type "set") [.ref l]) Q E s := by
  have hn : items.size = ns.length := by
    have q := IntsAre.length hit
    rwa [Array.length_toList] at q
  obtain ⟨c0, tl0, m0⟩ := F.called_set.mro
  have m1 := F.called_set.made
  have m2 := F.called_set.sub
  refine wpAny_call (codeAny_of_tree ?_)
  show wpAny _ _ (callAny (.type "set") _) _ _ _
  refine wpAny_pure ⟨Code.quiet_builtin _ (by decide +kernel), codeAny_builtin F.entry_type_call ?_⟩
  rw [Around.under_plain (weight_type_call_type "set" [.ref l] []) rfl]
  have m3 := F.called_set.notType
  have m4 := F.called_set.canCreate
  have m5 := F.typeCall_set_1 (.ref l)
  repeat (any_goals (first | assumption | wp_step))
  refine codeAny_mono (code_set_led1 (.ref l) (E := E) (Q₁ := fun obj s1 => obj = .ref s.heap.objs.size ∧ s1 = { s with heap := s.heap.push (emptySet w) }) ⟨rfl, rfl⟩) fun r s1 hr => ?_
  cases r with
  | error e => exact hr
  | ok fl =>
    cases fl with
    | ret obj =>
      obtain ⟨rfl, rfl⟩ := hr
      have hS : (s.heap.push (emptySet w)).get? s.heap.objs.size = some (emptySet w) := Heap.get?_push_size _ rfl
      have hT : Shared.TypeIs { s with heap := s.heap.push (emptySet w) } (.ref s.heap.objs.size) "set" := ⟨_, hS, rfl⟩
      have i1 := F.called_set.init.lookup
      have i2 := F.called_set.init.bind (.ref s.heap.objs.size)
      repeat (any_goals (first | assumption | wp_step))
      refine codeAny_mono (codeAny_call_builtin (R := wants (SetMade w s ns) E) F.called_set.init.plain F.entry_set_init (check_set_init_1 hT ?_)) fun r2 s2 hr2 => ?_
      · obtain ⟨⟨oc, od, dt, sl⟩, h1, h2, nl, h3⟩ := id hl
        simp only at h2 h3
        subst h2 h3
        have hol : (s.heap.push (emptySet w)).get? l = some { cls := .type "list", dict := od, data := .seq items nl, slots := sl } := Heap.get?_push_of_some _ h1
        have t1 := PySem.F.sub_list_set
        have t2 := PySem.F.sub_list_frozenset
        have t3 : (Value.type "list" == Value.type "dict") = false := by decide
        have hl1 : (s.heap.push (emptySet w)).IsList l items := ⟨_, hol, rfl, nl, rfl⟩
        unfold Builtin.«set.__init__» noKeywords Builtin.Frozenset.updateFrom
        generalize hPI : pyIter = PI
        wp_walk
        subst hPI
        refine wpAny_pyIter_list hl1 (wpAny_bind (wpAny_runValue ?_))
        have hlS : l < s.heap.objs.size := Heap.lt_size h1
        have hz : (s.heap.push (emptySet w)).objs.size = s.heap.objs.size + 1 := Heap.size_push ..
        have ha3 : A.in1.in1.in1.handled = none := by simp [hh]
        have neI : l ≠ (s.heap.push (emptySet w)).objs.size := by
          rw [hz]
          exact Nat.ne_of_lt (Nat.lt_succ_of_lt hlS)
        have noS : s.heap.objs.size ∉ [(s.heap.push (emptySet w)).objs.size, l] := by
          rw [hz]
          simp only [List.mem_cons, List.not_mem_nil, or_false, not_or]
          exact ⟨Nat.ne_of_lt (Nat.lt_succ_self _), Nat.ne_of_gt hlS⟩
        have each : ∀ (i : Nat) (v : Value), items[i]? = some v → ∃ k t, ns[i]? = some k ∧ v = .int k t := fun i v hv => by
          have hi : i < ns.length := by
            rw [← hn]
            exact (Array.getElem?_eq_some_iff.mp hv).1
          obtain ⟨t, e⟩ := PyProof.Rows.IntsAre.int_at hit i v (by rw [Array.getElem?_toList]; exact hv)
          refine ⟨ns[i], t, List.getElem?_eq_getElem hi, ?_⟩
          rw [e, List.getD_eq_getElem?_getD, List.getElem?_eq_getElem hi]
          rfl
        refine set_update_ints ((Walks.list ha3 _ l neI items).toS) s.heap.objs.size noS ns hn hb each (items.size - 0) 0 _ (by omega) (Nat.zero_le _)
          ⟨⟨_, Heap.get?_push_size _ rfl, rfl, rfl⟩, (hl1.push _)⟩ ?start ?fin
        case start => exact ⟨0, Nat.le_refl 0, setR_new_at (Heap.get?_push_of_some _ hS)⟩
        case fin =>
          intro s' c' hm hc' hS'
          obtain ⟨g, g2, d', tk', os'⟩ := s'
          have e1 : g2 = s.gens := hm.gens
          have e2 : d' = s.drawn := hm.drawn
          have e3 : os' = s.os := hm.os
          subst e1 e2 e3
          show wpAny _ _ _ _ _ _
          refine wpAny_pure ?_
          show wpAny _ _ (ret Value.none) _ _ _
          rw [hn] at hc'
          refine wpAny_pure ⟨rfl, g, tk', c', rfl, hS', hc', fun b o e => ?_⟩
          have b0 : b < s.heap.objs.size := Heap.lt_size e
          refine hm.heap b o ?_ (Heap.get?_push_of_some _ (Heap.get?_push_of_some _ e))
          simp only [List.mem_cons, List.not_mem_nil, or_false, not_or]
          rw [hz]
          exact ⟨Nat.ne_of_lt b0, Nat.ne_of_lt (Nat.lt_succ_of_lt b0)⟩
      · cases r2 with
        | error e => exact hr2
        | ok fl2 =>
          cases fl2 with
          | ret r =>
            obtain ⟨rfl, g, tk, c', rfl, hS', hc', hk'⟩ := hr2
            repeat (any_goals (first | assumption | wp_step))
            exact h _ _ _ hS' hc' hk'
          | _ => exact hr2.elim
    | _ => exact hr.elim
end
section
variable {X : Cx}
def rSetL (K : PySem.W.Frag) (w : World) : List V → Hp → VK → Prop := fun xs H Q => ∃ (p : Addr) (ns : List Int), xs = [.ref p] ∧ SqL K H p (ns.map V.int) ∧ ns.length ≤ 4000 ∧
  ∀ (q : Addr) (c : Nat), c ≤ ns.length → H q = none → Q (.ref q) (upd H q (SetO w q (fun j => decide (j ∈ ns)) c))
theorem cr_setL (hc : X.calm = true) : CallR X (.type "set") (rSetL X.K X.w) := by
  intro pins s σ H xs us Q I r h
  obtain ⟨p, ns, rfl, hq, hz, q⟩ := h
  rw [Vals.ref1 r]
  obtain ⟨its, rv, pl, _⟩ := I.list hq
  refine call_setL ns (I.ok.hd hc) pl.isList (by simpa using intsAre_of rv) (by unfold scanBound; omega) fun g tk c hS hc' hk => ?_
  exact ⟨.ref _, upd H s.heap.objs.size (SetO X.w s.heap.objs.size (fun j => decide (j ∈ ns)) c), I.laid (t' := tk) hk (Nat.le_refl _) (setO_new hS), rfl, q _ c hc' (I.hok.fresh (Nat.le_refl _))⟩
/-- sorted(set(xs)), read -/
def tSrtSet (K : PySem.W.Frag) (w : World) (te : TE) : TE := tCB (rSortedSet w) (tCons (tCB (rSetL K w) (tCons te tNil)) tNil)
theorem srtSet_read {K : PySem.W.Frag} {w : World} {te : TE} {σ : L2.St} {H : Hp} {Q : VK} (h : te σ H fun x H1 => ∃ (p : Addr) (ns : List Int), x = .ref p ∧ SqL K H1 p (ns.map V.int) ∧ ns.length < 64 ∧
    ∀ (q r : Addr) (o : HO) (ms : List Int), H1 q = none → r ≠ q → H1 r = none → ms.Pairwise (· < ·) → (∀ k : Int, k ∈ ms ↔ k ∈ ns) → Q (.ref r) (upd (upd H1 q o) r (.lst (ms.map V.int))))
    (mono : ∀ Q1 Q2 : VK, (∀ v H1, Q1 v H1 → Q2 v H1) → te σ H Q1 → te σ H Q2) : tSrtSet K w te σ H Q := by
  refine mono _ _ (fun v H1 hv => ?_) h
  obtain ⟨p, ns, rfl, hS, hl, k⟩ := hv
  refine ⟨p, ns, rfl, hS, by omega, fun q c hc hq => ⟨q, _, c, rfl, upd_same, by omega, fun ms r hs hm _ hr => ?_⟩⟩
  have hrq : r ≠ q := fun z => by
    rw [z, upd_same] at hr
    cases hr
  refine k q r _ ms hq hrq (by rwa [upd_ne hrq] at hr) hs fun z => ?_
  rw [hm z, decide_eq_true_eq]
end
end Kw
namespace Kw
open PySem PySem.Spec PyProof.Rows L2
/-! zip over any number of tuples, the pairs kept by one name -/
/-- an iterator, the tuple that it walks, that tuple's items -/
abbrev Col := Addr × Addr × List Value
def AtC (h : Heap) (i : Nat) (q : Col) : Prop := h.IsTupleIter q.1 q.2.1 i ∧ IsTup h q.2.1 q.2.2.toArray
abbrev ZipR (h : Heap) (z TI TO : Addr) (f0 f1 : Value) : Prop :=
  h.get? z = some { cls := .type "zip", dict := none, data := .fields #[f0, f1, .bool false, .ref TI, .ref TO], slots := #[] }
abbrev TupA (h : Heap) (T : Addr) (xs : Array Value) : Prop := h.get? T = some { cls := .type "tuple", data := .seq xs }
structure ZSep (z TI TO : Addr) (L : List Col) : Prop where
  TIz : TI ≠ z
  TOz : TO ≠ z
  TITO : TI ≠ TO
  it : ∀ q ∈ L, q.1 ≠ z ∧ q.1 ≠ TI ∧ q.1 ≠ TO
  row : ∀ q ∈ L, q.2.1 ≠ z ∧ q.2.1 ≠ TO ∧ ∀ r ∈ L, q.2.1 ≠ r.1
  nd : (L.map (·.1)).Nodup
theorem tup_over {h h' : Heap} {a x : Addr} {xs : Array Value} (p : IsTup h a xs) (hs : Heap.SameBut x h h') (h2 : a ≠ x) : IsTup h' a xs := by
  obtain ⟨o, e, c, n, d⟩ := p
  exact ⟨o, hs.extBut _ _ h2 e, c, n, d⟩
theorem AtC.over {h h' : Heap} {i : Nat} {q : Col} {x : Addr} (a : AtC h i q) (hs : Heap.SameBut x h h') (h1 : q.1 ≠ x) (h2 : q.2.1 ≠ x) : AtC h' i q :=
  ⟨a.1.extBut hs.extBut h1, by
    obtain ⟨o, e, c, n, d⟩ := a.2
    exact ⟨o, hs.extBut _ _ h2 e, c, n, d⟩⟩
section
variable {prog : Program} {w : World} {A : Around} {E : Value → Shared → Prop} {s : Shared} {z TI TO : Addr} {L : List Col} {f0 f1 : Value} {kept : Array Value} {i : Nat}
def colAt (L : List Col) (i : Nat) : List Value := L.map fun q => q.2.2.getD i .none
theorem upd_seqA {T : Addr} {xs : Array Value} {x : Value} {k : Nat} {Q : Unit → Shared → Prop} (hT : TupA s.heap T xs) (hz : xs.size ≤ sizeLine)
    (h : ∀ h', TupA h' T (xs.setIfInBounds k x) → Heap.SameBut T s.heap h' → Q () { s with heap := h' }) :
    wpAny (model prog w) A (updateSeq T (·.setIfInBounds k x)) Q E s := by
  refine wpAny_updateSeq hT rfl (h _ ?_ (Heap.SameBut.update ..)) hz (by show (xs.setIfInBounds k x).size ≤ sizeLine + 1; rw [Array.size_setIfInBounds]; omega)
  show Heap.get? _ T = _
  rw [Heap.get?_update_self _ hT rfl]
  simp [Obj.mapSeq]
/-- what a draw leaves -/
structure Drawn (z TI TO : Addr) (L : List Col) (i : Nat) (g : Heap) : Prop where
  zr : ∃ f0 f1, ZipR g z TI TO f0 f1 ∧ (f0 = .none ∨ ∃ a, f0 = rawInt a)
  ti : TupA g TI (L.map fun q => Value.ref q.1).toArray
  to : ∃ kept, kept.size = L.length ∧ TupA g TO kept
  at_ : ∀ q ∈ L, AtC g i q
def Kept (z TO : Addr) (L : List Col) (h g : Heap) : Prop := ∀ c o, c ≠ z → c ≠ TO → (∀ q ∈ L, c ≠ q.1) → h.get? c = some o → g.get? c = some o
theorem colAt_len (L : List Col) (i : Nat) : (colAt L i).length = L.length := List.length_map _
theorem next_first {Q : Value → Shared → Prop} (D : ZSep z TI TO L) (hL : L ≠ []) (hz : ZipR s.heap z TI TO f0 f1) (free : ∀ Q' E', Q' true s → wpAny (model prog w) A (Builtin.SmallTypes.ownedTupleIsFree (.ref z)) Q' E' s) (hTI : TupA s.heap TI (L.map fun q => Value.ref q.1).toArray) (hk : kept.size = L.length) (hTO : TupA s.heap TO kept) (hn : L.length ≤ sizeLine)
    (hat : ∀ q ∈ L, AtC s.heap i q) (hlt : ∀ q ∈ L, i < q.2.2.length)
    (hQ : ∀ g, Drawn z TI TO L (i + 1) g → TupA g s.heap.objs.size (colAt L i).toArray → Kept z TO L s.heap g → Q (.ref s.heap.objs.size) { s with heap := g }) :
    wpAny (model prog w) A (Builtin.«zip.__next__» ⟨[.ref z], []⟩) (fun fin s' => ∃ v, fin = .done (.ret v) ∧ Q v s') E s := by
  show wpAny _ _ (field (.ref z) 2 >>= _) _ _ _
  refine wpAny_bind (wpAny_field hz rfl (x := .bool false) rfl ?_)
  show wpAny _ _ (field (.ref z) 3 >>= _) _ _ _
  refine wpAny_bind (wpAny_field hz rfl (x := .ref TI) rfl ?_)
  refine wpAny_bind (wpAny_seqItems hTI rfl ?_)
  have hne : (L.map fun q => Value.ref q.1).toArray.isEmpty = false := by
    cases L with
    | nil => exact absurd rfl hL
    | cons q r => rfl
  simp only [hne, Bool.false_eq_true, if_false]
  refine wpAny_bind (free _ _ ?_)
  simp only [if_true]
  refine wpAny_bind (wpAny_rule ?_)
  refine wpAny_bind (wpAny_field hz rfl (x := .ref TO) rfl ?_)
  refine wpAny_bind (wpAny_setField_rec hz (by simp) fun g0 hz0 hs0 => ?_)
  replace hz0 : ZipR g0 z TI TO .ellipsis f1 := hz0
  refine wpAny_bind (wpAny_forIn_list _ (fun rest b s' => b = (none, ()) ∧ ∃ (d r : List Col) (ks : Array Value) (g : Heap), L = d ++ r ∧ rest = (r.map fun q => Value.ref q.1).zipIdx d.length ∧ s' = { s with heap := g } ∧ g.objs.size = s.heap.objs.size ∧
      ZipR g z TI TO .ellipsis f1 ∧ TupA g TI (L.map fun q => Value.ref q.1).toArray ∧ ks.size = L.length ∧ TupA g TO ks ∧ ks.toList.take d.length = colAt d i ∧ (∀ q ∈ d, AtC g (i + 1) q) ∧ (∀ q ∈ r, AtC g i q) ∧ Kept z TO L s.heap g) _ ?turn ?fin _ _ ?start)
  case start =>
    refine ⟨rfl, [], L, kept, g0, rfl, by simp, rfl, hs0.1, hz0, hs0.extBut _ _ D.TIz hTI, hk, hs0.extBut _ _ D.TOz hTO, rfl, (fun q hq => absurd hq List.not_mem_nil), fun q hq => ?_, fun c o c1 _ _ e => hs0.extBut _ _ c1 e⟩
    exact (hat q hq).over hs0 (D.it q hq).1 (D.row q hq).1
  case turn =>
    rintro x rest b s' ⟨rfl, d, r, ks, g, hL', hrest, rfl, hsz, h1, h2, h3, h4, h5, h6, h7, h8⟩
    cases r with
    | nil => cases hrest
    | cons q r =>
      rw [List.map_cons, List.zipIdx_cons] at hrest
      obtain ⟨rfl, rfl⟩ := List.cons.inj hrest
      have hqL : q ∈ L := by rw [hL']; simp
      have hq := h7 q List.mem_cons_self
      have hi := hlt q hqL
      obtain ⟨q1, q2, q3⟩ := D.it q hqL
      obtain ⟨r1, r2, r3⟩ := D.row q hqL
      refine wpAny_bind (wpAny_onRaise ?_)
      show wpAny _ _ (Builtin.SmallTypes.nextOf (.ref q.1) >>= _) _ _ _
      refine wpAny_bind (wpAny_nextOf_tuple_item hq.1 hq.2 (x := q.2.2[i]) (by simp [hi]) fun g1 hit hs1 => wpAny_pure ?_)
      have hU : TupA g1 TO ks := hs1.extBut _ _ (Ne.symm q3) h4
      refine wpAny_bind (wpAny_seqItems (s := { s with heap := g1 }) hU rfl ?_)
      refine wpAny_bind (upd_seqA (s := { s with heap := g1 }) hU (by omega) fun g2 hU2 hs2 => ?_)
      refine wpAny_bind (wpAny_letGo (wpAny_pure ?_))
      have nd := D.nd
      rw [hL', List.map_append, List.map_cons] at nd
      have nd1 := (List.nodup_append.mp nd).2.2
      have nd2 := (List.nodup_cons.mp (List.nodup_append.mp nd).2.1).1
      have one : ∀ p ∈ L, p.1 ≠ q.1 → ∀ j, AtC g j p → AtC g2 j p := fun p hp hne j a =>
        (a.over hs1 hne ((D.row p hp).2.2 q hqL)).over hs2 (D.it p hp).2.2 (D.row p hp).2.1
      have hd : d.length < ks.size := by
        rw [h3, hL', List.length_append, List.length_cons]
        omega
      refine ⟨rfl, d ++ [q], r, ks.setIfInBounds d.length q.2.2[i], g2, by rw [hL']; simp, by rw [List.length_append]; rfl, rfl, ?_, ?_, ?_, by rw [Array.size_setIfInBounds]; exact h3, hU2, ?_, fun p hp => ?_, fun p hp => ?_, ?_⟩
      · rw [hs2.1, hs1.1, hsz]
      · exact hs2.extBut _ _ (Ne.symm D.TOz) (hs1.extBut _ _ (Ne.symm q1) h1)
      · exact hs2.extBut _ _ D.TITO (hs1.extBut _ _ (Ne.symm q2) h2)
      · rw [List.length_append, List.length_singleton, Array.toList_setIfInBounds, List.take_add_one, List.take_set_of_le (Nat.le_refl _), h5, List.getElem?_set_self (by simpa using hd)]
        unfold colAt
        rw [List.map_append]
        congr 1
        show [q.2.2[i]] = [q.2.2.getD i .none]
        rw [List.getD_eq_getElem?_getD, List.getElem?_eq_getElem hi]
        rfl
      · rcases List.mem_append.mp hp with hp | hp
        · exact one p (by rw [hL']; exact List.mem_append_left _ hp) (fun e => nd1 p.1 (List.mem_map_of_mem hp) q.1 List.mem_cons_self e) _ (h6 p hp)
        · cases List.mem_singleton.mp hp
          exact ⟨hit.extBut hs2.extBut q3, tup_over (tup_over hq.2 hs1 (r3 q hqL)) hs2 r2⟩
      · exact one p (by rw [hL']; exact List.mem_append_right _ (List.mem_cons_of_mem _ hp)) (fun e => nd2 (by rw [← e]; exact List.mem_map_of_mem hp)) _ (h7 p (List.mem_cons_of_mem _ hp))
      · exact fun c o c1 c2 c3 e => hs2.extBut _ _ c2 (hs1.extBut _ _ (c3 q hqL) (h8 c o c1 c2 c3 e))
  case fin =>
    rintro b s' ⟨rfl, d, r, ks, g, hL', hrest, rfl, hsz, h1, h2, h3, h4, h5, h6, h7, h8⟩
    have hr : r = [] := by
      cases r with
      | nil => rfl
      | cons q r => cases hrest
    subst hr
    rw [List.append_nil] at hL'
    subst hL'
    refine wpAny_bind (wpAny_seqItems (s := { s with heap := g }) h4 rfl ?_)
    have hks : ks.toList = colAt L i := by
      rw [← h5, List.take_of_length_le (by rw [Array.length_toList, h3]; exact Nat.le_refl _)]
    refine wpAny_bind (wpAny_newTuple ?_ (by rw [hks, colAt_len]; exact hn))
    rw [hks]
    show wpAny _ _ (Builtin.SmallTypes.ownedTupleHandOut (.ref z) (.ref g.objs.size) >>= _) _ _ { s with heap := g.push { cls := .type "tuple", data := .seq (colAt L i).toArray } }
    refine wpAny_bind ?_
    unfold Builtin.SmallTypes.ownedTupleHandOut
    have hzg : z < g.objs.size := Heap.lt_size h1
    have p1 : ZipR (g.push { cls := .type "tuple", data := .seq (colAt L i).toArray }) z TI TO .ellipsis f1 := Heap.get?_push_of_some _ h1
    refine wpAny_bind (wpAny_setField_rec p1 (by simp) fun g7 z7 s7 => ?_)
    replace z7 : ZipR g7 z TI TO (rawInt g.objs.size) f1 := z7
    refine wpAny_setField_rec z7 (by simp) fun g8 z8 s8 => ?_
    replace z8 : ZipR g8 z TI TO (rawInt g.objs.size) (.bool false) := z8
    have up : ∀ c o, c ≠ z → g.get? c = some o → g8.get? c = some o := fun c o c1 e => s8.extBut _ _ c1 (s7.extBut _ _ c1 (Heap.get?_push_of_some _ e))
    refine wpAny_pure ⟨_, rfl, ?_⟩
    show Q (.ref g.objs.size) { s with heap := g8 }
    rw [hsz]
    refine hQ g8 ⟨⟨_, _, z8, .inr ⟨_, rfl⟩⟩, up _ _ D.TIz h2, ⟨ks, h3, up _ _ D.TOz h4⟩, fun q hq => ?_⟩ ?_ fun c o c1 c2 c3 e => up c o c1 (h8 c o c1 c2 c3 e)
    · obtain ⟨a1, o, e, c, n, dd⟩ := h6 q hq
      exact ⟨a1.at fun o e => up _ _ (D.it q hq).1 e, o, up _ _ (D.row q hq).1 e, c, n, dd⟩
    · rw [← hsz]
      exact s8.extBut _ _ (Nat.ne_of_gt hzg) (s7.extBut _ _ (Nat.ne_of_gt hzg) (Heap.get?_push_size _ rfl))
theorem look_alive {a : Addr} {Q : Option Obj → Shared → Prop} (h : Q (s.heap.get? a) s) : wpAny (model prog w) A (loadIfAlive a) Q E s := fun Γ p hΓ => by
  unfold loadIfAlive
  rw [Sem.wp_loadIfAlive]
  exact h
/-- the pair that was given out is still held -/
theorem next_again {Q : Value → Shared → Prop} (D : ZSep z TI TO L) (hL : L ≠ []) (hz : ZipR s.heap z TI TO f0 f1) (hf0 : f0 = .none ∨ ∃ a, f0 = rawInt a) (hTI : TupA s.heap TI (L.map fun q => Value.ref q.1).toArray) (hk : kept.size = L.length) (hTO : TupA s.heap TO kept) (hn : L.length ≤ sizeLine)
    (held : ∀ Q' E', (∀ g f1', ZipR g z TI TO f0 f1' → Heap.SameBut z s.heap g → Q' false { s with heap := g }) → wpAny (model prog w) A (Builtin.SmallTypes.ownedTupleIsFree (.ref z)) Q' E' s)
    (hat : ∀ q ∈ L, AtC s.heap i q) (hlt : ∀ q ∈ L, i < q.2.2.length)
    (hQ : ∀ g, Drawn z TI TO L (i + 1) g → TupA g s.heap.objs.size (colAt L i).toArray → Kept z TO L s.heap g → Q (.ref s.heap.objs.size) { s with heap := g }) :
    wpAny (model prog w) A (Builtin.«zip.__next__» ⟨[.ref z], []⟩) (fun fin s' => ∃ v, fin = .done (.ret v) ∧ Q v s') E s := by
  show wpAny _ _ (field (.ref z) 2 >>= _) _ _ _
  refine wpAny_bind (wpAny_field hz rfl (x := .bool false) rfl ?_)
  show wpAny _ _ (field (.ref z) 3 >>= _) _ _ _
  refine wpAny_bind (wpAny_field hz rfl (x := .ref TI) rfl ?_)
  refine wpAny_bind (wpAny_seqItems hTI rfl ?_)
  have hne : (L.map fun q => Value.ref q.1).toArray.isEmpty = false := by
    cases L with
    | nil => exact absurd rfl hL
    | cons q r => rfl
  simp only [hne, Bool.false_eq_true, if_false]
  refine wpAny_bind (held _ _ fun g0 f1' hz0 hs0 => ?_)
  simp only [Bool.false_eq_true, if_false]
  refine wpAny_bind (MeetsSeq2.wpAny_forIn_array _ (fun rest b s' => b.1 = none ∧ ∃ (d r : List Col) (g : Heap), L = d ++ r ∧ rest = (r.map fun q => Value.ref q.1) ∧ s' = { s with heap := g } ∧ g.objs.size = s.heap.objs.size ∧
      ZipR g z TI TO f0 f1' ∧ TupA g TI (L.map fun q => Value.ref q.1).toArray ∧ TupA g TO kept ∧ b.2.toList = colAt d i ∧ (∀ q ∈ d, AtC g (i + 1) q) ∧ (∀ q ∈ r, AtC g i q) ∧ Kept z TO L s.heap g) _ ?turn ?fin _ _ ?start)
  case start =>
    refine ⟨rfl, [], L, g0, rfl, by simp, rfl, hs0.1, hz0, hs0.extBut _ _ D.TIz hTI, hs0.extBut _ _ D.TOz hTO, rfl, (fun q hq => absurd hq List.not_mem_nil), fun q hq => ?_, fun c o c1 _ _ e => hs0.extBut _ _ c1 e⟩
    exact (hat q hq).over hs0 (D.it q hq).1 (D.row q hq).1
  case turn =>
    rintro x rest b s' ⟨hb, d, r, g, hL', hrest, rfl, hsz, h1, h2, h4, h5, h6, h7, h8⟩
    cases r with
    | nil => cases hrest
    | cons q r =>
      rw [List.map_cons] at hrest
      obtain ⟨rfl, rfl⟩ := List.cons.inj hrest
      have hqL : q ∈ L := by rw [hL']; simp
      have hq := h7 q List.mem_cons_self
      have hi := hlt q hqL
      obtain ⟨q1, q2, q3⟩ := D.it q hqL
      obtain ⟨r1, r2, r3⟩ := D.row q hqL
      refine wpAny_bind (wpAny_holding ?_)
      show wpAny _ _ (Builtin.SmallTypes.nextOf (.ref q.1) >>= _) _ _ _
      refine wpAny_bind (wpAny_nextOf_tuple_item hq.1 hq.2 (x := q.2.2[i]) (by simp [hi]) fun g1 hit hs1 => wpAny_pure ?_)
      refine wpAny_pure ?_
      have nd := D.nd
      rw [hL', List.map_append, List.map_cons] at nd
      have nd1 := (List.nodup_append.mp nd).2.2
      have nd2 := (List.nodup_cons.mp (List.nodup_append.mp nd).2.1).1
      have one : ∀ p ∈ L, p.1 ≠ q.1 → ∀ j, AtC g j p → AtC g1 j p := fun p hp hne j a => a.over hs1 hne ((D.row p hp).2.2 q hqL)
      refine ⟨rfl, d ++ [q], r, g1, by rw [hL']; simp, rfl, rfl, ?_, ?_, ?_, ?_, ?_, fun p hp => ?_, fun p hp => ?_, ?_⟩
      · rw [hs1.1, hsz]
      · exact hs1.extBut _ _ (Ne.symm q1) h1
      · exact hs1.extBut _ _ (Ne.symm q2) h2
      · exact hs1.extBut _ _ (Ne.symm q3) h4
      · show (b.2.push q.2.2[i]).toList = _
        rw [Array.toList_push, h5]
        unfold colAt
        rw [List.map_append]
        congr 1
        show [q.2.2[i]] = [q.2.2.getD i .none]
        rw [List.getD_eq_getElem?_getD, List.getElem?_eq_getElem hi]
        rfl
      · rcases List.mem_append.mp hp with hp | hp
        · exact one p (by rw [hL']; exact List.mem_append_left _ hp) (fun e => nd1 p.1 (List.mem_map_of_mem hp) q.1 List.mem_cons_self e) _ (h6 p hp)
        · cases List.mem_singleton.mp hp
          exact ⟨hit, tup_over hq.2 hs1 (r3 q hqL)⟩
      · exact one p (by rw [hL']; exact List.mem_append_right _ (List.mem_cons_of_mem _ hp)) (fun e => nd2 (by rw [← e]; exact List.mem_map_of_mem hp)) _ (h7 p (List.mem_cons_of_mem _ hp))
      · exact fun c o c1 c2 c3 e => hs1.extBut _ _ (c3 q hqL) (h8 c o c1 c2 c3 e)
  case fin =>
    rintro b s' ⟨hb, d, r, g, hL', hrest, rfl, hsz, h1, h2, h4, h5, h6, h7, h8⟩
    have hr : r = [] := by
      cases r with
      | nil => rfl
      | cons q r => cases hrest
    subst hr
    rw [List.append_nil] at hL'
    subst hL'
    simp only [hb]
    refine wpAny_bind (wpAny_newTuple ?_ (by rw [h5, colAt_len]; exact hn))
    rw [h5]
    refine wpAny_pure ⟨_, rfl, ?_⟩
    show Q (.ref g.objs.size) { s with heap := g.push { cls := .type "tuple", data := .seq (colAt L i).toArray } }
    have up : ∀ c o, g.get? c = some o → (g.push { cls := .type "tuple", data := .seq (colAt L i).toArray }).get? c = some o := fun c o e => Heap.get?_push_of_some _ e
    have new : TupA (g.push { cls := .type "tuple", data := .seq (colAt L i).toArray }) g.objs.size (colAt L i).toArray := Heap.get?_push_size _ rfl
    rw [hsz] at new ⊢
    refine hQ _ ⟨⟨_, _, up _ _ h1, hf0⟩, up _ _ h2, ⟨kept, hk, up _ _ h4⟩, fun q hq => ?_⟩ new fun c o c1 c2 c3 e => up c o (h8 c o c1 c2 c3 e)
    obtain ⟨a1, o, e, c, n, dd⟩ := h6 q hq
    exact ⟨a1.at fun o e => up _ _ e, o, up _ _ e, c, n, dd⟩
/-- is the pair that was given out free? -/
theorem free_or_held (hz : ZipR s.heap z TI TO f0 f1) (hf0 : f0 = .none ∨ ∃ a, f0 = rawInt a) :
    (∀ Q' E', Q' true s → wpAny (model prog w) A (Builtin.SmallTypes.ownedTupleIsFree (.ref z)) Q' E' s) ∨
    (∀ Q' E', (∀ g f1', ZipR g z TI TO f0 f1' → Heap.SameBut z s.heap g → Q' false { s with heap := g }) → wpAny (model prog w) A (Builtin.SmallTypes.ownedTupleIsFree (.ref z)) Q' E' s) := by
  rcases hf0 with rfl | ⟨a, rfl⟩
  · refine .inl fun Q' E' q => ?_
    unfold Builtin.SmallTypes.ownedTupleIsFree
    exact wpAny_bind (wpAny_field hz rfl (x := .none) rfl (wpAny_pure q))
  · cases hg : s.heap.get? a.toNat with
    | none =>
      refine .inl fun Q' E' q => ?_
      unfold Builtin.SmallTypes.ownedTupleIsFree
      refine wpAny_bind (wpAny_field hz rfl (x := rawInt a) rfl ?_)
      show wpAny _ _ (loadIfAlive a.toNat >>= _) _ _ _
      refine wpAny_bind (look_alive ?_)
      rw [hg]
      exact wpAny_pure q
    | some o =>
      refine .inr fun Q' E' q => ?_
      unfold Builtin.SmallTypes.ownedTupleIsFree
      refine wpAny_bind (wpAny_field hz rfl (x := rawInt a) rfl ?_)
      show wpAny _ _ (loadIfAlive a.toNat >>= _) _ _ _
      refine wpAny_bind (look_alive ?_)
      rw [hg]
      show wpAny _ _ (field (.ref z) 1 >>= _) _ _ _
      refine wpAny_bind (wpAny_field hz rfl (x := f1) rfl ?_)
      by_cases hb : (f1 != Value.bool true) = true
      · simp only [hb, if_true]
        refine wpAny_bind (wpAny_setField_rec hz (by simp) fun g hg' hs => wpAny_pure ?_)
        exact q g (.bool true) hg' hs
      · simp only [hb, if_false]
        exact wpAny_pure (q s.heap f1 hz (Heap.SameBut.refl _ _))
theorem zipA_item {Q : Option Value → Shared → Prop} (D : ZSep z TI TO L) (hL : L ≠ []) (hd : Drawn z TI TO L i s.heap) (hn : L.length ≤ sizeLine) (hlt : ∀ q ∈ L, i < q.2.2.length)
    (hQ : ∀ g, Drawn z TI TO L (i + 1) g → TupA g s.heap.objs.size (colAt L i).toArray → Kept z TO L s.heap g → Q (some (.ref s.heap.objs.size)) { s with heap := g }) :
    wpAny (model prog w) A (pyNext (.ref z)) Q E s := by
  obtain ⟨⟨f0, f1, hz, hf0⟩, hTI, ⟨kept, hk, hTO⟩, hat⟩ := hd
  have hT : s.TypeIs (.ref z) "zip" := ⟨_, hz, rfl⟩
  unfold pyNext
  refine wpAny_bind (wpAny_attempt (wpAny_callSpecial?_slot (name := Str.ofString "__next__") hT F.slot_zip_next (wpAny_call_entry F.slot_zip_next hT F.entry_zip_next ?_ (F.args_zip_next_1 _))))
  rcases free_or_held (prog := prog) (w := w) hz hf0 with fr | fr
  · exact next_first D hL hz fr hTI hk hTO hn hat hlt fun g a b c => wpAny_pure (hQ g a b c)
  · exact next_again D hL hz hf0 hTI hk hTO hn fr hat hlt fun g a b c => wpAny_pure (hQ g a b c)
theorem next_end {Q : Fin → Shared → Prop} {q : Col} {r : List Col} (hh : A.handled = none) (D : ZSep z TI TO (q :: r)) (hd : Drawn z TI TO (q :: r) i s.heap) (hlt : q.2.2.length = i)
    (hE : ∀ g e, Kept z TO (q :: r) s.heap g → (∃ o, g.get? e = some o ∧ o.cls = .type "StopIteration") → E (.ref e) { s with heap := g }) :
    wpAny (model prog w) A (Builtin.«zip.__next__» ⟨[.ref z], []⟩) Q E s := by
  obtain ⟨⟨f0, f1, hz, hf0⟩, hTI, ⟨kept, hk, hTO⟩, hat⟩ := hd
  have hq := hat q List.mem_cons_self
  obtain ⟨q1, q2, q3⟩ := D.it q List.mem_cons_self
  obtain ⟨r1, r2, r3⟩ := D.row q List.mem_cons_self
  show wpAny _ _ (field (.ref z) 2 >>= _) _ _ _
  refine wpAny_bind (wpAny_field hz rfl (x := .bool false) rfl ?_)
  show wpAny _ _ (field (.ref z) 3 >>= _) _ _ _
  refine wpAny_bind (wpAny_field hz rfl (x := .ref TI) rfl ?_)
  refine wpAny_bind (wpAny_seqItems hTI rfl ?_)
  have hne : ((q :: r).map fun q => Value.ref q.1).toArray.isEmpty = false := rfl
  simp only [hne, Bool.false_eq_true, if_false]
  have stop : ∀ {g0 : Heap} {Q' : Value → Shared → Prop} {E' : Value → Shared → Prop}, Heap.SameBut z s.heap g0 →
      (∀ g e, Heap.ExtBut q.1 g0 g → (∃ o, g.get? e = some o ∧ o.cls = .type "StopIteration") → E' (.ref e) { s with heap := g }) → wpAny (model prog w) A (Builtin.SmallTypes.nextOf (.ref q.1)) Q' E' { s with heap := g0 } := fun {g0 Q' E'} hs0 he =>
    wpAny_nextOf_tuple_end (s := { s with heap := g0 }) hh (hq.over hs0 q1 r1).1 (hq.over hs0 q1 r1).2 (by simp [hlt]) he
  rcases free_or_held (prog := prog) (w := w) (A := A) hz hf0 with fr | fr
  · refine wpAny_bind (fr _ _ ?_)
    simp only [if_true]
    refine wpAny_bind (wpAny_rule ?_)
    refine wpAny_bind (wpAny_field hz rfl (x := .ref TO) rfl ?_)
    refine wpAny_bind (wpAny_setField_rec hz (by simp) fun g0 hz0 hs0 => ?_)
    replace hz0 : ZipR g0 z TI TO .ellipsis f1 := hz0
    refine wpAny_bind (wpAny_forIn_list _ (fun rest b s' => (∃ k, rest = (Value.ref q.1, k) :: (r.map fun q => Value.ref q.1).zipIdx (k + 1)) ∧ s' = { s with heap := g0 }) _ ?turn ?fin _ _ ⟨⟨0, rfl⟩, rfl⟩)
    case fin => rintro b s' ⟨⟨k, hk⟩, _⟩; cases hk
    case turn =>
      rintro x rest b s' ⟨⟨k, hk⟩, rfl⟩
      obtain ⟨rfl, rfl⟩ := List.cons.inj hk
      refine wpAny_bind (wpAny_onRaise ?_)
      show wpAny _ _ (Builtin.SmallTypes.nextOf (.ref q.1) >>= _) _ _ _
      refine wpAny_bind (stop hs0 fun g e hx he => ?_)
      have hzg : ZipR g z TI TO .ellipsis f1 := hx _ _ (Ne.symm q1) hz0
      refine wpAny_setField_rec (s := { s with heap := g }) hzg (by simp) fun g2 hz2 hs2 => ?_
      obtain ⟨o, eo, ec⟩ := he
      have ne : e ≠ z := fun q => by
        rw [q, hzg] at eo
        cases eo
        injection ec with ec
        exact absurd ec (by decide)
      exact hE g2 e (fun c o c1 c2 c3 h => hs2.extBut _ _ c1 (hx _ _ (c3 q List.mem_cons_self) (hs0.extBut _ _ c1 h))) ⟨o, hs2.extBut _ _ ne eo, ec⟩
  · refine wpAny_bind (fr _ _ fun g0 f1' hz0 hs0 => ?_)
    simp only [Bool.false_eq_true, if_false]
    refine wpAny_bind (MeetsSeq2.wpAny_forIn_array _ (fun rest b s' => rest = ((q :: r).map fun q => Value.ref q.1) ∧ s' = { s with heap := g0 }) _ ?turn ?fin _ _ ⟨rfl, rfl⟩)
    case fin => rintro b s' ⟨hk, _⟩; cases hk
    case turn =>
      rintro x rest b s' ⟨hk, rfl⟩
      rw [List.map_cons] at hk
      obtain ⟨rfl, rfl⟩ := List.cons.inj hk
      refine wpAny_bind (wpAny_holding ?_)
      show wpAny _ _ (Builtin.SmallTypes.nextOf (.ref q.1) >>= _) _ _ _
      refine wpAny_bind (stop hs0 fun g e hx he => ?_)
      exact hE g e (fun c o c1 c2 c3 h => hx _ _ (c3 q List.mem_cons_self) (hs0.extBut _ _ c1 h)) he
theorem zipA_end {Q : Option Value → Shared → Prop} {q : Col} {r : List Col} (hh : A.handled = none) (D : ZSep z TI TO (q :: r)) (hd : Drawn z TI TO (q :: r) i s.heap) (hlt : q.2.2.length = i)
    (hQ : ∀ g, Kept z TO (q :: r) s.heap g → Q none { s with heap := g }) : wpAny (model prog w) A (pyNext (.ref z)) Q E s := by
  obtain ⟨f0, f1, hz, hf0⟩ := hd.zr
  have hT : s.TypeIs (.ref z) "zip" := ⟨_, hz, rfl⟩
  unfold pyNext
  refine wpAny_bind (wpAny_attempt (wpAny_callSpecial?_slot (name := Str.ofString "__next__") hT F.slot_zip_next (wpAny_call_entry F.slot_zip_next hT F.entry_zip_next
    (next_end (show A.in1.handled = none from hh) D hd hlt fun g e hk he => ?_) (F.args_zip_next_1 _))))
  obtain ⟨o, ho, hc⟩ := he
  refine wpAny_bind (wpAny_isInstance (T := "StopIteration") (b := true) ⟨o, ho, hc⟩ isSubtype_stop ?_)
  exact wpAny_pure (hQ _ hk)
end
end Kw
namespace Kw
open PySem PySem.Spec PyProof.Rows L2
theorem zip_ct : ∀ us : List Value, us.length ≤ 12 → checkTypeCall "zip" ⟨us, []⟩ = pure ()
  | [], _ => by kernel_rfl
  | [a], _ => by kernel_rfl
  | [a, b], _ => by kernel_rfl
  | [a, b, c], _ => by kernel_rfl
  | [a, b, c, d], _ => by kernel_rfl
  | [a, b, c, d, e], _ => by kernel_rfl
  | [a, b, c, d, e, f], _ => by kernel_rfl
  | [a, b, c, d, e, f, g], _ => by kernel_rfl
  | [a, b, c, d, e, f, g, h], _ => by kernel_rfl
  | [a, b, c, d, e, f, g, h, i], _ => by kernel_rfl
  | [a, b, c, d, e, f, g, h, i, j], _ => by kernel_rfl
  | [a, b, c, d, e, f, g, h, i, j, k], _ => by kernel_rfl
  | [a, b, c, d, e, f, g, h, i, j, k, l], _ => by kernel_rfl
  | _ :: _ :: _ :: _ :: _ :: _ :: _ :: _ :: _ :: _ :: _ :: _ :: _ :: r, h => absurd h (by simp only [List.length_cons]; omega)
theorem zip_cn : ∀ us : List Value, us.length ≤ 12 → checkBuiltinCall "zip.__new__" ⟨.type "zip" :: us, []⟩ = pure ()
  | [], _ => by kernel_rfl
  | [a], _ => by kernel_rfl
  | [a, b], _ => by kernel_rfl
  | [a, b, c], _ => by kernel_rfl
  | [a, b, c, d], _ => by kernel_rfl
  | [a, b, c, d, e], _ => by kernel_rfl
  | [a, b, c, d, e, f], _ => by kernel_rfl
  | [a, b, c, d, e, f, g], _ => by kernel_rfl
  | [a, b, c, d, e, f, g, h], _ => by kernel_rfl
  | [a, b, c, d, e, f, g, h, i], _ => by kernel_rfl
  | [a, b, c, d, e, f, g, h, i, j], _ => by kernel_rfl
  | [a, b, c, d, e, f, g, h, i, j, k], _ => by kernel_rfl
  | [a, b, c, d, e, f, g, h, i, j, k, l], _ => by kernel_rfl
  | _ :: _ :: _ :: _ :: _ :: _ :: _ :: _ :: _ :: _ :: _ :: _ :: _ :: r, h => absurd h (by simp only [List.length_cons]; omega)
theorem zip_ci (o : Value) (us : List Value) : argsOk "object.__init__" ⟨o :: us, []⟩ := by
  unfold argsOk
  have e := signature?_of (id := "object.__init__") (n := ['_', '_', 't', 'i', 'n', 'i', '_', '_']) (o := ['t', 'c', 'e', 'j', 'b', 'o']) (by kernel_rfl) F.owner_object
  rw [e]
  kernel_rfl
theorem col_addrs {α : Type} (N : Nat) (rows : List α) : (rows.zipIdx.map fun p => N + p.2) = (List.range rows.length).map (fun j => N + j) := by
  have e : (rows.zipIdx.map fun p => N + p.2) = (rows.zipIdx.map Prod.snd).map (fun j => N + j) := by
    rw [List.map_map]
    rfl
  rw [e, List.zipIdx_map_snd, List.range_eq_range']
theorem nodup_addrs (N n : Nat) : ((List.range n).map (fun j => N + j)).Nodup :=
  List.pairwise_map.mpr (List.nodup_range.imp fun h e => h (Nat.add_left_cancel e))
theorem zip_new {rows : List (Addr × List Value)} (hne : rows ≠ []) (hn : rows.length ≤ sizeLine) :
    Meets (Builtin.«zip.__new__» ⟨.type "zip" :: rows.map fun q => Value.ref q.1, []⟩) (fun _ R s => (∀ q ∈ rows, IsTup s.heap q.1 q.2.toArray) ∧
      ∀ (g : Heap) (L : List Col) (z TI TO : Addr), L.map (·.2) = rows → ZSep z TI TO L → Drawn z TI TO L 0 g → (∀ b o, s.heap.get? b = some o → g.get? b = some o) → (∀ b, b = z ∨ b = TI ∨ b = TO ∨ (∃ q ∈ L, b = q.1) → s.heap.objs.size ≤ b) →
        R (.ok (.ret (.ref z))) { s with heap := g }) :=
  .of_wp fun prog w A R s h => by
    obtain ⟨ht, h⟩ := h
    have hsub := sub_zip
    unfold Builtin.«zip.__new__» Builtin.SmallTypes.newClass Builtin.SmallTypes.iterAll
    wp_walk
    show wpAny (model prog w) A.in1 (forIn (rows.map fun q => Value.ref q.1) (#[] : Array Value) fun x its => do
      let d ← holding its.toList (pyIter x)
      pure (ForInStep.yield (its.push d))) _ _ s
    refine wpAny_forIn_list _ (fun rest b s' => ∃ (d r : List (Addr × List Value)) (g : Heap), rows = d ++ r ∧ rest = (r.map fun q => Value.ref q.1) ∧ s' = { s with heap := g } ∧ g.objs.size = s.heap.objs.size + d.length ∧
      b.toList = (List.range d.length).map (fun j => Value.ref (s.heap.objs.size + j)) ∧ (∀ (j : Nat) q, d[j]? = some q → g.get? (s.heap.objs.size + j) = some { cls := .type "tuple_iterator", data := .fields #[.ref q.1, .int 0 0] }) ∧ (∀ b o, s.heap.get? b = some o → g.get? b = some o)) _ ?turn ?fin _ _ ?start
    case start => exact ⟨[], rows, s.heap, rfl, rfl, rfl, rfl, rfl, (fun j q e => by simp at e), fun _ _ e => e⟩
    case turn =>
      rintro x rest b s' ⟨d, r, g, hr, hrest, rfl, hz, hb, hi, hk⟩
      cases r with
      | nil => cases hrest
      | cons q r =>
        rw [List.map_cons] at hrest
        obtain ⟨rfl, rfl⟩ := List.cons.inj hrest
        obtain ⟨o, e, c, n, dd⟩ := ht q (by rw [hr]; simp)
        refine wpAny_bind (wpAny_holding (wpAny_pyIter_tuple (items := q.2.toArray) (show Heap.IsTuple g q.1 q.2.toArray from ⟨o, hk _ _ e, c, n, dd⟩) (wpAny_pure ?_)))
        refine ⟨d ++ [q], r, g.push { cls := .type "tuple_iterator", data := .fields #[.ref q.1, .int 0 0] }, by rw [hr]; simp, rfl, rfl, ?_, ?_, fun j p hj => ?_, fun b o e => Heap.get?_push_of_some _ (hk b o e)⟩
        · rw [Heap.size_push, hz, List.length_append, List.length_singleton]
          omega
        · show (b.push (Value.ref g.objs.size)).toList = _
          rw [Array.toList_push, hb, List.length_append, List.length_singleton, List.range_succ, List.map_append, hz]
          rfl
        · by_cases hlt : j < d.length
          · rw [List.getElem?_append_left hlt] at hj
            exact Heap.get?_push_of_some _ (hi j p hj)
          · rw [List.getElem?_append_right (by omega)] at hj
            have hj0 : j - d.length = 0 := by
              have := (List.getElem?_eq_some_iff.mp hj).1
              simp at this
              omega
            rw [hj0] at hj
            cases hj
            have ej : s.heap.objs.size + j = g.objs.size := by
              rw [hz]
              have : j = d.length := by omega
              rw [this]
            rw [ej]
            exact Heap.get?_push_size _ rfl
    case fin =>
      rintro b s' ⟨d, r, g, hr, hrest, rfl, hz, hb, hi, hk⟩
      have hr0 : r = [] := by
        cases r with
        | nil => rfl
        | cons q r => cases hrest
      subst hr0
      rw [List.append_nil] at hr
      subst hr
      refine wpAny_pure ?_
      have hlen : b.toList.length = rows.length := by rw [hb, List.length_map, List.length_range]
      refine wpAny_bind (wpAny_newTuple ?_ (by rw [hlen]; exact hn))
      refine wpAny_bind (wpAny_newTuple ?_ (by rw [List.length_map, hlen]; exact hn))
      have z1 : (g.push { cls := .type "tuple", data := .seq b.toList.toArray }).objs.size = g.objs.size + 1 := Heap.size_push ..
      have z2 : ((g.push { cls := .type "tuple", data := .seq b.toList.toArray }).push { cls := .type "tuple", data := .seq (b.toList.map fun _ => Value.none).toArray }).objs.size = g.objs.size + 2 := by rw [Heap.size_push, z1]
      show wpAny _ _ (newObj (.type "zip") (.fields #[.none, .bool false, .bool false, .ref g.objs.size, .ref (g.push { cls := .type "tuple", data := .seq b.toList.toArray }).objs.size]) >>= _) _ _ _
      refine wpAny_bind (wpAny_newObj_type ?_)
      refine wpAny_pure ⟨_, rfl, ?_⟩
      show R (.ok (.ret (.ref ((g.push { cls := .type "tuple", data := .seq b.toList.toArray }).push { cls := .type "tuple", data := .seq (b.toList.map fun _ => Value.none).toArray }).objs.size))) _
      generalize hg2 : (g.push { cls := .type "tuple", data := .seq b.toList.toArray }).push { cls := .type "tuple", data := .seq (b.toList.map fun _ => Value.none).toArray } = g2 at z2 ⊢
      have k1 : ∀ c o, g.get? c = some o → (g.push { cls := .type "tuple", data := .seq b.toList.toArray }).get? c = some o := fun c o e => Heap.get?_push_of_some _ e
      have k2 : ∀ c o, (g.push { cls := .type "tuple", data := .seq b.toList.toArray }).get? c = some o → g2.get? c = some o := fun c o e => by
        rw [← hg2]
        exact Heap.get?_push_of_some _ e
      have k3 : ∀ (c : Addr) (o o' : Obj), g2.get? c = some o → (g2.push o').get? c = some o := fun c o o' e => Heap.get?_push_of_some _ e
      have e2 : g2.get? (g.push { cls := .type "tuple", data := .seq b.toList.toArray }).objs.size = some { cls := .type "tuple", data := .seq (b.toList.map fun _ => Value.none).toArray } := by
        rw [← hg2]
        exact Heap.get?_push_size _ rfl
      have e1 : g2.get? g.objs.size = some { cls := .type "tuple", data := .seq b.toList.toArray } := k2 _ _ (Heap.get?_push_size _ rfl)
      rw [z1] at e2 ⊢
      rw [z2]
      have key : ∀ q ∈ rows.zipIdx.map (fun p => ((s.heap.objs.size + p.2, p.1) : Col)), ∃ j : Nat, j < rows.length ∧ rows[j]? = some q.2 ∧ q.1 = s.heap.objs.size + j := fun q hq => by
        obtain ⟨⟨p, j⟩, hp, rfl⟩ := List.mem_map.mp hq
        have := List.mem_zipIdx_iff_getElem?.mp hp
        exact ⟨j, (List.getElem?_eq_some_iff.mp this).1, this, rfl⟩
      refine h _ (rows.zipIdx.map fun p => ((s.heap.objs.size + p.2, p.1) : Col)) (g.objs.size + 2) g.objs.size (g.objs.size + 1) ?_ ⟨?_, ?_, ?_, fun q hq => ?_, fun q hq => ?_, ?_⟩ ⟨⟨.none, .bool false, ?_, .inl rfl⟩, ?_, ⟨(b.toList.map fun _ => Value.none).toArray, ?_, k3 _ _ _ e2⟩, fun q hq => ?_⟩ (fun c o e => k3 _ _ _ (k2 _ _ (k1 _ _ (hk c o e)))) fun c hc => ?_
      · rw [List.map_map]
        show rows.zipIdx.map Prod.fst = rows
        exact List.zipIdx_map_fst ..
      · exact Nat.ne_of_lt (Nat.lt_add_of_pos_right (by decide))
      · exact Nat.ne_of_lt (Nat.lt_succ_self _)
      · exact Nat.ne_of_lt (Nat.lt_succ_self _)
      · obtain ⟨j, hj, _, e⟩ := key q hq
        have lt : q.1 < g.objs.size := by
          rw [e, hz]
          exact Nat.add_lt_add_left hj _
        exact ⟨Nat.ne_of_lt (Nat.lt_add_right 2 lt), Nat.ne_of_lt lt, Nat.ne_of_lt (Nat.lt_succ_of_lt lt)⟩
      · obtain ⟨j, hj, hq2, _⟩ := key q hq
        obtain ⟨o, eo, _⟩ := ht q.2 (List.mem_of_getElem? hq2)
        have lt : q.2.1 < s.heap.objs.size := Heap.lt_size eo
        have lt2 : q.2.1 < g.objs.size := by
          rw [hz]
          exact Nat.lt_add_right _ lt
        refine ⟨Nat.ne_of_lt (Nat.lt_add_right 2 lt2), Nat.ne_of_lt (Nat.lt_succ_of_lt lt2), fun r hr => ?_⟩
        obtain ⟨i, _, _, e⟩ := key r hr
        rw [e]
        exact Nat.ne_of_lt (Nat.lt_add_right _ lt)
      · rw [List.map_map]
        show (rows.zipIdx.map fun p => s.heap.objs.size + p.2).Nodup
        rw [col_addrs]
        exact nodup_addrs _ _
      · rw [← z2]
        exact Heap.get?_push_size _ rfl
      · have e : (rows.zipIdx.map fun p => ((s.heap.objs.size + p.2, p.1) : Col)).map (fun q => Value.ref q.1) = b.toList := by
          rw [List.map_map, hb]
          have q := congrArg (List.map Value.ref) (col_addrs s.heap.objs.size rows)
          rw [List.map_map, List.map_map] at q
          exact q
        rw [e]
        exact k3 _ _ _ e1
      · rw [List.size_toArray, List.length_map, List.length_map, hlen, List.length_zipIdx]
      · obtain ⟨j, hj, hq2, e⟩ := key q hq
        obtain ⟨o, eo, c, n, dd⟩ := ht q.2 (List.mem_of_getElem? hq2)
        refine ⟨⟨_, k3 _ _ _ (k2 _ _ (k1 _ _ (by rw [e]; exact hi j q.2 hq2))), rfl, rfl⟩, o, k3 _ _ _ (k2 _ _ (k1 _ _ (hk _ _ eo))), c, n, dd⟩
      · have ge : s.heap.objs.size ≤ g.objs.size := by
          rw [hz]
          exact Nat.le_add_right _ _
        rcases hc with rfl | rfl | rfl | ⟨q, hq, rfl⟩
        · exact Nat.le_trans ge (Nat.le_add_right _ _)
        · exact ge
        · exact Nat.le_trans ge (Nat.le_add_right _ _)
        · obtain ⟨j, _, _, e⟩ := key q hq
          rw [e]
          exact Nat.le_add_right _ _
end Kw
namespace Kw
open PySem PySem.Spec PyProof.Rows L2
def ad2 (q : Col) : Addr × Addr := (q.1, q.2.1)
theorem ZSep.of_ad {z TI TO : Addr} {L L' : List Col} (D : ZSep z TI TO L) (e : L'.map ad2 = L.map ad2) : ZSep z TI TO L' := by
  have key : ∀ q ∈ L', ∃ p ∈ L, p.1 = q.1 ∧ p.2.1 = q.2.1 := fun q hq => by
    have : ad2 q ∈ L.map ad2 := by
      rw [← e]
      exact List.mem_map_of_mem hq
    obtain ⟨p, hp, hpq⟩ := List.mem_map.mp this
    exact ⟨p, hp, congrArg (fun r : Addr × Addr => r.1) hpq, congrArg (fun r : Addr × Addr => r.2) hpq⟩
  refine ⟨D.TIz, D.TOz, D.TITO, fun q hq => ?_, fun q hq => ?_, ?_⟩
  · obtain ⟨p, hp, e1, e2⟩ := key q hq
    rw [← e1]
    exact D.it p hp
  · obtain ⟨p, hp, e1, e2⟩ := key q hq
    obtain ⟨a, b, c⟩ := D.row p hp
    rw [← e2]
    refine ⟨a, b, fun r hr => ?_⟩
    obtain ⟨p', hp', e1', _⟩ := key r hr
    rw [← e1']
    exact c p' hp'
  · have h : L'.map (·.1) = L.map (·.1) := by
      have q := congrArg (List.map Prod.fst) e
      rw [List.map_map, List.map_map] at q
      exact q
    rw [h]
    exact D.nd
/-- rows told by values, and the cells that walk them -/
def Fits (rows : List (Addr × List V)) (L : List Col) : Prop := Paired (fun q c => q.1 = c.2.1 ∧ Vals q.2 c.2.2) rows L
theorem fits_make {X : Cx} {pins : List (Addr × Obj)} {σ : L2.St} {H : Hp} {s : Shared} (I : Inv X pins σ H s) : ∀ {rows : List (Addr × List V)} {ps : List (Addr × Addr)}, ps.map (·.2) = rows.map (·.1) → (∀ q ∈ rows, SqT X.K H q.1 q.2) →
    ∃ L : List Col, L.map ad2 = ps ∧ Fits rows L ∧ ∀ c ∈ L, IsTup s.heap c.2.1 c.2.2.toArray
  | [], [], _, _ => ⟨[], rfl, .nil, fun c hc => absurd hc List.not_mem_nil⟩
  | [], p :: ps, e, _ => by cases e
  | q :: rows, [], e, _ => by cases e
  | q :: rows, p :: ps, e, h => by
    rw [List.map_cons, List.map_cons] at e
    obtain ⟨e1, e2⟩ := List.cons.inj e
    obtain ⟨L, h1, h2, h3⟩ := fits_make I e2 fun r hr => h r (List.mem_cons_of_mem _ hr)
    obtain ⟨its, r, p', _⟩ := I.tuple (h q List.mem_cons_self)
    refine ⟨(p.1, q.1, its) :: L, ?_, .cons ⟨rfl, r⟩ h2, fun c hc => ?_⟩
    · rw [List.map_cons, h1]
      show (p.1, q.1) :: ps = p :: ps
      rw [← e1]
    · rcases List.mem_cons.mp hc with rfl | hc
      · exact p'
      · exact h3 c hc
theorem fits_len {m : Nat} : ∀ {rows : List (Addr × List V)} {L : List Col}, Fits rows L → (∀ q ∈ rows, q.2.length = m) → ∀ c ∈ L, c.2.2.length = m
  | _, _, .nil, _ => fun c hc => absurd hc List.not_mem_nil
  | _, _, .cons r t, h => fun c hc => by
    rcases List.mem_cons.mp hc with rfl | hc
    · rw [← r.2.length]
      exact h _ List.mem_cons_self
    · exact fits_len t (fun q hq => h q (List.mem_cons_of_mem _ hq)) c hc
theorem fits_col {m i : Nat} (hi : i < m) : ∀ {rows : List (Addr × List V)} {L : List Col}, Fits rows L → (∀ q ∈ rows, q.2.length = m) → Vals (rows.map fun q => q.2.getD i .non) (colAt L i)
  | _, _, .nil, _ => .nil
  | q :: rows, c :: L, .cons r t, h => by
    refine .cons ?_ (fits_col hi t fun q hq => h q (List.mem_cons_of_mem _ hq))
    have hl : i < q.2.length := by rw [h q List.mem_cons_self]; exact hi
    obtain ⟨u, hu, ru⟩ := r.2.get (List.getElem?_eq_getElem hl)
    show L2.RelV (q.2.getD i .non) (c.2.2.getD i .none)
    rw [List.getD_eq_getElem?_getD, List.getD_eq_getElem?_getD, List.getElem?_eq_getElem hl, hu]
    exact ru
/-- the columns of rows that stand still, each a new tuple -/
def ItZ (K : PySem.W.Frag) (rows : List (Addr × List V)) (m : Nat) : It where
  go := fun i H => i < m ∧ ∀ q ∈ rows, SqT K H q.1 q.2
  yld := fun i H v H' => ∃ T, v = .ref T ∧ H T = none ∧ H' = upd H T (.tup (rows.map fun q => q.2.getD i .non))
  stop := fun i H => i = m ∧ ∀ q ∈ rows, SqT K H q.1 q.2
def TnZ (z TI TO : Addr) (L : List Col) (i : Nat) (h : Heap) : Prop :=
  (∃ f0 f1, ZipR h z TI TO f0 f1 ∧ (f0 = .none ∨ ∃ a, f0 = rawInt a)) ∧ TupA h TI (L.map fun q => Value.ref q.1).toArray ∧ (∃ kept, kept.size = L.length ∧ TupA h TO kept) ∧ ∀ q ∈ L, h.IsTupleIter q.1 q.2.1 i
theorem map_ad {α : Type} {L L' : List Col} (f : Addr × Addr → α) (e : L'.map ad2 = L.map ad2) : L'.map (fun q => f (ad2 q)) = L.map (fun q => f (ad2 q)) := by
  have q := congrArg (List.map f) e
  rw [List.map_map, List.map_map] at q
  exact q
theorem TnZ.of_ad {z TI TO : Addr} {L L' : List Col} {i : Nat} {h : Heap} (e : L'.map ad2 = L.map ad2) (t : TnZ z TI TO L i h) : TnZ z TI TO L' i h := by
  obtain ⟨a, b, ⟨kept, c1, c2⟩, d⟩ := t
  refine ⟨a, ?_, ⟨kept, ?_, c2⟩, fun q hq => ?_⟩
  · rw [show (L'.map fun q => Value.ref q.1) = L.map fun q => Value.ref q.1 from map_ad (fun p => Value.ref p.1) e]
    exact b
  · have := congrArg List.length e
    rw [List.length_map, List.length_map] at this
    omega
  · have : ad2 q ∈ L.map ad2 := by
      rw [← e]
      exact List.mem_map_of_mem hq
    obtain ⟨p, hp, hpq⟩ := List.mem_map.mp this
    have e1 : p.1 = q.1 := congrArg (fun r : Addr × Addr => r.1) hpq
    have e2 : p.2.1 = q.2.1 := congrArg (fun r : Addr × Addr => r.2) hpq
    rw [← e1, ← e2]
    exact d p hp
theorem turn_zipS {P : Program} {w : World} {K : PySem.W.Frag} {x : Str} {tpos : Pos} {z TI TO : Addr} {L : List Col} {rows : List (Addr × List V)} {m : Nat} (D : ZSep z TI TO L) (hr : L.map (fun c => c.2.1) = rows.map (·.1)) (hne : rows ≠ []) (hm : ∀ q ∈ rows, q.2.length = m) (hn : rows.length ≤ sizeLine) :
    Turn P w K (.Name x tpos) (ItZ K rows m) (z :: TI :: TO :: L.map (·.1)) z (TnZ z TI TO L) where
  mem := List.mem_cons_self
  obj := fun i h st b hb => by
    obtain ⟨⟨f0, f1, h1, _⟩, h2, ⟨kept, _, h3⟩, h4⟩ := st
    rcases List.mem_cons.mp hb with rfl | hb
    · exact ⟨_, h1, fun v q => nomatch q⟩
    rcases List.mem_cons.mp hb with rfl | hb
    · exact ⟨_, h2, fun v q => nomatch q⟩
    rcases List.mem_cons.mp hb with rfl | hb
    · exact ⟨_, h3, fun v q => nomatch q⟩
    obtain ⟨q, hq, rfl⟩ := List.mem_map.mp hb
    obtain ⟨o, e, _, d⟩ := h4 q hq
    exact ⟨o, e, fun v z => by rw [d] at z; cases z⟩
  keep := fun i h h' st k => by
    obtain ⟨⟨f0, f1, h1, h1'⟩, h2, ⟨kept, h3', h3⟩, h4⟩ := st
    refine ⟨⟨f0, f1, k z (by simp) _ h1, h1'⟩, k TI (by simp) _ h2, ⟨kept, h3', k TO (by simp) _ h3⟩, fun q hq => (h4 q hq).at fun o e => k _ ?_ o e⟩
    exact List.mem_cons_of_mem _ (List.mem_cons_of_mem _ (List.mem_cons_of_mem _ (List.mem_map_of_mem hq)))
  item := by
    intro X hP hw hK hc i pins s σ H E I hf st hg
    subst hP hw hK
    obtain ⟨hi, hrows⟩ := hg
    obtain ⟨L', e, hfit, htup⟩ := fits_make I (ps := L.map ad2) (by rw [List.map_map]; exact hr) hrows
    have D' := D.of_ad e
    have len : L'.length = rows.length := (Paired.length hfit).symm
    have ne : L' ≠ [] := fun q => hne (by rw [q] at len; exact List.length_eq_zero_iff.mp len.symm)
    obtain ⟨a, b, c, d⟩ := st.of_ad e
    refine zipA_item (i := i) D' ne ⟨a, b, c, fun q hq => ⟨d q hq, htup q hq⟩⟩ (by rw [len]; exact hn) (fun q hq => by rw [fits_len hfit hm q hq]; exact hi) fun g dr new kp => ?_
    refine ⟨_, rfl, wpAny_pure ?_⟩
    have hns : ∀ c, c ∈ z :: TI :: TO :: L.map (·.1) → c < s.heap.objs.size := fun c hc => by
      obtain ⟨⟨f0, f1, h1, _⟩, h2, ⟨kept, _, h3⟩, h4⟩ := st
      rcases List.mem_cons.mp hc with rfl | hc
      · exact Heap.lt_size h1
      rcases List.mem_cons.mp hc with rfl | hc
      · exact Heap.lt_size h2
      rcases List.mem_cons.mp hc with rfl | hc
      · exact Heap.lt_size h3
      obtain ⟨q, hq, rfl⟩ := List.mem_map.mp hc
      obtain ⟨o, e, _⟩ := h4 q hq
      exact Heap.lt_size e
    have its : L'.map (·.1) = L.map (·.1) := map_ad (fun p => p.1) e
    have no : ObjOk X.prog X.w (upd H s.heap.objs.size (.tup (rows.map fun q => q.2.getD i .non))) g s.heap.objs.size (.tup (rows.map fun q => q.2.getD i .non)) :=
      ⟨by rw [List.length_map]; exact hn, colAt L' i, fits_col hi hfit hm, ⟨_, new, rfl, _, rfl⟩⟩
    have I1 := I.turnedNew (t' := s.toks) (ch := z :: TI :: TO :: L.map (·.1)) (fun b o hb q => kp b o (fun q' => hb (by simp [q'])) (fun q' => hb (by simp [q'])) (fun p hp q' => hb (by
      rw [← its]
      exact List.mem_cons_of_mem _ (List.mem_cons_of_mem _ (List.mem_cons_of_mem _ (q' ▸ List.mem_map_of_mem hp))))) q) hf (Nat.le_refl _) no
    refine ⟨.ref s.heap.objs.size, _, I1, rfl, ⟨_, rfl, I.hok.fresh (Nat.le_refl _), rfl⟩, ?_, fun c hc => ?_⟩
    · exact TnZ.of_ad e.symm ⟨dr.zr, dr.ti, dr.to, fun q hq => (dr.at_ q hq).1⟩
    · rw [upd_ne (Nat.ne_of_lt (hns c hc))]
      exact (hf c hc).1
  done := by
    intro X hP hw hK hc i pins s σ H E I hf st hg
    subst hP hw hK
    obtain ⟨hi, hrows⟩ := hg
    obtain ⟨L', e, hfit, htup⟩ := fits_make I (ps := L.map ad2) (by rw [List.map_map]; exact hr) hrows
    have D' := D.of_ad e
    have its : L'.map (·.1) = L.map (·.1) := map_ad (fun p => p.1) e
    obtain ⟨a, b, c, d⟩ := st.of_ad e
    cases L' with
    | nil =>
      cases hfit
      exact absurd rfl hne
    | cons q r =>
      refine zipA_end (I.ok.hd hc) D' ⟨a, b, c, fun q hq => ⟨d q hq, htup q hq⟩⟩ (by rw [hi]; exact fits_len hfit hm q List.mem_cons_self) fun g kp => ⟨rfl, ?_⟩
      exact I.turnedL (t' := s.toks) (ch := z :: TI :: TO :: L.map (·.1)) (fun b o hb q => kp b o (fun q' => hb (by simp [q'])) (fun q' => hb (by simp [q'])) (fun p hp q' => hb (by
        rw [← its]
        exact List.mem_cons_of_mem _ (List.mem_cons_of_mem _ (List.mem_cons_of_mem _ (q' ▸ List.mem_map_of_mem hp))))) q) hf
  self := fun A i s Q E st h => by
    obtain ⟨f0, f1, hz, _⟩ := st.1
    have hT : s.TypeIs (.ref z) "zip" := ⟨_, hz, rfl⟩
    refine wpAny_pyIter_slot hT F.slot_zip_iter (wpAny_call_entry F.slot_zip_iter hT F.entry_zip_iter ?_ (F.args_zip_iter_1 _))
    show wpAny _ _ (ret (.ref z)) _ _ s
    exact wpAny_pure ⟨_, rfl, "zip", _, hT, F.slot_zip_next.lookup, h⟩
section
variable {prog : Program} {w : World} {A : Around} {E : Value → Shared → Prop} {s : Shared}
theorem call_zipN {rows : List (Addr × List Value)} {Q : Value → Shared → Prop} (hne : rows ≠ []) (hn : rows.length ≤ 12) (ht : ∀ q ∈ rows, IsTup s.heap q.1 q.2.toArray)
    (h : ∀ (g : Heap) (L : List Col) (z TI TO : Addr), L.map (·.2) = rows → ZSep z TI TO L → Drawn z TI TO L 0 g → (∀ b o, s.heap.get? b = some o → g.get? b = some o) →
      (∀ b, b = z ∨ b = TI ∨ b = TO ∨ (∃ q ∈ L, b = q.1) → s.heap.objs.size ≤ b) → Q (.ref z) { s with heap := g }) :
    wpAny (model prog w) A (call (.type "zip") (rows.map fun q => Value.ref q.1)) Q E s := by
  have hl : (rows.map fun q => Value.ref q.1).length ≤ 12 := by rw [List.length_map]; exact hn
  have hz : rows.length ≤ sizeLine := Nat.le_trans hn (by decide)
  refine callType_new F.called_zip (by decide) (zip_ct _ hl) (zip_cn _ hl) (fun o => zip_ci o _) F.entry_zip_new (zip_new hne hz) ⟨ht, fun g L z TI TO h1 h2 h3 h4 h5 => ?_⟩
  obtain ⟨f0, f1, hzr, _⟩ := h3.zr
  exact ⟨⟨_, hzr, rfl⟩, h g L z TI TO h1 h2 h3 h4 h5⟩
end
/-- for x in zip(*t): t a tuple of one to twelve tuples of one length -/
def iZipS (K : PySem.W.Frag) (te : TE) : TI := fun σ H R => te σ H fun x H1 => ∃ (a : Addr) (rows : List (Addr × List V)) (m : Nat), x = .ref a ∧ SqT K H1 a (rows.map fun q => V.ref q.1) ∧ rows ≠ [] ∧ rows.length ≤ 12 ∧ (∀ q ∈ rows, SqT K H1 q.1 q.2 ∧ q.2.length = m) ∧
  R (ItZ K rows m) H1
theorem vals_refs : ∀ {as : List Addr} {us : List Value}, Vals (as.map V.ref) us → us = as.map Value.ref
  | [], _, .nil => rfl
  | a :: as, _, .cons r t => by
    cases r
    rw [vals_refs t]
    rfl
theorem pi_zipS {X : Cx} {x : Str} {e : Expr} {te : TE} {tpos p p2 pos : Pos} (hc : X.calm = true) (hg : Gl X "zip") (hm : X.mg "zip" = none) (he : PE X e te)
    (hs : starEach [.Starred e p2] X.env = [(true, eval e X.env)] := by rfl) : PI X (.Name x tpos) (.Call (.Name "zip" p) [.Starred e p2] [] pos) (iZipS X.K te) := by
  refine ⟨fun pins s σ H R I h => Call_ (ld_blt I hg hm PyProof.Rows.boot_zip ?_)⟩
  rw [hs]
  refine PySem.W.ks_call (P := fun _ => True) rfl (fun h _ => ⟨.machine, .inr (.inl rfl), ?_⟩) (PySem.W.ks_lone (thn (he.run pins s σ H _ I h) fun v s1 ⟨y, H1, I1, r1, q1⟩ => ?_))
  · exact PySem.W.Looks.of_pure rfl
  obtain ⟨a, rows, m, rfl, hT, hne, hn, hrows, q⟩ := q1
  cases r1
  refine StX.star_any I1 (.inl hT) fun us s2 I2 rv => ⟨trivial, ?_⟩
  have eu : us = (rows.map (·.1)).map Value.ref := vals_refs (by rw [List.map_map]; exact rv)
  subst eu
  obtain ⟨ps, hps⟩ : ∃ ps : List (Addr × Addr), ps.map (·.2) = rows.map (·.1) := ⟨rows.map fun q => (q.1, q.1), by rw [List.map_map]; rfl⟩
  obtain ⟨L0, e0, fit0, tup0⟩ := fits_make I2 hps fun q hq => (hrows q hq).1
  have e1 : (L0.map (·.2)).map (fun q => Value.ref q.1) = (rows.map (·.1)).map Value.ref := by
    have e2 : (L0.map fun c => c.2.1) = rows.map (·.1) := by
      have q1 := congrArg (List.map Prod.snd) e0
      rw [List.map_map, hps] at q1
      exact q1
    rw [List.map_map, ← e2, List.map_map]
    rfl
  have len0 : L0.length = rows.length := (Paired.length fit0).symm
  show wpAny _ _ (call (.type "zip") (((rows.map (·.1)).map Value.ref))) _ _ _
  rw [← e1]
  refine call_zipN (fun z => hne ?_) (by rw [List.length_map, len0]; exact hn) (fun q hq => ?_) fun g L z TI TO h1 h2 h3 h4 h5 => ?_
  · have : rows.length = 0 := by
      rw [← len0]
      exact List.length_eq_zero_iff.mpr (List.map_eq_nil_iff.mp z)
    exact List.length_eq_zero_iff.mp this
  · obtain ⟨c, hc, rfl⟩ := List.mem_map.mp hq
    exact tup0 c hc
  · have I3 : Inv X pins σ H1 { s2 with heap := g } := I2.kept (t' := s2.toks) h4
    have er : (L.map fun c => c.2.1) = rows.map (·.1) := by
      have q1 := congrArg (List.map Prod.fst) h1
      rw [List.map_map, List.map_map] at q1
      have q2 := congrArg (List.map Prod.snd) e0
      rw [List.map_map, hps] at q2
      exact q1.trans q2
    have T := turn_zipS (P := X.prog) (w := X.w) (K := X.K) (x := x) (tpos := tpos) h2 er hne (fun q hq => (hrows q hq).2) (Nat.le_trans hn (by decide))
    obtain ⟨f0, f1, hz, hf⟩ := h3.zr
    have st : TnZ z TI TO L 0 g := ⟨⟨f0, f1, hz, hf⟩, h3.ti, h3.to, fun q hq => (h3.at_ q hq).1⟩
    refine T.self X.A 0 { s2 with heap := g } _ _ st ?_
    refine ⟨z, z :: TI :: TO :: L.map (·.1), _, _, H1, rfl, I3, T, st, fun b hb => ?_, q⟩
    have hle : s2.heap.objs.size ≤ b := h5 b (by
      rcases List.mem_cons.mp hb with e | hb
      · exact .inl e
      rcases List.mem_cons.mp hb with e | hb
      · exact .inr (.inl e)
      rcases List.mem_cons.mp hb with e | hb
      · exact .inr (.inr (.inl e))
      obtain ⟨q, hq, rfl⟩ := List.mem_map.mp hb
      exact .inr (.inr (.inr ⟨q, hq, rfl⟩)))
    exact I2.fpOk hle (I2.hok.fresh hle)
end Kw
namespace Kw
open PySem PySem.Spec PyProof.Rows L2 Evl
/-! ## plain values of Python: lst a list that is read, opq a list of which nobody asks what it holds -/
inductive Dat where
  | non | bl (b : Bool) | int (i : Int) | str (s : Str) | tup (ds : List Dat) | lst (ds : List Dat) | opq
mutual
def Dv (H : Hp) : Dat → V → Prop
  | .non, v => v = .non
  | .bl b, v => v = .bl b
  | .int i, v => v = .int i
  | .str s, v => v = .str s
  | .tup ds, v => ∃ a xs, v = .ref a ∧ H a = some (.tup xs) ∧ DvL H ds xs
  | .lst ds, v => ∃ a xs, v = .ref a ∧ H a = some (.lst xs) ∧ DvL H ds xs
  | .opq, v => ∃ a xs, v = .ref a ∧ H a = some (.lst xs)
def DvL (H : Hp) : List Dat → List V → Prop
  | [], xs => xs = []
  | d :: ds, xs => ∃ x r, xs = x :: r ∧ Dv H d x ∧ DvL H ds r
end
mutual
theorem Dv.up {H H' : Hp} (e : Ex H H') : ∀ (d : Dat) {v : V}, Dv H d v → Dv H' d v
  | .non, _, h => h
  | .bl _, _, h => h
  | .int _, _, h => h
  | .str _, _, h => h
  | .tup ds, _, ⟨a, xs, h1, h2, h3⟩ => ⟨a, xs, h1, e _ _ h2, DvL.up e ds h3⟩
  | .lst ds, _, ⟨a, xs, h1, h2, h3⟩ => ⟨a, xs, h1, e _ _ h2, DvL.up e ds h3⟩
  | .opq, _, ⟨a, xs, h1, h2⟩ => ⟨a, xs, h1, e _ _ h2⟩
theorem DvL.up {H H' : Hp} (e : Ex H H') : ∀ (ds : List Dat) {xs : List V}, DvL H ds xs → DvL H' ds xs
  | [], _, h => h
  | d :: ds, _, ⟨x, r, h1, h2, h3⟩ => ⟨x, r, h1, Dv.up e d h2, DvL.up e ds h3⟩
end
section
variable {H H' : Hp} {d : Dat} {ds es : List Dat} {xs ys : List V} {x v : V}
theorem Dv.mono (h : Dv H d v) (e : Ex H H') : Dv H' d v := Dv.up e d h
theorem DvL.mono (h : DvL H ds xs) (e : Ex H H') : DvL H' ds xs := DvL.up e ds h
theorem dvl_nil : DvL H [] [] := rfl
theorem dvl_cons (h : Dv H d x) (t : DvL H ds xs) : DvL H (d :: ds) (x :: xs) := ⟨x, xs, rfl, h, t⟩
theorem DvL.len : ∀ {ds : List Dat} {xs : List V}, DvL H ds xs → xs.length = ds.length
  | [], xs, h => by
    cases (show xs = [] from h)
    rfl
  | d :: ds, _, ⟨x, r, h1, _, h3⟩ => by rw [h1, List.length_cons, List.length_cons, DvL.len h3]
theorem DvL.get : ∀ {ds : List Dat} {xs : List V} {i : Nat} {d : Dat}, DvL H ds xs → ds[i]? = some d → ∃ x, xs[i]? = some x ∧ Dv H d x
  | [], _, _, _, _, e => by simp at e
  | d0 :: ds, _, 0, d, ⟨x, r, h1, h2, _⟩, e => by
    cases e
    exact ⟨x, by rw [h1]; rfl, h2⟩
  | d0 :: ds, _, i + 1, d, ⟨x, r, h1, _, h3⟩, e => by
    obtain ⟨y, h4, h5⟩ := DvL.get (i := i) h3 (by simpa using e)
    exact ⟨y, by rw [h1]; simpa using h4, h5⟩
theorem DvL.getV : ∀ {ds : List Dat} {xs : List V} {i : Nat} {x : V}, DvL H ds xs → xs[i]? = some x → ∃ d, ds[i]? = some d ∧ Dv H d x
  | [], _, i, x, h, e => by
    rw [show _ = _ from h] at e
    simp at e
  | d0 :: ds, _, 0, x, ⟨y, r, h1, h2, _⟩, e => by
    rw [h1] at e
    cases e
    exact ⟨d0, rfl, h2⟩
  | d0 :: ds, _, i + 1, x, ⟨y, r, h1, _, h3⟩, e => by
    rw [h1] at e
    obtain ⟨d, h4, h5⟩ := DvL.getV (i := i) h3 (by simpa using e)
    exact ⟨d, by simpa using h4, h5⟩
theorem DvL.append : ∀ {ds : List Dat} {xs : List V} {es : List Dat} {ys : List V}, DvL H ds xs → DvL H es ys → DvL H (ds ++ es) (xs ++ ys)
  | [], _, _, _, h, t => by
    rw [show _ = _ from h]
    exact t
  | d :: ds, _, _, _, ⟨x, r, h1, h2, h3⟩, t => by
    rw [h1]
    exact ⟨x, r ++ _, rfl, h2, DvL.append h3 t⟩
theorem DvL.one (h : DvL H [d] xs) : ∃ x, xs = [x] ∧ Dv H d x := by
  obtain ⟨x, r, h1, h2, h3⟩ := h
  exact ⟨x, by rw [h1, show r = [] from h3], h2⟩
theorem DvL.take : ∀ {ds : List Dat} {xs : List V} (n : Nat), DvL H ds xs → DvL H (ds.take n) (xs.take n)
  | _, _, 0, _ => rfl
  | [], _, n + 1, h => by rw [show _ = _ from h]; rfl
  | d :: ds, _, n + 1, ⟨x, r, h1, h2, h3⟩ => by
    rw [h1]
    exact ⟨x, _, rfl, h2, DvL.take n h3⟩
theorem DvL.drop : ∀ {ds : List Dat} {xs : List V} (n : Nat), DvL H ds xs → DvL H (ds.drop n) (xs.drop n)
  | _, _, 0, h => h
  | [], _, n + 1, h => by rw [show _ = _ from h]; rfl
  | d :: ds, _, n + 1, ⟨x, r, h1, h2, h3⟩ => by
    rw [h1]
    exact DvL.drop n h3
theorem DvL.rev : ∀ {ds : List Dat} {xs : List V}, DvL H ds xs → DvL H ds.reverse xs.reverse
  | [], _, h => by rw [show _ = _ from h]; rfl
  | d :: ds, _, ⟨x, r, h1, h2, h3⟩ => by
    rw [h1, List.reverse_cons, List.reverse_cons]
    exact DvL.append (DvL.rev h3) (dvl_cons h2 dvl_nil)
theorem dvl_ints : ∀ {ns : List Int} {xs : List V}, DvL H (ns.map Dat.int) xs ↔ xs = ns.map V.int
  | [], xs => Iff.rfl
  | n :: ns, xs => by
    constructor
    · rintro ⟨x, r, h1, h2, h3⟩
      rw [h1, dvl_ints.mp h3, show x = _ from h2]
      rfl
    · intro e
      exact ⟨.int n, ns.map V.int, e, rfl, dvl_ints.mpr rfl⟩
theorem dvl_bls : ∀ {ns : List Bool} {xs : List V}, DvL H (ns.map Dat.bl) xs ↔ xs = ns.map V.bl
  | [], xs => Iff.rfl
  | n :: ns, xs => by
    constructor
    · rintro ⟨x, r, h1, h2, h3⟩
      rw [h1, dvl_bls.mp h3, show x = _ from h2]
      rfl
    · intro e
      exact ⟨.bl n, ns.map V.bl, e, rfl, dvl_bls.mpr rfl⟩
theorem dvl_snoc (h : DvL H ds xs) (t : Dv H d x) : DvL H (ds ++ [d]) (xs ++ [x]) := h.append (dvl_cons t dvl_nil)
theorem dv_tup {a : Addr} (h : H a = some (.tup xs)) (t : DvL H ds xs) : Dv H (.tup ds) (.ref a) := ⟨a, xs, rfl, h, t⟩
theorem dv_lst {a : Addr} (h : H a = some (.lst xs)) (t : DvL H ds xs) : Dv H (.lst ds) (.ref a) := ⟨a, xs, rfl, h, t⟩
end
/-! ## what evaluates to a plain value, leaving what is known -/
def EvD (te : TE) (σ : L2.St) (H : Hp) (d : Dat) : Prop := ∀ H1, Ex H H1 → ∀ Q : VK, (∀ v H2, Ex H1 H2 → Dv H2 d v → Q v H2) → te σ H1 Q
/-- a new list -/
def EvN (te : TE) (σ : L2.St) (H : Hp) (ds : List Dat) : Prop := ∀ H1, Ex H H1 → ∀ Q : VK, (∀ p xs H2, H1 p = none → Ex H1 H2 → H2 p = some (.lst xs) → DvL H2 ds xs → Q (.ref p) H2) → te σ H1 Q
def EvAD (ta : TA) (σ : L2.St) (H : Hp) (ds : List Dat) : Prop := ∀ H1, Ex H H1 → ∀ Q : List V → Hp → Prop, (∀ vs H2, Ex H1 H2 → DvL H2 ds vs → Q vs H2) → ta σ H1 Q
/-- what a def hands back -/
def RetD (d : Dat) (H : Hp) (Q : VK) : Prop := ∀ v H2, Ex H H2 → Dv H2 d v → Q v H2
section
variable {K : PySem.W.Frag} {σ : L2.St} {H H' : Hp} {ta tb tc te tl : TE} {t u : TT} {x y z v : V} {r : R2} {d e : Dat} {ds es : List Dat} {b c : Bool} {i j : Int} {aa : TA} {D : Ends} {tu tw tz : TS}
theorem EvD.mono (h : EvD te σ H d) (e : Ex H H') : EvD te σ H' d := fun H1 a Q q => h H1 (e.trans a) Q q
theorem EvN.mono (h : EvN te σ H ds) (e : Ex H H') : EvN te σ H' ds := fun H1 a Q q => h H1 (e.trans a) Q q
theorem EvN.toD (h : EvN te σ H ds) : EvD te σ H (.lst ds) := fun H1 a Q q => h H1 a Q fun p xs H2 _ e2 hp hx => q _ H2 e2 (dv_lst hp hx)
theorem EvD.is (h : EvD te σ H d) (q : d = e) : EvD te σ H e := q ▸ h
theorem EvN.is (h : EvN te σ H ds) (q : ds = es) : EvN te σ H es := q ▸ h
theorem dvar {k : Nat} (h : σ[k]? = some (some v)) (hd : Dv H d v) : EvD (tVar k) σ H d := fun H1 e _ q => ⟨v, h, q v H1 (Ex.refl H1) (hd.mono e)⟩
theorem dint : EvD (tC (.int i)) σ H (.int i) := fun H1 _ _ q => q _ H1 (Ex.refl H1) rfl
theorem dstr {s : Str} : EvD (tC (.str s)) σ H (.str s) := fun H1 _ _ q => q _ H1 (Ex.refl H1) rfl
theorem dbl : EvD (tC (.bl b)) σ H (.bl b) := fun H1 _ _ q => q _ H1 (Ex.refl H1) rfl
theorem dnon : EvD (tC .non) σ H .non := fun H1 _ _ q => q _ H1 (Ex.refl H1) rfl
/-- an operation of two values -/
theorem dop (ha : EvD ta σ H d) (hb : EvD tb σ H e) {f : Dat} (hr : ∀ H1, Ex H H1 → ∀ x y, Dv H1 d x → Dv H1 e y → ∀ Q : VK, (∀ v H2, Ex H1 H2 → Dv H2 f v → Q v H2) → r x y H1 Q) : EvD (tOp r ta tb) σ H f := fun H1 e1 Q q =>
  ha H1 e1 _ fun x H2 e2 hx => hb H2 (e1.trans e2) _ fun y H3 e3 hy => hr H3 ((e1.trans e2).trans e3) x y (hx.mono e3) hy Q fun v H4 e4 hv => q v H4 ((e2.trans e3).trans e4) hv
theorem atI_of {xs : List V} (h0 : 0 ≤ i) (h : xs[i.toNat]? = some v) : atI xs i = some v := by
  have e : i = ((i.toNat : Nat) : Int) := by omega
  rw [e]
  exact atI_nat h
theorem dixT (ha : EvD ta σ H (.tup ds)) (hb : EvD tb σ H (.int i)) (h0 : 0 ≤ i) (hd : ds[i.toNat]? = some d) : EvD (tOp (rIxT K) ta tb) σ H d :=
  dop ha hb fun H1 _ x y ⟨a, xs, hx, hH, hl⟩ hy Q q => by
    obtain ⟨w, hw, hv⟩ := hl.get hd
    exact ⟨a, xs, i, w, hx, hy, SqT.of hH, atI_of h0 hw, q w H1 (Ex.refl H1) hv⟩
theorem dixL (ha : EvD ta σ H (.lst ds)) (hb : EvD tb σ H (.int i)) (h0 : 0 ≤ i) (hd : ds[i.toNat]? = some d) : EvD (tOp (rIxL K) ta tb) σ H d :=
  dop ha hb fun H1 _ x y ⟨a, xs, hx, hH, hl⟩ hy Q q => by
    obtain ⟨w, hw, hv⟩ := hl.get hd
    exact ⟨a, xs, i, w, hx, hy, SqL.of hH, atI_of h0 hw, q w H1 (Ex.refl H1) hv⟩
/-- ints -/
theorem dI0 {g : Int → Int → V} {f : Dat} (ha : EvD ta σ H (.int i)) (hb : EvD tb σ H (.int j)) (hg : ∀ H1, Dv H1 f (g i j)) : EvD (tOp (rI0 g) ta tb) σ H f :=
  dop ha hb fun H1 _ x y hx hy Q q => ⟨i, j, hx, hy, q _ H1 (Ex.refl H1) (hg H1)⟩
theorem dI {C : Int → Int → Prop} {g : Int → Int → V} {f : Dat} (ha : EvD ta σ H (.int i)) (hb : EvD tb σ H (.int j)) (hc : C i j) (hg : ∀ H1, Dv H1 f (g i j)) : EvD (tOp (rI C g) ta tb) σ H f :=
  dop ha hb fun H1 _ x y hx hy Q q => ⟨i, j, hx, hy, hc, q _ H1 (Ex.refl H1) (hg H1)⟩
theorem dneg (ha : EvD ta σ H (.int i)) : EvD (tUn (rU fun i => .int (-i)) ta) σ H (.int (-i)) := fun H1 e1 Q q => ha H1 e1 _ fun x H2 e2 hx => ⟨i, hx, q _ H2 e2 rfl⟩
theorem dadd (ha : EvD ta σ H (.int i)) (hb : EvD tb σ H (.int j)) : EvD (tOp (rI0 fun i j => .int (i + j)) ta tb) σ H (.int (i + j)) := dI0 ha hb fun _ => rfl
theorem dsub (ha : EvD ta σ H (.int i)) (hb : EvD tb σ H (.int j)) : EvD (tOp (rI0 fun i j => .int (i - j)) ta tb) σ H (.int (i - j)) := dI0 ha hb fun _ => rfl
theorem dlt (ha : EvD ta σ H (.int i)) (hb : EvD tb σ H (.int j)) : EvD (tOp (rI0 fun i j => .bl (decide (i < j))) ta tb) σ H (.bl (decide (i < j))) := dI0 ha hb fun _ => rfl
theorem dle (ha : EvD ta σ H (.int i)) (hb : EvD tb σ H (.int j)) : EvD (tOp (rI0 fun i j => .bl (decide (i ≤ j))) ta tb) σ H (.bl (decide (i ≤ j))) := dI0 ha hb fun _ => rfl
theorem dgt (ha : EvD ta σ H (.int i)) (hb : EvD tb σ H (.int j)) : EvD (tOp (rI0 fun i j => .bl (decide (j < i))) ta tb) σ H (.bl (decide (j < i))) := dI0 ha hb fun _ => rfl
theorem dge (ha : EvD ta σ H (.int i)) (hb : EvD tb σ H (.int j)) : EvD (tOp (rI0 fun i j => .bl (decide (j ≤ i))) ta tb) σ H (.bl (decide (j ≤ i))) := dI0 ha hb fun _ => rfl
theorem dchain {l : Int} (ha : EvD ta σ H (.int i)) (hb : EvD tb σ H (.int j)) (hc : EvD tc σ H (.int l)) :
    EvD (tChain (rI0 fun i j => .bl (decide (i ≤ j))) (rI0 fun i j => .bl (decide (i ≤ j))) ta tb tc) σ H (.bl (decide (i ≤ j ∧ j ≤ l))) := fun H1 e1 Q q =>
  ha H1 e1 _ fun x H2 e2 hx => hb H2 (e1.trans e2) _ fun y H3 e3 hy => ⟨i, j, hx, hy, decide (i ≤ j), rfl, by
    by_cases h : i ≤ j
    · rw [decide_eq_true h, if_pos rfl]
      refine hc H3 ((e1.trans e2).trans e3) _ fun w H4 e4 hw => ⟨j, l, hy, hw, q _ H4 ((e2.trans e3).trans e4) ?_⟩
      show V.bl (decide (j ≤ l)) = V.bl (decide (i ≤ j ∧ j ≤ l))
      congr 1
      exact decide_eq_decide.mpr ⟨fun a => ⟨h, a⟩, fun a => a.2⟩
    · rw [decide_eq_false h, if_neg Bool.false_ne_true]
      refine q _ H3 (e2.trans e3) ?_
      show V.bl false = V.bl (decide (i ≤ j ∧ j ≤ l))
      rw [decide_eq_false fun a => h a.1]⟩
/-- scalars compared -/
theorem deqI (ha : EvD ta σ H (.int i)) (hb : EvD tb σ H (.int j)) : EvD (tOp rEq ta tb) σ H (.bl (decide (i = j))) := dop ha hb fun H1 _ x y hx hy Q q => by
  rw [show x = _ from hx, show y = _ from hy]
  exact ⟨rfl, q _ H1 (Ex.refl H1) (by show V.bl _ = V.bl _; congr 1; exact decide_eq_decide.mpr ⟨fun e => V.int.inj e, fun e => by rw [e]⟩)⟩
theorem dneI (ha : EvD ta σ H (.int i)) (hb : EvD tb σ H (.int j)) : EvD (tOp rNe ta tb) σ H (.bl (!decide (i = j))) := dop ha hb fun H1 _ x y hx hy Q q => by
  rw [show x = _ from hx, show y = _ from hy]
  exact ⟨rfl, q _ H1 (Ex.refl H1) (by show V.bl _ = V.bl _; congr 2; exact decide_eq_decide.mpr ⟨fun e => V.int.inj e, fun e => by rw [e]⟩)⟩
theorem deqS {s s' : Str} (ha : EvD ta σ H (.str s)) (hb : EvD tb σ H (.str s')) : EvD (tOp rEq ta tb) σ H (.bl (decide (s = s'))) := dop ha hb fun H1 _ x y hx hy Q q => by
  rw [show x = _ from hx, show y = _ from hy]
  exact ⟨rfl, q _ H1 (Ex.refl H1) (by show V.bl _ = V.bl _; congr 1; exact decide_eq_decide.mpr ⟨fun e => V.str.inj e, fun e => by rw [e]⟩)⟩
theorem dneS {s s' : Str} (ha : EvD ta σ H (.str s)) (hb : EvD tb σ H (.str s')) : EvD (tOp rNe ta tb) σ H (.bl (!decide (s = s'))) := dop ha hb fun H1 _ x y hx hy Q q => by
  rw [show x = _ from hx, show y = _ from hy]
  exact ⟨rfl, q _ H1 (Ex.refl H1) (by show V.bl _ = V.bl _; congr 2; exact decide_eq_decide.mpr ⟨fun e => V.str.inj e, fun e => by rw [e]⟩)⟩
theorem deqB (ha : EvD ta σ H (.bl b)) (hb : EvD tb σ H (.bl c)) : EvD (tOp rEq ta tb) σ H (.bl (decide (b = c))) := dop ha hb fun H1 _ x y hx hy Q q => by
  rw [show x = _ from hx, show y = _ from hy]
  exact ⟨rfl, q _ H1 (Ex.refl H1) (by show V.bl _ = V.bl _; congr 1; exact decide_eq_decide.mpr ⟨fun e => V.bl.inj e, fun e => by rw [e]⟩)⟩
theorem dneB (ha : EvD ta σ H (.bl b)) (hb : EvD tb σ H (.bl c)) : EvD (tOp rNe ta tb) σ H (.bl (!decide (b = c))) := dop ha hb fun H1 _ x y hx hy Q q => by
  rw [show x = _ from hx, show y = _ from hy]
  exact ⟨rfl, q _ H1 (Ex.refl H1) (by show V.bl _ = V.bl _; congr 2; exact decide_eq_decide.mpr ⟨fun e => V.bl.inj e, fun e => by rw [e]⟩)⟩
theorem isE_of {xs : List V} (h : DvL H ds xs) : xs.isEmpty = ds.isEmpty := by
  have := h.len
  cases xs <;> cases ds <;> simp at this ⊢
/-- against [] and () -/
theorem dempL (ha : EvD ta σ H (.lst ds)) {neg : Bool} : EvD (tOp (rEmp K neg) ta (tLst tNil)) σ H (.bl (if neg then !ds.isEmpty else ds.isEmpty)) := fun H1 e1 Q q =>
  ha H1 e1 _ fun x H2 e2 ⟨a, xs, hx, hH, hl⟩ => ⟨Nat.zero_le _, fun p hp => ⟨a, p, xs, hx, rfl, .inl ⟨SqL.of (Ex.new hp _ _ hH), SqL.of upd_same⟩, by
    rw [isE_of hl]
    exact q _ _ (e2.trans (Ex.new hp)) rfl⟩⟩
theorem dempT (ha : EvD ta σ H (.tup ds)) {neg : Bool} : EvD (tOp (rEmp K neg) ta (tTup tNil)) σ H (.bl (if neg then !ds.isEmpty else ds.isEmpty)) := fun H1 e1 Q q =>
  ha H1 e1 _ fun x H2 e2 ⟨a, xs, hx, hH, hl⟩ => ⟨Nat.zero_le _, fun p hp => ⟨a, p, xs, hx, rfl, .inr ⟨SqT.of (Ex.new hp _ _ hH), SqT.of upd_same⟩, by
    rw [isE_of hl]
    exact q _ _ (e2.trans (Ex.new hp)) rfl⟩⟩
/-- and, or, not as values -/
theorem dand (h1 : EvD ta σ H (.bl b)) (h2 : b = true → EvD tb σ H (.bl c)) : EvD (tAndV ta tb) σ H (.bl (b && c)) := fun H1 e Q q => h1 H1 e _ fun v H2 e2 hv => ⟨b, hv, by
  cases b with
  | true => exact h2 rfl H2 (e.trans e2) Q fun v H3 e3 hv => q v H3 (e2.trans e3) hv
  | false => exact q _ H2 e2 rfl⟩
theorem dor (h1 : EvD ta σ H (.bl b)) (h2 : b = false → EvD tb σ H (.bl c)) : EvD (tOrV ta tb) σ H (.bl (b || c)) := fun H1 e Q q => h1 H1 e _ fun v H2 e2 hv => ⟨b, hv, by
  cases b with
  | true => exact q _ H2 e2 rfl
  | false => exact h2 rfl H2 (e.trans e2) Q fun v H3 e3 hv => q v H3 (e2.trans e3) hv⟩
theorem dnot (h1 : EvD ta σ H (.bl b)) : EvD (tNotV ta) σ H (.bl (!b)) := fun H1 e Q q => h1 H1 e _ fun v H2 e2 hv => ⟨b, hv, q _ H2 e2 rfl⟩
theorem dif {b : Bool} (h : EvT t σ H b) (h1 : b = true → EvD ta σ H d) (h2 : b = false → EvD tb σ H d) : EvD (tIf t ta tb) σ H d := fun H1 e Q q => h H1 e _ fun H2 e2 => by
  cases b with
  | true => exact h1 rfl H2 (e.trans e2) Q fun v H3 e3 hv => q v H3 (e2.trans e3) hv
  | false => exact h2 rfl H2 (e.trans e2) Q fun v H3 e3 hv => q v H3 (e2.trans e3) hv
/-- tests -/
theorem tst (h : EvD te σ H (.bl b)) : EvT (tTest te) σ H b := fun H1 e _ q => h H1 e _ fun v H2 e2 hv => ⟨b, hv, q H2 e2⟩
theorem tstB (h : EvD te σ H (.bl b)) : EvT (tB te) σ H b := fun H1 e _ q => h H1 e _ fun v H2 e2 hv => ⟨b, hv, q H2 e2⟩
/-- argument lists, displays -/
theorem aN : EvAD tNil σ H [] := fun H1 _ _ q => q [] H1 (Ex.refl H1) rfl
theorem aC (h : EvD te σ H d) (hr : EvAD aa σ H ds) : EvAD (tCons te aa) σ H (d :: ds) := fun H1 e _ q =>
  h H1 e _ fun x H2 e2 hx => hr H2 (e.trans e2) _ fun xs H3 e3 hxs => q _ H3 (e2.trans e3) (dvl_cons (hx.mono e3) hxs)
theorem aS (h : EvD te σ H (.tup es)) (hr : EvAD aa σ H ds) : EvAD (StX.tStar K te aa) σ H (es ++ ds) := fun H1 e _ q =>
  h H1 e _ fun x H2 e2 ⟨a, xs, hx, hH, hl⟩ => ⟨a, xs, hx, .inl (SqT.of hH), hr H2 (e.trans e2) _ fun ys H3 e3 hys => q _ H3 (e2.trans e3) ((hl.mono e3).append hys)⟩
theorem dtup (h : EvAD aa σ H ds) (hl : ds.length ≤ 1000) : EvD (tTup aa) σ H (.tup ds) := fun H1 e _ q =>
  h H1 e _ fun xs H2 e2 hx => ⟨by rw [hx.len]; exact Nat.le_of_lt (small1000 hl), fun p hp => q _ _ (e2.trans (Ex.new hp)) (dv_tup upd_same (hx.mono (Ex.new hp)))⟩
theorem nlst (h : EvAD aa σ H ds) (hl : ds.length ≤ 1000) : EvN (tLst aa) σ H ds := fun H1 e _ q =>
  h H1 e _ fun xs H2 e2 hx => ⟨by rw [hx.len]; exact Nat.le_of_lt (small1000 hl), fun p hp => q p xs _ (fresh_back e2 hp) (e2.trans (Ex.new hp)) upd_same (hx.mono (Ex.new hp))⟩
/-- a call: what a def's promise gives for such arguments -/
theorem dcall {sp : Sp} {E : XK} {ta : TA} (h : EvAD ta σ H ds) (hs : ∀ vs H1, Ex H H1 → DvL H1 ds vs → ∀ Q : VK, RetD d H1 Q → sp vs H1 Q E) : EvD (tCall sp [] E ta) σ H d := fun H1 e Q q =>
  h H1 e _ fun vs H2 e2 hv => by
    rw [List.append_nil]
    exact hs vs H2 (e.trans e2) hv Q fun v H3 e3 hd => q v H3 (e2.trans e3) hd
/-- len -/
theorem dlenT (h : EvD te σ H (.tup ds)) : EvD (tCB (rLenS K) (tCons te tNil)) σ H (.int ds.length) := fun H1 e Q q =>
  h H1 e _ fun x H2 e2 ⟨a, xs, hx, hH, hl⟩ => ⟨a, xs, by rw [hx], .inr (SqT.of hH), q _ H2 e2 (by show V.int _ = V.int _; rw [hl.len])⟩
theorem dlenL (h : EvD te σ H (.lst ds)) : EvD (tCB (rLenS K) (tCons te tNil)) σ H (.int ds.length) := fun H1 e Q q =>
  h H1 e _ fun x H2 e2 ⟨a, xs, hx, hH, hl⟩ => ⟨a, xs, by rw [hx], .inl (SqL.of hH), q _ H2 e2 (by show V.int _ = V.int _; rw [hl.len])⟩
/-- all, any of truth values -/
theorem dall {bs : List Bool} (h : EvD te σ H (.lst (bs.map Dat.bl))) : EvD (tCB (rAll K) (tCons te tNil)) σ H (.bl (bs.all id)) := fun H1 e Q q =>
  h H1 e _ fun x H2 e2 ⟨a, xs, hx, hH, hl⟩ => ⟨a, bs, by rw [hx], SqL.of (by rw [← dvl_bls.mp hl]; exact hH), q _ H2 e2 rfl⟩
theorem dany {bs : List Bool} (h : EvD te σ H (.lst (bs.map Dat.bl))) : EvD (tCB (rAny K) (tCons te tNil)) σ H (.bl (bs.any id)) := fun H1 e Q q =>
  h H1 e _ fun x H2 e2 ⟨a, xs, hx, hH, hl⟩ => ⟨a, bs, by rw [hx], SqL.of (by rw [← dvl_bls.mp hl]; exact hH), q _ H2 e2 rfl⟩
/-- tuple(list), list(..) -/
def rTupOf (K : PySem.W.Frag) : List V → Hp → VK → Prop := fun xs H Q => ∃ p ys, xs = [.ref p] ∧ ((SqL K H p ys ∧ ∀ l, H l = none → Q (.ref l) (upd H l (.tup ys))) ∨ (SqT K H p ys ∧ Q (.ref p) H))
theorem dtupL (h : EvD te σ H (.lst ds)) : EvD (tCB (rTupOf K) (tCons te tNil)) σ H (.tup ds) := fun H1 e Q q =>
  h H1 e _ fun x H2 e2 ⟨a, xs, hx, hH, hl⟩ => ⟨a, xs, by rw [hx], .inl ⟨SqL.of hH, fun p hp => q _ _ (e2.trans (Ex.new hp)) (dv_tup upd_same (hl.mono (Ex.new hp)))⟩⟩
theorem dtupT (h : EvD te σ H (.tup ds)) : EvD (tCB (rTupOf K) (tCons te tNil)) σ H (.tup ds) := fun H1 e Q q =>
  h H1 e _ fun x H2 e2 ⟨a, xs, hx, hH, hl⟩ => ⟨a, xs, by rw [hx], .inr ⟨SqT.of hH, q _ _ e2 (dv_tup hH hl)⟩⟩
theorem nlistT (h : EvD te σ H (.tup ds)) : EvN (tCB (rListS K) (tCons te tNil)) σ H ds := fun H1 e Q q =>
  h H1 e _ fun x H2 e2 ⟨a, xs, hx, hH, hl⟩ => ⟨a, xs, by rw [hx], .inr (SqT.of hH), fun p hp => q p xs _ (fresh_back e2 hp) (e2.trans (Ex.new hp)) upd_same (hl.mono (Ex.new hp))⟩
theorem nlistL (h : EvD te σ H (.lst ds)) : EvN (tCB (rListS K) (tCons te tNil)) σ H ds := fun H1 e Q q =>
  h H1 e _ fun x H2 e2 ⟨a, xs, hx, hH, hl⟩ => ⟨a, xs, by rw [hx], .inl (SqL.of hH), fun p hp => q p xs _ (fresh_back e2 hp) (e2.trans (Ex.new hp)) upd_same (hl.mono (Ex.new hp))⟩
/-- tuple(range(n)), list(range(n)) -/
def upto (n : Nat) : List Int := (List.range n).map fun (i : Nat) => (i : Int)
theorem rgV_upto (n : Nat) : rgV 0 (n : Int) = (upto n).map V.int := by
  unfold rgV upto
  rw [List.map_map, show ((n : Int) - 0).toNat = n by omega]
  exact List.map_congr_left fun i _ => by show V.int (0 + (i : Int)) = V.int (i : Int); rw [Int.zero_add]
theorem drgT {n : Nat} (h : EvD te σ H (.int (n : Int))) (hn : n ≤ 1000) : EvD (tTupRg (tRg1 te)) σ H (.tup ((upto n).map Dat.int)) := fun H1 e Q q =>
  h H1 e _ fun x H2 e2 hx => ⟨(n : Int), hx, RgOk.of_le (by omega) (by omega) (by omega) (by omega), fun p hp => q _ _ (e2.trans (Ex.new hp)) (dv_tup upd_same (by rw [rgV_upto]; exact dvl_ints.mpr rfl))⟩
theorem nrgL {n : Nat} (h : EvD te σ H (.int (n : Int))) (hn : n ≤ 1000) : EvN (tLstRg (tRg1 te)) σ H ((upto n).map Dat.int) := fun H1 e Q q =>
  h H1 e _ fun x H2 e2 hx => ⟨(n : Int), hx, RgOk.of_le (by omega) (by omega) (by omega) (by omega), fun p hp => q p _ _ (fresh_back e2 hp) (e2.trans (Ex.new hp)) upd_same (by rw [rgV_upto]; exact dvl_ints.mpr rfl)⟩
/-! ### statements -/
theorem dS_asg {k : Nat} (h : EvD te σ H d) (q : ∀ v H1, Ex H H1 → Dv H1 d v → D.nx (σ.set k (some v)) H1) : tAsg te (gName k) D σ H := h H (Ex.refl H) _ q
theorem dS_asgN {k : Nat} (h : EvN te σ H ds) (q : ∀ p xs H1, H p = none → Ex H H1 → H1 p = some (.lst xs) → DvL H1 ds xs → D.nx (σ.set k (some (.ref p))) H1) : tAsg te (gName k) D σ H := h H (Ex.refl H) _ q
theorem dS_ret (h : EvD te σ H d) (q : RetD d H D.rt) : tRet te D σ H := h H (Ex.refl H) _ q
theorem dS_if (h : EvT t σ H b) (h1 : b = true → ∀ H1, Ex H H1 → tu D σ H1) (h2 : b = false → ∀ H1, Ex H H1 → tw D σ H1) : tIfS t tu tw D σ H := s_if h h1 h2
theorem dS_when (h : EvT t σ H b) (h1 : b = true → ∀ H1, Ex H H1 → tu { D with nx := tz D } σ H1) (h2 : b = false → ∀ H1, Ex H H1 → tz D σ H1) : tSeq (tIfS t tu tNext) tz D σ H := q_when h h1 h2
theorem RetD.up {Q : VK} (q : RetD d H Q) (e : Ex H H') : RetD d H' Q := fun v H2 e2 hv => q v H2 (e.trans e2) hv
end
end Kw
namespace Kw
open PySem PySem.Spec PyProof.Rows L2 Evl
/-! ## heaps that evolve: tuples stand, lists stay lists -/
structure Evo (H H' : Hp) : Prop where
  tup : ∀ b xs, H b = some (.tup xs) → H' b = some (.tup xs)
  lst : ∀ b xs, H b = some (.lst xs) → ∃ ys, H' b = some (.lst ys)
theorem Evo.of {H H' : Hp} (e : Ex H H') : Evo H H' := ⟨fun b xs h => e b _ h, fun b xs h => ⟨xs, e b _ h⟩⟩
theorem Evo.trans {H H1 H2 : Hp} (a : Evo H H1) (b : Evo H1 H2) : Evo H H2 := ⟨fun c xs h => b.tup c xs (a.tup c xs h), fun c xs h => by
  obtain ⟨ys, h1⟩ := a.lst c xs h
  exact b.lst c ys h1⟩
theorem Evo.upd {H : Hp} {l : Addr} {xs ys : List V} (h : H l = some (.lst xs)) : Evo H (upd H l (.lst ys)) := ⟨fun b zs hb => by
  rw [upd_ne (ne_of hb h (by intro z; cases z))]
  exact hb, fun b zs hb => by
  by_cases e : b = l
  · subst e
    exact ⟨ys, upd_same⟩
  · exact ⟨zs, by rw [upd_ne e]; exact hb⟩⟩
mutual
def Dat.plain : Dat → Bool
  | .lst _ => false
  | .tup ds => plainL ds
  | _ => true
def plainL : List Dat → Bool
  | [] => true
  | d :: ds => d.plain && plainL ds
end
mutual
theorem Dv.evo {H H' : Hp} (e : Evo H H') : ∀ (d : Dat) {v : V}, d.plain = true → Dv H d v → Dv H' d v
  | .non, _, _, h => h
  | .bl _, _, _, h => h
  | .int _, _, _, h => h
  | .str _, _, _, h => h
  | .tup ds, _, p, ⟨a, xs, h1, h2, h3⟩ => ⟨a, xs, h1, e.tup _ _ h2, DvL.evo e ds (by simpa only [Dat.plain] using p) h3⟩
  | .lst ds, _, p, _ => by simp [Dat.plain] at p
  | .opq, _, _, ⟨a, xs, h1, h2⟩ => by
    obtain ⟨ys, h3⟩ := e.lst _ _ h2
    exact ⟨a, ys, h1, h3⟩
theorem DvL.evo {H H' : Hp} (e : Evo H H') : ∀ (ds : List Dat) {xs : List V}, plainL ds = true → DvL H ds xs → DvL H' ds xs
  | [], _, _, h => h
  | d :: ds, _, p, ⟨x, r, h1, h2, h3⟩ => by
    simp only [plainL, Bool.and_eq_true] at p
    exact ⟨x, r, h1, Dv.evo e d p.1 h2, DvL.evo e ds p.2 h3⟩
end
theorem plainL_all : ∀ {ds : List Dat}, plainL ds = true ↔ ∀ d ∈ ds, d.plain = true
  | [] => by simp [plainL]
  | d :: ds => by simp [plainL, plainL_all (ds := ds)]
theorem plain_ints (ns : List Int) : plainL (ns.map Dat.int) = true := plainL_all.mpr fun d hd => by
  obtain ⟨n, _, rfl⟩ := List.mem_map.mp hd
  rfl
theorem plain_tup {ds : List Dat} : (Dat.tup ds).plain = plainL ds := by simp only [Dat.plain]
/-! ## what is walked -/
/-- from H on, J hands out the data ds -/
def WalksD (J : It) (ds : List Dat) (H : Hp) : Prop := ∀ H', Ex H H' → (∀ i d, ds[i]? = some d → J.go i H' ∧ ∀ x H'', J.yld i H' x H'' → Ex H' H'' ∧ Dv H'' d x) ∧ J.stop ds.length H'
def Src (wi : TI) (σ : L2.St) (H : Hp) (ds : List Dat) : Prop := ∀ H1, Ex H H1 → ∀ R : It → Hp → Prop, (∀ J H2, Ex H1 H2 → WalksD J ds H2 → R J H2) → wi σ H1 R
section
variable {K : PySem.W.Frag} {σ : L2.St} {H H' : Hp} {ta tb tc te tl tm : TE} {t u : TT} {x y z v : V} {d e : Dat} {ds es : List Dat} {g g1 : TG} {vs vs1 : List Nat} {wi wi1 : TI}
theorem srcT (h : EvD tl σ H (.tup ds)) : Src (iTup K tl) σ H ds := fun H1 e1 R q => h H1 e1 _ fun v H2 e2 ⟨a, xs, hv, hH, hl⟩ => ⟨a, hv, ⟨xs, SqT.of hH⟩, q _ H2 e2 fun H' e => by
  have hS : SqT K H' a xs := SqT.of (e _ _ hH)
  refine ⟨fun i d hd => ?_, xs, hS, by rw [hl.len]; exact Nat.le_refl _⟩
  obtain ⟨x, hx, hdx⟩ := hl.get hd
  refine ⟨⟨xs, x, hS, hx⟩, fun y H'' ⟨e1, hy⟩ => ?_⟩
  subst e1
  have := hy xs hS
  rw [hx] at this
  cases this
  exact ⟨Ex.refl _, hdx.mono e⟩⟩
theorem srcL (h : EvD tl σ H (.lst ds)) : Src (iList K tl) σ H ds := fun H1 e1 R q => h H1 e1 _ fun v H2 e2 ⟨a, xs, hv, hH, hl⟩ => ⟨a, hv, ⟨xs, SqL.of hH⟩, q _ H2 e2 fun H' e => by
  have hS : SqL K H' a xs := SqL.of (e _ _ hH)
  refine ⟨fun i d hd => ?_, xs, hS, by rw [hl.len]; exact Nat.le_refl _⟩
  obtain ⟨x, hx, hdx⟩ := hl.get hd
  refine ⟨⟨xs, x, hS, hx⟩, fun y H'' ⟨e1, hy⟩ => ?_⟩
  subst e1
  have := hy xs hS
  rw [hx] at this
  cases this
  exact ⟨Ex.refl _, hdx.mono e⟩⟩
theorem srcR {ta : TA} {n : Nat} (h : EvAD ta σ H [.int (n : Int)]) (hn : n ≤ 100000) : Src (iRng1 ta) σ H ((upto n).map Dat.int) := fun H1 e1 R q => h H1 e1 _ fun vs H2 e2 hv => by
  obtain ⟨x, rfl, hx⟩ := hv.one
  refine ⟨(n : Int), by rw [show x = _ from hx], by omega, by omega, q _ H2 e2 fun H' e => ?_⟩
  rw [show ((n : Int)).toNat = n by omega]
  refine ⟨fun i d hd => ?_, by show n ≤ _; rw [List.length_map]; unfold upto; rw [List.length_map, List.length_range]; exact Nat.le_refl _⟩
  have hi : i < n := by
    have := (List.getElem?_eq_some_iff.mp hd).1
    rw [List.length_map] at this
    unfold upto at this
    rw [List.length_map, List.length_range] at this
    exact this
  have hd' : d = .int (i : Int) := by
    unfold upto at hd
    rw [List.map_map, List.getElem?_map, List.getElem?_range hi] at hd
    exact (Option.some.inj hd).symm
  refine ⟨hi, fun y H'' ⟨e1, hy⟩ => ?_⟩
  subst e1 hd'
  refine ⟨Ex.refl _, ?_⟩
  show y = V.int (i : Int)
  rw [hy, Int.zero_add]
/-- pairs of two tuples' items -/
theorem srcZ {ta : TA} {ds es : List Dat} (h : EvAD ta σ H [.tup ds, .tup es]) : Src (RZ.iZipA K ta) σ H ((ds.zip es).map fun p => .tup [p.1, p.2]) := fun H1 e1 R q => h H1 e1 _ fun vs H2 e2 hv => by
  obtain ⟨x, r, rfl, ⟨a, xs, rfl, hH, hl⟩, h2⟩ := hv
  obtain ⟨y, rfl, ⟨b, ys, rfl, hH2, hl2⟩⟩ := h2.one
  refine ⟨a, b, xs, ys, rfl, .inr ⟨SqT.of hH, SqT.of hH2, q _ H2 e2 fun H' e => ?_⟩⟩
  have hS : SqT K H' a xs := SqT.of (e _ _ hH)
  have hS2 : SqT K H' b ys := SqT.of (e _ _ hH2)
  have l1 := hl.len
  have l2 := hl2.len
  refine ⟨fun i d hd => ?_, xs, ys, hS, hS2, ?_⟩
  · rw [List.getElem?_map] at hd
    obtain ⟨p, hp, rfl⟩ := Option.map_eq_some_iff.mp hd
    obtain ⟨hp1, hp2⟩ := List.getElem?_zip_eq_some.mp hp
    obtain ⟨x1, hx1, hd1⟩ := hl.get hp1
    obtain ⟨x2, hx2, hd2⟩ := hl2.get hp2
    refine ⟨⟨xs, ys, x1, x2, hS, hS2, hx1, hx2⟩, fun v H'' ⟨T, y1, y2, hv, hT, hH'', f1, f2⟩ => ?_⟩
    have q1 := f1 xs hS
    have q2 := f2 ys hS2
    rw [hx1] at q1
    rw [hx2] at q2
    cases q1
    cases q2
    subst hH''
    refine ⟨Ex.new hT, T, [x1, x2], hv, upd_same, dvl_cons ((hd1.mono e).mono (Ex.new hT)) (dvl_cons ((hd2.mono e).mono (Ex.new hT)) dvl_nil)⟩
  · rw [List.length_map, List.length_zip]
    omega
theorem srcE {ta : TA} {ds : List Dat} (h : EvAD ta σ H [.tup ds]) : Src (iEnT K ta) σ H (ds.zipIdx.map fun p => .tup [.int (p.2 : Nat), p.1]) := fun H1 e1 R q => h H1 e1 _ fun vs H2 e2 hv => by
  obtain ⟨x, rfl, ⟨a, xs, rfl, hH, hl⟩⟩ := hv.one
  refine ⟨a, xs, rfl, SqT.of hH, q _ H2 e2 fun H' e => ?_⟩
  have hS : SqT K H' a xs := SqT.of (e _ _ hH)
  refine ⟨fun i d hd => ?_, xs, hS, by rw [List.length_map, List.length_zipIdx, hl.len]⟩
  rw [List.getElem?_map] at hd
  obtain ⟨p, hp, rfl⟩ := Option.map_eq_some_iff.mp hd
  rw [List.getElem?_zipIdx] at hp
  obtain ⟨d0, hd0, rfl⟩ := Option.map_eq_some_iff.mp hp
  obtain ⟨x1, hx1, hd1⟩ := hl.get hd0
  refine ⟨⟨xs, x1, hS, hx1⟩, fun v H'' ⟨T, y1, hv, hT, hH'', f1⟩ => ?_⟩
  have q1 := f1 xs hS
  rw [hx1] at q1
  cases q1
  subst hH''
  refine ⟨Ex.new hT, T, [.int (i : Nat), x1], hv, upd_same, dvl_cons ?_ (dvl_cons ((hd1.mono e).mono (Ex.new hT)) dvl_nil)⟩
  show V.int (i : Nat) = V.int ((0 + i : Nat) : Int)
  rw [Nat.zero_add]
/-! ## targets -/
def Bind (g : TG) (x : V) (σ : L2.St) (H : Hp) (P : L2.St → Prop) : Prop := ∀ k : L2.St → Hp → Prop, (∀ σ2, P σ2 → k σ2 H) → g x σ H k
theorem bName {j : Nat} {P : L2.St → Prop} (h : P (σ.set j (some x))) : Bind (gName j) x σ H P := fun k q => q _ h
theorem bTwo {i j : Nat} {d1 d2 : Dat} {P : L2.St → Prop} (hx : Dv H (.tup [d1, d2]) x) (h : ∀ x1 x2, Dv H d1 x1 → Dv H d2 x2 → P ((σ.set i (some x1)).set j (some x2))) : Bind (gTup K 2 (gCons (gName i) (gCons (gName j) gNil))) x σ H P := fun k q => by
  obtain ⟨a, xs, rfl, hH, x1, r, rfl, h1, h2⟩ := hx
  obtain ⟨x2, rfl, h2'⟩ := DvL.one h2
  exact ⟨a, _, rfl, SqT.of hH, rfl, x1, [x2], rfl, x2, [], rfl, rfl, q _ (h x1 x2 h1 h2')⟩
theorem bThree {i j l : Nat} {d1 d2 d3 : Dat} {P : L2.St → Prop} (hx : Dv H (.tup [d1, d2, d3]) x) (h : ∀ x1 x2 x3, Dv H d1 x1 → Dv H d2 x2 → Dv H d3 x3 → P (((σ.set i (some x1)).set j (some x2)).set l (some x3))) : Bind (gTup K 3 (gCons (gName i) (gCons (gName j) (gCons (gName l) gNil)))) x σ H P := fun k q => by
  obtain ⟨a, xs, rfl, hH, x1, r, rfl, h1, y, r2, rfl, h2, h3⟩ := hx
  obtain ⟨x3, rfl, h3'⟩ := DvL.one h3
  exact ⟨a, _, rfl, SqT.of hH, rfl, x1, [y, x3], rfl, y, [x3], rfl, x3, [], rfl, rfl, q _ (h x1 y x3 h1 h2 h3')⟩
/-! ## comprehensions -/
theorem take_snoc {α : Type} {l : List α} {i : Nat} {a : α} (h : l[i]? = some a) : l.take (i + 1) = l.take i ++ [a] := by
  rw [List.take_add_one, h]
  rfl
theorem nlc (f : Dat → Bool) (el : Dat → Dat) (hs : Src wi σ H ds) (hz : ds.length ≤ 1000) (hp : ∀ d ∈ ds, f d = true → (el d).plain = true)
    (hb : ∀ d ∈ ds, ∀ x H1, Ex H H1 → Dv H1 d x → Bind g x (wipe σ vs) H1 fun σ2 => wipe σ2 vs = wipe σ vs ∧ EvT t σ2 H1 (f d) ∧ (f d = true → EvD te σ2 H1 (el d))) :
    EvN (tLc wi g t te vs) σ H ((ds.filter f).map el) := fun H1 e1 Q q => hs H1 e1 _ fun J H2 e2 hw D hD => by
  refine ⟨fun i m H' => m = ds.length - i ∧ i ≤ ds.length ∧ Ex H2 H' ∧ ∃ zs, H' D = some (.lst zs) ∧ DvL H' (((ds.take i).filter f).map el) zs, ⟨ds.length, by simp, Nat.zero_le _, Ex.new hD, [], upd_same, by simp; exact dvl_nil⟩, ?_⟩
  rintro i m H' ⟨rfl, hi, ex, zs, hD', hl⟩
  obtain ⟨hgo, hstop⟩ := hw H' ex
  by_cases hlt : i < ds.length
  · refine .inr ⟨(hgo i ds[i] (List.getElem?_eq_getElem hlt)).1, fun H'' => i + 1 ≤ ds.length ∧ Ex H2 H'' ∧ ∃ zs, H'' D = some (.lst zs) ∧ DvL H'' (((ds.take (i + 1)).filter f).map el) zs, fun H'' hn => ⟨ds.length - (i + 1), by omega, rfl, hn⟩, fun x H'' hy => ?_⟩
    obtain ⟨ex2, hdx⟩ := (hgo i ds[i] (List.getElem?_eq_getElem hlt)).2 x H'' hy
    have hmem : ds[i] ∈ ds := List.getElem_mem hlt
    have tk : ((ds.take (i + 1)).filter f).map el = (((ds.take i).filter f).map el) ++ (if f ds[i] then [el ds[i]] else []) := by
      rw [take_snoc (List.getElem?_eq_getElem hlt), List.filter_append, List.map_append]
      congr 1
      cases h : f ds[i] <;> simp [h]
    have hlen : zs.length ≤ i := by
      rw [hl.len, List.length_map]
      exact Nat.le_trans (List.length_filter_le _ _) (by rw [List.length_take]; exact Nat.min_le_left _ _)
    refine hb ds[i] hmem x H'' (((e1.trans e2).trans ex).trans ex2) hdx _ fun σ2 ⟨hw2, ht, he⟩ => ⟨hw2, ht H'' (Ex.refl _) _ fun H3 e3 => ?_⟩
    rw [tk]
    cases hf : f ds[i] with
    | true =>
      show te σ2 H3 _
      refine he hf H3 e3 _ fun y H4 e4 hy4 => ⟨zs, ((ex2.trans e3).trans e4) _ _ hD', by rw [sizeLine_eq]; omega, hlt, fun b o hb => ?_, zs ++ [y], upd_same, ?_⟩
      · have hbD : b ≠ D := ne_of_none hb hD
        rw [upd_ne hbD]
        exact ((ex.trans ex2).trans (e3.trans e4)) b o hb
      · have ev : Evo H4 (upd H4 D (.lst (zs ++ [y]))) := Evo.upd (((ex2.trans e3).trans e4) _ _ hD')
        have pl : plainL (((ds.take i).filter f).map el) = true := plainL_all.mpr fun d hd => by
          obtain ⟨d0, hd0, rfl⟩ := List.mem_map.mp hd
          have := List.mem_filter.mp hd0
          exact hp d0 (List.mem_of_mem_take this.1) this.2
        refine DvL.append (DvL.evo ev _ pl (hl.mono ((ex2.trans e3).trans e4))) (dvl_cons (Dv.evo ev _ (hp _ hmem hf) hy4) dvl_nil)
    | false =>
      show _ ∧ _
      refine ⟨hlt, (ex.trans ex2).trans e3, zs, (ex2.trans e3) _ _ hD', ?_⟩
      simp only [Bool.false_eq_true, if_false, List.append_nil]
      exact hl.mono (ex2.trans e3)
  · have e : i = ds.length := by omega
    subst e
    refine .inl ⟨hstop, q D zs H' (fresh_back e2 hD) (e2.trans ex) hD' ?_⟩
    rw [List.take_length] at hl
    exact hl
theorem yes : EvT tYes σ H true := fun H1 _ Q q => q H1 (Ex.refl H1)
theorem nlcM (el : Dat → Dat) (hs : Src wi σ H ds) (hz : ds.length ≤ 1000) (hp : ∀ d ∈ ds, (el d).plain = true)
    (hb : ∀ d ∈ ds, ∀ x H1, Ex H H1 → Dv H1 d x → Bind g x (wipe σ vs) H1 fun σ2 => wipe σ2 vs = wipe σ vs ∧ EvD te σ2 H1 (el d)) :
    EvN (tLc wi g tYes te vs) σ H (ds.map el) :=
  (nlc (fun _ => true) el hs hz (fun d hd _ => hp d hd) fun d hd x H1 e hx k q => hb d hd x H1 e hx k fun σ2 ⟨h1, h2⟩ => q σ2 ⟨h1, yes, fun _ => h2⟩).is (by rw [List.filter_eq_self.mpr fun _ _ => rfl])
/-- a source that an inner clause walks, while the outer list grows: Hb the heap ahead of the comprehension -/
def WalksE (J : It) (ds : List Dat) (Hb H : Hp) : Prop := ∀ H', Ex Hb H' → Evo H H' → (∀ i d, ds[i]? = some d → J.go i H' ∧ ∀ x H'', J.yld i H' x H'' → Ex H' H'' ∧ Dv H'' d x) ∧ J.stop ds.length H'
def SrcE (wi : TI) (σ : L2.St) (Hb H : Hp) (ds : List Dat) : Prop := ∀ H1, Ex H H1 → ∀ R : It → Hp → Prop, (∀ J H2, Ex H1 H2 → WalksE J ds Hb H2 → R J H2) → wi σ H1 R
theorem srcET {Hb : Hp} (h : EvD tl σ H (.tup ds)) (hp : plainL ds = true) : SrcE (iTup K tl) σ Hb H ds := fun H1 e1 R q => h H1 e1 _ fun v H2 e2 ⟨a, xs, hv, hH, hl⟩ => ⟨a, hv, ⟨xs, SqT.of hH⟩, q _ H2 e2 fun H' _ e => by
  have hS : SqT K H' a xs := SqT.of (e.tup _ _ hH)
  have hl' := DvL.evo e _ hp hl
  refine ⟨fun i d hd => ?_, xs, hS, by rw [hl.len]; exact Nat.le_refl _⟩
  obtain ⟨x, hx, hdx⟩ := hl'.get hd
  refine ⟨⟨xs, x, hS, hx⟩, fun y H'' ⟨e1, hy⟩ => ?_⟩
  subst e1
  have := hy xs hS
  rw [hx] at this
  cases this
  exact ⟨Ex.refl _, hdx⟩⟩
theorem srcEL {Hb : Hp} {k : Nat} {a : Addr} {xs : List V} (h : σ[k]? = some (some (.ref a))) (hH : Hb a = some (.lst xs)) (hl : DvL Hb ds xs) (eb : Ex Hb H) : SrcE (iList K (tVar k)) σ Hb H ds := fun H1 e1 R q => ⟨_, h, a, rfl, ⟨xs, SqL.of (e1 _ _ (eb _ _ hH))⟩, q _ H1 (Ex.refl _) fun H' e _ => by
  have hS : SqL K H' a xs := SqL.of (e _ _ hH)
  refine ⟨fun i d hd => ?_, xs, hS, by rw [hl.len]; exact Nat.le_refl _⟩
  obtain ⟨x, hx, hdx⟩ := (hl.mono e).get hd
  refine ⟨⟨xs, x, hS, hx⟩, fun y H'' ⟨e1, hy⟩ => ?_⟩
  subst e1
  have := hy xs hS
  rw [hx] at this
  cases this
  exact ⟨Ex.refl _, hdx⟩⟩
/-- two clauses without tests, names as targets -/
theorem nlc2 {j j1 : Nat} (es : Dat → List Dat) (el : Dat → Dat → Dat) (hs : Src wi σ H ds) (hz : ds.length ≤ 100) (hz2 : ∀ d ∈ ds, (es d).length ≤ 1000) (hpl : ∀ d ∈ ds, d.plain = true) (hp : ∀ d ∈ ds, ∀ e ∈ es d, (el d e).plain = true)
    (hw : ∀ x, wipe ((wipe σ vs).set j (some x)) vs = wipe σ vs) (hw1 : ∀ x y, wipe ((wipe ((wipe σ vs).set j (some x)) vs1).set j1 (some y)) vs1 = wipe ((wipe σ vs).set j (some x)) vs1)
    (hsrc : ∀ d ∈ ds, ∀ x H1, Ex H H1 → Dv H1 d x → SrcE wi1 ((wipe σ vs).set j (some x)) H H1 (es d))
    (he : ∀ d ∈ ds, ∀ e ∈ es d, ∀ x y G, Ex H G → Dv G d x → Dv G e y → EvD te ((wipe ((wipe σ vs).set j (some x)) vs1).set j1 (some y)) G (el d e)) :
    EvN (tLc2 wi (gName j) tYes wi1 (gName j1) tYes te vs vs1) σ H (ds.flatMap fun d => (es d).map (el d)) := fun H1 e1 Q q => hs H1 e1 _ fun J H2 e2 hwk D hD => by
  refine ⟨fun i m H' => m = ds.length - i ∧ i ≤ ds.length ∧ Ex H2 H' ∧ ∃ zs, H' D = some (.lst zs) ∧ DvL H' ((ds.take i).flatMap fun d => (es d).map (el d)) zs, ⟨ds.length, by simp, Nat.zero_le _, Ex.new hD, [], upd_same, by simp; exact dvl_nil⟩, ?_⟩
  rintro i m H' ⟨rfl, hi, ex, zs, hD', hl⟩
  obtain ⟨hgo, hstop⟩ := hwk H' ex
  by_cases hlt : i < ds.length
  · refine .inr ⟨(hgo i ds[i] (List.getElem?_eq_getElem hlt)).1, fun H'' => i + 1 ≤ ds.length ∧ Ex H2 H'' ∧ ∃ zs, H'' D = some (.lst zs) ∧ DvL H'' ((ds.take (i + 1)).flatMap fun d => (es d).map (el d)) zs, fun H'' hn => ⟨ds.length - (i + 1), by omega, rfl, hn⟩, fun x H'' hy => ?_⟩
    obtain ⟨ex2, hdx⟩ := (hgo i ds[i] (List.getElem?_eq_getElem hlt)).2 x H'' hy
    have hmem : ds[i] ∈ ds := List.getElem_mem hlt
    have tk : ((ds.take (i + 1)).flatMap fun d => (es d).map (el d)) = ((ds.take i).flatMap fun d => (es d).map (el d)) ++ (es ds[i]).map (el ds[i]) := by
      rw [take_snoc (List.getElem?_eq_getElem hlt), List.flatMap_append]
      simp
    have cnt : ∀ l : List Dat, (∀ d ∈ l, d ∈ ds) → (l.flatMap fun d => (es d).map (el d)).length ≤ l.length * 1000 := fun l => by
      induction l with
      | nil => intro _; simp
      | cons a l ih =>
        intro h
        rw [List.flatMap_cons, List.length_append, List.length_map, List.length_cons]
        have := ih fun d hd => h d (List.mem_cons_of_mem _ hd)
        have := hz2 a (h a List.mem_cons_self)
        omega
    have pl : plainL ((ds.take i).flatMap fun d => (es d).map (el d)) = true := plainL_all.mpr fun d hd => by
      obtain ⟨d0, hd0, hd1⟩ := List.mem_flatMap.mp hd
      obtain ⟨d2, hd2, rfl⟩ := List.mem_map.mp hd1
      exact hp d0 (List.mem_of_mem_take hd0) d2 hd2
    have zl : zs.length ≤ 99000 := by
      rw [hl.len]
      refine Nat.le_trans (cnt _ fun d hd => List.mem_of_mem_take hd) ?_
      rw [List.length_take]
      have := Nat.min_le_left i ds.length
      omega
    have ez := hz2 ds[i] hmem
    refine ⟨hw x, ?_⟩
    show wi1 ((wipe σ vs).set j (some x)) H'' _
    refine hsrc ds[i] hmem x H'' (((e1.trans e2).trans ex).trans ex2) hdx H'' (Ex.refl _) _ fun J1 H4 e4 hw4 => ?_
    refine ⟨fun n k G => k = (es ds[i]).length - n ∧ n ≤ (es ds[i]).length ∧ Ex H2 G ∧ Evo H4 G ∧ ∃ ys, G D = some (.lst ys) ∧ DvL G (((ds.take i).flatMap fun d => (es d).map (el d)) ++ ((es ds[i]).take n).map (el ds[i])) ys, ⟨_, rfl, Nat.zero_le _, (ex.trans ex2).trans e4, Evo.of (Ex.refl _), zs, (ex2.trans e4) _ _ hD', ?_⟩, ?_⟩
    · rw [List.take_zero, List.map_nil, List.append_nil]
      exact hl.mono (ex2.trans e4)
    · rintro n k G ⟨rfl, hn, exG, evG, ys, hGD, hGl⟩
      obtain ⟨hgo1, hstop1⟩ := hw4 G ((e1.trans e2).trans exG) evG
      by_cases hlt1 : n < (es ds[i]).length
      · refine .inr ⟨(hgo1 n (es ds[i])[n] (List.getElem?_eq_getElem hlt1)).1, fun G' => n + 1 ≤ (es ds[i]).length ∧ Ex H2 G' ∧ Evo H4 G' ∧ ∃ ys, G' D = some (.lst ys) ∧ DvL G' (((ds.take i).flatMap fun d => (es d).map (el d)) ++ ((es ds[i]).take (n + 1)).map (el ds[i])) ys, fun G' hn' => ⟨(es ds[i]).length - (n + 1), by omega, rfl, hn'⟩, fun y G' hy' => ?_⟩
        obtain ⟨ex5, hdy⟩ := (hgo1 n (es ds[i])[n] (List.getElem?_eq_getElem hlt1)).2 y G' hy'
        have hmem1 : (es ds[i])[n] ∈ es ds[i] := List.getElem_mem hlt1
        have hdx' : Dv G' ds[i] x := Dv.evo ((Evo.of e4).trans (evG.trans (Evo.of ex5))) _ (hpl _ hmem) hdx
        refine ⟨hw1 x y, ?_⟩
        show te ((wipe ((wipe σ vs).set j (some x)) vs1).set j1 (some y)) G' _
        refine he ds[i] hmem _ hmem1 x y G' (((e1.trans e2).trans exG).trans ex5) hdx' hdy G' (Ex.refl _) _ fun v G7 e7 hv => ⟨ys, (ex5.trans e7) _ _ hGD, ?_, hlt1, fun b o hb => ?_, ?_, ys ++ [v], upd_same, ?_⟩
        · have q1 := cnt _ (fun d hd => List.mem_of_mem_take hd : ∀ d ∈ ds.take i, d ∈ ds)
          have q2 := hGl.len
          rw [List.length_append, List.length_map, List.length_take] at q2
          rw [List.length_take] at q1
          have := Nat.min_le_left n (es ds[i]).length
          have := Nat.min_le_left i ds.length
          rw [sizeLine_eq]
          omega
        · have hbD : b ≠ D := ne_of_none hb hD
          rw [upd_ne hbD]
          exact (ex5.trans e7) b o (exG b o hb)
        · exact evG.trans ((Evo.of (ex5.trans e7)).trans (Evo.upd ((ex5.trans e7) _ _ hGD)))
        · have ev : Evo G7 (upd G7 D (.lst (ys ++ [v]))) := Evo.upd ((ex5.trans e7) _ _ hGD)
          rw [take_snoc (List.getElem?_eq_getElem hlt1), List.map_append, ← List.append_assoc]
          refine DvL.append (DvL.evo ev _ ?_ (hGl.mono (ex5.trans e7))) (dvl_cons (Dv.evo ev _ (hp _ hmem _ hmem1) hv) dvl_nil)
          refine plainL_all.mpr fun d hd => ?_
          rcases List.mem_append.mp hd with hd | hd
          · exact plainL_all.mp pl d hd
          · obtain ⟨d2, hd2, rfl⟩ := List.mem_map.mp hd
            exact hp _ hmem d2 (List.mem_of_mem_take hd2)
      · have e : n = (es ds[i]).length := by omega
        subst e
        refine .inl ⟨hstop1, hlt, exG, ys, hGD, ?_⟩
        rw [tk]
        rw [List.take_length] at hGl
        exact hGl
  · have e : i = ds.length := by omega
    subst e
    refine .inl ⟨hstop, q D zs H' (fresh_back e2 hD) (e2.trans ex) hD' ?_⟩
    rw [List.take_length] at hl
    exact hl
end
end Kw
namespace Kw
open PySem
/-! ## squares, lines, classes, papers: what both the program and the law reckon -/
abbrev Sq := List (List Int)
def lnD (ns : List Int) : Dat := .tup (ns.map Dat.int)
def sqD (sq : Sq) : Dat := .tup (sq.map lnD)
def wid (sq : Sq) : Nat := (sq.headD []).length
structure Wf (sq : Sq) : Prop where
  ne : sq ≠ []
  len : sq.length ≤ 12
  w0 : 0 < wid sq
  w12 : wid sq ≤ 12
  row : ∀ r ∈ sq, r.length = wid sq
  ent : ∀ r ∈ sq, ∀ x ∈ r, 0 ≤ x ∧ x ≤ 60
def ent (sq : Sq) (r c : Int) : Int := (sq.getD r.toNat []).getD c.toNat 0
def turn (sq : Sq) : Sq := (List.range (wid sq)).map fun j => sq.map fun r => r.getD j 0
/-- ascending indices below n, at least one -/
structure Ln (n : Nat) (ns : List Int) : Prop where
  ne : ns ≠ []
  asc : ns.Pairwise (· < ·)
  bd : ∀ x ∈ ns, 0 ≤ x ∧ x < (n : Int)
abbrev En := Int → Int → Int
def flat (e : En) (rows cols : List Int) : Bool := rows.all fun r => cols.all fun c => decide (e r c = e (rows.headD 0) (cols.headD 0))
def lkB (e : En) (cols : List Int) (r o : Int) : Bool := cols.any fun c => decide (e r c = e o c)
/-- the least of some columns with equal entries -/
def lkC (e : En) (cols : List Int) (r o : Int) : Int := (cols.filter fun c => decide (e r c = e o c)).headD 0
def lkD (l : Int × Int × Int) : Dat := .tup [.int l.1, .int l.2.1, .int l.2.2]
def linkD (e : En) (cols : List Int) (r o : Int) : Dat := if lkB e cols r o then lkD (r, o, lkC e cols r o) else .non
abbrev Lks := List (Int × Int × Int)
/-- one class: what is left, the rows that are to be looked at, those that were, the links -/
def dfs (e : En) (cols : List Int) : Nat → List Int → List Int → List Int → Lks → List Int × List Int × Lks
  | 0, left, _, here, ls => (left, here, ls)
  | n + 1, left, fresh, here, ls => match fresh.getLast? with
    | none => (left, here, ls)
    | some r => dfs e cols n (left.filter fun o => !lkB e cols r o) (fresh.dropLast ++ left.filter fun o => lkB e cols r o) (here ++ [r])
        (ls ++ (left.filter fun o => lkB e cols r o).map fun o => (r, o, lkC e cols r o))
def cls (e : En) (cols : List Int) : Nat → List Int → List (List Int) × Lks
  | 0, _ => ([], [])
  | _ + 1, [] => ([], [])
  | n + 1, x :: left =>
    let d := dfs e cols (left.length + 1) left [x] [] []
    let r := cls e cols n d.1
    ((x :: left).filter (fun o => d.2.1.contains o) :: r.1, d.2.2 ++ r.2)
def classes (e : En) (cols rows : List Int) : List (List Int) := (cls e cols rows.length rows).1
def links (e : En) (cols rows : List Int) : Lks := (cls e cols rows.length rows).2
def joinM (w : Str) (cs : List (List Int)) (ps : List (Bool × Dat)) : Bool × Dat := match ps.filter fun p => !p.1 with
  | p :: _ => (false, p.2)
  | [] => (true, .tup [.str w, .tup (cs.map lnD), .tup (ps.map (·.2))])
def paperM : Nat → Sq → List Int → List Int → Bool × Dat
  | 0, _, _, _ => (true, .non)
  | n + 1, sq, rows, cols =>
    if flat (ent sq) rows cols then (true, .tup [.str "flat", .int (ent sq (rows.headD 0) (cols.headD 0))])
    else if (classes (ent sq) cols rows).length > 1 then joinM "rows" (classes (ent sq) cols rows) ((classes (ent sq) cols rows).map fun lot => paperM n sq lot cols)
    else if (classes (ent (turn sq)) rows cols).length > 1 then joinM "columns" (classes (ent (turn sq)) rows cols) ((classes (ent (turn sq)) rows cols).map fun lot => paperM n sq rows lot)
    else (false, .tup [lnD rows, lnD cols, .tup ((links (ent sq) cols rows).map lkD), .tup ((links (ent (turn sq)) rows cols).map lkD)])
def wordD (b : Bool) : Dat := .str (if b then "tree" else "locked")
def paperD (p : Bool × Dat) : Dat := .tup [wordD p.1, p.2]
def items : Dat → List Dat
  | .tup ds => ds
  | _ => []
/-- what tree_or_locked hands back -/
def wholeD (p : Bool × Dat) : Dat := if p.1 then .tup [.str "tree", p.2] else .tup (.str "locked" :: items p.2)
def hasTree : Nat → Sq → List Int → List Int → Bool
  | 0, _, _, _ => true
  | n + 1, sq, rows, cols =>
    if flat (ent sq) rows cols then true
    else if (classes (ent sq) cols rows).length > 1 then (classes (ent sq) cols rows).all fun lot => hasTree n sq lot cols
    else decide ((classes (ent (turn sq)) rows cols).length > 1) && (classes (ent (turn sq)) rows cols).all fun lot => hasTree n sq rows lot
/-! ## the judges -/
def within (d : Dat) (lo hi : Int) : Bool := match d with
  | .int i => decide (lo ≤ i ∧ i ≤ hi)
  | _ => false
def intOf : Dat → Int
  | .int i => i
  | _ => 0
def intsOf (d : Dat) : List Int := (items d).map intOf
def asc (ns : List Int) : Bool := (ns.zip ns.tail).all fun p => decide (p.1 < p.2)
def linesB (d : Dat) (n : Nat) : Bool := match d with
  | .tup ds => !ds.isEmpty && ds.all (fun x => within x 0 ((n : Int) - 1)) && asc (ds.map intOf)
  | _ => false
def ins (x : Int) : List Int → List Int
  | [] => [x]
  | y :: r => if x ≤ y then x :: y :: r else y :: ins x r
def srt : List Int → List Int
  | [] => []
  | x :: r => ins x (srt r)
def apart (e : En) (cols : List Int) : List (List Int) → Bool
  | [] => true
  | lot :: later => !(lot.any fun r => later.flatten.any fun o => lkB e cols r o) && apart e cols later
/-- are these classes of the rows -/
def clsB (e : En) (n : Nat) (rows cols : List Int) (d : Dat) : Bool := match d with
  | .tup ds => decide (2 ≤ ds.length) && ds.all (fun x => linesB x n) && decide (srt (ds.map intsOf).flatten = rows) && apart e cols (ds.map intsOf)
  | _ => false
def isTreeM : Nat → Sq → List Int → List Int → Dat → Bool
  | 0, _, _, _, _ => false
  | n + 1, sq, rows, cols, d => match d with
    | .tup [.str w, x] => decide (w = "flat") && within x 0 60 && flat (ent sq) rows cols && decide (ent sq (rows.headD 0) (cols.headD 0) = intOf x)
    | .tup [.str w, c, .tup ts] =>
      if w = "rows" then clsB (ent sq) sq.length rows cols c && decide (ts.length = (items c).length) && (((items c).map intsOf).zip ts).all fun p => isTreeM n sq p.1 cols p.2
      else if w = "columns" then clsB (ent (turn sq)) (turn sq).length cols rows c && decide (ts.length = (items c).length) && (((items c).map intsOf).zip ts).all fun p => isTreeM n sq rows p.1 p.2
      else false
    | _ => false
/-- a link of rows by one of some columns -/
def lnkB (e : En) (rows cols : List Int) (d : Dat) : Bool := match d with
  | .tup [.int a, .int b, .int c] => rows.contains a && rows.contains b && cols.contains c && decide (e a c = e b c)
  | _ => false
def lnkOf : Dat → Int × Int × Int
  | .tup [.int a, .int b, .int c] => (a, b, c)
  | _ => (0, 0, 0)
/-- one more step along links, among some rows -/
def step (rows : List Int) (ls : Lks) (K : List Int) : List Int := rows.filter fun r => K.contains r || ls.any fun l => (K.contains l.1 && decide (l.2.1 = r)) || (K.contains l.2.1 && decide (l.1 = r))
def steps (rows : List Int) (ls : Lks) : Nat → List Int → List Int
  | 0, K => K
  | n + 1, K => steps rows ls n (step rows ls K)
def hang (rows : List Int) (ls : Lks) : Bool := decide (steps rows ls rows.length [rows.headD 0] = rows)
def linksB (e : En) (rows cols : List Int) (d : Dat) : Bool := match d with
  | .tup ds => ds.all (fun x => lnkB e rows cols x) && hang rows (ds.map lnkOf)
  | _ => false
def isLockedM (sq : Sq) : List Dat → Bool
  | [r, c, l, m] => linesB r sq.length && linesB c (wid sq) && !flat (ent sq) (intsOf r) (intsOf c) && linksB (ent sq) (intsOf r) (intsOf c) l && linksB (ent (turn sq)) (intsOf c) (intsOf r) m
  | _ => false
def isPaper (n : Nat) (sq : Sq) (d : Dat) : Bool := match d with
  | .tup (.str w :: r) => if w = "tree" then (match r with
      | [t] => isTreeM n sq (upto sq.length) (upto (wid sq)) t
      | _ => false) else decide (w = "locked") && isLockedM sq r
  | _ => false
/-! how deep, how wide plain values may be here -/
mutual
def Dat.fits : Nat → Dat → Bool
  | 0, _ => false
  | n + 1, .tup ds => decide (ds.length ≤ 25) && fitsL n ds
  | _ + 1, .lst _ => false
  | _ + 1, _ => true
def fitsL : Nat → List Dat → Bool
  | _, [] => true
  | n, d :: ds => d.fits n && fitsL n ds
end
theorem fitsL_all : ∀ {n : Nat} {ds : List Dat}, fitsL n ds = true ↔ ∀ d ∈ ds, d.fits n = true
  | n, [] => by simp [fitsL]
  | n, d :: ds => by simp [fitsL, fitsL_all (n := n) (ds := ds)]
theorem fits_tup {n : Nat} {ds : List Dat} : (Dat.tup ds).fits n = true ↔ ∃ m, n = m + 1 ∧ ds.length ≤ 25 ∧ ∀ d ∈ ds, d.fits m = true := by
  cases n with
  | zero => simp [Dat.fits]
  | succ n => simp [Dat.fits, fitsL_all]
theorem fits_plain : ∀ {n : Nat} {d : Dat}, d.fits n = true → d.plain = true
  | 0, d, h => by simp [Dat.fits] at h
  | n + 1, .tup ds, h => by
    obtain ⟨m, e, _, h2⟩ := fits_tup.mp h
    cases e
    rw [plain_tup]
    exact plainL_all.mpr fun d hd => fits_plain (h2 d hd)
  | n + 1, .lst _, h => by simp [Dat.fits] at h
  | n + 1, .non, h => rfl
  | n + 1, .bl _, h => rfl
  | n + 1, .int _, h => rfl
  | n + 1, .str _, h => rfl
  | n + 1, .opq, h => rfl
end Kw
namespace Kw
open PySem PySem.Spec PyProof.Rows L2 Evl
/-! ## the kinds of plain values -/
def tyN : Dat → String
  | .non => "NoneType"
  | .bl _ => "bool"
  | .int _ => "int"
  | .str _ => "str"
  | .tup _ => "tuple"
  | .lst _ => "list"
  | .opq => "list"
theorem tyX_of {K : PySem.W.Frag} {H : Hp} {d : Dat} {v : V} (h : Dv H d v) : TyX K H v (.type (tyN d)) := by
  cases d with
  | non => rw [show v = _ from h]; exact .base .non
  | bl b => rw [show v = _ from h]; exact .base (.bl b)
  | int i => rw [show v = _ from h]; exact .base (.int i)
  | str s => rw [show v = _ from h]; exact .base (.str s)
  | tup ds => obtain ⟨a, xs, rfl, hH, _⟩ := h; exact .base (.tup hH)
  | lst ds => obtain ⟨a, xs, rfl, hH, _⟩ := h; exact .base (.lst hH)
  | opq => obtain ⟨a, xs, rfl, hH⟩ := h; exact .base (.lst hH)
def Dat.anyInt : Dat → Bool
  | .int _ => true
  | .bl _ => true
  | _ => false
def Dat.isBl : Dat → Bool
  | .bl _ => true
  | _ => false
def Dat.isTup : Dat → Bool
  | .tup _ => true
  | _ => false
def Dat.isStr : Dat → Bool
  | .str _ => true
  | _ => false
def Dat.isInt : Dat → Bool
  | .int _ => true
  | _ => false
section
variable {K : PySem.W.Frag} {σ : L2.St} {H : Hp} {ta : TE} {d : Dat}
theorem disi {n : String} {b : Bool} (ha : EvD ta σ H d) (hk : kitB (tyN d) n = some b) : EvD (tCB (rIsi K) (tCons ta (tCons (tC (.ty n)) tNil))) σ H (.bl b) := fun H1 e Q q =>
  ha H1 e _ fun x H2 e2 hx => ⟨x, .ty n, _, _, b, rfl, .ty n, tyX_of hx, kit_ty hk, q _ H2 e2 rfl⟩
theorem disi_int (ha : EvD ta σ H d) : EvD (tCB (rIsi K) (tCons ta (tCons (tC (.ty "int")) tNil))) σ H (.bl d.anyInt) := disi ha (by cases d <;> kernel_rfl)
theorem disi_bool (ha : EvD ta σ H d) : EvD (tCB (rIsi K) (tCons ta (tCons (tC (.ty "bool")) tNil))) σ H (.bl d.isBl) := disi ha (by cases d <;> kernel_rfl)
theorem disi_tuple (ha : EvD ta σ H d) : EvD (tCB (rIsi K) (tCons ta (tCons (tC (.ty "tuple")) tNil))) σ H (.bl d.isTup) := disi ha (by cases d <;> kernel_rfl)
theorem disi_str (ha : EvD ta σ H d) : EvD (tCB (rIsi K) (tCons ta (tCons (tC (.ty "str")) tNil))) σ H (.bl d.isStr) := disi ha (by cases d <;> kernel_rfl)
end
/-! ## promises over plain values -/
def SpD (dom : List Dat → Dat → Prop) : Sp := fun vs H Q _ => ∃ ds d, DvL H ds vs ∧ dom ds d ∧ RetD d H Q
theorem dcallD {dom : List Dat → Dat → Prop} {σ : L2.St} {H : Hp} {ds : List Dat} {d : Dat} {E : XK} {ta : TA} (h : EvAD ta σ H ds) (hd : dom ds d) : EvD (tCall (SpD dom) [] E ta) σ H d :=
  dcall h fun vs H1 _ hv Q q => ⟨ds, d, hv, hd, q⟩
def domIsInt : List Dat → Dat → Prop := fun ds d => ∃ x, ds = [x] ∧ d = .bl x.isInt
def domWithin : List Dat → Dat → Prop := fun ds d => ∃ x lo hi, ds = [x, .int lo, .int hi] ∧ d = .bl (within x lo hi)
section
variable {P : Program} {w : World} {K : PySem.W.Frag} {mg : Str → Option Value} {base : Heap}
theorem ok_is_integer (T : Txt K mg) : FnOk P w K mg base CX0 1 T.a_is_integer T.d_is_integer ["value"] (SpD domIsInt) := by
  refine T.F_is_integer.ok sc_is_integer (fun vs H Q E h => ?_) (fun cdv A outer s H vs Q E hr h => ?_)
  · obtain ⟨ds, d, hv, ⟨x, rfl, rfl⟩, q⟩ := h
    exact hv.len
  · obtain ⟨ds, d, hv, ⟨x, rfl, rfl⟩, q⟩ := h
    obtain ⟨v, rfl, hx⟩ := hv.one
    refine ⟨_, (pss_one (ps_ret (pe_and (pe_callB call_isi (by rfl) T.z_isinstance (by decide +kernel) (pa_cons (pv 0) (pa_cons (pe_bltn (v := .ty "int") (by rfl) T.z_int (by decide +kernel) rfl) pa_nil))) (pe_one (pe_not (pe_callB call_isi (by rfl) T.z_isinstance (by decide +kernel) (pa_cons (pv 0) (pa_cons (pe_bltn (v := .ty "bool") (by rfl) T.z_bool (by decide +kernel) rfl) pa_nil)))))))), ?_⟩
    refine dS_ret ((dand (disi_int (dvar rfl hx)) fun _ => dnot (disi_bool (dvar rfl hx))).is ?_) q
    cases x <;> rfl
theorem ok_is_within (T : Txt K mg) : FnOk P w K mg base CX0 2 T.a_is_within T.d_is_within ["value", "least", "most"] (SpD domWithin) := by
  have G_is_integer := ok_is_integer (P := P) (w := w) (base := base) T
  refine T.F_is_within.ok sc_is_within (fun vs H Q E h => ?_) (fun cdv A outer s H vs Q E hr h => ?_)
  · obtain ⟨ds, d, hv, ⟨x, lo, hi, rfl, rfl⟩, q⟩ := h
    exact hv.len
  · obtain ⟨ds, d, hv, ⟨x, lo, hi, rfl, rfl⟩, q⟩ := h
    obtain ⟨v, _, rfl, hx, v2, _, rfl, h2, hv⟩ := hv
    obtain ⟨v3, rfl, h3⟩ := hv.one
    refine ⟨_, (pss_one (ps_ret (pe_and (pe_call G_is_integer (hr.mono (by omega)) (by rfl) T.g_is_integer T.F_is_integer.kp T.b_is_integer .nil pass0 (pa_cons (pv 0) pa_nil)) (pe_one (pe_chain op_le op_le (pv 1) (pv 0) (pv 2)))))), ?_⟩
    refine dS_ret (d := .bl (within x lo hi)) ?_ q
    cases x with
    | int i => exact (dand (dcallD (aC (dvar rfl hx) aN) ⟨_, rfl, rfl⟩) fun _ => dchain (dvar rfl h2) (dvar rfl hx) (dvar rfl h3)).is rfl
    | _ => exact (dand (c := false) (dcallD (aC (dvar rfl hx) aN) ⟨_, rfl, rfl⟩) fun z => by cases z).is rfl
theorem ok_L_lk_is_within (T : Txt K mg) : FnOk P w K mg base CX0 1 T.a_L_lk_is_within T.d_L_lk_is_within ["_law_value", "_law_least", "_law_most"] (SpD domWithin) := by
  refine T.F_L_lk_is_within.ok sc_L_lk_is_within (fun vs H Q E h => ?_) (fun cdv A outer s H vs Q E hr h => ?_)
  · obtain ⟨ds, d, hv, ⟨x, lo, hi, rfl, rfl⟩, q⟩ := h
    exact hv.len
  · obtain ⟨ds, d, hv, ⟨x, lo, hi, rfl, rfl⟩, q⟩ := h
    obtain ⟨v, _, rfl, hx, v2, _, rfl, h2, hv⟩ := hv
    obtain ⟨v3, rfl, h3⟩ := hv.one
    refine ⟨_, (pss_one (ps_ret (pe_and (pe_callB call_isi (by rfl) T.z_isinstance (by decide +kernel) (pa_cons (pv 0) (pa_cons (pe_bltn (v := .ty "int") (by rfl) T.z_int (by decide +kernel) rfl) pa_nil))) (pe_and (pe_not (pe_callB call_isi (by rfl) T.z_isinstance (by decide +kernel) (pa_cons (pv 0) (pa_cons (pe_bltn (v := .ty "bool") (by rfl) T.z_bool (by decide +kernel) rfl) pa_nil)))) (pe_one (pe_chain op_le op_le (pv 1) (pv 0) (pv 2))))))), ?_⟩
    refine dS_ret (d := .bl (within x lo hi)) ?_ q
    have i1 := disi_int (K := K) (dvar (k := 0) (σ := start ["_law_value", "_law_least", "_law_most"] [v, v2, v3]) rfl hx)
    cases x with
    | int i => exact (dand (disi_int (dvar rfl hx)) fun _ => dand (dnot (disi_bool (dvar rfl hx))) fun _ => dchain (dvar rfl h2) (dvar rfl hx) (dvar rfl h3)).is rfl
    | bl i => exact (dand (disi_int (dvar rfl hx)) fun _ => dand (c := false) (dnot (disi_bool (dvar rfl hx))) fun z => by cases z).is rfl
    | _ => exact (dand (c := false) (disi_int (dvar rfl hx)) fun z => by cases z).is rfl
end

end Kw
namespace Kw
open PySem PySem.Spec PyProof.Rows L2 Evl
/-! ## squares -/
theorem upto_len (n : Nat) : (upto n).length = n := by unfold upto; simp
theorem upto_get {n i : Nat} (h : i < n) : (upto n)[i]? = some (i : Int) := by
  unfold upto
  rw [List.getElem?_map, List.getElem?_range h]
  rfl
theorem mem_upto {n : Nat} {x : Int} : x ∈ upto n ↔ 0 ≤ x ∧ x < (n : Int) := by
  unfold upto
  rw [List.mem_map]
  constructor
  · rintro ⟨i, hi, rfl⟩
    have := List.mem_range.mp hi
    omega
  · rintro ⟨h1, h2⟩
    exact ⟨x.toNat, List.mem_range.mpr (by omega), by omega⟩
theorem upto_ln {n : Nat} (h : 0 < n) : Ln n (upto n) := by
  refine ⟨?_, ?_, fun x hx => mem_upto.mp hx⟩
  · intro e
    have := upto_len n
    rw [e] at this
    simp at this
    omega
  · unfold upto
    rw [List.pairwise_map]
    exact List.pairwise_lt_range.imp fun h => by omega
theorem asc_len : ∀ {ns : List Int} {a n : Int}, ns.Pairwise (· < ·) → (∀ x ∈ ns, a ≤ x ∧ x < n) → a ≤ n → (ns.length : Int) ≤ n - a
  | [], _, _, _, _, h => by simp; omega
  | x :: ns, a, n, hp, hb, h => by
    have h1 := List.pairwise_cons.mp hp
    have h2 := hb x List.mem_cons_self
    have := asc_len (a := x + 1) (n := n) h1.2 (fun y hy => ⟨by have := h1.1 y hy; omega, (hb y (List.mem_cons_of_mem _ hy)).2⟩) (by omega)
    rw [List.length_cons]
    omega
theorem Ln.len {n : Nat} {ns : List Int} (h : Ln n ns) : ns.length ≤ n := by
  have := asc_len h.asc h.bd (by omega)
  omega
theorem Ln.head {n : Nat} {ns : List Int} (h : Ln n ns) : ns.headD 0 ∈ ns := by
  cases ns with
  | nil => exact absurd rfl h.ne
  | cons a l => exact List.mem_cons_self
theorem wid_row {sq : Sq} (h : Wf sq) {i : Nat} (hi : i < sq.length) : (sq[i]).length = wid sq := h.row _ (List.getElem_mem hi)
theorem turn_len (sq : Sq) : (turn sq).length = wid sq := by unfold turn; simp
theorem turn_wid {sq : Sq} (h : Wf sq) : wid (turn sq) = sq.length := by
  unfold wid turn
  have : 0 < wid sq := h.w0
  cases e : wid sq with
  | zero => omega
  | succ n => simp [List.range_succ_eq_map]
theorem ent_get {sq : Sq} (h : Wf sq) {i j : Nat} (hi : i < sq.length) (hj : j < wid sq) : ∃ row, sq[i]? = some row ∧ row[j]? = some (ent sq i j) ∧ row.length = wid sq := by
  refine ⟨sq[i], List.getElem?_eq_getElem hi, ?_, wid_row h hi⟩
  have hl : j < (sq[i]).length := by rw [wid_row h hi]; exact hj
  rw [List.getElem?_eq_getElem hl]
  unfold ent
  simp [List.getD, List.getElem?_eq_getElem hi, List.getElem?_eq_getElem hl]
theorem turn_wf {sq : Sq} (h : Wf sq) : Wf (turn sq) := by
  refine ⟨?_, ?_, ?_, ?_, ?_, ?_⟩
  · intro e
    have := turn_len sq
    rw [e] at this
    have := h.w0
    simp at *
    omega
  · rw [turn_len]
    exact h.w12
  · rw [turn_wid h]
    exact List.length_pos_iff.mpr h.ne
  · rw [turn_wid h]
    exact h.len
  · intro r hr
    rw [turn_wid h]
    unfold turn at hr
    obtain ⟨j, _, rfl⟩ := List.mem_map.mp hr
    simp
  · intro r hr x hx
    unfold turn at hr
    obtain ⟨j, hj, rfl⟩ := List.mem_map.mp hr
    obtain ⟨row, hrow, rfl⟩ := List.mem_map.mp hx
    have hl : j < row.length := by rw [h.row row hrow]; exact List.mem_range.mp hj
    have e : row.getD j 0 = row[j] := by simp [List.getD, List.getElem?_eq_getElem hl]
    rw [e]
    exact h.ent row hrow _ (List.getElem_mem hl)
theorem turn_get {sq : Sq} (h : Wf sq) {i j : Nat} (hj : j < wid sq) (hi : i < sq.length) : ent (turn sq) j i = ent sq i j := by
  unfold ent turn
  have hl : j < (sq[i]).length := by rw [wid_row h hi]; exact hj
  simp [List.getD, List.getElem?_map, List.getElem?_range hj, List.getElem?_eq_getElem hi, List.getElem?_eq_getElem hl]
theorem ent_turn {sq : Sq} (h : Wf sq) {r c : Int} (hc : 0 ≤ c ∧ c < (wid sq : Int)) (hr : 0 ≤ r ∧ r < (sq.length : Int)) : ent (turn sq) c r = ent sq r c := by
  have := turn_get h (i := r.toNat) (j := c.toNat) (by omega) (by omega)
  rwa [show ((c.toNat : Nat) : Int) = c by omega, show ((r.toNat : Nat) : Int) = r by omega] at this
theorem turn_turn {sq : Sq} (h : Wf sq) : turn (turn sq) = sq := by
  have hw := turn_wid h
  have hl := turn_len sq
  refine List.ext_getElem? fun i => ?_
  by_cases hi : i < sq.length
  · rw [List.getElem?_eq_getElem hi]
    have e1 : (turn (turn sq))[i]? = some ((turn sq).map fun r => r.getD i 0) := by
      unfold turn
      rw [List.getElem?_map]
      have : wid (List.map (fun j => List.map (fun r => r.getD j 0) sq) (List.range (wid sq))) = sq.length := hw
      rw [this, List.getElem?_range hi]
      rfl
    rw [e1]
    congr 1
    refine List.ext_getElem? fun j => ?_
    by_cases hj : j < wid sq
    · have hj' : j < (sq[i]).length := by rw [wid_row h hi]; exact hj
      rw [List.getElem?_eq_getElem hj', List.getElem?_map]
      unfold turn
      simp [List.getElem?_map, List.getElem?_range hj, List.getD, List.getElem?_eq_getElem hi, List.getElem?_eq_getElem hj']
    · rw [List.getElem?_eq_none (by rw [List.length_map, hl]; omega), List.getElem?_eq_none (by rw [wid_row h hi]; omega)]
  · rw [List.getElem?_eq_none (l := sq) (by omega), List.getElem?_eq_none]
    rw [turn_len, hw]
    omega
/-! ### squares and lines as data -/
theorem sqD_get {sq : Sq} {i : Nat} (h : i < sq.length) : (sq.map lnD)[i]? = some (lnD sq[i]) := by
  rw [List.getElem?_map, List.getElem?_eq_getElem h]
  rfl
theorem lnD_plain (ns : List Int) : (lnD ns).plain = true := by
  unfold lnD
  rw [plain_tup]
  exact plain_ints ns
theorem lns_plain (cs : List (List Int)) : plainL (cs.map lnD) = true := plainL_all.mpr fun d hd => by
  obtain ⟨n, _, rfl⟩ := List.mem_map.mp hd
  exact lnD_plain n
theorem sqD_plain (sq : Sq) : (sqD sq).plain = true := by
  unfold sqD
  rw [plain_tup]
  exact lns_plain sq
section
variable {K : PySem.W.Frag} {σ : L2.St} {H : Hp} {ta tb tc te : TE} {sq : Sq} {r c : Int} {ns : List Int}
theorem dRow (h : Wf sq) (ha : EvD ta σ H (sqD sq)) (hb : EvD tb σ H (.int r)) (hr : 0 ≤ r ∧ r < (sq.length : Int)) : EvD (tOp (rIxT K) ta tb) σ H (lnD (sq.getD r.toNat [])) :=
  dixT ha hb hr.1 (by
    have : r.toNat < sq.length := by omega
    rw [sqD_get this]
    simp [List.getD, List.getElem?_eq_getElem this])
theorem dEnt (h : Wf sq) (ha : EvD ta σ H (sqD sq)) (hb : EvD tb σ H (.int r)) (hc : EvD tc σ H (.int c)) (hr : 0 ≤ r ∧ r < (sq.length : Int)) (hC : 0 ≤ c ∧ c < (wid sq : Int)) : EvD (tOp (rIxT K) (tOp (rIxT K) ta tb) tc) σ H (.int (ent sq r c)) :=
  dixT (dRow h ha hb hr) hc hC.1 (by
    have h1 : r.toNat < sq.length := by omega
    have h2 : c.toNat < (sq[r.toNat]).length := by rw [wid_row h h1]; omega
    unfold ent
    simp [List.getD, List.getElem?_eq_getElem h1, List.getElem?_eq_getElem h2])
theorem dHead (ha : EvD ta σ H (lnD ns)) (hn : ns ≠ []) : EvD (tOp (rIxT K) ta (tC (.int 0))) σ H (.int (ns.headD 0)) :=
  dixT ha dint (by omega) (by
    cases ns with
    | nil => exact absurd rfl hn
    | cons a l => rfl)
end
end Kw
namespace Kw
open PySem PySem.Spec PyProof.Rows L2 Evl
section
variable {K : PySem.W.Frag} {σ : L2.St} {H H' : Hp} {ta tb tc te tl : TE} {t u : TT} {x y z v : V} {r : R2} {d e : Dat} {ds es : List Dat} {b c : Bool} {i j : Int} {aa : TA} {D : Ends} {tu tw tz : TS} {wi : TI} {g : TG}
theorem dq_asg {k : Nat} (h : EvD te σ H d) (q : ∀ v H1, Ex H H1 → Dv H1 d v → tz D (σ.set k (some v)) H1) : tSeq (tAsg te (gName k)) tz D σ H := h H (Ex.refl H) _ q
theorem dq_asgN {k : Nat} (h : EvN te σ H ds) (q : ∀ p xs H1, H p = none → Ex H H1 → H1 p = some (.lst xs) → DvL H1 ds xs → tz D (σ.set k (some (.ref p))) H1) : tSeq (tAsg te (gName k)) tz D σ H := h H (Ex.refl H) _ q
theorem dq_asgG (h : EvD te σ H d) (q : ∀ v H1, Ex H H1 → Dv H1 d v → Bind g v σ H1 fun σ2 => tz D σ2 H1) : tSeq (tAsg te g) tz D σ H := h H (Ex.refl H) _ fun v H1 e1 hv => q v H1 e1 hv _ fun σ2 h2 => h2
theorem dq_drop (h : EvD te σ H d) (q : ∀ H1, Ex H H1 → tz D σ H1) : tSeq (tDrop te) tz D σ H := h H (Ex.refl H) _ fun v H1 e1 _ => q H1 e1
theorem dS_for (P : Nat → L2.St → Hp → Prop) (hs : Src wi σ H ds) (h0 : ∀ H1, Ex H H1 → P 0 σ H1)
    (hb : ∀ i (hi : i < ds.length) σ' H', Ex H H' → P i σ' H' → ∀ x H'', Ex H' H'' → Dv H'' ds[i] x → Bind g x σ' H'' fun σ2 => ∀ N : L2.St → Hp → Prop, (∀ σ3 H3, Ex H'' H3 → P (i + 1) σ3 H3 → N σ3 H3) → tu { D with nx := N, ct := N, bk := D.nx } σ2 H'')
    (hd : ∀ σ' H', Ex H H' → P ds.length σ' H' → D.nx σ' H') : tFor wi g tu D σ H := hs H (Ex.refl H) _ fun J H2 e2 hw => by
  refine ⟨fun i m σ' H' => m = ds.length - i ∧ i ≤ ds.length ∧ Ex H2 H' ∧ P i σ' H', ⟨ds.length, by omega, Nat.zero_le _, Ex.refl _, h0 H2 e2⟩, ?_⟩
  rintro i m σ' H' ⟨rfl, hi, ex, hp⟩
  obtain ⟨hgo, hstop⟩ := hw H' ex
  by_cases hlt : i < ds.length
  · refine .inr ⟨(hgo i ds[i] (List.getElem?_eq_getElem hlt)).1, fun σ3 H3 => i + 1 ≤ ds.length ∧ Ex H2 H3 ∧ P (i + 1) σ3 H3, fun σ3 H3 hn => ⟨ds.length - (i + 1), by omega, rfl, hn⟩, fun x H'' hy => ?_⟩
    obtain ⟨ex2, hdx⟩ := (hgo i ds[i] (List.getElem?_eq_getElem hlt)).2 x H'' hy
    exact hb i hlt σ' H' (e2.trans ex) hp x H'' ex2 hdx _ fun σ2 h => h _ fun σ3 H3 e3 h3 => ⟨hlt, (ex.trans ex2).trans e3, h3⟩
  · have e : i = ds.length := by omega
    subst e
    exact .inl ⟨hstop, hd σ' H' (e2.trans ex) hp⟩
theorem dq_for (P : Nat → L2.St → Hp → Prop) (hs : Src wi σ H ds) (h0 : ∀ H1, Ex H H1 → P 0 σ H1)
    (hb : ∀ i (hi : i < ds.length) σ' H', Ex H H' → P i σ' H' → ∀ x H'', Ex H' H'' → Dv H'' ds[i] x → Bind g x σ' H'' fun σ2 => ∀ N : L2.St → Hp → Prop, (∀ σ3 H3, Ex H'' H3 → P (i + 1) σ3 H3 → N σ3 H3) → tu { D with nx := N, ct := N, bk := tz D } σ2 H'')
    (hd : ∀ σ' H', Ex H H' → P ds.length σ' H' → tz D σ' H') : tSeq (tFor wi g tu) tz D σ H := dS_for (D := { D with nx := tz D }) P hs h0 hb hd
end
end Kw
namespace Kw
open PySem PySem.Spec PyProof.Rows L2 Evl
/-! the kit's rules with the fragment's name told -/
section
variable {X : Cx} {K : PySem.W.Frag} {tg l : Expr} {tl : TE}
theorem k_ixT (h : X.K = K) : IxR X (rIxT K) := h ▸ ix_tup
theorem k_ixL (h : X.K = K) : IxR X (rIxL K) := h ▸ ix_list
theorem k_tup (h : X.K = K) (hl : PE X l tl) : PI X tg l (iTup K tl) := h ▸ pi_tup hl
theorem k_list (h : X.K = K) (hl : PE X l tl) : PI X tg l (iList K tl) := h ▸ pi_list hl
theorem k_len (h : X.K = K) : CallR X (.builtin "len") (rLenS K) := h ▸ call_len_seq
theorem k_tupOf (h : X.K = K) : CallR X (.type "tuple") (rTupOf K) := h ▸ call_tuple_of
theorem k_listOf (h : X.K = K) : CallR X (.type "list") (rListS K) := h ▸ call_list_of
theorem k_isi (h : X.K = K) : CallR X (.builtin "isinstance") (rIsi K) := h ▸ call_isi
theorem k_notIn (h : X.K = K) : OpR X (compareOp .NotIn) (rIn K true) := h ▸ op_notIn_seq
theorem k_in (h : X.K = K) : OpR X (compareOp .In) (rIn K false) := h ▸ op_in_seq
theorem k_slT (h : X.K = K) : SlR X (rSlA K) := h ▸ sl_tupA
theorem k_slL (h : X.K = K) : SlR X (rSlL K) := h ▸ sl_list
theorem k_all (h : X.K = K) (hc : X.calm = true) : CallR X (.builtin "all") (rAll K) := h ▸ cr_all hc
theorem k_any (h : X.K = K) (hc : X.calm = true) : CallR X (.builtin "any") (rAny K) := h ▸ cr_any hc
theorem k_eqE (h : X.K = K) (hu : X.A.units < cLine) : OpR X (compareOp .Eq) (rEmp K false) := h ▸ op_eqE hu
theorem k_neE (h : X.K = K) (hu : X.A.units < cLine) : OpR X (compareOp .NotEq) (rEmp K true) := h ▸ op_neE hu
theorem k_catA (h : X.K = K) : OpR X (binaryOp .Add) (rCatA K) := h ▸ op_catA
theorem k_sorted (h : X.K = K) : CallR X (.builtin "sorted") (rSortedI K) := h ▸ cr_sortedI
theorem k_pgtup {es : List Expr} {k : Nat} {t : TGs} {n : Nat} {pos : Pos} (e : X.K = K) (hc : X.calm = true) (h : PGs X es t)
    (hn : (assignEach es X.env).length = n := by rfl) (hst : (assignEach es X.env).findIdx? (·.1) = none := by rfl) : PG X (.Tuple es k pos) (gTup K n t) := e ▸ pg_tup hc h hn hst
end
end Kw
namespace Kw
open PySem PySem.Spec PyProof.Rows L2 Evl
theorem all_map_id {α : Type} (l : List α) (f : α → Bool) : (l.map f).all id = l.all f := by
  rw [List.all_map]
  rfl
theorem flat_all (rows cols : List Int) (f : Int → Int → Bool) : ((rows.flatMap fun r => cols.map fun c => f r c).all id) = rows.all fun r => cols.all fun c => f r c := by
  induction rows with
  | nil => rfl
  | cons r rows ih => rw [List.flatMap_cons, List.all_append, ih, all_map_id, List.all_cons]
theorem filt_any {α : Type} (l : List α) (f : α → Bool) : (!(l.filter f).isEmpty) = l.any f := by
  induction l with
  | nil => rfl
  | cons a l ih => rw [List.filter_cons, List.any_cons]; cases h : f a <;> simp_all
theorem filt_none {α : Type} (l : List α) (f : α → Bool) : (l.filter f).isEmpty = l.all fun a => !f a := by
  induction l with
  | nil => rfl
  | cons a l ih => rw [List.filter_cons, List.all_cons]; cases h : f a <;> simp_all
def domFlat : List Dat → Dat → Prop := fun ds d => ∃ sq rows cols, Wf sq ∧ Ln sq.length rows ∧ Ln (wid sq) cols ∧ ds = [sqD sq, lnD rows, lnD cols] ∧ d = .bl (flat (ent sq) rows cols)
def domLink : List Dat → Dat → Prop := fun ds d => ∃ sq r o cols, Wf sq ∧ (0 ≤ r ∧ r < (sq.length : Int)) ∧ (0 ≤ o ∧ o < (sq.length : Int)) ∧ Ln (wid sq) cols ∧ ds = [sqD sq, .int r, .int o, lnD cols] ∧ d = linkD (ent sq) cols r o
def domTurn : List Dat → Dat → Prop := fun ds d => ∃ sq, Wf sq ∧ ds = [sqD sq] ∧ d = sqD (turn sq)
theorem Ln.nat12 {n : Nat} {ns : List Int} (h : Ln n ns) (hn : n ≤ 12) : ns.length ≤ 12 := Nat.le_trans h.len hn
theorem map_plain {ns : List Int} : ∀ d ∈ ns.map Dat.int, d.plain = true := plainL_all.mp (plain_ints ns)
theorem fil_ints (ns : List Int) (f : Int → Bool) : (ns.map Dat.int).filter (fun d => f (intOf d)) = (ns.filter f).map Dat.int := by
  rw [List.filter_map]
  rfl
section
variable {P : Program} {w : World} {K : PySem.W.Frag} {mg : Str → Option Value} {base : Heap}
theorem ok_is_flat (T : Txt K mg) : FnOk P w K mg base CX0 1 T.a_is_flat T.d_is_flat ["square", "rows", "columns"] (SpD domFlat) := by
  refine T.F_is_flat.ok sc_is_flat (fun vs H Q E h => ?_) (fun cdv A outer s H vs Q E hr h => ?_)
  · obtain ⟨ds, d, hv, ⟨sq, rows, cols, wf, lr, lc, rfl, rfl⟩, q⟩ := h
    exact hv.len
  · obtain ⟨ds, d, hv, ⟨sq, rows, cols, wf, lr, lc, rfl, rfl⟩, q⟩ := h
    obtain ⟨v1, _, rfl, h1, v2, _, rfl, h2, hv⟩ := hv
    obtain ⟨v3, rfl, h3⟩ := hv.one
    refine ⟨_, (pss_cons (ps_set (i := 3) sc_is_flat.nd rfl (.inr rfl) (pe_ix (k_ixT (K := K) rfl) (pe_ix (k_ixT (K := K) rfl) (pv 0) (pe_ix (k_ixT (K := K) rfl) (pv 1) pe_int (fun _ _ => rfl)) (fun _ _ => rfl)) (pe_ix (k_ixT (K := K) rfl) (pv 2) pe_int (fun _ _ => rfl)) (fun _ _ => rfl)))
      (pss_one (ps_ret (pe_callB (k_all (K := K) rfl rfl) (by rfl) T.z_all (by decide +kernel) (pa_cons (pe_lc2 (own := [("row", 4), ("column", 5)]) (vs1 := [5]) rfl sc_is_flat.nd (k_tup (K := K) rfl (pv 1)) (blkOk_by (by kernel_rfl)) (by decide) (fun _ _ _ _ _ => (pg_name (i := 4) sc_is_flat.nd rfl (.inl rfl))) (fun _ _ _ _ _ => pts_nil) (fun _ _ _ _ _ => (k_tup (K := K) rfl (pv 2))) (fun _ _ _ _ _ => (pg_name (i := 5) sc_is_flat.nd rfl (.inl rfl))) (fun _ _ _ _ _ => pts_nil) (fun _ _ _ _ _ => (pe_cmpR op_eq (pe_ix (k_ixT (K := K) rfl) (pe_ix (k_ixT (K := K) rfl) (pv 0) (pv 4) (fun _ _ => rfl)) (pv 5) (fun _ _ => rfl)) (pv 3) (nomark _)))) pa_nil))))), ?_⟩
    refine dq_asg (dEnt wf (dvar rfl h1) (dHead (dvar rfl h2) lr.ne) (dHead (dvar rfl h3) lc.ne) (lr.bd _ lr.head) (lc.bd _ lc.head)) fun v H1 e1 hv => ?_
    refine dS_ret (d := .bl (flat (ent sq) rows cols)) ?_ (q.up e1)
    refine (dall (bs := rows.flatMap fun r => cols.map fun c => decide (ent sq r c = ent sq (rows.headD 0) (cols.headD 0))) ?_).is (by rw [flat_all]; rfl)
    refine EvN.toD ((nlc2 (fun _ => cols.map Dat.int) (fun d e => .bl (decide (ent sq (intOf d) (intOf e) = ent sq (rows.headD 0) (cols.headD 0)))) (srcT (dvar rfl (h2.mono e1))) ?_ ?_ map_plain (fun _ _ _ _ => rfl) (fun _ => rfl) (fun _ _ => rfl) ?_ ?_).is ?_)
    · rw [List.length_map]; have := lr.len; have := wf.len; omega
    · intro _ _; rw [List.length_map]; have := lc.len; have := wf.w12; omega
    · intro d hd x G e hx
      exact srcET (dvar rfl (h3.mono (e1.trans e))) (plain_ints cols)
    · intro d hd d2 hd2 x y G e hx hy
      obtain ⟨r, hr, rfl⟩ := List.mem_map.mp hd
      obtain ⟨c, hc, rfl⟩ := List.mem_map.mp hd2
      exact deqI (dEnt wf (dvar rfl (h1.mono (e1.trans e))) (dvar rfl hx) (dvar rfl hy) (lr.bd _ hr) (lc.bd _ hc)) (dvar rfl (hv.mono e))
    · simp [List.flatMap_map, List.map_flatMap, Function.comp_def, intOf]
theorem ok_link_of (T : Txt K mg) : FnOk P w K mg base CX0 1 T.a_link_of T.d_link_of ["square", "row", "other", "columns"] (SpD domLink) := by
  refine T.F_link_of.ok sc_link_of (fun vs H Q E h => ?_) (fun cdv A outer s H vs Q E hr h => ?_)
  · obtain ⟨ds, d, hv, ⟨sq, r, o, cols, wf, lr, lo, lc, rfl, rfl⟩, q⟩ := h
    exact hv.len
  · obtain ⟨ds, d, hv, ⟨sq, r, o, cols, wf, lr, lo, lc, rfl, rfl⟩, q⟩ := h
    obtain ⟨v1, _, rfl, h1, v2, _, rfl, h2, v3, _, rfl, h3, hv⟩ := hv
    obtain ⟨v4, rfl, h4⟩ := hv.one
    refine ⟨_, (pss_cons (ps_setLc (own := [("column", 5)]) (i := 4) rfl sc_link_of.nd rfl rfl (sw_true rfl rfl rfl (by kernel_rfl)) (k_tup (K := K) rfl (pv 3)) (blkOk_by (by kernel_rfl)) (fun _ _ _ _ _ => (pg_name (i := 5) sc_link_of.nd rfl (.inl rfl))) (fun _ _ _ _ _ => (pts_one (pt_cmpR op_eq (pe_ix (k_ixT (K := K) rfl) (pe_ix (k_ixT (K := K) rfl) (pv 0) (pv 1) (fun _ _ => rfl)) (pv 5) (fun _ _ => rfl)) (pe_ix (k_ixT (K := K) rfl) (pe_ix (k_ixT (K := K) rfl) (pv 0) (pv 2) (fun _ _ => rfl)) (pv 5) (fun _ _ => rfl)) (nomark _)))) (fun _ _ _ _ _ => (pv 5)))
      (pss_one (ps_ret (pe_ifExp (pt_cmpR (k_neE (K := K) rfl hr.units0) (pv 4) (pe_lst pa_nil) (nomark _)) (pe_tup (pa_cons (pv 1) (pa_cons (pv 2) (pa_cons (pe_ix (k_ixL (K := K) rfl) (pv 4) pe_int (fun _ _ => rfl)) pa_nil)))) pe_non)))), ?_⟩
    refine dq_asgN ((nlc (fun d => decide (ent sq r (intOf d) = ent sq o (intOf d))) (fun d => d) (srcT (dvar rfl h4)) ?_ (fun d hd _ => map_plain d hd) ?_).is (by rw [List.map_id' , fil_ints cols fun c => decide (ent sq r c = ent sq o c)])) fun p xs H1 hp e1 hH hl => ?_
    · rw [List.length_map]; have := lc.len; have := wf.w12; omega
    · intro d hd x G e hx
      obtain ⟨c, hc, rfl⟩ := List.mem_map.mp hd
      refine bName ⟨rfl, tstB ?_, fun _ => dvar rfl hx⟩
      exact deqI (dEnt wf (dvar rfl (h1.mono e)) (dvar rfl (h2.mono e)) (dvar rfl hx) lr (lc.bd _ hc)) (dEnt wf (dvar rfl (h1.mono e)) (dvar rfl (h3.mono e)) (dvar rfl hx) lo (lc.bd _ hc))
    · have dl : Dv H1 (.lst ((cols.filter fun c => decide (ent sq r c = ent sq o c)).map Dat.int)) (.ref p) := dv_lst hH hl
      have eb : (!((cols.filter fun c => decide (ent sq r c = ent sq o c)).map Dat.int).isEmpty) = lkB (ent sq) cols r o := by rw [List.isEmpty_map]; exact filt_any _ _
      refine dS_ret (dif (b := lkB (ent sq) cols r o) (tstB ((dempL (neg := true) (dvar rfl dl)).is (by rw [← eb]; rfl))) (fun hb => ?_) fun hb => ?_) (q.up e1)
      · unfold linkD
        rw [hb, if_pos rfl]
        refine dtup (aC (dvar rfl (h2.mono e1)) (aC (dvar rfl (h3.mono e1)) (aC (dixL (dvar rfl dl) dint (by omega) ?_) aN))) (by show 3 ≤ 1000; decide)
        unfold lkC
        rw [← eb] at hb
        cases e : cols.filter fun c => decide (ent sq r c = ent sq o c) with
        | nil => rw [e] at hb; cases hb
        | cons a l => rfl
      · unfold linkD
        rw [hb]
        exact dnon
theorem turn_get? {sq : Sq} (i : Nat) (h : i < wid sq) : (turn sq)[i]? = some (sq.map fun r => r.getD i 0) := by
  unfold turn
  rw [List.getElem?_map, List.getElem?_range h]
  rfl
theorem ok_L_lk_turned (T : Txt K mg) : FnOk P w K mg base CX0 1 T.a_L_lk_turned T.d_L_lk_turned ["_law_square"] (SpD domTurn) := by
  refine T.F_L_lk_turned.ok sc_L_lk_turned (fun vs H Q E h => ?_) (fun cdv A outer s H vs Q E hr h => ?_)
  · obtain ⟨ds, d, hv, ⟨sq, wf, rfl, rfl⟩, q⟩ := h
    exact hv.len
  · obtain ⟨ds, d, hv, ⟨sq, wf, rfl, rfl⟩, q⟩ := h
    obtain ⟨v1, rfl, h1⟩ := hv.one
    refine ⟨_, (pss_one (ps_ret (pe_callTy (k_tupOf (K := K) rfl) (by rfl) T.z_tuple (by decide +kernel) (pa_cons (pe_lc (own := [("_law_at", 1)]) rfl sc_L_lk_turned.nd (pi_range1 (by rfl) T.z_range (pa_cons (pe_callB (k_len (K := K) rfl) (by rfl) T.z_len (by decide +kernel) (pa_cons (pe_ix (k_ixT (K := K) rfl) (pv 0) pe_int (fun _ _ => rfl)) pa_nil)) pa_nil)) (blkOk_by (by kernel_rfl)) (fun _ _ _ _ _ => (pg_name (i := 1) sc_L_lk_turned.nd rfl (.inr rfl))) (fun _ _ _ _ _ => pts_nil) (fun _ _ _ _ _ => (pe_callTy (k_tupOf (K := K) rfl) (by rfl) T.z_tuple (by decide +kernel) (pa_cons (pe_lc (own := [("_law_row", 2)]) rfl sc_L_lk_turned.nd (k_tup (K := K) rfl (pv 0)) (blkOk_by (by kernel_rfl)) (fun _ _ _ _ _ => (pg_name (i := 2) sc_L_lk_turned.nd rfl (.inl rfl))) (fun _ _ _ _ _ => pts_nil) (fun _ _ _ _ _ => (pe_ix (k_ixT (K := K) rfl) (pv 2) (pv 1) (fun _ _ => rfl)))) pa_nil)))) pa_nil)))), ?_⟩
    have hw := wf.w12
    have hl := wf.len
    have r0 : sq.getD 0 [] = sq.headD [] := by cases sq <;> rfl
    refine dS_ret (d := sqD (turn sq)) ((dtupL (nlcM (fun d => lnD (sq.map fun r => r.getD (intOf d).toNat 0)) (srcR (n := wid sq) (aC ((dlenT (dRow wf (r := 0) (dvar rfl h1) dint ⟨by omega, by have := List.length_pos_iff.mpr wf.ne; omega⟩)).is ?_) aN) (by omega)) ?_ (fun d _ => lnD_plain _) ?_).toD).is ?_) q
    · rw [List.length_map]; show Dat.int _ = _; rw [show (0 : Int).toNat = 0 from rfl, r0]; rfl
    · rw [List.length_map, upto_len]; omega
    · intro d hd x G e hx
      obtain ⟨j, hj, rfl⟩ := List.mem_map.mp hd
      have bj := mem_upto.mp hj
      refine bName ⟨rfl, ?_⟩
      refine (dtupL (nlcM (fun d => .int ((intsOf d).getD j.toNat 0)) (srcT (dvar rfl (h1.mono e))) ?_ (fun d _ => rfl) ?_).toD).is ?_
      · rw [List.length_map]; omega
      · intro d hd y G2 e2 hy
        obtain ⟨row, hrow, rfl⟩ := List.mem_map.mp hd
        refine bName ⟨rfl, dixT (dvar rfl hy) (dvar rfl (hx.mono e2)) bj.1 ?_⟩
        have hlt : j.toNat < row.length := by rw [wf.row _ hrow]; omega
        simp [intsOf, items, lnD, List.getD, List.getElem?_eq_getElem hlt, intOf]
      · simp [lnD, intsOf, items, Function.comp_def, intOf]
    · unfold sqD turn upto
      simp [Function.comp_def, intOf]
theorem ok_L_lk_is_flat (T : Txt K mg) : FnOk P w K mg base CX0 1 T.a_L_lk_is_flat T.d_L_lk_is_flat ["_law_square", "_law_rows", "_law_columns"] (SpD domFlat) := by
  refine T.F_L_lk_is_flat.ok sc_L_lk_is_flat (fun vs H Q E h => ?_) (fun cdv A outer s H vs Q E hr h => ?_)
  · obtain ⟨ds, d, hv, ⟨sq, rows, cols, wf, lr, lc, rfl, rfl⟩, q⟩ := h
    exact hv.len
  · obtain ⟨ds, d, hv, ⟨sq, rows, cols, wf, lr, lc, rfl, rfl⟩, q⟩ := h
    obtain ⟨v1, _, rfl, h1, v2, _, rfl, h2, hv⟩ := hv
    obtain ⟨v3, rfl, h3⟩ := hv.one
    refine ⟨_, (pss_cons (ps_set (i := 3) sc_L_lk_is_flat.nd rfl (.inr rfl) (pe_ix (k_ixT (K := K) rfl) (pe_ix (k_ixT (K := K) rfl) (pv 0) (pe_ix (k_ixT (K := K) rfl) (pv 1) pe_int (fun _ _ => rfl)) (fun _ _ => rfl)) (pe_ix (k_ixT (K := K) rfl) (pv 2) pe_int (fun _ _ => rfl)) (fun _ _ => rfl)))
      (pss_one (ps_ret (pe_cmpR (k_eqE (K := K) rfl hr.units0) (pe_lc (own := [("_law_row", 4)]) rfl sc_L_lk_is_flat.nd (k_tup (K := K) rfl (pv 1)) (blkOk_by (by kernel_rfl)) (fun _ _ _ _ _ => (pg_name (i := 4) sc_L_lk_is_flat.nd rfl (.inr rfl))) (fun _ _ _ _ _ => (pts_one (pt_cmpR (k_neE (K := K) rfl hr.units0) (pe_lc (own := [("_law_at", 5)]) rfl sc_L_lk_is_flat.nd (k_tup (K := K) rfl (pv 2)) (blkOk_by (by kernel_rfl)) (fun _ _ _ _ _ => (pg_name (i := 5) sc_L_lk_is_flat.nd rfl (.inl rfl))) (fun _ _ _ _ _ => (pts_one (pt_cmpR op_ne (pe_ix (k_ixT (K := K) rfl) (pe_ix (k_ixT (K := K) rfl) (pv 0) (pv 4) (fun _ _ => rfl)) (pv 5) (fun _ _ => rfl)) (pv 3) (nomark _)))) (fun _ _ _ _ _ => (pv 5))) (pe_lst pa_nil) (nomark _)))) (fun _ _ _ _ _ => (pv 4))) (pe_lst pa_nil) (nomark _))))), ?_⟩
    have q1 := lr.len
    have q2 := lc.len
    have q3 := wf.len
    have q4 := wf.w12
    refine dq_asg (dEnt wf (dvar rfl h1) (dHead (dvar rfl h2) lr.ne) (dHead (dvar rfl h3) lc.ne) (lr.bd _ lr.head) (lc.bd _ lc.head)) fun v H1 e1 hv => ?_
    refine dS_ret (d := .bl (flat (ent sq) rows cols)) ((dempL (neg := false) (nlc (fun d => cols.any fun c => !decide (ent sq (intOf d) c = ent sq (rows.headD 0) (cols.headD 0))) (fun d => d) (srcT (dvar rfl (h2.mono e1))) ?_ (fun d hd _ => map_plain d hd) ?_).toD).is ?_) (q.up e1)
    · rw [List.length_map]; omega
    · intro d hd x G e hx
      obtain ⟨r, hr, rfl⟩ := List.mem_map.mp hd
      refine bName ⟨rfl, tstB ((dempL (neg := true) (nlc (fun d => !decide (ent sq r (intOf d) = ent sq (rows.headD 0) (cols.headD 0))) (fun d => d) (srcT (dvar rfl (h3.mono (e1.trans e)))) ?_ (fun d hd _ => map_plain d hd) ?_).toD).is ?_), fun _ => dvar rfl hx⟩
      · rw [List.length_map]; omega
      · intro d hd y G2 e2 hy
        obtain ⟨c, hc, rfl⟩ := List.mem_map.mp hd
        refine bName ⟨rfl, tstB ?_, fun _ => dvar rfl hy⟩
        exact dneI (dEnt wf (dvar rfl (h1.mono ((e1.trans e).trans e2))) (dvar rfl (hx.mono e2)) (dvar rfl hy) (lr.bd _ hr) (lc.bd _ hc)) (dvar rfl (hv.mono (e.trans e2)))
      · rw [List.map_id', fil_ints cols fun c => !decide (ent sq r c = ent sq (rows.headD 0) (cols.headD 0)), List.isEmpty_map]
        exact congrArg Dat.bl (filt_any _ _)
    · rw [List.map_id', fil_ints rows fun r => cols.any fun c => !decide (ent sq r c = ent sq (rows.headD 0) (cols.headD 0)), List.isEmpty_map]
      have e : (List.filter (fun r => cols.any fun c => !decide (ent sq r c = ent sq (rows.headD 0) (cols.headD 0))) rows).isEmpty = flat (ent sq) rows cols := by
        rw [filt_none]
        unfold flat
        congr 1
        funext r
        simp [List.any_eq_not_all_not]
      exact congrArg Dat.bl e
end

end Kw
namespace Kw
open PySem PySem.Spec PyProof.Rows L2 Evl
section
variable {K : PySem.W.Frag} {σ : L2.St} {H H' : Hp} {ta tb tc te tl : TE} {t u : TT} {x y z v : V} {r : R2} {d e : Dat} {ds es : List Dat} {b c : Bool} {i j : Int} {aa : TA} {D : Ends} {tu tw tz : TS} {wi : TI} {g : TG} {to th : TO} {o lo hi : Option Int} {ns : List Int}
theorem odI (h : EvD te σ H (.int i)) : EvO (tPart te) σ H (some i) := fun H1 e Q q => h H1 e _ fun x H2 e2 hx => ⟨i, hx, q H2 e2⟩
/-- t[lo:hi] of a tuple -/
theorem dslT (h : EvD te σ H (.tup ds)) (h1 : EvO to σ H lo) (h2 : EvO th σ H hi) : EvD (L2.tSl (rSlA K) te to th) σ H (.tup ((ds.drop (HT.sIx ds.length 0 lo)).take (HT.sIx ds.length ds.length hi - HT.sIx ds.length 0 lo))) := fun H1 e1 Q q =>
  h H1 e1 _ fun x H2 e2 ⟨a, xs, hx, hH, hl⟩ => h1 H2 (e1.trans e2) _ fun H3 e3 => h2 H3 ((e1.trans e2).trans e3) _ fun H4 e4 => by
    have hH4 := (e3.trans e4) _ _ hH
    have hl4 := hl.mono (e3.trans e4)
    refine ⟨a, xs, hx, SqT.of hH4, fun ⟨z1, z2⟩ => q _ H4 ((e2.trans e3).trans e4) (dv_tup hH4 ?_), fun _ p hp => q _ _ (((e2.trans e3).trans e4).trans (Ex.new hp)) (dv_tup upd_same ?_)⟩
    · rw [hl.len] at z1 z2
      rw [z1, z2, List.drop_zero, Nat.sub_zero, List.take_length]
      exact hl4
    · unfold cutV
      rw [hl.len]
      exact ((hl4.drop _).take _).mono (Ex.new hp)
theorem dtail {k : Nat} (h : EvD te σ H (.tup ds)) (h1 : EvD tb σ H (.int (k : Int))) : EvD (L2.tSl (rSlA K) te (tPart tb) tNoPart) σ H (.tup (ds.drop k)) := (dslT h (odI h1) eo_none).is (by
  rw [HT.sIx_nat, HT.sIx_none]
  by_cases hk : k ≤ ds.length
  · rw [Nat.min_eq_left hk, List.take_of_length_le (by rw [List.length_drop]; exact Nat.le_refl _)]
  · rw [Nat.min_eq_right (by omega), List.drop_eq_nil_of_le (Nat.le_refl _), List.drop_eq_nil_of_le (by omega), List.take_nil])
theorem dfront {k : Nat} (h : EvD te σ H (.tup ds)) (h1 : EvD tb σ H (.int (k : Int))) : EvD (L2.tSl (rSlA K) te tNoPart (tPart tb)) σ H (.tup (ds.take k)) := (dslT h eo_none (odI h1)).is (by
  rw [HT.sIx_nat, HT.sIx_none, List.drop_zero, Nat.sub_zero]
  by_cases hk : k ≤ ds.length
  · rw [Nat.min_eq_left hk]
  · rw [Nat.min_eq_right (by omega), List.take_length, List.take_of_length_le (by omega)])
theorem dmid {k l : Nat} (h : EvD te σ H (.tup ds)) (h1 : EvD tb σ H (.int (k : Int))) (h2 : EvD tc σ H (.int (l : Int))) (hk : k ≤ ds.length) (hl : l ≤ ds.length) : EvD (L2.tSl (rSlA K) te (tPart tb) (tPart tc)) σ H (.tup ((ds.drop k).take (l - k))) := (dslT h (odI h1) (odI h2)).is (by
  rw [HT.sIx_nat, HT.sIx_nat, Nat.min_eq_left hk, Nat.min_eq_left hl])
/-- a + b of tuples -/
theorem dcatT (ha : EvD ta σ H (.tup ds)) (hb : EvD tb σ H (.tup es)) (hz : ds.length + es.length ≤ 1000) : EvD (tOp (rCatA K) ta tb) σ H (.tup (ds ++ es)) := dop ha hb fun H1 _ x y ⟨a, xs, hx, hH, hl⟩ ⟨b, ys, hy, hH2, hl2⟩ Q q => by
  have l1 := hl.len
  have l2 := hl2.len
  refine ⟨a, b, xs, ys, hx, hy, SqT.of hH, SqT.of hH2, by rw [sizeLine_eq]; omega, fun e => q _ _ (Ex.refl _) ?_, fun _ e => q _ _ (Ex.refl _) ?_, fun _ _ p hp => q _ _ (Ex.new hp) (dv_tup upd_same ((hl.append hl2).mono (Ex.new hp)))⟩
  · subst e
    cases ds with
    | nil => exact dv_tup hH2 hl2
    | cons => simp at l1
  · subst e
    cases es with
    | nil => rw [List.append_nil]; exact dv_tup hH hl
    | cons => simp at l2
/-- x in ints -/
theorem inV_ints {i : Int} {ns : List Int} : inV (.int i) (ns.map V.int) = ns.contains i := by
  unfold inV
  rw [List.any_map]
  induction ns with
  | nil => rfl
  | cons n ns ih =>
    rw [List.any_cons, ih, List.contains_cons]
    congr 1
    show decide (n = i) = decide (i = n)
    exact decide_eq_decide.mpr ⟨Eq.symm, Eq.symm⟩
theorem flat_ints (ns : List Int) : (ns.map V.int).all flatV = true := by
  rw [List.all_map]
  exact List.all_eq_true.mpr fun _ _ => rfl
theorem dinT {neg : Bool} (ha : EvD ta σ H (.int i)) (hb : EvD tb σ H (lnD ns)) : EvD (tOp (rIn K neg) ta tb) σ H (.bl (if neg then !ns.contains i else ns.contains i)) := dop ha hb fun H1 _ x y hx ⟨b, ys, hy, hH2, hl2⟩ Q q => by
  rw [show x = _ from hx]
  rw [dvl_ints.mp hl2] at hH2
  exact ⟨b, _, hy, .inr (SqT.of hH2), rfl, flat_ints ns, q _ _ (Ex.refl _) (by show V.bl _ = V.bl _; rw [inV_ints])⟩
theorem dinL {neg : Bool} (ha : EvD ta σ H (.int i)) (hb : EvD tb σ H (.lst (ns.map Dat.int))) : EvD (tOp (rIn K neg) ta tb) σ H (.bl (if neg then !ns.contains i else ns.contains i)) := dop ha hb fun H1 _ x y hx ⟨b, ys, hy, hH2, hl2⟩ Q q => by
  rw [show x = _ from hx]
  rw [dvl_ints.mp hl2] at hH2
  exact ⟨b, _, hy, .inl (SqL.of hH2), rfl, flat_ints ns, q _ _ (Ex.refl _) (by show V.bl _ = V.bl _; rw [inV_ints])⟩
/-- the columns of a square -/
theorem srcZS {sq : Sq} (h : EvD te σ H (sqD sq)) (wf : Wf sq) : Src (iZipS K te) σ H ((turn sq).map lnD) := fun H1 e1 R q => h H1 e1 _ fun v H2 e2 ⟨a, xs, hv, hH, hl⟩ => by
  have key : ∀ (sq : Sq) (xs : List V), DvL H2 (sq.map lnD) xs → ∃ rows : List (Addr × List V), xs = rows.map (fun q => V.ref q.1) ∧ rows.map (·.2) = sq.map (fun r => r.map V.int) ∧ ∀ q ∈ rows, H2 q.1 = some (.tup q.2) := fun sq => by
    induction sq with
    | nil => rintro xs h; exact ⟨[], h, rfl, fun q hq => absurd hq List.not_mem_nil⟩
    | cons r sq ih =>
      rintro xs ⟨x, rest, h1, ⟨b, ys, h2, h3, h4⟩, h5⟩
      obtain ⟨rows, q1, q2, q3⟩ := ih rest h5
      refine ⟨(b, ys) :: rows, by rw [h1, h2, q1]; rfl, by rw [List.map_cons, q2, List.map_cons, dvl_ints.mp h4], fun q hq => ?_⟩
      rcases List.mem_cons.mp hq with rfl | hq
      · exact h3
      · exact q3 q hq
  obtain ⟨rows, r1, r2, r3⟩ := key sq xs hl
  have rl : rows.length = sq.length := by
    have := congrArg List.length r2
    rwa [List.length_map, List.length_map] at this
  have rm : ∀ q ∈ rows, ∃ r ∈ sq, q.2 = r.map V.int := fun q hq => by
    have : q.2 ∈ rows.map (·.2) := List.mem_map_of_mem hq
    rw [r2] at this
    obtain ⟨r, hr, e⟩ := List.mem_map.mp this
    exact ⟨r, hr, e.symm⟩
  rw [r1] at hH
  refine ⟨a, rows, wid sq, hv, SqT.of hH, ?_, by rw [rl]; exact wf.len, fun q hq => ⟨SqT.of (r3 q hq), ?_⟩, q _ H2 e2 fun H' e => ?_⟩
  · intro e
    rw [e] at rl
    exact wf.ne (List.length_eq_zero_iff.mp rl.symm)
  · obtain ⟨r, hr, e⟩ := rm q hq
    rw [e, List.length_map]
    exact wf.row r hr
  · have hr : ∀ q ∈ rows, SqT K H' q.1 q.2 := fun q hq => SqT.of (e _ _ (r3 q hq))
    refine ⟨fun i d hd => ?_, by rw [List.length_map, turn_len], hr⟩
    have hi : i < wid sq := by
      have := (List.getElem?_eq_some_iff.mp hd).1
      rwa [List.length_map, turn_len] at this
    have hd' : d = lnD (sq.map fun r => r.getD i 0) := by
      unfold turn at hd
      rw [List.getElem?_map, List.getElem?_map, List.getElem?_range hi] at hd
      exact (Option.some.inj hd).symm
    refine ⟨⟨hi, hr⟩, fun x H'' ⟨T, hx, hT, hH''⟩ => ?_⟩
    subst hH'' hd'
    refine ⟨Ex.new hT, T, _, hx, upd_same, dvl_ints.mpr ?_⟩
    have e1 : rows.map (fun q => q.2.getD i .non) = (rows.map (·.2)).map (fun l => l.getD i .non) := by rw [List.map_map]; rfl
    rw [e1, r2, List.map_map, List.map_map]
    refine List.map_congr_left fun r hr => ?_
    have hl : i < r.length := by rw [wf.row r hr]; exact hi
    simp [List.getD, List.getElem?_eq_getElem hl]
end
end Kw
namespace Kw
open PySem PySem.Spec PyProof.Rows L2 Evl
def domSquare : List Dat → Dat → Prop := fun ds d => ∃ sq, Wf sq ∧ ds = [sqD sq] ∧ d = .bl true
def domReq : List Dat → Dat → Prop := fun ds d => ∃ sq, Wf sq ∧ ds = [sqD sq] ∧ d = .non
def domLines : List Dat → Dat → Prop := fun ds d => ∃ x, ∃ n : Nat, (∃ k, x.fits k = true) ∧ ds = [x, .int (n : Int)] ∧ d = .bl (linesB x n)
theorem all_map_bl {ds : List Dat} (f : Dat → Bool) (g : Dat → Dat) (h : ∀ d ∈ ds, g d = .bl (f d)) : ds.map g = (ds.map f).map Dat.bl := by
  rw [List.map_map]
  exact List.map_congr_left h
theorem within_ints {lo hi : Int} : ∀ {ds : List Dat}, (ds.all fun x => within x lo hi) = true → ds = (ds.map intOf).map Dat.int
  | [], _ => rfl
  | d :: ds, h => by
    rw [List.all_cons, Bool.and_eq_true] at h
    rw [List.map_cons, List.map_cons, ← within_ints h.2]
    cases d with
    | int i => rfl
    | _ => exact absurd h.1 (by simp [within])
section
variable {P : Program} {w : World} {K : PySem.W.Frag} {mg : Str → Option Value} {base : Heap}
theorem ok_turned_square (T : Txt K mg) : FnOk P w K mg base CX0 1 T.a_turned_square T.d_turned_square ["square"] (SpD domTurn) := by
  refine T.F_turned_square.ok sc_turned_square (fun vs H Q E h => ?_) (fun cdv A outer s H vs Q E hr h => ?_)
  · obtain ⟨ds, d, hv, ⟨sq, wf, rfl, rfl⟩, q⟩ := h
    exact hv.len
  · obtain ⟨ds, d, hv, ⟨sq, wf, rfl, rfl⟩, q⟩ := h
    obtain ⟨v1, rfl, h1⟩ := hv.one
    refine ⟨_, (pss_one (ps_ret (pe_callTy (k_tupOf (K := K) rfl) (by rfl) T.z_tuple (by decide +kernel) (pa_cons (pe_lc (own := [("column", 1)]) rfl sc_turned_square.nd (pi_zipS rfl (by rfl) T.z_zip (pv 0)) (blkOk_by (by kernel_rfl)) (fun _ _ _ _ _ => (pg_name (i := 1) sc_turned_square.nd rfl (.inl rfl))) (fun _ _ _ _ _ => pts_nil) (fun _ _ _ _ _ => (pe_callTy (k_tupOf (K := K) rfl) (by rfl) T.z_tuple (by decide +kernel) (pa_cons (pv 1) pa_nil)))) pa_nil)))), ?_⟩
    have hw := wf.w12
    refine dS_ret (d := sqD (turn sq)) ((dtupL (nlcM (fun d => d) (srcZS (dvar rfl h1) wf) ?_ (plainL_all.mp (lns_plain (turn sq))) ?_).toD).is ?_) q
    · rw [List.length_map, turn_len]; omega
    · intro d hd x G e hx
      obtain ⟨r, hr, rfl⟩ := List.mem_map.mp hd
      exact bName ⟨rfl, dtupT (dvar rfl hx)⟩
    · rw [List.map_id']; rfl
theorem ok_is_square_table (T : Txt K mg) : FnOk P w K mg base CX0 3 T.a_is_square_table T.d_is_square_table ["value"] (SpD domSquare) := by
  have G_is_within := ok_is_within (P := P) (w := w) (base := base) T
  refine T.F_is_square_table.ok sc_is_square_table (fun vs H Q E h => ?_) (fun cdv A outer s H vs Q E hr h => ?_)
  · obtain ⟨ds, d, hv, ⟨sq, wf, rfl, rfl⟩, q⟩ := h
    exact hv.len
  · obtain ⟨ds, d, hv, ⟨sq, wf, rfl, rfl⟩, q⟩ := h
    obtain ⟨v1, rfl, h1⟩ := hv.one
    refine ⟨_, (pss_cons (ps_if (PW.pt (pw_or (pt_not (pt_val (pe_callB (k_isi (K := K) rfl) (by rfl) T.z_isinstance (by decide +kernel) (pa_cons (pv 0) (pa_cons (pe_bltn (v := .ty "tuple") (by rfl) T.z_tuple (by decide +kernel) rfl) pa_nil))))) (pw_or1 (pt_not (pt_chain op_le op_le pe_int (pe_callB (k_len (K := K) rfl) (by rfl) T.z_len (by decide +kernel) (pa_cons (pv 0) pa_nil)) (pe_glob (v := .int 12) (by rfl) T.g_MAX_LINES ⟨_, rfl⟩)))))) (pss_one (ps_ret pe_bl)) pss_nil)
      (pss_cons (ps_if (pt_not (pt_val (pe_callB (k_all (K := K) rfl rfl) (by rfl) T.z_all (by decide +kernel) (pa_cons (pe_lc (own := [("row", 1)]) rfl sc_is_square_table.nd (k_tup (K := K) rfl (pv 0)) (blkOk_by (by kernel_rfl)) (fun _ _ _ _ _ => (pg_name (i := 1) sc_is_square_table.nd rfl (.inl rfl))) (fun _ _ _ _ _ => pts_nil) (fun _ _ _ _ _ => (pe_and (pe_callB (k_isi (K := K) rfl) (by rfl) T.z_isinstance (by decide +kernel) (pa_cons (pv 1) (pa_cons (pe_bltn (v := .ty "tuple") (by rfl) T.z_tuple (by decide +kernel) rfl) pa_nil))) (pe_one (pe_chain op_le op_le pe_int (pe_callB (k_len (K := K) rfl) (by rfl) T.z_len (by decide +kernel) (pa_cons (pv 1) pa_nil)) (pe_glob (v := .int 12) (by rfl) T.g_MAX_LINES ⟨_, rfl⟩)))))) pa_nil)))) (pss_one (ps_ret pe_bl)) pss_nil)
      (pss_cons (ps_if (pt_not (pt_val (pe_callB (k_all (K := K) rfl rfl) (by rfl) T.z_all (by decide +kernel) (pa_cons (pe_lc (own := [("row", 1)]) rfl sc_is_square_table.nd (k_tup (K := K) rfl (pv 0)) (blkOk_by (by kernel_rfl)) (fun _ _ _ _ _ => (pg_name (i := 1) sc_is_square_table.nd rfl (.inl rfl))) (fun _ _ _ _ _ => pts_nil) (fun _ _ _ _ _ => (pe_cmpR op_eq (pe_callB (k_len (K := K) rfl) (by rfl) T.z_len (by decide +kernel) (pa_cons (pv 1) pa_nil)) (pe_callB (k_len (K := K) rfl) (by rfl) T.z_len (by decide +kernel) (pa_cons (pe_ix (k_ixT (K := K) rfl) (pv 0) pe_int (fun _ _ => rfl)) pa_nil)) (nomark _)))) pa_nil)))) (pss_one (ps_ret pe_bl)) pss_nil)
      (pss_one (ps_ret (pe_callB (k_all (K := K) rfl rfl) (by rfl) T.z_all (by decide +kernel) (pa_cons (pe_lc2 (own := [("row", 1), ("entry", 2)]) (vs1 := [2]) rfl sc_is_square_table.nd (k_tup (K := K) rfl (pv 0)) (blkOk_by (by kernel_rfl)) (by decide) (fun _ _ _ _ _ => (pg_name (i := 1) sc_is_square_table.nd rfl (.inl rfl))) (fun _ _ _ _ _ => pts_nil) (fun _ _ _ _ _ => (k_tup (K := K) rfl (pv 1))) (fun _ _ _ _ _ => (pg_name (i := 2) sc_is_square_table.nd rfl (.inl rfl))) (fun _ _ _ _ _ => pts_nil) (fun _ _ _ _ _ => (pe_call G_is_within (hr.mono (by omega)) (by rfl) T.g_is_within T.F_is_within.kp T.b_is_within .nil pass0 (pa_cons (pv 2) (pa_cons pe_int (pa_cons (pe_glob (v := .int 60) (by rfl) T.g_MAX_ENTRY ⟨_, rfl⟩) pa_nil)))))) pa_nil))))))), ?_⟩
    have hw := wf.w12
    have hw0 := wf.w0
    have hl := wf.len
    have hn := List.length_pos_iff.mpr wf.ne
    have r0 : sq.getD 0 [] = sq.headD [] := by cases sq <;> rfl
    have sl : (sq.map lnD).length = sq.length := by rw [List.length_map]
    refine dS_when (b := false) ((et_or (a := false) (b := false) (et_is (et_not (tst (disi_tuple (dvar rfl h1)))) rfl) fun _ => et_is (et_not (tst (dchain dint (dlenT (dvar rfl h1)) dint))) ?_)) (fun z => by cases z) fun _ H1 e1 => ?_
    · rw [sl]
      have : (1 : Int) ≤ (sq.length : Int) ∧ (sq.length : Int) ≤ 12 := by omega
      simp [this]
    refine dS_when (b := false) (et_is (et_not (tst (dall (bs := sq.map fun _ => true) ((nlcM (fun _ => .bl true) (srcT (dvar rfl (h1.mono e1))) (by rw [sl]; omega) (fun _ _ => rfl) ?_).toD.is (by simp [Function.comp_def]))))) (by simp)) (fun z => by cases z) fun _ H2 e2 => ?_
    · intro d hd x G e hx
      obtain ⟨r, hr, rfl⟩ := List.mem_map.mp hd
      refine bName ⟨rfl, (dand (disi_tuple (dvar rfl hx)) fun _ => dchain dint (dlenT (dvar rfl hx)) dint).is ?_⟩
      have := wf.row r hr
      have : (1 : Int) ≤ (r.length : Int) ∧ (r.length : Int) ≤ 12 := by omega
      rw [List.length_map]
      simp [this, lnD, Dat.isTup]
    have h2 := h1.mono (e1.trans e2)
    refine dS_when (b := false) (et_is (et_not (tst (dall (bs := sq.map fun _ => true) ((nlcM (fun _ => .bl true) (srcT (dvar rfl h2)) (by rw [sl]; omega) (fun _ _ => rfl) ?_).toD.is (by simp [Function.comp_def]))))) (by simp)) (fun z => by cases z) fun _ H3 e3 => ?_
    · intro d hd x G e hx
      obtain ⟨r, hr, rfl⟩ := List.mem_map.mp hd
      refine bName ⟨rfl, (deqI (dlenT (dvar rfl hx)) (dlenT (dRow wf (r := 0) (dvar rfl (h2.mono e)) dint ⟨by omega, by omega⟩))).is ?_⟩
      rw [List.length_map, List.length_map, show (0 : Int).toNat = 0 from rfl, r0, wf.row r hr]
      show Dat.bl (decide (_ = ((wid sq : Nat) : Int))) = _
      simp
    have h3 := h2.mono e3
    refine dS_ret (d := .bl true) ?_ (q.up ((e1.trans e2).trans e3))
    refine (dall (bs := sq.flatMap fun r => r.map fun _ => true) ((nlc2 (fun d => items d) (fun _ _ => .bl true) (srcT (dvar rfl h3)) (by rw [sl]; omega) ?_ (plainL_all.mp (lns_plain sq)) (fun _ _ _ _ => rfl) (fun _ => rfl) (fun _ _ => rfl) ?_ ?_).toD.is ?_)).is (by simp)
    · intro d hd
      obtain ⟨r, hr, rfl⟩ := List.mem_map.mp hd
      have := wf.row r hr
      simp [items, lnD]
      omega
    · intro d hd x G e hx
      obtain ⟨r, hr, rfl⟩ := List.mem_map.mp hd
      exact srcET (dvar rfl hx) (plain_ints r)
    · intro d hd d2 hd2 x y G e hx hy
      obtain ⟨r, hr, rfl⟩ := List.mem_map.mp hd
      obtain ⟨i, hi, rfl⟩ := List.mem_map.mp hd2
      refine dcallD (aC (dvar rfl hy) (aC dint (aC dint aN))) ⟨_, _, _, rfl, ?_⟩
      have := wf.ent r hr i hi
      simp [within, this]
    · simp [List.flatMap_map, List.map_flatMap, Function.comp_def, items, lnD]
theorem ok_require_square (T : Txt K mg) : FnOk P w K mg base CX0 4 T.a_require_square T.d_require_square ["value"] (SpD domReq) := by
  have G_is_square_table := ok_is_square_table (P := P) (w := w) (base := base) T
  refine T.F_require_square.ok sc_require_square (fun vs H Q E h => ?_) (fun cdv A outer s H vs Q E hr h => ?_)
  · obtain ⟨ds, d, hv, ⟨sq, wf, rfl, rfl⟩, q⟩ := h
    exact hv.len
  · obtain ⟨ds, d, hv, ⟨sq, wf, rfl, rfl⟩, q⟩ := h
    obtain ⟨v1, rfl, h1⟩ := hv.one
    refine ⟨_, (pss_one (ps_if (pt_not (pt_val (pe_call G_is_square_table (hr.mono (by omega)) (by rfl) T.g_is_square_table T.F_is_square_table.kp T.b_is_square_table .nil pass0 (pa_cons (pv 0) pa_nil)))) (pss_one ps_never) pss_nil)), ?_⟩
    refine dS_if (b := false) (et_is (et_not (tst (dcallD (aC (dvar rfl h1) aN) ⟨sq, wf, rfl, rfl⟩))) rfl) (fun z => by cases z) fun _ H1 e1 => ?_
    exact q _ _ e1 rfl
theorem ok_are_lines (T : Txt K mg) : FnOk P w K mg base CX0 3 T.a_are_lines T.d_are_lines ["value", "size"] (SpD domLines) := by
  have G_is_within := ok_is_within (P := P) (w := w) (base := base) T
  refine T.F_are_lines.ok sc_are_lines (fun vs H Q E h => ?_) (fun cdv A outer s H vs Q E hr h => ?_)
  · obtain ⟨ds, d, hv, ⟨x, n, hf, rfl, rfl⟩, q⟩ := h
    exact hv.len
  · obtain ⟨ds, d, hv, ⟨x, n, ⟨k, hf⟩, rfl, rfl⟩, q⟩ := h
    obtain ⟨v1, _, rfl, h1, hv⟩ := hv
    obtain ⟨v2, rfl, h2⟩ := hv.one
    refine ⟨_, (pss_cons (ps_if (PW.pt (pw_or (pt_not (pt_val (pe_callB (k_isi (K := K) rfl) (by rfl) T.z_isinstance (by decide +kernel) (pa_cons (pv 0) (pa_cons (pe_bltn (v := .ty "tuple") (by rfl) T.z_tuple (by decide +kernel) rfl) pa_nil))))) (pw_or (pt_cmpR (k_eqE (K := K) rfl hr.units0) (pv 0) (pe_tup pa_nil) (nomark _)) (pw_or1 (pt_not (pt_val (pe_callB (k_all (K := K) rfl rfl) (by rfl) T.z_all (by decide +kernel) (pa_cons (pe_lc (own := [("line", 2)]) rfl sc_are_lines.nd (k_tup (K := K) rfl (pv 0)) (blkOk_by (by kernel_rfl)) (fun _ _ _ _ _ => (pg_name (i := 2) sc_are_lines.nd rfl (.inl rfl))) (fun _ _ _ _ _ => pts_nil) (fun _ _ _ _ _ => (pe_call G_is_within (hr.mono (by omega)) (by rfl) T.g_is_within T.F_is_within.kp T.b_is_within .nil pass0 (pa_cons (pv 2) (pa_cons pe_int (pa_cons (pe_op op_sub (pv 1) pe_int) pa_nil)))))) pa_nil)))))))) (pss_one (ps_ret pe_bl)) pss_nil)
      (pss_one (ps_ret (pe_callB (k_all (K := K) rfl rfl) (by rfl) T.z_all (by decide +kernel) (pa_cons (pe_lc (own := [("one", 3), ("other", 4)]) rfl sc_are_lines.nd (RZ.pi_zipA (by rfl) T.z_zip (pa_cons (pv 0) (pa_cons (pe_slice (k_slT (K := K) rfl) (pv 0) (po_some pe_int) po_none) pa_nil))) (blkOk_by (by kernel_rfl)) (fun _ _ _ _ _ => (k_pgtup (K := K) (n := 2) rfl rfl (pgs_cons (pg_name (i := 3) sc_are_lines.nd rfl (.inl rfl)) (pgs_cons (pg_name (i := 4) sc_are_lines.nd rfl (.inl rfl)) pgs_nil)))) (fun _ _ _ _ _ => pts_nil) (fun _ _ _ _ _ => (pe_cmpR op_lt (pv 3) (pv 4) (nomark _)))) pa_nil))))), ?_⟩
    cases x with
    | tup xs =>
      obtain ⟨m, rfl, hl, hm⟩ := fits_tup.mp hf
      refine dS_when (et_or (et_not (tst (disi_tuple (dvar rfl h1)))) fun _ => et_or (tst (dempT (neg := false) (dvar rfl h1))) fun _ => et_not (tst (dall (bs := xs.map fun x => within x 0 ((n : Int) - 1)) ((nlcM (fun d => .bl (within d 0 ((n : Int) - 1))) (srcT (dvar rfl h1)) (by omega) (fun _ _ => rfl) fun d hd x G e hx => bName ⟨rfl, dcallD (aC (dvar rfl hx) (aC dint (aC (dsub (dvar rfl (h2.mono e)) dint) aN))) ⟨_, _, _, rfl, rfl⟩⟩).toD.is (by rw [List.map_map]; rfl))))) (fun hb H1 e1 => ?_) fun hb H1 e1 => ?_
      · refine dS_ret (d := .bl false) dbl (?_ : RetD (.bl false) H1 Q)
        have : linesB (.tup xs) n = false := by
          simp only [Dat.isTup, linesB] at hb ⊢
          rw [all_map_id] at hb
          revert hb
          cases xs.isEmpty <;> cases (xs.all fun x => within x 0 ((n : Int) - 1)) <;> simp
        rw [this] at q
        exact q.up e1
      · have hx : xs ≠ [] ∧ (xs.all fun x => within x 0 ((n : Int) - 1)) = true := by
          simp only [Dat.isTup] at hb
          rw [all_map_id] at hb
          revert hb
          cases h0 : xs.isEmpty <;> cases (xs.all fun x => within x 0 ((n : Int) - 1)) <;> simp
          simpa using h0
        have hi := within_ints hx.2
        have lB : linesB (.tup xs) n = asc (xs.map intOf) := by
          simp only [linesB]
          rw [hx.2]
          have : xs.isEmpty = false := by simpa using hx.1
          rw [this]
          rfl
        rw [lB] at q
        generalize hns : xs.map intOf = ns at hi lB q
        subst hi
        refine dS_ret (d := .bl (asc ns)) ?_ (q.up e1)
        refine (dall (bs := (ns.zip ns.tail).map fun p => decide (p.1 < p.2)) ((nlcM (fun d => .bl (decide ((intsOf d).headD 0 < (intsOf d).tail.headD 0))) (srcZ (aC (dvar rfl (h1.mono e1)) (aC (dtail (k := 1) (dvar rfl (h1.mono e1)) dint) aN))) ?_ (fun _ _ => rfl) ?_).toD.is ?_)).is ?_
        · rw [List.length_map, List.length_zip]
          omega
        · intro d hd x G e hx
          obtain ⟨p, hp, rfl⟩ := List.mem_map.mp hd
          have hp1 := (List.of_mem_zip hp).1
          have hp2 := List.mem_of_mem_drop (List.of_mem_zip hp).2
          obtain ⟨i, hi, e1⟩ := List.mem_map.mp hp1
          obtain ⟨j, hj, e2⟩ := List.mem_map.mp hp2
          rw [← e1, ← e2] at hx ⊢
          exact bTwo hx fun x1 x2 g1 g2 => ⟨rfl, dlt (dvar rfl g1) (dvar rfl g2)⟩
        · rw [List.drop_one, ← List.map_tail, List.zip_map, List.map_map, List.map_map, List.map_map]
          exact congrArg Dat.lst (List.map_congr_left fun p _ => rfl)
        · rw [all_map_id]
          rfl
    | _ =>
      refine dS_when (b := true) (et_or (a := true) (b := true) (et_is (et_not (tst (disi_tuple (dvar rfl h1)))) rfl) fun z => by cases z) (fun _ H1 e1 => ?_) fun z => by cases z
      exact dS_ret (d := .bl false) dbl (q.up e1)
theorem ok_L_lk_are_lines (T : Txt K mg) : FnOk P w K mg base CX0 3 T.a_L_lk_are_lines T.d_L_lk_are_lines ["_law_value", "_law_size"] (SpD domLines) := by
  have G_L_lk_is_within := ok_L_lk_is_within (P := P) (w := w) (base := base) T
  refine T.F_L_lk_are_lines.ok sc_L_lk_are_lines (fun vs H Q E h => ?_) (fun cdv A outer s H vs Q E hr h => ?_)
  · obtain ⟨ds, d, hv, ⟨x, n, hf, rfl, rfl⟩, q⟩ := h
    exact hv.len
  · obtain ⟨ds, d, hv, ⟨x, n, ⟨k, hf⟩, rfl, rfl⟩, q⟩ := h
    obtain ⟨v1, _, rfl, h1, hv⟩ := hv
    obtain ⟨v2, rfl, h2⟩ := hv.one
    refine ⟨_, (pss_cons (ps_if (PW.pt (pw_or (pt_not (pt_val (pe_callB (k_isi (K := K) rfl) (by rfl) T.z_isinstance (by decide +kernel) (pa_cons (pv 0) (pa_cons (pe_bltn (v := .ty "tuple") (by rfl) T.z_tuple (by decide +kernel) rfl) pa_nil))))) (pw_or (pt_cmpR (k_eqE (K := K) rfl hr.units0) (pv 0) (pe_tup pa_nil) (nomark _)) (pw_or1 (pt_cmpR (k_neE (K := K) rfl hr.units0) (pe_lc (own := [("_law_one", 2)]) rfl sc_L_lk_are_lines.nd (k_tup (K := K) rfl (pv 0)) (blkOk_by (by kernel_rfl)) (fun _ _ _ _ _ => (pg_name (i := 2) sc_L_lk_are_lines.nd rfl (.inl rfl))) (fun _ _ _ _ _ => (pts_one (pt_not (pt_val (pe_call G_L_lk_is_within (hr.mono (by omega)) (by rfl) T.g_L_lk_is_within T.F_L_lk_is_within.kp T.b_L_lk_is_within .nil pass0 (pa_cons (pv 2) (pa_cons pe_int (pa_cons (pe_op op_sub (pv 1) pe_int) pa_nil)))))))) (fun _ _ _ _ _ => (pv 2))) (pe_lst pa_nil) (nomark _)))))) (pss_one (ps_ret pe_bl)) pss_nil)
      (pss_one (ps_ret (pe_cmpR (k_eqE (K := K) rfl hr.units0) (pe_lc (own := [("_law_one", 2), ("_law_other", 3)]) rfl sc_L_lk_are_lines.nd (RZ.pi_zipA (by rfl) T.z_zip (pa_cons (pv 0) (pa_cons (pe_slice (k_slT (K := K) rfl) (pv 0) (po_some pe_int) po_none) pa_nil))) (blkOk_by (by kernel_rfl)) (fun _ _ _ _ _ => (k_pgtup (K := K) (n := 2) rfl rfl (pgs_cons (pg_name (i := 2) sc_L_lk_are_lines.nd rfl (.inl rfl)) (pgs_cons (pg_name (i := 3) sc_L_lk_are_lines.nd rfl (.inl rfl)) pgs_nil)))) (fun _ _ _ _ _ => (pts_one (pt_cmpR op_ge (pv 2) (pv 3) (nomark _)))) (fun _ _ _ _ _ => pe_int)) (pe_lst pa_nil) (nomark _))))), ?_⟩
    cases x with
    | tup xs =>
      obtain ⟨m, rfl, hl, hm⟩ := fits_tup.mp hf
      refine dS_when (et_or (et_not (tst (disi_tuple (dvar rfl h1)))) fun _ => et_or (tst (dempT (neg := false) (dvar rfl h1))) fun _ => (tst ((dempL (neg := true) (nlc (fun d => !within d 0 ((n : Int) - 1)) (fun d => d) (srcT (dvar rfl h1)) (by omega) (fun d hd _ => fits_plain (hm d hd)) fun d hd x G e hx => bName ⟨rfl, et_not (tst (dcallD (aC (dvar rfl hx) (aC dint (aC (dsub (dvar rfl (h2.mono e)) dint) aN))) ⟨_, _, _, rfl, rfl⟩)), fun _ => dvar rfl hx⟩).toD).is (e := .bl (!xs.all fun x => within x 0 ((n : Int) - 1))) ?_))) (fun hb H1 e1 => ?_) fun hb H1 e1 => ?_
      · rw [List.map_id']
        show Dat.bl (!(List.filter _ xs).isEmpty) = _
        rw [filt_none]
        simp
      · refine dS_ret (d := .bl false) dbl (?_ : RetD (.bl false) H1 Q)
        have : linesB (.tup xs) n = false := by
          simp only [Dat.isTup, linesB] at hb ⊢
          revert hb
          cases xs.isEmpty <;> cases (xs.all fun x => within x 0 ((n : Int) - 1)) <;> simp
        rw [this] at q
        exact q.up e1
      · have hx : xs ≠ [] ∧ (xs.all fun x => within x 0 ((n : Int) - 1)) = true := by
          simp only [Dat.isTup] at hb
          revert hb
          cases h0 : xs.isEmpty <;> cases (xs.all fun x => within x 0 ((n : Int) - 1)) <;> simp
          simpa using h0
        have hi := within_ints hx.2
        have lB : linesB (.tup xs) n = asc (xs.map intOf) := by
          simp only [linesB]
          rw [hx.2]
          have : xs.isEmpty = false := by simpa using hx.1
          rw [this]
          rfl
        rw [lB] at q
        generalize hns : xs.map intOf = ns at hi lB q
        subst hi
        refine dS_ret (d := .bl (asc ns)) ?_ (q.up e1)
        refine (dempL (neg := false) (nlc (fun d => decide ((intsOf d).tail.headD 0 ≤ (intsOf d).headD 0)) (fun _ => .int 1) (srcZ (aC (dvar rfl (h1.mono e1)) (aC (dtail (k := 1) (dvar rfl (h1.mono e1)) dint) aN))) ?_ (fun _ _ _ => rfl) ?_).toD).is ?_
        · rw [List.length_map, List.length_zip]
          omega
        · intro d hd x G e hx
          obtain ⟨p, hp, rfl⟩ := List.mem_map.mp hd
          have hp1 := (List.of_mem_zip hp).1
          have hp2 := List.mem_of_mem_drop (List.of_mem_zip hp).2
          obtain ⟨i, hi, e1⟩ := List.mem_map.mp hp1
          obtain ⟨j, hj, e2⟩ := List.mem_map.mp hp2
          rw [← e1, ← e2] at hx ⊢
          exact bTwo hx fun x1 x2 g1 g2 => ⟨rfl, tst (dge (dvar rfl g1) (dvar rfl g2)), fun _ => dint⟩
        · rw [List.drop_one, ← List.map_tail, List.zip_map, List.map_map, List.isEmpty_map]
          show Dat.bl (List.isEmpty _) = _
          rw [filt_none, List.all_map]
          congr 1
          unfold asc
          congr 1
          funext p
          show (!decide (p.2 ≤ p.1)) = decide (p.1 < p.2)
          by_cases h : p.1 < p.2
          · simp [h, Int.not_le.mpr h]
          · simp [h, Int.not_lt.mp h]
    | _ =>
      refine dS_when (b := true) (et_or (a := true) (b := true) (et_is (et_not (tst (disi_tuple (dvar rfl h1)))) rfl) fun z => by cases z) (fun _ H1 e1 => ?_) fun z => by cases z
      exact dS_ret (d := .bl false) dbl (q.up e1)
end

end Kw
namespace Kw
open PySem PySem.Spec PyProof.Rows L2 Evl
/-! ## lists that change: ms tells what stands in each; H0 the heap that knows none of them -/
structure MutOk (H0 H : Hp) (m : Addr × List Dat) : Prop where
  new : H0 m.1 = none
  plain : plainL m.2 = true
  at_ : ∃ xs, H m.1 = some (.lst xs) ∧ DvL H m.2 xs
structure Mut (H0 : Hp) (ms : List (Addr × List Dat)) (H : Hp) : Prop where
  ex : Ex H0 H
  nd : (ms.map (·.1)).Nodup
  ok : ∀ m ∈ ms, MutOk H0 H m
section
variable {H0 H H1 H' : Hp} {ms : List (Addr × List Dat)} {p : Addr} {ds es : List Dat} {d : Dat} {i : Nat} {xs : List V}
theorem Mut.nil : Mut H [] H := ⟨Ex.refl _, by simp, fun m hm => absurd hm List.not_mem_nil⟩
theorem Mut.on (M : Mut H0 ms H) (e : Ex H H1) : Mut H0 ms H1 := ⟨M.ex.trans e, M.nd, fun m hm => by
  obtain ⟨a, b, xs, c, d⟩ := M.ok m hm
  exact ⟨a, b, xs, e _ _ c, d.mono e⟩⟩
theorem Mut.get (M : Mut H0 ms H) (h : ms[i]? = some (p, ds)) : MutOk H0 H (p, ds) := M.ok _ (List.mem_of_getElem? h)
theorem Mut.take (M : Mut H0 ms H) (n : Nat) : Mut H0 (ms.take n) H := ⟨M.ex, by
  rw [List.map_take]
  exact (List.take_sublist _ _).nodup M.nd, fun m hm => M.ok m (List.mem_of_mem_take hm)⟩
theorem Mut.put (M : Mut H0 ms H) (h : ms[i]? = some (p, ds)) (pl : plainL es = true) (hx : DvL H es xs) : Mut H0 (ms.set i (p, es)) (upd H p (.lst xs)) := by
  obtain ⟨hi, hg⟩ := List.getElem?_eq_some_iff.mp h
  obtain ⟨a, b, ys, c, d⟩ := M.get h
  have ev : Evo H (upd H p (.lst xs)) := Evo.upd c
  refine ⟨Ex.mut M.ex a, ?_, fun m hm => ?_⟩
  · rw [List.map_set]
    have : (ms.map (·.1)).set i (p, es).1 = ms.map (·.1) := by
      refine List.ext_getElem? fun j => ?_
      rw [List.getElem?_set]
      by_cases hj : i = j
      · subst hj
        rw [if_pos rfl, if_pos (by rw [List.length_map]; exact hi), List.getElem?_map, h]
        rfl
      · rw [if_neg hj]
    rw [this]
    exact M.nd
  · obtain ⟨j, hj, e⟩ := List.mem_iff_getElem.mp hm
    rw [List.getElem_set] at e
    by_cases hij : i = j
    · rw [if_pos hij] at e
      subst e
      exact ⟨a, pl, xs, upd_same, DvL.evo ev _ pl hx⟩
    · rw [if_neg hij] at e
      rw [List.length_set] at hj
      have hm2 : m ∈ ms := by rw [← e]; exact List.getElem_mem hj
      obtain ⟨a2, b2, zs, c2, d2⟩ := M.ok m hm2
      have hne : m.1 ≠ p := by
        intro z
        have n1 := M.nd
        rw [List.nodup_iff_pairwise_ne] at n1
        rw [List.pairwise_iff_getElem] at n1
        have q1 : (ms.map (·.1))[i]'(by rw [List.length_map]; exact hi) = p := by rw [List.getElem_map, hg]
        have q2 : (ms.map (·.1))[j]'(by rw [List.length_map]; exact hj) = p := by rw [List.getElem_map, e, z]
        rcases Nat.lt_or_gt_of_ne hij with hl | hl
        · exact n1 i j _ _ hl (q1.trans q2.symm)
        · exact n1 j i _ _ hl (q2.trans q1.symm)
      exact ⟨a2, b2, zs, by rw [upd_ne hne]; exact c2, DvL.evo ev _ b2 d2⟩
theorem Mut.push (M : Mut H0 ms H) (e : Ex H H1) (hp : H p = none) (hH : H1 p = some (.lst xs)) (hl : DvL H1 ds xs) (pl : plainL ds = true) : Mut H0 (ms ++ [(p, ds)]) H1 := by
  have M1 := M.on e
  refine ⟨M1.ex, ?_, fun m hm => ?_⟩
  · rw [List.map_append, List.nodup_append]
    refine ⟨M.nd, by simp, fun a ha b hb => ?_⟩
    obtain ⟨m, hm, rfl⟩ := List.mem_map.mp ha
    simp at hb
    subst hb
    intro z
    obtain ⟨_, _, ys, c, _⟩ := M.ok m hm
    rw [z, hp] at c
    cases c
  · rcases List.mem_append.mp hm with hm | hm
    · exact M1.ok m hm
    · simp at hm
      subst hm
      exact ⟨fresh_back M.ex hp, pl, xs, hH, hl⟩
theorem Mut.dv (M : Mut H0 ms H) (h : ms[i]? = some (p, ds)) : Dv H (.lst ds) (.ref p) := by
  obtain ⟨_, _, xs, c, d⟩ := M.get h
  exact dv_lst c d
end
section
variable {K : PySem.W.Frag} {σ : L2.St} {H0 H H' : Hp} {ms : List (Addr × List Dat)} {p : Addr} {ta tb tc te tl : TE} {t u : TT} {x y z v : V} {d e : Dat} {ds es : List Dat} {b c : Bool} {i k : Nat} {aa : TA} {D : Ends} {tu tw tz : TS} {g : TG} {ns ms' : List Int}
/-- xs.append(e) -/
theorem mS_app (M : Mut H0 ms H) (hm : ms[i]? = some (p, ds)) (hk : σ[k]? = some (some (.ref p))) (h : EvD te σ H d) (pd : d.plain = true) (hz : ds.length ≤ 1000) (q : ∀ H1, Mut H0 (ms.set i (p, ds ++ [d])) H1 → Evo H H1 → D.nx σ H1) :
    tDrop (tBM K "list" rAppend (tVar k) (tCons te tNil)) D σ H := ⟨.ref p, hk, by
  obtain ⟨a, b, xs, c, l⟩ := M.get hm
  refine ⟨.inl ⟨rfl, xs, sq_of c⟩, h H (Ex.refl _) _ fun v H1 e1 hv => ⟨p, xs, v, rfl, rfl, e1 _ _ c, by rw [l.len, sizeLine_eq]; show ds.length < _; omega, ?_⟩⟩
  refine q _ ((M.on e1).put hm ?_ ((l.mono e1).append (dvl_cons hv dvl_nil))) ((Evo.of e1).trans (Evo.upd (e1 _ _ c)))
  exact plainL_all.mpr fun d' hd' => by
    rcases List.mem_append.mp hd' with h1 | h1
    · exact plainL_all.mp b _ h1
    · simp at h1
      rw [h1]
      exact pd⟩
theorem mq_app (M : Mut H0 ms H) (hm : ms[i]? = some (p, ds)) (hk : σ[k]? = some (some (.ref p))) (h : EvD te σ H d) (pd : d.plain = true) (hz : ds.length ≤ 1000) (q : ∀ H1, Mut H0 (ms.set i (p, ds ++ [d])) H1 → Evo H H1 → tz D σ H1) :
    tSeq (tDrop (tBM K "list" rAppend (tVar k) (tCons te tNil))) tz D σ H := mS_app (D := { D with nx := tz D }) M hm hk h pd hz q
/-- xs.extend(a new list) -/
theorem mS_ext (M : Mut H0 ms H) (hm : ms[i]? = some (p, ds)) (hk : σ[k]? = some (some (.ref p))) (h : EvN te σ H es) (pd : plainL es = true) (hz : ds.length ≤ 1000) (hz2 : es.length ≤ 1000) (q : ∀ H1, Mut H0 (ms.set i (p, ds ++ es)) H1 → Evo H H1 → D.nx σ H1) :
    tDrop (tBM K "list" rExtend (tVar k) (tCons te tNil)) D σ H := ⟨.ref p, hk, by
  obtain ⟨a, b, xs, c, l⟩ := M.get hm
  refine ⟨.inl ⟨rfl, xs, sq_of c⟩, h H (Ex.refl _) _ fun r ys H1 hr e1 hH hl => ⟨p, r, xs, ys, rfl, rfl, e1 _ _ c, hH, by rw [l.len, hl.len, sizeLine_eq]; show ds.length + es.length ≤ _; omega, ?_⟩⟩
  refine q _ ((M.on e1).put hm ?_ ((l.mono e1).append hl)) ((Evo.of e1).trans (Evo.upd (e1 _ _ c)))
  exact plainL_all.mpr fun d' hd' => by
    rcases List.mem_append.mp hd' with h1 | h1
    · exact plainL_all.mp b _ h1
    · exact plainL_all.mp pd _ h1⟩
theorem mq_ext (M : Mut H0 ms H) (hm : ms[i]? = some (p, ds)) (hk : σ[k]? = some (some (.ref p))) (h : EvN te σ H es) (pd : plainL es = true) (hz : ds.length ≤ 1000) (hz2 : es.length ≤ 1000) (q : ∀ H1, Mut H0 (ms.set i (p, ds ++ es)) H1 → Evo H H1 → tz D σ H1) :
    tSeq (tDrop (tBM K "list" rExtend (tVar k) (tCons te tNil))) tz D σ H := mS_ext (D := { D with nx := tz D }) M hm hk h pd hz hz2 q
/-- xs.remove(x), ints -/
theorem mS_rem {as bs : List Int} {n : Int} (M : Mut H0 ms H) (hm : ms[i]? = some (p, (as ++ n :: bs).map Dat.int)) (hk : σ[k]? = some (some (.ref p))) (h : EvD te σ H (.int n)) (hn : n ∉ as) (q : ∀ H1, Mut H0 (ms.set i (p, (as ++ bs).map Dat.int)) H1 → Evo H H1 → D.nx σ H1) :
    tDrop (tBM K "list" rRemI (tVar k) (tCons te tNil)) D σ H := ⟨.ref p, hk, by
  obtain ⟨a, b, xs, c, l⟩ := M.get hm
  refine ⟨.inl ⟨rfl, xs, sq_of c⟩, h H (Ex.refl _) _ fun v H1 e1 hv => ?_⟩
  have l' := dvl_ints.mp l
  subst l'
  refine ⟨p, as ++ n :: bs, n, as.length, rfl, by rw [show v = _ from hv], e1 _ _ c, by simp, fun m hmm => ?_, ?_⟩
  · rw [List.getElem?_append_left hmm]
    intro z
    exact hn (List.mem_of_getElem? z)
  · have e2 : (as ++ n :: bs).eraseIdx as.length = as ++ bs := by
      rw [List.eraseIdx_append_of_length_le (Nat.le_refl _), Nat.sub_self]
      rfl
    rw [e2]
    exact q _ ((M.on e1).put hm (plain_ints _) (dvl_ints.mpr rfl)) ((Evo.of e1).trans (Evo.upd (e1 _ _ c)))⟩
theorem mq_rem {as bs : List Int} {n : Int} (M : Mut H0 ms H) (hm : ms[i]? = some (p, (as ++ n :: bs).map Dat.int)) (hk : σ[k]? = some (some (.ref p))) (h : EvD te σ H (.int n)) (hn : n ∉ as) (q : ∀ H1, Mut H0 (ms.set i (p, (as ++ bs).map Dat.int)) H1 → Evo H H1 → tz D σ H1) :
    tSeq (tDrop (tBM K "list" rRemI (tVar k) (tCons te tNil))) tz D σ H := mS_rem (D := { D with nx := tz D }) M hm hk h hn q
/-- xs.pop() -/
theorem mv_pop {Q : VK} (M : Mut H0 ms H) (hm : ms[i]? = some (p, ds ++ [d])) (hk : σ[k]? = some (some (.ref p))) (q : ∀ v H1, Mut H0 (ms.set i (p, ds)) H1 → Evo H H1 → Dv H1 d v → Q v H1) : tBM0 K "list" rPop (tVar k) σ H Q := ⟨.ref p, hk, by
  obtain ⟨a, b, xs, c, l⟩ := M.get hm
  have ll := l.len
  simp only [List.length_append, List.length_cons, List.length_nil] at ll
  obtain ⟨v, hv, hd⟩ := l.get (i := ds.length) (d := d) (by simp)
  have ev : Evo H (upd H p (.lst xs.dropLast)) := Evo.upd c
  have pl := plainL_all.mp b
  refine ⟨.inl ⟨rfl, xs, sq_of c⟩, p, xs, v, rfl, rfl, c, ?_, q _ _ (M.put hm ?_ ?_) ev (Dv.evo ev _ (pl d (by simp)) hd)⟩
  · rw [show xs.length - 1 = ds.length by omega]
    exact hv
  · exact plainL_all.mpr fun d' hd' => pl d' (List.mem_append_left _ hd')
  · have := l.take ds.length
    rw [List.dropLast_eq_take, show xs.length - 1 = ds.length by omega]
    rwa [List.take_left] at this⟩
/-- xs.pop(0) -/
theorem mv_pop0 {Q : VK} (M : Mut H0 ms H) (hm : ms[i]? = some (p, d :: ds)) (hk : σ[k]? = some (some (.ref p))) (q : ∀ v H1, Mut H0 (ms.set i (p, ds)) H1 → Evo H H1 → Dv H1 d v → Q v H1) : tBM K "list" rPopAt (tVar k) (tCons (tC (.int 0)) tNil) σ H Q := ⟨.ref p, hk, by
  obtain ⟨a, b, xs, c, v, r, hx, hd, hr⟩ := M.get hm
  subst hx
  have ev : Evo H (upd H p (.lst r)) := Evo.upd c
  have pl := plainL_all.mp b
  exact ⟨.inl ⟨rfl, _, sq_of c⟩, p, v :: r, 0, 0, v, rfl, rfl, c, by decide, by decide, by unfold seqIndex?; simp, rfl, q _ _ (M.put hm (plainL_all.mpr fun d' hd' => pl d' (List.mem_cons_of_mem _ hd')) hr) ev (Dv.evo ev _ (pl d (by simp)) hd)⟩⟩
/-- a walk over a new list, while others change -/
theorem mS_for (P : Addr → Nat → L2.St → Hp → Prop) (hs : EvN te σ H ds) (h0 : ∀ p xs H1, H p = none → Ex H H1 → H1 p = some (.lst xs) → DvL H1 ds xs → P p 0 σ H1)
    (hM : ∀ p i σ' H', P p i σ' H' → ∃ xs, H' p = some (.lst xs) ∧ DvL H' ds xs)
    (hb : ∀ p i (hi : i < ds.length) σ' H', P p i σ' H' → ∀ x, Dv H' ds[i] x → Bind g x σ' H' fun σ2 => tu { D with nx := P p (i + 1), ct := P p (i + 1), bk := D.nx } σ2 H')
    (hd : ∀ p σ' H', P p ds.length σ' H' → D.nx σ' H') : tFor (iList K te) g tu D σ H := hs H (Ex.refl H) _ fun p xs H2 hp e2 hH hl => by
  refine ⟨p, rfl, ⟨xs, SqL.of hH⟩, fun i m σ' H' => m = ds.length - i ∧ i ≤ ds.length ∧ P p i σ' H', ⟨ds.length, by omega, Nat.zero_le _, h0 p xs H2 hp e2 hH hl⟩, ?_⟩
  rintro i m σ' H' ⟨rfl, hi, hP⟩
  obtain ⟨ys, hY, lY⟩ := hM p i σ' H' hP
  have hS : SqL K H' p ys := SqL.of hY
  by_cases hlt : i < ds.length
  · obtain ⟨x0, hx0, hd0⟩ := lY.get (List.getElem?_eq_getElem hlt)
    refine .inr ⟨⟨ys, x0, hS, hx0⟩, P p (i + 1), fun σ3 H3 hn => ⟨ds.length - (i + 1), by omega, rfl, hlt, hn⟩, fun x H'' ⟨e3, hy⟩ => ?_⟩
    subst e3
    have := hy ys hS
    rw [hx0] at this
    cases this
    exact hb p i hlt σ' _ hP x0 hd0 _ fun σ2 h => h
  · have e : i = ds.length := by omega
    subst e
    exact .inl ⟨⟨ys, hS, by rw [lY.len]; exact Nat.le_refl _⟩, hd p σ' H' hP⟩
/-- sorted(..) of ints -/
theorem nsorted (h : EvD te σ H (.lst (ns.map Dat.int))) (hp : ms'.Perm ns) (hs : ms'.Pairwise (· ≤ ·)) : EvN (tCB (rSortedI K) (tCons te tNil)) σ H (ms'.map Dat.int) := fun H1 e1 Q q => h H1 e1 _ fun x H2 e2 ⟨a, xs, hx, hH, hl⟩ => by
  rw [dvl_ints.mp hl] at hH
  refine ⟨a, ns, by rw [hx], SqL.of hH, fun ns' p hperm hsort hp' => ?_⟩
  have e : ns' = ms' := List.Perm.eq_of_pairwise (fun a b _ _ h1 h2 => Int.le_antisymm h1 h2) hsort hs (hperm.trans hp.symm)
  subst e
  exact q p _ _ (fresh_back e2 hp') (e2.trans (Ex.new hp')) upd_same (dvl_ints.mpr rfl)
theorem nnil : EvN (tLst tNil) σ H [] := nlst aN (by decide)
/-- several new lists at once -/
theorem mS_par3 {d1 d2 d3 : List Dat} {t1 t2 t3 : TE} {i j l : Nat} (M : Mut H0 ms H) (h1 : EvN t1 σ H d1) (h2 : EvN t2 σ H d2) (h3 : EvN t3 σ H d3) (p1 : plainL d1 = true) (p2 : plainL d2 = true) (p3 : plainL d3 = true)
    (q : ∀ a b c H1, Mut H0 (ms ++ [(a, d1)] ++ [(b, d2)] ++ [(c, d3)]) H1 → D.nx (((σ.set i (some (.ref a))).set j (some (.ref b))).set l (some (.ref c))) H1) : tPar3 i j l (tCons t1 (tCons t2 (tCons t3 tNil))) D σ H :=
  h1 H (Ex.refl _) _ fun a xs H1 ha e1 hA lA => h2 H1 e1 _ fun b ys H2 hb e2 hB lB => h3 H2 (e1.trans e2) _ fun c zs H3 hc e3 hC lC =>
    ⟨.ref a, .ref b, .ref c, rfl, q a b c H3 (((M.push e1 ha hA lA p1).push e2 hb hB lB p2).push e3 hc hC lC p3)⟩
theorem mS_par2 {d1 d2 : List Dat} {t1 t2 : TE} {i j : Nat} (M : Mut H0 ms H) (h1 : EvN t1 σ H d1) (h2 : EvN t2 σ H d2) (p1 : plainL d1 = true) (p2 : plainL d2 = true)
    (q : ∀ a b H1, Mut H0 (ms ++ [(a, d1)] ++ [(b, d2)]) H1 → D.nx ((σ.set i (some (.ref a))).set j (some (.ref b))) H1) : tPar i j (tCons t1 (tCons t2 tNil)) D σ H :=
  h1 H (Ex.refl _) _ fun a xs H1 ha e1 hA lA => h2 H1 e1 _ fun b ys H2 hb e2 hB lB =>
    ⟨.ref a, .ref b, rfl, q a b H2 ((M.push e1 ha hA lA p1).push e2 hb hB lB p2)⟩
theorem mS_two {d1 d2 : List Dat} {t1 t2 : TE} {i j : Nat} (M : Mut H0 ms H) (h1 : EvN t1 σ H d1) (h2 : EvN t2 σ H d2) (p1 : plainL d1 = true) (p2 : plainL d2 = true)
    (q : ∀ a b H1, Mut H0 (ms ++ [(a, d1)] ++ [(b, d2)]) H1 → D.nx ((σ.set i (some (.ref a))).set j (some (.ref b))) H1) : tAsg (tTup (tCons t1 (tCons t2 tNil))) (gTup K 2 (gCons (gName i) (gCons (gName j) gNil))) D σ H :=
  h1 H (Ex.refl _) _ fun a xs H1 ha e1 hA lA => h2 H1 e1 _ fun b ys H2 hb e2 hB lB =>
    ⟨by show 2 ≤ sizeLine; rw [sizeLine_eq]; omega, fun p hp => ⟨p, _, rfl, SqT.of upd_same, rfl, _, _, rfl, _, _, rfl, rfl, q a b _ (((M.push e1 ha hA lA p1).push e2 hb hB lB p2).on (Ex.new hp))⟩⟩
theorem mq_par3 {d1 d2 d3 : List Dat} {t1 t2 t3 : TE} {i j l : Nat} (M : Mut H0 ms H) (h1 : EvN t1 σ H d1) (h2 : EvN t2 σ H d2) (h3 : EvN t3 σ H d3) (p1 : plainL d1 = true) (p2 : plainL d2 = true) (p3 : plainL d3 = true)
    (q : ∀ a b c H1, Mut H0 (ms ++ [(a, d1)] ++ [(b, d2)] ++ [(c, d3)]) H1 → tz D (((σ.set i (some (.ref a))).set j (some (.ref b))).set l (some (.ref c))) H1) : tSeq (tPar3 i j l (tCons t1 (tCons t2 (tCons t3 tNil)))) tz D σ H :=
  mS_par3 (D := { D with nx := tz D }) M h1 h2 h3 p1 p2 p3 q
theorem mq_par2 {d1 d2 : List Dat} {t1 t2 : TE} {i j : Nat} (M : Mut H0 ms H) (h1 : EvN t1 σ H d1) (h2 : EvN t2 σ H d2) (p1 : plainL d1 = true) (p2 : plainL d2 = true)
    (q : ∀ a b H1, Mut H0 (ms ++ [(a, d1)] ++ [(b, d2)]) H1 → tz D ((σ.set i (some (.ref a))).set j (some (.ref b))) H1) : tSeq (tPar i j (tCons t1 (tCons t2 tNil))) tz D σ H :=
  mS_par2 (D := { D with nx := tz D }) M h1 h2 p1 p2 q
theorem mq_two {d1 d2 : List Dat} {t1 t2 : TE} {i j : Nat} (M : Mut H0 ms H) (h1 : EvN t1 σ H d1) (h2 : EvN t2 σ H d2) (p1 : plainL d1 = true) (p2 : plainL d2 = true)
    (q : ∀ a b H1, Mut H0 (ms ++ [(a, d1)] ++ [(b, d2)]) H1 → tz D ((σ.set i (some (.ref a))).set j (some (.ref b))) H1) : tSeq (tAsg (tTup (tCons t1 (tCons t2 tNil))) (gTup K 2 (gCons (gName i) (gCons (gName j) gNil)))) tz D σ H :=
  mS_two (D := { D with nx := tz D }) M h1 h2 p1 p2 q
/-- a new list into a name -/
theorem mq_new {j : Nat} (M : Mut H0 ms H) (h : EvN te σ H ds) (pl : plainL ds = true) (q : ∀ a H1, Mut H0 (ms ++ [(a, ds)]) H1 → tz D (σ.set j (some (.ref a))) H1) : tSeq (tAsg te (gName j)) tz D σ H :=
  h H (Ex.refl _) _ fun a xs H1 ha e1 hA lA => q a H1 (M.push e1 ha hA lA pl)
theorem mS_new {j : Nat} (M : Mut H0 ms H) (h : EvN te σ H ds) (pl : plainL ds = true) (q : ∀ a H1, Mut H0 (ms ++ [(a, ds)]) H1 → D.nx (σ.set j (some (.ref a))) H1) : tAsg te (gName j) D σ H :=
  h H (Ex.refl _) _ fun a xs H1 ha e1 hA lA => q a H1 (M.push e1 ha hA lA pl)
theorem mq_for (P : Addr → Nat → L2.St → Hp → Prop) (hs : EvN te σ H ds) (h0 : ∀ p xs H1, H p = none → Ex H H1 → H1 p = some (.lst xs) → DvL H1 ds xs → P p 0 σ H1)
    (hM : ∀ p i σ' H', P p i σ' H' → ∃ xs, H' p = some (.lst xs) ∧ DvL H' ds xs)
    (hb : ∀ p i (hi : i < ds.length) σ' H', P p i σ' H' → ∀ x, Dv H' ds[i] x → Bind g x σ' H' fun σ2 => tu { D with nx := P p (i + 1), ct := P p (i + 1), bk := tz D } σ2 H')
    (hd : ∀ p σ' H', P p ds.length σ' H' → tz D σ' H') : tSeq (tFor (iList K te) g tu) tz D σ H := mS_for (D := { D with nx := tz D }) P hs h0 hM hb hd
end
end Kw
namespace Kw
open PySem
section
variable {e : En} {cols : List Int}
theorem dfs_nil (n : Nat) (left here : List Int) (ls : Lks) : dfs e cols n left [] here ls = (left, here, ls) := by cases n <;> rfl
theorem dfs_snoc (n : Nat) (left f here : List Int) (r : Int) (ls : Lks) : dfs e cols (n + 1) left (f ++ [r]) here ls = dfs e cols n (left.filter fun o => !lkB e cols r o) (f ++ left.filter fun o => lkB e cols r o) (here ++ [r])
        (ls ++ (left.filter fun o => lkB e cols r o).map fun o => (r, o, lkC e cols r o)) := by
  rw [dfs, List.getLast?_concat]
  simp only [List.dropLast_concat]
theorem snoc_of {α : Type} (l : List α) (h : l ≠ []) : ∃ f r, l = f ++ [r] := ⟨l.dropLast, l.getLast h, (List.dropLast_concat_getLast h).symm⟩
theorem dfs_ls : ∀ (n : Nat) (left fresh here : List Int) (ls : Lks), dfs e cols n left fresh here ls = ((dfs e cols n left fresh here []).1, (dfs e cols n left fresh here []).2.1, ls ++ (dfs e cols n left fresh here []).2.2)
  | 0, left, fresh, here, ls => by simp [dfs]
  | n + 1, left, fresh, here, ls => by
    by_cases h : fresh = []
    · subst h
      rw [dfs_nil, dfs_nil]
      simp
    · obtain ⟨f, r, rfl⟩ := snoc_of fresh h
      rw [dfs_snoc, dfs_snoc, dfs_ls n _ _ _ (ls ++ _), dfs_ls n _ _ _ ([] ++ _)]
      simp
theorem dfs_sub : ∀ (n : Nat) (left fresh here : List Int) (ls : Lks), (dfs e cols n left fresh here ls).1.Sublist left
  | 0, left, fresh, here, ls => List.Sublist.refl _
  | n + 1, left, fresh, here, ls => by
    by_cases h : fresh = []
    · subst h
      rw [dfs_nil]
      exact List.Sublist.refl _
    · obtain ⟨f, r, rfl⟩ := snoc_of fresh h
      rw [dfs_snoc]
      exact (dfs_sub n _ _ _ _).trans List.filter_sublist
theorem cut_len (left : List Int) (p : Int → Bool) : (left.filter fun o => !p o).length + (left.filter p).length = left.length := by
  have := (List.filter_append_perm p left).length_eq
  rw [List.length_append] at this
  omega
theorem dfs_perm : ∀ (n : Nat) (left fresh here : List Int) (ls : Lks), left.length + fresh.length ≤ n → ((dfs e cols n left fresh here ls).1 ++ (dfs e cols n left fresh here ls).2.1).Perm (left ++ fresh ++ here)
  | 0, left, fresh, here, ls, h => by
    have h2 : fresh = [] := List.length_eq_zero_iff.mp (by omega)
    subst h2
    simp [dfs]
  | n + 1, left, fresh, here, ls, h => by
    by_cases hf : fresh = []
    · subst hf
      rw [dfs_nil]
      simp
    · obtain ⟨f, r, rfl⟩ := snoc_of fresh hf
      rw [dfs_snoc]
      refine (dfs_perm n _ _ _ _ ?_).trans ?_
      · have := cut_len left (fun o => lkB e cols r o)
        simp only [List.length_append, List.length_cons, List.length_nil] at h ⊢
        omega
      · have hp := List.filter_append_perm (fun o => lkB e cols r o) left
        refine List.perm_iff_count.mpr fun a => ?_
        have hc := List.perm_iff_count.mp hp a
        simp only [List.count_append] at hc ⊢
        omega
theorem dfs_len (n : Nat) (left fresh here : List Int) (ls : Lks) : (dfs e cols n left fresh here ls).1.length ≤ left.length := (dfs_sub n left fresh here ls).length_le
/-- what is in here, in the order of what there was -/
theorem dfs_class {x : Int} {left : List Int} (ha : (x :: left).Pairwise (· < ·)) : ((x :: left).filter fun o => (dfs e cols (left.length + 1) left [x] [] []).2.1.contains o).Perm (dfs e cols (left.length + 1) left [x] [] []).2.1 := by
  have hp := dfs_perm (e := e) (cols := cols) (left.length + 1) left [x] [] [] (by simp)
  rw [List.append_nil] at hp
  have hp2 : (dfs e cols (left.length + 1) left [x] [] []).1 ++ (dfs e cols (left.length + 1) left [x] [] []).2.1 |>.Perm (x :: left) := hp.trans (List.perm_append_comm.trans (by simp))
  have nd : (x :: left).Nodup := ha.imp fun h => by omega
  have nd2 := hp2.nodup_iff.mpr nd
  refine ((hp2.symm).filter _).trans ?_
  rw [List.filter_append]
  have n1 := (List.nodup_append.mp nd2).2.2
  have e1 : (dfs e cols (left.length + 1) left [x] [] []).1.filter (fun o => (dfs e cols (left.length + 1) left [x] [] []).2.1.contains o) = [] := by
    rw [List.filter_eq_nil_iff]
    intro a ha hc
    exact n1 a ha a (List.contains_iff_mem.mp hc) rfl
  have e2 : (dfs e cols (left.length + 1) left [x] [] []).2.1.filter (fun o => (dfs e cols (left.length + 1) left [x] [] []).2.1.contains o) = (dfs e cols (left.length + 1) left [x] [] []).2.1 := by
    rw [List.filter_eq_self]
    intro a ha
    exact List.contains_iff_mem.mpr ha
  rw [e1, e2, List.nil_append]
theorem cls_nil (n : Nat) : cls e cols n [] = ([], []) := by cases n <;> rfl
theorem cls_cons (n : Nat) (x : Int) (left : List Int) : cls e cols (n + 1) (x :: left) = ((x :: left).filter (fun o => (dfs e cols (left.length + 1) left [x] [] []).2.1.contains o) :: (cls e cols n (dfs e cols (left.length + 1) left [x] [] []).1).1,
    (dfs e cols (left.length + 1) left [x] [] []).2.2 ++ (cls e cols n (dfs e cols (left.length + 1) left [x] [] []).1).2) := rfl
end
end Kw
namespace Kw
open PySem PySem.Spec PyProof.Rows L2 Evl
def Dat.isNon : Dat → Bool
  | .non => true
  | _ => false
theorem isNon_of {H : Hp} {d : Dat} {x : V} (h : Dv H d x) : decide (x = .non) = d.isNon := by
  cases d with
  | non => rw [show x = _ from h]; rfl
  | bl b => rw [show x = _ from h]; rfl
  | int i => rw [show x = _ from h]; rfl
  | str s => rw [show x = _ from h]; rfl
  | tup ds => obtain ⟨a, xs, rfl, hH, _⟩ := h; rfl
  | lst ds => obtain ⟨a, xs, rfl, hH, _⟩ := h; rfl
  | opq => obtain ⟨a, xs, rfl, hH⟩ := h; rfl
def domClasses : List Dat → Dat → Prop := fun ds d => ∃ sq rows cols, Wf sq ∧ Ln sq.length rows ∧ Ln (wid sq) cols ∧ ds = [sqD sq, lnD rows, lnD cols] ∧ d = .tup [.lst ((classes (ent sq) cols rows).map lnD), .lst ((links (ent sq) cols rows).map lkD)]
section
variable {K : PySem.W.Frag} {σ : L2.St} {H0 H H' : Hp} {ms : List (Addr × List Dat)} {p : Addr} {ta te : TE} {d : Dat} {ds : List Dat} {i j k : Nat} {D : Ends} {tz : TS}
theorem dnotN (ha : EvD ta σ H d) : EvD (tOp (fun x y H Q => y = .non ∧ Q (.bl (!decide (x = .non))) H) ta (tC .non)) σ H (.bl (!d.isNon)) := dop ha dnon fun H1 _ x y hx hy Q q =>
  ⟨hy, q _ _ (Ex.refl _) (by rw [isNon_of hx]; rfl)⟩
theorem mq_pop0L (M : Mut H0 ms H) (hm : ms[i]? = some (p, d :: ds)) (hk : σ[k]? = some (some (.ref p))) (q : ∀ a H1, Mut H0 (ms.set i (p, ds) ++ [(a, [d])]) H1 → tz D (σ.set j (some (.ref a))) H1) :
    tSeq (tAsg (tLst (tCons (tBM K "list" rPopAt (tVar k) (tCons (tC (.int 0)) tNil)) tNil)) (gName j)) tz D σ H := mv_pop0 M hm hk fun v H1 M1 _ hv => ⟨by show 1 ≤ sizeLine; rw [sizeLine_eq]; omega, fun a ha => q a _ (M1.push (Ex.new ha) ha upd_same (dvl_cons (hv.mono (Ex.new ha)) dvl_nil) (plainL_all.mpr fun d' hd' => by
      simp at hd'
      subst hd'
      exact plainL_all.mp (M.get hm).plain _ (by simp)))⟩
theorem mq_popV (M : Mut H0 ms H) (hm : ms[i]? = some (p, ds ++ [d])) (hk : σ[k]? = some (some (.ref p))) (q : ∀ v H1, Mut H0 (ms.set i (p, ds)) H1 → Dv H1 d v → tz D (σ.set j (some v)) H1) :
    tSeq (tAsg (tBM0 K "list" rPop (tVar k)) (gName j)) tz D σ H := mv_pop M hm hk fun v H1 M1 _ hv => q v H1 M1 hv
end
theorem lkD_plain (l : Int × Int × Int) : (lkD l).plain = true := rfl
theorem lks_plain (ls : Lks) : plainL (ls.map lkD) = true := plainL_all.mpr fun d hd => by
  obtain ⟨n, _, rfl⟩ := List.mem_map.mp hd
  rfl
section
variable {P : Program} {w : World} {K : PySem.W.Frag} {mg : Str → Option Value} {base : Heap}
theorem ok_classes_of (T : Txt K mg) : FnOk P w K mg base CX0 2 T.a_classes_of T.d_classes_of ["square", "rows", "columns"] (SpD domClasses) := by
  have G_link_of := ok_link_of (P := P) (w := w) (base := base) T
  refine T.F_classes_of.ok sc_classes_of (fun vs H Q E h => ?_) (fun cdv A outer s H vs Q E hr h => ?_)
  · obtain ⟨ds, d, hv, ⟨sq, rows, cols, wf, lr, lc, rfl, rfl⟩, q⟩ := h
    exact hv.len
  · obtain ⟨ds, d, hv, ⟨sq, rows, cols, wf, lr, lc, rfl, rfl⟩, q⟩ := h
    obtain ⟨v1, _, rfl, h1, v2, _, rfl, h2, hv⟩ := hv
    obtain ⟨v3, rfl, h3⟩ := hv.one
    refine ⟨_, (pss_cons (ps_par3 (i := 3) (j := 4) (l := 5) rfl sc_classes_of.nd rfl rfl rfl (by decide) (by decide) (by decide) rfl rfl rfl (pa_cons (pe_callTy (k_listOf (K := K) rfl) (by rfl) T.z_list (by decide +kernel) (pa_cons (pv 1) pa_nil)) (pa_cons (pe_lst pa_nil) (pa_cons (pe_lst pa_nil) pa_nil))) (by rfl))
      (pss_cons (ps_while PassesOwn.never (pt_cmpR (k_neE (K := K) rfl hr.units0) (pv 3) (pe_lst pa_nil) (nomark _)) (pss_cons (ps_set (i := 6) sc_classes_of.nd rfl (.inl rfl) (pe_lst (pa_cons (pe_bm PySem.F.plainAttrs_list PySem.F.slot_list_pop PySem.F.type_list_pop mt_popAt (pv 3) (pa_cons pe_int pa_nil)) pa_nil)))
      (pss_cons (ps_set (i := 7) sc_classes_of.nd rfl (.inl rfl) (pe_lst pa_nil))
      (pss_cons (ps_while PassesOwn.never (pt_cmpR (k_neE (K := K) rfl hr.units0) (pv 6) (pe_lst pa_nil) (nomark _)) (pss_cons (ps_set (i := 8) sc_classes_of.nd rfl (.inl rfl) (pe_bm0 PySem.F.plainAttrs_list PySem.F.slot_list_pop PySem.F.type_list_pop mt_pop (pv 6)))
      (pss_cons (ps_expr (pe_bm PySem.F.plainAttrs_list PySem.F.slot_list_append PySem.F.type_list_append mt_append (pv 7) (pa_cons (pv 8) pa_nil)))
      (pss_one (ps_for PassesOwn.never rfl (k_list (K := K) rfl (pe_callTy (k_listOf (K := K) rfl) (by rfl) T.z_list (by decide +kernel) (pa_cons (pv 3) pa_nil))) (pg_name (i := 9) sc_classes_of.nd rfl (.inl rfl)) (pss_cons (ps_set (i := 10) sc_classes_of.nd rfl (.inl rfl) (pe_call G_link_of (hr.mono (by omega)) (by rfl) T.g_link_of T.F_link_of.kp T.b_link_of .nil pass0 (pa_cons (pv 0) (pa_cons (pv 8) (pa_cons (pv 9) (pa_cons (pv 2) pa_nil))))))
      (pss_one (ps_if (pt_cmpR op_notN (pv 10) pe_non (nomark _)) (pss_cons (ps_expr (pe_bm PySem.F.plainAttrs_list PySem.F.slot_list_remove PySem.F.type_list_remove mt_remove (pv 3) (pa_cons (pv 9) pa_nil)))
      (pss_cons (ps_expr (pe_bm PySem.F.plainAttrs_list PySem.F.slot_list_append PySem.F.type_list_append mt_append (pv 6) (pa_cons (pv 9) pa_nil)))
      (pss_one (ps_expr (pe_bm PySem.F.plainAttrs_list PySem.F.slot_list_append PySem.F.type_list_append mt_append (pv 5) (pa_cons (pv 10) pa_nil)))))) pss_nil))))))))
      (pss_one (ps_expr (pe_bm PySem.F.plainAttrs_list PySem.F.slot_list_append PySem.F.type_list_append mt_append (pv 4) (pa_cons (pe_callTy (k_tupOf (K := K) rfl) (by rfl) T.z_tuple (by decide +kernel) (pa_cons (pe_callB (k_sorted (K := K) rfl) (by rfl) T.z_sorted (by decide +kernel) (pa_cons (pv 7) pa_nil)) pa_nil)) pa_nil))))))))
      (pss_one (ps_ret (pe_tup (pa_cons (pv 4) (pa_cons (pv 5) pa_nil))))))), ?_⟩
    have r12 := lr.nat12 wf.len
    have nd : rows.Nodup := lr.asc.imp fun h => by omega
    refine mq_par3 Mut.nil (nlistT (dvar rfl h2)) nnil nnil (plain_ints _) rfl rfl fun l f k H1 M1 => ?_
    refine q_while (fun m σ' H' => ∃ (L : List Int) (C : List (List Int)) (Ls : Lks) (o6 o7 o8 o9 o10 : Option V), Mut H [(l, L.map Dat.int), (f, C.map lnD), (k, Ls.map lkD)] H' ∧ σ' = [some v1, some v2, some v3, some (.ref l), some (.ref f), some (.ref k), o6, o7, o8, o9, o10] ∧
      L.Sublist rows ∧ L.length ≤ m ∧ C.length + L.length ≤ 12 ∧ Ls.length + L.length ≤ 12 ∧ C ++ (cls (ent sq) cols m L).1 = classes (ent sq) cols rows ∧ Ls ++ (cls (ent sq) cols m L).2 = links (ent sq) cols rows) rows.length
      ⟨rows, [], [], none, none, none, none, none, M1, rfl, List.Sublist.refl _, Nat.le_refl _, by simpa using r12, by simpa using r12, rfl, rfl⟩ ?_
    rintro m σ' H' ⟨L, C, Ls, o6, o7, o8, o9, o10, M, rfl, sub, hm, b1, b2, e1, e2⟩
    refine ⟨!L.isEmpty, tst ((dempL (neg := true) (dvar rfl (M.dv (i := 0) rfl))).is (by rw [List.isEmpty_map]; rfl)), fun hb G1 x1 => ?_, fun hb G1 x1 => ?_⟩
    · cases L with
      | nil => cases hb
      | cons x left =>
        obtain ⟨m, rfl⟩ : ∃ m', m = m' + 1 := ⟨m - 1, by simp at hm; omega⟩
        rw [cls_cons] at e1 e2
        have M2 := M.on x1
        refine ⟨fun σ2 H2 => ∃ (L : List Int) (C : List (List Int)) (Ls : Lks) (o6 o7 o8 o9 o10 : Option V), Mut H [(l, L.map Dat.int), (f, C.map lnD), (k, Ls.map lkD)] H2 ∧ σ2 = [some v1, some v2, some v3, some (.ref l), some (.ref f), some (.ref k), o6, o7, o8, o9, o10] ∧
          L.Sublist rows ∧ L.length ≤ m ∧ C.length + L.length ≤ 12 ∧ Ls.length + L.length ≤ 12 ∧ C ++ (cls (ent sq) cols m L).1 = classes (ent sq) cols rows ∧ Ls ++ (cls (ent sq) cols m L).2 = links (ent sq) cols rows, fun σ2 H2 h => ⟨m, by omega, h⟩, ?_⟩
        refine mq_pop0L M2 (i := 0) rfl rfl fun fr G2 M3 => ?_
        refine mq_new M3 nnil rfl fun he G3 M4 => ?_
        have asc1 : (x :: left).Pairwise (· < ·) := lr.asc.sublist sub
        have mem1 : ∀ y ∈ x :: left, y ∈ rows := fun y hy => sub.subset hy
        refine q_while (fun n σ' H' => ∃ (lf fs hs : List Int) (ls : Lks) (o8 o9 o10 : Option V), Mut H [(l, lf.map Dat.int), (f, C.map lnD), (k, ls.map lkD), (fr, fs.map Dat.int), (he, hs.map Dat.int)] H' ∧ σ' = [some v1, some v2, some v3, some (.ref l), some (.ref f), some (.ref k), some (.ref fr), some (.ref he), o8, o9, o10] ∧
          lf.Sublist left ∧ (∀ y ∈ fs, y ∈ rows) ∧ lf.length + fs.length ≤ n ∧ lf.length + fs.length + hs.length ≤ 12 ∧ ls.length + lf.length ≤ 12 ∧ dfs (ent sq) cols n lf fs hs ls = dfs (ent sq) cols (left.length + 1) left [x] [] Ls) (left.length + 1)
          ⟨left, [x], [], Ls, o8, o9, o10, M4, rfl, List.Sublist.refl _, fun y hy => mem1 y (by simp at hy; simp [hy]), by simp, by simp at b1 ⊢; omega, by simp at b2; omega, rfl⟩ ?_
        rintro n σ' H' ⟨lf, fs, hs, ls, p8, p9, p10, N, rfl, sub2, hfs, n1, n2, n3, hd⟩
        refine ⟨!fs.isEmpty, tst ((dempL (neg := true) (dvar rfl (N.dv (i := 3) rfl))).is (by rw [List.isEmpty_map]; rfl)), fun hb G4 x4 => ?_, fun hb G4 x4 => ?_⟩
        · obtain ⟨f0, r, rfl⟩ := snoc_of fs (by intro z; rw [z] at hb; cases hb)
          obtain ⟨n, rfl⟩ : ∃ n', n = n' + 1 := ⟨n - 1, by simp at n1; omega⟩
          rw [dfs_snoc] at hd
          have hrr : r ∈ rows := hfs r (by simp)
          refine ⟨fun σ' H' => ∃ (lf fs hs : List Int) (ls : Lks) (o8 o9 o10 : Option V), Mut H [(l, lf.map Dat.int), (f, C.map lnD), (k, ls.map lkD), (fr, fs.map Dat.int), (he, hs.map Dat.int)] H' ∧ σ' = [some v1, some v2, some v3, some (.ref l), some (.ref f), some (.ref k), some (.ref fr), some (.ref he), o8, o9, o10] ∧
            lf.Sublist left ∧ (∀ y ∈ fs, y ∈ rows) ∧ lf.length + fs.length ≤ n ∧ lf.length + fs.length + hs.length ≤ 12 ∧ ls.length + lf.length ≤ 12 ∧ dfs (ent sq) cols n lf fs hs ls = dfs (ent sq) cols (left.length + 1) left [x] [] Ls, fun σ' H' h => ⟨n, by omega, h⟩, ?_⟩
          refine mq_popV (i := 3) (d := .int r) (ds := f0.map Dat.int) (N.on x4) (by rw [List.map_append]; rfl) rfl fun vr G5 N5 hvr => ?_
          simp only [List.length_append, List.length_cons, List.length_nil] at n1 n2
          rw [show vr = .int r from hvr]
          refine mq_app N5 (i := 4) rfl rfl (d := .int r) (dvar rfl rfl) rfl (by rw [List.length_map]; omega) fun G6 N6 ev6 => ?_
          have nlf : lf.Nodup := (asc1.of_cons.sublist sub2).imp fun h => by omega
          refine mS_for (fun p i σ' H' => ∃ (o9 o10 : Option V), Mut H [(l, ((lf.take i).filter (fun o => !lkB (ent sq) cols r o) ++ lf.drop i).map Dat.int), (f, C.map lnD), (k, (ls ++ ((lf.take i).filter fun o => lkB (ent sq) cols r o).map fun o => (r, o, lkC (ent sq) cols r o)).map lkD), (fr, (f0 ++ (lf.take i).filter fun o => lkB (ent sq) cols r o).map Dat.int), (he, (hs ++ [r]).map Dat.int), (p, lf.map Dat.int)] H' ∧
              σ' = [some v1, some v2, some v3, some (.ref l), some (.ref f), some (.ref k), some (.ref fr), some (.ref he), some (.int r), o9, o10]) (nlistL (dvar rfl (N6.dv (i := 0) rfl))) ?_ ?_ ?_ ?_
          · intro p xs H2 hp ex hH hl
            refine ⟨p9, p10, ?_, rfl⟩
            have := N6.push ex hp hH hl (plain_ints _)
            simp only [List.take_zero, List.filter_nil, List.nil_append, List.drop_zero, List.map_nil, List.append_nil, List.map_append]
            exact this
          · rintro p i σ' H' ⟨_, _, N7, _⟩
            exact (N7.get (i := 5) rfl).at_
          · rintro p i hi σ' H' ⟨q9, q10, N7, rfl⟩ y hy
            rw [List.length_map] at hi
            rw [List.getElem_map] at hy
            have mem2 : lf[i] ∈ rows := mem1 _ (List.mem_cons_of_mem _ (sub2.subset (List.getElem_mem hi)))
            have tk : lf.take (i + 1) = lf.take i ++ [lf[i]] := take_snoc (List.getElem?_eq_getElem hi)
            have dr : lf.drop i = lf[i] :: lf.drop (i + 1) := List.drop_eq_getElem_cons hi
            refine bName ?_
            refine dq_asg (dcallD (aC (dvar rfl (h1.mono N7.ex)) (aC (d := .int r) (dvar rfl rfl) (aC (d := .int lf[i]) (dvar rfl hy) (aC (dvar rfl (h3.mono N7.ex)) aN)))) ⟨sq, r, lf[i], cols, wf, lr.bd _ hrr, lr.bd _ mem2, lc, rfl, rfl⟩) fun vl H2 ex hvl => ?_
            have N8 := N7.on ex
            refine s_when (tstB (dnotN (dvar rfl hvl))) (fun hb H3 ex3 => ?_) fun hb H3 ex3 => ?_
            · have hlk : lkB (ent sq) cols r lf[i] = true := by
                cases h : lkB (ent sq) cols r lf[i] with
                | true => rfl
                | false => unfold linkD at hb; rw [h] at hb; cases hb
              rw [show linkD (ent sq) cols r lf[i] = lkD (r, lf[i], lkC (ent sq) cols r lf[i]) by unfold linkD; rw [hlk]; rfl] at hvl
              rw [dr] at N8
              refine mq_rem (as := (lf.take i).filter (fun o => !lkB (ent sq) cols r o)) (bs := lf.drop (i + 1)) (n := lf[i]) (N8.on ex3) (i := 0) rfl rfl (dvar rfl hy) ?_ fun H4 N9 ev9 => ?_
              · intro z
                have z := (List.mem_filter.mp z).1
                have := (List.nodup_iff_pairwise_ne.mp nlf)
                rw [← List.take_append_drop i lf, dr] at this
                exact (List.pairwise_append.mp this).2.2 _ z _ (List.mem_cons_self) rfl
              have cnt : ((lf.take i).filter fun o => lkB (ent sq) cols r o).length ≤ 12 := Nat.le_trans (List.length_filter_le _ _) (by rw [List.length_take]; omega)
              refine mq_app N9 (i := 3) rfl rfl (d := .int lf[i]) (dvar rfl hy) rfl (by rw [List.length_map, List.length_append]; omega) fun H5 N10 ev10 => ?_
              refine mS_app N10 (i := 2) rfl rfl (d := lkD (r, lf[i], lkC (ent sq) cols r lf[i])) (dvar rfl (Dv.evo (ev9.trans ev10) _ rfl (hvl.mono ex3))) rfl (by rw [List.length_map, List.length_append, List.length_map]; omega) fun H6 N11 ev11 => ?_
              refine ⟨some y, some vl, ?_, rfl⟩
              rw [tk, List.filter_append, List.filter_append, List.filter_cons, List.filter_cons, hlk]
              simp only [Bool.not_true, Bool.false_eq_true, if_false, if_true, List.filter_nil, List.append_nil, List.map_append, List.map_cons, List.map_nil] at N11 ⊢
              simpa using N11
            · have hlk : lkB (ent sq) cols r lf[i] = false := by
                cases h : lkB (ent sq) cols r lf[i] with
                | false => rfl
                | true => unfold linkD at hb; rw [h] at hb; cases hb
              refine ⟨some y, some vl, ?_, rfl⟩
              rw [tk, List.filter_append, List.filter_append, List.filter_cons, List.filter_cons, hlk]
              rw [dr] at N8
              simpa using N8.on ex3
          · rintro p σ' H' ⟨q9, q10, N7, rfl⟩
            rw [List.length_map, List.take_length, List.drop_length, List.append_nil] at N7
            have c1 := cut_len lf (fun o => lkB (ent sq) cols r o)
            have c2 := List.length_filter_le (fun o => lkB (ent sq) cols r o) lf
            refine ⟨_, _, _, _, _, q9, q10, N7.take 5, rfl, List.filter_sublist.trans sub2, fun y hy => ?_, ?_, ?_, ?_, hd⟩
            · rcases List.mem_append.mp hy with hy | hy
              · exact hfs y (List.mem_append_left _ hy)
              · exact mem1 _ (List.mem_cons_of_mem _ (sub2.subset (List.mem_filter.mp hy).1))
            · simp only [List.length_append] at n1 ⊢
              omega
            · simp only [List.length_append, List.length_cons, List.length_nil] at n2 ⊢
              omega
            · simp only [List.length_append, List.length_map]
              omega
        · have hf : fs = [] := by cases fs with
            | nil => rfl
            | cons => cases hb
          subst hf
          rw [dfs_nil, dfs_ls] at hd
          obtain ⟨hd1, hd2⟩ := Prod.mk.inj hd
          obtain ⟨hd2, hd3⟩ := Prod.mk.inj hd2
          have N5 := N.on x4
          have srt1 : ((x :: left).filter fun o => (dfs (ent sq) cols (left.length + 1) left [x] [] []).2.1.contains o).Pairwise (· ≤ ·) := (asc1.sublist List.filter_sublist).imp fun h => by omega
          have pm := dfs_class (e := ent sq) (cols := cols) asc1
          rw [← hd2] at pm srt1 e1 e2
          refine mS_app N5 (i := 1) rfl rfl (d := lnD ((x :: left).filter fun o => hs.contains o)) (dtupL (nsorted (dvar rfl (N5.dv (i := 4) rfl)) pm srt1).toD) (lnD_plain _) (by rw [List.length_map]; omega) fun H6 N6 ev6 => ?_
          have ll := (dfs_sub (e := ent sq) (cols := cols) (left.length + 1) left [x] [] [])
          refine ⟨lf, C ++ [(x :: left).filter fun o => hs.contains o], ls, _, _, p8, p9, p10, ?_, rfl, ?_, ?_, ?_, n3, ?_, ?_⟩
          · have := N6.take 3
            rw [List.map_append]
            exact this
          · rw [hd1]
            exact ll.trans ((List.sublist_cons_self _ _).trans sub)
          · have := sub2.length_le
            simp at hm
            omega
          · have := sub2.length_le
            simp at b1 ⊢
            omega
          · rw [← e1, hd1]
            simp
          · rw [← e2, hd1, hd3]
            simp
    · have hL : L = [] := by cases L with
        | nil => rfl
        | cons => cases hb
      subst hL
      rw [cls_nil] at e1 e2
      simp only [List.append_nil] at e1 e2
      rw [← e1, ← e2] at q
      have M2 := M.on x1
      exact dS_ret (dtup (aC (dvar rfl (M2.dv (i := 1) rfl)) (aC (dvar rfl (M2.dv (i := 2) rfl)) aN)) (by show 2 ≤ 1000; decide)) (q.up M2.ex)
end

end Kw
namespace Kw
open PySem
/-! ## what hangs together with x in L -/
structure IsComp (e : En) (cols L : List Int) (x : Int) (S : Int → Prop) : Prop where
  sub : ∀ a, S a → a ∈ L
  mem : S x
  closed : ∀ a o, S a → o ∈ L → lkB e cols a o = true → S o
  least : ∀ T : Int → Prop, T x → (∀ a o, T a → a ∈ L → o ∈ L → lkB e cols a o = true → T o) → ∀ a, S a → T a
theorem lkB_comm (e : En) (cols : List Int) (r o : Int) : lkB e cols r o = lkB e cols o r := by
  unfold lkB
  congr 1
  funext c
  exact decide_eq_decide.mpr ⟨Eq.symm, Eq.symm⟩
section
variable {e : En} {cols L : List Int} {x : Int}
theorem IsComp.uniq {S S' : Int → Prop} (h : IsComp e cols L x S) (h' : IsComp e cols L x S') (a : Int) : S a ↔ S' a :=
  ⟨h.least S' h'.mem (fun a o ha _ ho hl => h'.closed a o ha ho hl) a, h'.least S h.mem (fun a o ha _ ho hl => h.closed a o ha ho hl) a⟩
/-- what a search has come to -/
structure Seek (e : En) (cols L : List Int) (x : Int) (fresh here : List Int) : Prop where
  fs : ∀ a ∈ fresh, a ∈ L
  hs : ∀ a ∈ here, a ∈ L
  st : x ∈ fresh ∨ x ∈ here
  cl : ∀ a ∈ here, ∀ o ∈ L, lkB e cols a o = true → o ∈ fresh ∨ o ∈ here
  ls : ∀ T : Int → Prop, T x → (∀ a o, T a → a ∈ L → o ∈ L → lkB e cols a o = true → T o) → ∀ a, a ∈ fresh ∨ a ∈ here → T a
theorem Seek.start (hx : x ∈ L) : Seek e cols L x [x] [] := ⟨fun a h => by simp at h; rw [h]; exact hx, fun a h => absurd h List.not_mem_nil, by simp, fun a h => absurd h List.not_mem_nil, fun T hT _ a h => by
  simp at h
  rw [h]
  exact hT⟩
theorem Seek.done {here : List Int} (h : Seek e cols L x [] here) : IsComp e cols L x (· ∈ here) := ⟨h.hs, by simpa using h.st, fun a o ha ho hl => by simpa using h.cl a ha o ho hl, fun T hT hc a ha => h.ls T hT hc a (.inr ha)⟩
/-- one that is looked at: what hangs on it comes in -/
theorem Seek.turn {f new here : List Int} {r : Int} (h : Seek e cols L x (f ++ [r]) here) (hn : ∀ o, o ∈ new → o ∈ L ∧ lkB e cols r o = true) (hc : ∀ o ∈ L, lkB e cols r o = true → o ∈ f ∨ o ∈ new ∨ o ∈ here ∨ o = r) : Seek e cols L x (f ++ new) (here ++ [r]) := by
  have hr : r ∈ L := h.fs r (by simp)
  refine ⟨fun a ha => ?_, fun a ha => ?_, ?_, fun a ha o ho hl => ?_, fun T hT hcl a ha => ?_⟩
  · rcases List.mem_append.mp ha with ha | ha
    · exact h.fs a (by simp [ha])
    · exact (hn a ha).1
  · rcases List.mem_append.mp ha with ha | ha
    · exact h.hs a ha
    · simp at ha
      rw [ha]
      exact hr
  · have := h.st
    simp only [List.mem_append, List.mem_singleton] at this ⊢
    rcases this with (h | h) | h
    · exact .inl (.inl h)
    · exact .inr (.inr h)
    · exact .inr (.inl h)
  · simp only [List.mem_append, List.mem_singleton] at ha ⊢
    rcases ha with ha | ha
    · have := h.cl a ha o ho hl
      simp only [List.mem_append, List.mem_singleton] at this
      rcases this with (h | h) | h
      · exact .inl (.inl h)
      · exact .inr (.inr h)
      · exact .inr (.inl h)
    · subst ha
      rcases hc o ho hl with h | h | h | h
      · exact .inl (.inl h)
      · exact .inl (.inr h)
      · exact .inr (.inl h)
      · exact .inr (.inr h)
  · have tr : T r := h.ls T hT hcl r (by simp)
    simp only [List.mem_append, List.mem_singleton] at ha
    rcases ha with (ha | ha) | ha | ha
    · exact h.ls T hT hcl a (by simp [ha])
    · exact hcl r a tr hr (hn a ha).1 (hn a ha).2
    · exact h.ls T hT hcl a (.inr ha)
    · rw [ha]
      exact tr
/-- one that was looked at before -/
theorem Seek.again {f here : List Int} {r : Int} (h : Seek e cols L x (f ++ [r]) here) (hr : r ∈ here) : Seek e cols L x f here := by
  refine ⟨fun a ha => h.fs a (by simp [ha]), h.hs, ?_, fun a ha o ho hl => ?_, fun T hT hcl a ha => h.ls T hT hcl a ?_⟩
  · have := h.st
    simp only [List.mem_append, List.mem_singleton] at this
    rcases this with (h | h) | h
    · exact .inl h
    · rw [h]; exact .inr hr
    · exact .inr h
  · have := h.cl a ha o ho hl
    simp only [List.mem_append, List.mem_singleton] at this
    rcases this with (h | h) | h
    · exact .inl h
    · rw [h]; exact .inr hr
    · exact .inr h
  · rcases ha with ha | ha
    · exact .inl (by simp [ha])
    · exact .inr ha
theorem dfs_seek : ∀ (n : Nat) (left fresh here : List Int) (ls : Lks), left.length + fresh.length ≤ n → (left ++ fresh ++ here).Perm L → Seek e cols L x fresh here → IsComp e cols L x (· ∈ (dfs e cols n left fresh here ls).2.1)
  | 0, left, fresh, here, ls, h, _, hs => by
    have h2 : fresh = [] := List.length_eq_zero_iff.mp (by omega)
    subst h2
    exact hs.done
  | n + 1, left, fresh, here, ls, h, hp, hs => by
    by_cases hf : fresh = []
    · subst hf
      rw [dfs_nil]
      exact hs.done
    · obtain ⟨f, r, rfl⟩ := snoc_of fresh hf
      rw [dfs_snoc]
      refine dfs_seek n _ _ _ _ ?_ ?_ (hs.turn (fun o ho => ?_) fun o ho hl => ?_)
      · have := cut_len left (fun o => lkB e cols r o)
        simp only [List.length_append, List.length_cons, List.length_nil] at h ⊢
        omega
      · refine List.Perm.trans ?_ hp
        have hq := List.filter_append_perm (fun o => lkB e cols r o) left
        refine List.perm_iff_count.mpr fun a => ?_
        have hc := List.perm_iff_count.mp hq a
        simp only [List.count_append] at hc ⊢
        omega
      · have ho := List.mem_filter.mp ho
        exact ⟨hp.subset (by simp [ho.1]), ho.2⟩
      · have := hp.symm.subset ho
        simp only [List.mem_append, List.mem_singleton] at this
        rcases this with (h | h | h) | h
        · exact .inr (.inl (List.mem_filter.mpr ⟨h, hl⟩))
        · exact .inl h
        · exact .inr (.inr (.inr h))
        · exact .inr (.inr (.inl h))
theorem dfs_comp {left : List Int} : IsComp e cols (x :: left) x (· ∈ (dfs e cols (left.length + 1) left [x] [] []).2.1) :=
  dfs_seek _ _ _ _ _ (by simp) (by rw [List.append_nil]; exact List.perm_append_comm.trans (by simp)) (Seek.start (by simp))
/-- what is left, told by what is not in here -/
theorem dfs_left {left : List Int} (ha : (x :: left).Pairwise (· < ·)) : (dfs e cols (left.length + 1) left [x] [] []).1 = (x :: left).filter fun o => !(dfs e cols (left.length + 1) left [x] [] []).2.1.contains o := by
  have hp := dfs_perm (e := e) (cols := cols) (left.length + 1) left [x] [] [] (by simp)
  rw [List.append_nil] at hp
  have hp2 := hp.trans (List.perm_append_comm.trans (by simp : ([x] ++ left).Perm (x :: left)))
  have nd : (x :: left).Nodup := ha.imp fun h => by omega
  have nd2 := hp2.nodup_iff.mpr nd
  have n1 := (List.nodup_append.mp nd2).2.2
  have s1 : (dfs e cols (left.length + 1) left [x] [] []).1.Pairwise (· < ·) := ha.of_cons.sublist (dfs_sub _ _ _ _ _)
  have s2 : ((x :: left).filter fun o => !(dfs e cols (left.length + 1) left [x] [] []).2.1.contains o).Pairwise (· < ·) := ha.sublist List.filter_sublist
  refine List.Perm.eq_of_pairwise (le := (· < ·)) (fun a b _ _ h1 h2 => absurd h2 (Int.lt_asymm h1)) s1 s2 ?_
  refine List.Perm.symm ((hp2.symm.filter _).trans ?_)
  rw [List.filter_append]
  have e1 : (dfs e cols (left.length + 1) left [x] [] []).2.1.filter (fun o => !(dfs e cols (left.length + 1) left [x] [] []).2.1.contains o) = [] := by
    rw [List.filter_eq_nil_iff]
    intro a ha
    simp [ha]
  have e2 : (dfs e cols (left.length + 1) left [x] [] []).1.filter (fun o => !(dfs e cols (left.length + 1) left [x] [] []).2.1.contains o) = (dfs e cols (left.length + 1) left [x] [] []).1 := by
    rw [List.filter_eq_self]
    intro a ha
    simp only [Bool.not_eq_true', List.contains_eq_mem, decide_eq_false_iff_not]
    exact fun hc => n1 a ha a hc rfl
  rw [e1, e2, List.append_nil]
theorem nodup_le : ∀ {hs L : List Int}, hs.Nodup → (∀ a ∈ hs, a ∈ L) → hs.length ≤ L.length
  | [], L, _, _ => Nat.zero_le _
  | a :: hs, L, hn, h => by
    obtain ⟨l1, l2, e⟩ := List.append_of_mem (h a List.mem_cons_self)
    have hn2 := List.nodup_cons.mp hn
    have := nodup_le (L := l1 ++ l2) hn2.2 fun b hb => by
      have := h b (List.mem_cons_of_mem _ hb)
      rw [e] at this
      simp only [List.mem_append, List.mem_cons] at this ⊢
      rcases this with h | h | h
      · exact .inl h
      · rw [h] at hb; exact absurd hb hn2.1
      · exact .inr h
    rw [e]
    simp only [List.length_append, List.length_cons] at this ⊢
    omega
/-- a search's find, nothing twice: the class -/
theorem comp_perm {hs : List Int} {S : Int → Prop} [DecidablePred S] (ha : L.Pairwise (· < ·)) (hn : hs.Nodup) (h : ∀ a, a ∈ hs ↔ S a) (hs2 : ∀ a, S a → a ∈ L) : (L.filter fun o => decide (S o)).Perm hs := by
  have nd : L.Nodup := ha.imp fun h => by omega
  refine (List.perm_ext_iff_of_nodup (nd.sublist List.filter_sublist) hn).mpr fun a => ?_
  rw [List.mem_filter, decide_eq_true_iff, h]
  exact ⟨fun z => z.2, fun z => ⟨hs2 a z, z⟩⟩
end
end Kw
namespace Kw
open PySem PySem.Spec PyProof.Rows L2 Evl
theorem Mut.sub {H0 H : Hp} {ms ms' : List (Addr × List Dat)} (M : Mut H0 ms H) (s : ms'.Sublist ms) : Mut H0 ms' H := ⟨M.ex, (s.map _).nodup M.nd, fun m hm => M.ok m (s.subset hm)⟩
section
variable {K : PySem.W.Frag} {σ : L2.St} {H0 H H' : Hp} {ms : List (Addr × List Dat)} {p : Addr} {ta te : TE} {d : Dat} {ds es : List Dat} {i j k : Nat} {D : Ends} {tz : TS}
/-- x = x + a new list -/
theorem mS_cat (M : Mut H0 ms H) (hm : ms[i]? = some (p, ds)) (hk : σ[k]? = some (some (.ref p))) (h : EvN te σ H es) (pd : plainL es = true) (hz : ds.length ≤ 1000) (hz2 : es.length ≤ 1000) (q : ∀ a H1, Mut H0 (ms ++ [(a, ds ++ es)]) H1 → D.nx (σ.set j (some (.ref a))) H1) :
    tAsg (tOp rCat (tVar k) te) (gName j) D σ H := ⟨.ref p, hk, by
  obtain ⟨a, b, xs, c, l⟩ := M.get hm
  refine h H (Ex.refl _) _ fun r ys H1 hr e1 hH hl => ⟨p, r, xs, ys, rfl, rfl, e1 _ _ c, hH, by rw [l.len, hl.len, sizeLine_eq]; show ds.length + es.length ≤ _; omega, fun a ha => ?_⟩
  refine q a _ ((M.on e1).push (Ex.new ha) ha upd_same (((l.mono e1).append hl).mono (Ex.new ha)) (plainL_all.mpr fun d' hd' => ?_))
  rcases List.mem_append.mp hd' with h1 | h1
  · exact plainL_all.mp b _ h1
  · exact plainL_all.mp pd _ h1⟩
end
theorem lk_test (e : En) (cols : List Int) (r o : Int) : (!(((cols.map Dat.int).filter fun d => decide (e o (intOf d) = e r (intOf d))).map fun _ => Dat.int 1).isEmpty) = lkB e cols r o := by
  rw [List.isEmpty_map, fil_ints cols fun c => decide (e o c = e r c), List.isEmpty_map, filt_any, lkB_comm]
  rfl
def domCls1 : List Dat → Dat → Prop := fun ds d => ∃ sq rows cols, Wf sq ∧ Ln sq.length rows ∧ Ln (wid sq) cols ∧ ds = [sqD sq, lnD rows, lnD cols] ∧ d = .lst ((classes (ent sq) cols rows).map lnD)
section
variable {P : Program} {w : World} {K : PySem.W.Frag} {mg : Str → Option Value} {base : Heap}
theorem ok_L_lk_classes (T : Txt K mg) : FnOk P w K mg base CX0 1 T.a_L_lk_classes T.d_L_lk_classes ["_law_square", "_law_rows", "_law_columns"] (SpD domCls1) := by
  refine T.F_L_lk_classes.ok sc_L_lk_classes (fun vs H Q E h => ?_) (fun cdv A outer s H vs Q E hr h => ?_)
  · obtain ⟨ds, d, hv, ⟨sq, rows, cols, wf, lr, lc, rfl, rfl⟩, q⟩ := h
    exact hv.len
  · obtain ⟨ds, d, hv, ⟨sq, rows, cols, wf, lr, lc, rfl, rfl⟩, q⟩ := h
    obtain ⟨v1, _, rfl, h1, v2, _, rfl, h2, hv⟩ := hv
    obtain ⟨v3, rfl, h3⟩ := hv.one
    refine ⟨_, (pss_cons (ps_par (i := 3) (j := 4) rfl sc_L_lk_classes.nd rfl rfl (by decide) rfl rfl (pa_cons (pe_callTy (k_listOf (K := K) rfl) (by rfl) T.z_list (by decide +kernel) (pa_cons (pv 1) pa_nil)) (pa_cons (pe_lst pa_nil) pa_nil)) (by rfl))
      (pss_cons (ps_while PassesOwn.never (pt_cmpR (k_neE (K := K) rfl hr.units0) (pv 3) (pe_lst pa_nil) (nomark _)) (pss_cons (ps_asg (pe_tup (pa_cons (pe_lst pa_nil) (pa_cons (pe_lst (pa_cons (pe_ix (k_ixL (K := K) rfl) (pv 3) pe_int (fun _ _ => rfl)) pa_nil)) pa_nil))) (k_pgtup (K := K) (n := 2) rfl rfl (pgs_cons (pg_name (i := 5) sc_L_lk_classes.nd rfl (.inr rfl)) (pgs_cons (pg_name (i := 6) sc_L_lk_classes.nd rfl (.inl rfl)) pgs_nil))))
      (pss_cons (ps_while PassesOwn.never (pt_cmpR (k_neE (K := K) rfl hr.units0) (pv 6) (pe_lst pa_nil) (nomark _)) (pss_cons (ps_set (i := 7) sc_L_lk_classes.nd rfl (.inr rfl) (pe_bm0 PySem.F.plainAttrs_list PySem.F.slot_list_pop PySem.F.type_list_pop mt_pop (pv 6)))
      (pss_one (ps_if (pt_cmpR (k_notIn (K := K) rfl) (pv 7) (pv 5) (by rfl)) (pss_cons (ps_expr (pe_bm PySem.F.plainAttrs_list PySem.F.slot_list_append PySem.F.type_list_append mt_append (pv 5) (pa_cons (pv 7) pa_nil)))
      (pss_one (ps_set (i := 6) sc_L_lk_classes.nd rfl (.inl rfl) (pe_op op_cat (pv 6) (pe_lc (own := [("_law_one", 8)]) rfl sc_L_lk_classes.nd (k_list (K := K) rfl (pv 3)) (blkOk_by (by kernel_rfl)) (fun _ _ _ _ _ => (pg_name (i := 8) sc_L_lk_classes.nd rfl (.inr rfl))) (fun _ _ _ _ _ => (pts_one (pt_cmpR (k_neE (K := K) rfl hr.units0) (pe_lc (own := [("_law_at", 9)]) rfl sc_L_lk_classes.nd (k_tup (K := K) rfl (pv 2)) (blkOk_by (by kernel_rfl)) (fun _ _ _ _ _ => (pg_name (i := 9) sc_L_lk_classes.nd rfl (.inl rfl))) (fun _ _ _ _ _ => (pts_one (pt_cmpR op_eq (pe_ix (k_ixT (K := K) rfl) (pe_ix (k_ixT (K := K) rfl) (pv 0) (pv 8) (fun _ _ => rfl)) (pv 9) (fun _ _ => rfl)) (pe_ix (k_ixT (K := K) rfl) (pe_ix (k_ixT (K := K) rfl) (pv 0) (pv 7) (fun _ _ => rfl)) (pv 9) (fun _ _ => rfl)) (nomark _)))) (fun _ _ _ _ _ => pe_int)) (pe_lst pa_nil) (nomark _)))) (fun _ _ _ _ _ => (pv 8))))))) pss_nil))))
      (pss_cons (ps_expr (pe_bm PySem.F.plainAttrs_list PySem.F.slot_list_append PySem.F.type_list_append mt_append (pv 4) (pa_cons (pe_callTy (k_tupOf (K := K) rfl) (by rfl) T.z_tuple (by decide +kernel) (pa_cons (pe_callB (k_sorted (K := K) rfl) (by rfl) T.z_sorted (by decide +kernel) (pa_cons (pv 5) pa_nil)) pa_nil)) pa_nil)))
      (pss_one (ps_setLc (own := [("_law_row", 7)]) (i := 3) rfl sc_L_lk_classes.nd rfl rfl (sw_true rfl rfl rfl (by kernel_rfl)) (k_list (K := K) rfl (pv 3)) (blkOk_by (by kernel_rfl)) (fun _ _ _ _ _ => (pg_name (i := 7) sc_L_lk_classes.nd rfl (.inl rfl))) (fun _ _ _ _ _ => (pts_one (pt_cmpR (k_notIn (K := K) rfl) (pv 7) (pv 5) (by rfl)))) (fun _ _ _ _ _ => (pv 7))))))))
      (pss_one (ps_ret (pv 4))))), ?_⟩
    have r12 := lr.nat12 wf.len
    have c12 := lc.nat12 wf.w12
    refine mq_par2 Mut.nil (nlistT (dvar rfl h2)) nnil (plain_ints _) rfl fun l f H1 M1 => ?_
    have M1 : Mut H [(l, rows.map Dat.int), (f, [])] H1 := M1
    refine q_while (fun m σ' H' => ∃ (L : List Int) (l f : Addr) (C : List (List Int)) (o5 o6 o7 o8 o9 : Option V), Mut H [(f, C.map lnD), (l, L.map Dat.int)] H' ∧ σ' = [some v1, some v2, some v3, some (.ref l), some (.ref f), o5, o6, o7, o8, o9] ∧
      L.Sublist rows ∧ L.length ≤ m ∧ C.length + L.length ≤ 12 ∧ C ++ (cls (ent sq) cols m L).1 = classes (ent sq) cols rows) rows.length
      ⟨rows, l, f, [], none, none, none, none, none, ⟨M1.ex, by have := M1.nd; simp at this ⊢; exact fun z => this z.symm, fun m hm => M1.ok m (by simp at hm ⊢; exact hm.symm)⟩, rfl, List.Sublist.refl _, Nat.le_refl _, by simpa using r12, rfl⟩ ?_
    rintro m σ' H' ⟨L, l, f, C, o5, o6, o7, o8, o9, M, rfl, sub, hm, b1, e1⟩
    refine ⟨!L.isEmpty, tst ((dempL (neg := true) (dvar rfl (M.dv (i := 1) rfl))).is (by rw [List.isEmpty_map]; rfl)), fun hb G1 x1 => ?_, fun hb G1 x1 => ?_⟩
    · cases L with
      | nil => cases hb
      | cons x left =>
        obtain ⟨m, rfl⟩ : ∃ m', m = m' + 1 := ⟨m - 1, by simp at hm; omega⟩
        rw [cls_cons] at e1
        have asc1 : (x :: left).Pairwise (· < ·) := lr.asc.sublist sub
        have mem1 : ∀ y ∈ x :: left, y ∈ rows := fun y hy => sub.subset hy
        have l12 : (x :: left).length ≤ 12 := by omega
        generalize hX : x :: left = X at *
        refine ⟨fun σ' H' => ∃ (L : List Int) (l f : Addr) (C : List (List Int)) (o5 o6 o7 o8 o9 : Option V), Mut H [(f, C.map lnD), (l, L.map Dat.int)] H' ∧ σ' = [some v1, some v2, some v3, some (.ref l), some (.ref f), o5, o6, o7, o8, o9] ∧
          L.Sublist rows ∧ L.length ≤ m ∧ C.length + L.length ≤ 12 ∧ C ++ (cls (ent sq) cols m L).1 = classes (ent sq) cols rows, fun σ2 H2 h => ⟨m, by omega, h⟩, ?_⟩
        have M2 := M.on x1
        have xX : x ∈ X := by rw [← hX]; simp
        refine mq_two M2 nnil (nlst (aC (d := .int x) (dixL (dvar rfl (M2.dv (i := 1) rfl)) dint (by omega) (by rw [← hX]; rfl)) aN) (by show 1 ≤ 1000; decide)) rfl rfl fun he fr G2 M3 => ?_
        have M3 : Mut H [(f, C.map lnD), (l, X.map Dat.int), (he, []), (fr, [Dat.int x])] G2 := M3
        refine q_while (fun n σ' H' => ∃ (fr : Addr) (fs hs : List Int) (o7 o8 o9 : Option V), Mut H [(f, C.map lnD), (l, X.map Dat.int), (he, hs.map Dat.int), (fr, fs.map Dat.int)] H' ∧ σ' = [some v1, some v2, some v3, some (.ref l), some (.ref f), some (.ref he), some (.ref fr), o7, o8, o9] ∧
          Seek (ent sq) cols X x fs hs ∧ hs.Nodup ∧ fs.length ≤ 1 + 12 * hs.length ∧ n = (12 - hs.length) * 13 + fs.length) (12 * 13 + 1)
          ⟨fr, [x], [], o7, o8, o9, M3, rfl, Seek.start xX, by simp, by simp, rfl⟩ ?_
        rintro n σ' H' ⟨fr, fs, hs, p7, p8, p9, N, rfl, sk, hnd, fb, rfl⟩
        have hs12 : hs.length ≤ 12 := Nat.le_trans (nodup_le hnd sk.hs) l12
        refine ⟨!fs.isEmpty, tst ((dempL (neg := true) (dvar rfl (N.dv (i := 3) rfl))).is (by rw [List.isEmpty_map]; rfl)), fun hb G4 x4 => ?_, fun hb G4 x4 => ?_⟩
        · obtain ⟨f0, r, rfl⟩ := snoc_of fs (by intro z; rw [z] at hb; cases hb)
          simp only [List.length_append, List.length_cons, List.length_nil] at fb
          have rX : r ∈ X := sk.fs r (by simp)
          refine ⟨fun σ' H' => ∃ (fr : Addr) (fs' hs' : List Int) (o7 o8 o9 : Option V), (Mut H [(f, C.map lnD), (l, X.map Dat.int), (he, hs'.map Dat.int), (fr, fs'.map Dat.int)] H' ∧ σ' = [some v1, some v2, some v3, some (.ref l), some (.ref f), some (.ref he), some (.ref fr), o7, o8, o9] ∧
            Seek (ent sq) cols X x fs' hs' ∧ hs'.Nodup ∧ fs'.length ≤ 1 + 12 * hs'.length) ∧ (12 - hs'.length) * 13 + fs'.length < (12 - hs.length) * 13 + (f0 ++ [r]).length, fun σ' H' ⟨fr, fs', hs', o7, o8, o9, ⟨a1, a2, a3, a4, a5⟩, a6⟩ => ⟨_, a6, fr, fs', hs', o7, o8, o9, a1, a2, a3, a4, a5, rfl⟩, ?_⟩
          refine mq_popV (i := 3) (d := .int r) (ds := f0.map Dat.int) (N.on x4) (by rw [List.map_append]; rfl) rfl fun vr G5 N5 hvr => ?_
          rw [show vr = .int r from hvr]
          refine s_when (tstB ((dinL (neg := true) (i := r) (ns := hs) (dvar rfl rfl) (dvar rfl (N5.dv (i := 2) rfl))).is rfl)) (fun hb G6 x6 => ?_) fun hb G6 x6 => ?_
          · have rn : r ∉ hs := by
              intro z
              have hc : hs.contains r = true := List.contains_iff_mem.mpr z
              rw [hc] at hb
              cases hb
            have hs11 : hs.length + 1 ≤ 12 := by
              have : (hs ++ [r]).length ≤ X.length := nodup_le (List.nodup_append.mpr ⟨hnd, by simp, fun a ha b hb => by simp at hb; rw [hb]; intro z; rw [z] at ha; exact rn ha⟩) fun a ha => by
                rcases List.mem_append.mp ha with h | h
                · exact sk.hs a h
                · simp at h; rw [h]; exact rX
              simp at this
              omega
            refine mq_app (N5.on x6) (i := 2) rfl rfl (d := .int r) (dvar rfl rfl) rfl (by rw [List.length_map]; omega) fun G7 N7 ev7 => ?_
            have hX12 : (X.map Dat.int).length ≤ 1000 := by rw [List.length_map]; omega
            have fl : (X.filter fun o => lkB (ent sq) cols r o).length ≤ 12 := Nat.le_trans (List.length_filter_le _ _) l12
            refine mS_cat N7 (i := 3) rfl rfl (es := (X.filter fun o => lkB (ent sq) cols r o).map Dat.int) ((nlc (fun d => lkB (ent sq) cols r (intOf d)) (fun d => d) (srcL (dvar rfl (N7.dv (i := 1) rfl))) hX12 (fun d hd _ => map_plain d hd) ?_).is (by rw [List.map_id', fil_ints X fun o => lkB (ent sq) cols r o])) (plain_ints _) (by rw [List.length_map]; omega) (by rw [List.length_map]; omega) fun fr2 G8 N8 => ?_
            · intro d hd y G e hy
              obtain ⟨o, ho, rfl⟩ := List.mem_map.mp hd
              have bo := lr.bd _ (mem1 _ ho)
              have br := lr.bd _ (mem1 _ rX)
              refine bName ⟨rfl, tstB ((dempL (neg := true) (nlc (fun d => decide (ent sq o (intOf d) = ent sq r (intOf d))) (fun _ => .int 1) (srcT (dvar rfl (h3.mono (N7.ex.trans e)))) (by rw [List.length_map]; omega) (fun _ _ _ => rfl) ?_).toD).is ?_), fun _ => dvar rfl hy⟩
              · intro d hd z G2 e2 hz
                obtain ⟨c, hc, rfl⟩ := List.mem_map.mp hd
                refine bName ⟨rfl, tstB (deqI (dEnt wf (dvar rfl (h1.mono (N7.ex.trans (e.trans e2)))) (r := o) (dvar rfl (hy.mono e2)) (dvar rfl hz) bo (lc.bd _ hc)) (dEnt wf (dvar rfl (h1.mono (N7.ex.trans (e.trans e2)))) (r := r) (dvar rfl rfl) (dvar rfl hz) br (lc.bd _ hc))), fun _ => dint⟩
              · exact congrArg Dat.bl (lk_test (ent sq) cols r o)
            · refine ⟨fr2, f0 ++ X.filter (fun o => lkB (ent sq) cols r o), hs ++ [r], _, p8, p9, ⟨?_, rfl, ?_, ?_, ?_⟩, ?_⟩
              · have := N8.sub (ms' := [(f, C.map lnD), (l, X.map Dat.int), (he, hs.map Dat.int ++ [Dat.int r]), (fr2, f0.map Dat.int ++ (X.filter fun o => lkB (ent sq) cols r o).map Dat.int)]) (.cons₂ _ (.cons₂ _ (.cons₂ _ (.cons _ (.cons₂ _ .slnil)))))
                simpa using this
              · refine sk.turn (fun o ho => List.mem_filter.mp ho) fun o ho hl => .inr (.inl (List.mem_filter.mpr ⟨ho, hl⟩))
              · exact List.nodup_append.mpr ⟨hnd, by simp, fun a ha b hb => by simp at hb; rw [hb]; intro z; rw [z] at ha; exact rn ha⟩
              · simp only [List.length_append, List.length_cons, List.length_nil]
                omega
              · simp only [List.length_append, List.length_cons, List.length_nil]
                omega
          · have rh : r ∈ hs := by
              refine List.contains_iff_mem.mp ?_
              cases h : hs.contains r with
              | true => rfl
              | false => rw [h] at hb; cases hb
            refine ⟨fr, f0, hs, _, p8, p9, ⟨N5.on x6, rfl, sk.again rh, hnd, by omega⟩, ?_⟩
            simp only [List.length_append, List.length_cons, List.length_nil]
            omega
        · have hf : fs = [] := by cases fs with
            | nil => rfl
            | cons => cases hb
          subst hf
          have N5 := N.on x4
          have cmp := sk.done
          subst hX
          have same : ∀ a, a ∈ hs ↔ a ∈ (dfs (ent sq) cols (left.length + 1) left [x] [] []).2.1 := cmp.uniq dfs_comp
          have sameB : (fun o => (dfs (ent sq) cols (left.length + 1) left [x] [] []).2.1.contains o) = fun o => hs.contains o := by
            funext a
            rw [Bool.eq_iff_iff, List.contains_iff_mem, List.contains_iff_mem]
            exact (same a).symm
          have sameN : (fun o => !(dfs (ent sq) cols (left.length + 1) left [x] [] []).2.1.contains o) = fun o => !hs.contains o := by
            funext a
            exact congrArg _ (congrFun sameB a)
          rw [dfs_left asc1, sameN, sameB] at e1
          have pm : ((x :: left).filter fun o => hs.contains o).Perm hs := by
            have := comp_perm (S := fun a => a ∈ hs) asc1 hnd (fun a => Iff.rfl) cmp.sub
            refine List.Perm.trans (List.Perm.of_eq ?_) this
            congr 1
            funext a
            rw [Bool.eq_iff_iff, List.contains_iff_mem, decide_eq_true_iff]
          have srt1 : ((x :: left).filter fun o => hs.contains o).Pairwise (· ≤ ·) := (asc1.sublist List.filter_sublist).imp fun h => by omega
          refine mq_app N5 (i := 0) rfl rfl (d := lnD ((x :: left).filter fun o => hs.contains o)) (dtupL (nsorted (dvar rfl (N5.dv (i := 2) rfl)) pm srt1).toD) (lnD_plain _) (by rw [List.length_map]; omega) fun H6 N6 ev6 => ?_
          refine mS_new N6 (ds := ((x :: left).filter fun o => !hs.contains o).map Dat.int) ((nlc (fun d => !hs.contains (intOf d)) (fun d => d) (srcL (dvar rfl (N6.dv (i := 1) rfl))) (by rw [List.length_map]; omega) (fun d hd _ => map_plain d hd) ?_).is (by rw [List.map_id', fil_ints (x :: left) fun o => !hs.contains o])) (plain_ints _) fun l2 H7 N7 => ?_
          · intro d hd y G e hy
            obtain ⟨o, ho, rfl⟩ := List.mem_map.mp hd
            exact bName ⟨rfl, tstB ((dinL (neg := true) (i := o) (ns := hs) (dvar rfl hy) (dvar rfl ((N6.on e).dv (i := 2) rfl))).is rfl), fun _ => dvar rfl hy⟩
          · have xh : x ∈ hs := cmp.mem
            have lt : ((x :: left).filter fun o => !hs.contains o).length ≤ left.length := by
              rw [List.filter_cons, if_neg (by simp [xh])]
              exact List.length_filter_le _ _
            refine ⟨(x :: left).filter fun o => !hs.contains o, l2, f, C ++ [(x :: left).filter fun o => hs.contains o], _, _, p7, p8, p9, ?_, rfl, List.filter_sublist.trans sub, ?_, ?_, ?_⟩
            · have := N7.sub (ms' := [(f, C.map lnD ++ [lnD ((x :: left).filter fun o => hs.contains o)]), (l2, ((x :: left).filter fun o => !hs.contains o).map Dat.int)]) (.cons₂ _ (.cons _ (.cons _ (.cons _ (.cons₂ _ .slnil)))))
              rw [List.map_append]
              exact this
            · simp at hm
              omega
            · simp at b1
              simp only [List.length_append, List.length_cons, List.length_nil]
              omega
            · rw [← e1]
              simp
    · have hL : L = [] := by cases L with
        | nil => rfl
        | cons => cases hb
      subst hL
      rw [cls_nil] at e1
      simp only [List.append_nil] at e1
      rw [← e1] at q
      have M2 := M.on x1
      exact dS_ret (dvar rfl (M2.dv (i := 0) rfl)) (q.up M2.ex)
end

end Kw
namespace Kw
open PySem
theorem flat_small : ∀ {cs : List (List Int)}, (∀ l ∈ cs, l ≠ []) → cs.length ≤ cs.flatten.length
  | [], _ => Nat.zero_le _
  | c :: cs, h => by
    have h1 := flat_small (cs := cs) fun l hl => h l (List.mem_cons_of_mem _ hl)
    have h2 := List.length_pos_iff.mpr (h c List.mem_cons_self)
    simp only [List.length_cons, List.flatten_cons, List.length_append]
    omega
theorem flat_lot : ∀ {cs : List (List Int)}, (∀ l ∈ cs, l ≠ []) → ∀ l ∈ cs, l.length + cs.length ≤ cs.flatten.length + 1
  | [], _, l, hl => absurd hl List.not_mem_nil
  | c :: cs, h, l, hl => by
    have h0 := flat_small (cs := cs) fun l hl => h l (List.mem_cons_of_mem _ hl)
    have h2 := List.length_pos_iff.mpr (h c List.mem_cons_self)
    simp only [List.length_cons, List.flatten_cons, List.length_append]
    rcases List.mem_cons.mp hl with rfl | hl
    · omega
    · have h1 := flat_lot (cs := cs) (fun l hl => h l (List.mem_cons_of_mem _ hl)) l hl
      omega
section
variable {e : En} {cols : List Int}
theorem dfs_links : ∀ (n : Nat) (left fresh here : List Int) (ls : Lks), (dfs e cols n left fresh here ls).2.2.length + (dfs e cols n left fresh here ls).1.length ≤ ls.length + left.length
  | 0, left, fresh, here, ls => by simp [dfs]
  | n + 1, left, fresh, here, ls => by
    by_cases h : fresh = []
    · subst h
      rw [dfs_nil]
      exact Nat.le_refl _
    · obtain ⟨f, r, rfl⟩ := snoc_of fresh h
      rw [dfs_snoc]
      refine Nat.le_trans (dfs_links n _ _ _ _) ?_
      have := cut_len left (fun o => lkB e cols r o)
      simp only [List.length_append, List.length_map]
      omega
theorem apart_cons {lot : List Int} {later : List (List Int)} (h : ∀ r ∈ lot, ∀ o ∈ later.flatten, lkB e cols r o = false) (h2 : apart e cols later = true) : apart e cols (lot :: later) = true := by
  simp only [apart, h2, Bool.and_true, Bool.not_eq_true', List.any_eq_false]
  intro r hr
  simp only [Bool.not_eq_true, List.any_eq_false]
  intro o ho
  exact h r hr o ho
structure ClsOk (e : En) (cols L : List Int) (cs : List (List Int)) (ls : Lks) : Prop where
  lot : ∀ l ∈ cs, l ≠ [] ∧ l.Sublist L
  perm : cs.flatten.Perm L
  apart : apart e cols cs = true
  links : ls.length ≤ L.length
theorem cls_ok : ∀ (n : Nat) (L : List Int), L.Pairwise (· < ·) → L.length ≤ n → ClsOk e cols L (cls e cols n L).1 (cls e cols n L).2
  | n, [], _, _ => by
    rw [cls_nil]
    exact ⟨fun l hl => absurd hl List.not_mem_nil, .refl _, rfl, Nat.le_refl _⟩
  | 0, x :: left, _, h => by simp at h
  | n + 1, x :: left, ha, h => by
    rw [cls_cons]
    have sb := dfs_sub (e := e) (cols := cols) (left.length + 1) left [x] [] []
    have ih := cls_ok n (dfs e cols (left.length + 1) left [x] [] []).1 (ha.of_cons.sublist sb) (by have := sb.length_le; simp at h; omega)
    have cmp := dfs_comp (e := e) (cols := cols) (x := x) (left := left)
    refine ⟨fun l hl => ?_, ?_, ?_, ?_⟩
    · rcases List.mem_cons.mp hl with rfl | hl
      · refine ⟨?_, List.filter_sublist⟩
        have : x ∈ (x :: left).filter fun o => (dfs e cols (left.length + 1) left [x] [] []).2.1.contains o := List.mem_filter.mpr ⟨by simp, List.contains_iff_mem.mpr cmp.mem⟩
        exact List.ne_nil_of_mem this
      · exact ⟨(ih.lot l hl).1, (ih.lot l hl).2.trans (sb.trans (List.sublist_cons_self _ _))⟩
    · rw [List.flatten_cons]
      refine (List.Perm.append_left _ ih.perm).trans ?_
      rw [dfs_left ha]
      exact List.filter_append_perm _ _
    · refine apart_cons (fun r hr o ho => ?_) ih.apart
      have hr := List.mem_filter.mp hr
      have ho := ih.perm.subset ho
      rw [dfs_left ha] at ho
      have ho := List.mem_filter.mp ho
      cases hl : lkB e cols r o with
      | false => rfl
      | true =>
        have := cmp.closed r o (List.contains_iff_mem.mp hr.2) ho.1 hl
        rw [List.contains_iff_mem.mpr this] at ho
        cases ho.2
    · have h1 := dfs_links (e := e) (cols := cols) (left.length + 1) left [x] [] []
      have h2 := ih.links
      simp only [List.length_append, List.length_cons, List.length_nil] at h1 ⊢
      omega
theorem classes_ok {n : Nat} {rows : List Int} (lr : Ln n rows) : ClsOk e cols rows (classes e cols rows) (links e cols rows) := cls_ok _ _ lr.asc (Nat.le_refl _)
theorem classes_ln {n : Nat} {rows lot : List Int} (lr : Ln n rows) (h : lot ∈ classes e cols rows) : Ln n lot := by
  obtain ⟨h1, h2⟩ := (classes_ok lr).lot lot h
  exact ⟨h1, lr.asc.sublist h2, fun x hx => lr.bd x (h2.subset hx)⟩
theorem classes_len {n : Nat} {rows : List Int} (lr : Ln n rows) : (classes e cols rows).length ≤ rows.length := by
  have ok := classes_ok (e := e) (cols := cols) lr
  have := flat_small fun l hl => (ok.lot l hl).1
  rw [ok.perm.length_eq] at this
  exact this
theorem classes_small {n : Nat} {rows lot : List Int} (lr : Ln n rows) (h : lot ∈ classes e cols rows) (h2 : 1 < (classes e cols rows).length) : lot.length < rows.length := by
  have ok := classes_ok (e := e) (cols := cols) lr
  have := flat_lot (fun l hl => (ok.lot l hl).1) lot h
  rw [ok.perm.length_eq] at this
  omega
end
end Kw
namespace Kw
open PySem PySem.Spec PyProof.Rows L2 Evl
def domHas (n : Nat) : List Dat → Dat → Prop := fun ds d => ∃ sq rows cols, Wf sq ∧ Ln sq.length rows ∧ Ln (wid sq) cols ∧ rows.length + cols.length ≤ n ∧ ds = [sqD sq, lnD rows, lnD cols] ∧ d = .bl (hasTree n sq rows cols)
theorem fil_lns (cs : List (List Int)) (f : List Int → Bool) : (cs.map lnD).filter (fun d => f (intsOf d)) = (cs.filter f).map lnD := by
  rw [List.filter_map]
  congr 1
  refine List.filter_congr fun c _ => ?_
  simp [lnD, intsOf, items, Function.comp_def, intOf]
theorem ints_lnD (c : List Int) : intsOf (lnD c) = c := by simp [lnD, intsOf, items, Function.comp_def, intOf]
theorem Ln.pos {n : Nat} {ns : List Int} (h : Ln n ns) : 0 < ns.length := List.length_pos_iff.mpr h.ne
section
variable {P : Program} {w : World} {K : PySem.W.Frag} {mg : Str → Option Value} {base : Heap}
theorem Wf.turnR {sq : Sq} {rows : List Int} (wf : Wf sq) (h : Ln sq.length rows) : Ln (wid (turn sq)) rows := by rw [turn_wid wf]; exact h
theorem Wf.turnC {sq : Sq} {cols : List Int} (wf : Wf sq) (h : Ln (wid sq) cols) : Ln (turn sq).length cols := by rw [turn_len]; exact h
theorem ok_L_lk_has_tree (T : Txt K mg) : ∀ n, FnOk P w K mg base CX0 (2 + n) T.a_L_lk_has_tree T.d_L_lk_has_tree ["_law_square", "_law_rows", "_law_columns"] (SpD (domHas n))
  | 0 => by
    refine T.F_L_lk_has_tree.ok sc_L_lk_has_tree (fun vs H Q E h => ?_) (fun cdv A outer s H vs Q E hr h => ?_)
    · obtain ⟨ds, d, hv, ⟨sq, rows, cols, wf, lr, lc, hn, rfl, rfl⟩, q⟩ := h
      exact hv.len
    · obtain ⟨ds, d, hv, ⟨sq, rows, cols, wf, lr, lc, hn, rfl, rfl⟩, q⟩ := h
      have := lr.pos
      omega
  | n + 1 => by
    have G_L_lk_has_tree := ok_L_lk_has_tree T n
    have G_L_lk_classes := ok_L_lk_classes (P := P) (w := w) (base := base) T
    have G_L_lk_is_flat := ok_L_lk_is_flat (P := P) (w := w) (base := base) T
    have G_L_lk_turned := ok_L_lk_turned (P := P) (w := w) (base := base) T
    refine T.F_L_lk_has_tree.ok sc_L_lk_has_tree (fun vs H Q E h => ?_) (fun cdv A outer s H vs Q E hr h => ?_)
    · obtain ⟨ds, d, hv, ⟨sq, rows, cols, wf, lr, lc, hn, rfl, rfl⟩, q⟩ := h
      exact hv.len
    · obtain ⟨ds, d, hv, ⟨sq, rows, cols, wf, lr, lc, hn, rfl, rfl⟩, q⟩ := h
      obtain ⟨v1, _, rfl, h1, v2, _, rfl, h2, hv⟩ := hv
      obtain ⟨v3, rfl, h3⟩ := hv.one
      replace hr : Room (2 + n) _ := hr
      refine ⟨_, (pss_cons (ps_if (pt_val (pe_call G_L_lk_is_flat (hr.mono (by omega)) (by rfl) T.g_L_lk_is_flat T.F_L_lk_is_flat.kp T.b_L_lk_is_flat .nil pass0 (pa_cons (pv 0) (pa_cons (pv 1) (pa_cons (pv 2) pa_nil))))) (pss_one (ps_ret pe_bl)) pss_nil)
      (pss_cons (ps_par (i := 3) (j := 4) rfl sc_L_lk_has_tree.nd rfl rfl (by decide) rfl rfl (pa_cons (pe_call G_L_lk_classes (hr.mono (by omega)) (by rfl) T.g_L_lk_classes T.F_L_lk_classes.kp T.b_L_lk_classes .nil pass0 (pa_cons (pv 0) (pa_cons (pv 1) (pa_cons (pv 2) pa_nil)))) (pa_cons (pe_call G_L_lk_turned (hr.mono (by omega)) (by rfl) T.g_L_lk_turned T.F_L_lk_turned.kp T.b_L_lk_turned .nil pass0 (pa_cons (pv 0) pa_nil)) pa_nil)) (by rfl))
      (pss_cons (ps_if (pt_cmpR op_gt (pe_callB (k_len (K := K) rfl) (by rfl) T.z_len (by decide +kernel) (pa_cons (pv 3) pa_nil)) pe_int (nomark _)) (pss_one (ps_ret (pe_cmpR (k_eqE (K := K) rfl hr.units0) (pe_lc (own := [("_law_crew", 5)]) rfl sc_L_lk_has_tree.nd (k_list (K := K) rfl (pv 3)) (blkOk_by (by kernel_rfl)) (fun _ _ _ _ _ => (pg_name (i := 5) sc_L_lk_has_tree.nd rfl (.inl rfl))) (fun _ _ _ _ _ => (pts_one (pt_not (pt_val (pe_call G_L_lk_has_tree (hr.mono (by omega)) (by rfl) T.g_L_lk_has_tree T.F_L_lk_has_tree.kp T.b_L_lk_has_tree .nil pass0 (pa_cons (pv 0) (pa_cons (pv 5) (pa_cons (pv 2) pa_nil)))))))) (fun _ _ _ _ _ => (pv 5))) (pe_lst pa_nil) (nomark _)))) pss_nil)
      (pss_cons (ps_set (i := 3) sc_L_lk_has_tree.nd rfl (.inl rfl) (pe_call G_L_lk_classes (hr.mono (by omega)) (by rfl) T.g_L_lk_classes T.F_L_lk_classes.kp T.b_L_lk_classes .nil pass0 (pa_cons (pv 4) (pa_cons (pv 2) (pa_cons (pv 1) pa_nil)))))
      (pss_one (ps_ret (pe_and (pe_cmpR op_gt (pe_callB (k_len (K := K) rfl) (by rfl) T.z_len (by decide +kernel) (pa_cons (pv 3) pa_nil)) pe_int (nomark _)) (pe_one (pe_cmpR (k_eqE (K := K) rfl hr.units0) (pe_lc (own := [("_law_crew", 5)]) rfl sc_L_lk_has_tree.nd (k_list (K := K) rfl (pv 3)) (blkOk_by (by kernel_rfl)) (fun _ _ _ _ _ => (pg_name (i := 5) sc_L_lk_has_tree.nd rfl (.inl rfl))) (fun _ _ _ _ _ => (pts_one (pt_not (pt_val (pe_call G_L_lk_has_tree (hr.mono (by omega)) (by rfl) T.g_L_lk_has_tree T.F_L_lk_has_tree.kp T.b_L_lk_has_tree .nil pass0 (pa_cons (pv 0) (pa_cons (pv 1) (pa_cons (pv 5) pa_nil)))))))) (fun _ _ _ _ _ => (pv 5))) (pe_lst pa_nil) (nomark _)))))))))), ?_⟩
      unfold hasTree at q
      have r12 := lr.nat12 wf.len
      have c12 := lc.nat12 wf.w12
      have lr' := wf.turnR lr
      have lc' := wf.turnC lc
      have cl1 := classes_len (e := ent sq) (cols := cols) lr
      have cl2 := classes_len (e := ent (turn sq)) (cols := rows) lc'
      refine dS_when (tst (dcallD (aC (dvar rfl h1) (aC (dvar rfl h2) (aC (dvar rfl h3) aN))) ⟨sq, rows, cols, wf, lr, lc, rfl, rfl⟩)) (fun hb H1 e1 => ?_) fun hb H1 e1 => ?_
      · rw [if_pos hb] at q
        exact dS_ret (d := .bl true) dbl (q.up e1)
      · rw [if_neg (by rw [hb]; decide)] at q
        refine (dcallD (d := .lst ((classes (ent sq) cols rows).map lnD)) (aC (dvar rfl (h1.mono e1)) (aC (dvar rfl (h2.mono e1)) (aC (dvar rfl (h3.mono e1)) aN))) ⟨sq, rows, cols, wf, lr, lc, rfl, rfl⟩ : EvD _ _ H1 _) H1 (Ex.refl _) _ fun va H2 e2 hva => (dcallD (d := sqD (turn sq)) (aC (dvar rfl (h1.mono (e1.trans e2))) aN) ⟨sq, wf, rfl, rfl⟩ : EvD _ _ H2 _) H2 (Ex.refl _) _ fun vb H3 e3 hvb => ⟨va, vb, rfl, ?_⟩
        have ee := (e1.trans e2).trans e3
        refine dS_when (tst (dgt (dlenL (dvar rfl (hva.mono e3))) dint)) (fun hb2 H4 e4 => ?_) fun hb2 H4 e4 => ?_
        · have hb3 : 1 < (classes (ent sq) cols rows).length := by
            rw [List.length_map] at hb2
            have := of_decide_eq_true hb2
            omega
          rw [if_pos hb3] at q
          refine dS_ret (d := .bl ((classes (ent sq) cols rows).all fun lot => hasTree n sq lot cols)) ?_ (q.up (ee.trans e4))
          refine (dempL (neg := false) (nlc (fun d => !hasTree n sq (intsOf d) cols) (fun d => d) (srcL (dvar rfl (hva.mono (e3.trans e4)))) (by rw [List.length_map]; omega) (fun d hd _ => plainL_all.mp (lns_plain _) d hd) fun d hd x G e hx => ?_).toD).is ?_
          · obtain ⟨lot, hlot, rfl⟩ := List.mem_map.mp hd
            have l1 := classes_ln lr hlot
            have l2 := classes_small lr hlot hb3
            refine bName ⟨rfl, et_not (tst (dcallD (aC (dvar rfl (h1.mono ((ee.trans e4).trans e))) (aC (dvar rfl hx) (aC (dvar rfl (h3.mono ((ee.trans e4).trans e))) aN))) ⟨sq, lot, cols, wf, l1, lc, by omega, rfl, by rw [ints_lnD]⟩)), fun _ => dvar rfl hx⟩
          · rw [List.map_id', fil_lns _ fun c => !hasTree n sq c cols]
            refine congrArg Dat.bl ?_
            show List.isEmpty _ = _
            rw [List.isEmpty_map, filt_none]
            simp
        · have hb3 : ¬ 1 < (classes (ent sq) cols rows).length := by
            rw [List.length_map] at hb2
            have := of_decide_eq_false hb2
            omega
          rw [if_neg hb3] at q
          refine dq_asg (dcallD (d := .lst ((classes (ent (turn sq)) rows cols).map lnD)) (aC (dvar rfl (hvb.mono e4)) (aC (dvar rfl (h3.mono (ee.trans e4))) (aC (dvar rfl (h2.mono (ee.trans e4))) aN))) ⟨turn sq, cols, rows, turn_wf wf, lc', lr', rfl, rfl⟩) fun vc H5 e5 hvc => ?_
          have ee := (ee.trans e4).trans e5
          refine dS_ret (d := .bl (decide ((classes (ent (turn sq)) rows cols).length > 1) && (classes (ent (turn sq)) rows cols).all fun lot => hasTree n sq rows lot)) ?_ (q.up ee)
          refine dand ((dgt (dlenL (dvar rfl hvc)) dint).is ?_) fun hb4 => ?_
          · rw [List.length_map]
            refine congrArg Dat.bl (decide_eq_decide.mpr ?_)
            omega
          · have hb5 := of_decide_eq_true hb4
            refine (dempL (neg := false) (nlc (fun d => !hasTree n sq rows (intsOf d)) (fun d => d) (srcL (dvar rfl hvc)) (by rw [List.length_map]; omega) (fun d hd _ => plainL_all.mp (lns_plain _) d hd) fun d hd x G e hx => ?_).toD).is ?_
            · obtain ⟨lot, hlot, rfl⟩ := List.mem_map.mp hd
              have l1 := classes_ln lc' hlot
              rw [turn_len] at l1
              have l2 := classes_small lc' hlot hb5
              refine bName ⟨rfl, et_not (tst (dcallD (aC (dvar rfl (h1.mono (ee.trans e))) (aC (dvar rfl (h2.mono (ee.trans e))) (aC (dvar rfl hx) aN))) ⟨sq, rows, lot, wf, lr, l1, by omega, rfl, by rw [ints_lnD]⟩)), fun _ => dvar rfl hx⟩
            · rw [List.map_id', fil_lns _ fun c => !hasTree n sq rows c]
              refine congrArg Dat.bl ?_
              show List.isEmpty _ = _
              rw [List.isEmpty_map, filt_none]
              simp
end

end Kw
namespace Kw
open PySem
mutual
theorem fits_mono : ∀ {n m : Nat} (d : Dat), n ≤ m → d.fits n = true → d.fits m = true
  | 0, m, d, _, h => by simp [Dat.fits] at h
  | n + 1, 0, d, h1, h => by omega
  | n + 1, m + 1, .tup ds, h1, h => by
    simp only [Dat.fits, Bool.and_eq_true] at h ⊢
    exact ⟨h.1, fitsL_mono ds (by omega) h.2⟩
  | n + 1, m + 1, .lst _, _, h => by simp [Dat.fits] at h
  | n + 1, m + 1, .non, _, _ => rfl
  | n + 1, m + 1, .bl _, _, _ => rfl
  | n + 1, m + 1, .int _, _, _ => rfl
  | n + 1, m + 1, .str _, _, _ => rfl
  | n + 1, m + 1, .opq, _, _ => rfl
theorem fitsL_mono : ∀ {n m : Nat} (ds : List Dat), n ≤ m → fitsL n ds = true → fitsL m ds = true
  | _, _, [], _, _ => by simp [fitsL]
  | n, m, d :: ds, h1, h => by
    simp only [fitsL, Bool.and_eq_true] at h ⊢
    exact ⟨fits_mono d h1 h.1, fitsL_mono ds h1 h.2⟩
end
theorem fits_mk {n : Nat} {ds : List Dat} (hl : ds.length ≤ 25) (h : ∀ d ∈ ds, d.fits n = true) : (Dat.tup ds).fits (n + 1) = true := fits_tup.mpr ⟨n, rfl, hl, h⟩
theorem fits_ln {ns : List Int} (h : ns.length ≤ 25) : (lnD ns).fits 2 = true := fits_mk (by rw [List.length_map]; exact h) fun d hd => by
  obtain ⟨n, _, rfl⟩ := List.mem_map.mp hd
  rfl
theorem fits_lk (l : Int × Int × Int) : (lkD l).fits 2 = true := rfl
theorem fits_lks {ls : Lks} (h : ls.length ≤ 25) : (Dat.tup (ls.map lkD)).fits 3 = true := fits_mk (by rw [List.length_map]; exact h) fun d hd => by
  obtain ⟨n, _, rfl⟩ := List.mem_map.mp hd
  exact fits_lk n
theorem fits_lns {cs : List (List Int)} (h : cs.length ≤ 25) (h2 : ∀ c ∈ cs, c.length ≤ 25) : (Dat.tup (cs.map lnD)).fits 3 = true := fits_mk (by rw [List.length_map]; exact h) fun d hd => by
  obtain ⟨n, hn, rfl⟩ := List.mem_map.mp hd
  exact fits_ln (h2 n hn)
theorem joinM_fits {w : Str} {cs : List (List Int)} {ps : List (Bool × Dat)} {n : Nat} (hn : 3 ≤ n) (h1 : cs.length ≤ 25) (h2 : ∀ c ∈ cs, c.length ≤ 25) (h3 : ps.length ≤ 25) (h4 : ∀ p ∈ ps, p.2.fits n = true) : (joinM w cs ps).2.fits (n + 2) = true := by
  unfold joinM
  split
  · rename_i p l h
    have : p ∈ ps.filter fun p => !p.1 := by rw [h]; exact List.mem_cons_self
    exact fits_mono _ (by omega) (h4 p (List.mem_filter.mp this).1)
  · refine fits_mk (by simp) fun d hd => ?_
    simp only [List.mem_cons, List.not_mem_nil, or_false] at hd
    rcases hd with rfl | rfl | rfl
    · rfl
    · exact fits_mono _ (by omega) (fits_lns h1 h2)
    · refine fits_mk (by rw [List.length_map]; exact h3) fun d hd => ?_
      obtain ⟨p, hp, rfl⟩ := List.mem_map.mp hd
      exact h4 p hp
theorem wf_turnR {sq : Sq} {rows : List Int} (wf : Wf sq) (h : Ln sq.length rows) : Ln (wid (turn sq)) rows := by rw [turn_wid wf]; exact h
theorem wf_turnC {sq : Sq} {cols : List Int} (wf : Wf sq) (h : Ln (wid sq) cols) : Ln (turn sq).length cols := by rw [turn_len]; exact h
theorem paper_fits {sq : Sq} (wf : Wf sq) : ∀ (n : Nat) {rows cols : List Int}, Ln sq.length rows → Ln (wid sq) cols → (paperM n sq rows cols).2.fits (2 * n + 4) = true
  | 0, rows, cols, lr, lc => rfl
  | n + 1, rows, cols, lr, lc => by
    have r12 := Nat.le_trans lr.len wf.len
    have c12 := Nat.le_trans lc.len wf.w12
    have lc' := wf_turnC wf lc
    have cl1 := classes_len (e := ent sq) (cols := cols) lr
    have cl2 := classes_len (e := ent (turn sq)) (cols := rows) lc'
    have ok1 := classes_ok (e := ent sq) (cols := cols) lr
    have ok2 := classes_ok (e := ent (turn sq)) (cols := rows) lc'
    unfold paperM
    split
    · rfl
    · split
      · refine joinM_fits (n := 2 * n + 4) (by omega) (by omega) (fun c hc => ?_) (by rw [List.length_map]; omega) fun p hp => ?_
        · have := ((ok1.lot c hc).2).length_le
          omega
        · obtain ⟨lot, hlot, rfl⟩ := List.mem_map.mp hp
          exact paper_fits wf n (classes_ln lr hlot) lc
      · split
        · refine joinM_fits (n := 2 * n + 4) (by omega) (by omega) (fun c hc => ?_) (by rw [List.length_map]; omega) fun p hp => ?_
          · have := ((ok2.lot c hc).2).length_le
            omega
          · obtain ⟨lot, hlot, rfl⟩ := List.mem_map.mp hp
            have l1 := classes_ln lc' hlot
            rw [turn_len] at l1
            exact paper_fits wf n lr l1
        · refine fits_mk (by simp) fun d hd => ?_
          have k1 := ok1.links
          have k2 := ok2.links
          simp only [List.mem_cons, List.not_mem_nil, or_false] at hd
          rcases hd with rfl | rfl | rfl | rfl
          · exact fits_mono _ (by omega) (fits_ln (by omega))
          · exact fits_mono _ (by omega) (fits_ln (by omega))
          · exact fits_mono _ (by omega) (fits_lks (by omega))
          · exact fits_mono _ (by omega) (fits_lks (by omega))
theorem joinM_locked {w : Str} {cs : List (List Int)} {ps : List (Bool × Dat)} (h : ∀ p ∈ ps, p.1 = false → ∃ ds, p.2 = .tup ds ∧ ds.length = 4) (h2 : (joinM w cs ps).1 = false) : ∃ ds, (joinM w cs ps).2 = .tup ds ∧ ds.length = 4 := by
  unfold joinM at h2 ⊢
  split
  · rename_i p l e
    have : p ∈ ps.filter fun p => !p.1 := by rw [e]; exact List.mem_cons_self
    have := List.mem_filter.mp this
    exact h p this.1 (by simpa using this.2)
  · rename_i e
    rw [e] at h2
    cases h2
theorem paper_locked {sq : Sq} : ∀ (n : Nat) (rows cols : List Int), (paperM n sq rows cols).1 = false → ∃ ds, (paperM n sq rows cols).2 = .tup ds ∧ ds.length = 4
  | 0, rows, cols, h => by cases h
  | n + 1, rows, cols, h => by
    unfold paperM at h ⊢
    split
    · rename_i e
      rw [if_pos e] at h
      cases h
    · rename_i e
      rw [if_neg e] at h
      split
      · rename_i e
        rw [if_pos e] at h
        refine joinM_locked (fun p hp hq => ?_) h
        obtain ⟨lot, _, rfl⟩ := List.mem_map.mp hp
        exact paper_locked n lot cols hq
      · rename_i e
        rw [if_neg e] at h
        split
        · rename_i e
          rw [if_pos e] at h
          refine joinM_locked (fun p hp hq => ?_) h
          obtain ⟨lot, _, rfl⟩ := List.mem_map.mp hp
          exact paper_locked n rows lot hq
        · exact ⟨_, rfl, rfl⟩
end Kw
namespace Kw
open PySem PySem.Spec PyProof.Rows L2 Evl
def domJoin : List Dat → Dat → Prop := fun ds d => ∃ w cs ps, cs.length ≤ 12 ∧ ps.length ≤ 12 ∧ (∀ p ∈ ps, p.2.plain = true) ∧ ds = [.str w, .lst (cs.map lnD), .lst (ps.map paperD)] ∧ d = paperD (joinM w cs ps)
def domPaper (n : Nat) : List Dat → Dat → Prop := fun ds d => ∃ sq rows cols, Wf sq ∧ Ln sq.length rows ∧ Ln (wid sq) cols ∧ rows.length + cols.length ≤ n ∧ ds = [sqD sq, lnD rows, lnD cols] ∧ d = paperD (paperM n sq rows cols)
def domWhole (n : Nat) : List Dat → Dat → Prop := fun ds d => ∃ sq, Wf sq ∧ sq.length + wid sq ≤ n ∧ ds = [sqD sq] ∧ d = wholeD (paperM n sq (upto sq.length) (upto (wid sq)))
def strOf : Dat → Str
  | .str s => s
  | _ => ""
theorem paperD_plain {p : Bool × Dat} (h : p.2.plain = true) : (paperD p).plain = true := by
  unfold paperD
  rw [plain_tup]
  simp [plainL, wordD, Dat.plain, h]
theorem paper_plain {sq : Sq} (wf : Wf sq) {n : Nat} {rows cols : List Int} (lr : Ln sq.length rows) (lc : Ln (wid sq) cols) : (paperM n sq rows cols).2.plain = true := fits_plain (paper_fits wf n lr lc)
section
variable {P : Program} {w : World} {K : PySem.W.Frag} {mg : Str → Option Value} {base : Heap}
theorem ok_joined_paper (T : Txt K mg) : FnOk P w K mg base CX0 1 T.a_joined_paper T.d_joined_paper ["word", "classes", "papers"] (SpD domJoin) := by
  refine T.F_joined_paper.ok sc_joined_paper (fun vs H Q E h => ?_) (fun cdv A outer s H vs Q E hr h => ?_)
  · obtain ⟨ds, d, hv, ⟨wd, cs, ps, lcs, lps, hpl, rfl, rfl⟩, q⟩ := h
    exact hv.len
  · obtain ⟨ds, d, hv, ⟨wd, cs, ps, lcs, lps, hpl, rfl, rfl⟩, q⟩ := h
    obtain ⟨v1, _, rfl, h1, v2, _, rfl, h2, hv⟩ := hv
    obtain ⟨v3, rfl, h3⟩ := hv.one
    refine ⟨_, (pss_cons (ps_setLc (own := [("kind", 4), ("told", 5)]) (i := 3) rfl sc_joined_paper.nd rfl rfl (sw_true rfl rfl rfl (by kernel_rfl)) (k_list (K := K) rfl (pv 2)) (blkOk_by (by kernel_rfl)) (fun _ _ _ _ _ => (k_pgtup (K := K) (n := 2) rfl rfl (pgs_cons (pg_name (i := 4) sc_joined_paper.nd rfl (.inl rfl)) (pgs_cons (pg_name (i := 5) sc_joined_paper.nd rfl (.inl rfl)) pgs_nil)))) (fun _ _ _ _ _ => (pts_one (pt_cmpR op_eq (pv 4) (pe_glob (v := .str "locked") (by rfl) T.g_LOCKED ⟨_, rfl⟩) (nomark _)))) (fun _ _ _ _ _ => (pv 5)))
      (pss_cons (ps_if (pt_cmpR (k_neE (K := K) rfl hr.units0) (pv 3) (pe_lst pa_nil) (nomark _)) (pss_one (ps_ret (pe_tup (pa_cons (pe_glob (v := .str "locked") (by rfl) T.g_LOCKED ⟨_, rfl⟩) (pa_cons (pe_ix (k_ixL (K := K) rfl) (pv 3) pe_int (fun _ _ => rfl)) pa_nil))))) pss_nil)
      (pss_one (ps_ret (pe_tup (pa_cons (pe_glob (v := .str "tree") (by rfl) T.g_TREE ⟨_, rfl⟩) (pa_cons (pe_tup (pa_cons (pv 0) (pa_cons (pe_callTy (k_tupOf (K := K) rfl) (by rfl) T.z_tuple (by decide +kernel) (pa_cons (pv 1) pa_nil)) (pa_cons (pe_callTy (k_tupOf (K := K) rfl) (by rfl) T.z_tuple (by decide +kernel) (pa_cons (pe_lc (own := [("kind", 4), ("told", 5)]) rfl sc_joined_paper.nd (k_list (K := K) rfl (pv 2)) (blkOk_by (by kernel_rfl)) (fun _ _ _ _ _ => (k_pgtup (K := K) (n := 2) rfl rfl (pgs_cons (pg_name (i := 4) sc_joined_paper.nd rfl (.inl rfl)) (pgs_cons (pg_name (i := 5) sc_joined_paper.nd rfl (.inl rfl)) pgs_nil)))) (fun _ _ _ _ _ => pts_nil) (fun _ _ _ _ _ => (pv 5))) pa_nil)) pa_nil)))) pa_nil))))))), ?_⟩
    have e1 : ((ps.map paperD).filter fun d => decide (strOf ((items d).headD .non) = "locked")).map (fun d => (items d).getD 1 .non) = (ps.filter fun p => !p.1).map (·.2) := by
      rw [List.filter_map, List.map_map]
      have : (ps.filter ((fun d => decide (strOf ((items d).headD .non) = "locked")) ∘ paperD)) = ps.filter fun p => !p.1 := List.filter_congr fun p _ => by
        obtain ⟨b, d⟩ := p
        cases b <;> rfl
      rw [this]
      rfl
    refine dq_asgN ((nlc (fun d => decide (strOf ((items d).headD .non) = "locked")) (fun d => (items d).getD 1 .non) (srcL (dvar rfl h3)) (by rw [List.length_map]; omega) ?_ ?_).is e1) fun a xs H1 ha x1 hH hl => ?_
    · intro d hd _
      obtain ⟨p, hp, rfl⟩ := List.mem_map.mp hd
      exact hpl p hp
    · intro d hd x G e hx
      obtain ⟨p, hp, rfl⟩ := List.mem_map.mp hd
      exact bTwo hx fun x1 x2 g1 g2 => ⟨rfl, tst (deqS (dvar rfl g1) dstr), fun _ => dvar rfl g2⟩
    · refine dS_when (tst ((dempL (neg := true) (dvar rfl (dv_lst hH hl))))) (fun hb H2 x2 => ?_) fun hb H2 x2 => ?_
      · cases e : ps.filter fun p => !p.1 with
        | nil => rw [e] at hb; cases hb
        | cons p l =>
          have ej : joinM wd cs ps = (false, p.2) := by unfold joinM; rw [e]
          rw [ej] at q
          rw [e] at hl
          refine dS_ret (d := paperD (false, p.2)) (dtup (aC dstr (aC (dixL (dvar rfl ((dv_lst hH hl).mono x2)) dint (by omega) (by rfl)) aN)) (by show 2 ≤ 1000; decide)) (q.up (x1.trans x2))
      · cases e : ps.filter fun p => !p.1 with
        | cons p l => rw [e] at hb; cases hb
        | nil =>
          have ej : joinM wd cs ps = (true, .tup [.str wd, .tup (cs.map lnD), .tup (ps.map (·.2))]) := by unfold joinM; rw [e]
          rw [ej] at q
          have xx := x1.trans x2
          refine dS_ret (d := paperD (true, .tup [.str wd, .tup (cs.map lnD), .tup (ps.map (·.2))])) (dtup (aC dstr (aC (dtup (aC (dvar rfl (h1.mono xx)) (aC (dtupL (dvar rfl (h2.mono xx))) (aC (dtupL ((nlcM (fun d => (items d).getD 1 .non) (srcL (dvar rfl (h3.mono xx))) (by rw [List.length_map]; omega) ?_ ?_).toD.is ?_)) aN))) (by show 3 ≤ 1000; decide)) aN)) (by show 2 ≤ 1000; decide)) (q.up xx)
          · intro d hd
            obtain ⟨p, hp, rfl⟩ := List.mem_map.mp hd
            exact hpl p hp
          · intro d hd x G e hx
            obtain ⟨p, hp, rfl⟩ := List.mem_map.mp hd
            exact bTwo hx fun x1 x2 g1 g2 => ⟨rfl, dvar rfl g2⟩
          · rw [List.map_map]
            rfl
theorem ok_paper_of (T : Txt K mg) : ∀ n, FnOk P w K mg base CX0 (3 + n) T.a_paper_of T.d_paper_of ["square", "rows", "columns"] (SpD (domPaper n))
  | 0 => by
    refine T.F_paper_of.ok sc_paper_of (fun vs H Q E h => ?_) (fun cdv A outer s H vs Q E hr h => ?_)
    · obtain ⟨ds, d, hv, ⟨sq, rows, cols, wf, lr, lc, hn, rfl, rfl⟩, q⟩ := h
      exact hv.len
    · obtain ⟨ds, d, hv, ⟨sq, rows, cols, wf, lr, lc, hn, rfl, rfl⟩, q⟩ := h
      have := lr.pos
      omega
  | n + 1 => by
    have G_paper_of := ok_paper_of T n
    have G_classes_of := ok_classes_of (P := P) (w := w) (base := base) T
    have G_is_flat := ok_is_flat (P := P) (w := w) (base := base) T
    have G_joined_paper := ok_joined_paper (P := P) (w := w) (base := base) T
    have G_turned_square := ok_turned_square (P := P) (w := w) (base := base) T
    refine T.F_paper_of.ok sc_paper_of (fun vs H Q E h => ?_) (fun cdv A outer s H vs Q E hr h => ?_)
    · obtain ⟨ds, d, hv, ⟨sq, rows, cols, wf, lr, lc, hn, rfl, rfl⟩, q⟩ := h
      exact hv.len
    · obtain ⟨ds, d, hv, ⟨sq, rows, cols, wf, lr, lc, hn, rfl, rfl⟩, q⟩ := h
      obtain ⟨v1, _, rfl, h1, v2, _, rfl, h2, hv⟩ := hv
      obtain ⟨v3, rfl, h3⟩ := hv.one
      replace hr : Room (3 + n) _ := hr
      refine ⟨_, (pss_cons (ps_if (pt_val (pe_call G_is_flat (hr.mono (by omega)) (by rfl) T.g_is_flat T.F_is_flat.kp T.b_is_flat .nil pass0 (pa_cons (pv 0) (pa_cons (pv 1) (pa_cons (pv 2) pa_nil))))) (pss_one (ps_ret (pe_tup (pa_cons (pe_glob (v := .str "tree") (by rfl) T.g_TREE ⟨_, rfl⟩) (pa_cons (pe_tup (pa_cons (pe_glob (v := .str "flat") (by rfl) T.g_FLAT ⟨_, rfl⟩) (pa_cons (pe_ix (k_ixT (K := K) rfl) (pe_ix (k_ixT (K := K) rfl) (pv 0) (pe_ix (k_ixT (K := K) rfl) (pv 1) pe_int (fun _ _ => rfl)) (fun _ _ => rfl)) (pe_ix (k_ixT (K := K) rfl) (pv 2) pe_int (fun _ _ => rfl)) (fun _ _ => rfl)) pa_nil))) pa_nil))))) pss_nil)
      (pss_cons (ps_asg (pe_call G_classes_of (hr.mono (by omega)) (by rfl) T.g_classes_of T.F_classes_of.kp T.b_classes_of .nil pass0 (pa_cons (pv 0) (pa_cons (pv 1) (pa_cons (pv 2) pa_nil)))) (k_pgtup (K := K) (n := 2) rfl rfl (pgs_cons (pg_name (i := 3) sc_paper_of.nd rfl (.inl rfl)) (pgs_cons (pg_name (i := 4) sc_paper_of.nd rfl (.inl rfl)) pgs_nil))))
      (pss_cons (ps_if (pt_cmpR op_gt (pe_callB (k_len (K := K) rfl) (by rfl) T.z_len (by decide +kernel) (pa_cons (pv 3) pa_nil)) pe_int (nomark _)) (pss_one (ps_ret (pe_call G_joined_paper (hr.mono (by omega)) (by rfl) T.g_joined_paper T.F_joined_paper.kp T.b_joined_paper .nil pass0 (pa_cons (pe_glob (v := .str "rows") (by rfl) T.g_ROWS ⟨_, rfl⟩) (pa_cons (pv 3) (pa_cons (pe_lc (own := [("lot", 7)]) rfl sc_paper_of.nd (k_list (K := K) rfl (pv 3)) (blkOk_by (by kernel_rfl)) (fun _ _ _ _ _ => (pg_name (i := 7) sc_paper_of.nd rfl (.inl rfl))) (fun _ _ _ _ _ => pts_nil) (fun _ _ _ _ _ => (pe_call G_paper_of (hr.mono (by omega)) (by rfl) T.g_paper_of T.F_paper_of.kp T.b_paper_of .nil pass0 (pa_cons (pv 0) (pa_cons (pv 7) (pa_cons (pv 2) pa_nil)))))) pa_nil)))))) pss_nil)
      (pss_cons (ps_asg (pe_call G_classes_of (hr.mono (by omega)) (by rfl) T.g_classes_of T.F_classes_of.kp T.b_classes_of .nil pass0 (pa_cons (pe_call G_turned_square (hr.mono (by omega)) (by rfl) T.g_turned_square T.F_turned_square.kp T.b_turned_square .nil pass0 (pa_cons (pv 0) pa_nil)) (pa_cons (pv 2) (pa_cons (pv 1) pa_nil)))) (k_pgtup (K := K) (n := 2) rfl rfl (pgs_cons (pg_name (i := 5) sc_paper_of.nd rfl (.inl rfl)) (pgs_cons (pg_name (i := 6) sc_paper_of.nd rfl (.inl rfl)) pgs_nil))))
      (pss_cons (ps_if (pt_cmpR op_gt (pe_callB (k_len (K := K) rfl) (by rfl) T.z_len (by decide +kernel) (pa_cons (pv 5) pa_nil)) pe_int (nomark _)) (pss_one (ps_ret (pe_call G_joined_paper (hr.mono (by omega)) (by rfl) T.g_joined_paper T.F_joined_paper.kp T.b_joined_paper .nil pass0 (pa_cons (pe_glob (v := .str "columns") (by rfl) T.g_COLUMNS ⟨_, rfl⟩) (pa_cons (pv 5) (pa_cons (pe_lc (own := [("lot", 7)]) rfl sc_paper_of.nd (k_list (K := K) rfl (pv 5)) (blkOk_by (by kernel_rfl)) (fun _ _ _ _ _ => (pg_name (i := 7) sc_paper_of.nd rfl (.inl rfl))) (fun _ _ _ _ _ => pts_nil) (fun _ _ _ _ _ => (pe_call G_paper_of (hr.mono (by omega)) (by rfl) T.g_paper_of T.F_paper_of.kp T.b_paper_of .nil pass0 (pa_cons (pv 0) (pa_cons (pv 1) (pa_cons (pv 7) pa_nil)))))) pa_nil)))))) pss_nil)
      (pss_one (ps_ret (pe_tup (pa_cons (pe_glob (v := .str "locked") (by rfl) T.g_LOCKED ⟨_, rfl⟩) (pa_cons (pe_tup (pa_cons (pe_callTy (k_tupOf (K := K) rfl) (by rfl) T.z_tuple (by decide +kernel) (pa_cons (pv 1) pa_nil)) (pa_cons (pe_callTy (k_tupOf (K := K) rfl) (by rfl) T.z_tuple (by decide +kernel) (pa_cons (pv 2) pa_nil)) (pa_cons (pe_callTy (k_tupOf (K := K) rfl) (by rfl) T.z_tuple (by decide +kernel) (pa_cons (pv 4) pa_nil)) (pa_cons (pe_callTy (k_tupOf (K := K) rfl) (by rfl) T.z_tuple (by decide +kernel) (pa_cons (pv 6) pa_nil)) pa_nil))))) pa_nil)))))))))), ?_⟩
      unfold paperM at q
      have r12 := lr.nat12 wf.len
      have c12 := lc.nat12 wf.w12
      have lr' := wf.turnR lr
      have lc' := wf.turnC lc
      have cl1 := classes_len (e := ent sq) (cols := cols) lr
      have cl2 := classes_len (e := ent (turn sq)) (cols := rows) lc'
      refine dS_when (tst (dcallD (aC (dvar rfl h1) (aC (dvar rfl h2) (aC (dvar rfl h3) aN))) ⟨sq, rows, cols, wf, lr, lc, rfl, rfl⟩)) (fun hb H1 e1 => ?_) fun hb H1 e1 => ?_
      · rw [if_pos hb] at q
        exact dS_ret (dtup (aC dstr (aC (dtup (aC dstr (aC (dEnt wf (dvar rfl (h1.mono e1)) (dHead (dvar rfl (h2.mono e1)) lr.ne) (dHead (dvar rfl (h3.mono e1)) lc.ne) (lr.bd _ lr.head) (lc.bd _ lc.head)) aN)) (by show 2 ≤ 1000; decide)) aN)) (by show 2 ≤ 1000; decide)) (q.up e1)
      · rw [if_neg (by rw [hb]; decide)] at q
        refine dq_asgG (dcallD (aC (dvar rfl (h1.mono e1)) (aC (dvar rfl (h2.mono e1)) (aC (dvar rfl (h3.mono e1)) aN))) ⟨sq, rows, cols, wf, lr, lc, rfl, rfl⟩) fun vv H2 e2 hvv => bTwo hvv fun va vb hva hvb => ?_
        have ee := e1.trans e2
        refine dS_when (tst (dgt (dlenL (dvar rfl hva)) dint)) (fun hb2 H4 e4 => ?_) fun hb2 H4 e4 => ?_
        · have hb3 : (classes (ent sq) cols rows).length > 1 := by
            rw [List.length_map] at hb2
            have := of_decide_eq_true hb2
            omega
          rw [if_pos hb3] at q
          refine dS_ret (dcallD (aC dstr (aC (dvar rfl (hva.mono e4)) (aC ((nlcM (fun d => paperD (paperM n sq (intsOf d) cols)) (srcL (dvar rfl (hva.mono e4))) (by rw [List.length_map]; omega) ?_ ?_).toD.is (e := .lst (((classes (ent sq) cols rows).map fun lot => paperM n sq lot cols).map paperD)) ?_) aN))) ⟨"rows", classes (ent sq) cols rows, _, by omega, ?_, ?_, rfl, rfl⟩) (q.up (ee.trans e4))
          · intro d hd
            obtain ⟨lot, hlot, rfl⟩ := List.mem_map.mp hd
            rw [ints_lnD]
            exact paperD_plain (paper_plain wf (classes_ln lr hlot) lc)
          · intro d hd x G e hx
            obtain ⟨lot, hlot, rfl⟩ := List.mem_map.mp hd
            have l1 := classes_ln lr hlot
            have l2 := classes_small lr hlot hb3
            exact bName ⟨rfl, dcallD (aC (dvar rfl (h1.mono ((ee.trans e4).trans e))) (aC (dvar rfl hx) (aC (dvar rfl (h3.mono ((ee.trans e4).trans e))) aN))) ⟨sq, lot, cols, wf, l1, lc, by omega, rfl, by rw [ints_lnD]⟩⟩
          · rw [List.map_map, List.map_map]
            exact congrArg Dat.lst (List.map_congr_left fun lot _ => by
              show paperD (paperM n sq (intsOf (lnD lot)) cols) = _
              rw [ints_lnD]
              rfl)
          · rw [List.length_map]
            omega
          · intro p hp
            obtain ⟨lot, hlot, rfl⟩ := List.mem_map.mp hp
            exact paper_plain wf (classes_ln lr hlot) lc
        · have hb3 : ¬ (classes (ent sq) cols rows).length > 1 := by
            rw [List.length_map] at hb2
            have := of_decide_eq_false hb2
            omega
          rw [if_neg hb3] at q
          refine dq_asgG (dcallD (aC (d := sqD (turn sq)) (dcallD (aC (dvar rfl (h1.mono (ee.trans e4))) aN) ⟨sq, wf, rfl, rfl⟩) (aC (dvar rfl (h3.mono (ee.trans e4))) (aC (dvar rfl (h2.mono (ee.trans e4))) aN))) ⟨turn sq, cols, rows, turn_wf wf, lc', lr', rfl, rfl⟩) fun vv H5 e5 hvv => bTwo hvv fun vc vd hvc hvd => ?_
          have ee := (ee.trans e4).trans e5
          have hvb5 := hvb.mono (e4.trans e5)
          refine dS_when (tst (dgt (dlenL (dvar rfl hvc)) dint)) (fun hb4 H6 e6 => ?_) fun hb4 H6 e6 => ?_
          · have hb5 : (classes (ent (turn sq)) rows cols).length > 1 := by
              rw [List.length_map] at hb4
              have := of_decide_eq_true hb4
              omega
            rw [if_pos hb5] at q
            refine dS_ret (dcallD (aC dstr (aC (dvar rfl (hvc.mono e6)) (aC ((nlcM (fun d => paperD (paperM n sq rows (intsOf d))) (srcL (dvar rfl (hvc.mono e6))) (by rw [List.length_map]; omega) ?_ ?_).toD.is (e := .lst (((classes (ent (turn sq)) rows cols).map fun lot => paperM n sq rows lot).map paperD)) ?_) aN))) ⟨"columns", classes (ent (turn sq)) rows cols, _, by omega, ?_, ?_, rfl, rfl⟩) (q.up (ee.trans e6))
            · intro d hd
              obtain ⟨lot, hlot, rfl⟩ := List.mem_map.mp hd
              have l1 := classes_ln lc' hlot
              rw [turn_len] at l1
              rw [ints_lnD]
              exact paperD_plain (paper_plain wf lr l1)
            · intro d hd x G e hx
              obtain ⟨lot, hlot, rfl⟩ := List.mem_map.mp hd
              have l1 := classes_ln lc' hlot
              rw [turn_len] at l1
              have l2 := classes_small lc' hlot hb5
              exact bName ⟨rfl, dcallD (aC (dvar rfl (h1.mono ((ee.trans e6).trans e))) (aC (dvar rfl (h2.mono ((ee.trans e6).trans e))) (aC (dvar rfl hx) aN))) ⟨sq, rows, lot, wf, lr, l1, by omega, rfl, by rw [ints_lnD]⟩⟩
            · rw [List.map_map, List.map_map]
              exact congrArg Dat.lst (List.map_congr_left fun lot _ => by
                show paperD (paperM n sq rows (intsOf (lnD lot))) = _
                rw [ints_lnD]
                rfl)
            · rw [List.length_map]
              omega
            · intro p hp
              obtain ⟨lot, hlot, rfl⟩ := List.mem_map.mp hp
              have l1 := classes_ln lc' hlot
              rw [turn_len] at l1
              exact paper_plain wf lr l1
          · have hb5 : ¬ (classes (ent (turn sq)) rows cols).length > 1 := by
              rw [List.length_map] at hb4
              have := of_decide_eq_false hb4
              omega
            rw [if_neg hb5] at q
            exact dS_ret (dtup (aC dstr (aC (dtup (aC (dtupT (dvar rfl (h2.mono (ee.trans e6)))) (aC (dtupT (dvar rfl (h3.mono (ee.trans e6)))) (aC (dtupL (dvar rfl (hvb5.mono e6))) (aC (dtupL (dvar rfl (hvd.mono e6))) aN)))) (by show 4 ≤ 1000; decide)) aN)) (by show 2 ≤ 1000; decide)) (q.up (ee.trans e6))
theorem head_wid {sq : Sq} (wf : Wf sq) : (sq.getD (0 : Int).toNat []).length = wid sq := by
  have : sq.getD 0 [] = sq.headD [] := by cases sq <;> rfl
  rw [show (0 : Int).toNat = 0 from rfl, this]
  rfl
theorem ok_tree_or_locked (T : Txt K mg) (n : Nat) : FnOk P w K mg base CX0 (5 + n) T.a_tree_or_locked T.d_tree_or_locked ["square"] (SpD (domWhole n)) := by
  have G_paper_of := ok_paper_of (P := P) (w := w) (base := base) T n
  have G_require_square := ok_require_square (P := P) (w := w) (base := base) T
  rw [show 5 + n = (4 + n) + 1 by omega]
  refine T.F_tree_or_locked.ok sc_tree_or_locked (fun vs H Q E h => ?_) (fun cdv A outer s H vs Q E hr h => ?_)
  · obtain ⟨ds, d, hv, ⟨sq, wf, hn, rfl, rfl⟩, q⟩ := h
    exact hv.len
  · obtain ⟨ds, d, hv, ⟨sq, wf, hn, rfl, rfl⟩, q⟩ := h
    obtain ⟨v1, rfl, h1⟩ := hv.one
    refine ⟨_, (pss_cons (ps_expr (pe_call G_require_square (hr.mono (by omega)) (by rfl) T.g_require_square T.F_require_square.kp T.b_require_square .nil pass0 (pa_cons (pv 0) pa_nil)))
      (pss_cons (ps_asg (pe_call G_paper_of (hr.mono (by omega)) (by rfl) T.g_paper_of T.F_paper_of.kp T.b_paper_of .nil pass0 (pa_cons (pv 0) (pa_cons (pe_tupRg rfl (by rfl) T.z_tuple (prg_1 (by rfl) T.z_range (pe_callB (k_len (K := K) rfl) (by rfl) T.z_len (by decide +kernel) (pa_cons (pv 0) pa_nil)))) (pa_cons (pe_tupRg rfl (by rfl) T.z_tuple (prg_1 (by rfl) T.z_range (pe_callB (k_len (K := K) rfl) (by rfl) T.z_len (by decide +kernel) (pa_cons (pe_ix (k_ixT (K := K) rfl) (pv 0) pe_int (fun _ _ => rfl)) pa_nil)))) pa_nil)))) (k_pgtup (K := K) (n := 2) rfl rfl (pgs_cons (pg_name (i := 1) sc_tree_or_locked.nd rfl (.inl rfl)) (pgs_cons (pg_name (i := 2) sc_tree_or_locked.nd rfl (.inl rfl)) pgs_nil))))
      (pss_one (ps_ret (pe_ifExp (pt_cmpR op_eq (pv 1) (pe_glob (v := .str "tree") (by rfl) T.g_TREE ⟨_, rfl⟩) (nomark _)) (pe_tup (pa_cons (pe_glob (v := .str "tree") (by rfl) T.g_TREE ⟨_, rfl⟩) (pa_cons (pv 2) pa_nil))) (pe_tup (pa_cons (pe_glob (v := .str "locked") (by rfl) T.g_LOCKED ⟨_, rfl⟩) (StX.pa_star (pv 2) pa_nil)))))))), ?_⟩
    have hw := wf.w12
    have hw0 := wf.w0
    have hl := wf.len
    have hp := List.length_pos_iff.mpr wf.ne
    have lr := upto_ln hp
    have lc := upto_ln hw0
    refine dq_drop (dcallD (aC (dvar rfl h1) aN) ⟨sq, wf, rfl, rfl⟩) fun H1 e1 => ?_
    refine dq_asgG (dcallD (aC (dvar rfl (h1.mono e1)) (aC (d := lnD (upto sq.length)) (drgT ((dlenT (dvar rfl (h1.mono e1))).is (by rw [List.length_map])) (by omega)) (aC (d := lnD (upto (wid sq))) (drgT ((dlenT (dRow wf (r := 0) (dvar rfl (h1.mono e1)) dint ⟨by omega, by omega⟩)).is (by rw [List.length_map, head_wid wf])) (by omega)) aN))) ⟨sq, upto sq.length, upto (wid sq), wf, lr, lc, by rw [upto_len, upto_len]; omega, rfl, rfl⟩) fun vv H2 e2 hvv => bTwo hvv fun va vb hva hvb => ?_
    refine dS_ret (dif (tstB (deqS (dvar rfl hva) dstr)) (fun hb => ?_) fun hb => ?_) (q.up (e1.trans e2))
    · cases hc : (paperM n sq (upto sq.length) (upto (wid sq))).1 with
      | true =>
        unfold wholeD
        rw [hc, if_pos rfl]
        exact dtup (aC dstr (aC (dvar rfl hvb) aN)) (by show 2 ≤ 1000; decide)
      | false => rw [hc] at hb; cases hb
    · cases hc : (paperM n sq (upto sq.length) (upto (wid sq))).1 with
      | true => rw [hc] at hb; cases hb
      | false =>
        unfold wholeD
        rw [hc]
        obtain ⟨ds, e, e2⟩ := paper_locked n _ _ hc
        rw [e] at hvb ⊢
        exact (dtup (aC dstr (aS (dvar rfl hvb) aN)) (by simp [e2])).is (by simp [items])
end

end Kw
namespace Kw
open PySem
theorem ins_perm (x : Int) : ∀ ns : List Int, (ins x ns).Perm (x :: ns)
  | [] => .refl _
  | y :: r => by
    unfold ins
    split
    · exact .refl _
    · exact ((ins_perm x r).cons y).trans (.swap _ _ _)
theorem srt_perm : ∀ ns : List Int, (srt ns).Perm ns
  | [] => .refl _
  | x :: r => (ins_perm x (srt r)).trans ((srt_perm r).cons x)
theorem ins_le (x : Int) : ∀ {ns : List Int}, ns.Pairwise (· ≤ ·) → (ins x ns).Pairwise (· ≤ ·)
  | [], _ => by simp [ins]
  | y :: r, h => by
    have h1 := List.pairwise_cons.mp h
    unfold ins
    split
    · rename_i hxy
      exact List.pairwise_cons.mpr ⟨fun z hz => by
        rcases List.mem_cons.mp hz with rfl | hz
        · exact hxy
        · exact Int.le_trans hxy (h1.1 z hz), h⟩
    · rename_i hxy
      refine List.pairwise_cons.mpr ⟨fun z hz => ?_, ins_le x h1.2⟩
      rcases List.mem_cons.mp ((ins_perm x r).subset hz) with rfl | hz
      · omega
      · exact h1.1 z hz
theorem srt_le : ∀ ns : List Int, (srt ns).Pairwise (· ≤ ·)
  | [] => .nil
  | x :: r => ins_le x (srt_le r)
theorem srt_eq {ns ms : List Int} (hp : ns.Perm ms) (hs : ms.Pairwise (· < ·)) : srt ns = ms :=
  List.Perm.eq_of_pairwise (fun a b _ _ h1 h2 => Int.le_antisymm h1 h2) (srt_le ns) (hs.imp fun h => by omega) ((srt_perm ns).trans hp)
theorem asc_pw : ∀ {ns : List Int}, asc ns = true → ns.Pairwise (· < ·)
  | [], _ => .nil
  | [x], _ => by simp
  | x :: y :: r, h => by
    unfold asc at h
    simp only [List.tail_cons, List.zip_cons_cons, List.all_cons, Bool.and_eq_true, decide_eq_true_eq] at h
    have ih : (y :: r).Pairwise (· < ·) := asc_pw (by unfold asc; simpa using h.2)
    refine List.pairwise_cons.mpr ⟨fun z hz => ?_, ih⟩
    rcases List.mem_cons.mp hz with rfl | hz
    · exact h.1
    · have := (List.pairwise_cons.mp ih).1 z hz
      omega
theorem pw_asc : ∀ {ns : List Int}, ns.Pairwise (· < ·) → asc ns = true
  | [], _ => rfl
  | [x], _ => rfl
  | x :: y :: r, h => by
    have h1 := List.pairwise_cons.mp h
    have ih := pw_asc h1.2
    unfold asc at ih ⊢
    simp only [List.tail_cons, List.zip_cons_cons, List.all_cons, Bool.and_eq_true, decide_eq_true_eq] at ih ⊢
    exact ⟨h1.1 y List.mem_cons_self, ih⟩
theorem ints_all {lo hi : Int} {ns : List Int} (h : ∀ x ∈ ns, lo ≤ x ∧ x ≤ hi) : ((ns.map Dat.int).all fun x => within x lo hi) = true := by
  rw [List.all_map, List.all_eq_true]
  intro x hx
  simpa [within] using h x hx
theorem ints_of (ns : List Int) : (ns.map Dat.int).map intOf = ns := by simp [Function.comp_def, intOf]
theorem within_int {lo hi : Int} : ∀ {ds : List Dat}, (ds.all fun x => within x lo hi) = true → ds = (ds.map intOf).map Dat.int ∧ ∀ x ∈ ds.map intOf, lo ≤ x ∧ x ≤ hi
  | [], _ => ⟨rfl, fun x hx => absurd hx List.not_mem_nil⟩
  | d :: ds, h => by
    rw [List.all_cons, Bool.and_eq_true] at h
    have ih := within_int h.2
    rw [List.map_cons, List.map_cons, ← ih.1]
    cases d with
    | int i =>
      refine ⟨rfl, fun x hx => ?_⟩
      rcases List.mem_cons.mp hx with rfl | hx
      · simpa [within] using h.1
      · exact ih.2 x hx
    | _ => exact absurd h.1 (by simp [within])
theorem lines_ln {x : Dat} {n : Nat} (h : linesB x n = true) : ∃ ns, x = lnD ns ∧ intsOf x = ns ∧ Ln n ns := by
  cases x with
  | tup ds =>
    simp only [linesB, Bool.and_eq_true, Bool.not_eq_true', List.isEmpty_eq_false_iff] at h
    obtain ⟨⟨h1, h2⟩, h3⟩ := h
    have hi := within_int h2
    refine ⟨ds.map intOf, congrArg Dat.tup hi.1, rfl, by simpa using h1, asc_pw h3, fun y hy => ?_⟩
    have := hi.2 y hy
    omega
  | _ => cases h
theorem ln_lines {n : Nat} {ns : List Int} (h : Ln n ns) : linesB (lnD ns) n = true := by
  simp only [lnD, linesB, Bool.and_eq_true, Bool.not_eq_true', List.isEmpty_eq_false_iff]
  refine ⟨⟨by simpa using h.ne, ints_all fun x hx => ?_⟩, ?_⟩
  · have := h.bd x hx
    omega
  · rw [ints_of]
    exact pw_asc h.asc
theorem lines_all {n : Nat} : ∀ {xs : List Dat}, (xs.all fun x => linesB x n) = true → ∃ cs : List (List Int), xs = cs.map lnD ∧ xs.map intsOf = cs ∧ ∀ c ∈ cs, Ln n c
  | [], _ => ⟨[], rfl, rfl, fun c hc => absurd hc List.not_mem_nil⟩
  | x :: xs, h => by
    rw [List.all_cons, Bool.and_eq_true] at h
    obtain ⟨cs, h1, h2, h3⟩ := lines_all h.2
    obtain ⟨ns, e, e2, l⟩ := lines_ln h.1
    refine ⟨ns :: cs, by rw [e, h1]; rfl, by rw [List.map_cons, h2, e2], fun c hc => ?_⟩
    rcases List.mem_cons.mp hc with rfl | hc
    · exact l
    · exact h3 c hc
/-! ## in which lot a row is -/
def plc (cs : List (List Int)) (r : Int) : Nat := cs.findIdx fun c => c.contains r
theorem plc_cons (c : List Int) (cs : List (List Int)) (r : Int) : plc (c :: cs) r = if r ∈ c then 0 else plc cs r + 1 := by
  unfold plc
  rw [List.findIdx_cons]
  by_cases h : r ∈ c
  · simp [h]
  · simp [h]
theorem apart_iff {e : En} {cols : List Int} : ∀ {cs : List (List Int)}, cs.flatten.Nodup → (apart e cols cs = true ↔ ∀ r ∈ cs.flatten, ∀ o ∈ cs.flatten, plc cs r ≠ plc cs o → lkB e cols r o = false)
  | [], _ => by simp [apart]
  | c :: cs, hn => by
    rw [List.flatten_cons, List.nodup_append] at hn
    have ih := apart_iff (e := e) (cols := cols) hn.2.1
    rw [apart, Bool.and_eq_true, ih]
    constructor
    · rintro ⟨h1, h2⟩ r hr o ho hne
      have h1 : ∀ r ∈ c, ∀ o ∈ cs.flatten, lkB e cols r o = false := fun r hr o ho => by
        simp only [Bool.not_eq_true', List.any_eq_false] at h1
        have := h1 r hr
        simp only [Bool.not_eq_true, List.any_eq_false] at this
        exact this o ho
      rw [List.flatten_cons, List.mem_append] at hr ho
      rw [plc_cons, plc_cons] at hne
      by_cases h3 : r ∈ c
      · by_cases h4 : o ∈ c
        · rw [if_pos h3, if_pos h4] at hne
          exact absurd rfl hne
        · exact h1 r h3 o (ho.resolve_left h4)
      · by_cases h4 : o ∈ c
        · rw [lkB_comm]
          exact h1 o h4 r (hr.resolve_left h3)
        · rw [if_neg h3, if_neg h4] at hne
          exact h2 r (hr.resolve_left h3) o (ho.resolve_left h4) fun z => hne (by rw [z])
    · intro h
      refine ⟨?_, fun r hr o ho hne => ?_⟩
      · simp only [Bool.not_eq_true', List.any_eq_false]
        intro r hr
        simp only [Bool.not_eq_true, List.any_eq_false]
        intro o ho
        refine h r (by rw [List.flatten_cons]; exact List.mem_append_left _ hr) o (by rw [List.flatten_cons]; exact List.mem_append_right _ ho) ?_
        rw [plc_cons, plc_cons, if_pos hr, if_neg fun z => hn.2.2 o z o ho rfl]
        omega
      · have h3 : r ∉ c := fun z => hn.2.2 r z r hr rfl
        have h4 : o ∉ c := fun z => hn.2.2 o z o ho rfl
        refine h r (by rw [List.flatten_cons]; exact List.mem_append_right _ hr) o (by rw [List.flatten_cons]; exact List.mem_append_right _ ho) ?_
        rw [plc_cons, plc_cons, if_neg h3, if_neg h4]
        omega
theorem perm_of_srt {ns ms : List Int} (h : srt ns = ms) : ns.Perm ms := h ▸ (srt_perm ns).symm
/-- apart, told by the rows in their order -/
theorem apart_rows {e : En} {cols rows : List Int} {cs : List (List Int)} (hr : rows.Pairwise (· < ·)) (hp : cs.flatten.Perm rows) : apart e cols cs = rows.all fun r => rows.all fun o => !(!decide (plc cs r = plc cs o) && lkB e cols r o) := by
  have nd : rows.Nodup := hr.imp fun h => by omega
  rw [Bool.eq_iff_iff, apart_iff (hp.nodup_iff.mpr nd), List.all_eq_true]
  constructor
  · intro h r hr
    rw [List.all_eq_true]
    intro o ho
    by_cases hd : plc cs r = plc cs o
    · simp [hd]
    · simp [h r (hp.symm.subset hr) o (hp.symm.subset ho) hd]
  · intro h r hr o ho hne
    have h1 := h r (hp.subset hr)
    rw [List.all_eq_true] at h1
    have h2 := h1 o (hp.subset ho)
    simpa [hne] using h2
end Kw
namespace Kw
open PySem PySem.Spec PyProof.Rows L2 Evl
mutual
def Dat.py : Dat → PyData
  | .non => .none
  | .bl b => .bool b
  | .int i => .int i
  | .str s => .str s
  | .tup ds => .tuple (pyL ds)
  | .lst ds => .list (pyL ds)
  | .opq => .none
def pyL : List Dat → List PyData
  | [] => []
  | d :: ds => d.py :: pyL ds
end
mutual
def Dat.told : Dat → Bool
  | .tup ds => toldL ds
  | .lst ds => toldL ds
  | .opq => false
  | _ => true
def toldL : List Dat → Bool
  | [] => true
  | d :: ds => d.told && toldL ds
end
mutual
theorem dp_of {K : PySem.W.Frag} {H : Hp} : ∀ (d : Dat) {v : V}, d.told = true → Dv H d v → Dp K H v d.py
  | .non, _, _, h => by rw [show _ = _ from h]; exact .non
  | .bl b, _, _, h => by rw [show _ = _ from h]; exact .bl b
  | .int i, _, _, h => by rw [show _ = _ from h]; exact .int i
  | .str s, _, _, h => by rw [show _ = _ from h]; exact .str s
  | .tup ds, _, p, ⟨a, xs, h1, h2, h3⟩ => by
    rw [h1, Dat.py]
    exact .tup (SqT.of h2) (dpL_of ds (by simpa only [Dat.told] using p) h3)
  | .lst ds, _, p, ⟨a, xs, h1, h2, h3⟩ => by
    rw [h1, Dat.py]
    exact .lst (SqL.of h2) (dpL_of ds (by simpa only [Dat.told] using p) h3)
  | .opq, _, p, _ => by simp [Dat.told] at p
theorem dpL_of {K : PySem.W.Frag} {H : Hp} : ∀ (ds : List Dat) {xs : List V}, toldL ds = true → DvL H ds xs → DpAll K H xs (pyL ds)
  | [], _, _, h => by rw [show _ = _ from h]; exact .nil
  | d :: ds, _, p, ⟨x, r, h1, h2, h3⟩ => by
    rw [h1, pyL]
    simp only [toldL, Bool.and_eq_true] at p
    exact .cons (dp_of d p.1 h2) (dpL_of ds p.2 h3)
end
section
variable {K : PySem.W.Frag} {σ : L2.St} {H : Hp} {ta tb : TE} {d e : Dat} {ns ms : List Int}
theorem dneD (ha : EvD ta σ H d) (hb : EvD tb σ H e) (h1 : d.told = true) (h2 : e.told = true) (h3 : SeqAt.shaped d.py = true) (h4 : SeqAt.shaped e.py = true) : EvD (tOp (rNeD K) ta tb) σ H (.bl (!PyData.eqv d.py e.py)) := dop ha hb fun H1 _ x y hx hy Q q =>
  ⟨d.py, e.py, dp_of d h1 hx, dp_of e h2 hy, h3, h4, q _ _ (Ex.refl _) rfl⟩
theorem deqD (ha : EvD ta σ H d) (hb : EvD tb σ H e) (h1 : d.told = true) (h2 : e.told = true) (h3 : SeqAt.shaped d.py = true) (h4 : SeqAt.shaped e.py = true) : EvD (tOp (rEqD K) ta tb) σ H (.bl (PyData.eqv d.py e.py)) := dop ha hb fun H1 _ x y hx hy Q q =>
  ⟨d.py, e.py, dp_of d h1 hx, dp_of e h2 hy, h3, h4, q _ _ (Ex.refl _) rfl⟩
theorem told_ints (ns : List Int) : toldL (ns.map Dat.int) = true := by
  induction ns with
  | nil => rfl
  | cons n ns ih => rw [List.map_cons, toldL, ih]; rfl
theorem pyL_ints (ns : List Int) : pyL (ns.map Dat.int) = ns.map PyData.int := by
  induction ns with
  | nil => rfl
  | cons n ns ih => rw [List.map_cons, pyL, ih]; rfl
theorem eqv_ints : ∀ (ns ms : List Int), PyData.eqvAll (ns.map PyData.int) (ms.map PyData.int) = decide (ns = ms)
  | [], [] => rfl
  | [], m :: ms => rfl
  | n :: ns, [] => rfl
  | n :: ns, m :: ms => by
    rw [List.map_cons, List.map_cons, PyData.eqvAll, eqv_ints ns ms, PyData.eqv]
    by_cases h : n = m
    · subst h; simp
    · simp [h]
theorem lay_ints (ns : List Int) : PyData.canLayAll0 (ns.map PyData.int) = true := by
  induction ns with
  | nil => rfl
  | cons n ns ih => rw [List.map_cons, PyData.canLayAll0, ih]; rfl
theorem shaped_ints (ns : List Int) : SeqAt.shaped (.list (ns.map PyData.int)) = true := by
  have hd : PyData.depth (.list (ns.map PyData.int)) ≤ 64 := by
    have : ∀ ns : List Int, PyData.depthAll (ns.map PyData.int) ≤ 1 := fun ns => by
      induction ns with
      | nil => decide
      | cons n ns ih => rw [List.map_cons, PyData.depthAll]; exact Nat.max_le.mpr ⟨Nat.zero_le _, ih⟩
    rw [PyData.depth]
    have := this ns
    omega
  unfold SeqAt.shaped
  rw [PyData.canLay0, lay_ints, decide_eq_true hd]
  rfl
/-- lists of ints compared -/
theorem dneLI (ha : EvD ta σ H (.lst (ns.map Dat.int))) (hb : EvD tb σ H (.lst (ms.map Dat.int))) : EvD (tOp (rNeD K) ta tb) σ H (.bl (!decide (ns = ms))) :=
  (dneD ha hb (by rw [Dat.told]; exact told_ints _) (by rw [Dat.told]; exact told_ints _) (by rw [Dat.py, pyL_ints]; exact shaped_ints _) (by rw [Dat.py, pyL_ints]; exact shaped_ints _)).is (by rw [Dat.py, Dat.py, pyL_ints, pyL_ints, PyData.eqv, eqv_ints])
theorem deqLI (ha : EvD ta σ H (.lst (ns.map Dat.int))) (hb : EvD tb σ H (.lst (ms.map Dat.int))) : EvD (tOp (rEqD K) ta tb) σ H (.bl (decide (ns = ms))) :=
  (deqD ha hb (by rw [Dat.told]; exact told_ints _) (by rw [Dat.told]; exact told_ints _) (by rw [Dat.py, pyL_ints]; exact shaped_ints _) (by rw [Dat.py, pyL_ints]; exact shaped_ints _)).is (by rw [Dat.py, Dat.py, pyL_ints, pyL_ints, PyData.eqv, eqv_ints])
end
end Kw
namespace Kw
open PySem PySem.Spec PyProof.Rows L2 Evl
def domCls (n : Nat) : List Dat → Dat → Prop := fun ds d => ∃ sq rows cols x, Wf sq ∧ Ln sq.length rows ∧ Ln (wid sq) cols ∧ x.fits n = true ∧ ds = [sqD sq, lnD rows, lnD cols, x] ∧ d = .bl (clsB (ent sq) sq.length rows cols x)
theorem flat_map_flat {α β : Type} (l : List α) (f : α → List β) : l.flatMap f = (l.map f).flatten := by rw [List.flatMap_def]
theorem drop_flat (cs : List (List Int)) (k : Nat) : (cs.drop k).flatten.Sublist cs.flatten := by
  have e : cs.flatten = (cs.take k).flatten ++ (cs.drop k).flatten := by rw [← List.flatten_append, List.take_append_drop]
  rw [e]
  exact List.sublist_append_right _ _
theorem any_two (rows os : List Int) (f : Int → Int → Bool) : ((rows.flatMap fun r => os.map fun o => f r o).any id) = rows.any fun r => os.any fun o => f r o := by
  induction rows with
  | nil => rfl
  | cons r rows ih => rw [List.flatMap_cons, List.any_append, ih, List.any_cons, List.any_map]; rfl
theorem rows_of (cs : List (List Int)) : ((cs.map lnD).flatMap fun d => (items d).map fun e => e) = cs.flatten.map Dat.int := by
  induction cs with
  | nil => rfl
  | cons c cs ih => rw [List.map_cons, List.flatMap_cons, ih, List.flatten_cons, List.map_append, List.map_id']; rfl
section
variable {P : Program} {w : World} {K : PySem.W.Frag} {mg : Str → Option Value} {base : Heap}
/-- every row of every lot, a comprehension -/
theorem nrows {K : PySem.W.Frag} {σ : L2.St} {H : Hp} {tl : TE} {j j1 : Nat} {vs vs1 : List Nat} {cs : List (List Int)} (h : EvD tl σ H (.tup (cs.map lnD))) (hz : cs.length ≤ 100) (hz2 : ∀ c ∈ cs, c.length ≤ 1000)
    (hw : ∀ x, wipe ((wipe σ vs).set j (some x)) vs = wipe σ vs) (hw1 : ∀ x y, wipe ((wipe ((wipe σ vs).set j (some x)) vs1).set j1 (some y)) vs1 = wipe ((wipe σ vs).set j (some x)) vs1)
    (hj : ∀ x, ((wipe σ vs).set j (some x))[j]? = some (some x)) (hj1 : ∀ x y, ((wipe ((wipe σ vs).set j (some x)) vs1).set j1 (some y))[j1]? = some (some y)) :
    EvN (tLc2 (iTup K tl) (gName j) tYes (iTup K (tVar j)) (gName j1) tYes (tVar j1) vs vs1) σ H (cs.flatten.map Dat.int) :=
  (nlc2 (fun d => items d) (fun _ e => e) (srcT h) (by rw [List.length_map]; exact hz) (fun d hd => by
    obtain ⟨c, hc, rfl⟩ := List.mem_map.mp hd
    simpa [items, lnD] using hz2 c hc) (plainL_all.mp (lns_plain cs)) (fun d hd e he => by
    obtain ⟨c, hc, rfl⟩ := List.mem_map.mp hd
    exact map_plain e he) hw hw1 (fun d hd x G e hx => by
    obtain ⟨c, hc, rfl⟩ := List.mem_map.mp hd
    exact srcET (dvar (hj x) hx) (plain_ints c)) (fun d hd d2 hd2 x y G e hx hy => dvar (hj1 x y) hy)).is (rows_of cs)
theorem ok_are_classes (T : Txt K mg) (n : Nat) : FnOk P w K mg base CX0 4 T.a_are_classes T.d_are_classes ["square", "rows", "columns", "value"] (SpD (domCls n)) := by
  have G_are_lines := ok_are_lines (P := P) (w := w) (base := base) T
  have G_link_of := ok_link_of (P := P) (w := w) (base := base) T
  refine T.F_are_classes.ok sc_are_classes (fun vs H Q E h => ?_) (fun cdv A outer s H vs Q E hr h => ?_)
  · obtain ⟨ds, d, hv, ⟨sq, rows, cols, x, wf, lr, lc, hf, rfl, rfl⟩, q⟩ := h
    exact hv.len
  · obtain ⟨ds, d, hv, ⟨sq, rows, cols, x, wf, lr, lc, hf, rfl, rfl⟩, q⟩ := h
    obtain ⟨v1, _, rfl, h1, v2, _, rfl, h2, v3, _, rfl, h3, hv⟩ := hv
    obtain ⟨v4, rfl, h4⟩ := hv.one
    refine ⟨_, (pss_cons (ps_if (PW.pt (pw_or (pt_not (pt_val (pe_callB (k_isi (K := K) rfl) (by rfl) T.z_isinstance (by decide +kernel) (pa_cons (pv 3) (pa_cons (pe_bltn (v := .ty "tuple") (by rfl) T.z_tuple (by decide +kernel) rfl) pa_nil))))) (pw_or1 (pt_cmpR op_lt (pe_callB (k_len (K := K) rfl) (by rfl) T.z_len (by decide +kernel) (pa_cons (pv 3) pa_nil)) (pe_glob (v := .int 2) (by rfl) T.g_LEAST_CLASSES ⟨_, rfl⟩) (nomark _))))) (pss_one (ps_ret pe_bl)) pss_nil)
      (pss_cons (ps_if (pt_not (pt_val (pe_callB (k_all (K := K) rfl rfl) (by rfl) T.z_all (by decide +kernel) (pa_cons (pe_lc (own := [("lot", 5)]) rfl sc_are_classes.nd (k_tup (K := K) rfl (pv 3)) (blkOk_by (by kernel_rfl)) (fun _ _ _ _ _ => (pg_name (i := 5) sc_are_classes.nd rfl (.inl rfl))) (fun _ _ _ _ _ => pts_nil) (fun _ _ _ _ _ => (pe_call G_are_lines (hr.mono (by omega)) (by rfl) T.g_are_lines T.F_are_lines.kp T.b_are_lines .nil pass0 (pa_cons (pv 5) (pa_cons (pe_callB (k_len (K := K) rfl) (by rfl) T.z_len (by decide +kernel) (pa_cons (pv 0) pa_nil)) pa_nil))))) pa_nil)))) (pss_one (ps_ret pe_bl)) pss_nil)
      (pss_cons (ps_if (pt_cmpR (op_neD hr.units) (pe_callB (k_sorted (K := K) rfl) (by rfl) T.z_sorted (by decide +kernel) (pa_cons (pe_lc2 (own := [("lot", 5), ("row", 7)]) (vs1 := [7]) rfl sc_are_classes.nd (k_tup (K := K) rfl (pv 3)) (blkOk_by (by kernel_rfl)) (by decide) (fun _ _ _ _ _ => (pg_name (i := 5) sc_are_classes.nd rfl (.inl rfl))) (fun _ _ _ _ _ => pts_nil) (fun _ _ _ _ _ => (k_tup (K := K) rfl (pv 5))) (fun _ _ _ _ _ => (pg_name (i := 7) sc_are_classes.nd rfl (.inl rfl))) (fun _ _ _ _ _ => pts_nil) (fun _ _ _ _ _ => (pv 7))) pa_nil)) (pe_callTy (k_listOf (K := K) rfl) (by rfl) T.z_list (by decide +kernel) (pa_cons (pv 1) pa_nil)) (nomark _)) (pss_one (ps_ret pe_bl)) pss_nil)
      (pss_cons (ps_for PassesOwn.never rfl (pi_enumT (by rfl) T.z_enumerate (pa_cons (pv 3) pa_nil)) (k_pgtup (K := K) (n := 2) rfl rfl (pgs_cons (pg_name (i := 4) sc_are_classes.nd rfl (.inl rfl)) (pgs_cons (pg_name (i := 5) sc_are_classes.nd rfl (.inl rfl)) pgs_nil))) (pss_cons (ps_set (i := 6) sc_are_classes.nd rfl (.inr rfl) (pe_lc2 (own := [("later", 8), ("row", 7)]) (vs1 := [7]) rfl sc_are_classes.nd (k_tup (K := K) rfl (pe_slice (k_slT (K := K) rfl) (pv 3) (po_some (pe_op op_add (pv 4) pe_int)) po_none)) (blkOk_by (by kernel_rfl)) (by decide) (fun _ _ _ _ _ => (pg_name (i := 8) sc_are_classes.nd rfl (.inl rfl))) (fun _ _ _ _ _ => pts_nil) (fun _ _ _ _ _ => (k_tup (K := K) rfl (pv 8))) (fun _ _ _ _ _ => (pg_name (i := 7) sc_are_classes.nd rfl (.inl rfl))) (fun _ _ _ _ _ => pts_nil) (fun _ _ _ _ _ => (pv 7))))
      (pss_one (ps_if (pt_val (pe_callB (k_any (K := K) rfl rfl) (by rfl) T.z_any (by decide +kernel) (pa_cons (pe_lc2 (own := [("row", 7), ("other", 9)]) (vs1 := [9]) rfl sc_are_classes.nd (k_tup (K := K) rfl (pv 5)) (blkOk_by (by kernel_rfl)) (by decide) (fun _ _ _ _ _ => (pg_name (i := 7) sc_are_classes.nd rfl (.inl rfl))) (fun _ _ _ _ _ => pts_nil) (fun _ _ _ _ _ => (k_list (K := K) rfl (pv 6))) (fun _ _ _ _ _ => (pg_name (i := 9) sc_are_classes.nd rfl (.inl rfl))) (fun _ _ _ _ _ => pts_nil) (fun _ _ _ _ _ => (pe_cmpR op_notN (pe_call G_link_of (hr.mono (by omega)) (by rfl) T.g_link_of T.F_link_of.kp T.b_link_of .nil pass0 (pa_cons (pv 0) (pa_cons (pv 7) (pa_cons (pv 9) (pa_cons (pv 2) pa_nil))))) pe_non (nomark _)))) pa_nil))) (pss_one (ps_ret pe_bl)) pss_nil))))
      (pss_one (ps_ret pe_bl)))))), ?_⟩
    cases x with
    | tup xs =>
      obtain ⟨m, rfl, hl, hm⟩ := fits_tup.mp hf
      have hs12 := wf.len
      refine dS_when (et_or (et_not (tst (disi_tuple (dvar rfl h4)))) fun _ => tst (dlt (dlenT (dvar rfl h4)) dint)) (fun hb H1 e1 => ?_) fun hb H1 e1 => ?_
      · refine dS_ret (d := .bl false) dbl (?_ : RetD (.bl false) H1 Q)
        have : clsB (ent sq) sq.length rows cols (.tup xs) = false := by
          have h2 : ¬ 2 ≤ xs.length := by
            simp only [Dat.isTup, Bool.not_true, Bool.false_or, decide_eq_true_eq] at hb
            omega
          simp only [clsB, decide_eq_false h2, Bool.false_and]
        rw [this] at q
        exact q.up e1
      have h2l : 2 ≤ xs.length := by
        simp only [Dat.isTup, Bool.not_true, Bool.false_or, decide_eq_false_iff_not] at hb
        omega
      refine dS_when (et_not (tst (dall (bs := xs.map fun x => linesB x sq.length) ((nlcM (fun d => .bl (linesB d sq.length)) (srcT (dvar rfl (h4.mono e1))) (by omega) (fun _ _ => rfl) fun d hd x G e hx => bName ⟨rfl, dcallD (aC (dvar rfl hx) (aC ((dlenT (dvar rfl (h1.mono (e1.trans e)))).is (by rw [List.length_map])) aN)) ⟨_, _, ⟨m, hm d hd⟩, rfl, rfl⟩⟩).toD.is (by rw [List.map_map]; rfl))))) (fun hb2 H2 e2 => ?_) fun hb2 H2 e2 => ?_
      · refine dS_ret (d := .bl false) dbl (?_ : RetD (.bl false) H2 Q)
        rw [all_map_id] at hb2
        have : clsB (ent sq) sq.length rows cols (.tup xs) = false := by
          simp only [clsB]
          rw [show (xs.all fun x => linesB x sq.length) = false by simpa using hb2]
          simp
        rw [this] at q
        exact q.up (e1.trans e2)
      rw [all_map_id] at hb2
      have hall : (xs.all fun x => linesB x sq.length) = true := by simpa using hb2
      obtain ⟨cs, hxs, hcs, hln⟩ := lines_all hall
      have hB : clsB (ent sq) sq.length rows cols (.tup xs) = (decide (srt cs.flatten = rows) && apart (ent sq) cols cs) := by
        simp only [clsB]
        rw [hall, hcs, decide_eq_true h2l]
        simp
      rw [hB] at q
      subst hxs
      rw [List.length_map] at hl h2l
      have ee := e1.trans e2
      have c12 : ∀ c ∈ cs, c.length ≤ 12 := fun c hc => Nat.le_trans (hln c hc).len hs12
      refine dS_when (b := !decide (srt cs.flatten = rows)) (tst (dneLI (nsorted (nrows (dvar rfl (h4.mono ee)) (by omega) (fun c hc => by have := c12 c hc; omega) (fun _ => rfl) (fun _ _ => rfl) (fun _ => rfl) (fun _ _ => rfl)).toD (srt_perm _) (srt_le _)).toD (nlistT (dvar rfl (h2.mono ee))).toD)) (fun hb3 H3 e3 => ?_) fun hb3 H3 e3 => ?_
      · refine dS_ret (d := .bl false) dbl (?_ : RetD (.bl false) H3 Q)
        rw [show decide (srt cs.flatten = rows) = false by simpa using hb3] at q
        exact q.up (ee.trans e3)
      have hsr : decide (srt cs.flatten = rows) = true := by simpa using hb3
      rw [hsr, Bool.true_and] at q
      have ee3 := ee.trans e3
      refine dq_for (fun i σ' H' => apart (ent sq) cols cs = apart (ent sq) cols (cs.drop i) ∧ ∃ o4 o5 o6 o7 o8 o9, σ' = [some v1, some v2, some v3, some v4, o4, o5, o6, o7, o8, o9]) (srcE (aC (dvar rfl (h4.mono ee3)) aN)) (fun H4 e4 => ⟨rfl, none, none, none, none, none, none, rfl⟩) ?_ ?_
      · rintro i hi σ' H' ex ⟨hap, o4, o5, o6, o7, o8, o9, rfl⟩ y H'' ex2 hy
        rw [List.length_map, List.length_zipIdx, List.length_map] at hi
        have hi2 : i < (cs.map lnD).length := by rw [List.length_map]; exact hi
        rw [List.getElem_map, List.getElem_zipIdx, List.getElem_map] at hy
        have hy : Dv H'' (.tup [.int ((0 + i : Nat) : Int), lnD cs[i]]) y := hy
        rw [Nat.zero_add] at hy
        have hmem : cs[i] ∈ cs := List.getElem_mem hi
        have dr : cs.drop i = cs[i] :: cs.drop (i + 1) := List.drop_eq_getElem_cons hi
        rw [dr, apart] at hap
        refine bTwo hy fun x1 x2 g1 g2 N hN => ?_
        have ee4 := (ee3.trans ex).trans ex2
        refine dq_asgN (nrows (cs := cs.drop (i + 1)) ((dtail (k := i + 1) (dvar rfl (h4.mono ee4)) (dadd (dvar rfl g1) dint)).is (by rw [List.map_drop])) (by rw [List.length_drop]; omega) (fun c hc => by have := c12 c (List.mem_of_mem_drop hc); omega) (fun _ => rfl) (fun _ _ => rfl) (fun _ => rfl) (fun _ _ => rfl)) fun p ys H5 hp e5 hH5 hl5 => ?_
        have hln2 : ∀ r ∈ cs[i], 0 ≤ r ∧ r < (sq.length : Int) := fun r hr => (hln _ hmem).bd r hr
        have hln3 : ∀ r ∈ (cs.drop (i + 1)).flatten, 0 ≤ r ∧ r < (sq.length : Int) := fun r hr => by
          obtain ⟨c, hc, hrc⟩ := List.mem_flatten.mp hr
          exact (hln c (List.mem_of_mem_drop hc)).bd r hrc
        have fl : (cs.drop (i + 1)).flatten.length ≤ 1000 := by
          have := nodup_le (hs := (cs.drop (i + 1)).flatten) (L := rows) ?_ ?_
          · have := lr.nat12 wf.len
            omega
          · have hp := perm_of_srt (of_decide_eq_true hsr)
            have nd := hp.nodup_iff.mpr (lr.asc.imp fun h => by omega)
            exact (drop_flat cs (i + 1)).nodup nd
          · intro a ha
            exact (perm_of_srt (of_decide_eq_true hsr)).subset ((drop_flat cs (i + 1)).subset ha)
        have c12i := c12 _ hmem
        refine s_when (b := cs[i].any fun r => (cs.drop (i + 1)).flatten.any fun o => lkB (ent sq) cols r o) (tstB ?_) (fun hb4 H6 e6 => ?_) fun hb4 H6 e6 => ?_
        refine (dany (bs := cs[i].flatMap fun r => (cs.drop (i + 1)).flatten.map fun o => lkB (ent sq) cols r o) ((nlc2 (fun _ => (cs.drop (i + 1)).flatten.map Dat.int) (fun d e => .bl (lkB (ent sq) cols (intOf d) (intOf e))) (srcT (dvar rfl (g2.mono e5))) ?_ ?_ map_plain (fun _ _ _ _ => rfl) (fun _ => rfl) (fun _ _ => rfl) ?_ ?_).toD.is ?_)).is ?_
        · rw [List.length_map]; omega
        · intro _ _; rw [List.length_map]; exact fl
        · intro d hd z G e hz
          exact srcEL (by rfl) hH5 hl5 e
        · intro d hd d2 hd2 z z2 G e hz hz2
          obtain ⟨r, hr, rfl⟩ := List.mem_map.mp hd
          obtain ⟨o, ho, rfl⟩ := List.mem_map.mp hd2
          refine (dnotN (dcallD (aC (dvar rfl (h1.mono (ee4.trans (e5.trans e)))) (aC (dvar rfl hz) (aC (dvar rfl hz2) (aC (dvar rfl (h3.mono (ee4.trans (e5.trans e)))) aN)))) ⟨sq, r, o, cols, wf, hln2 r hr, hln3 o ho, lc, rfl, rfl⟩)).is ?_
          unfold linkD
          cases h : lkB (ent sq) cols r o <;> simp [h, intOf, Dat.isNon, lkD]
        · simp [List.flatMap_map, List.map_flatMap, Function.comp_def, intOf]
        · rw [any_two]
        · refine dS_ret (d := .bl false) dbl ?_
          rw [hb4] at hap
          rw [hap] at q
          exact q.up ((ee4.trans e5).trans e6)
        · rw [hb4] at hap
          exact hN _ _ (e5.trans e6) ⟨by rw [hap]; rfl, _, _, _, _, _, _, rfl⟩
      · rintro σ' H' ex ⟨hap, o4, o5, o6, o7, o8, o9, rfl⟩
        rw [List.length_map, List.length_zipIdx, List.length_map, List.drop_length] at hap
        rw [hap] at q
        exact dS_ret (d := .bl true) dbl (q.up (ee3.trans ex))
    | _ =>
      refine dS_when (b := true) (et_or (a := true) (b := true) (et_is (et_not (tst (disi_tuple (dvar rfl h4)))) rfl) fun z => by cases z) (fun _ H1 e1 => ?_) fun z => by cases z
      exact dS_ret (d := .bl false) dbl (q.up e1)
end

end Kw
namespace Kw
open PySem PySem.Spec PyProof.Rows L2 Evl
theorem evoD {H : Hp} {l : Addr} {xs ys : List (Key × V)} (h : H l = some (.dK xs)) : Evo H (upd H l (.dK ys)) := ⟨fun b zs hb => by
  rw [upd_ne (ne_of hb h (by intro z; cases z))]
  exact hb, fun b zs hb => ⟨zs, by rw [upd_ne (ne_of hb h (by intro z; cases z))]; exact hb⟩⟩
section
variable {K : PySem.W.Frag} {σ : L2.St} {Hb H H' : Hp} {ta tb tc te tl : TE} {t u : TT} {x y z v : V} {d e : Dat} {ds es : List Dat} {D : Ends} {tu tw tz : TS} {wi : TI} {g : TG}
theorem dS_forE (P : Nat → L2.St → Hp → Prop) (hs : SrcE wi σ Hb H ds) (h0 : ∀ H1, Ex H H1 → P 0 σ H1) (hx : ∀ i σ' H', P i σ' H' → Ex Hb H')
    (hb : ∀ i (hi : i < ds.length) σ' H', P i σ' H' → ∀ x H'', Ex H' H'' → Dv H'' ds[i] x → Bind g x σ' H'' fun σ2 => ∀ N : L2.St → Hp → Prop, (∀ σ3 H3, Evo H'' H3 → P (i + 1) σ3 H3 → N σ3 H3) → tu { D with nx := N, ct := N, bk := D.nx } σ2 H'')
    (hd : ∀ σ' H', Evo H H' → P ds.length σ' H' → D.nx σ' H') : tFor wi g tu D σ H := hs H (Ex.refl H) _ fun J H2 e2 hw => by
  refine ⟨fun i m σ' H' => m = ds.length - i ∧ i ≤ ds.length ∧ Evo H2 H' ∧ P i σ' H', ⟨ds.length, by omega, Nat.zero_le _, Evo.of (Ex.refl _), h0 H2 e2⟩, ?_⟩
  rintro i m σ' H' ⟨rfl, hi, ev, hp⟩
  obtain ⟨hgo, hstop⟩ := hw H' (hx _ _ _ hp) ev
  by_cases hlt : i < ds.length
  · refine .inr ⟨(hgo i ds[i] (List.getElem?_eq_getElem hlt)).1, fun σ3 H3 => Evo H2 H3 ∧ P (i + 1) σ3 H3, fun σ3 H3 hn => ⟨ds.length - (i + 1), by omega, rfl, hlt, hn⟩, fun x H'' hy => ?_⟩
    obtain ⟨ex2, hdx⟩ := (hgo i ds[i] (List.getElem?_eq_getElem hlt)).2 x H'' hy
    exact hb i hlt σ' H' hp x H'' ex2 hdx _ fun σ2 h => h _ fun σ3 H3 e3 h3 => ⟨(ev.trans (Evo.of ex2)).trans e3, h3⟩
  · have e : i = ds.length := by omega
    subst e
    exact .inl ⟨hstop, hd σ' H' ((Evo.of e2).trans ev) hp⟩
theorem dq_forE (P : Nat → L2.St → Hp → Prop) (hs : SrcE wi σ Hb H ds) (h0 : ∀ H1, Ex H H1 → P 0 σ H1) (hx : ∀ i σ' H', P i σ' H' → Ex Hb H')
    (hb : ∀ i (hi : i < ds.length) σ' H', P i σ' H' → ∀ x H'', Ex H' H'' → Dv H'' ds[i] x → Bind g x σ' H'' fun σ2 => ∀ N : L2.St → Hp → Prop, (∀ σ3 H3, Evo H'' H3 → P (i + 1) σ3 H3 → N σ3 H3) → tu { D with nx := N, ct := N, bk := tz D } σ2 H'')
    (hd : ∀ σ' H', Evo H H' → P ds.length σ' H' → tz D σ' H') : tSeq (tFor wi g tu) tz D σ H := dS_forE (D := { D with nx := tz D }) P hs h0 hx hb hd
theorem srcEE {ta : TA} {ds : List Dat} (h : EvAD ta σ H [.tup ds]) (hp : plainL ds = true) : SrcE (iEnT K ta) σ Hb H (ds.zipIdx.map fun p => .tup [.int (p.2 : Nat), p.1]) := fun H1 e1 R q => h H1 e1 _ fun vs H2 e2 hv => by
  obtain ⟨x, rfl, ⟨a, xs, rfl, hH, hl⟩⟩ := hv.one
  refine ⟨a, xs, rfl, SqT.of hH, q _ H2 e2 fun H' _ e => ?_⟩
  have hS : SqT K H' a xs := SqT.of (e.tup _ _ hH)
  have hl' := DvL.evo e _ hp hl
  refine ⟨fun i d hd => ?_, xs, hS, by rw [List.length_map, List.length_zipIdx, hl.len]⟩
  rw [List.getElem?_map] at hd
  obtain ⟨p, hp, rfl⟩ := Option.map_eq_some_iff.mp hd
  rw [List.getElem?_zipIdx] at hp
  obtain ⟨d0, hd0, rfl⟩ := Option.map_eq_some_iff.mp hp
  obtain ⟨x1, hx1, hd1⟩ := hl'.get hd0
  refine ⟨⟨xs, x1, hS, hx1⟩, fun v H'' ⟨T, y1, hv, hT, hH'', f1⟩ => ?_⟩
  have q1 := f1 xs hS
  rw [hx1] at q1
  cases q1
  subst hH''
  refine ⟨Ex.new hT, T, [.int (i : Nat), x1], hv, upd_same, dvl_cons ?_ (dvl_cons (hd1.mono (Ex.new hT)) dvl_nil)⟩
  show V.int (i : Nat) = V.int ((0 + i : Nat) : Int)
  rw [Nat.zero_add]
/-! ### a dict from ints to ints -/
theorem ddget {a : Addr} {k : Nat} {kvs : List (Key × V)} {r z : Int} (hk : σ[k]? = some (some (.ref a))) (hd : H a = some (.dK kvs)) (h : EvD te σ H (.int r)) (hv : valV kvs (.inl r : Key) = some (.int z)) : EvD (tDGet (tVar k) te) σ H (.int z) := fun H1 e1 Q q =>
  ⟨_, hk, h H1 e1 _ fun y H2 e2 hy => ⟨a, .int z, rfl, by
    rw [show y = kV (.inl r) from hy, ← hv]
    exact DGet.k ((e1.trans e2) _ _ hd), q _ H2 e2 rfl⟩⟩
theorem ddin {a : Addr} {k : Nat} {kvs : List (Key × V)} {r : Int} (hk : σ[k]? = some (some (.ref a))) (hd : H a = some (.dK kvs)) (h : EvD te σ H (.int r)) : EvD (tDIn te (tVar k)) σ H (.bl (valV kvs (.inl r : Key)).isSome) := fun H1 e1 Q q =>
  h H1 e1 _ fun y H2 e2 hy => ⟨_, hk, a, _, rfl, by
    rw [show y = kV (.inl r) from hy]
    exact DGet.k ((e1.trans e2) _ _ hd), q _ H2 e2 rfl⟩
theorem dlenD {a : Addr} {k : Nat} {kvs : List (Key × V)} (hk : σ[k]? = some (some (.ref a))) (hd : H a = some (.dK kvs)) : EvD (tCB (fun xs H Q => ∃ a kvs, xs = [V.ref a] ∧ H a = some (.dK kvs) ∧ Q (.int kvs.length) H) (tCons (tVar k) tNil)) σ H (.int (kvs.length : Nat)) := fun H1 e1 Q q =>
  ⟨_, hk, a, kvs, rfl, e1 _ _ hd, q _ H1 (Ex.refl _) rfl⟩
theorem dS_dput {a : Addr} {k : Nat} {kvs : List (Key × V)} {r z : Int} (hk : σ[k]? = some (some (.ref a))) (hd : H a = some (.dK kvs)) (hz : kvs.length ≤ 1000) (h : EvD te σ H (.int r)) (hv : EvD tb σ H (.int z)) (hn : valV kvs (.inl r : Key) = none)
    (q : ∀ H1, Ex H H1 → D.nx σ (upd H1 a (.dK (kvs ++ [(.inl r, .int z)])))) : sDPut (tVar k) te tb D σ H :=
  hv H (Ex.refl _) _ fun w H1 e1 hw => ⟨_, hk, h H1 e1 _ fun y H2 e2 hy => ⟨a, upd H2 a (.dK (putK kvs (.inl r : Key) w)), rfl, by
    rw [show y = kV (.inl r) from hy]
    exact DPut.k ((e1.trans e2) _ _ hd) (by rw [sizeLine_eq]; omega), by
    have e : putK kvs (.inl r : Key) w = kvs ++ [(.inl r, .int z)] := by
      unfold putK
      rw [if_neg, show w = V.int z from hw]
      intro hany
      have nk := valV_not hn
      rw [List.any_eq_true] at hany
      obtain ⟨p, hp, hpk⟩ := hany
      exact nk (List.mem_map.mpr ⟨p, hp, of_decide_eq_true hpk⟩)
    rw [e]
    exact q H2 (e1.trans e2)⟩⟩
end
/-! ### the pairs of the law's dict -/
def prs : List (List Int) → Nat → List (Int × Nat)
  | [], _ => []
  | c :: cs, k => c.map (fun r => (r, k)) ++ prs cs (k + 1)
def kvp (ps : List (Int × Nat)) : List (Key × V) := ps.map fun p => (.inl p.1, .int (p.2 : Nat))
theorem prs_keys : ∀ (cs : List (List Int)) (k : Nat), (prs cs k).map (·.1) = cs.flatten
  | [], _ => rfl
  | c :: cs, k => by
    rw [prs, List.map_append, prs_keys, List.flatten_cons, List.map_map]
    congr 1
    exact List.map_id' c
theorem prs_snoc (c : List Int) : ∀ (cs : List (List Int)) (k : Nat), prs (cs ++ [c]) k = prs cs k ++ c.map fun r => (r, k + cs.length)
  | [], k => by simp [prs]
  | b :: cs, k => by
    rw [List.cons_append, prs, prs, prs_snoc c cs, List.append_assoc]
    congr 3
    funext r
    rw [List.length_cons]
    congr 1
    omega
theorem kvp_len (ps : List (Int × Nat)) : (kvp ps).length = ps.length := by unfold kvp; rw [List.length_map]
theorem kvp_val_none {ps : List (Int × Nat)} {r : Int} (h : r ∉ ps.map (·.1)) : valV (kvp ps) (.inl r : Key) = none := by
  induction ps with
  | nil => rfl
  | cons p ps ih =>
    rw [List.map_cons, List.mem_cons, not_or] at h
    show valV ((.inl p.1, _) :: kvp ps) _ = _
    rw [valV_neg (by show ¬ (Sum.inl p.1 : Key) = .inl r; intro z; exact h.1 (Sum.inl.inj z).symm)]
    exact ih h.2
theorem kvp_val_some {ps : List (Int × Nat)} {r : Int} (h : r ∈ ps.map (·.1)) : (valV (kvp ps) (.inl r : Key)).isSome = true := by
  induction ps with
  | nil => simp at h
  | cons p ps ih =>
    show (valV ((.inl p.1, _) :: kvp ps) _).isSome = _
    by_cases e : p.1 = r
    · rw [valV_pos (by show (Sum.inl p.1 : Key) = .inl r; rw [e])]
      rfl
    · rw [valV_neg (by show ¬ (Sum.inl p.1 : Key) = .inl r; intro z; exact e (Sum.inl.inj z))]
      rw [List.map_cons, List.mem_cons] at h
      exact ih (h.resolve_left fun z => e z.symm)
theorem kvp_isSome (ps : List (Int × Nat)) (r : Int) : (valV (kvp ps) (.inl r : Key)).isSome = decide (r ∈ ps.map (·.1)) := by
  by_cases h : r ∈ ps.map (·.1)
  · rw [kvp_val_some h, decide_eq_true h]
  · rw [kvp_val_none h, decide_eq_false h]
    rfl
theorem kvp_app_left {ps qs : List (Int × Nat)} {r : Int} (h : r ∈ ps.map (·.1)) : valV (kvp (ps ++ qs)) (.inl r : Key) = valV (kvp ps) (.inl r : Key) := by
  induction ps with
  | nil => simp at h
  | cons p ps ih =>
    show valV ((.inl p.1, _) :: kvp (ps ++ qs)) _ = valV ((.inl p.1, _) :: kvp ps) _
    by_cases e : p.1 = r
    · rw [valV_pos (by show (Sum.inl p.1 : Key) = .inl r; rw [e]), valV_pos (by show (Sum.inl p.1 : Key) = .inl r; rw [e])]
    · rw [valV_neg (by show ¬ (Sum.inl p.1 : Key) = .inl r; intro z; exact e (Sum.inl.inj z)), valV_neg (by show ¬ (Sum.inl p.1 : Key) = .inl r; intro z; exact e (Sum.inl.inj z))]
      rw [List.map_cons, List.mem_cons] at h
      exact ih (h.resolve_left fun z => e z.symm)
theorem kvp_app_right {ps qs : List (Int × Nat)} {r : Int} (h : r ∉ ps.map (·.1)) : valV (kvp (ps ++ qs)) (.inl r : Key) = valV (kvp qs) (.inl r : Key) := by
  induction ps with
  | nil => rfl
  | cons p ps ih =>
    rw [List.map_cons, List.mem_cons, not_or] at h
    show valV ((.inl p.1, _) :: kvp (ps ++ qs)) _ = _
    rw [valV_neg (by show ¬ (Sum.inl p.1 : Key) = .inl r; intro z; exact h.1 (Sum.inl.inj z).symm)]
    exact ih h.2
theorem kvp_lot {c : List Int} {k : Nat} {r : Int} (h : r ∈ c) : valV (kvp (c.map fun r => (r, k))) (.inl r : Key) = some (.int (k : Nat)) := by
  induction c with
  | nil => simp at h
  | cons b c ih =>
    show valV ((.inl b, .int (k : Nat)) :: kvp (c.map fun r => (r, k))) _ = _
    by_cases e : b = r
    · rw [valV_pos (by show (Sum.inl b : Key) = .inl r; rw [e])]
    · rw [valV_neg (by show ¬ (Sum.inl b : Key) = .inl r; intro z; exact e (Sum.inl.inj z))]
      exact ih ((List.mem_cons.mp h).resolve_left fun z => e z.symm)
theorem kvp_plc {r : Int} : ∀ {cs : List (List Int)} {k : Nat}, r ∈ cs.flatten → valV (kvp (prs cs k)) (.inl r : Key) = some (.int ((plc cs r + k : Nat) : Int))
  | [], k, h => by simp at h
  | c :: cs, k, h => by
    have km : (c.map fun r => (r, k)).map (·.1) = c := by rw [List.map_map]; exact List.map_id' c
    rw [prs, plc_cons]
    by_cases hc : r ∈ c
    · rw [kvp_app_left (by rw [km]; exact hc), kvp_lot hc, if_pos hc, Nat.zero_add]
    · rw [kvp_app_right (by rw [km]; exact hc), if_neg hc]
      rw [List.flatten_cons, List.mem_append] at h
      rw [kvp_plc (h.resolve_left hc)]
      rw [show plc cs r + 1 + k = plc cs r + (k + 1) by omega]
theorem perm_of_len {l rows : List Int} (h1 : l.Nodup) (h2 : rows.Nodup) (h3 : ∀ a ∈ l, a ∈ rows) (h4 : l.length = rows.length) : l.Perm rows := by
  refine (List.perm_ext_iff_of_nodup h1 h2).mpr fun a => ⟨h3 a, fun ha => ?_⟩
  refine Classical.byContradiction fun hn => ?_
  have := nodup_le (hs := a :: l) (L := rows) (List.nodup_cons.mpr ⟨hn, h1⟩) fun b hb => by
    rcases List.mem_cons.mp hb with rfl | hb
    · exact ha
    · exact h3 b hb
  simp at this
  omega
end Kw
namespace Kw
open PySem PySem.Spec PyProof.Rows L2 Evl
theorem kvp_snoc (ps : List (Int × Nat)) (p : Int × Nat) : kvp (ps ++ [p]) = kvp ps ++ [(.inl p.1, .int (p.2 : Nat))] := by
  unfold kvp
  rw [List.map_append]
  rfl
section
variable {P : Program} {w : World} {K : PySem.W.Frag} {mg : Str → Option Value} {base : Heap}
theorem ok_L_lk_are_classes (T : Txt K mg) (n : Nat) : FnOk P w K mg base CX0 4 T.a_L_lk_are_classes T.d_L_lk_are_classes ["_law_square", "_law_rows", "_law_columns", "_law_value"] (SpD (domCls n)) := by
  have G_L_lk_are_lines := ok_L_lk_are_lines (P := P) (w := w) (base := base) T
  refine T.F_L_lk_are_classes.ok sc_L_lk_are_classes (fun vs H Q E h => ?_) (fun cdv A outer s H vs Q E hr h => ?_)
  · obtain ⟨ds, d, hv, ⟨sq, rows, cols, x, wf, lr, lc, hf, rfl, rfl⟩, q⟩ := h
    exact hv.len
  · obtain ⟨ds, d, hv, ⟨sq, rows, cols, x, wf, lr, lc, hf, rfl, rfl⟩, q⟩ := h
    obtain ⟨v1, _, rfl, h1, v2, _, rfl, h2, v3, _, rfl, h3, hv⟩ := hv
    obtain ⟨v4, rfl, h4⟩ := hv.one
    refine ⟨_, (pss_cons (ps_if (PW.pt (pw_or (pt_not (pt_val (pe_callB (k_isi (K := K) rfl) (by rfl) T.z_isinstance (by decide +kernel) (pa_cons (pv 3) (pa_cons (pe_bltn (v := .ty "tuple") (by rfl) T.z_tuple (by decide +kernel) rfl) pa_nil))))) (pw_or (pt_cmpR op_lt (pe_callB (k_len (K := K) rfl) (by rfl) T.z_len (by decide +kernel) (pa_cons (pv 3) pa_nil)) pe_int (nomark _)) (pw_or1 (pt_cmpR (k_neE (K := K) rfl hr.units0) (pe_lc (own := [("_law_crew", 6)]) rfl sc_L_lk_are_classes.nd (k_tup (K := K) rfl (pv 3)) (blkOk_by (by kernel_rfl)) (fun _ _ _ _ _ => (pg_name (i := 6) sc_L_lk_are_classes.nd rfl (.inl rfl))) (fun _ _ _ _ _ => (pts_one (pt_not (pt_val (pe_call G_L_lk_are_lines (hr.mono (by omega)) (by rfl) T.g_L_lk_are_lines T.F_L_lk_are_lines.kp T.b_L_lk_are_lines .nil pass0 (pa_cons (pv 6) (pa_cons (pe_callB (k_len (K := K) rfl) (by rfl) T.z_len (by decide +kernel) (pa_cons (pv 0) pa_nil)) pa_nil))))))) (fun _ _ _ _ _ => (pv 6))) (pe_lst pa_nil) (nomark _)))))) (pss_one (ps_ret pe_bl)) pss_nil)
      (pss_cons (ps_set (i := 4) sc_L_lk_are_classes.nd rfl (.inl rfl) pe_dnewK)
      (pss_cons (ps_for PassesOwn.never rfl (pi_enumT (by rfl) T.z_enumerate (pa_cons (pv 3) pa_nil)) (k_pgtup (K := K) (n := 2) rfl rfl (pgs_cons (pg_name (i := 5) sc_L_lk_are_classes.nd rfl (.inl rfl)) (pgs_cons (pg_name (i := 6) sc_L_lk_are_classes.nd rfl (.inl rfl)) pgs_nil))) (pss_one (ps_for PassesOwn.never rfl (k_tup (K := K) rfl (pv 6)) (pg_name (i := 7) sc_L_lk_are_classes.nd rfl (.inl rfl)) (pss_cons (ps_if (PW.pt (pw_or (pt_cmp (pc_din (hu_of hr) (pv 7) (pv 4))) (pw_or1 (pt_cmpR (k_notIn (K := K) rfl) (pv 7) (pv 1) (by rfl))))) (pss_one (ps_ret pe_bl)) pss_nil)
      (pss_one (ps_dput (hu_of hr) (pv 4) (pv 7) (pv 5) rfl))))))
      (pss_cons (ps_if (pt_cmpR op_ne (pe_callB call_lenD (by rfl) T.z_len (by decide +kernel) (pa_cons (pv 4) pa_nil)) (pe_callB (k_len (K := K) rfl) (by rfl) T.z_len (by decide +kernel) (pa_cons (pv 1) pa_nil)) (nomark _)) (pss_one (ps_ret pe_bl)) pss_nil)
      (pss_cons (ps_for PassesOwn.never rfl (k_tup (K := K) rfl (pv 1)) (pg_name (i := 8) sc_L_lk_are_classes.nd rfl (.inr rfl)) (pss_one (ps_for PassesOwn.never rfl (k_tup (K := K) rfl (pv 1)) (pg_name (i := 9) sc_L_lk_are_classes.nd rfl (.inr rfl)) (pss_one (ps_if (PW.pt (pw_and (pt_cmpR op_ne (pe_dget (hu_of hr) (pv 4) (pv 8) (fun _ _ => rfl)) (pe_dget (hu_of hr) (pv 4) (pv 9) (fun _ _ => rfl)) (nomark _)) (pw_and1 (pt_cmpR (k_neE (K := K) rfl hr.units0) (pe_lc (own := [("_law_at", 5)]) rfl sc_L_lk_are_classes.nd (k_tup (K := K) rfl (pv 2)) (blkOk_by (by kernel_rfl)) (fun _ _ _ _ _ => (pg_name (i := 5) sc_L_lk_are_classes.nd rfl (.inl rfl))) (fun _ _ _ _ _ => (pts_one (pt_cmpR op_eq (pe_ix (k_ixT (K := K) rfl) (pe_ix (k_ixT (K := K) rfl) (pv 0) (pv 8) (fun _ _ => rfl)) (pv 5) (fun _ _ => rfl)) (pe_ix (k_ixT (K := K) rfl) (pe_ix (k_ixT (K := K) rfl) (pv 0) (pv 9) (fun _ _ => rfl)) (pv 5) (fun _ _ => rfl)) (nomark _)))) (fun _ _ _ _ _ => pe_int)) (pe_lst pa_nil) (nomark _))))) (pss_one (ps_ret pe_bl)) pss_nil)))))
      (pss_one (ps_ret pe_bl))))))), ?_⟩
    have r12 := lr.nat12 wf.len
    have c12 := lc.nat12 wf.w12
    have ndr : rows.Nodup := lr.asc.imp fun h => by omega
    cases x with
    | tup xs =>
      obtain ⟨m, rfl, hl, hm⟩ := fits_tup.mp hf
      have hs12 := wf.len
      refine dS_when (et_or (et_not (tst (disi_tuple (dvar rfl h4)))) fun _ => et_or (tst (dlt (dlenT (dvar rfl h4)) dint)) fun _ => (tst ((dempL (neg := true) (nlc (fun d => !linesB d sq.length) (fun d => d) (srcT (dvar rfl h4)) (by omega) (fun d hd _ => fits_plain (hm d hd)) fun d hd x G e hx => bName ⟨rfl, et_not (tst (dcallD (aC (dvar rfl hx) (aC ((dlenT (dvar rfl (h1.mono e))).is (by rw [List.length_map])) aN)) ⟨_, _, ⟨m, hm d hd⟩, rfl, rfl⟩)), fun _ => dvar rfl hx⟩).toD).is (e := .bl (!xs.all fun x => linesB x sq.length)) ?_))) (fun hb H1 e1 => ?_) fun hb H1 e1 => ?_
      · rw [List.map_id']
        show Dat.bl (!(List.filter _ xs).isEmpty) = _
        rw [filt_none]
        simp
      · refine dS_ret (d := .bl false) dbl (?_ : RetD (.bl false) H1 Q)
        have : clsB (ent sq) sq.length rows cols (.tup xs) = false := by
          simp only [Dat.isTup, Bool.not_true, Bool.false_or] at hb
          simp only [clsB]
          by_cases h2 : 2 ≤ xs.length
          · have h3 : ¬ (xs.length : Int) < 2 := by omega
            rw [decide_eq_false h3, Bool.false_or] at hb
            rw [show (xs.all fun x => linesB x sq.length) = false by simpa using hb]
            simp
          · rw [decide_eq_false h2]
            simp
        rw [this] at q
        exact q.up e1
      have hb' : 2 ≤ xs.length ∧ (xs.all fun x => linesB x sq.length) = true := by
        simp only [Dat.isTup, Bool.not_true, Bool.false_or, Bool.or_eq_false_iff, decide_eq_false_iff_not, Bool.not_eq_false'] at hb
        exact ⟨by omega, hb.2⟩
      obtain ⟨h2l, hall⟩ := hb'
      obtain ⟨cs, hxs, hcs, hln⟩ := lines_all hall
      have hB : clsB (ent sq) sq.length rows cols (.tup xs) = (decide (srt cs.flatten = rows) && apart (ent sq) cols cs) := by
        simp only [clsB]
        rw [hall, hcs, decide_eq_true h2l]
        simp
      rw [hB] at q
      subst hxs
      rw [List.length_map] at hl h2l
      intro d hd
      have hd1 : H d = none := fresh_back e1 hd
      have ex0 : Ex H (upd H1 d (.dK [])) := e1.trans (Ex.new hd)
      have bad : ∀ {ps : List (Int × Nat)} {r : Int} {rest : List Int}, cs.flatten = ps.map (·.1) ++ r :: rest → (r ∈ ps.map (·.1) ∨ r ∉ rows) → decide (srt cs.flatten = rows) = false := by
        intro ps r rest he hbad
        refine decide_eq_false fun z => ?_
        have pm := perm_of_srt z
        rw [he] at pm
        rcases hbad with h | h
        · have nd := pm.nodup_iff.mpr ndr
          exact (List.nodup_append.mp nd).2.2 r h r List.mem_cons_self rfl
        · exact h (pm.subset (by simp))
      refine dq_forE (fun i σ' H' => Ex H H' ∧ H' d = some (.dK (kvp (prs (cs.take i) 0))) ∧ ((cs.take i).flatten).Nodup ∧ (∀ a ∈ (cs.take i).flatten, a ∈ rows) ∧ ∃ o5 o6 o7 o8 o9, σ' = [some v1, some v2, some v3, some v4, some (.ref d), o5, o6, o7, o8, o9]) (srcEE (aC (dvar rfl (h4.mono ex0)) aN) (lns_plain cs)) (fun H4 e4 => ⟨ex0.trans e4, by rw [e4 _ _ upd_same]; simp [prs, kvp], by simp, by simp, none, none, none, none, none, rfl⟩) (fun i σ' H' h => h.1) ?_ ?_
      · rintro i hi σ' H' ⟨ex, hdk, ndk, sub, o5, o6, o7, o8, o9, rfl⟩ y H'' ex2 hy
        rw [List.length_map, List.length_zipIdx, List.length_map] at hi
        rw [List.getElem_map, List.getElem_zipIdx, List.getElem_map] at hy
        have hy : Dv H'' (.tup [.int ((0 + i : Nat) : Int), lnD cs[i]]) y := hy
        rw [Nat.zero_add] at hy
        have hmem : cs[i] ∈ cs := List.getElem_mem hi
        have ci12 : cs[i].length ≤ 12 := Nat.le_trans (hln _ hmem).len hs12
        have tk : cs.take (i + 1) = cs.take i ++ [cs[i]] := take_snoc (List.getElem?_eq_getElem hi)
        have tl : (cs.take i).length = i := by rw [List.length_take]; omega
        refine bTwo hy fun x1 x2 g1 g2 N hN => ?_
        refine dS_forE (Hb := H) (fun j σ' H' => Ex H H' ∧ Evo H'' H' ∧ H' d = some (.dK (kvp (prs (cs.take i) 0 ++ (cs[i].take j).map fun r => (r, i)))) ∧ ((cs.take i).flatten ++ cs[i].take j).Nodup ∧ (∀ a ∈ (cs.take i).flatten ++ cs[i].take j, a ∈ rows) ∧ ∃ o7 o8 o9, σ' = [some v1, some v2, some v3, some v4, some (.ref d), some x1, some x2, o7, o8, o9]) (srcET (dvar rfl g2) (plain_ints _)) (fun H4 e4 => ⟨(ex.trans ex2).trans e4, Evo.of e4, by simpa using (ex2.trans e4) _ _ hdk, by simpa using ndk, by simpa using sub, o7, o8, o9, rfl⟩) (fun j σ' H' h => h.1) ?_ ?_
        · rintro j hj σ' H3 ⟨ex3, ev3, hdk3, nd3, sub3, p7, p8, p9, rfl⟩ z H4 ex4 hz
          rw [List.length_map] at hj
          rw [List.getElem_map] at hz
          have km : ((prs (cs.take i) 0 ++ (cs[i].take j).map fun r => (r, i)).map (·.1)) = (cs.take i).flatten ++ cs[i].take j := by
            rw [List.map_append, prs_keys, List.map_map]
            congr 1
            exact List.map_id' _
          have tk2 : cs[i].take (j + 1) = cs[i].take j ++ [cs[i][j]] := take_snoc (List.getElem?_eq_getElem hj)
          have fl : cs.flatten = ((prs (cs.take i) 0 ++ (cs[i].take j).map fun r => (r, i)).map (·.1)) ++ cs[i][j] :: (cs[i].drop (j + 1) ++ (cs.drop (i + 1)).flatten) := by
            rw [km]
            have e1 : cs.flatten = (cs.take i).flatten ++ (cs.drop i).flatten := by rw [← List.flatten_append, List.take_append_drop]
            have e2 : cs.drop i = cs[i] :: cs.drop (i + 1) := List.drop_eq_getElem_cons hi
            have e3 : cs[i] = cs[i].take j ++ cs[i][j] :: cs[i].drop (j + 1) := by
              rw [← List.drop_eq_getElem_cons hj, List.take_append_drop]
            rw [e1, e2, List.flatten_cons, List.append_assoc]
            congr 1
            have := congrArg (fun l => l ++ (cs.drop (i + 1)).flatten) e3
            simpa only [List.append_assoc, List.cons_append] using this
          refine bName fun N2 hN2 => ?_
          have hdk4 := ex4 _ _ hdk3
          refine dS_when (et_or (tstB (ddin rfl hdk4 (dvar rfl hz))) fun _ => tst (dinT (neg := true) (i := cs[i][j]) (ns := rows) (dvar rfl hz) (dvar rfl (h2.mono (ex3.trans ex4))))) (fun hb5 H5 e5 => ?_) fun hb5 H5 e5 => ?_
          · refine dS_ret (d := .bl false) dbl ?_
            have : decide (srt cs.flatten = rows) = false := by
              refine bad fl ?_
              rw [kvp_isSome] at hb5
              by_cases hk : cs[i][j] ∈ (prs (cs.take i) 0 ++ (cs[i].take j).map fun r => (r, i)).map (·.1)
              · exact .inl hk
              · rw [decide_eq_false hk, Bool.false_or] at hb5
                refine .inr fun hc => ?_
                rw [List.contains_iff_mem.mpr hc] at hb5
                cases hb5
            rw [this] at q
            exact q.up ((ex3.trans ex4).trans e5)
          · rw [kvp_isSome] at hb5
            have hb6 : cs[i][j] ∉ (prs (cs.take i) 0 ++ (cs[i].take j).map fun r => (r, i)).map (·.1) ∧ cs[i][j] ∈ rows := by
              rw [Bool.or_eq_false_iff, decide_eq_false_iff_not] at hb5
              refine ⟨hb5.1, List.contains_iff_mem.mp ?_⟩
              cases h : rows.contains cs[i][j] with
              | true => rfl
              | false => rw [h] at hb5; cases hb5.2
            have hdk5 := e5 _ _ hdk4
            have kl : (kvp (prs (cs.take i) 0 ++ (cs[i].take j).map fun r => (r, i))).length ≤ 1000 := by
              rw [kvp_len]
              have := nodup_le nd3 sub3
              rw [← km, List.length_map] at this
              omega
            refine dS_dput rfl hdk5 kl (dvar rfl (hz.mono e5)) (dvar rfl (Dv.evo (ev3.trans (Evo.of (ex4.trans e5))) _ rfl g1)) (kvp_val_none hb6.1) fun H6 e6 => ?_
            refine hN2 _ _ ((Evo.of (e5.trans e6)).trans (evoD (e6 _ _ hdk5))) ⟨Ex.mut (((ex3.trans ex4).trans e5).trans e6) hd1, (ev3.trans (Evo.of ((ex4.trans e5).trans e6))).trans (evoD (e6 _ _ hdk5)), ?_, ?_, ?_, _, _, _, rfl⟩
            · rw [upd_same, tk2, List.map_append, ← List.append_assoc, List.map_cons, List.map_nil, kvp_snoc]
            · rw [tk2, ← List.append_assoc, ← km]
              rw [← km] at nd3
              exact List.nodup_append.mpr ⟨nd3, by simp, fun a ha b hb => by simp at hb; rw [hb]; intro zz; rw [zz] at ha; exact hb6.1 ha⟩
            · rw [tk2, ← List.append_assoc]
              intro a ha
              rcases List.mem_append.mp ha with ha | ha
              · exact sub3 a ha
              · simp at ha
                rw [ha]
                exact hb6.2
        · rintro σ' H3 _ ⟨ex3, ev3, hdk3, nd3, sub3, p7, p8, p9, rfl⟩
          rw [List.length_map, List.take_length] at hdk3 nd3 sub3
          have fe : (cs.take (i + 1)).flatten = (cs.take i).flatten ++ cs[i] := by rw [tk, List.flatten_append, List.flatten_cons, List.flatten_nil, List.append_nil]
          refine hN _ _ ev3 ⟨ex3, ?_, ?_, ?_, _, _, _, _, _, rfl⟩
          · rw [hdk3, tk, prs_snoc, tl, Nat.zero_add]
          · rw [fe]; exact nd3
          · rw [fe]; exact sub3
      · rintro σ' H2 _ ⟨ex, hdk, ndk, sub, o5, o6, o7, o8, o9, rfl⟩
        rw [List.length_map, List.length_zipIdx, List.length_map, List.take_length] at hdk ndk sub
        refine dS_when (tst (dneI (dlenD rfl hdk) (dlenT (dvar rfl (h2.mono ex))))) (fun hb3 H3 e3 => ?_) fun hb3 H3 e3 => ?_
        · refine dS_ret (d := .bl false) dbl ?_
          have : decide (srt cs.flatten = rows) = false := by
            refine decide_eq_false fun z => ?_
            have := (perm_of_srt z).length_eq
            rw [kvp_len, List.length_map, ← List.length_map (f := (·.1)) (as := prs cs 0), prs_keys, this] at hb3
            simp at hb3
          rw [this] at q
          exact q.up (ex.trans e3)
        have hlen : cs.flatten.length = rows.length := by
          rw [kvp_len, List.length_map, ← List.length_map (f := (·.1)) (as := prs cs 0), prs_keys, Bool.not_eq_false'] at hb3
          have := of_decide_eq_true hb3
          omega
        have pm := perm_of_len ndk ndr sub hlen
        have hsr : decide (srt cs.flatten = rows) = true := decide_eq_true (srt_eq pm lr.asc)
        rw [hsr, Bool.true_and, apart_rows lr.asc pm] at q
        have hdk3 := e3 _ _ hdk
        have ex3 := ex.trans e3
        obtain ⟨good, hgood⟩ : ∃ good : Int → Int → Bool, good = fun r o => !(!decide (plc cs r = plc cs o) && lkB (ent sq) cols r o) := ⟨_, rfl⟩
        rw [show (rows.all fun r => rows.all fun o => !(!decide (plc cs r = plc cs o) && lkB (ent sq) cols r o)) = rows.all fun r => rows.all fun o => good r o by rw [hgood]] at q
        refine dq_for (fun i σ' H' => ((rows.take i).all fun r => rows.all fun o => good r o) = true ∧ ∃ o5 o6 o7 o8 o9, σ' = [some v1, some v2, some v3, some v4, some (.ref d), o5, o6, o7, o8, o9]) (srcT (dvar rfl (h2.mono ex3))) (fun H4 e4 => ⟨rfl, _, _, _, _, _, rfl⟩) ?_ ?_
        · rintro i hi σ' H4 ex4 ⟨hall, p5, p6, p7, p8, p9, rfl⟩ y H5 ex5 hy
          rw [List.length_map] at hi
          rw [List.getElem_map] at hy
          have mi : rows[i] ∈ rows := List.getElem_mem hi
          refine bName fun N hN => ?_
          refine dS_for (fun j σ' H' => ((rows.take j).all fun o => good rows[i] o) = true ∧ ∃ o5 o6 o7 o9, σ' = [some v1, some v2, some v3, some v4, some (.ref d), o5, o6, o7, some y, o9]) (srcT (dvar rfl (h2.mono ((ex3.trans ex4).trans ex5)))) (fun H6 e6 => ⟨rfl, _, _, _, _, rfl⟩) ?_ ?_
          · rintro j hj σ' H6 ex6 ⟨hall2, r5, r6, r7, r9, rfl⟩ z H7 ex7 hz
            rw [List.length_map] at hj
            rw [List.getElem_map] at hz
            have mj : rows[j] ∈ rows := List.getElem_mem hj
            refine bName fun N2 hN2 => ?_
            have exx : Ex H3 H7 := ((ex4.trans ex5).trans ex6).trans ex7
            have hdk7 := exx _ _ hdk3
            have hy7 := hy.mono (ex6.trans ex7)
            have hgv : good rows[i] rows[j] = !(!decide (plc cs rows[i] = plc cs rows[j]) && lkB (ent sq) cols rows[i] rows[j]) := by rw [hgood]
            refine s_when (b := !good rows[i] rows[j]) (et_is (et_and (tst (dneI (ddget rfl hdk7 (dvar rfl hy7) (kvp_plc (pm.symm.subset mi))) (ddget rfl hdk7 (dvar rfl hz) (kvp_plc (pm.symm.subset mj))))) fun _ => tst ((dempL (neg := true) (nlc (fun d => decide (ent sq rows[i] (intOf d) = ent sq rows[j] (intOf d))) (fun _ => .int 1) (srcT (dvar rfl (h3.mono (ex3.trans exx)))) (by rw [List.length_map]; omega) (fun _ _ _ => rfl) ?_).toD).is (e := .bl (lkB (ent sq) cols rows[j] rows[i])) (by exact congrArg Dat.bl (lk_test (ent sq) cols rows[j] rows[i])))) ?_) (fun hb6 H8 e8 => ?_) fun hb6 H8 e8 => ?_
            · intro d2 hd2 z2 G e hz2
              obtain ⟨c, hc, rfl⟩ := List.mem_map.mp hd2
              exact bName ⟨rfl, tst (deqI (dEnt wf (dvar rfl (h1.mono ((ex3.trans exx).trans e))) (dvar rfl (hy7.mono e)) (dvar rfl hz2) (lr.bd _ mi) (lc.bd _ hc)) (dEnt wf (dvar rfl (h1.mono ((ex3.trans exx).trans e))) (dvar rfl (hz.mono e)) (dvar rfl hz2) (lr.bd _ mj) (lc.bd _ hc))), fun _ => dint⟩
            · rw [hgv, lkB_comm, Bool.not_not]
              congr 2
              refine decide_eq_decide.mpr ?_
              omega
            · refine dS_ret (d := .bl false) dbl ?_
              have : (rows.all fun r => rows.all fun o => good r o) = false := by
                rw [List.all_eq_false]
                refine ⟨rows[i], mi, ?_⟩
                rw [Bool.not_eq_true, List.all_eq_false]
                refine ⟨rows[j], mj, ?_⟩
                intro hc
                rw [hc] at hb6
                cases hb6
              rw [this] at q
              exact q.up ((ex3.trans exx).trans e8)
            · refine hN2 _ _ e8 ⟨?_, _, _, _, _, rfl⟩
              rw [take_snoc (List.getElem?_eq_getElem hj), List.all_append, hall2]
              simpa using hb6
          · rintro σ' H6 ex6 ⟨hall2, r5, r6, r7, r9, rfl⟩
            rw [List.length_map, List.take_length] at hall2
            refine hN _ _ ex6 ⟨?_, _, _, _, _, _, rfl⟩
            rw [take_snoc (List.getElem?_eq_getElem hi), List.all_append, hall]
            simpa using hall2
        · rintro σ' H4 ex4 ⟨hall, p5, p6, p7, p8, p9, rfl⟩
          rw [List.length_map, List.take_length] at hall
          rw [hall] at q
          exact dS_ret (d := .bl true) dbl (q.up (ex3.trans ex4))
    | _ =>
      refine dS_when (b := true) (et_or (a := true) (b := true) (et_is (et_not (tst (disi_tuple (dvar rfl h4)))) rfl) fun z => by cases z) (fun _ H1 e1 => ?_) fun z => by cases z
      exact dS_ret (d := .bl false) dbl (q.up e1)
end

end Kw
namespace Kw
open PySem PySem.Spec PyProof.Rows L2 Evl
def domTree (n : Nat) : List Dat → Dat → Prop := fun ds d => ∃ sq rows cols x, Wf sq ∧ Ln sq.length rows ∧ Ln (wid sq) cols ∧ x.fits n = true ∧ ds = [sqD sq, lnD rows, lnD cols, x] ∧ d = .bl (isTreeM n sq rows cols x)
theorem flat_is {e : En} {rows cols : List Int} {i : Int} (h1 : rows.headD 0 ∈ rows) (h2 : cols.headD 0 ∈ cols) : (rows.all fun r => cols.all fun c => decide (e r c = i)) = (flat e rows cols && decide (e (rows.headD 0) (cols.headD 0) = i)) := by
  unfold flat
  by_cases h : e (rows.headD 0) (cols.headD 0) = i
  · rw [h]
    simp
  · rw [decide_eq_false h, Bool.and_false, List.all_eq_false]
    refine ⟨_, h1, ?_⟩
    rw [Bool.not_eq_true, List.all_eq_false]
    exact ⟨_, h2, by simpa using h⟩
theorem inV_two (s a b : Str) : inV (.str s) [.str a, .str b] = (decide (s = a) || decide (s = b)) := by
  have h : ∀ x y : Str, eqV (.str x) (.str y) = decide (y = x) := fun x y => by
    show decide (x = y) = decide (y = x)
    exact decide_eq_decide.mpr ⟨Eq.symm, Eq.symm⟩
  simp only [inV, List.any_cons, List.any_nil, h, Bool.or_false]
section
variable {K : PySem.W.Frag} {σ : L2.St} {H : Hp} {ta tb : TE} {s a b : Str}
theorem dnin2 (ha : EvD ta σ H (.str s)) (hb : EvD tb σ H (.tup [.str a, .str b])) : EvD (tOp (rIn K true) ta tb) σ H (.bl (!(decide (s = a) || decide (s = b)))) := dop ha hb fun H1 _ x y hx ⟨p, ys, hy, hH, hl⟩ Q q => by
  rw [show x = _ from hx]
  obtain ⟨y1, r, e1, h1, h2⟩ := hl
  obtain ⟨y2, e2, h2'⟩ := DvL.one h2
  subst e1 e2
  rw [show y1 = _ from h1, show y2 = _ from h2'] at hH
  exact ⟨p, _, hy, .inr (SqT.of hH), rfl, rfl, q _ _ (Ex.refl _) (by show V.bl _ = V.bl _; rw [inV_two]; rfl)⟩
end
theorem zip_all (cs : List (List Int)) (ts : List Dat) (f : List Int → Dat → Bool) :
    ((((cs.map lnD).zip ts).map fun p => Dat.tup [p.1, p.2]).map fun d => Dat.bl (f (intsOf ((items d).headD .non)) ((items d).getD 1 .non))) = ((cs.zip ts).map fun p => f p.1 p.2).map Dat.bl := by
  rw [List.zip_map_left, List.map_map, List.map_map, List.map_map]
  exact List.map_congr_left fun p _ => by
    obtain ⟨c, t⟩ := p
    show Dat.bl (f (intsOf (lnD c)) t) = Dat.bl (f c t)
    rw [ints_lnD]
theorem zip_mem {cs : List (List Int)} {ts : List Dat} {d : Dat} (h : d ∈ ((cs.map lnD).zip ts).map fun p => Dat.tup [p.1, p.2]) : ∃ c t, c ∈ cs ∧ t ∈ ts ∧ d = .tup [lnD c, t] := by
  obtain ⟨p, hp, rfl⟩ := List.mem_map.mp h
  obtain ⟨h1, h2⟩ := List.of_mem_zip hp
  obtain ⟨c, hc, e⟩ := List.mem_map.mp h1
  exact ⟨c, p.2, hc, h2, by rw [e]⟩
section
variable {P : Program} {w : World} {K : PySem.W.Frag} {mg : Str → Option Value} {base : Heap}
theorem clsB_lots {e : En} {n : Nat} {rows cols : List Int} {c : Dat} (h : clsB e n rows cols c = true) : ∃ cs : List (List Int), c = .tup (cs.map lnD) ∧ (items c).map intsOf = cs ∧ ∀ l ∈ cs, Ln n l := by
  cases c with
  | tup ds =>
    simp only [clsB, Bool.and_eq_true] at h
    obtain ⟨cs, h1, h2, h3⟩ := lines_all h.1.1.2
    exact ⟨cs, by rw [h1], h2, h3⟩
  | _ => cases h
theorem tree_bad0 {n : Nat} {sq : Sq} {rows cols : List Int} {w : Str} {rest : List Dat} (h1 : w = "flat" → rest.length ≠ 1) (h2 : w = "rows" ∨ w = "columns" → rest.length ≠ 2) : isTreeM (n + 1) sq rows cols (.tup (.str w :: rest)) = false := by
  match rest with
  | [] => rfl
  | [x] =>
    have : w ≠ "flat" := fun z => h1 z rfl
    simp [isTreeM, this]
  | [c, t] =>
    have h3 : w ≠ "rows" ∧ w ≠ "columns" := ⟨fun z => h2 (.inl z) rfl, fun z => h2 (.inr z) rfl⟩
    cases t <;> simp [isTreeM, h3]
  | a :: b :: c :: r => simp [isTreeM]
theorem ok_is_tree (T : Txt K mg) : ∀ n, FnOk P w K mg base CX0 (5 + n) T.a_is_tree T.d_is_tree ["square", "rows", "columns", "value"] (SpD (domTree n))
  | 0 => by
    refine T.F_is_tree.ok sc_is_tree (fun vs H Q E h => ?_) (fun cdv A outer s H vs Q E hr h => ?_)
    · obtain ⟨ds, d, hv, ⟨sq, rows, cols, x, wf, lr, lc, hn, rfl, rfl⟩, q⟩ := h
      exact hv.len
    · obtain ⟨ds, d, hv, ⟨sq, rows, cols, x, wf, lr, lc, hn, rfl, rfl⟩, q⟩ := h
      simp [Dat.fits] at hn
  | n + 1 => by
    have G_is_tree := ok_is_tree T n
    have G_are_classes := ok_are_classes (P := P) (w := w) (base := base) T n
    have G_is_flat := ok_is_flat (P := P) (w := w) (base := base) T
    have G_is_within := ok_is_within (P := P) (w := w) (base := base) T
    have G_turned_square := ok_turned_square (P := P) (w := w) (base := base) T
    refine T.F_is_tree.ok sc_is_tree (fun vs H Q E h => ?_) (fun cdv A outer s H vs Q E hr h => ?_)
    · obtain ⟨ds, d, hv, ⟨sq, rows, cols, x, wf, lr, lc, hn, rfl, rfl⟩, q⟩ := h
      exact hv.len
    · obtain ⟨ds, d, hv, ⟨sq, rows, cols, x, wf, lr, lc, hn, rfl, rfl⟩, q⟩ := h
      obtain ⟨v1, _, rfl, h1, v2, _, rfl, h2, v3, _, rfl, h3, hv⟩ := hv
      obtain ⟨v4, rfl, h4⟩ := hv.one
      replace hr : Room (5 + n) _ := hr
      refine ⟨_, (pss_cons (ps_if (PW.pt (pw_or (pt_not (pt_val (pe_callB (k_isi (K := K) rfl) (by rfl) T.z_isinstance (by decide +kernel) (pa_cons (pv 3) (pa_cons (pe_bltn (v := .ty "tuple") (by rfl) T.z_tuple (by decide +kernel) rfl) pa_nil))))) (pw_or (pt_cmpR (k_eqE (K := K) rfl hr.units0) (pv 3) (pe_tup pa_nil) (nomark _)) (pw_or1 (pt_not (pt_val (pe_callB (k_isi (K := K) rfl) (by rfl) T.z_isinstance (by decide +kernel) (pa_cons (pe_ix (k_ixT (K := K) rfl) (pv 3) pe_int (fun _ _ => rfl)) (pa_cons (pe_bltn (v := .ty "str") (by rfl) T.z_str (by decide +kernel) rfl) pa_nil))))))))) (pss_one (ps_ret pe_bl)) pss_nil)
      (pss_cons (ps_if (pt_cmpR op_eq (pe_ix (k_ixT (K := K) rfl) (pv 3) pe_int (fun _ _ => rfl)) (pe_glob (v := .str "flat") (by rfl) T.g_FLAT ⟨_, rfl⟩) (nomark _)) (pss_cons (ps_if (PW.pt (pw_or (pt_cmpR op_ne (pe_callB (k_len (K := K) rfl) (by rfl) T.z_len (by decide +kernel) (pa_cons (pv 3) pa_nil)) (pe_glob (v := .int 2) (by rfl) T.g_FLAT_SIZE ⟨_, rfl⟩) (nomark _)) (pw_or1 (pt_not (pt_val (pe_call G_is_within (hr.mono (by omega)) (by rfl) T.g_is_within T.F_is_within.kp T.b_is_within .nil pass0 (pa_cons (pe_ix (k_ixT (K := K) rfl) (pv 3) pe_int (fun _ _ => rfl)) (pa_cons pe_int (pa_cons (pe_glob (v := .int 60) (by rfl) T.g_MAX_ENTRY ⟨_, rfl⟩) pa_nil))))))))) (pss_one (ps_ret pe_bl)) pss_nil)
      (pss_one (ps_ret (pe_and (pe_call G_is_flat (hr.mono (by omega)) (by rfl) T.g_is_flat T.F_is_flat.kp T.b_is_flat .nil pass0 (pa_cons (pv 0) (pa_cons (pv 1) (pa_cons (pv 2) pa_nil)))) (pe_one (pe_cmpR op_eq (pe_ix (k_ixT (K := K) rfl) (pe_ix (k_ixT (K := K) rfl) (pv 0) (pe_ix (k_ixT (K := K) rfl) (pv 1) pe_int (fun _ _ => rfl)) (fun _ _ => rfl)) (pe_ix (k_ixT (K := K) rfl) (pv 2) pe_int (fun _ _ => rfl)) (fun _ _ => rfl)) (pe_ix (k_ixT (K := K) rfl) (pv 3) pe_int (fun _ _ => rfl)) (nomark _))))))) pss_nil)
      (pss_cons (ps_if (PW.pt (pw_or (pt_cmpR (k_notIn (K := K) rfl) (pe_ix (k_ixT (K := K) rfl) (pv 3) pe_int (fun _ _ => rfl)) (pe_tup (pa_cons (pe_glob (v := .str "rows") (by rfl) T.g_ROWS ⟨_, rfl⟩) (pa_cons (pe_glob (v := .str "columns") (by rfl) T.g_COLUMNS ⟨_, rfl⟩) pa_nil))) (by rfl)) (pw_or1 (pt_cmpR op_ne (pe_callB (k_len (K := K) rfl) (by rfl) T.z_len (by decide +kernel) (pa_cons (pv 3) pa_nil)) (pe_glob (v := .int 3) (by rfl) T.g_NODE_SIZE ⟨_, rfl⟩) (nomark _))))) (pss_one (ps_ret pe_bl)) pss_nil)
      (pss_cons (ps_asg (pv 3) (k_pgtup (K := K) (n := 3) rfl rfl (pgs_cons (pg_name (i := 4) sc_is_tree.nd rfl (.inl rfl)) (pgs_cons (pg_name (i := 5) sc_is_tree.nd rfl (.inl rfl)) (pgs_cons (pg_name (i := 6) sc_is_tree.nd rfl (.inl rfl)) pgs_nil)))))
      (pss_cons (ps_if (pt_cmpR op_eq (pv 4) (pe_glob (v := .str "columns") (by rfl) T.g_COLUMNS ⟨_, rfl⟩) (nomark _)) (pss_one (ps_asg (pe_tup (pa_cons (pe_call G_turned_square (hr.mono (by omega)) (by rfl) T.g_turned_square T.F_turned_square.kp T.b_turned_square .nil pass0 (pa_cons (pv 0) pa_nil)) (pa_cons (pv 2) (pa_cons (pv 1) pa_nil)))) (k_pgtup (K := K) (n := 3) rfl rfl (pgs_cons (pg_name (i := 0) sc_is_tree.nd rfl (.inr rfl)) (pgs_cons (pg_name (i := 1) sc_is_tree.nd rfl (.inl rfl)) (pgs_cons (pg_name (i := 2) sc_is_tree.nd rfl (.inr rfl)) pgs_nil)))))) pss_nil)
      (pss_cons (ps_if (PW.pt (pw_or (pt_not (pt_val (pe_call G_are_classes (hr.mono (by omega)) (by rfl) T.g_are_classes T.F_are_classes.kp T.b_are_classes .nil pass0 (pa_cons (pv 0) (pa_cons (pv 1) (pa_cons (pv 2) (pa_cons (pv 5) pa_nil))))))) (pw_or (pt_not (pt_val (pe_callB (k_isi (K := K) rfl) (by rfl) T.z_isinstance (by decide +kernel) (pa_cons (pv 6) (pa_cons (pe_bltn (v := .ty "tuple") (by rfl) T.z_tuple (by decide +kernel) rfl) pa_nil))))) (pw_or1 (pt_cmpR op_ne (pe_callB (k_len (K := K) rfl) (by rfl) T.z_len (by decide +kernel) (pa_cons (pv 6) pa_nil)) (pe_callB (k_len (K := K) rfl) (by rfl) T.z_len (by decide +kernel) (pa_cons (pv 5) pa_nil)) (nomark _)))))) (pss_one (ps_ret pe_bl)) pss_nil)
      (pss_cons (ps_if (pt_cmpR op_eq (pv 4) (pe_glob (v := .str "columns") (by rfl) T.g_COLUMNS ⟨_, rfl⟩) (nomark _)) (pss_one (ps_ret (pe_callB (k_all (K := K) rfl rfl) (by rfl) T.z_all (by decide +kernel) (pa_cons (pe_lc (own := [("lot", 7), ("tree", 8)]) rfl sc_is_tree.nd (RZ.pi_zipA (by rfl) T.z_zip (pa_cons (pv 5) (pa_cons (pv 6) pa_nil))) (blkOk_by (by kernel_rfl)) (fun _ _ _ _ _ => (k_pgtup (K := K) (n := 2) rfl rfl (pgs_cons (pg_name (i := 7) sc_is_tree.nd rfl (.inl rfl)) (pgs_cons (pg_name (i := 8) sc_is_tree.nd rfl (.inl rfl)) pgs_nil)))) (fun _ _ _ _ _ => pts_nil) (fun _ _ _ _ _ => (pe_call G_is_tree (hr.mono (by omega)) (by rfl) T.g_is_tree T.F_is_tree.kp T.b_is_tree .nil pass0 (pa_cons (pe_call G_turned_square (hr.mono (by omega)) (by rfl) T.g_turned_square T.F_turned_square.kp T.b_turned_square .nil pass0 (pa_cons (pv 0) pa_nil)) (pa_cons (pv 2) (pa_cons (pv 7) (pa_cons (pv 8) pa_nil))))))) pa_nil)))) pss_nil)
      (pss_one (ps_ret (pe_callB (k_all (K := K) rfl rfl) (by rfl) T.z_all (by decide +kernel) (pa_cons (pe_lc (own := [("lot", 7), ("tree", 8)]) rfl sc_is_tree.nd (RZ.pi_zipA (by rfl) T.z_zip (pa_cons (pv 5) (pa_cons (pv 6) pa_nil))) (blkOk_by (by kernel_rfl)) (fun _ _ _ _ _ => (k_pgtup (K := K) (n := 2) rfl rfl (pgs_cons (pg_name (i := 7) sc_is_tree.nd rfl (.inl rfl)) (pgs_cons (pg_name (i := 8) sc_is_tree.nd rfl (.inl rfl)) pgs_nil)))) (fun _ _ _ _ _ => pts_nil) (fun _ _ _ _ _ => (pe_call G_is_tree (hr.mono (by omega)) (by rfl) T.g_is_tree T.F_is_tree.kp T.b_is_tree .nil pass0 (pa_cons (pv 0) (pa_cons (pv 7) (pa_cons (pv 2) (pa_cons (pv 8) pa_nil))))))) pa_nil))))))))))), ?_⟩
      have lr' := wf.turnR lr
      have lc' := wf.turnC lc
      cases x with
      | tup xs =>
        obtain ⟨m, hm0, hl, hm⟩ := fits_tup.mp hn
        cases hm0
        cases xs with
        | nil =>
          refine dS_when (b := true) (et_or (a := false) (b := true) (et_is (et_not (tst (disi_tuple (dvar rfl h4)))) rfl) fun _ => et_or (a := true) (b := true) (et_is (tst (dempT (neg := false) (dvar rfl h4))) rfl) fun z => by cases z) (fun _ H1 e1 => ?_) fun z => by cases z
          exact dS_ret (d := .bl false) dbl (q.up e1)
        | cons d0 rest =>
          refine dS_when (b := !d0.isStr) (et_or (a := false) (b := !d0.isStr) (et_is (et_not (tst (disi_tuple (dvar rfl h4)))) rfl) fun _ => et_or (a := false) (b := !d0.isStr) (et_is (tst (dempT (neg := false) (dvar rfl h4))) rfl) fun _ => et_not (tst (disi_str (dixT (dvar rfl h4) dint (by omega) (by rfl))))) (fun hb H1 e1 => ?_) fun hb H1 e1 => ?_
          · refine dS_ret (d := .bl false) dbl (?_ : RetD (.bl false) H1 Q)
            have : isTreeM (n + 1) sq rows cols (.tup (d0 :: rest)) = false := by
              cases d0 with
              | str s => cases hb
              | _ => rfl
            rw [this] at q
            exact q.up e1
          · cases d0 with
            | str wd =>
              have v0 : ∀ {σ : L2.St} {G : Hp}, Ex H G → σ[3]? = some (some v4) → EvD (tOp (rIxT K) (tVar 3) (tC (.int 0))) σ G (.str wd) := fun e hσ => dixT (dvar hσ (h4.mono e)) dint (by omega) (by rfl)
              by_cases hfl : wd = "flat"
              · subst hfl
                refine dS_when (b := true) (et_is (tst (deqS (v0 e1 rfl) dstr)) (by decide)) (fun _ H2 e2 => ?_) fun z => by cases z
                have ee := e1.trans e2
                by_cases hl2 : rest.length = 1
                · obtain ⟨x, rfl⟩ : ∃ x, rest = [x] := by
                    match rest, hl2 with
                    | [x], _ => exact ⟨x, rfl⟩
                  refine dS_when (b := !within x 0 60) (et_or (a := false) (b := !within x 0 60) (et_is (tst (dneI (dlenT (dvar rfl (h4.mono ee))) dint)) (by rfl)) fun _ => et_not (tst (dcallD (aC (dixT (dvar rfl (h4.mono ee)) dint (by omega) (by rfl)) (aC dint (aC dint aN))) ⟨x, 0, 60, rfl, rfl⟩))) (fun hb3 H3 e3 => ?_) fun hb3 H3 e3 => ?_
                  · refine dS_ret (d := .bl false) dbl (?_ : RetD (.bl false) H3 Q)
                    have : isTreeM (n + 1) sq rows cols (.tup [.str "flat", x]) = false := by
                      have : within x 0 60 = false := by simpa using hb3
                      simp [isTreeM, this]
                    rw [this] at q
                    exact q.up (ee.trans e3)
                  · cases x with
                    | int i =>
                      have : isTreeM (n + 1) sq rows cols (.tup [.str "flat", .int i]) = (flat (ent sq) rows cols && decide (ent sq (rows.headD 0) (cols.headD 0) = i)) := by
                        have : within (.int i) 0 60 = true := by simpa using hb3
                        simp [isTreeM, this, intOf]
                      rw [this] at q
                      have ee := ee.trans e3
                      refine dS_ret (d := .bl (flat (ent sq) rows cols && decide (ent sq (rows.headD 0) (cols.headD 0) = i))) ?_ (q.up ee)
                      exact dand (dcallD (aC (dvar rfl (h1.mono ee)) (aC (dvar rfl (h2.mono ee)) (aC (dvar rfl (h3.mono ee)) aN))) ⟨sq, rows, cols, wf, lr, lc, rfl, rfl⟩) fun _ => deqI (dEnt wf (dvar rfl (h1.mono ee)) (dHead (dvar rfl (h2.mono ee)) lr.ne) (dHead (dvar rfl (h3.mono ee)) lc.ne) (lr.bd _ lr.head) (lc.bd _ lc.head)) (dixT (dvar rfl (h4.mono ee)) dint (by omega) (by rfl))
                    | _ => cases hb3
                · refine dS_when (b := true) (et_or (a := true) (b := true) (et_is (tst (dneI (dlenT (dvar rfl (h4.mono ee))) dint)) ?_) fun z => by cases z) (fun _ H3 e3 => ?_) fun z => by cases z
                  · rw [decide_eq_false (by rw [List.length_cons]; omega)]
                    rfl
                  · refine dS_ret (d := .bl false) dbl (?_ : RetD (.bl false) H3 Q)
                    rw [tree_bad0 (fun _ => hl2) fun z => by rcases z with z | z <;> exact absurd z (by decide)] at q
                    exact q.up (ee.trans e3)
              · refine dS_when (b := false) (et_is (tst (deqS (v0 e1 rfl) dstr)) (decide_eq_false hfl)) (fun z => by cases z) fun _ H2 e2 => ?_
                have ee := e1.trans e2
                by_cases hrc : wd = "rows" ∨ wd = "columns"
                · have hrcB : (!(decide (wd = "rows") || decide (wd = "columns"))) = false := by
                    rcases hrc with h | h <;> simp [h]
                  by_cases hl2 : rest.length = 2
                  · obtain ⟨c, t, rfl⟩ : ∃ c t, rest = [c, t] := by
                      match rest, hl2 with
                      | [c, t], _ => exact ⟨c, t, rfl⟩
                    refine dS_when (b := false) (et_or (a := false) (b := false) (et_is (tst (dnin2 (v0 ee rfl) (dtup (aC dstr (aC dstr aN)) (by show 2 ≤ 1000; decide)))) hrcB) fun _ => et_is (tst (dneI (dlenT (dvar rfl (h4.mono ee))) dint)) (by rfl)) (fun z => by cases z) fun _ H3 e3 => ?_
                    have ee := ee.trans e3
                    refine dq_asgG (dvar rfl (h4.mono ee)) fun vv H4 e4 hvv => bThree hvv fun xw xc xt hxw hxc hxt => ?_
                    have ee := ee.trans e4
                    have fc : c.fits n = true := hm c (by simp)
                    have ft : t.fits n = true := hm t (by simp)
                    by_cases hcol : wd = "columns"
                    · subst hcol
                      refine dS_when (b := true) (et_is (tst (deqS (dvar rfl hxw) dstr)) (by decide)) (fun _ H5 e5 => ?_) fun z => by cases z
                      refine (dtup (aC (d := sqD (turn sq)) (dcallD (aC (dvar rfl (h1.mono (ee.trans e5))) aN) ⟨sq, wf, rfl, rfl⟩) (aC (dvar rfl (h3.mono (ee.trans e5))) (aC (dvar rfl (h2.mono (ee.trans e5))) aN))) (by show 3 ≤ 1000; decide) : EvD _ _ H5 _) H5 (Ex.refl _) _ fun vv2 H6 e6 hvv2 => bThree hvv2 (P := fun σ2 => _) (fun y1 y2 y3 hy1 hy2 hy3 => ?_) _ fun σ2 h => h
                      have e56 := e5.trans e6
                      have ee := ee.trans e56
                      by_cases hcl : clsB (ent (turn sq)) (turn sq).length cols rows c = true
                      · obtain ⟨cs, rfl, hits, hlns⟩ := clsB_lots hcl
                        have hlns2 : ∀ l ∈ cs, Ln (wid sq) l := fun l hl => by have := hlns l hl; rwa [turn_len] at this
                        cases t with
                        | tup ts =>
                          obtain ⟨k, hk0, hk1, hk2⟩ := fits_tup.mp ft
                          have fts : ∀ d ∈ ts, d.fits n = true := fun d hd => fits_mono d (by omega) (hk2 d hd)
                          obtain ⟨k', hk0', hk1', hk2'⟩ := fits_tup.mp fc
                          rw [List.length_map] at hk1'
                          have hM : isTreeM (n + 1) sq rows cols (.tup [.str "columns", .tup (cs.map lnD), .tup ts]) = (decide (ts.length = cs.length) && (cs.zip ts).all fun p => isTreeM n sq rows p.1 p.2) := by
                            have hii : items (.tup (cs.map lnD)) = cs.map lnD := rfl
                            rw [hii] at hits
                            rw [isTreeM]
                            simp only [hcl, hii, hits, List.length_map, Bool.true_and]
                            rfl
                          rw [hM] at q
                          refine dS_when (b := !decide (ts.length = cs.length)) (et_or (a := false) (et_is (et_not (tst (dcallD (aC (dvar rfl hy1) (aC (dvar rfl hy2) (aC (dvar rfl hy3) (aC (dvar rfl (hxc.mono e56)) aN)))) ⟨turn sq, cols, rows, .tup (cs.map lnD), turn_wf wf, lc', lr', fc, rfl, rfl⟩))) (by rw [hcl]; rfl)) fun _ => et_or (a := false) (et_is (et_not (tst (disi_tuple (dvar rfl (hxt.mono e56))))) rfl) fun _ => et_is (tst (dneI (dlenT (dvar rfl (hxt.mono e56))) (dlenT (dvar rfl (hxc.mono e56))))) (by rw [List.length_map]; congr 1; refine decide_eq_decide.mpr ?_; omega)) (fun hb7 H7 e7 => ?_) fun hb7 H7 e7 => ?_
                          · refine dS_ret (d := .bl false) dbl (?_ : RetD (.bl false) H7 Q)
                            rw [show decide (ts.length = cs.length) = false by simpa using hb7] at q
                            exact q.up (ee.trans e7)
                          · rw [show decide (ts.length = cs.length) = true by simpa using hb7, Bool.true_and] at q
                            refine dS_when (b := true) (et_is (tst (deqS (dvar rfl (hxw.mono (e56.trans e7))) dstr)) (by decide)) (fun _ H8 e8 => ?_) fun z => by cases z
                            have ee8 := (ee.trans e7).trans e8
                            have x8 := (e56.trans e7).trans e8
                            refine dS_ret (d := .bl ((cs.zip ts).all fun p => isTreeM n sq rows p.1 p.2)) ?_ (q.up ee8)
                            refine (dall (bs := (cs.zip ts).map fun p => isTreeM n sq rows p.1 p.2) ((nlcM (fun d => .bl (isTreeM n sq rows (intsOf ((items d).headD .non)) ((items d).getD 1 .non))) (srcZ (aC (dvar rfl (hxc.mono x8)) (aC (dvar rfl (hxt.mono x8)) aN))) (by rw [List.length_map, List.length_zip, List.length_map]; omega) (fun _ _ => rfl) fun d hd y G e hy => ?_).toD.is (congrArg Dat.lst (zip_all cs ts fun l t => isTreeM n sq rows l t)))).is (by rw [all_map_id])
                            obtain ⟨l, t, hl, ht, rfl⟩ := zip_mem hd
                            refine bTwo hy fun z1 z2 g1 g2 => ⟨rfl, ?_⟩
                            refine dcallD (aC ((dcallD (d := sqD (turn (turn sq))) (aC (dvar rfl (hy1.mono ((e7.trans e8).trans e))) aN) ⟨turn sq, turn_wf wf, rfl, rfl⟩).is (by rw [turn_turn wf])) (aC (dvar rfl (hy3.mono ((e7.trans e8).trans e))) (aC (dvar rfl g1) (aC (dvar rfl g2) aN)))) ⟨sq, rows, l, t, wf, lr, hlns2 l hl, fts t ht, rfl, ?_⟩
                            show Dat.bl (isTreeM n sq rows (intsOf (lnD l)) t) = _
                            rw [ints_lnD]
                        | _ =>
                          refine dS_when (b := true) (et_or (a := false) (b := true) (et_is (et_not (tst (dcallD (aC (dvar rfl hy1) (aC (dvar rfl hy2) (aC (dvar rfl hy3) (aC (dvar rfl (hxc.mono e56)) aN)))) ⟨turn sq, cols, rows, .tup (cs.map lnD), turn_wf wf, lc', lr', fc, rfl, rfl⟩))) (by rw [hcl]; rfl)) fun _ => et_or (a := true) (b := true) (et_is (et_not (tst (disi_tuple (dvar rfl (hxt.mono e56))))) rfl) fun z => by cases z) (fun _ H7 e7 => ?_) fun z => by cases z
                          exact dS_ret (d := .bl false) dbl (q.up (ee.trans e7))
                      · rw [Bool.not_eq_true] at hcl
                        refine dS_when (b := true) (et_or (a := true) (b := true) (et_is (et_not (tst (dcallD (aC (dvar rfl hy1) (aC (dvar rfl hy2) (aC (dvar rfl hy3) (aC (dvar rfl (hxc.mono e56)) aN)))) ⟨turn sq, cols, rows, c, turn_wf wf, lc', lr', fc, rfl, rfl⟩))) (by rw [hcl]; rfl)) fun z => by cases z) (fun _ H7 e7 => ?_) fun z => by cases z
                        refine dS_ret (d := .bl false) dbl (?_ : RetD (.bl false) H7 Q)
                        have hM : isTreeM (n + 1) sq rows cols (.tup [.str "columns", c, t]) = false := by
                          cases t with
                          | tup ts =>
                            rw [isTreeM]
                            simp only [hcl, Bool.false_and]
                            rfl
                          | _ => rfl
                        rw [hM] at q
                        exact q.up (ee.trans e7)
                    · have hrow : wd = "rows" := hrc.resolve_right hcol
                      subst hrow
                      refine dS_when (b := false) (et_is (tst (deqS (dvar rfl hxw) dstr)) (by decide)) (fun z => by cases z) fun _ H5 e5 => ?_
                      have ee := ee.trans e5
                      by_cases hcl : clsB (ent sq) sq.length rows cols c = true
                      · obtain ⟨cs, rfl, hits, hlns⟩ := clsB_lots hcl
                        cases t with
                        | tup ts =>
                          obtain ⟨k, hk0, hk1, hk2⟩ := fits_tup.mp ft
                          have fts : ∀ d ∈ ts, d.fits n = true := fun d hd => fits_mono d (by omega) (hk2 d hd)
                          obtain ⟨k', hk0', hk1', hk2'⟩ := fits_tup.mp fc
                          rw [List.length_map] at hk1'
                          have hM : isTreeM (n + 1) sq rows cols (.tup [.str "rows", .tup (cs.map lnD), .tup ts]) = (decide (ts.length = cs.length) && (cs.zip ts).all fun p => isTreeM n sq p.1 cols p.2) := by
                            have hii : items (.tup (cs.map lnD)) = cs.map lnD := rfl
                            rw [hii] at hits
                            rw [isTreeM]
                            simp only [hcl, hii, hits, List.length_map, Bool.true_and]
                            rfl
                          rw [hM] at q
                          refine dS_when (b := !decide (ts.length = cs.length)) (et_or (a := false) (et_is (et_not (tst (dcallD (aC (dvar rfl (h1.mono ee)) (aC (dvar rfl (h2.mono ee)) (aC (dvar rfl (h3.mono ee)) (aC (dvar rfl (hxc.mono e5)) aN)))) ⟨sq, rows, cols, .tup (cs.map lnD), wf, lr, lc, fc, rfl, rfl⟩))) (by rw [hcl]; rfl)) fun _ => et_or (a := false) (et_is (et_not (tst (disi_tuple (dvar rfl (hxt.mono e5))))) rfl) fun _ => et_is (tst (dneI (dlenT (dvar rfl (hxt.mono e5))) (dlenT (dvar rfl (hxc.mono e5))))) (by rw [List.length_map]; congr 1; refine decide_eq_decide.mpr ?_; omega)) (fun hb7 H7 e7 => ?_) fun hb7 H7 e7 => ?_
                          · refine dS_ret (d := .bl false) dbl (?_ : RetD (.bl false) H7 Q)
                            rw [show decide (ts.length = cs.length) = false by simpa using hb7] at q
                            exact q.up (ee.trans e7)
                          · rw [show decide (ts.length = cs.length) = true by simpa using hb7, Bool.true_and] at q
                            refine dS_when (b := false) (et_is (tst (deqS (dvar rfl (hxw.mono (e5.trans e7))) dstr)) (by decide)) (fun z => by cases z) fun _ H8 e8 => ?_
                            have ee8 := (ee.trans e7).trans e8
                            have x8 := (e5.trans e7).trans e8
                            refine dS_ret (d := .bl ((cs.zip ts).all fun p => isTreeM n sq p.1 cols p.2)) ?_ (q.up ee8)
                            refine (dall (bs := (cs.zip ts).map fun p => isTreeM n sq p.1 cols p.2) ((nlcM (fun d => .bl (isTreeM n sq (intsOf ((items d).headD .non)) cols ((items d).getD 1 .non))) (srcZ (aC (dvar rfl (hxc.mono x8)) (aC (dvar rfl (hxt.mono x8)) aN))) (by rw [List.length_map, List.length_zip, List.length_map]; omega) (fun _ _ => rfl) fun d hd y G e hy => ?_).toD.is (congrArg Dat.lst (zip_all cs ts fun l t => isTreeM n sq l cols t)))).is (by rw [all_map_id])
                            obtain ⟨l, t, hl, ht, rfl⟩ := zip_mem hd
                            refine bTwo hy fun z1 z2 g1 g2 => ⟨rfl, ?_⟩
                            refine dcallD (aC (dvar rfl (h1.mono (ee8.trans e))) (aC (dvar rfl g1) (aC (dvar rfl (h3.mono (ee8.trans e))) (aC (dvar rfl g2) aN)))) ⟨sq, l, cols, t, wf, hlns l hl, lc, fts t ht, rfl, ?_⟩
                            show Dat.bl (isTreeM n sq (intsOf (lnD l)) cols t) = _
                            rw [ints_lnD]
                        | _ =>
                          refine dS_when (b := true) (et_or (a := false) (b := true) (et_is (et_not (tst (dcallD (aC (dvar rfl (h1.mono ee)) (aC (dvar rfl (h2.mono ee)) (aC (dvar rfl (h3.mono ee)) (aC (dvar rfl (hxc.mono e5)) aN)))) ⟨sq, rows, cols, .tup (cs.map lnD), wf, lr, lc, fc, rfl, rfl⟩))) (by rw [hcl]; rfl)) fun _ => et_or (a := true) (b := true) (et_is (et_not (tst (disi_tuple (dvar rfl (hxt.mono e5))))) rfl) fun z => by cases z) (fun _ H7 e7 => ?_) fun z => by cases z
                          exact dS_ret (d := .bl false) dbl (q.up (ee.trans e7))
                      · rw [Bool.not_eq_true] at hcl
                        refine dS_when (b := true) (et_or (a := true) (b := true) (et_is (et_not (tst (dcallD (aC (dvar rfl (h1.mono ee)) (aC (dvar rfl (h2.mono ee)) (aC (dvar rfl (h3.mono ee)) (aC (dvar rfl (hxc.mono e5)) aN)))) ⟨sq, rows, cols, c, wf, lr, lc, fc, rfl, rfl⟩))) (by rw [hcl]; rfl)) fun z => by cases z) (fun _ H7 e7 => ?_) fun z => by cases z
                        refine dS_ret (d := .bl false) dbl (?_ : RetD (.bl false) H7 Q)
                        have hM : isTreeM (n + 1) sq rows cols (.tup [.str "rows", c, t]) = false := by
                          cases t with
                          | tup ts =>
                            rw [isTreeM]
                            simp only [hcl, Bool.false_and]
                            rfl
                          | _ => rfl
                        rw [hM] at q
                        exact q.up (ee.trans e7)
                  · refine dS_when (b := true) (et_or (a := false) (b := true) (et_is (tst (dnin2 (v0 ee rfl) (dtup (aC dstr (aC dstr aN)) (by show 2 ≤ 1000; decide)))) hrcB) fun _ => et_is (tst (dneI (dlenT (dvar rfl (h4.mono ee))) dint)) ?_) (fun _ H3 e3 => ?_) fun z => by cases z
                    · rw [decide_eq_false (by rw [List.length_cons]; omega)]
                      rfl
                    · refine dS_ret (d := .bl false) dbl (?_ : RetD (.bl false) H3 Q)
                      rw [tree_bad0 (fun z => absurd z hfl) fun _ => hl2] at q
                      exact q.up (ee.trans e3)
                · have hrcB : (!(decide (wd = "rows") || decide (wd = "columns"))) = true := by
                    rw [not_or] at hrc
                    simp [hrc]
                  refine dS_when (b := true) (et_or (a := true) (b := true) (et_is (tst (dnin2 (v0 ee rfl) (dtup (aC dstr (aC dstr aN)) (by show 2 ≤ 1000; decide)))) hrcB) fun z => by cases z) (fun _ H3 e3 => ?_) fun z => by cases z
                  refine dS_ret (d := .bl false) dbl (?_ : RetD (.bl false) H3 Q)
                  rw [tree_bad0 (fun z => absurd z hfl) fun z => absurd z hrc] at q
                  exact q.up (ee.trans e3)
            | _ => cases hb
      | _ =>
        refine dS_when (b := true) (et_or (a := true) (b := true) (et_is (et_not (tst (disi_tuple (dvar rfl h4)))) rfl) fun z => by cases z) (fun _ H1 e1 => ?_) fun z => by cases z
        exact dS_ret (d := .bl false) dbl (q.up e1)
end

end Kw
namespace Kw
open PySem PySem.Spec PyProof.Rows L2 Evl
section
variable {P : Program} {w : World} {K : PySem.W.Frag} {mg : Str → Option Value} {base : Heap}
theorem ok_L_lk_is_tree (T : Txt K mg) : ∀ n, FnOk P w K mg base CX0 (5 + n) T.a_L_lk_is_tree T.d_L_lk_is_tree ["_law_square", "_law_rows", "_law_columns", "_law_value"] (SpD (domTree n))
  | 0 => by
    refine T.F_L_lk_is_tree.ok sc_L_lk_is_tree (fun vs H Q E h => ?_) (fun cdv A outer s H vs Q E hr h => ?_)
    · obtain ⟨ds, d, hv, ⟨sq, rows, cols, x, wf, lr, lc, hn, rfl, rfl⟩, q⟩ := h
      exact hv.len
    · obtain ⟨ds, d, hv, ⟨sq, rows, cols, x, wf, lr, lc, hn, rfl, rfl⟩, q⟩ := h
      simp [Dat.fits] at hn
  | n + 1 => by
    have G_L_lk_is_tree := ok_L_lk_is_tree T n
    have G_L_lk_are_classes := ok_L_lk_are_classes (P := P) (w := w) (base := base) T n
    have G_L_lk_is_within := ok_L_lk_is_within (P := P) (w := w) (base := base) T
    have G_L_lk_turned := ok_L_lk_turned (P := P) (w := w) (base := base) T
    refine T.F_L_lk_is_tree.ok sc_L_lk_is_tree (fun vs H Q E h => ?_) (fun cdv A outer s H vs Q E hr h => ?_)
    · obtain ⟨ds, d, hv, ⟨sq, rows, cols, x, wf, lr, lc, hn, rfl, rfl⟩, q⟩ := h
      exact hv.len
    · obtain ⟨ds, d, hv, ⟨sq, rows, cols, x, wf, lr, lc, hn, rfl, rfl⟩, q⟩ := h
      obtain ⟨v1, _, rfl, h1, v2, _, rfl, h2, v3, _, rfl, h3, hv⟩ := hv
      obtain ⟨v4, rfl, h4⟩ := hv.one
      replace hr : Room (5 + n) _ := hr
      refine ⟨_, (pss_cons (ps_if (PW.pt (pw_or (pt_not (pt_val (pe_callB (k_isi (K := K) rfl) (by rfl) T.z_isinstance (by decide +kernel) (pa_cons (pv 3) (pa_cons (pe_bltn (v := .ty "tuple") (by rfl) T.z_tuple (by decide +kernel) rfl) pa_nil))))) (pw_or (pt_cmpR op_lt (pe_callB (k_len (K := K) rfl) (by rfl) T.z_len (by decide +kernel) (pa_cons (pv 3) pa_nil)) pe_int (nomark _)) (pw_or1 (pt_not (pt_val (pe_callB (k_isi (K := K) rfl) (by rfl) T.z_isinstance (by decide +kernel) (pa_cons (pe_ix (k_ixT (K := K) rfl) (pv 3) pe_int (fun _ _ => rfl)) (pa_cons (pe_bltn (v := .ty "str") (by rfl) T.z_str (by decide +kernel) rfl) pa_nil))))))))) (pss_one (ps_ret pe_bl)) pss_nil)
      (pss_cons (ps_if (pt_cmpR op_eq (pe_ix (k_ixT (K := K) rfl) (pv 3) pe_int (fun _ _ => rfl)) pe_str (nomark _)) (pss_cons (ps_if (PW.pt (pw_or (pt_cmpR op_ne (pe_callB (k_len (K := K) rfl) (by rfl) T.z_len (by decide +kernel) (pa_cons (pv 3) pa_nil)) pe_int (nomark _)) (pw_or1 (pt_not (pt_val (pe_call G_L_lk_is_within (hr.mono (by omega)) (by rfl) T.g_L_lk_is_within T.F_L_lk_is_within.kp T.b_L_lk_is_within .nil pass0 (pa_cons (pe_ix (k_ixT (K := K) rfl) (pv 3) pe_int (fun _ _ => rfl)) (pa_cons pe_int (pa_cons pe_int pa_nil))))))))) (pss_one (ps_ret pe_bl)) pss_nil)
      (pss_one (ps_ret (pe_cmpR (k_eqE (K := K) rfl hr.units0) (pe_lc (own := [("_law_row", 7)]) rfl sc_L_lk_is_tree.nd (k_tup (K := K) rfl (pv 1)) (blkOk_by (by kernel_rfl)) (fun _ _ _ _ _ => (pg_name (i := 7) sc_L_lk_is_tree.nd rfl (.inr rfl))) (fun _ _ _ _ _ => (pts_one (pt_cmpR (k_neE (K := K) rfl hr.units0) (pe_lc (own := [("_law_at", 8)]) rfl sc_L_lk_is_tree.nd (k_tup (K := K) rfl (pv 2)) (blkOk_by (by kernel_rfl)) (fun _ _ _ _ _ => (pg_name (i := 8) sc_L_lk_is_tree.nd rfl (.inl rfl))) (fun _ _ _ _ _ => (pts_one (pt_cmpR op_ne (pe_ix (k_ixT (K := K) rfl) (pe_ix (k_ixT (K := K) rfl) (pv 0) (pv 7) (fun _ _ => rfl)) (pv 8) (fun _ _ => rfl)) (pe_ix (k_ixT (K := K) rfl) (pv 3) pe_int (fun _ _ => rfl)) (nomark _)))) (fun _ _ _ _ _ => pe_int)) (pe_lst pa_nil) (nomark _)))) (fun _ _ _ _ _ => pe_int)) (pe_lst pa_nil) (nomark _))))) pss_nil)
      (pss_cons (ps_if (PW.pt (pw_or (pt_cmpR (k_notIn (K := K) rfl) (pe_ix (k_ixT (K := K) rfl) (pv 3) pe_int (fun _ _ => rfl)) (pe_tup (pa_cons pe_str (pa_cons pe_str pa_nil))) (by rfl)) (pw_or (pt_cmpR op_ne (pe_callB (k_len (K := K) rfl) (by rfl) T.z_len (by decide +kernel) (pa_cons (pv 3) pa_nil)) pe_int (nomark _)) (pw_or1 (pt_not (pt_val (pe_callB (k_isi (K := K) rfl) (by rfl) T.z_isinstance (by decide +kernel) (pa_cons (pe_ix (k_ixT (K := K) rfl) (pv 3) pe_int (fun _ _ => rfl)) (pa_cons (pe_bltn (v := .ty "tuple") (by rfl) T.z_tuple (by decide +kernel) rfl) pa_nil))))))))) (pss_one (ps_ret pe_bl)) pss_nil)
      (pss_cons (ps_set (i := 4) sc_L_lk_is_tree.nd rfl (.inl rfl) (pe_call G_L_lk_are_classes (hr.mono (by omega)) (by rfl) T.g_L_lk_are_classes T.F_L_lk_are_classes.kp T.b_L_lk_are_classes .nil pass0 (pa_cons (pv 0) (pa_cons (pv 1) (pa_cons (pv 2) (pa_cons (pe_ix (k_ixT (K := K) rfl) (pv 3) pe_int (fun _ _ => rfl)) pa_nil))))))
      (pss_cons (ps_if (pt_cmpR op_eq (pe_ix (k_ixT (K := K) rfl) (pv 3) pe_int (fun _ _ => rfl)) pe_str (nomark _)) (pss_one (ps_set (i := 4) sc_L_lk_is_tree.nd rfl (.inl rfl) (pe_call G_L_lk_are_classes (hr.mono (by omega)) (by rfl) T.g_L_lk_are_classes T.F_L_lk_are_classes.kp T.b_L_lk_are_classes .nil pass0 (pa_cons (pe_call G_L_lk_turned (hr.mono (by omega)) (by rfl) T.g_L_lk_turned T.F_L_lk_turned.kp T.b_L_lk_turned .nil pass0 (pa_cons (pv 0) pa_nil)) (pa_cons (pv 2) (pa_cons (pv 1) (pa_cons (pe_ix (k_ixT (K := K) rfl) (pv 3) pe_int (fun _ _ => rfl)) pa_nil))))))) pss_nil)
      (pss_cons (ps_if (PW.pt (pw_or (pt_not (pt_val (pv 4))) (pw_or1 (pt_cmpR op_ne (pe_callB (k_len (K := K) rfl) (by rfl) T.z_len (by decide +kernel) (pa_cons (pe_ix (k_ixT (K := K) rfl) (pv 3) pe_int (fun _ _ => rfl)) pa_nil)) (pe_callB (k_len (K := K) rfl) (by rfl) T.z_len (by decide +kernel) (pa_cons (pe_ix (k_ixT (K := K) rfl) (pv 3) pe_int (fun _ _ => rfl)) pa_nil)) (nomark _))))) (pss_one (ps_ret pe_bl)) pss_nil)
      (pss_cons (ps_for PassesOwn.never rfl (RZ.pi_zipA (by rfl) T.z_zip (pa_cons (pe_ix (k_ixT (K := K) rfl) (pv 3) pe_int (fun _ _ => rfl)) (pa_cons (pe_ix (k_ixT (K := K) rfl) (pv 3) pe_int (fun _ _ => rfl)) pa_nil))) (k_pgtup (K := K) (n := 2) rfl rfl (pgs_cons (pg_name (i := 5) sc_L_lk_is_tree.nd rfl (.inl rfl)) (pgs_cons (pg_name (i := 6) sc_L_lk_is_tree.nd rfl (.inl rfl)) pgs_nil))) (pss_cons (ps_if (PW.pt (pw_and (pt_cmpR op_eq (pe_ix (k_ixT (K := K) rfl) (pv 3) pe_int (fun _ _ => rfl)) pe_str (nomark _)) (pw_and1 (pt_not (pt_val (pe_call G_L_lk_is_tree (hr.mono (by omega)) (by rfl) T.g_L_lk_is_tree T.F_L_lk_is_tree.kp T.b_L_lk_is_tree .nil pass0 (pa_cons (pv 0) (pa_cons (pv 5) (pa_cons (pv 2) (pa_cons (pv 6) pa_nil)))))))))) (pss_one (ps_ret pe_bl)) pss_nil)
      (pss_one (ps_if (PW.pt (pw_and (pt_cmpR op_eq (pe_ix (k_ixT (K := K) rfl) (pv 3) pe_int (fun _ _ => rfl)) pe_str (nomark _)) (pw_and1 (pt_not (pt_val (pe_call G_L_lk_is_tree (hr.mono (by omega)) (by rfl) T.g_L_lk_is_tree T.F_L_lk_is_tree.kp T.b_L_lk_is_tree .nil pass0 (pa_cons (pv 0) (pa_cons (pv 1) (pa_cons (pv 5) (pa_cons (pv 6) pa_nil)))))))))) (pss_one (ps_ret pe_bl)) pss_nil))))
      (pss_one (ps_ret pe_bl))))))))), ?_⟩
      have lr' := wf.turnR lr
      have lc' := wf.turnC lc
      have r12 := lr.nat12 wf.len
      have c12 := lc.nat12 wf.w12
      cases x with
      | tup xs =>
        obtain ⟨m, hm0, hl, hm⟩ := fits_tup.mp hn
        cases hm0
        by_cases hsh : ∃ wd x rest, xs = .str wd :: x :: rest
        · obtain ⟨wd, x, rest, rfl⟩ := hsh
          have v0 : ∀ {σ : L2.St} {G : Hp}, Ex H G → σ[3]? = some (some v4) → EvD (tOp (rIxT K) (tVar 3) (tC (.int 0))) σ G (.str wd) := fun e hσ => dixT (dvar hσ (h4.mono e)) dint (by omega) (by rfl)
          have va : ∀ {σ : L2.St} {G : Hp}, Ex H G → σ[3]? = some (some v4) → EvD (tOp (rIxT K) (tVar 3) (tC (.int 1))) σ G x := fun e hσ => dixT (dvar hσ (h4.mono e)) dint (by omega) (by rfl)
          refine dS_when (b := false) (et_or (a := false) (b := false) (et_is (et_not (tst (disi_tuple (dvar rfl h4)))) rfl) fun _ => et_or (a := false) (b := false) (et_is (tst (dlt (dlenT (dvar rfl h4)) dint)) ?_) fun _ => et_is (et_not (tst (disi_str (v0 (Ex.refl _) rfl)))) rfl) (fun z => by cases z) fun _ H1 e1 => ?_
          · refine decide_eq_false ?_
            simp only [List.length_cons]
            omega
          by_cases hfl : wd = "flat"
          · subst hfl
            refine dS_when (b := true) (et_is (tst (deqS (v0 e1 rfl) dstr)) (by decide)) (fun _ H2 e2 => ?_) fun z => by cases z
            have ee := e1.trans e2
            cases rest with
            | nil =>
              refine dS_when (b := !within x 0 60) (et_or (a := false) (b := !within x 0 60) (et_is (tst (dneI (dlenT (dvar rfl (h4.mono ee))) dint)) (by rfl)) fun _ => et_not (tst (dcallD (aC (va ee rfl) (aC dint (aC dint aN))) ⟨x, 0, 60, rfl, rfl⟩))) (fun hb3 H3 e3 => ?_) fun hb3 H3 e3 => ?_
              · refine dS_ret (d := .bl false) dbl (?_ : RetD (.bl false) H3 Q)
                have : isTreeM (n + 1) sq rows cols (.tup [.str "flat", x]) = false := by
                  have : within x 0 60 = false := by simpa using hb3
                  simp [isTreeM, this]
                rw [this] at q
                exact q.up (ee.trans e3)
              · cases x with
                | int i =>
                  have : isTreeM (n + 1) sq rows cols (.tup [.str "flat", .int i]) = (flat (ent sq) rows cols && decide (ent sq (rows.headD 0) (cols.headD 0) = i)) := by
                    have : within (.int i) 0 60 = true := by simpa using hb3
                    simp [isTreeM, this, intOf]
                  rw [this, ← flat_is lr.head lc.head] at q
                  have ee := ee.trans e3
                  refine dS_ret (d := .bl (rows.all fun r => cols.all fun c => decide (ent sq r c = i))) ?_ (q.up ee)
                  refine (dempL (neg := false) (nlc (fun d => cols.any fun c => !decide (ent sq (intOf d) c = i)) (fun _ => .int 1) (srcT (dvar rfl (h2.mono ee))) (by rw [List.length_map]; omega) (fun _ _ _ => rfl) ?_).toD).is ?_
                  · intro d hd y G e hy
                    obtain ⟨r, hr, rfl⟩ := List.mem_map.mp hd
                    refine bName ⟨rfl, tstB ((dempL (neg := true) (nlc (fun d => !decide (ent sq r (intOf d) = i)) (fun _ => .int 1) (srcT (dvar rfl (h3.mono (ee.trans e)))) (by rw [List.length_map]; omega) (fun _ _ _ => rfl) ?_).toD).is ?_), fun _ => dint⟩
                    · intro d hd z G2 e2 hz
                      obtain ⟨c, hc, rfl⟩ := List.mem_map.mp hd
                      exact bName ⟨rfl, tstB (dneI (dEnt wf (dvar rfl (h1.mono (ee.trans (e.trans e2)))) (dvar rfl (hy.mono e2)) (dvar rfl hz) (lr.bd _ hr) (lc.bd _ hc)) (va (ee.trans (e.trans e2)) rfl)), fun _ => dint⟩
                    · rw [fil_ints cols fun c => !decide (ent sq r c = i), List.isEmpty_map, List.isEmpty_map]
                      exact congrArg Dat.bl (filt_any _ _)
                  · rw [fil_ints rows fun r => cols.any fun c => !decide (ent sq r c = i), List.isEmpty_map, List.isEmpty_map]
                    have e : (List.filter (fun r => cols.any fun c => !decide (ent sq r c = i)) rows).isEmpty = rows.all fun r => cols.all fun c => decide (ent sq r c = i) := by
                      rw [filt_none]
                      congr 1
                      funext r
                      simp [List.any_eq_not_all_not]
                    exact congrArg Dat.bl e
                | _ => cases hb3
            | cons y rest =>
              refine dS_when (b := true) (et_or (a := true) (b := true) (et_is (tst (dneI (dlenT (dvar rfl (h4.mono ee))) dint)) ?_) fun z => by cases z) (fun _ H3 e3 => ?_) fun z => by cases z
              · rw [decide_eq_false (by simp only [List.length_cons]; omega)]
                rfl
              · refine dS_ret (d := .bl false) dbl (?_ : RetD (.bl false) H3 Q)
                rw [tree_bad0 (fun _ => by simp) fun z => by rcases z with z | z <;> exact absurd z (by decide)] at q
                exact q.up (ee.trans e3)
          · refine dS_when (b := false) (et_is (tst (deqS (v0 e1 rfl) dstr)) (decide_eq_false hfl)) (fun z => by cases z) fun _ H2 e2 => ?_
            have ee := e1.trans e2
            by_cases hrc : wd = "rows" ∨ wd = "columns"
            · have hrcB : (!(decide (wd = "rows") || decide (wd = "columns"))) = false := by
                rcases hrc with h | h <;> simp [h]
              by_cases hl2 : ∃ t, rest = [t]
              · obtain ⟨t, rfl⟩ := hl2
                have vt : ∀ {σ : L2.St} {G : Hp}, Ex H G → σ[3]? = some (some v4) → EvD (tOp (rIxT K) (tVar 3) (tC (.int 2))) σ G t := fun e hσ => dixT (dvar hσ (h4.mono e)) dint (by omega) (by rfl)
                have fc : x.fits n = true := hm x (by simp)
                have ft : t.fits n = true := hm t (by simp)
                cases t with
                | tup ts =>
                  obtain ⟨k, hk0, hk1, hk2⟩ := fits_tup.mp ft
                  have fts : ∀ d ∈ ts, d.fits n = true := fun d hd => fits_mono d (by omega) (hk2 d hd)
                  refine dS_when (b := false) (et_or (a := false) (b := false) (et_is (tst (dnin2 (v0 ee rfl) (dtup (aC dstr (aC dstr aN)) (by show 2 ≤ 1000; decide)))) hrcB) fun _ => et_or (a := false) (b := false) (et_is (tst (dneI (dlenT (dvar rfl (h4.mono ee))) dint)) (by rfl)) fun _ => et_is (et_not (tst (disi_tuple (vt ee rfl)))) rfl) (fun z => by cases z) fun _ H3 e3 => ?_
                  have ee := ee.trans e3
                  refine dq_asg (dcallD (aC (dvar rfl (h1.mono ee)) (aC (dvar rfl (h2.mono ee)) (aC (dvar rfl (h3.mono ee)) (aC (va ee rfl) aN)))) ⟨sq, rows, cols, x, wf, lr, lc, fc, rfl, rfl⟩) fun b1 H4 e4 hb1 => ?_
                  have ee := ee.trans e4
                  by_cases hcol : wd = "columns"
                  · subst hcol
                    refine dS_when (b := true) (et_is (tst (deqS (v0 ee rfl) dstr)) (by decide)) (fun _ H5 e5 => ?_) fun z => by cases z
                    refine dS_asg (dcallD (aC (d := sqD (turn sq)) (dcallD (aC (dvar rfl (h1.mono (ee.trans e5))) aN) ⟨sq, wf, rfl, rfl⟩) (aC (dvar rfl (h3.mono (ee.trans e5))) (aC (dvar rfl (h2.mono (ee.trans e5))) (aC (va (ee.trans e5) rfl) aN)))) ⟨turn sq, cols, rows, x, turn_wf wf, lc', lr', fc, rfl, rfl⟩) fun b2 H6 e6 hb2 => ?_
                    have ee := ee.trans (e5.trans e6)
                    by_cases hcl : clsB (ent (turn sq)) (turn sq).length cols rows x = true
                    · rw [hcl] at hb2
                      obtain ⟨cs, rfl, hits, hlns⟩ := clsB_lots hcl
                      have hlns2 : ∀ l ∈ cs, Ln (wid sq) l := fun l hl => by have := hlns l hl; rwa [turn_len] at this
                      obtain ⟨k', hk0', hk1', hk2'⟩ := fits_tup.mp fc
                      rw [List.length_map] at hk1'
                      have hM : isTreeM (n + 1) sq rows cols (.tup [.str "columns", .tup (cs.map lnD), .tup ts]) = (decide (ts.length = cs.length) && (cs.zip ts).all fun p => isTreeM n sq rows p.1 p.2) := by
                        have hii : items (.tup (cs.map lnD)) = cs.map lnD := rfl
                        rw [hii] at hits
                        rw [isTreeM]
                        simp only [hcl, hii, hits, List.length_map, Bool.true_and]
                        rfl
                      rw [hM] at q
                      refine dS_when (b := !decide (ts.length = cs.length)) (et_or (a := false) (et_is (et_not (tst (dvar rfl hb2))) rfl) fun _ => et_is (tst (dneI (dlenT (va ee rfl)) (dlenT (vt ee rfl)))) (by rw [List.length_map]; congr 1; refine decide_eq_decide.mpr ?_; omega)) (fun hb7 H7 e7 => ?_) fun hb7 H7 e7 => ?_
                      · refine dS_ret (d := .bl false) dbl (?_ : RetD (.bl false) H7 Q)
                        rw [show decide (ts.length = cs.length) = false by simpa using hb7] at q
                        exact q.up (ee.trans e7)
                      · rw [show decide (ts.length = cs.length) = true by simpa using hb7, Bool.true_and] at q
                        have ee := ee.trans e7
                        refine dq_for (fun i σ' H' => (((cs.zip ts).take i).all fun p => isTreeM n sq rows p.1 p.2) = true ∧ ∃ o4 o5 o6 o7 o8, σ' = [some v1, some v2, some v3, some v4, o4, o5, o6, o7, o8]) (srcZ (aC (va ee rfl) (aC (vt ee rfl) aN))) (fun H8 e8 => ⟨rfl, _, _, _, _, _, rfl⟩) ?_ ?_
                        · rintro i hi σ' H8 e8 ⟨hall, o4, o5, o6, o7, o8, rfl⟩ y H9 e9 hy
                          have hi0 : i < (cs.zip ts).length := by
                            simp only [List.length_map, List.length_zip] at hi ⊢
                            exact hi
                          have hy0 : Dv H9 (.tup [lnD (cs.zip ts)[i].1, (cs.zip ts)[i].2]) y := by
                            rw [List.getElem_map] at hy
                            simp only [List.zip_map_left, List.getElem_map] at hy
                            exact hy
                          have hmz : (cs.zip ts)[i] ∈ cs.zip ts := List.getElem_mem hi0
                          have hmz2 := List.of_mem_zip (show ((cs.zip ts)[i].1, (cs.zip ts)[i].2) ∈ cs.zip ts from hmz)
                          have tk : (cs.zip ts).take (i + 1) = (cs.zip ts).take i ++ [(cs.zip ts)[i]] := take_snoc (List.getElem?_eq_getElem hi0)
                          have ee := (ee.trans e8).trans e9
                          refine bTwo hy0 fun z1 z2 g1 g2 N hN => ?_
                          refine dS_when (b := false) (et_and (a := false) (b := true) (et_is (tst (deqS (v0 ee rfl) dstr)) (by decide)) fun z => by cases z) (fun z => by cases z) fun _ H10 e10 => ?_
                          have ee := ee.trans e10
                          refine s_when (b := !isTreeM n sq rows (cs.zip ts)[i].1 (cs.zip ts)[i].2) (et_and (a := true) (et_is (tst (deqS (v0 ee rfl) dstr)) (by decide)) fun _ => et_not (tst (dcallD (aC (dvar rfl (h1.mono ee)) (aC (dvar rfl (h2.mono ee)) (aC (dvar rfl (g1.mono e10)) (aC (dvar rfl (g2.mono e10)) aN)))) ⟨sq, rows, _, _, wf, lr, hlns2 _ hmz2.1, fts _ hmz2.2, rfl, rfl⟩))) (fun hb11 H11 e11 => ?_) fun hb11 H11 e11 => ?_
                          · refine dS_ret (d := .bl false) dbl ?_
                            have : ((cs.zip ts).all fun p => isTreeM n sq rows p.1 p.2) = false := by
                              rw [List.all_eq_false]
                              exact ⟨_, hmz, by simpa using hb11⟩
                            rw [this] at q
                            exact q.up (ee.trans e11)
                          · refine hN _ _ (e10.trans e11) ⟨?_, _, _, _, _, _, rfl⟩
                            rw [tk, List.all_append, hall]
                            simpa using hb11
                        · rintro σ' H8 e8 ⟨hall, o4, o5, o6, o7, o8, rfl⟩
                          have hlz : (((cs.map lnD).zip ts).map fun p => Dat.tup [p.1, p.2]).length = (cs.zip ts).length := by simp
                          rw [hlz, List.take_length] at hall
                          rw [hall] at q
                          exact dS_ret (d := .bl true) dbl (q.up (ee.trans e8))
                    · rw [Bool.not_eq_true] at hcl
                      rw [hcl] at hb2
                      refine dS_when (b := true) (et_or (a := true) (b := true) (et_is (et_not (tst (dvar rfl hb2))) rfl) fun z => by cases z) (fun _ H7 e7 => ?_) fun z => by cases z
                      refine dS_ret (d := .bl false) dbl (?_ : RetD (.bl false) H7 Q)
                      have hM : isTreeM (n + 1) sq rows cols (.tup [.str "columns", x, .tup ts]) = false := by
                        rw [isTreeM]
                        simp only [hcl, Bool.false_and]
                        rfl
                      rw [hM] at q
                      exact q.up (ee.trans e7)
                  · have hrow : wd = "rows" := hrc.resolve_right hcol
                    subst hrow
                    refine dS_when (b := false) (et_is (tst (deqS (v0 ee rfl) dstr)) (by decide)) (fun z => by cases z) fun _ H5 e5 => ?_
                    have ee := ee.trans e5
                    have hb2 := hb1.mono e5
                    by_cases hcl : clsB (ent sq) sq.length rows cols x = true
                    · rw [hcl] at hb2
                      obtain ⟨cs, rfl, hits, hlns⟩ := clsB_lots hcl
                      obtain ⟨k', hk0', hk1', hk2'⟩ := fits_tup.mp fc
                      rw [List.length_map] at hk1'
                      have hM : isTreeM (n + 1) sq rows cols (.tup [.str "rows", .tup (cs.map lnD), .tup ts]) = (decide (ts.length = cs.length) && (cs.zip ts).all fun p => isTreeM n sq p.1 cols p.2) := by
                        have hii : items (.tup (cs.map lnD)) = cs.map lnD := rfl
                        rw [hii] at hits
                        rw [isTreeM]
                        simp only [hcl, hii, hits, List.length_map, Bool.true_and]
                        rfl
                      rw [hM] at q
                      refine dS_when (b := !decide (ts.length = cs.length)) (et_or (a := false) (et_is (et_not (tst (dvar rfl hb2))) rfl) fun _ => et_is (tst (dneI (dlenT (va ee rfl)) (dlenT (vt ee rfl)))) (by rw [List.length_map]; congr 1; refine decide_eq_decide.mpr ?_; omega)) (fun hb7 H7 e7 => ?_) fun hb7 H7 e7 => ?_
                      · refine dS_ret (d := .bl false) dbl (?_ : RetD (.bl false) H7 Q)
                        rw [show decide (ts.length = cs.length) = false by simpa using hb7] at q
                        exact q.up (ee.trans e7)
                      · rw [show decide (ts.length = cs.length) = true by simpa using hb7, Bool.true_and] at q
                        have ee := ee.trans e7
                        refine dq_for (fun i σ' H' => (((cs.zip ts).take i).all fun p => isTreeM n sq p.1 cols p.2) = true ∧ ∃ o4 o5 o6 o7 o8, σ' = [some v1, some v2, some v3, some v4, o4, o5, o6, o7, o8]) (srcZ (aC (va ee rfl) (aC (vt ee rfl) aN))) (fun H8 e8 => ⟨rfl, _, _, _, _, _, rfl⟩) ?_ ?_
                        · rintro i hi σ' H8 e8 ⟨hall, o4, o5, o6, o7, o8, rfl⟩ y H9 e9 hy
                          have hi0 : i < (cs.zip ts).length := by
                            simp only [List.length_map, List.length_zip] at hi ⊢
                            exact hi
                          have hy0 : Dv H9 (.tup [lnD (cs.zip ts)[i].1, (cs.zip ts)[i].2]) y := by
                            rw [List.getElem_map] at hy
                            simp only [List.zip_map_left, List.getElem_map] at hy
                            exact hy
                          have hmz : (cs.zip ts)[i] ∈ cs.zip ts := List.getElem_mem hi0
                          have hmz2 := List.of_mem_zip (show ((cs.zip ts)[i].1, (cs.zip ts)[i].2) ∈ cs.zip ts from hmz)
                          have tk : (cs.zip ts).take (i + 1) = (cs.zip ts).take i ++ [(cs.zip ts)[i]] := take_snoc (List.getElem?_eq_getElem hi0)
                          have ee := (ee.trans e8).trans e9
                          refine bTwo hy0 fun z1 z2 g1 g2 N hN => ?_
                          refine dS_when (b := !isTreeM n sq (cs.zip ts)[i].1 cols (cs.zip ts)[i].2) (et_and (a := true) (et_is (tst (deqS (v0 ee rfl) dstr)) (by decide)) fun _ => et_not (tst (dcallD (aC (dvar rfl (h1.mono ee)) (aC (dvar rfl g1) (aC (dvar rfl (h3.mono ee)) (aC (dvar rfl g2) aN)))) ⟨sq, _, cols, _, wf, hlns _ hmz2.1, lc, fts _ hmz2.2, rfl, rfl⟩))) (fun hb11 H11 e11 => ?_) fun hb11 H11 e11 => ?_
                          · refine dS_ret (d := .bl false) dbl ?_
                            have : ((cs.zip ts).all fun p => isTreeM n sq p.1 cols p.2) = false := by
                              rw [List.all_eq_false]
                              exact ⟨_, hmz, by simpa using hb11⟩
                            rw [this] at q
                            exact q.up (ee.trans e11)
                          · have ee := ee.trans e11
                            refine s_when (b := false) (et_and (a := false) (b := true) (et_is (tst (deqS (v0 ee rfl) dstr)) (by decide)) fun z => by cases z) (fun z => by cases z) fun _ H12 e12 => ?_
                            refine hN _ _ (e11.trans e12) ⟨?_, _, _, _, _, _, rfl⟩
                            rw [tk, List.all_append, hall]
                            simpa using hb11
                        · rintro σ' H8 e8 ⟨hall, o4, o5, o6, o7, o8, rfl⟩
                          have hlz : (((cs.map lnD).zip ts).map fun p => Dat.tup [p.1, p.2]).length = (cs.zip ts).length := by simp
                          rw [hlz, List.take_length] at hall
                          rw [hall] at q
                          exact dS_ret (d := .bl true) dbl (q.up (ee.trans e8))
                    · rw [Bool.not_eq_true] at hcl
                      rw [hcl] at hb2
                      refine dS_when (b := true) (et_or (a := true) (b := true) (et_is (et_not (tst (dvar rfl hb2))) rfl) fun z => by cases z) (fun _ H7 e7 => ?_) fun z => by cases z
                      refine dS_ret (d := .bl false) dbl (?_ : RetD (.bl false) H7 Q)
                      have hM : isTreeM (n + 1) sq rows cols (.tup [.str "rows", x, .tup ts]) = false := by
                        rw [isTreeM]
                        simp only [hcl, Bool.false_and]
                        rfl
                      rw [hM] at q
                      exact q.up (ee.trans e7)
                | _ =>
                  refine dS_when (b := true) (et_or (a := false) (b := true) (et_is (tst (dnin2 (v0 ee rfl) (dtup (aC dstr (aC dstr aN)) (by show 2 ≤ 1000; decide)))) hrcB) fun _ => et_or (a := false) (b := true) (et_is (tst (dneI (dlenT (dvar rfl (h4.mono ee))) dint)) (by rfl)) fun _ => et_is (et_not (tst (disi_tuple (vt ee rfl)))) rfl) (fun _ H3 e3 => ?_) fun z => by cases z
                  exact dS_ret (d := .bl false) dbl (q.up (ee.trans e3))
              · have hl3 : (x :: rest).length ≠ 2 := by
                  intro z
                  match rest, hl2, z with
                  | [t], hl2, _ => exact hl2 ⟨t, rfl⟩
                refine dS_when (b := true) (et_or (a := false) (b := true) (et_is (tst (dnin2 (v0 ee rfl) (dtup (aC dstr (aC dstr aN)) (by show 2 ≤ 1000; decide)))) hrcB) fun _ => et_or (a := true) (b := true) (et_is (tst (dneI (dlenT (dvar rfl (h4.mono ee))) dint)) ?_) fun z => by cases z) (fun _ H3 e3 => ?_) fun z => by cases z
                · rw [decide_eq_false (by simp only [List.length_cons] at hl3 ⊢; omega)]
                  rfl
                · refine dS_ret (d := .bl false) dbl (?_ : RetD (.bl false) H3 Q)
                  rw [tree_bad0 (fun z => absurd z hfl) fun _ => hl3] at q
                  exact q.up (ee.trans e3)
            · have hrcB : (!(decide (wd = "rows") || decide (wd = "columns"))) = true := by
                rw [not_or] at hrc
                simp [hrc]
              refine dS_when (b := true) (et_or (a := true) (b := true) (et_is (tst (dnin2 (v0 ee rfl) (dtup (aC dstr (aC dstr aN)) (by show 2 ≤ 1000; decide)))) hrcB) fun z => by cases z) (fun _ H3 e3 => ?_) fun z => by cases z
              refine dS_ret (d := .bl false) dbl (?_ : RetD (.bl false) H3 Q)
              rw [tree_bad0 (fun z => absurd z hfl) fun z => absurd z hrc] at q
              exact q.up (ee.trans e3)
        · have hM : isTreeM (n + 1) sq rows cols (.tup xs) = false := by
            match xs, hsh with
            | [], _ => rfl
            | [.str s], _ => rfl
            | .str s :: x :: rest, h => exact absurd ⟨s, x, rest, rfl⟩ h
            | .non :: r, _ => rfl
            | .bl _ :: r, _ => rfl
            | .int _ :: r, _ => rfl
            | .tup _ :: r, _ => rfl
            | .lst _ :: r, _ => rfl
            | .opq :: r, _ => rfl
          rw [hM] at q
          by_cases h2l : xs.length < 2
          · refine dS_when (b := true) (et_or (a := false) (b := true) (et_is (et_not (tst (disi_tuple (dvar rfl h4)))) rfl) fun _ => et_or (a := true) (b := true) (et_is (tst (dlt (dlenT (dvar rfl h4)) dint)) (decide_eq_true (by omega))) fun z => by cases z) (fun _ H1 e1 => ?_) fun z => by cases z
            exact dS_ret (d := .bl false) dbl (q.up e1)
          · obtain ⟨d0, rest, rfl⟩ : ∃ d0 rest, xs = d0 :: rest := by
              match xs, h2l with
              | [], h => exact absurd (by decide : (0:Nat) < 2) h
              | d0 :: rest, _ => exact ⟨d0, rest, rfl⟩
            have hs0 : d0.isStr = false := by
              cases d0 with
              | str s =>
                match rest, hsh, h2l with
                | [], _, h => exact absurd (by decide : (1:Nat) < 2) h
                | x :: r, h, _ => exact absurd ⟨s, x, r, rfl⟩ h
              | _ => rfl
            refine dS_when (b := true) (et_or (a := false) (b := true) (et_is (et_not (tst (disi_tuple (dvar rfl h4)))) rfl) fun _ => et_or (a := false) (b := true) (et_is (tst (dlt (dlenT (dvar rfl h4)) dint)) (decide_eq_false (by omega))) fun _ => et_is (et_not (tst (disi_str (dixT (dvar rfl h4) dint (by omega) (by rfl))))) (by rw [hs0]; rfl)) (fun _ H1 e1 => ?_) fun z => by cases z
            exact dS_ret (d := .bl false) dbl (q.up e1)
      | _ =>
        refine dS_when (b := true) (et_or (a := true) (b := true) (et_is (et_not (tst (disi_tuple (dvar rfl h4)))) rfl) fun z => by cases z) (fun _ H1 e1 => ?_) fun z => by cases z
        exact dS_ret (d := .bl false) dbl (q.up e1)
end

end Kw
namespace Kw
open PySem PySem.Spec PyProof.Rows L2 Evl
/-! ## links, and how rows hang together by them -/
def lkR (ls : Lks) (a b : Int) : Bool := ls.any fun l => (decide (l.1 = a) && decide (l.2.1 = b)) || (decide (l.2.1 = a) && decide (l.1 = b))
structure CompR (R : Int → Int → Bool) (L : List Int) (x : Int) (S : Int → Prop) : Prop where
  sub : ∀ a, S a → a ∈ L
  mem : S x
  closed : ∀ a o, S a → o ∈ L → R a o = true → S o
  least : ∀ T : Int → Prop, T x → (∀ a o, T a → a ∈ L → o ∈ L → R a o = true → T o) → ∀ a, S a → T a
section
variable {R : Int → Int → Bool} {L : List Int} {x : Int}
theorem CompR.uniq {S S' : Int → Prop} (h : CompR R L x S) (h' : CompR R L x S') (a : Int) : S a ↔ S' a :=
  ⟨h.least S' h'.mem (fun a o ha _ ho hl => h'.closed a o ha ho hl) a, h'.least S h.mem (fun a o ha _ ho hl => h.closed a o ha ho hl) a⟩
structure SeekR (R : Int → Int → Bool) (L : List Int) (x : Int) (fresh here : List Int) : Prop where
  fs : ∀ a ∈ fresh, a ∈ L
  hs : ∀ a ∈ here, a ∈ L
  st : x ∈ fresh ∨ x ∈ here
  cl : ∀ a ∈ here, ∀ o ∈ L, R a o = true → o ∈ fresh ∨ o ∈ here
  ls : ∀ T : Int → Prop, T x → (∀ a o, T a → a ∈ L → o ∈ L → R a o = true → T o) → ∀ a, a ∈ fresh ∨ a ∈ here → T a
theorem SeekR.start (hx : x ∈ L) : SeekR R L x [x] [] := ⟨fun a h => by simp at h; rw [h]; exact hx, fun a h => absurd h List.not_mem_nil, by simp, fun a h => absurd h List.not_mem_nil, fun T hT _ a h => by
  simp at h
  rw [h]
  exact hT⟩
theorem SeekR.done {here : List Int} (h : SeekR R L x [] here) : CompR R L x (· ∈ here) := ⟨h.hs, by simpa using h.st, fun a o ha ho hl => by simpa using h.cl a ha o ho hl, fun T hT hc a ha => h.ls T hT hc a (.inr ha)⟩
theorem SeekR.turn {f new here : List Int} {r : Int} (h : SeekR R L x (f ++ [r]) here) (hn : ∀ o, o ∈ new → o ∈ L ∧ R r o = true) (hc : ∀ o ∈ L, R r o = true → o ∈ f ∨ o ∈ new ∨ o ∈ here ∨ o = r) : SeekR R L x (f ++ new) (here ++ [r]) := by
  have hr : r ∈ L := h.fs r (by simp)
  refine ⟨fun a ha => ?_, fun a ha => ?_, ?_, fun a ha o ho hl => ?_, fun T hT hcl a ha => ?_⟩
  · rcases List.mem_append.mp ha with ha | ha
    · exact h.fs a (by simp [ha])
    · exact (hn a ha).1
  · rcases List.mem_append.mp ha with ha | ha
    · exact h.hs a ha
    · simp at ha
      rw [ha]
      exact hr
  · have := h.st
    simp only [List.mem_append, List.mem_singleton] at this ⊢
    rcases this with (h | h) | h
    · exact .inl (.inl h)
    · exact .inr (.inr h)
    · exact .inr (.inl h)
  · simp only [List.mem_append, List.mem_singleton] at ha ⊢
    rcases ha with ha | ha
    · have := h.cl a ha o ho hl
      simp only [List.mem_append, List.mem_singleton] at this
      rcases this with (h | h) | h
      · exact .inl (.inl h)
      · exact .inr (.inr h)
      · exact .inr (.inl h)
    · subst ha
      rcases hc o ho hl with h | h | h | h
      · exact .inl (.inl h)
      · exact .inl (.inr h)
      · exact .inr (.inl h)
      · exact .inr (.inr h)
  · have tr : T r := h.ls T hT hcl r (by simp)
    simp only [List.mem_append, List.mem_singleton] at ha
    rcases ha with (ha | ha) | ha | ha
    · exact h.ls T hT hcl a (by simp [ha])
    · exact hcl r a tr hr (hn a ha).1 (hn a ha).2
    · exact h.ls T hT hcl a (.inr ha)
    · rw [ha]
      exact tr
theorem SeekR.again {f here : List Int} {r : Int} (h : SeekR R L x (f ++ [r]) here) (hr : r ∈ here) : SeekR R L x f here := by
  refine ⟨fun a ha => h.fs a (by simp [ha]), h.hs, ?_, fun a ha o ho hl => ?_, fun T hT hcl a ha => h.ls T hT hcl a ?_⟩
  · have := h.st
    simp only [List.mem_append, List.mem_singleton] at this
    rcases this with (h | h) | h
    · exact .inl h
    · rw [h]; exact .inr hr
    · exact .inr h
  · have := h.cl a ha o ho hl
    simp only [List.mem_append, List.mem_singleton] at this
    rcases this with (h | h) | h
    · exact .inl h
    · rw [h]; exact .inr hr
    · exact .inr h
  · rcases ha with ha | ha
    · exact .inl (by simp [ha])
    · exact .inr ha
end
section
variable {rows : List Int} {ls : Lks}
theorem mem_step {K : List Int} {r : Int} : r ∈ step rows ls K ↔ r ∈ rows ∧ (r ∈ K ∨ ∃ a ∈ K, lkR ls a r = true) := by
  unfold step
  rw [List.mem_filter, Bool.or_eq_true, List.contains_iff_mem, List.any_eq_true]
  refine and_congr_right fun _ => or_congr_right ⟨?_, ?_⟩
  · rintro ⟨l, hl, h⟩
    simp only [Bool.or_eq_true, Bool.and_eq_true, List.contains_iff_mem, decide_eq_true_eq] at h
    rcases h with ⟨h1, h2⟩ | ⟨h1, h2⟩
    · exact ⟨l.1, h1, List.any_eq_true.mpr ⟨l, hl, by simp [h2]⟩⟩
    · exact ⟨l.2.1, h1, List.any_eq_true.mpr ⟨l, hl, by simp [h2]⟩⟩
  · rintro ⟨a, ha, h⟩
    unfold lkR at h
    obtain ⟨l, hl, h⟩ := List.any_eq_true.mp h
    refine ⟨l, hl, ?_⟩
    simp only [Bool.or_eq_true, Bool.and_eq_true, List.contains_iff_mem, decide_eq_true_eq] at h ⊢
    rcases h with ⟨h1, h2⟩ | ⟨h1, h2⟩
    · exact .inl ⟨h1 ▸ ha, h2⟩
    · exact .inr ⟨h1 ▸ ha, h2⟩
theorem step_sub (K : List Int) : (step rows ls K).Sublist rows := List.filter_sublist
/-- a part of the rows, in their order -/
def Part (rows K : List Int) : Prop := K = rows.filter fun r => K.contains r
theorem part_step (K : List Int) : Part rows (step rows ls K) := by
  unfold Part
  conv => lhs; unfold step
  refine List.filter_congr fun r hr => ?_
  rw [Bool.eq_iff_iff, List.contains_iff_mem]
  unfold step
  rw [List.mem_filter]
  exact ⟨fun h => ⟨hr, h⟩, fun h => h.2⟩
theorem part_one {x : Int} (hr : rows.Pairwise (· < ·)) (hx : x ∈ rows) : Part rows [x] := by
  unfold Part
  refine List.Perm.eq_of_pairwise (le := (· < ·)) (fun a b _ _ h1 h2 => absurd h2 (Int.lt_asymm h1)) (by simp) (hr.sublist List.filter_sublist) ?_
  have nd : rows.Nodup := hr.imp fun h => by omega
  refine (List.perm_ext_iff_of_nodup (by simp) (nd.sublist List.filter_sublist)).mpr fun a => ?_
  rw [List.mem_filter, List.contains_iff_mem, List.mem_singleton]
  exact ⟨fun h => ⟨h ▸ hx, h⟩, fun h => h.2⟩
theorem filter_len {p q : Int → Bool} (h : ∀ r, p r = true → q r = true) : ∀ rows : List Int, (rows.filter p).length ≤ (rows.filter q).length ∧ ((rows.filter p).length = (rows.filter q).length → rows.filter p = rows.filter q)
  | [] => by simp
  | r :: rows => by
    have ih := filter_len h rows
    rw [List.filter_cons, List.filter_cons]
    by_cases h1 : p r = true
    · rw [if_pos h1, if_pos (h r h1)]
      simp only [List.length_cons]
      exact ⟨by omega, fun e => by rw [ih.2 (by omega)]⟩
    · rw [if_neg h1]
      by_cases h2 : q r = true
      · rw [if_pos h2]
        simp only [List.length_cons]
        exact ⟨by omega, fun e => by omega⟩
      · rw [if_neg h2]
        exact ih
theorem step_grow {K : List Int} (hp : Part rows K) : K.length ≤ (step rows ls K).length ∧ (K.length = (step rows ls K).length → step rows ls K = K) := by
  have := filter_len (p := fun r => K.contains r) (q := fun r => K.contains r || ls.any fun l => (K.contains l.1 && decide (l.2.1 = r)) || (K.contains l.2.1 && decide (l.1 = r))) (fun r h => by rw [h]; rfl) rows
  rw [← hp] at this
  exact ⟨this.1, fun e => (this.2 e).symm⟩
theorem steps_part : ∀ (n : Nat) {K : List Int}, Part rows K → Part rows (steps rows ls n K)
  | 0, K, h => h
  | n + 1, K, h => steps_part n (part_step K)
theorem steps_fix : ∀ (n : Nat) {K : List Int}, step rows ls K = K → steps rows ls n K = K
  | 0, K, h => rfl
  | n + 1, K, h => by
    rw [steps, h]
    exact steps_fix n h
theorem steps_grow : ∀ (n : Nat) {K : List Int}, Part rows K → step rows ls (steps rows ls n K) = steps rows ls n K ∨ K.length + n ≤ (steps rows ls n K).length
  | 0, K, h => .inr (Nat.le_refl _)
  | n + 1, K, h => by
    obtain ⟨g1, g2⟩ := step_grow (ls := ls) h
    by_cases e : K.length = (step rows ls K).length
    · have f := g2 e
      refine .inl ?_
      rw [steps, f, steps_fix n f]
      exact f
    · rcases steps_grow n (part_step (ls := ls) K) with h | h
      · exact .inl h
      · refine .inr ?_
        rw [steps]
        omega
theorem steps_comp {x : Int} (hr : rows.Pairwise (· < ·)) (hx : x ∈ rows) : CompR (lkR ls) rows x (· ∈ steps rows ls rows.length [x]) := by
  have hp := part_one hr hx
  have sub : ∀ (n : Nat) (K : List Int), (∀ a ∈ K, a ∈ rows) → (∀ a ∈ steps rows ls n K, a ∈ rows) := fun n => by
    induction n with
    | zero => exact fun K h => h
    | succ n ih => exact fun K h => ih _ fun a ha => (mem_step.mp ha).1
  have mono : ∀ (n : Nat) (K : List Int), (∀ a ∈ K, a ∈ rows) → ∀ a ∈ K, a ∈ steps rows ls n K := fun n => by
    induction n with
    | zero => exact fun K h a ha => ha
    | succ n ih => exact fun K h a ha => ih _ (fun a ha => (mem_step.mp ha).1) a (mem_step.mpr ⟨h a ha, .inl ha⟩)
  have fix : step rows ls (steps rows ls rows.length [x]) = steps rows ls rows.length [x] := by
    rcases steps_grow (ls := ls) rows.length hp with h | h
    · exact h
    · have hq := steps_part (ls := ls) rows.length hp
      have : (steps rows ls rows.length [x]).length ≤ rows.length := by
        rw [hq]
        exact List.length_filter_le _ _
      simp at h
      omega
  refine ⟨sub _ _ (by simp [hx]), mono _ _ (by simp [hx]) x (by simp), fun a o ha ho hl => ?_, fun T hT hc => ?_⟩
  · rw [← fix]
    exact mem_step.mpr ⟨ho, .inr ⟨a, ha, hl⟩⟩
  · have : ∀ (n : Nat) (K : List Int), (∀ a ∈ K, a ∈ rows) → (∀ a ∈ K, T a) → ∀ a ∈ steps rows ls n K, T a := fun n => by
      induction n with
      | zero => exact fun K _ h => h
      | succ n ih =>
        refine fun K h0 h => ih _ (fun a ha => (mem_step.mp ha).1) fun a ha => ?_
        obtain ⟨h1, h2 | ⟨b, hb, h2⟩⟩ := mem_step.mp ha
        · exact h a h2
        · exact hc b a (h b hb) (h0 b hb) h1 h2
    exact this _ _ (by simp [hx]) (by simp [hT])
/-- a search's find against the rows -/
theorem hang_found {found : List Int} (hr : rows.Pairwise (· < ·)) (hx : rows.headD 0 ∈ rows) (hn : found.Nodup) (h : CompR (lkR ls) rows (rows.headD 0) (· ∈ found)) : decide (srt found = rows) = hang rows ls := by
  unfold hang
  have hc := steps_comp (ls := ls) hr hx
  have same := h.uniq hc
  have hp := steps_part (ls := ls) rows.length (part_one hr hx)
  have asc1 : (steps rows ls rows.length [rows.headD 0]).Pairwise (· < ·) := by
    rw [hp]
    exact hr.sublist List.filter_sublist
  have : srt found = steps rows ls rows.length [rows.headD 0] := srt_eq ((List.perm_ext_iff_of_nodup hn (asc1.imp fun h => by omega)).mpr same) asc1
  rw [this]
end
/-! ### one link -/
theorem lnk_iff {e : En} {rows cols : List Int} {d : Dat} : lnkB e rows cols d = true ↔ ∃ a b c, d = .tup [.int a, .int b, .int c] ∧ a ∈ rows ∧ b ∈ rows ∧ c ∈ cols ∧ e a c = e b c := by
  constructor
  · intro h
    unfold lnkB at h
    split at h
    · rename_i a b c
      simp only [Bool.and_eq_true, List.contains_iff_mem, decide_eq_true_eq] at h
      exact ⟨a, b, c, rfl, h.1.1.1, h.1.1.2, h.1.2, h.2⟩
    · cases h
  · rintro ⟨a, b, c, rfl, h1, h2, h3, h4⟩
    simp [lnkB, h1, h2, h3, h4]
theorem lnks_of {e : En} {rows cols : List Int} : ∀ {ds : List Dat}, (ds.all fun d => lnkB e rows cols d) = true → ds = (ds.map lnkOf).map lkD ∧ ∀ l ∈ ds.map lnkOf, l.1 ∈ rows ∧ l.2.1 ∈ rows
  | [], _ => ⟨rfl, fun l hl => absurd hl List.not_mem_nil⟩
  | d :: ds, h => by
    rw [List.all_cons, Bool.and_eq_true] at h
    have ih := lnks_of h.2
    obtain ⟨a, b, c, rfl, h1, h2, h3, h4⟩ := lnk_iff.mp h.1
    refine ⟨?_, fun l hl => ?_⟩
    · rw [List.map_cons, List.map_cons, ← ih.1]
      rfl
    · rcases List.mem_cons.mp hl with rfl | hl
      · exact ⟨h1, h2⟩
      · exact ih.2 l hl
section
variable {K : PySem.W.Frag} {w : World} {σ : L2.St} {H : Hp} {te : TE} {ns ms : List Int}
theorem nsrtSet (h : EvD te σ H (.lst (ns.map Dat.int))) (hl : ns.length < 64) (hs : ms.Pairwise (· < ·)) (hm : ∀ k, k ∈ ms ↔ k ∈ ns) : EvN (tSrtSet K w te) σ H (ms.map Dat.int) := fun H1 e1 Q q => h H1 e1 _ fun x H2 e2 ⟨a, xs, hx, hH, hxs⟩ => by
  rw [dvl_ints.mp hxs] at hH
  refine ⟨a, ns, by rw [hx], SqL.of hH, by omega, fun b c hc hb => ⟨b, _, c, rfl, upd_same, by omega, fun ms' r hs' hm' _ hr => ?_⟩⟩
  have hrb : r ≠ b := fun z => by
    rw [z, upd_same] at hr
    cases hr
  have hr2 : H2 r = none := by rwa [upd_ne hrb] at hr
  have e : ms' = ms := by
    refine List.Perm.eq_of_pairwise (le := (· < ·)) (fun a b _ _ h1 h2 => absurd h2 (Int.lt_asymm h1)) hs' hs ?_
    refine (List.perm_ext_iff_of_nodup (hs'.imp fun h => by omega) (hs.imp fun h => by omega)).mpr fun k => ?_
    rw [hm', hm]
    simp
  subst e
  have ex : Ex H2 (upd (upd H2 b (SetO w b (fun j => decide (j ∈ ns)) c)) r (.lst (ms'.map V.int))) := (Ex.new hb).trans (Ex.new (by rw [upd_ne hrb]; exact hr2))
  exact q r _ _ (fresh_back e2 hr2) (e2.trans ex) upd_same (dvl_ints.mpr rfl)
end
end Kw
namespace Kw
open PySem PySem.Spec PyProof.Rows L2 Evl
def domLinks : List Dat → Dat → Prop := fun ds d => ∃ sq rows cols x, Wf sq ∧ Ln sq.length rows ∧ Ln (wid sq) cols ∧ (∃ k, x.fits k = true) ∧ ds = [sqD sq, lnD rows, lnD cols, x] ∧ d = .bl (linksB (ent sq) rows cols x)
def len3 : Dat → Bool
  | .tup xs => decide (xs.length = 3)
  | _ => false
theorem len3_of {d : Dat} (h : len3 d = true) : ∃ a b c, d = .tup [a, b, c] := by
  cases d with
  | tup xs =>
    have := of_decide_eq_true h
    match xs, this with
    | [a, b, c], _ => exact ⟨a, b, c, rfl⟩
  | _ => cases h
theorem links_bad {e : En} {rows cols : List Int} {ds : List Dat} {d : Dat} (h : d ∈ ds) (hb : lnkB e rows cols d = false) : linksB e rows cols (.tup ds) = false := by
  have : (ds.all fun d => lnkB e rows cols d) = false := by
    rw [List.all_eq_false]
    exact ⟨d, h, by rw [hb]; decide⟩
  simp only [linksB, this, Bool.false_and]
theorem within_mem {n : Nat} {rows : List Int} (lr : Ln n rows) (hn : n ≤ 12) {a : Int} (h : a ∈ rows) (hi : Int) (h2 : 11 ≤ hi) : within (.int a) 0 hi = true := by
  have := lr.bd a h
  simp [within]
  omega
section
variable {P : Program} {w : World} {K : PySem.W.Frag} {mg : Str → Option Value} {base : Heap}
theorem ok_are_links (T : Txt K mg) : FnOk P w K mg base CX0 3 T.a_are_links T.d_are_links ["square", "rows", "columns", "value"] (SpD domLinks) := by
  have G_is_within := ok_is_within (P := P) (w := w) (base := base) T
  refine T.F_are_links.ok sc_are_links (fun vs H Q E h => ?_) (fun cdv A outer s H vs Q E hr h => ?_)
  · obtain ⟨ds, d, hv, ⟨sq, rows, cols, x, wf, lr, lc, hf, rfl, rfl⟩, q⟩ := h
    exact hv.len
  · obtain ⟨ds, d, hv, ⟨sq, rows, cols, x, wf, lr, lc, ⟨k, hf⟩, rfl, rfl⟩, q⟩ := h
    obtain ⟨v1, _, rfl, h1, v2, _, rfl, h2, v3, _, rfl, h3, hv⟩ := hv
    obtain ⟨v4, rfl, h4⟩ := hv.one
    refine ⟨_, (pss_cons (ps_if (PW.pt (pw_or (pt_not (pt_val (pe_callB (k_isi (K := K) rfl) (by rfl) T.z_isinstance (by decide +kernel) (pa_cons (pv 3) (pa_cons (pe_bltn (v := .ty "tuple") (by rfl) T.z_tuple (by decide +kernel) rfl) pa_nil))))) (pw_or1 (pt_not (pt_val (pe_callB (k_all (K := K) rfl rfl) (by rfl) T.z_all (by decide +kernel) (pa_cons (pe_lc (own := [("link", 11)]) rfl sc_are_links.nd (k_tup (K := K) rfl (pv 3)) (blkOk_by (by kernel_rfl)) (fun _ _ _ _ _ => (pg_name (i := 11) sc_are_links.nd rfl (.inl rfl))) (fun _ _ _ _ _ => pts_nil) (fun _ _ _ _ _ => (pe_and (pe_callB (k_isi (K := K) rfl) (by rfl) T.z_isinstance (by decide +kernel) (pa_cons (pv 11) (pa_cons (pe_bltn (v := .ty "tuple") (by rfl) T.z_tuple (by decide +kernel) rfl) pa_nil))) (pe_one (pe_cmpR op_eq (pe_callB (k_len (K := K) rfl) (by rfl) T.z_len (by decide +kernel) (pa_cons (pv 11) pa_nil)) (pe_glob (v := .int 3) (by rfl) T.g_LINK_SIZE ⟨_, rfl⟩) (nomark _)))))) pa_nil))))))) (pss_one (ps_ret pe_bl)) pss_nil)
      (pss_cons (ps_setLc (own := [("link", 11)]) (i := 4) rfl sc_are_links.nd rfl rfl (sw_true rfl rfl rfl (by kernel_rfl)) (k_tup (K := K) rfl (pv 3)) (blkOk_by (by kernel_rfl)) (fun _ _ _ _ _ => (pg_name (i := 11) sc_are_links.nd rfl (.inl rfl))) (fun _ _ _ _ _ => pts_nil) (fun _ _ _ _ _ => (pe_tup (pa_cons (pe_call G_is_within (hr.mono (by omega)) (by rfl) T.g_is_within T.F_is_within.kp T.b_is_within .nil pass0 (pa_cons (pe_ix (k_ixT (K := K) rfl) (pv 11) pe_int (fun _ _ => rfl)) (pa_cons pe_int (pa_cons (pe_glob (v := .int 12) (by rfl) T.g_MAX_LINES ⟨_, rfl⟩) pa_nil)))) (pa_cons (pe_call G_is_within (hr.mono (by omega)) (by rfl) T.g_is_within T.F_is_within.kp T.b_is_within .nil pass0 (pa_cons (pe_ix (k_ixT (K := K) rfl) (pv 11) pe_int (fun _ _ => rfl)) (pa_cons pe_int (pa_cons (pe_glob (v := .int 12) (by rfl) T.g_MAX_LINES ⟨_, rfl⟩) pa_nil)))) pa_nil)))))
      (pss_cons (ps_if (pt_not (pt_val (pe_callB (k_all (K := K) rfl rfl) (by rfl) T.z_all (by decide +kernel) (pa_cons (pe_lc (own := [("one", 12), ("other", 6)]) rfl sc_are_links.nd (k_list (K := K) rfl (pv 4)) (blkOk_by (by kernel_rfl)) (fun _ _ _ _ _ => (k_pgtup (K := K) (n := 2) rfl rfl (pgs_cons (pg_name (i := 12) sc_are_links.nd rfl (.inl rfl)) (pgs_cons (pg_name (i := 6) sc_are_links.nd rfl (.inl rfl)) pgs_nil)))) (fun _ _ _ _ _ => pts_nil) (fun _ _ _ _ _ => (pe_and (pv 12) (pe_one (pv 6))))) pa_nil)))) (pss_one (ps_ret pe_bl)) pss_nil)
      (pss_cons (ps_for PassesOwn.never rfl (k_tup (K := K) rfl (pv 3)) (k_pgtup (K := K) (n := 3) rfl rfl (pgs_cons (pg_name (i := 5) sc_are_links.nd rfl (.inl rfl)) (pgs_cons (pg_name (i := 6) sc_are_links.nd rfl (.inl rfl)) (pgs_cons (pg_name (i := 7) sc_are_links.nd rfl (.inl rfl)) pgs_nil)))) (pss_cons (ps_if (PW.pt (pw_or (pt_cmpR (k_notIn (K := K) rfl) (pv 5) (pv 1) (by rfl)) (pw_or (pt_cmpR (k_notIn (K := K) rfl) (pv 6) (pv 1) (by rfl)) (pw_or (pt_not (pt_val (pe_call G_is_within (hr.mono (by omega)) (by rfl) T.g_is_within T.F_is_within.kp T.b_is_within .nil pass0 (pa_cons (pv 7) (pa_cons pe_int (pa_cons (pe_glob (v := .int 12) (by rfl) T.g_MAX_LINES ⟨_, rfl⟩) pa_nil)))))) (pw_or1 (pt_cmpR (k_notIn (K := K) rfl) (pv 7) (pv 2) (by rfl))))))) (pss_one (ps_ret pe_bl)) pss_nil)
      (pss_one (ps_if (pt_cmpR op_ne (pe_ix (k_ixT (K := K) rfl) (pe_ix (k_ixT (K := K) rfl) (pv 0) (pv 5) (fun _ _ => rfl)) (pv 7) (fun _ _ => rfl)) (pe_ix (k_ixT (K := K) rfl) (pe_ix (k_ixT (K := K) rfl) (pv 0) (pv 6) (fun _ _ => rfl)) (pv 7) (fun _ _ => rfl)) (nomark _)) (pss_one (ps_ret pe_bl)) pss_nil))))
      (pss_cons (ps_par (i := 8) (j := 9) rfl sc_are_links.nd rfl rfl (by decide) rfl rfl (pa_cons (pe_lst pa_nil) (pa_cons (pe_lst (pa_cons (pe_ix (k_ixT (K := K) rfl) (pv 1) pe_int (fun _ _ => rfl)) pa_nil)) pa_nil)) (by rfl))
      (pss_cons (ps_while PassesOwn.never (pt_cmpR (k_neE (K := K) rfl hr.units0) (pv 9) (pe_lst pa_nil) (nomark _)) (pss_cons (ps_set (i := 10) sc_are_links.nd rfl (.inr rfl) (pe_bm0 PySem.F.plainAttrs_list PySem.F.slot_list_pop PySem.F.type_list_pop mt_pop (pv 9)))
      (pss_one (ps_if (pt_cmpR (k_notIn (K := K) rfl) (pv 10) (pv 8) (by rfl)) (pss_cons (ps_expr (pe_bm PySem.F.plainAttrs_list PySem.F.slot_list_append PySem.F.type_list_append mt_append (pv 8) (pa_cons (pv 10) pa_nil)))
      (pss_cons (ps_expr (pe_bm PySem.F.plainAttrs_list PySem.F.slot_list_extend PySem.F.type_list_extend mt_extend (pv 9) (pa_cons (pe_lc (own := [("row", 5), ("other", 6), ("column", 7)]) rfl sc_are_links.nd (k_tup (K := K) rfl (pv 3)) (blkOk_by (by kernel_rfl)) (fun _ _ _ _ _ => (k_pgtup (K := K) (n := 3) rfl rfl (pgs_cons (pg_name (i := 5) sc_are_links.nd rfl (.inl rfl)) (pgs_cons (pg_name (i := 6) sc_are_links.nd rfl (.inl rfl)) (pgs_cons (pg_name (i := 7) sc_are_links.nd rfl (.inl rfl)) pgs_nil))))) (fun _ _ _ _ _ => (pts_one (pt_cmpR op_eq (pv 5) (pv 10) (nomark _)))) (fun _ _ _ _ _ => (pv 6))) pa_nil)))
      (pss_one (ps_expr (pe_bm PySem.F.plainAttrs_list PySem.F.slot_list_extend PySem.F.type_list_extend mt_extend (pv 9) (pa_cons (pe_lc (own := [("row", 5), ("other", 6), ("column", 7)]) rfl sc_are_links.nd (k_tup (K := K) rfl (pv 3)) (blkOk_by (by kernel_rfl)) (fun _ _ _ _ _ => (k_pgtup (K := K) (n := 3) rfl rfl (pgs_cons (pg_name (i := 5) sc_are_links.nd rfl (.inl rfl)) (pgs_cons (pg_name (i := 6) sc_are_links.nd rfl (.inl rfl)) (pgs_cons (pg_name (i := 7) sc_are_links.nd rfl (.inl rfl)) pgs_nil))))) (fun _ _ _ _ _ => (pts_one (pt_cmpR op_eq (pv 6) (pv 10) (nomark _)))) (fun _ _ _ _ _ => (pv 5))) pa_nil)))))) pss_nil))))
      (pss_one (ps_ret (pe_cmpR (op_eqD hr.units) (pe_callB (k_sorted (K := K) rfl) (by rfl) T.z_sorted (by decide +kernel) (pa_cons (pv 8) pa_nil)) (pe_callTy (k_listOf (K := K) rfl) (by rfl) T.z_list (by decide +kernel) (pa_cons (pv 1) pa_nil)) (nomark _)))))))))), ?_⟩
    have r12 := lr.nat12 wf.len
    have c12 := lc.nat12 wf.w12
    have ndr : rows.Nodup := lr.asc.imp fun h => by omega
    cases x with
    | tup xs =>
      obtain ⟨m, rfl, hl, hm⟩ := fits_tup.mp hf
      have bad : ∀ {d : Dat} {G : Hp}, Ex H G → d ∈ xs → lnkB (ent sq) rows cols d = false → RetD (.bl false) G Q := fun e hd hb => by
        rw [links_bad hd hb] at q
        exact q.up e
      refine dS_when (et_or (et_not (tst (disi_tuple (dvar rfl h4)))) fun _ => et_not (tst (dall (bs := xs.map len3) ((nlcM (fun d => .bl (len3 d)) (srcT (dvar rfl h4)) (by omega) (fun _ _ => rfl) fun d hd x G e hx => bName ⟨rfl, ?_⟩).toD.is (by rw [List.map_map]; rfl))))) (fun hb H1 e1 => ?_) fun hb H1 e1 => ?_
      · cases d with
        | tup ys => exact (dand (c := decide (ys.length = 3)) (disi_tuple (dvar rfl hx)) fun _ => (deqI (dlenT (dvar rfl hx)) dint).is (congrArg Dat.bl (decide_eq_decide.mpr (by omega)))).is rfl
        | _ => exact (dand (c := false) (disi_tuple (dvar rfl hx)) fun z => by cases z).is rfl
      · have : ∃ d ∈ xs, len3 d = false := by
          simp only [Dat.isTup, Bool.not_true, Bool.false_or] at hb
          rw [all_map_id, Bool.not_eq_true', List.all_eq_false] at hb
          obtain ⟨d, h1, h2⟩ := hb
          exact ⟨d, h1, by simpa using h2⟩
        obtain ⟨d, hd, hd3⟩ := this
        refine dS_ret (d := .bl false) dbl (bad e1 hd ?_)
        cases h : lnkB (ent sq) rows cols d with
        | false => rfl
        | true =>
          obtain ⟨a, b, c, rfl, _⟩ := lnk_iff.mp h
          cases hd3
      have h3all : ∀ d ∈ xs, ∃ a b c, d = .tup [a, b, c] := fun d hd => by
        simp only [Dat.isTup, Bool.not_true, Bool.false_or] at hb
        rw [all_map_id, Bool.not_eq_false', List.all_eq_true] at hb
        exact len3_of (hb d hd)
      refine dq_asgN ((nlcM (fun d => .tup [.bl (within ((items d).getD 0 .non) 0 12), .bl (within ((items d).getD 1 .non) 0 12)]) (srcT (dvar rfl (h4.mono e1))) (by omega) (fun _ _ => rfl) fun d hd x G e hx => bName ⟨rfl, ?_⟩)) fun p ys H2 hp e2 hH hl2 => ?_
      · obtain ⟨a, b, c, rfl⟩ := h3all d hd
        exact dtup (aC (dcallD (aC (dixT (dvar rfl hx) dint (by omega) (by rfl)) (aC dint (aC dint aN))) ⟨a, 0, 12, rfl, rfl⟩) (aC (dcallD (aC (dixT (dvar rfl hx) dint (by omega) (by rfl)) (aC dint (aC dint aN))) ⟨b, 0, 12, rfl, rfl⟩) aN)) (by show 2 ≤ 1000; decide)
      have dpl := dv_lst hH hl2
      refine dS_when (et_not (tst (dall (bs := xs.map fun d => within ((items d).getD 0 .non) 0 12 && within ((items d).getD 1 .non) 0 12) ((nlcM (fun d => .bl (match d with | .tup [.bl a, .bl b] => a && b | _ => false)) (srcL (dvar rfl dpl)) (by rw [List.length_map]; omega) (fun _ _ => rfl) fun d hd x G e hx => ?_).toD.is (by rw [List.map_map, List.map_map]; rfl))))) (fun hb2 H3 e3 => ?_) fun hb2 H3 e3 => ?_
      · obtain ⟨d0, hd0, rfl⟩ := List.mem_map.mp hd
        exact bTwo hx fun x1 x2 g1 g2 => ⟨rfl, dand (dvar rfl g1) fun _ => dvar rfl g2⟩
      · rw [all_map_id, Bool.not_eq_true', List.all_eq_false] at hb2
        obtain ⟨d, hd, hw⟩ := hb2
        refine dS_ret (d := .bl false) dbl (bad ((e1.trans e2).trans e3) hd ?_)
        cases h : lnkB (ent sq) rows cols d with
        | false => rfl
        | true =>
          obtain ⟨a, b, c, rfl, ha, hb, _⟩ := lnk_iff.mp h
          refine absurd ?_ hw
          show (within (.int a) 0 12 && within (.int b) 0 12) = true
          rw [within_mem lr wf.len ha 12 (by omega), within_mem lr wf.len hb 12 (by omega)]
          rfl
      rw [all_map_id, Bool.not_eq_false', List.all_eq_true] at hb2
      have hint : ∀ d ∈ xs, ∃ (a b : Int) (c : Dat), d = .tup [.int a, .int b, c] := fun d hd => by
        obtain ⟨a, b, c, rfl⟩ := h3all d hd
        have h := hb2 _ hd
        have h : (within a 0 12 && within b 0 12) = true := h
        rw [Bool.and_eq_true] at h
        cases a with
        | int a =>
          cases b with
          | int b => exact ⟨a, b, c, rfl⟩
          | _ => cases h.2
        | _ => cases h.1
      have ee := (e1.trans e2).trans e3
      refine dq_for (fun i σ' H' => ((xs.take i).all fun d => lnkB (ent sq) rows cols d) = true ∧ ∃ o4 o5 o6 o7 o8 o9 o10 o11 o12, σ' = [some v1, some v2, some v3, some v4, o4, o5, o6, o7, o8, o9, o10, o11, o12]) (srcT (dvar rfl (h4.mono ee))) (fun H4 e4 => ⟨rfl, _, _, _, _, _, _, _, _, _, rfl⟩) ?_ ?_
      · rintro i hi σ' H4 e4 ⟨hall, o4, o5, o6, o7, o8, o9, o10, o11, o12, rfl⟩ y H5 e5 hy
        have hmem : xs[i] ∈ xs := List.getElem_mem hi
        have tk : xs.take (i + 1) = xs.take i ++ [xs[i]] := take_snoc (List.getElem?_eq_getElem hi)
        generalize xs[i] = d at *
        obtain ⟨a, b, c, rfl⟩ := hint d hmem
        have ee := (ee.trans e4).trans e5
        refine bThree hy fun x1 x2 x3 g1 g2 g3 N hN => ?_
        refine dS_when (b := !(rows.contains a) || (!(rows.contains b) || (!(within c 0 12) || !(cols.contains (intOf c))))) (et_or (tst (dinT (neg := true) (dvar rfl g1) (dvar rfl (h2.mono ee)))) fun _ => et_or (tst (dinT (neg := true) (dvar rfl g2) (dvar rfl (h2.mono ee)))) fun _ => et_or (et_not (tst (dcallD (aC (dvar rfl g3) (aC dint (aC dint aN))) ⟨c, 0, 12, rfl, rfl⟩))) fun hc => ?_) (fun hb6 H6 e6 => ?_) fun hb6 H6 e6 => ?_
        · cases c with
          | int c => exact tst ((dinT (neg := true) (dvar rfl g3) (dvar rfl (h3.mono ee))).is rfl)
          | _ => cases hc
        · refine dS_ret (d := .bl false) dbl (bad (ee.trans e6) hmem ?_)
          cases h : lnkB (ent sq) rows cols (.tup [.int a, .int b, c]) with
          | false => rfl
          | true =>
            obtain ⟨a', b', c', he, ha, hb, hc, _⟩ := lnk_iff.mp h
            cases he
            rw [List.contains_iff_mem.mpr ha, List.contains_iff_mem.mpr hb, within_mem lc wf.w12 hc 12 (by omega), show intOf (.int c') = c' from rfl, List.contains_iff_mem.mpr hc] at hb6
            cases hb6
        · have hwc : within c 0 12 = true := by
            simp only [Bool.or_eq_false_iff, Bool.not_eq_false'] at hb6
            exact hb6.2.2.1
          cases c with
          | int c =>
            simp only [Bool.or_eq_false_iff, Bool.not_eq_false', List.contains_iff_mem, intOf] at hb6
            obtain ⟨ha, hb, hw, hc⟩ := hb6
            have ee := ee.trans e6
            refine s_when (tst (dneI (dEnt wf (dvar rfl (h1.mono ee)) (dvar rfl (g1.mono e6)) (dvar rfl (g3.mono e6)) (lr.bd _ ha) (lc.bd _ hc)) (dEnt wf (dvar rfl (h1.mono ee)) (dvar rfl (g2.mono e6)) (dvar rfl (g3.mono e6)) (lr.bd _ hb) (lc.bd _ hc)))) (fun hb7 H7 e7 => ?_) fun hb7 H7 e7 => ?_
            · refine dS_ret (d := .bl false) dbl (bad (ee.trans e7) hmem ?_)
              have : decide (ent sq a c = ent sq b c) = false := by simpa using hb7
              simp only [lnkB, this, Bool.and_false]
            · refine hN _ _ (e6.trans e7) ⟨?_, _, _, _, _, _, _, _, _, _, rfl⟩
              have : lnkB (ent sq) rows cols (.tup [.int a, .int b, .int c]) = true := lnk_iff.mpr ⟨a, b, c, rfl, ha, hb, hc, by simpa using hb7⟩
              rw [tk, List.all_append, hall]
              simpa using this
          | _ => cases hwc
      · rintro σ' H4 e4 ⟨hall, o4, o5, o6, o7, o8, o9, o10, o11, o12, rfl⟩
        rw [List.take_length] at hall
        have hLB : linksB (ent sq) rows cols (.tup xs) = hang rows (xs.map lnkOf) := by simp only [linksB, hall, Bool.true_and]
        rw [hLB] at q
        obtain ⟨hxs, hends⟩ := lnks_of hall
        have hll : (xs.map lnkOf).length ≤ 25 := by rw [List.length_map]; exact hl
        generalize xs.map lnkOf = ls at *
        subst hxs
        have ee := ee.trans e4
        have hx0 := lr.head
        refine mq_par2 Mut.nil nnil (nlst (aC (d := .int (rows.headD 0)) (dHead (dvar rfl (h2.mono ee)) lr.ne) aN) (by show 1 ≤ 1000; decide)) rfl rfl fun f fr H5 M5 => ?_
        have M5 : Mut H4 [(f, []), (fr, [Dat.int (rows.headD 0)])] H5 := M5
        refine q_while (fun n σ' H' => ∃ (fs hs : List Int) (p4 p5 p6 p7 p10 p11 p12 : Option V), Mut H4 [(f, hs.map Dat.int), (fr, fs.map Dat.int)] H' ∧ σ' = [some v1, some v2, some v3, some v4, p4, p5, p6, p7, some (.ref f), some (.ref fr), p10, p11, p12] ∧
          SeekR (lkR ls) rows (rows.headD 0) fs hs ∧ hs.Nodup ∧ fs.length ≤ 1 + 50 * hs.length ∧ n = (12 - hs.length) * 60 + fs.length) (12 * 60 + 1)
          ⟨[rows.headD 0], [], _, _, _, _, _, _, _, M5, rfl, SeekR.start hx0, by simp, by simp, rfl⟩ ?_
        rintro n σ' H' ⟨fs, hs, p4, p5, p6, p7, p10, p11, p12, N, rfl, sk, hnd, fb, rfl⟩
        have hs12 : hs.length ≤ 12 := Nat.le_trans (nodup_le hnd sk.hs) r12
        refine ⟨!fs.isEmpty, tst ((dempL (neg := true) (dvar rfl (N.dv (i := 1) rfl))).is (by rw [List.isEmpty_map]; rfl)), fun hb G4 x4 => ?_, fun hb G4 x4 => ?_⟩
        · obtain ⟨f0, r, rfl⟩ := snoc_of fs (by intro z; rw [z] at hb; cases hb)
          simp only [List.length_append, List.length_cons, List.length_nil] at fb
          have rX : r ∈ rows := sk.fs r (by simp)
          refine ⟨fun σ' H' => ∃ (fs' hs' : List Int) (p4 p5 p6 p7 p10 p11 p12 : Option V), (Mut H4 [(f, hs'.map Dat.int), (fr, fs'.map Dat.int)] H' ∧ σ' = [some v1, some v2, some v3, some v4, p4, p5, p6, p7, some (.ref f), some (.ref fr), p10, p11, p12] ∧
            SeekR (lkR ls) rows (rows.headD 0) fs' hs' ∧ hs'.Nodup ∧ fs'.length ≤ 1 + 50 * hs'.length) ∧ (12 - hs'.length) * 60 + fs'.length < (12 - hs.length) * 60 + (f0 ++ [r]).length, fun σ' H' ⟨fs', hs', p4, p5, p6, p7, p10, p11, p12, ⟨a1, a2, a3, a4, a5⟩, a6⟩ => ⟨_, a6, fs', hs', p4, p5, p6, p7, p10, p11, p12, a1, a2, a3, a4, a5, rfl⟩, ?_⟩
          refine mq_popV (i := 1) (d := .int r) (ds := f0.map Dat.int) (N.on x4) (by rw [List.map_append]; rfl) rfl fun vr G5 N5 hvr => ?_
          rw [show vr = .int r from hvr]
          refine s_when (tst ((dinL (neg := true) (i := r) (ns := hs) (dvar rfl rfl) (dvar rfl (N5.dv (i := 0) rfl))).is rfl)) (fun hb G6 x6 => ?_) fun hb G6 x6 => ?_
          · have rn : r ∉ hs := by
              intro z
              rw [List.contains_iff_mem.mpr z] at hb
              cases hb
            have hnd2 : (hs ++ [r]).Nodup := List.nodup_append.mpr ⟨hnd, by simp, fun a ha b hb => by simp at hb; rw [hb]; intro z; rw [z] at ha; exact rn ha⟩
            have hs11 : hs.length + 1 ≤ 12 := by
              have : (hs ++ [r]).length ≤ rows.length := nodup_le hnd2 fun a ha => by
                rcases List.mem_append.mp ha with h | h
                · exact sk.hs a h
                · simp at h; rw [h]; exact rX
              simp at this
              omega
            refine mq_app (N5.on x6) (i := 0) rfl rfl (d := .int r) (dvar rfl rfl) rfl (by rw [List.length_map]; omega) fun G7 N7 ev7 => ?_
            have l1 : (ls.filter fun l => decide (l.1 = r)).length ≤ 25 := Nat.le_trans (List.length_filter_le _ _) hll
            have l2 : (ls.filter fun l => decide (l.2.1 = r)).length ≤ 25 := Nat.le_trans (List.length_filter_le _ _) hll
            have nl1 : ∀ (el : Int × Int × Int → Int) (fl : Int × Int × Int → Bool), ((ls.map lkD).filter (fun d => fl (lnkOf d))).map (fun d => Dat.int (el (lnkOf d))) = ((ls.filter fl).map el).map Dat.int := fun el fl => by
              rw [List.filter_map, List.map_map, List.map_map]
              rfl
            refine mq_ext N7 (i := 1) rfl rfl (es := ((ls.filter fun l => decide (l.1 = r)).map fun l => l.2.1).map Dat.int) ((nlc (fun d => decide ((lnkOf d).1 = r)) (fun d => .int (lnkOf d).2.1) (srcT (dvar rfl (h4.mono (ee.trans N7.ex)))) (by rw [List.length_map]; omega) (fun _ _ _ => rfl) fun d hd y G e hy => ?_).is (nl1 (fun l => l.2.1) fun l => decide (l.1 = r))) (plain_ints _) (by rw [List.length_map]; omega) (by rw [List.length_map, List.length_map]; omega) fun G8 N8 ev8 => ?_
            · obtain ⟨l, hl, rfl⟩ := List.mem_map.mp hd
              exact bThree hy fun y1 y2 y3 g1 g2 g3 => ⟨rfl, tstB (deqI (dvar rfl g1) (dvar rfl rfl)), fun _ => dvar rfl g2⟩
            refine mS_ext N8 (i := 1) rfl rfl (es := ((ls.filter fun l => decide (l.2.1 = r)).map fun l => l.1).map Dat.int) ((nlc (fun d => decide ((lnkOf d).2.1 = r)) (fun d => .int (lnkOf d).1) (srcT (dvar rfl (h4.mono (ee.trans N8.ex)))) (by rw [List.length_map]; omega) (fun _ _ _ => rfl) fun d hd y G e hy => ?_).is (nl1 (fun l => l.1) fun l => decide (l.2.1 = r))) (plain_ints _) (by simp only [List.length_append, List.length_map]; omega) (by rw [List.length_map, List.length_map]; omega) fun G9 N9 ev9 => ?_
            · obtain ⟨l, hl, rfl⟩ := List.mem_map.mp hd
              exact bThree hy fun y1 y2 y3 g1 g2 g3 => ⟨rfl, tstB (deqI (dvar rfl g2) (dvar rfl rfl)), fun _ => dvar rfl g1⟩
            refine ⟨f0 ++ (((ls.filter fun l => decide (l.1 = r)).map fun l => l.2.1) ++ (ls.filter fun l => decide (l.2.1 = r)).map fun l => l.1), hs ++ [r], _, _, _, _, _, _, _, ⟨?_, rfl, ?_, hnd2, ?_⟩, ?_⟩
            · simpa [List.append_assoc] using N9
            · refine sk.turn (fun o ho => ?_) fun o ho hl => ?_
              · rcases List.mem_append.mp ho with ho | ho
                · obtain ⟨l, hl, rfl⟩ := List.mem_map.mp ho
                  have hl := List.mem_filter.mp hl
                  exact ⟨(hends l hl.1).2, List.any_eq_true.mpr ⟨l, hl.1, by simp [of_decide_eq_true hl.2]⟩⟩
                · obtain ⟨l, hl, rfl⟩ := List.mem_map.mp ho
                  have hl := List.mem_filter.mp hl
                  exact ⟨(hends l hl.1).1, List.any_eq_true.mpr ⟨l, hl.1, by simp [of_decide_eq_true hl.2]⟩⟩
              · obtain ⟨l, hl1, hl2⟩ := List.any_eq_true.mp hl
                simp only [Bool.or_eq_true, Bool.and_eq_true, decide_eq_true_eq] at hl2
                refine .inr (.inl (List.mem_append.mpr ?_))
                rcases hl2 with ⟨q1, q2⟩ | ⟨q1, q2⟩
                · exact .inl (List.mem_map.mpr ⟨l, List.mem_filter.mpr ⟨hl1, by simp [q1]⟩, q2⟩)
                · exact .inr (List.mem_map.mpr ⟨l, List.mem_filter.mpr ⟨hl1, by simp [q1]⟩, q2⟩)
            · simp only [List.length_append, List.length_cons, List.length_nil, List.length_map]
              omega
            · simp only [List.length_append, List.length_cons, List.length_nil, List.length_map]
              omega
          · have rh : r ∈ hs := by
              refine List.contains_iff_mem.mp ?_
              cases h : hs.contains r with
              | true => rfl
              | false => rw [h] at hb; cases hb
            refine ⟨f0, hs, _, _, _, _, _, _, _, ⟨N5.on x6, rfl, sk.again rh, hnd, by omega⟩, ?_⟩
            simp only [List.length_append, List.length_cons, List.length_nil]
            omega
        · have hf0 : fs = [] := by cases fs with
            | nil => rfl
            | cons => cases hb
          subst hf0
          have N5 := N.on x4
          refine dS_ret (d := .bl (hang rows ls)) ?_ (q.up (ee.trans N5.ex))
          exact (deqLI (nsorted (dvar rfl (N5.dv (i := 0) rfl)) (srt_perm _) (srt_le _)).toD (nlistT (dvar rfl (h2.mono (ee.trans N5.ex)))).toD).is (congrArg Dat.bl (hang_found lr.asc lr.head hnd sk.done))
    | _ =>
      refine dS_when (b := true) (et_or (a := true) (b := true) (et_is (et_not (tst (disi_tuple (dvar rfl h4)))) rfl) fun z => by cases z) (fun _ H1 e1 => ?_) fun z => by cases z
      exact dS_ret (d := .bl false) dbl (q.up e1)
end

end Kw
namespace Kw
open PySem PySem.Spec PyProof.Rows L2 Evl
theorem steps_succ {rows : List Int} {ls : Lks} : ∀ (n : Nat) (K : List Int), steps rows ls (n + 1) K = step rows ls (steps rows ls n K)
  | 0, K => rfl
  | n + 1, K => by
    rw [steps, steps_succ n (step rows ls K)]
    rfl
section
variable {K : PySem.W.Frag} {σ : L2.St} {H : Hp} {ta tb : TE} {ds es : List Dat}
theorem ncat (ha : EvD ta σ H (.lst ds)) (hb : EvN tb σ H es) (hz : ds.length ≤ 1000) (hz2 : es.length ≤ 1000) : EvN (tOp rCat ta tb) σ H (ds ++ es) := fun H1 e1 Q q =>
  ha H1 e1 _ fun x H2 e2 ⟨a, xs, hx, hH, hl⟩ => hb H2 (e1.trans e2) _ fun b ys H3 hb3 e3 hH3 hl3 =>
    ⟨a, b, xs, ys, hx, rfl, e3 _ _ hH, hH3, by rw [hl.len, hl3.len, sizeLine_eq]; omega, fun p hp => q p _ _ (fresh_back (e2.trans e3) hp) ((e2.trans e3).trans (Ex.new hp)) upd_same (((hl.mono e3).append hl3).mono (Ex.new hp))⟩
end
section
variable {P : Program} {w : World} {K : PySem.W.Frag} {mg : Str → Option Value} {base : Heap}
theorem ok_L_lk_are_links (T : Txt K mg) : FnOk P w K mg base CX0 2 T.a_L_lk_are_links T.d_L_lk_are_links ["_law_square", "_law_rows", "_law_columns", "_law_value"] (SpD domLinks) := by
  have G_L_lk_is_within := ok_L_lk_is_within (P := P) (w := w) (base := base) T
  refine T.F_L_lk_are_links.ok sc_L_lk_are_links (fun vs H Q E h => ?_) (fun cdv A outer s H vs Q E hr h => ?_)
  · obtain ⟨ds, d, hv, ⟨sq, rows, cols, x, wf, lr, lc, hf, rfl, rfl⟩, q⟩ := h
    exact hv.len
  · obtain ⟨ds, d, hv, ⟨sq, rows, cols, x, wf, lr, lc, ⟨k, hf⟩, rfl, rfl⟩, q⟩ := h
    obtain ⟨v1, _, rfl, h1, v2, _, rfl, h2, v3, _, rfl, h3, hv⟩ := hv
    obtain ⟨v4, rfl, h4⟩ := hv.one
    refine ⟨_, (pss_cons (ps_if (pt_not (pt_val (pe_callB (k_isi (K := K) rfl) (by rfl) T.z_isinstance (by decide +kernel) (pa_cons (pv 3) (pa_cons (pe_bltn (v := .ty "tuple") (by rfl) T.z_tuple (by decide +kernel) rfl) pa_nil))))) (pss_one (ps_ret pe_bl)) pss_nil)
      (pss_cons (ps_for PassesOwn.never rfl (k_tup (K := K) rfl (pv 3)) (pg_name (i := 4) sc_L_lk_are_links.nd rfl (.inl rfl)) (pss_cons (ps_if (PW.pt (pw_or (pt_not (pt_val (pe_callB (k_isi (K := K) rfl) (by rfl) T.z_isinstance (by decide +kernel) (pa_cons (pv 4) (pa_cons (pe_bltn (v := .ty "tuple") (by rfl) T.z_tuple (by decide +kernel) rfl) pa_nil))))) (pw_or (pt_cmpR op_ne (pe_callB (k_len (K := K) rfl) (by rfl) T.z_len (by decide +kernel) (pa_cons (pv 4) pa_nil)) pe_int (nomark _)) (pw_or1 (pt_cmpR (k_neE (K := K) rfl hr.units0) (pe_lc (own := [("_law_one", 7)]) rfl sc_L_lk_are_links.nd (k_tup (K := K) rfl (pv 4)) (blkOk_by (by kernel_rfl)) (fun _ _ _ _ _ => (pg_name (i := 7) sc_L_lk_are_links.nd rfl (.inl rfl))) (fun _ _ _ _ _ => (pts_one (pt_not (pt_val (pe_call G_L_lk_is_within (hr.mono (by omega)) (by rfl) T.g_L_lk_is_within T.F_L_lk_is_within.kp T.b_L_lk_is_within .nil pass0 (pa_cons (pv 7) (pa_cons pe_int (pa_cons pe_int pa_nil)))))))) (fun _ _ _ _ _ => (pv 7))) (pe_lst pa_nil) (nomark _)))))) (pss_one (ps_ret pe_bl)) pss_nil)
      (pss_cons (ps_if (PW.pt (pw_or (pt_cmpR (k_notIn (K := K) rfl) (pe_ix (k_ixT (K := K) rfl) (pv 4) pe_int (fun _ _ => rfl)) (pv 1) (by rfl)) (pw_or (pt_cmpR (k_notIn (K := K) rfl) (pe_ix (k_ixT (K := K) rfl) (pv 4) pe_int (fun _ _ => rfl)) (pv 1) (by rfl)) (pw_or1 (pt_cmpR (k_notIn (K := K) rfl) (pe_ix (k_ixT (K := K) rfl) (pv 4) pe_int (fun _ _ => rfl)) (pv 2) (by rfl)))))) (pss_one (ps_ret pe_bl)) pss_nil)
      (pss_one (ps_if (pt_cmpR op_ne (pe_ix (k_ixT (K := K) rfl) (pe_ix (k_ixT (K := K) rfl) (pv 0) (pe_ix (k_ixT (K := K) rfl) (pv 4) pe_int (fun _ _ => rfl)) (fun _ _ => rfl)) (pe_ix (k_ixT (K := K) rfl) (pv 4) pe_int (fun _ _ => rfl)) (fun _ _ => rfl)) (pe_ix (k_ixT (K := K) rfl) (pe_ix (k_ixT (K := K) rfl) (pv 0) (pe_ix (k_ixT (K := K) rfl) (pv 4) pe_int (fun _ _ => rfl)) (fun _ _ => rfl)) (pe_ix (k_ixT (K := K) rfl) (pv 4) pe_int (fun _ _ => rfl)) (fun _ _ => rfl)) (nomark _)) (pss_one (ps_ret pe_bl)) pss_nil)))))
      (pss_cons (ps_set (i := 5) sc_L_lk_are_links.nd rfl (.inr rfl) (pe_lst (pa_cons (pe_ix (k_ixT (K := K) rfl) (pv 1) pe_int (fun _ _ => rfl)) pa_nil)))
      (pss_cons (ps_for PassesOwn.never rfl (k_tup (K := K) rfl (pv 1)) (pg_name (i := 6) sc_L_lk_are_links.nd rfl (.inl rfl)) (pss_cons (ps_set (i := 5) sc_L_lk_are_links.nd rfl (.inr rfl) (pe_op op_cat (pe_op op_cat (pv 5) (pe_lc (own := [("_law_link", 4)]) rfl sc_L_lk_are_links.nd (k_tup (K := K) rfl (pv 3)) (blkOk_by (by kernel_rfl)) (fun _ _ _ _ _ => (pg_name (i := 4) sc_L_lk_are_links.nd rfl (.inl rfl))) (fun _ _ _ _ _ => (pts_one (pt_cmpR (k_in (K := K) rfl) (pe_ix (k_ixT (K := K) rfl) (pv 4) pe_int (fun _ _ => rfl)) (pv 5) (by rfl)))) (fun _ _ _ _ _ => (pe_ix (k_ixT (K := K) rfl) (pv 4) pe_int (fun _ _ => rfl))))) (pe_lc (own := [("_law_link", 4)]) rfl sc_L_lk_are_links.nd (k_tup (K := K) rfl (pv 3)) (blkOk_by (by kernel_rfl)) (fun _ _ _ _ _ => (pg_name (i := 4) sc_L_lk_are_links.nd rfl (.inl rfl))) (fun _ _ _ _ _ => (pts_one (pt_cmpR (k_in (K := K) rfl) (pe_ix (k_ixT (K := K) rfl) (pv 4) pe_int (fun _ _ => rfl)) (pv 5) (by rfl)))) (fun _ _ _ _ _ => (pe_ix (k_ixT (K := K) rfl) (pv 4) pe_int (fun _ _ => rfl))))))
      (pss_one (ps_set (i := 5) sc_L_lk_are_links.nd rfl (.inr rfl) (pe_callB (cr_sortedSet rfl) (by rfl) T.z_sorted (by decide +kernel) (pa_cons (pe_callTy (cr_setL rfl) (by rfl) T.z_set (by decide +kernel) (pa_cons (pv 5) pa_nil)) pa_nil))))))
      (pss_one (ps_ret (pe_cmpR (op_eqD hr.units) (pv 5) (pe_callTy (k_listOf (K := K) rfl) (by rfl) T.z_list (by decide +kernel) (pa_cons (pv 1) pa_nil)) (nomark _)))))))), ?_⟩
    have r12 := lr.nat12 wf.len
    have c12 := lc.nat12 wf.w12
    cases x with
    | tup xs =>
      obtain ⟨m, rfl, hl, hm⟩ := fits_tup.mp hf
      have bad : ∀ {d : Dat} {G : Hp}, Ex H G → d ∈ xs → lnkB (ent sq) rows cols d = false → RetD (.bl false) G Q := fun e hd hb => by
        rw [links_bad hd hb] at q
        exact q.up e
      refine dS_when (b := false) (et_is (et_not (tst (disi_tuple (dvar rfl h4)))) rfl) (fun z => by cases z) fun _ H1 e1 => ?_
      refine dq_for (fun i σ' H' => ((xs.take i).all fun d => lnkB (ent sq) rows cols d) = true ∧ ∃ o4 o5 o6 o7, σ' = [some v1, some v2, some v3, some v4, o4, o5, o6, o7]) (srcT (dvar rfl (h4.mono e1))) (fun H4 e4 => ⟨rfl, _, _, _, _, rfl⟩) ?_ ?_
      · rintro i hi σ' H4 e4 ⟨hall, o4, o5, o6, o7, rfl⟩ y H5 e5 hy
        have hmem : xs[i] ∈ xs := List.getElem_mem hi
        have tk : xs.take (i + 1) = xs.take i ++ [xs[i]] := take_snoc (List.getElem?_eq_getElem hi)
        generalize xs[i] = d at *
        have ee := (e1.trans e4).trans e5
        refine bName fun N hN => ?_
        cases d with
        | tup ys =>
          obtain ⟨m', hm', hl', hm2⟩ := fits_tup.mp (hm _ hmem)
          refine dS_when (b := !decide (ys.length = 3) || !(ys.all fun y => within y 0 11)) (et_or (a := false) (et_is (et_not (tst (disi_tuple (dvar rfl hy)))) rfl) fun _ => et_or (et_is (tst (dneI (dlenT (dvar rfl hy)) dint)) (by congr 1; exact decide_eq_decide.mpr (by omega))) fun _ => tst ((dempL (neg := true) (nlc (fun d => !within d 0 11) (fun d => d) (srcT (dvar rfl hy)) (by omega) (fun d hd _ => fits_plain (hm2 d hd)) fun d hd x G e hx => bName ⟨rfl, et_not (tst (dcallD (aC (dvar rfl hx) (aC dint (aC dint aN))) ⟨d, 0, 11, rfl, rfl⟩)), fun _ => dvar rfl hx⟩).toD).is ?_)) (fun hb6 H6 e6 => ?_) fun hb6 H6 e6 => ?_
          · rw [List.map_id']
            show Dat.bl (!(List.filter _ ys).isEmpty) = _
            rw [filt_none]
            simp
          · refine dS_ret (d := .bl false) dbl (bad (ee.trans e6) hmem ?_)
            cases h : lnkB (ent sq) rows cols (.tup ys) with
            | false => rfl
            | true =>
              obtain ⟨a, b, c, he, ha, hb, hc, _⟩ := lnk_iff.mp h
              cases he
              simp only [List.all_cons, List.all_nil, within_mem lr wf.len ha 11 (by omega), within_mem lr wf.len hb 11 (by omega), within_mem lc wf.w12 hc 11 (by omega)] at hb6
              cases hb6
          · simp only [Bool.or_eq_false_iff, Bool.not_eq_false', decide_eq_true_eq] at hb6
            obtain ⟨hl3, hw⟩ := hb6
            obtain ⟨hys, hbd⟩ := within_int hw
            obtain ⟨a, b, c, rfl⟩ : ∃ a b c : Int, ys = [.int a, .int b, .int c] := by
              generalize ys.map intOf = ns at hys
              subst hys
              rw [List.length_map] at hl3
              match ns, hl3 with
              | [a, b, c], _ => exact ⟨a, b, c, rfl⟩
            have ee := ee.trans e6
            have i0 : ∀ {σ : L2.St} {G : Hp}, Ex H5 G → σ[4]? = some (some y) → EvD (tOp (rIxT K) (tVar 4) (tC (.int 0))) σ G (.int a) := fun e hσ => dixT (dvar hσ (hy.mono e)) dint (by omega) (by rfl)
            have i1 : ∀ {σ : L2.St} {G : Hp}, Ex H5 G → σ[4]? = some (some y) → EvD (tOp (rIxT K) (tVar 4) (tC (.int 1))) σ G (.int b) := fun e hσ => dixT (dvar hσ (hy.mono e)) dint (by omega) (by rfl)
            have i2 : ∀ {σ : L2.St} {G : Hp}, Ex H5 G → σ[4]? = some (some y) → EvD (tOp (rIxT K) (tVar 4) (tC (.int 2))) σ G (.int c) := fun e hσ => dixT (dvar hσ (hy.mono e)) dint (by omega) (by rfl)
            refine dS_when (b := !(rows.contains a) || (!(rows.contains b) || !(cols.contains c))) (et_or (tst (dinT (neg := true) (i0 e6 rfl) (dvar rfl (h2.mono ee)))) fun _ => et_or (tst (dinT (neg := true) (i1 e6 rfl) (dvar rfl (h2.mono ee)))) fun _ => tst (dinT (neg := true) (i2 e6 rfl) (dvar rfl (h3.mono ee)))) (fun hb7 H7 e7 => ?_) fun hb7 H7 e7 => ?_
            · refine dS_ret (d := .bl false) dbl (bad (ee.trans e7) hmem ?_)
              cases h : lnkB (ent sq) rows cols (.tup [.int a, .int b, .int c]) with
              | false => rfl
              | true =>
                obtain ⟨a', b', c', he, ha, hb, hc, _⟩ := lnk_iff.mp h
                cases he
                rw [List.contains_iff_mem.mpr ha, List.contains_iff_mem.mpr hb, List.contains_iff_mem.mpr hc] at hb7
                cases hb7
            · simp only [Bool.or_eq_false_iff, Bool.not_eq_false', List.contains_iff_mem] at hb7
              obtain ⟨ha, hb, hc⟩ := hb7
              have ee := ee.trans e7
              have e67 := e6.trans e7
              refine s_when (tst (dneI (dEnt wf (dvar rfl (h1.mono ee)) (i0 e67 rfl) (i2 e67 rfl) (lr.bd _ ha) (lc.bd _ hc)) (dEnt wf (dvar rfl (h1.mono ee)) (i1 e67 rfl) (i2 e67 rfl) (lr.bd _ hb) (lc.bd _ hc)))) (fun hb8 H8 e8 => ?_) fun hb8 H8 e8 => ?_
              · refine dS_ret (d := .bl false) dbl (bad (ee.trans e8) hmem ?_)
                have : decide (ent sq a c = ent sq b c) = false := by simpa using hb8
                simp only [lnkB, this, Bool.and_false]
              · refine hN _ _ (e67.trans e8) ⟨?_, _, _, _, _, rfl⟩
                have : lnkB (ent sq) rows cols (.tup [.int a, .int b, .int c]) = true := lnk_iff.mpr ⟨a, b, c, rfl, ha, hb, hc, by simpa using hb8⟩
                rw [tk, List.all_append, hall]
                simpa using this
        | _ =>
          refine dS_when (b := true) (et_or (a := true) (b := true) (et_is (et_not (tst (disi_tuple (dvar rfl hy)))) rfl) fun z => by cases z) (fun _ H6 e6 => ?_) fun z => by cases z
          exact dS_ret (d := .bl false) dbl (bad (ee.trans e6) hmem rfl)
      · rintro σ' H4 e4 ⟨hall, o4, o5, o6, o7, rfl⟩
        rw [List.take_length] at hall
        have hLB : linksB (ent sq) rows cols (.tup xs) = hang rows (xs.map lnkOf) := by simp only [linksB, hall, Bool.true_and]
        rw [hLB] at q
        obtain ⟨hxs, hends⟩ := lnks_of hall
        have hll : (xs.map lnkOf).length ≤ 25 := by rw [List.length_map]; exact hl
        generalize xs.map lnkOf = ls at *
        subst hxs
        have ee := e1.trans e4
        have hx0 := lr.head
        refine dq_asg ((nlst (aC (d := .int (rows.headD 0)) (dHead (dvar rfl (h2.mono ee)) lr.ne) aN) (by show 1 ≤ 1000; decide)).toD) fun kv H5 e5 hkv => ?_
        have ee := ee.trans e5
        refine dq_for (fun i σ' H' => (∀ a ∈ steps rows ls i [rows.headD 0], a ∈ rows) ∧ (steps rows ls i [rows.headD 0]).Nodup ∧ ∃ kv o4 o6 o7, Dv H' (.lst ((steps rows ls i [rows.headD 0]).map Dat.int)) kv ∧ σ' = [some v1, some v2, some v3, some v4, o4, some kv, o6, o7]) (srcT (dvar rfl (h2.mono ee))) (fun H6 e6 => ⟨by simpa [steps] using hx0, by simp [steps], kv, _, _, _, hkv.mono e6, rfl⟩) ?_ ?_
        · rintro i hi σ' H6 e6 ⟨hsub, hnd, kv, p4, p6, p7, hkv, rfl⟩ y H7 e7 hy
          refine bName fun N hN => ?_
          have ee := (ee.trans e6).trans e7
          have hk7 := hkv.mono e7
          rw [steps_succ] at hN
          generalize hKs : steps rows ls i [rows.headD 0] = Ks at *
          have k12 : Ks.length ≤ 12 := Nat.le_trans (nodup_le hnd hsub) r12
          have l1 : (ls.filter fun l => Ks.contains l.1).length ≤ 25 := Nat.le_trans (List.length_filter_le _ _) hll
          have l2 : (ls.filter fun l => Ks.contains l.2.1).length ≤ 25 := Nat.le_trans (List.length_filter_le _ _) hll
          have nl1 : ∀ (el : Int × Int × Int → Int) (fl : Int × Int × Int → Bool), ((ls.map lkD).filter (fun d => fl (lnkOf d))).map (fun d => Dat.int (el (lnkOf d))) = ((ls.filter fl).map el).map Dat.int := fun el fl => by
            rw [List.filter_map, List.map_map, List.map_map]
            rfl
          have n1 := (nlc (wi := iTup K (tVar 3)) (σ := [some v1, some v2, some v3, some v4, p4, some kv, some y, p7]) (H := H7) (te := tOp (rIxT K) (tVar 4) (tC (.int 1))) (t := tTest (tOp (rIn K false) (tOp (rIxT K) (tVar 4) (tC (.int 0))) (tVar 5))) (vs := [4]) (g := gName 4) (fun d => Ks.contains (lnkOf d).1) (fun d => .int (lnkOf d).2.1) (srcT (dvar rfl (h4.mono ee))) (by rw [List.length_map]; omega) (fun _ _ _ => rfl) fun d hd z G e hz => by
            obtain ⟨l, hl, rfl⟩ := List.mem_map.mp hd
            exact bName ⟨rfl, tst ((dinL (neg := false) (i := l.1) (ns := Ks) (dixT (dvar rfl hz) dint (by omega) (by rfl)) (dvar rfl (hk7.mono e))).is rfl), fun _ => dixT (dvar rfl hz) dint (by omega) (by rfl)⟩).is (nl1 (fun l => l.2.1) fun l => Ks.contains l.1)
          have n2 := (nlc (wi := iTup K (tVar 3)) (σ := [some v1, some v2, some v3, some v4, p4, some kv, some y, p7]) (H := H7) (te := tOp (rIxT K) (tVar 4) (tC (.int 0))) (t := tTest (tOp (rIn K false) (tOp (rIxT K) (tVar 4) (tC (.int 1))) (tVar 5))) (vs := [4]) (g := gName 4) (fun d => Ks.contains (lnkOf d).2.1) (fun d => .int (lnkOf d).1) (srcT (dvar rfl (h4.mono ee))) (by rw [List.length_map]; omega) (fun _ _ _ => rfl) fun d hd z G e hz => by
            obtain ⟨l, hl, rfl⟩ := List.mem_map.mp hd
            exact bName ⟨rfl, tst ((dinL (neg := false) (i := l.2.1) (ns := Ks) (dixT (dvar rfl hz) dint (by omega) (by rfl)) (dvar rfl (hk7.mono e))).is rfl), fun _ => dixT (dvar rfl hz) dint (by omega) (by rfl)⟩).is (nl1 (fun l => l.1) fun l => Ks.contains l.2.1)
          refine dq_asg (d := .lst ((Ks ++ ((ls.filter fun l => Ks.contains l.1).map fun l => l.2.1) ++ (ls.filter fun l => Ks.contains l.2.1).map fun l => l.1).map Dat.int)) (((ncat (ncat (dvar rfl hk7) n1 (by rw [List.length_map]; omega) (by rw [List.length_map, List.length_map]; omega)).toD n2 (by simp only [List.length_append, List.length_map]; omega) (by rw [List.length_map, List.length_map]; omega)).is (by simp only [List.map_append])).toD) fun kv2 H8 e8 hkv2 => ?_
          have sasc : (step rows ls Ks).Pairwise (· < ·) := lr.asc.sublist (step_sub Ks)
          refine dS_asg ((nsrtSet (ms := step rows ls Ks) (dvar rfl hkv2) (by simp only [List.length_append, List.length_map]; omega) sasc fun r => ?_).toD) fun kv3 H9 e9 hkv3 => ?_
          · unfold step
            simp only [List.mem_filter, Bool.or_eq_true, List.contains_iff_mem, List.any_eq_true, Bool.and_eq_true, decide_eq_true_eq, List.mem_append, List.mem_map]
            constructor
            · rintro ⟨hr, hk | ⟨l, hl, ⟨h1, h2⟩ | ⟨h1, h2⟩⟩⟩
              · exact .inl (.inl hk)
              · exact .inl (.inr ⟨l, ⟨hl, h1⟩, h2⟩)
              · exact .inr ⟨l, ⟨hl, h1⟩, h2⟩
            · rintro ((hk | ⟨l, ⟨hl, h1⟩, h2⟩) | ⟨l, ⟨hl, h1⟩, h2⟩)
              · exact ⟨hsub r hk, .inl hk⟩
              · exact ⟨h2 ▸ (hends l hl).2, .inr ⟨l, hl, .inl ⟨h1, h2⟩⟩⟩
              · exact ⟨h2 ▸ (hends l hl).1, .inr ⟨l, hl, .inr ⟨h1, h2⟩⟩⟩
          · exact hN _ _ (e8.trans e9) ⟨fun a ha => (step_sub Ks).subset ha, sasc.imp fun h => by omega, kv3, _, _, _, hkv3, rfl⟩
        · rintro σ' H6 e6 ⟨hsub, hnd, kv, p4, p6, p7, hkv, rfl⟩
          rw [List.length_map] at hkv
          refine dS_ret (d := .bl (hang rows ls)) ?_ (q.up (ee.trans e6))
          exact (deqLI (dvar rfl hkv) (nlistT (dvar rfl (h2.mono (ee.trans e6)))).toD).is rfl
    | _ =>
      refine dS_when (b := true) (et_is (et_not (tst (disi_tuple (dvar rfl h4)))) rfl) (fun _ H1 e1 => ?_) fun z => by cases z
      exact dS_ret (d := .bl false) dbl (q.up e1)
end

end Kw
namespace Kw
open PySem PySem.Spec PyProof.Rows L2 Evl
def domLocked : List Dat → Dat → Prop := fun ds d => ∃ sq w r, Wf sq ∧ (∃ k, (Dat.tup (.str w :: r)).fits k = true) ∧ ds = [sqD sq, .tup (.str w :: r)] ∧ d = .bl (isLockedM sq r)
def domWTree (n : Nat) : List Dat → Dat → Prop := fun ds d => ∃ sq x, Wf sq ∧ x.fits n = true ∧ ds = [sqD sq, x] ∧ d = .bl (isTreeM n sq (upto sq.length) (upto (wid sq)) x)
def domPap (n : Nat) : List Dat → Dat → Prop := fun ds d => ∃ sq x, Wf sq ∧ x.fits (n + 1) = true ∧ ds = [sqD sq, x] ∧ d = .bl (isPaper n sq x)
theorem locked_len {sq : Sq} {r : List Dat} (h : r.length ≠ 4) : isLockedM sq r = false := by
  match r, h with
  | [], _ => rfl
  | [_], _ => rfl
  | [_, _], _ => rfl
  | [_, _, _], _ => rfl
  | [_, _, _, _], h => exact absurd rfl h
  | _ :: _ :: _ :: _ :: _ :: _, _ => rfl
section
variable {P : Program} {w : World} {K : PySem.W.Frag} {mg : Str → Option Value} {base : Heap}
theorem dcallB {dom : List Dat → Dat → Prop} {σ : L2.St} {H : Hp} {ds : List Dat} {b c : Bool} {E : XK} {ta : TA} (h : EvAD ta σ H ds) (hd : dom ds (.bl b)) (e : b = c) : EvD (tCall (SpD dom) [] E ta) σ H (.bl c) := by
  subst e
  exact dcallD h hd
theorem ok_is_locked (T : Txt K mg) : FnOk P w K mg base CX0 4 T.a_is_locked T.d_is_locked ["square", "value"] (SpD domLocked) := by
  have G_are_lines := ok_are_lines (P := P) (w := w) (base := base) T
  have G_are_links := ok_are_links (P := P) (w := w) (base := base) T
  have G_is_flat := ok_is_flat (P := P) (w := w) (base := base) T
  have G_turned_square := ok_turned_square (P := P) (w := w) (base := base) T
  refine T.F_is_locked.ok sc_is_locked (fun vs H Q E h => ?_) (fun cdv A outer s H vs Q E hr h => ?_)
  · obtain ⟨ds, d, hv, ⟨sq, wd, r, wf, hf, rfl, rfl⟩, q⟩ := h
    exact hv.len
  · obtain ⟨ds, d, hv, ⟨sq, wd, r, wf, ⟨k, hf⟩, rfl, rfl⟩, q⟩ := h
    obtain ⟨v1, _, rfl, h1, hv⟩ := hv
    obtain ⟨v2, rfl, h2⟩ := hv.one
    refine ⟨_, (pss_cons (ps_if (PW.pt (pw_or (pt_cmpR op_ne (pe_callB (k_len (K := K) rfl) (by rfl) T.z_len (by decide +kernel) (pa_cons (pv 1) pa_nil)) (pe_glob (v := .int 5) (by rfl) T.g_LOCKED_SIZE ⟨_, rfl⟩) (nomark _)) (pw_or (pt_not (pt_val (pe_call G_are_lines (hr.mono (by omega)) (by rfl) T.g_are_lines T.F_are_lines.kp T.b_are_lines .nil pass0 (pa_cons (pe_ix (k_ixT (K := K) rfl) (pv 1) pe_int (fun _ _ => rfl)) (pa_cons (pe_callB (k_len (K := K) rfl) (by rfl) T.z_len (by decide +kernel) (pa_cons (pv 0) pa_nil)) pa_nil))))) (pw_or1 (pt_not (pt_val (pe_call G_are_lines (hr.mono (by omega)) (by rfl) T.g_are_lines T.F_are_lines.kp T.b_are_lines .nil pass0 (pa_cons (pe_ix (k_ixT (K := K) rfl) (pv 1) pe_int (fun _ _ => rfl)) (pa_cons (pe_callB (k_len (K := K) rfl) (by rfl) T.z_len (by decide +kernel) (pa_cons (pe_ix (k_ixT (K := K) rfl) (pv 0) pe_int (fun _ _ => rfl)) pa_nil)) pa_nil))))))))) (pss_one (ps_ret pe_bl)) pss_nil)
      (pss_cons (ps_par (i := 2) (j := 3) rfl sc_is_locked.nd rfl rfl (by decide) rfl rfl (pa_cons (pe_ix (k_ixT (K := K) rfl) (pv 1) pe_int (fun _ _ => rfl)) (pa_cons (pe_ix (k_ixT (K := K) rfl) (pv 1) pe_int (fun _ _ => rfl)) pa_nil)) (by rfl))
      (pss_cons (ps_if (PW.pt (pw_or (pt_val (pe_call G_is_flat (hr.mono (by omega)) (by rfl) T.g_is_flat T.F_is_flat.kp T.b_is_flat .nil pass0 (pa_cons (pv 0) (pa_cons (pv 2) (pa_cons (pv 3) pa_nil))))) (pw_or1 (pt_not (pt_val (pe_call G_are_links (hr.mono (by omega)) (by rfl) T.g_are_links T.F_are_links.kp T.b_are_links .nil pass0 (pa_cons (pv 0) (pa_cons (pv 2) (pa_cons (pv 3) (pa_cons (pe_ix (k_ixT (K := K) rfl) (pv 1) pe_int (fun _ _ => rfl)) pa_nil)))))))))) (pss_one (ps_ret pe_bl)) pss_nil)
      (pss_one (ps_ret (pe_call G_are_links (hr.mono (by omega)) (by rfl) T.g_are_links T.F_are_links.kp T.b_are_links .nil pass0 (pa_cons (pe_call G_turned_square (hr.mono (by omega)) (by rfl) T.g_turned_square T.F_turned_square.kp T.b_turned_square .nil pass0 (pa_cons (pv 0) pa_nil)) (pa_cons (pv 3) (pa_cons (pv 2) (pa_cons (pe_ix (k_ixT (K := K) rfl) (pv 1) pe_int (fun _ _ => rfl)) pa_nil)))))))))), ?_⟩
    obtain ⟨m, rfl, hl, hm⟩ := fits_tup.mp hf
    have hn := List.length_pos_iff.mpr wf.ne
    by_cases h4 : ∃ a b c d, r = [a, b, c, d]
    · obtain ⟨a, b, c, d, rfl⟩ := h4
      have ia : ∀ {σ : L2.St} {G : Hp}, Ex H G → σ[1]? = some (some v2) → EvD (tOp (rIxT K) (tVar 1) (tC (.int 1))) σ G a := fun e hσ => dixT (dvar hσ (h2.mono e)) dint (by omega) (by rfl)
      have ib : ∀ {σ : L2.St} {G : Hp}, Ex H G → σ[1]? = some (some v2) → EvD (tOp (rIxT K) (tVar 1) (tC (.int 2))) σ G b := fun e hσ => dixT (dvar hσ (h2.mono e)) dint (by omega) (by rfl)
      have ic : ∀ {σ : L2.St} {G : Hp}, Ex H G → σ[1]? = some (some v2) → EvD (tOp (rIxT K) (tVar 1) (tC (.int 3))) σ G c := fun e hσ => dixT (dvar hσ (h2.mono e)) dint (by omega) (by rfl)
      have id4 : ∀ {σ : L2.St} {G : Hp}, Ex H G → σ[1]? = some (some v2) → EvD (tOp (rIxT K) (tVar 1) (tC (.int 4))) σ G d := fun e hσ => dixT (dvar hσ (h2.mono e)) dint (by omega) (by rfl)
      have lenR : ∀ {σ : L2.St} {G : Hp}, Ex H G → σ[0]? = some (some v1) → EvD (tCB (rLenS K) (tCons (tVar 0) tNil)) σ G (.int (sq.length : Nat)) := fun e hσ => (dlenT (dvar hσ (h1.mono e))).is (by rw [List.length_map])
      have lenC : ∀ {σ : L2.St} {G : Hp}, Ex H G → σ[0]? = some (some v1) → EvD (tCB (rLenS K) (tCons (tOp (rIxT K) (tVar 0) (tC (.int 0))) tNil)) σ G (.int (wid sq : Nat)) := fun e hσ => (dlenT (dRow wf (r := 0) (dvar hσ (h1.mono e)) dint ⟨by omega, by omega⟩)).is (by rw [List.length_map, head_wid wf])
      refine dS_when (b := !linesB a sq.length || !linesB b (wid sq)) (et_or (a := false) (et_is (tst (dneI (dlenT (dvar rfl h2)) dint)) (by rfl)) fun _ => et_or (et_not (tst (dcallD (aC (ia (Ex.refl _) rfl) (aC (lenR (Ex.refl _) rfl) aN)) ⟨a, sq.length, ⟨m, hm a (by simp)⟩, rfl, rfl⟩))) fun _ => et_not (tst (dcallD (aC (ib (Ex.refl _) rfl) (aC (lenC (Ex.refl _) rfl) aN)) ⟨b, wid sq, ⟨m, hm b (by simp)⟩, rfl, rfl⟩))) (fun hb H1 e1 => ?_) fun hb H1 e1 => ?_
      · refine dS_ret (d := .bl false) dbl (?_ : RetD (.bl false) H1 Q)
        have : isLockedM sq [a, b, c, d] = false := by
          simp only [isLockedM]
          revert hb
          cases linesB a sq.length <;> cases linesB b (wid sq) <;> simp
        rw [this] at q
        exact q.up e1
      · simp only [Bool.or_eq_false_iff, Bool.not_eq_false'] at hb
        obtain ⟨rows, rfl, ira, lr⟩ := lines_ln hb.1
        obtain ⟨cols, rfl, icb, lc⟩ := lines_ln hb.2
        have hM : isLockedM sq [lnD rows, lnD cols, c, d] = ((!flat (ent sq) rows cols && linksB (ent sq) rows cols c) && linksB (ent (turn sq)) cols rows d) := by
          simp only [isLockedM, hb.1, hb.2, ira, icb, Bool.true_and]
        rw [hM] at q
        refine (ia e1 rfl) H1 (Ex.refl _) _ fun xa H2 e2 hxa => (ib (e1.trans e2) rfl) H2 (Ex.refl _) _ fun xb H3 e3 hxb => ⟨xa, xb, rfl, ?_⟩
        have ee := (e1.trans e2).trans e3
        have hxa3 := hxa.mono e3
        refine dS_when (b := flat (ent sq) rows cols || !linksB (ent sq) rows cols c) (et_or (tst (dcallD (aC (dvar rfl (h1.mono ee)) (aC (dvar rfl hxa3) (aC (dvar rfl hxb) aN))) ⟨sq, rows, cols, wf, lr, lc, rfl, rfl⟩)) fun _ => et_not (tst (dcallD (aC (dvar rfl (h1.mono ee)) (aC (dvar rfl hxa3) (aC (dvar rfl hxb) (aC (ic ee rfl) aN)))) ⟨sq, rows, cols, c, wf, lr, lc, ⟨m, hm c (by simp)⟩, rfl, rfl⟩))) (fun hb4 H4 e4 => ?_) fun hb4 H4 e4 => ?_
        · refine dS_ret (d := .bl false) dbl (?_ : RetD (.bl false) H4 Q)
          have : (!flat (ent sq) rows cols && linksB (ent sq) rows cols c) = false := by
            revert hb4
            cases flat (ent sq) rows cols <;> cases linksB (ent sq) rows cols c <;> simp
          rw [this, Bool.false_and] at q
          exact q.up (ee.trans e4)
        · have : (!flat (ent sq) rows cols && linksB (ent sq) rows cols c) = true := by
            revert hb4
            cases flat (ent sq) rows cols <;> cases linksB (ent sq) rows cols c <;> simp
          rw [this, Bool.true_and] at q
          have ee := ee.trans e4
          exact dS_ret (dcallD (aC (d := sqD (turn sq)) (dcallD (aC (dvar rfl (h1.mono ee)) aN) ⟨sq, wf, rfl, rfl⟩) (aC (dvar rfl (hxb.mono e4)) (aC (dvar rfl (hxa3.mono e4)) (aC (id4 ee rfl) aN)))) ⟨turn sq, cols, rows, d, turn_wf wf, wf.turnC lc, wf.turnR lr, ⟨m, hm d (by simp)⟩, rfl, rfl⟩) (q.up ee)
    · have hl4 : r.length ≠ 4 := by
        intro z
        match r, z, h4 with
        | [a, b, c, d], _, h => exact h ⟨a, b, c, d, rfl⟩
      rw [locked_len hl4] at q
      refine dS_when (b := true) (et_or (a := true) (b := true) (et_is (tst (dneI (dlenT (dvar rfl h2)) dint)) ?_) fun z => by cases z) (fun _ H1 e1 => ?_) fun z => by cases z
      · rw [decide_eq_false (by simp only [List.length_cons]; omega)]
        rfl
      · exact dS_ret (d := .bl false) dbl (q.up e1)
theorem ok_is_whole_tree (T : Txt K mg) (n : Nat) : FnOk P w K mg base CX0 (6 + n) T.a_is_whole_tree T.d_is_whole_tree ["square", "value"] (SpD (domWTree n)) := by
  have G_is_tree := ok_is_tree (P := P) (w := w) (base := base) T n
  rw [show 6 + n = (5 + n) + 1 by omega]
  refine T.F_is_whole_tree.ok sc_is_whole_tree (fun vs H Q E h => ?_) (fun cdv A outer s H vs Q E hr h => ?_)
  · obtain ⟨ds, d, hv, ⟨sq, x, wf, hf, rfl, rfl⟩, q⟩ := h
    exact hv.len
  · obtain ⟨ds, d, hv, ⟨sq, x, wf, hf, rfl, rfl⟩, q⟩ := h
    obtain ⟨v1, _, rfl, h1, hv⟩ := hv
    obtain ⟨v2, rfl, h2⟩ := hv.one
    refine ⟨_, (pss_one (ps_ret (pe_call G_is_tree (hr.mono (by omega)) (by rfl) T.g_is_tree T.F_is_tree.kp T.b_is_tree .nil pass0 (pa_cons (pv 0) (pa_cons (pe_tupRg rfl (by rfl) T.z_tuple (prg_1 (by rfl) T.z_range (pe_callB (k_len (K := K) rfl) (by rfl) T.z_len (by decide +kernel) (pa_cons (pv 0) pa_nil)))) (pa_cons (pe_tupRg rfl (by rfl) T.z_tuple (prg_1 (by rfl) T.z_range (pe_callB (k_len (K := K) rfl) (by rfl) T.z_len (by decide +kernel) (pa_cons (pe_ix (k_ixT (K := K) rfl) (pv 0) pe_int (fun _ _ => rfl)) pa_nil)))) (pa_cons (pv 1) pa_nil))))))), ?_⟩
    have hp := List.length_pos_iff.mpr wf.ne
    have hw := wf.w12
    have hw0 := wf.w0
    have hl := wf.len
    exact dS_ret (dcallD (aC (dvar rfl h1) (aC (d := lnD (upto sq.length)) (drgT ((dlenT (dvar rfl h1)).is (by rw [List.length_map])) (by omega)) (aC (d := lnD (upto (wid sq))) (drgT ((dlenT (dRow wf (r := 0) (dvar rfl h1) dint ⟨by omega, by omega⟩)).is (by rw [List.length_map, head_wid wf])) (by omega)) (aC (dvar rfl h2) aN)))) ⟨sq, upto sq.length, upto (wid sq), x, wf, upto_ln hp, upto_ln hw0, hf, rfl, rfl⟩) q
theorem paper_bad {n : Nat} {sq : Sq} {xs : List Dat} (h : ∀ w r, xs = .str w :: r → (w = "tree" → r.length ≠ 1) ∧ (w = "locked" → r.length ≠ 4)) : isPaper n sq (.tup xs) = false := by
  match xs, h with
  | [], _ => rfl
  | .str w :: r, h =>
    obtain ⟨h1, h2⟩ := h w r rfl
    unfold isPaper
    by_cases ht : w = "tree"
    · simp only [if_pos ht]
      match r, h1 ht with
      | [], _ => rfl
      | [t], h => exact absurd rfl h
      | _ :: _ :: _, _ => rfl
    · simp only [if_neg ht]
      by_cases hl : w = "locked"
      · rw [locked_len (h2 hl), Bool.and_false]
      · rw [decide_eq_false hl, Bool.false_and]
  | .non :: r, _ => rfl
  | .bl _ :: r, _ => rfl
  | .int _ :: r, _ => rfl
  | .tup _ :: r, _ => rfl
  | .lst _ :: r, _ => rfl
  | .opq :: r, _ => rfl
theorem ok_is_tree_paper (T : Txt K mg) (n : Nat) : FnOk P w K mg base CX0 (7 + n) T.a_is_tree_paper T.d_is_tree_paper ["square", "value"] (SpD (domPap n)) := by
  have G_is_whole_tree := ok_is_whole_tree (P := P) (w := w) (base := base) T n
  have G_is_locked := ok_is_locked (P := P) (w := w) (base := base) T
  have G_require_square := ok_require_square (P := P) (w := w) (base := base) T
  rw [show 7 + n = (6 + n) + 1 by omega]
  refine T.F_is_tree_paper.ok sc_is_tree_paper (fun vs H Q E h => ?_) (fun cdv A outer s H vs Q E hr h => ?_)
  · obtain ⟨ds, d, hv, ⟨sq, x, wf, hf, rfl, rfl⟩, q⟩ := h
    exact hv.len
  · obtain ⟨ds, d, hv, ⟨sq, x, wf, hf, rfl, rfl⟩, q⟩ := h
    obtain ⟨v1, _, rfl, h1, hv⟩ := hv
    obtain ⟨v2, rfl, h2⟩ := hv.one
    refine ⟨_, (pss_cons (ps_expr (pe_call G_require_square (hr.mono (by omega)) (by rfl) T.g_require_square T.F_require_square.kp T.b_require_square .nil pass0 (pa_cons (pv 0) pa_nil)))
      (pss_cons (ps_if (PW.pt (pw_or (pt_not (pt_val (pe_callB (k_isi (K := K) rfl) (by rfl) T.z_isinstance (by decide +kernel) (pa_cons (pv 1) (pa_cons (pe_bltn (v := .ty "tuple") (by rfl) T.z_tuple (by decide +kernel) rfl) pa_nil))))) (pw_or (pt_cmpR (k_eqE (K := K) rfl hr.units0) (pv 1) (pe_tup pa_nil) (nomark _)) (pw_or1 (pt_not (pt_val (pe_callB (k_isi (K := K) rfl) (by rfl) T.z_isinstance (by decide +kernel) (pa_cons (pe_ix (k_ixT (K := K) rfl) (pv 1) pe_int (fun _ _ => rfl)) (pa_cons (pe_bltn (v := .ty "str") (by rfl) T.z_str (by decide +kernel) rfl) pa_nil))))))))) (pss_one (ps_ret pe_bl)) pss_nil)
      (pss_cons (ps_if (pt_cmpR op_eq (pe_ix (k_ixT (K := K) rfl) (pv 1) pe_int (fun _ _ => rfl)) (pe_glob (v := .str "tree") (by rfl) T.g_TREE ⟨_, rfl⟩) (nomark _)) (pss_one (ps_ret (pe_and (pe_cmpR op_eq (pe_callB (k_len (K := K) rfl) (by rfl) T.z_len (by decide +kernel) (pa_cons (pv 1) pa_nil)) (pe_glob (v := .int 2) (by rfl) T.g_FLAT_SIZE ⟨_, rfl⟩) (nomark _)) (pe_one (pe_call G_is_whole_tree (hr.mono (by omega)) (by rfl) T.g_is_whole_tree T.F_is_whole_tree.kp T.b_is_whole_tree .nil pass0 (pa_cons (pv 0) (pa_cons (pe_ix (k_ixT (K := K) rfl) (pv 1) pe_int (fun _ _ => rfl)) pa_nil))))))) pss_nil)
      (pss_one (ps_ret (pe_and (pe_cmpR op_eq (pe_ix (k_ixT (K := K) rfl) (pv 1) pe_int (fun _ _ => rfl)) (pe_glob (v := .str "locked") (by rfl) T.g_LOCKED ⟨_, rfl⟩) (nomark _)) (pe_one (pe_call G_is_locked (hr.mono (by omega)) (by rfl) T.g_is_locked T.F_is_locked.kp T.b_is_locked .nil pass0 (pa_cons (pv 0) (pa_cons (pv 1) pa_nil)))))))))), ?_⟩
    refine dq_drop (dcallD (aC (dvar rfl h1) aN) ⟨sq, wf, rfl, rfl⟩) fun H1 e1 => ?_
    cases x with
    | tup xs =>
      obtain ⟨m, hm0, hl, hm⟩ := fits_tup.mp hf
      cases hm0
      cases xs with
      | nil =>
        refine dS_when (b := true) (et_or (a := false) (b := true) (et_is (et_not (tst (disi_tuple (dvar rfl (h2.mono e1))))) rfl) fun _ => et_or (a := true) (b := true) (et_is (tst (dempT (neg := false) (dvar rfl (h2.mono e1)))) rfl) fun z => by cases z) (fun _ H2 e2 => ?_) fun z => by cases z
        exact dS_ret (d := .bl false) dbl (q.up (e1.trans e2))
      | cons d0 r =>
        refine dS_when (b := !d0.isStr) (et_or (a := false) (b := !d0.isStr) (et_is (et_not (tst (disi_tuple (dvar rfl (h2.mono e1))))) rfl) fun _ => et_or (a := false) (b := !d0.isStr) (et_is (tst (dempT (neg := false) (dvar rfl (h2.mono e1)))) rfl) fun _ => et_not (tst (disi_str (dixT (dvar rfl (h2.mono e1)) dint (by omega) (by rfl))))) (fun hb H2 e2 => ?_) fun hb H2 e2 => ?_
        · refine dS_ret (d := .bl false) dbl (?_ : RetD (.bl false) H2 Q)
          have : isPaper n sq (.tup (d0 :: r)) = false := by
            cases d0 with
            | str s => cases hb
            | _ => rfl
          rw [this] at q
          exact q.up (e1.trans e2)
        · cases d0 with
          | str wd =>
            have ee := e1.trans e2
            have v0 : ∀ {σ : L2.St} {G : Hp}, Ex H G → σ[1]? = some (some v2) → EvD (tOp (rIxT K) (tVar 1) (tC (.int 0))) σ G (.str wd) := fun e hσ => dixT (dvar hσ (h2.mono e)) dint (by omega) (by rfl)
            by_cases htr : wd = "tree"
            · subst htr
              refine dS_when (b := true) (et_is (tst (deqS (v0 ee rfl) dstr)) (by decide)) (fun _ H3 e3 => ?_) fun z => by cases z
              have ee := ee.trans e3
              by_cases hr1 : ∃ t, r = [t]
              · obtain ⟨t, rfl⟩ := hr1
                have hP : isPaper n sq (.tup [.str "tree", t]) = isTreeM n sq (upto sq.length) (upto (wid sq)) t := by
                  unfold isPaper
                  simp only [if_true]
                rw [hP] at q
                refine dS_ret (d := .bl (isTreeM n sq (upto sq.length) (upto (wid sq)) t)) ?_ (q.up ee)
                exact (dand (b := true) ((deqI (dlenT (dvar rfl (h2.mono ee))) dint).is (by rfl)) fun _ => dcallD (aC (dvar rfl (h1.mono ee)) (aC (dixT (dvar rfl (h2.mono ee)) dint (by omega) (by rfl)) aN)) ⟨sq, t, wf, hm t (by simp), rfl, rfl⟩).is rfl
              · have hl1 : r.length ≠ 1 := by
                  intro z
                  match r, z, hr1 with
                  | [t], _, h => exact h ⟨t, rfl⟩
                rw [paper_bad fun w' r' he => by cases he; exact ⟨fun _ => hl1, fun z => absurd z (by decide)⟩] at q
                refine dS_ret (d := .bl false) ?_ (q.up ee)
                exact (dand (b := false) (c := false) ((deqI (dlenT (dvar rfl (h2.mono ee))) dint).is (congrArg Dat.bl (decide_eq_false (by simp only [List.length_cons]; omega)))) fun z => by cases z).is rfl
            · refine dS_when (b := false) (et_is (tst (deqS (v0 ee rfl) dstr)) (decide_eq_false htr)) (fun z => by cases z) fun _ H3 e3 => ?_
              have ee := ee.trans e3
              have hP : isPaper n sq (.tup (.str wd :: r)) = (decide (wd = "locked") && isLockedM sq r) := by
                unfold isPaper
                simp only [if_neg htr]
              rw [hP] at q
              refine dS_ret ?_ (q.up ee)
              exact dand (deqS (v0 ee rfl) dstr) fun _ => dcallD (aC (dvar rfl (h1.mono ee)) (aC (dvar rfl (h2.mono ee)) aN)) ⟨sq, wd, r, wf, ⟨_, hf⟩, rfl, rfl⟩
          | _ => cases hb
    | _ =>
      refine dS_when (b := true) (et_or (a := true) (b := true) (et_is (et_not (tst (disi_tuple (dvar rfl (h2.mono e1))))) rfl) fun z => by cases z) (fun _ H2 e2 => ?_) fun z => by cases z
      exact dS_ret (d := .bl false) dbl (q.up (e1.trans e2))
theorem ok_L_lk_is_paper (T : Txt K mg) (n : Nat) : FnOk P w K mg base CX0 (6 + n) T.a_L_lk_is_paper T.d_L_lk_is_paper ["_law_square", "_law_value"] (SpD (domPap n)) := by
  have G_L_lk_are_lines := ok_L_lk_are_lines (P := P) (w := w) (base := base) T
  have G_L_lk_are_links := ok_L_lk_are_links (P := P) (w := w) (base := base) T
  have G_L_lk_is_flat := ok_L_lk_is_flat (P := P) (w := w) (base := base) T
  have G_L_lk_turned := ok_L_lk_turned (P := P) (w := w) (base := base) T
  have G_L_lk_is_tree := ok_L_lk_is_tree (P := P) (w := w) (base := base) T n
  rw [show 6 + n = (5 + n) + 1 by omega]
  refine T.F_L_lk_is_paper.ok sc_L_lk_is_paper (fun vs H Q E h => ?_) (fun cdv A outer s H vs Q E hr h => ?_)
  · obtain ⟨ds, d, hv, ⟨sq, x, wf, hf, rfl, rfl⟩, q⟩ := h
    exact hv.len
  · obtain ⟨ds, d, hv, ⟨sq, x, wf, hf, rfl, rfl⟩, q⟩ := h
    obtain ⟨v1, _, rfl, h1, hv⟩ := hv
    obtain ⟨v2, rfl, h2⟩ := hv.one
    refine ⟨_, (pss_cons (ps_if (PW.pt (pw_or (pt_not (pt_val (pe_callB (k_isi (K := K) rfl) (by rfl) T.z_isinstance (by decide +kernel) (pa_cons (pv 1) (pa_cons (pe_bltn (v := .ty "tuple") (by rfl) T.z_tuple (by decide +kernel) rfl) pa_nil))))) (pw_or (pt_cmpR op_lt (pe_callB (k_len (K := K) rfl) (by rfl) T.z_len (by decide +kernel) (pa_cons (pv 1) pa_nil)) pe_int (nomark _)) (pw_or1 (pt_not (pt_val (pe_callB (k_isi (K := K) rfl) (by rfl) T.z_isinstance (by decide +kernel) (pa_cons (pe_ix (k_ixT (K := K) rfl) (pv 1) pe_int (fun _ _ => rfl)) (pa_cons (pe_bltn (v := .ty "str") (by rfl) T.z_str (by decide +kernel) rfl) pa_nil))))))))) (pss_one (ps_ret pe_bl)) pss_nil)
      (pss_cons (ps_if (pt_cmpR op_eq (pe_ix (k_ixT (K := K) rfl) (pv 1) pe_int (fun _ _ => rfl)) pe_str (nomark _)) (pss_one (ps_ret (pe_and (pe_cmpR op_eq (pe_callB (k_len (K := K) rfl) (by rfl) T.z_len (by decide +kernel) (pa_cons (pv 1) pa_nil)) pe_int (nomark _)) (pe_one (pe_call G_L_lk_is_tree (hr.mono (by omega)) (by rfl) T.g_L_lk_is_tree T.F_L_lk_is_tree.kp T.b_L_lk_is_tree .nil pass0 (pa_cons (pv 0) (pa_cons (pe_tupRg rfl (by rfl) T.z_tuple (prg_1 (by rfl) T.z_range (pe_callB (k_len (K := K) rfl) (by rfl) T.z_len (by decide +kernel) (pa_cons (pv 0) pa_nil)))) (pa_cons (pe_tupRg rfl (by rfl) T.z_tuple (prg_1 (by rfl) T.z_range (pe_callB (k_len (K := K) rfl) (by rfl) T.z_len (by decide +kernel) (pa_cons (pe_ix (k_ixT (K := K) rfl) (pv 0) pe_int (fun _ _ => rfl)) pa_nil)))) (pa_cons (pe_ix (k_ixT (K := K) rfl) (pv 1) pe_int (fun _ _ => rfl)) pa_nil))))))))) pss_nil)
      (pss_cons (ps_if (PW.pt (pw_or (pt_cmpR op_ne (pe_ix (k_ixT (K := K) rfl) (pv 1) pe_int (fun _ _ => rfl)) pe_str (nomark _)) (pw_or1 (pt_cmpR op_ne (pe_callB (k_len (K := K) rfl) (by rfl) T.z_len (by decide +kernel) (pa_cons (pv 1) pa_nil)) pe_int (nomark _))))) (pss_one (ps_ret pe_bl)) pss_nil)
      (pss_cons (ps_if (PW.pt (pw_or (pt_not (pt_val (pe_call G_L_lk_are_lines (hr.mono (by omega)) (by rfl) T.g_L_lk_are_lines T.F_L_lk_are_lines.kp T.b_L_lk_are_lines .nil pass0 (pa_cons (pe_ix (k_ixT (K := K) rfl) (pv 1) pe_int (fun _ _ => rfl)) (pa_cons (pe_callB (k_len (K := K) rfl) (by rfl) T.z_len (by decide +kernel) (pa_cons (pv 0) pa_nil)) pa_nil))))) (pw_or1 (pt_not (pt_val (pe_call G_L_lk_are_lines (hr.mono (by omega)) (by rfl) T.g_L_lk_are_lines T.F_L_lk_are_lines.kp T.b_L_lk_are_lines .nil pass0 (pa_cons (pe_ix (k_ixT (K := K) rfl) (pv 1) pe_int (fun _ _ => rfl)) (pa_cons (pe_callB (k_len (K := K) rfl) (by rfl) T.z_len (by decide +kernel) (pa_cons (pe_ix (k_ixT (K := K) rfl) (pv 0) pe_int (fun _ _ => rfl)) pa_nil)) pa_nil)))))))) (pss_one (ps_ret pe_bl)) pss_nil)
      (pss_cons (ps_if (pt_val (pe_call G_L_lk_is_flat (hr.mono (by omega)) (by rfl) T.g_L_lk_is_flat T.F_L_lk_is_flat.kp T.b_L_lk_is_flat .nil pass0 (pa_cons (pv 0) (pa_cons (pe_ix (k_ixT (K := K) rfl) (pv 1) pe_int (fun _ _ => rfl)) (pa_cons (pe_ix (k_ixT (K := K) rfl) (pv 1) pe_int (fun _ _ => rfl)) pa_nil))))) (pss_one (ps_ret pe_bl)) pss_nil)
      (pss_cons (ps_set (i := 2) sc_L_lk_is_paper.nd rfl (.inl rfl) (pe_call G_L_lk_turned (hr.mono (by omega)) (by rfl) T.g_L_lk_turned T.F_L_lk_turned.kp T.b_L_lk_turned .nil pass0 (pa_cons (pv 0) pa_nil)))
      (pss_one (ps_ret (pe_and (pe_call G_L_lk_are_links (hr.mono (by omega)) (by rfl) T.g_L_lk_are_links T.F_L_lk_are_links.kp T.b_L_lk_are_links .nil pass0 (pa_cons (pv 0) (pa_cons (pe_ix (k_ixT (K := K) rfl) (pv 1) pe_int (fun _ _ => rfl)) (pa_cons (pe_ix (k_ixT (K := K) rfl) (pv 1) pe_int (fun _ _ => rfl)) (pa_cons (pe_ix (k_ixT (K := K) rfl) (pv 1) pe_int (fun _ _ => rfl)) pa_nil))))) (pe_one (pe_call G_L_lk_are_links (hr.mono (by omega)) (by rfl) T.g_L_lk_are_links T.F_L_lk_are_links.kp T.b_L_lk_are_links .nil pass0 (pa_cons (pv 2) (pa_cons (pe_ix (k_ixT (K := K) rfl) (pv 1) pe_int (fun _ _ => rfl)) (pa_cons (pe_ix (k_ixT (K := K) rfl) (pv 1) pe_int (fun _ _ => rfl)) (pa_cons (pe_ix (k_ixT (K := K) rfl) (pv 1) pe_int (fun _ _ => rfl)) pa_nil))))))))))))))), ?_⟩
    have hn := List.length_pos_iff.mpr wf.ne
    have hw := wf.w12
    have hw0 := wf.w0
    have hl12 := wf.len
    have lenR : ∀ {σ : L2.St} {G : Hp}, Ex H G → σ[0]? = some (some v1) → EvD (tCB (rLenS K) (tCons (tVar 0) tNil)) σ G (.int (sq.length : Nat)) := fun e hσ => (dlenT (dvar hσ (h1.mono e))).is (by rw [List.length_map])
    have lenC : ∀ {σ : L2.St} {G : Hp}, Ex H G → σ[0]? = some (some v1) → EvD (tCB (rLenS K) (tCons (tOp (rIxT K) (tVar 0) (tC (.int 0))) tNil)) σ G (.int (wid sq : Nat)) := fun e hσ => (dlenT (dRow wf (r := 0) (dvar hσ (h1.mono e)) dint ⟨by omega, by omega⟩)).is (by rw [List.length_map, head_wid wf])
    cases x with
    | tup xs =>
      obtain ⟨m, hm0, hl, hm⟩ := fits_tup.mp hf
      cases hm0
      by_cases hsh : ∃ wd x r, xs = .str wd :: x :: r
      · obtain ⟨wd, x, r, rfl⟩ := hsh
        have v0 : ∀ {σ : L2.St} {G : Hp}, Ex H G → σ[1]? = some (some v2) → EvD (tOp (rIxT K) (tVar 1) (tC (.int 0))) σ G (.str wd) := fun e hσ => dixT (dvar hσ (h2.mono e)) dint (by omega) (by rfl)
        have ia : ∀ {σ : L2.St} {G : Hp}, Ex H G → σ[1]? = some (some v2) → EvD (tOp (rIxT K) (tVar 1) (tC (.int 1))) σ G x := fun e hσ => dixT (dvar hσ (h2.mono e)) dint (by omega) (by rfl)
        refine dS_when (b := false) (et_or (a := false) (b := false) (et_is (et_not (tst (disi_tuple (dvar rfl h2)))) rfl) fun _ => et_or (a := false) (b := false) (et_is (tst (dlt (dlenT (dvar rfl h2)) dint)) (decide_eq_false (by simp only [List.length_cons]; omega))) fun _ => et_is (et_not (tst (disi_str (v0 (Ex.refl _) rfl)))) rfl) (fun z => by cases z) fun _ H1 e1 => ?_
        by_cases htr : wd = "tree"
        · subst htr
          refine dS_when (b := true) (et_is (tst (deqS (v0 e1 rfl) dstr)) (by decide)) (fun _ H3 e3 => ?_) fun z => by cases z
          have ee := e1.trans e3
          cases r with
          | nil =>
            have hP : isPaper n sq (.tup [.str "tree", x]) = isTreeM n sq (upto sq.length) (upto (wid sq)) x := by
              unfold isPaper
              simp only [if_true]
            rw [hP] at q
            refine dS_ret (d := .bl (isTreeM n sq (upto sq.length) (upto (wid sq)) x)) ?_ (q.up ee)
            exact (dand (b := true) ((deqI (dlenT (dvar rfl (h2.mono ee))) dint).is (by rfl)) fun _ => dcallD (aC (dvar rfl (h1.mono ee)) (aC (d := lnD (upto sq.length)) (drgT (lenR ee rfl) (by omega)) (aC (d := lnD (upto (wid sq))) (drgT (lenC ee rfl) (by omega)) (aC (ia ee rfl) aN)))) ⟨sq, upto sq.length, upto (wid sq), x, wf, upto_ln hn, upto_ln hw0, hm x (by simp), rfl, rfl⟩).is rfl
          | cons y r =>
            rw [paper_bad fun w' r' he => by cases he; exact ⟨fun _ => by simp, fun z => absurd z (by decide)⟩] at q
            refine dS_ret (d := .bl false) ?_ (q.up ee)
            exact (dand (b := false) (c := false) ((deqI (dlenT (dvar rfl (h2.mono ee))) dint).is (congrArg Dat.bl (decide_eq_false (by simp only [List.length_cons]; omega)))) fun z => by cases z).is rfl
        · refine dS_when (b := false) (et_is (tst (deqS (v0 e1 rfl) dstr)) (decide_eq_false htr)) (fun z => by cases z) fun _ H3 e3 => ?_
          have ee := e1.trans e3
          by_cases hlk : wd = "locked"
          · subst hlk
            have hP : isPaper n sq (.tup (.str "locked" :: x :: r)) = isLockedM sq (x :: r) := by
              unfold isPaper
              simp only [if_neg htr, decide_true, Bool.true_and]
            rw [hP] at q
            by_cases h4 : ∃ b c d, r = [b, c, d]
            · obtain ⟨b, c, d, rfl⟩ := h4
              have ib : ∀ {σ : L2.St} {G : Hp}, Ex H G → σ[1]? = some (some v2) → EvD (tOp (rIxT K) (tVar 1) (tC (.int 2))) σ G b := fun e hσ => dixT (dvar hσ (h2.mono e)) dint (by omega) (by rfl)
              have ic : ∀ {σ : L2.St} {G : Hp}, Ex H G → σ[1]? = some (some v2) → EvD (tOp (rIxT K) (tVar 1) (tC (.int 3))) σ G c := fun e hσ => dixT (dvar hσ (h2.mono e)) dint (by omega) (by rfl)
              have id4 : ∀ {σ : L2.St} {G : Hp}, Ex H G → σ[1]? = some (some v2) → EvD (tOp (rIxT K) (tVar 1) (tC (.int 4))) σ G d := fun e hσ => dixT (dvar hσ (h2.mono e)) dint (by omega) (by rfl)
              refine dS_when (b := false) (et_or (a := false) (b := false) (et_is (tst (dneS (v0 ee rfl) dstr)) (by decide)) fun _ => et_is (tst (dneI (dlenT (dvar rfl (h2.mono ee))) dint)) (by rfl)) (fun z => by cases z) fun _ H4 e4 => ?_
              have ee := ee.trans e4
              refine dS_when (b := !linesB x sq.length || !linesB b (wid sq)) (et_or (et_not (tst (dcallD (aC (ia ee rfl) (aC (lenR ee rfl) aN)) ⟨x, sq.length, ⟨n, hm x (by simp)⟩, rfl, rfl⟩))) fun _ => et_not (tst (dcallD (aC (ib ee rfl) (aC (lenC ee rfl) aN)) ⟨b, wid sq, ⟨n, hm b (by simp)⟩, rfl, rfl⟩))) (fun hb H5 e5 => ?_) fun hb H5 e5 => ?_
              · refine dS_ret (d := .bl false) dbl (?_ : RetD (.bl false) H5 Q)
                have : isLockedM sq [x, b, c, d] = false := by
                  simp only [isLockedM]
                  revert hb
                  cases linesB x sq.length <;> cases linesB b (wid sq) <;> simp
                rw [this] at q
                exact q.up (ee.trans e5)
              · simp only [Bool.or_eq_false_iff, Bool.not_eq_false'] at hb
                obtain ⟨rows, rfl, ira, lr⟩ := lines_ln hb.1
                obtain ⟨cols, rfl, icb, lc⟩ := lines_ln hb.2
                have hM : isLockedM sq [lnD rows, lnD cols, c, d] = (!flat (ent sq) rows cols && (linksB (ent sq) rows cols c && linksB (ent (turn sq)) cols rows d)) := by
                  simp only [isLockedM, hb.1, hb.2, ira, icb, Bool.true_and, Bool.and_assoc]
                rw [hM] at q
                have ee := ee.trans e5
                refine dS_when (tst (dcallD (aC (dvar rfl (h1.mono ee)) (aC (ia ee rfl) (aC (ib ee rfl) aN))) ⟨sq, rows, cols, wf, lr, lc, rfl, rfl⟩)) (fun hb6 H6 e6 => ?_) fun hb6 H6 e6 => ?_
                · refine dS_ret (d := .bl false) dbl (?_ : RetD (.bl false) H6 Q)
                  rw [hb6] at q
                  exact q.up (ee.trans e6)
                · rw [hb6] at q
                  have ee := ee.trans e6
                  refine dq_asg (dcallD (aC (dvar rfl (h1.mono ee)) aN) ⟨sq, wf, rfl, rfl⟩) fun vt H7 e7 hvt => ?_
                  have ee := ee.trans e7
                  exact dS_ret (dand (dcallD (aC (dvar rfl (h1.mono ee)) (aC (ia ee rfl) (aC (ib ee rfl) (aC (ic ee rfl) aN)))) ⟨sq, rows, cols, c, wf, lr, lc, ⟨n, hm c (by simp)⟩, rfl, rfl⟩) fun _ => dcallD (aC (dvar rfl hvt) (aC (ib ee rfl) (aC (ia ee rfl) (aC (id4 ee rfl) aN)))) ⟨turn sq, cols, rows, d, turn_wf wf, wf.turnC lc, wf.turnR lr, ⟨n, hm d (by simp)⟩, rfl, rfl⟩) (q.up ee)
            · have hl4 : (x :: r).length ≠ 4 := by
                intro z
                match r, z, h4 with
                | [b, c, d], _, h => exact h ⟨b, c, d, rfl⟩
              rw [locked_len hl4] at q
              refine dS_when (b := true) (et_or (a := false) (b := true) (et_is (tst (dneS (v0 ee rfl) dstr)) (by decide)) fun _ => et_is (tst (dneI (dlenT (dvar rfl (h2.mono ee))) dint)) ?_) (fun _ H4 e4 => ?_) fun z => by cases z
              · rw [decide_eq_false (by simp only [List.length_cons] at hl4 ⊢; omega)]
                rfl
              · exact dS_ret (d := .bl false) dbl (q.up (ee.trans e4))
          · rw [paper_bad fun w' r' he => by cases he; exact ⟨fun z => absurd z htr, fun z => absurd z hlk⟩] at q
            refine dS_when (b := true) (et_or (a := true) (b := true) (et_is (tst (dneS (v0 ee rfl) dstr)) (by rw [decide_eq_false hlk]; rfl)) fun z => by cases z) (fun _ H4 e4 => ?_) fun z => by cases z
            exact dS_ret (d := .bl false) dbl (q.up (ee.trans e4))
      · rw [paper_bad fun w' r' he => by
          match r', he with
          | [], _ => exact ⟨fun _ => by decide, fun _ => by decide⟩
          | x :: r, he => exact absurd ⟨w', x, r, he⟩ hsh] at q
        by_cases h2l : xs.length < 2
        · refine dS_when (b := true) (et_or (a := false) (b := true) (et_is (et_not (tst (disi_tuple (dvar rfl h2)))) rfl) fun _ => et_or (a := true) (b := true) (et_is (tst (dlt (dlenT (dvar rfl h2)) dint)) (decide_eq_true (by omega))) fun z => by cases z) (fun _ H1 e1 => ?_) fun z => by cases z
          exact dS_ret (d := .bl false) dbl (q.up e1)
        · obtain ⟨d0, rest, rfl⟩ : ∃ d0 rest, xs = d0 :: rest := by
            match xs, h2l with
            | [], h => exact absurd (by decide : (0:Nat) < 2) h
            | d0 :: rest, _ => exact ⟨d0, rest, rfl⟩
          have hs0 : d0.isStr = false := by
            cases d0 with
            | str s =>
              match rest, hsh, h2l with
              | [], _, h => exact absurd (by decide : (1:Nat) < 2) h
              | x :: r, h, _ => exact absurd ⟨s, x, r, rfl⟩ h
            | _ => rfl
          refine dS_when (b := true) (et_or (a := false) (b := true) (et_is (et_not (tst (disi_tuple (dvar rfl h2)))) rfl) fun _ => et_or (a := false) (b := true) (et_is (tst (dlt (dlenT (dvar rfl h2)) dint)) (decide_eq_false (by omega))) fun _ => et_is (et_not (tst (disi_str (dixT (dvar rfl h2) dint (by omega) (by rfl))))) (by rw [hs0]; rfl)) (fun _ H1 e1 => ?_) fun z => by cases z
          exact dS_ret (d := .bl false) dbl (q.up e1)
    | _ =>
      refine dS_when (b := true) (et_or (a := true) (b := true) (et_is (et_not (tst (disi_tuple (dvar rfl h2)))) rfl) fun z => by cases z) (fun _ H1 e1 => ?_) fun z => by cases z
      exact dS_ret (d := .bl false) dbl (q.up e1)
end

end Kw
namespace Kw
open PySem PySem.Spec PyProof.Rows L2 Evl
/-! ## dice: one list of three ints that changes -/
def DiceAt (H : Hp) (a : Addr) : Prop := ∃ l s c : Int, H a = some (.lst [.int l, .int s, .int c])
structure Rl (a : Addr) (H H' : Hp) : Prop where
  keep : ∀ b o, b ≠ a → H b = some o → H' b = some o
  dice : DiceAt H' a
section
variable {a p : Addr} {H H0 H1 H2 H' : Hp} {ms : List (Addr × List Dat)}
theorem Rl.refl (h : DiceAt H a) : Rl a H H := ⟨fun _ _ _ h => h, h⟩
theorem Rl.trans (x : Rl a H H1) (y : Rl a H1 H2) : Rl a H H2 := ⟨fun b o hb h => y.keep b o hb (x.keep b o hb h), y.dice⟩
theorem DiceAt.up (h : DiceAt H a) (e : Ex H H1) : DiceAt H1 a := by
  obtain ⟨l, s, c, h⟩ := h
  exact ⟨l, s, c, e _ _ h⟩
theorem Rl.of (h : DiceAt H a) (e : Ex H H1) : Rl a H H1 := ⟨fun b o _ hb => e b o hb, h.up e⟩
theorem Rl.evo (h : DiceAt H a) (r : Rl a H H1) : Evo H H1 := ⟨fun b xs hb => r.keep b _ (fun z => by
  obtain ⟨l, s, c, h⟩ := h
  rw [z, h] at hb
  cases hb) hb, fun b xs hb => by
  by_cases z : b = a
  · subst z
    obtain ⟨l, s, c, h⟩ := r.dice
    exact ⟨_, h⟩
  · exact ⟨xs, r.keep b _ z hb⟩⟩
/-- the heap without some addresses -/
def cutH (H : Hp) (S : List Addr) : Hp := fun b => if b ∈ S then none else H b
theorem ex_cut (H : Hp) (S : List Addr) : Ex (cutH H S) H := fun b o h => by
  unfold cutH at h
  split at h
  · cases h
  · exact h
theorem cut_in {S : List Addr} (h : p ∈ S) : cutH H S p = none := by
  unfold cutH
  rw [if_pos h]
theorem Rl.ofCut (e : Ex (cutH H [a]) H') (h : DiceAt H' a) : Rl a H H' := ⟨fun b o hb ho => e b o (by
  unfold cutH
  rw [if_neg (by simpa using hb)]
  exact ho), h⟩
/-- lists that change, the dice besides -/
structure MutD (a : Addr) (H0 : Hp) (ms : List (Addr × List Dat)) (H : Hp) : Prop where
  mu : Mut H0 ms H
  dice : DiceAt H a
  new : H0 a = none
  sep : a ∉ ms.map (·.1)
theorem Rl.up0 (r : Rl a H H1) (hn : H0 a = none) (e : Ex H0 H) : Ex H0 H1 := fun b o h => r.keep b o (fun z => by rw [z, hn] at h; cases h) (e b o h)
theorem MutD.rl (M : MutD a H0 ms H) (r : Rl a H H1) : MutD a H0 ms H1 := ⟨⟨r.up0 M.new M.mu.ex, M.mu.nd, fun m hm => by
  obtain ⟨x, y, xs, z, d⟩ := M.mu.ok m hm
  refine ⟨x, y, xs, r.keep _ _ (fun e => M.sep (e ▸ List.mem_map_of_mem hm)) z, DvL.evo (r.evo M.dice) _ y d⟩⟩, r.dice, M.new, M.sep⟩
theorem MutD.on (M : MutD a H0 ms H) (e : Ex H H1) : MutD a H0 ms H1 := ⟨M.mu.on e, M.dice.up e, M.new, M.sep⟩
theorem MutD.nil (h : DiceAt H a) : MutD a (cutH H [a]) [] H := ⟨⟨ex_cut H [a], by simp, fun m hm => absurd hm List.not_mem_nil⟩, h, cut_in (by simp), by simp⟩
theorem MutD.put {i : Nat} {ds es : List Dat} {xs : List V} (M : MutD a H0 ms H) (h : ms[i]? = some (p, ds)) (pl : plainL es = true) (hx : DvL H es xs) : MutD a H0 (ms.set i (p, es)) (upd H p (.lst xs)) := by
  have hne : p ≠ a := fun e => M.sep (List.mem_map.mpr ⟨(p, ds), List.mem_of_getElem? h, e⟩)
  refine ⟨M.mu.put h pl hx, ?_, M.new, ?_⟩
  · obtain ⟨l, s, c, hd⟩ := M.dice
    exact ⟨l, s, c, by rw [upd_ne (fun e => hne e.symm)]; exact hd⟩
  · rw [List.map_set]
    intro hm
    rcases List.mem_or_eq_of_mem_set hm with h1 | h1
    · exact M.sep h1
    · exact hne h1.symm
theorem MutD.push {ds : List Dat} {xs : List V} (M : MutD a H0 ms H) (e : Ex H H1) (hp : H p = none) (hH : H1 p = some (.lst xs)) (hl : DvL H1 ds xs) (pl : plainL ds = true) : MutD a H0 (ms ++ [(p, ds)]) H1 := by
  refine ⟨M.mu.push e hp hH hl pl, M.dice.up e, M.new, ?_⟩
  rw [List.map_append, List.mem_append, not_or]
  refine ⟨M.sep, ?_⟩
  simp only [List.map_cons, List.map_nil, List.mem_singleton]
  intro z
  obtain ⟨l, s, c, hd⟩ := M.dice
  rw [z, hp] at hd
  cases hd
theorem MutD.out (M : MutD a (cutH H [a]) ms H1) : Rl a H H1 := Rl.ofCut M.mu.ex M.dice
end
/-! ### what evaluates, the dice moving -/
def EvR (a : Addr) (te : TE) (σ : L2.St) (H : Hp) (R : Dat → Prop) : Prop := ∀ H1, Rl a H H1 → ∀ Q : VK, (∀ d v H2, Rl a H1 H2 → R d → d.plain = true → Dv H2 d v → Q v H2) → te σ H1 Q
def spRoll : Sp := fun vs H Q _ => ∃ (a : Addr) (m : Int), vs = [.ref a, .int m] ∧ DiceAt H a ∧ 0 < m ∧ m < 1073741824 ∧ ∀ r H', 0 ≤ r → r < m → Rl a H H' → Q (.int r) H'
/-- pick: the list is another than the dice -/
def spPick : Sp := fun vs H Q _ => ∃ (a p : Addr) (xs : List V), vs = [.ref a, .ref p] ∧ DiceAt H a ∧ p ≠ a ∧ H p = some (.lst xs) ∧ xs ≠ [] ∧ xs.length ≤ 1000 ∧ ∀ x H', x ∈ xs → Rl a H H' → Q x H'
section
variable {K : PySem.W.Frag} {σ : L2.St} {a p : Addr} {H H0 H1 H' : Hp} {te ta tb : TE} {R S : Dat → Prop} {d : Dat} {ms : List (Addr × List Dat)} {D : Ends} {tz tu : TS} {j k : Nat}
theorem EvR.of (h : ∀ H1, Rl a H H1 → EvD te σ H1 d) (hp : d.plain = true) (hr : R d) : EvR a te σ H R := fun H1 r Q q => h H1 r H1 (Ex.refl _) _ fun v H2 e hv => q d v H2 (Rl.of r.dice e) hr hp hv
theorem EvR.imp (h : EvR a te σ H R) (hs : ∀ d, R d → S d) : EvR a te σ H S := fun H1 r Q q => h H1 r _ fun d v H2 r2 hd hp hv => q d v H2 r2 (hs d hd) hp hv
theorem EvR.up (h : EvR a te σ H R) (r : Rl a H H1) : EvR a te σ H1 R := fun H2 r2 Q q => h H2 (r.trans r2) Q q
/-- roll(dice, m) -/
theorem eroll {E : XK} (h0 : σ[k]? = some (some (.ref a))) {m : Int} (hm : EvR a te σ H fun d => d = .int m) (hd : DiceAt H a) (m0 : 0 < m) (m1 : m < 1073741824) : EvR a (tCall spRoll [] E (tCons (tVar k) (tCons te tNil))) σ H fun d => ∃ r, d = .int r ∧ 0 ≤ r ∧ r < m := fun H1 r1 Q q =>
  ⟨_, h0, hm H1 r1 _ fun d v H2 r2 hd2 _ hv => by
    subst hd2
    exact ⟨a, m, by rw [show v = _ from hv]; rfl, r2.dice, m0, m1, fun r H' h1 h2 h3 => q (.int r) _ H' (r2.trans h3) ⟨r, rfl, h1, h2⟩ rfl rfl⟩⟩
/-- roll(dice, m), m bounded -/
theorem erollB {E : XK} (h0 : σ[k]? = some (some (.ref a))) {n : Int} (hm : EvR a te σ H fun d => ∃ m, d = .int m ∧ 0 < m ∧ m ≤ n) (m1 : n < 1073741824) : EvR a (tCall spRoll [] E (tCons (tVar k) (tCons te tNil))) σ H fun d => ∃ r, d = .int r ∧ 0 ≤ r ∧ r < n := fun H1 r1 Q q =>
  ⟨_, h0, hm H1 r1 _ fun d v H2 r2 hd2 _ hv => by
    obtain ⟨m, rfl, p0, p1⟩ := hd2
    exact ⟨a, m, by rw [show v = _ from hv]; rfl, r2.dice, p0, by omega, fun r H' h1 h2 h3 => q (.int r) _ H' (r2.trans h3) ⟨r, rfl, h1, by omega⟩ rfl rfl⟩⟩
theorem eop2 {r2 : R2} {T : Dat → Prop} (ha : EvR a ta σ H R) (hb : EvR a tb σ H S) (h : ∀ x y d e H1, R d → S e → Dv H1 d x → Dv H1 e y → ∀ Q : VK, (∀ f v, T f → f.plain = true → Dv H1 f v → Q v H1) → r2 x y H1 Q) : EvR a (tOp r2 ta tb) σ H T := fun H1 r1 Q q =>
  ha H1 r1 _ fun d x H2 q2 hd pd hx => hb H2 (r1.trans q2) _ fun e y H3 q3 he pe hy => h x y d e H3 hd he (Dv.evo (q3.evo q2.dice) d pd hx) hy Q fun f v hf pf hv => q f v H3 (q2.trans q3) hf pf hv
theorem eI0 {g : Int → Int → V} {P1 P2 : Int → Prop} {f : Int → Int → Dat} (ha : EvR a ta σ H fun d => ∃ i, d = .int i ∧ P1 i) (hb : EvR a tb σ H fun d => ∃ i, d = .int i ∧ P2 i) (hp : ∀ i j, (f i j).plain = true) (hg : ∀ i j H1, Dv H1 (f i j) (g i j)) : EvR a (tOp (rI0 g) ta tb) σ H fun d => ∃ i j, d = f i j ∧ P1 i ∧ P2 j :=
  eop2 ha hb fun x y d e H1 ⟨i, h1, p1⟩ ⟨j, h2, p2⟩ hx hy Q q => by
    subst h1 h2
    exact ⟨i, j, hx, hy, q (f i j) _ ⟨i, j, rfl, p1, p2⟩ (hp i j) (hg i j H1)⟩
theorem eint (hd : DiceAt H a) {i : Int} : EvR a (tC (.int i)) σ H fun d => ∃ j, d = .int j ∧ j = i := EvR.of (d := .int i) (fun _ _ => dint) rfl ⟨i, rfl, rfl⟩
theorem eivar {i : Int} {P : Int → Prop} (h : σ[k]? = some (some (.int i))) (hp : P i) : EvR a (tVar k) σ H fun d => ∃ j, d = .int j ∧ P j := EvR.of (d := .int i) (fun _ _ => dvar h rfl) rfl ⟨i, rfl, hp⟩
/-- statements -/
theorem eq_asg (hd : DiceAt H a) (h : EvR a te σ H R) (q : ∀ d v H1, Rl a H H1 → R d → d.plain = true → Dv H1 d v → tz D (σ.set j (some v)) H1) : tSeq (tAsg te (gName j)) tz D σ H := h H (Rl.refl hd) _ q
theorem eS_ret (hd : DiceAt H a) (h : EvR a te σ H R) (q : ∀ d v H1, Rl a H H1 → R d → d.plain = true → Dv H1 d v → D.rt v H1) : tRet te D σ H := h H (Rl.refl hd) _ q
theorem eq_par (hd : DiceAt H a) {i : Nat} (h1 : EvR a ta σ H R) (h2 : EvR a tb σ H S) (q : ∀ d e v u H1, Rl a H H1 → R d → S e → Dv H1 d v → Dv H1 e u → tz D ((σ.set i (some v)).set j (some u)) H1) : tSeq (tPar i j (tCons ta (tCons tb tNil))) tz D σ H :=
  h1 H (Rl.refl hd) _ fun d v H1 r1 hd1 p1 hv => h2 H1 r1 _ fun e u H2 r2 he p2 hu => ⟨v, u, rfl, q d e v u H2 (r1.trans r2) hd1 he (Dv.evo (r2.evo r1.dice) d p1 hv) hu⟩
end
end Kw
namespace Kw
open PySem PySem.Spec PyProof.Rows L2 Evl
section
variable {K : PySem.W.Frag} {σ : L2.St} {a p : Addr} {H H0 H1 H' : Hp} {te ta tb : TE} {d e : Dat} {ms : List (Addr × List Dat)} {D : Ends} {tz tu : TS} {j k : Nat} {xs : List V} {i : Int}
theorem dint1 (h : EvD te σ H (.int i)) : EvD (tCB (fun xs H Q => (∃ i, xs = [.int i] ∧ Q (.int i) H) ∨ ∃ k, xs = [.bl k] ∧ Q (.int (if k then 1 else 0)) H) (tCons te tNil)) σ H (.int i) := fun H1 e1 Q q => h H1 e1 _ fun x H2 e2 hx => .inl ⟨i, by rw [show x = _ from hx], q _ H2 e2 rfl⟩
theorem dint1b {b : Bool} (h : EvD te σ H (.bl b)) : EvD (tCB (fun xs H Q => (∃ i, xs = [.int i] ∧ Q (.int i) H) ∨ ∃ k, xs = [.bl k] ∧ Q (.int (if k then 1 else 0)) H) (tCons te tNil)) σ H (.int (if b then 1 else 0)) := fun H1 e1 Q q => h H1 e1 _ fun x H2 e2 hx => .inr ⟨b, by rw [show x = _ from hx], q _ H2 e2 rfl⟩
theorem dmod {m : Int} (ha : EvD ta σ H (.int i)) (hb : EvD tb σ H (.int m)) (h : m ≠ 0) : EvD (tOp (rI (fun _ j => j ≠ 0) fun i j => .int (i.fmod j)) ta tb) σ H (.int (i.fmod m)) := dI ha hb h fun _ => rfl
theorem dfdiv {m : Int} (ha : EvD ta σ H (.int i)) (hb : EvD tb σ H (.int m)) (h : m ≠ 0) (h2 : m.natAbs < 1073741824) : EvD (tOp (rI CDivN fun i j => .int (i.fdiv j)) ta tb) σ H (.int (i.fdiv m)) := dI ha hb ⟨h, h2⟩ fun _ => rfl
theorem dmul {m : Int} (ha : EvD ta σ H (.int i)) (hb : EvD tb σ H (.int m)) (h : CMul i m) : EvD (tOp (rI CMul fun i j => .int (i * j)) ta tb) σ H (.int (i * m)) := dI ha hb h fun _ => rfl
theorem rset {j : Nat} (hk : σ[k]? = some (some (.ref p))) (hH : H p = some (.lst xs)) (hj : j < xs.length) (h : EvD te σ H d) (q : ∀ v H1, Ex H H1 → Dv H1 d v → tz D σ (upd H1 p (.lst (xs.set j v)))) : tSeq (tAsg te (gSub (tVar k) (tC (.int (j : Int))) L2.rSetL)) tz D σ H :=
  h H (Ex.refl _) _ fun v H1 e1 hv => ⟨_, hk, p, xs, (j : Int), j, rfl, rfl, e1 _ _ hH, ixN_nat hj, q v H1 e1 hv⟩
end
theorem fmod_bd {i m : Int} (h : 0 < m) : 0 ≤ i.fmod m ∧ i.fmod m < m := by
  rw [Int.fmod_eq_emod_of_nonneg i (by omega)]
  exact ⟨Int.emod_nonneg _ (by omega), Int.emod_lt_of_pos _ h⟩
section
variable {P : Program} {w : World} {K : PySem.W.Frag} {mg : Str → Option Value} {base : Heap}
theorem ok_L_roll (T : Txt K mg) : FnOk P w K mg base CX0 1 T.a_L_roll T.d_L_roll ["_law_dice_here", "_law_most"] spRoll := by
  refine T.F_L_roll.ok sc_L_roll (fun vs H Q E h => ?_) (fun cdv A outer s H vs Q E hr h => ?_)
  · obtain ⟨a, m, rfl, _⟩ := h
    rfl
  · obtain ⟨a, m, rfl, ⟨l, s', c, hd⟩, m0, m1, q⟩ := h
    refine ⟨_, (pss_cons (ps_if (pt_cmpR op_gt (pe_ix (k_ixL (K := K) rfl) (pv 0) pe_int (fun _ _ => rfl)) pe_int (nomark _)) (pss_cons (ps_set (i := 2) sc_L_roll.nd rfl (.inl rfl) (pe_op op_modN (pe_callTy call_int1 (by rfl) T.z_int (by decide +kernel) (pa_cons (pe_ix (k_ixL (K := K) rfl) (pv 0) pe_int (fun _ _ => rfl)) pa_nil)) (pv 1)))
      (pss_cons (ps_asg (pe_op op_fdivN (pe_ix (k_ixL (K := K) rfl) (pv 0) pe_int (fun _ _ => rfl)) (pv 1)) (pg_sub (pv 0) pe_int set_list))
      (pss_one (ps_ret (pv 2))))) pss_nil)
      (pss_cons (ps_asg (pe_op op_add (pe_ix (k_ixL (K := K) rfl) (pv 0) pe_int (fun _ _ => rfl)) pe_int) (pg_sub (pv 0) pe_int set_list))
      (pss_cons (ps_set (i := 3) sc_L_roll.nd rfl (.inl rfl) (pe_op op_modN (pe_callTy call_int1 (by rfl) T.z_int (by decide +kernel) (pa_cons (pe_op op_add (pe_ix (k_ixL (K := K) rfl) (pv 0) pe_int (fun _ _ => rfl)) (pe_op op_mul pe_int (pe_ix (k_ixL (K := K) rfl) (pv 0) pe_int (fun _ _ => rfl)))) pa_nil)) pe_int))
      (pss_cons (ps_set (i := 4) sc_L_roll.nd rfl (.inl rfl) (pe_op op_add (pe_op op_mul (pe_op op_modN (pe_callTy call_int1 (by rfl) T.z_int (by decide +kernel) (pa_cons (pe_op op_add (pe_op op_mul (pv 3) (pv 3)) (pe_op op_mul pe_int (pe_ix (k_ixL (K := K) rfl) (pv 0) pe_int (fun _ _ => rfl)))) pa_nil)) pe_int) pe_int) (pv 3)))
      (pss_one (ps_ret (pe_op op_modN (pe_callTy call_int1 (by rfl) T.z_int (by decide +kernel) (pa_cons (pe_op op_fdivN (pv 4) pe_int) pa_nil)) (pv 1)))))))), ?_⟩
    have dv : ∀ {G : Hp} {l s c : Int}, G a = some (.lst [.int l, .int s, .int c]) → Dv G (.lst [.int l, .int s, .int c]) (.ref a) := fun h => dv_lst h (dvl_cons rfl (dvl_cons rfl (dvl_cons rfl dvl_nil)))
    have mne : m ≠ 0 := by omega
    have mab : m.natAbs < 1073741824 := by omega
    refine dS_when (tst (dgt (dixL (dvar rfl (dv hd)) dint (by omega) (by rfl)) dint)) (fun hb H1 e1 => ?_) fun hb H1 e1 => ?_
    · have hd1 := e1 _ _ hd
      refine dq_asg (dmod (dint1 (dixL (dvar rfl (dv hd1)) dint (by omega) (by rfl))) (dvar (d := .int m) rfl rfl) mne) fun v H2 e2 hv => ?_
      have hd2 := e2 _ _ hd1
      refine rset (j := 0) rfl hd2 (by simp) (dfdiv (dixL (dvar rfl (dv hd2)) dint (by omega) (by rfl)) (dvar (d := .int m) rfl rfl) mne mab) fun v2 H3 e3 hv2 => ?_
      refine dS_ret (d := .int (l.fmod m)) (dvar rfl hv) fun u H4 e4 hu => ?_
      rw [show u = _ from hu]
      refine q _ H4 (fmod_bd m0).1 (fmod_bd m0).2 ⟨fun b o hb ho => e4 b o (by rw [upd_ne hb]; exact ((e1.trans e2).trans e3) b o ho), ⟨_, s', c, e4 _ _ (by rw [upd_same, show v2 = _ from hv2]; rfl)⟩⟩
    · have hd1 := e1 _ _ hd
      refine rset (j := 2) rfl hd1 (by simp) (dadd (dixL (dvar rfl (dv hd1)) dint (by omega) (by rfl)) dint) fun v H2 e2 hv => ?_
      rw [show v = _ from hv]
      have hd3 : upd H2 a (.lst [.int l, .int s', .int (c + 1)]) a = some (.lst [.int l, .int s', .int (c + 1)]) := upd_same
      have kp : ∀ b o, b ≠ a → H b = some o → upd H2 a (.lst [.int l, .int s', .int (c + 1)]) b = some o := fun b o hb ho => by
        rw [upd_ne hb]
        exact (e1.trans e2) b o ho
      show tSeq _ _ _ _ (upd H2 a (.lst [.int l, .int s', .int (c + 1)]))
      generalize upd H2 a (.lst [.int l, .int s', .int (c + 1)]) = H3 at *
      refine dq_asg (dmod (dint1 (dadd (dixL (dvar rfl (dv hd3)) dint (by omega) (by rfl)) (dmul dint (dixL (dvar rfl (dv hd3)) dint (by omega) (by rfl)) (.inl (by omega))))) dint (by decide)) fun v3 H4 e4 hv3 => ?_
      have hd4 := e4 _ _ hd3
      have b3 := fmod_bd (i := s' + 86028157 * (c + 1)) (m := 2305843009213693487) (by decide)
      generalize (s' + 86028157 * (c + 1)).fmod 2305843009213693487 = x3 at *
      refine dq_asg (dadd (dmul (dmod (dint1 (dadd (dmul (dvar rfl hv3) (dvar rfl hv3) (.inl (by omega))) (dmul dint (dixL (dvar rfl (dv hd4)) dint (by omega) (by rfl)) (.inl (by omega))))) dint (by decide)) dint (.inr (by omega))) (dvar rfl hv3)) fun v4 H5 e5 hv4 => ?_
      refine dS_ret (dmod (dint1 (dfdiv (dvar rfl hv4) dint (by decide) (by decide))) (dvar (d := .int m) rfl rfl) mne) fun u H6 e6 hu => ?_
      rw [show u = _ from hu]
      have ee := (e4.trans e5).trans e6
      exact q _ H6 (fmod_bd m0).1 (fmod_bd m0).2 ⟨fun b o hb ho => ee b o (kp b o hb ho), ⟨_, _, _, ee _ _ hd3⟩⟩
theorem elen {a p : Addr} {K : PySem.W.Frag} {σ : L2.St} {H : Hp} {xs : List V} {k : Nat} (hk : σ[k]? = some (some (.ref p))) (hp : p ≠ a) (hH : H p = some (.lst xs)) : EvR a (tCB (rLenS K) (tCons (tVar k) tNil)) σ H fun d => d = .int (xs.length : Nat) := fun H1 r1 Q q =>
  ⟨_, hk, p, xs, rfl, .inl (SqL.of (r1.keep _ _ hp hH)), q _ _ H1 (Rl.refl r1.dice) rfl rfl rfl⟩
theorem ok_L_pick (T : Txt K mg) : FnOk P w K mg base CX0 2 T.a_L_pick T.d_L_pick ["_law_dice_here", "_law_items"] spPick := by
  have G_L_roll := ok_L_roll (P := P) (w := w) (base := base) T
  refine T.F_L_pick.ok sc_L_pick (fun vs H Q E h => ?_) (fun cdv A outer s H vs Q E hr h => ?_)
  · obtain ⟨a, p, xs, rfl, _⟩ := h
    rfl
  · obtain ⟨a, p, xs, rfl, hd, hpa, hH, hne, hl, q⟩ := h
    refine ⟨_, (pss_one (ps_ret (pe_ix (k_ixL (K := K) rfl) (pv 1) (pe_call G_L_roll (hr.mono (by omega)) (by rfl) T.g_L_roll T.F_L_roll.kp T.b_L_roll .nil pass0 (pa_cons (pv 0) (pa_cons (pe_callB (k_len (K := K) rfl) (by rfl) T.z_len (by decide +kernel) (pa_cons (pv 1) pa_nil)) pa_nil))) (fun _ _ => rfl)))), ?_⟩
    have hp := List.length_pos_iff.mpr hne
    show tOp _ _ _ _ H _
    refine ⟨_, rfl, eroll (a := a) (m := (xs.length : Nat)) rfl (elen rfl hpa hH) hd (by omega) (by omega) H (Rl.refl hd) _ fun d v H2 r2 ⟨r, hr, h0, h1⟩ _ hv => ?_⟩
    subst hr
    have hi : r.toNat < xs.length := by omega
    exact ⟨p, xs, r, xs[r.toNat], rfl, hv, SqL.of (r2.keep _ _ hpa hH), atI_of h0 (List.getElem?_eq_getElem hi), q _ _ (List.getElem_mem hi) r2⟩
def spMixed : Sp := fun vs H Q _ => ∃ (a p : Addr) (ns : List Int), vs = [.ref a, .ref p] ∧ DiceAt H a ∧ p ≠ a ∧ H p = some (.lst (ns.map V.int)) ∧ ns.length ≤ 1000 ∧ ∀ (q : Addr) (ms : List Int) H', ms.Perm ns → H q = none → Rl a H H' → H' q = some (.lst (ms.map V.int)) → Q (.ref q) H'
theorem seqIx {i : Int} {n : Nat} (h0 : 0 ≤ i) (h1 : i < (n : Int)) : seqIndex? i n = some i.toNat := by
  have h2 : ¬ i < 0 := by omega
  simp [seqIndex?, h2, h0, h1]
theorem erase_map : ∀ (l : List Int) (i : Nat), (l.map V.int).eraseIdx i = (l.eraseIdx i).map V.int
  | [], i => rfl
  | x :: l, 0 => rfl
  | x :: l, i + 1 => by
    rw [List.map_cons, List.eraseIdx_cons_succ, erase_map l i]
    rfl
theorem erase_perm : ∀ (l : List Int) (i : Nat) (h : i < l.length), (l[i] :: l.eraseIdx i).Perm l
  | x :: l, 0, _ => .refl _
  | x :: l, i + 1, h => by
    have hi : i < l.length := by simpa using h
    have := erase_perm l i hi
    exact (List.Perm.swap x l[i] (l.eraseIdx i)).trans (this.cons x)
theorem ok_L_mixed (T : Txt K mg) : FnOk P w K mg base CX0 2 T.a_L_mixed T.d_L_mixed ["_law_dice_here", "_law_items"] spMixed := by
  have G_L_roll := ok_L_roll (P := P) (w := w) (base := base) T
  refine T.F_L_mixed.ok sc_L_mixed (fun vs H Q E h => ?_) (fun cdv A outer s H vs Q E hr h => ?_)
  · obtain ⟨a, p, xs, rfl, _⟩ := h
    rfl
  · obtain ⟨a, p, ns, rfl, hd, hpa, hH, hl, q⟩ := h
    refine ⟨_, (pss_cons (ps_par (i := 2) (j := 3) rfl sc_L_mixed.nd rfl rfl (by decide) rfl rfl (pa_cons (pe_callTy (k_listOf (K := K) rfl) (by rfl) T.z_list (by decide +kernel) (pa_cons (pv 1) pa_nil)) (pa_cons (pe_lst pa_nil) pa_nil)) (by rfl))
      (pss_cons (ps_while PassesOwn.never (pt_cmpR (k_neE (K := K) rfl hr.units0) (pv 2) (pe_lst pa_nil) (nomark _)) (pss_one (ps_expr (pe_bm PySem.F.plainAttrs_list PySem.F.slot_list_append PySem.F.type_list_append mt_append (pv 3) (pa_cons (pe_bm PySem.F.plainAttrs_list PySem.F.slot_list_pop PySem.F.type_list_pop mt_popAt (pv 2) (pa_cons (pe_call G_L_roll (hr.mono (by omega)) (by rfl) T.g_L_roll T.F_L_roll.kp T.b_L_roll .nil pass0 (pa_cons (pv 0) (pa_cons (pe_callB (k_len (K := K) rfl) (by rfl) T.z_len (by decide +kernel) (pa_cons (pv 2) pa_nil)) pa_nil))) pa_nil)) pa_nil)))))
      (pss_one (ps_ret (pv 3))))), ?_⟩
    have dvp : Dv H (.lst (ns.map Dat.int)) (.ref p) := dv_lst hH (dvl_ints.mpr rfl)
    refine mq_par2 Mut.nil (nlistL (dvar rfl dvp)) nnil (plain_ints _) rfl fun l f H1 M1 => ?_
    have M1 : Mut H [(l, ns.map Dat.int), (f, [])] H1 := M1
    have hln : H l = none := (M1.get (i := 0) rfl).new
    have hfn : H f = none := (M1.get (i := 1) rfl).new
    have M2 : MutD a (cutH H [a]) [(l, ns.map Dat.int), (f, [])] H1 := by
      have c0 := ex_cut H [a]
      have ne0 : ∀ {b : Addr}, H b = none → cutH H [a] b = none := fun h => by
        unfold cutH
        split
        · rfl
        · exact h
      refine ⟨⟨c0.trans M1.ex, M1.nd, fun m hm => ?_⟩, hd.up M1.ex, cut_in (by simp), ?_⟩
      · obtain ⟨x, y, z⟩ := M1.ok m hm
        exact ⟨ne0 x, y, z⟩
      · obtain ⟨_, _, _, hda⟩ := hd
        simp only [List.map_cons, List.map_nil, List.mem_cons, List.not_mem_nil, or_false, not_or]
        exact ⟨fun e => (by rw [e, hln] at hda; cases hda), fun e => (by rw [e, hfn] at hda; cases hda)⟩
    refine q_while (fun m σ' H' => ∃ L F : List Int, MutD a (cutH H [a]) [(l, L.map Dat.int), (f, F.map Dat.int)] H' ∧ σ' = [some (.ref a), some (.ref p), some (.ref l), some (.ref f)] ∧ (L ++ F).Perm ns ∧ L.length = m) ns.length ⟨ns, [], M2, rfl, by simp, rfl⟩ ?_
    rintro m σ' H' ⟨L, F, M, rfl, pm, rfl⟩
    have len12 : L.length + F.length ≤ 1000 := by
      have := pm.length_eq
      rw [List.length_append] at this
      omega
    refine ⟨!L.isEmpty, tst ((dempL (neg := true) (dvar rfl (M.mu.dv (i := 0) rfl))).is (by rw [List.isEmpty_map]; rfl)), fun hb G1 x1 => ?_, fun hb G1 x1 => ?_⟩
    · have hL : L ≠ [] := by intro z; rw [z] at hb; cases hb
      have hLp := List.length_pos_iff.mpr hL
      refine ⟨fun σ' H' => ∃ L' F' : List Int, (MutD a (cutH H [a]) [(l, L'.map Dat.int), (f, F'.map Dat.int)] H' ∧ σ' = [some (.ref a), some (.ref p), some (.ref l), some (.ref f)] ∧ (L' ++ F').Perm ns) ∧ L'.length < L.length, fun σ' H' ⟨L', F', h1, h2⟩ => ⟨_, h2, L', F', h1.1, h1.2.1, h1.2.2, rfl⟩, ?_⟩
      have M3 := M.on x1
      obtain ⟨_, _, ys, hf1, lf1⟩ := M3.mu.get (i := 1) rfl
      obtain ⟨_, _, zs, hl1, ll1⟩ := M3.mu.get (i := 0) rfl
      have hla : l ≠ a := fun e => M3.sep (by simp [e])
      have zl := ll1.len
      rw [List.length_map] at zl
      refine ⟨_, rfl, .inl ⟨rfl, ys, SqL.of hf1⟩, _, rfl, .inl ⟨rfl, zs, SqL.of hl1⟩, ?_⟩
      refine eroll (a := a) (m := (zs.length : Nat)) rfl (elen rfl hla hl1) M3.dice (by omega) (by omega) G1 (Rl.refl M3.dice) _ fun d v H2 r2 ⟨r, hr, h0, h1⟩ _ hv => ?_
      subst hr
      have M4 := M3.rl r2
      obtain ⟨_, _, zs2, hl2, ll2⟩ := M4.mu.get (i := 0) rfl
      have ll2 := dvl_ints.mp ll2
      subst ll2
      have hi : r.toNat < L.length := by omega
      refine ⟨l, L.map V.int, r, r.toNat, .int L[r.toNat], rfl, by rw [show v = _ from hv], hl2, by omega, by omega, by rw [List.length_map]; exact seqIx h0 (by omega), by rw [List.getElem?_map, List.getElem?_eq_getElem hi]; rfl, ?_⟩
      have M5 := M4.put (i := 0) (es := (L.eraseIdx r.toNat).map Dat.int) (xs := (L.eraseIdx r.toNat).map V.int) rfl (plain_ints _) (dvl_ints.mpr rfl)
      have er : (L.map V.int).eraseIdx r.toNat = (L.eraseIdx r.toNat).map V.int := erase_map L r.toNat
      rw [er]
      generalize upd H2 l (.lst ((L.eraseIdx r.toNat).map V.int)) = H5 at *
      obtain ⟨_, _, ys5, hf5, lf5⟩ := M5.mu.get (i := 1) rfl
      have lf5 := dvl_ints.mp lf5
      subst lf5
      refine ⟨f, F.map V.int, .int L[r.toNat], rfl, rfl, hf5, by rw [List.length_map, sizeLine_eq]; omega, ?_⟩
      have M6 := M5.put (i := 1) (es := (F ++ [L[r.toNat]]).map Dat.int) (xs := (F ++ [L[r.toNat]]).map V.int) rfl (plain_ints _) (dvl_ints.mpr rfl)
      have ea : F.map V.int ++ [V.int L[r.toNat]] = (F ++ [L[r.toNat]]).map V.int := by rw [List.map_append]; rfl
      rw [ea]
      refine ⟨L.eraseIdx r.toNat, F ++ [L[r.toNat]], ⟨M6, rfl, ?_⟩, ?_⟩
      · refine List.Perm.trans ?_ pm
        have p1 : (L[r.toNat] :: L.eraseIdx r.toNat).Perm L := erase_perm L r.toNat hi
        refine List.perm_iff_count.mpr fun b => ?_
        have := List.perm_iff_count.mp p1 b
        simp only [List.count_append, List.count_cons, List.count_nil] at this ⊢
        omega
      · rw [List.length_eraseIdx_of_lt hi]
        omega
    · have hL : L = [] := by cases L with
        | nil => rfl
        | cons => cases hb
      subst hL
      rw [List.nil_append] at pm
      have M3 := M.on x1
      obtain ⟨_, _, ys, hf1, lf1⟩ := M3.mu.get (i := 1) rfl
      have lf1 := dvl_ints.mp lf1
      subst lf1
      exact ⟨_, rfl, q f F G1 pm hfn M3.out hf1⟩
end

end Kw
namespace Kw
open PySem PySem.Spec PyProof.Rows L2 Evl
/-- rows of a table that is being filled -/
def Tab (w : Nat) (H : Hp) (ps : List Addr) : Prop := ∀ p ∈ ps, ∃ ns : List Int, H p = some (.lst (ns.map V.int)) ∧ ns.length = w ∧ ∀ x ∈ ns, 0 ≤ x ∧ x ≤ 60
structure Rt (a : Addr) (ps : List Addr) (w : Nat) (H H' : Hp) : Prop where
  keep : ∀ b o, b ∉ a :: ps → H b = some o → H' b = some o
  dice : DiceAt H' a
  tab : Tab w H' ps
section
variable {a p : Addr} {ps : List Addr} {w : Nat} {H H1 H2 : Hp}
theorem Rt.refl (hd : DiceAt H a) (ht : Tab w H ps) : Rt a ps w H H := ⟨fun _ _ _ h => h, hd, ht⟩
theorem Rt.trans (x : Rt a ps w H H1) (y : Rt a ps w H1 H2) : Rt a ps w H H2 := ⟨fun b o hb h => y.keep b o hb (x.keep b o hb h), y.dice, y.tab⟩
theorem Rt.rl (hs : a ∉ ps) (x : Rt a ps w H H1) (r : Rl a H1 H2) : Rt a ps w H H2 := ⟨fun b o hb h => r.keep b o (fun e => hb (by rw [e]; exact List.mem_cons_self)) (x.keep b o hb h), r.dice, fun p hp => by
  obtain ⟨ns, h1, h2⟩ := x.tab p hp
  exact ⟨ns, r.keep _ _ (fun e => hs (e ▸ hp)) h1, h2⟩⟩
theorem Rt.on (hs : a ∉ ps) (x : Rt a ps w H H1) (e : Ex H1 H2) : Rt a ps w H H2 := x.rl hs (Rl.of x.dice e)
theorem Rt.set (hs : a ∉ ps) (x : Rt a ps w H H1) (hp : p ∈ ps) {ns : List Int} (hw : ns.length = w) (hb : ∀ x ∈ ns, 0 ≤ x ∧ x ≤ 60) : Rt a ps w H (upd H1 p (.lst (ns.map V.int))) := ⟨fun b o hb h => by
  rw [upd_ne (fun e => hb (by rw [e]; exact List.mem_cons_of_mem _ hp))]
  exact x.keep b o hb h, by
  obtain ⟨l, s, c, h⟩ := x.dice
  exact ⟨l, s, c, by rw [upd_ne (fun e => hs (by rw [e]; exact hp))]; exact h⟩, fun q hq => by
  by_cases e : q = p
  · rw [e]
    exact ⟨ns, upd_same, hw, hb⟩
  · obtain ⟨ms, h1, h2⟩ := x.tab q hq
    exact ⟨ms, by rw [upd_ne e]; exact h1, h2⟩⟩
end
def EvRT (a : Addr) (t : TT) (σ : L2.St) (H : Hp) (R : Bool → Prop) : Prop := ∀ H1, Rl a H H1 → ∀ Q : Bool → Hp → Prop, (∀ b H2, Rl a H1 H2 → R b → Q b H2) → t σ H1 Q
section
variable {K : PySem.W.Frag} {σ : L2.St} {a p : Addr} {H H0 H1 H' : Hp} {te ta tb : TE} {t u : TT} {R S : Bool → Prop} {d : Dat}
theorem rt_of {b : Bool} (h : ∀ H1, Rl a H H1 → EvT t σ H1 b) (hr : R b) : EvRT a t σ H R := fun H1 r Q q => h H1 r H1 (Ex.refl _) _ fun H2 e => q b H2 (Rl.of r.dice e) hr
theorem rt_or (h : EvRT a t σ H S) (k : EvRT a u σ H R) (hs : S true → R true) : EvRT a (tOr t u) σ H R := fun H1 r Q q => h H1 r _ fun b H2 r2 hb => by
  cases b with
  | true => exact q true H2 r2 (hs hb)
  | false => exact k H2 (r.trans r2) Q fun c H3 r3 hc => q c H3 (r2.trans r3) hc
theorem rt_and (h : EvRT a t σ H S) (k : EvRT a u σ H R) (hs : S false → R false) : EvRT a (tAnd t u) σ H R := fun H1 r Q q => h H1 r _ fun b H2 r2 hb => by
  cases b with
  | false => exact q false H2 r2 (hs hb)
  | true => exact k H2 (r.trans r2) Q fun c H3 r3 hc => q c H3 (r2.trans r3) hc
/-- a roll against a number -/
theorem rt_eq {P : Int → Prop} {i : Int} (h : EvR a te σ H fun d => ∃ r, d = .int r ∧ P r) : EvRT a (tTest (tOp rEq te (tC (.int i)))) σ H fun _ => True := fun H1 r Q q => h H1 r _ fun d v H2 r2 ⟨x, hx, _⟩ _ hv => by
  subst hx
  rw [show v = _ from hv]
  exact ⟨rfl, _, rfl, q _ H2 r2 trivial⟩
/-- slices of lists -/
theorem nslL {ds : List Dat} {to th : TO} {lo hi : Option Int} (h : EvD te σ H (.lst ds)) (h1 : EvO to σ H lo) (h2 : EvO th σ H hi) : EvN (L2.tSl (rSlL K) te to th) σ H ((ds.drop (HT.sIx ds.length 0 lo)).take (HT.sIx ds.length ds.length hi - HT.sIx ds.length 0 lo)) := fun H1 e1 Q q =>
  h H1 e1 _ fun x H2 e2 ⟨a, xs, hx, hH, hl⟩ => h1 H2 (e1.trans e2) _ fun H3 e3 => h2 H3 ((e1.trans e2).trans e3) _ fun H4 e4 => by
    have hH4 := (e3.trans e4) _ _ hH
    have hl4 := hl.mono (e3.trans e4)
    refine ⟨a, xs, hx, SqL.of hH4, fun p hp => q p _ _ (fresh_back ((e2.trans e3).trans e4) hp) (((e2.trans e3).trans e4).trans (Ex.new hp)) upd_same ?_⟩
    unfold cutV
    rw [hl.len]
    exact ((hl4.drop _).take _).mono (Ex.new hp)
theorem ntailL {ds : List Dat} {k : Nat} (h : EvD te σ H (.lst ds)) (h1 : EvD tb σ H (.int (k : Int))) : EvN (L2.tSl (rSlL K) te (tPart tb) tNoPart) σ H (ds.drop k) := (nslL h (odI h1) eo_none).is (by
  rw [HT.sIx_nat, HT.sIx_none]
  by_cases hk : k ≤ ds.length
  · rw [Nat.min_eq_left hk, List.take_of_length_le (by rw [List.length_drop]; exact Nat.le_refl _)]
  · rw [Nat.min_eq_right (by omega), List.drop_eq_nil_of_le (Nat.le_refl _), List.drop_eq_nil_of_le (by omega), List.take_nil])
theorem nfrontL {ds : List Dat} {k : Nat} (h : EvD te σ H (.lst ds)) (h1 : EvD tb σ H (.int (k : Int))) : EvN (L2.tSl (rSlL K) te tNoPart (tPart tb)) σ H (ds.take k) := (nslL h eo_none (odI h1)).is (by
  rw [HT.sIx_nat, HT.sIx_none, List.drop_zero, Nat.sub_zero]
  by_cases hk : k ≤ ds.length
  · rw [Nat.min_eq_left hk]
  · rw [Nat.min_eq_right (by omega), List.take_length, List.take_of_length_le (by omega)])
end
theorem s_ref {D : Ends} {tz : TS} {σ : L2.St} {H : Hp} {t : TT} {i j k : Nat} {x y : V} {b : Bool} (h : EvT t σ H b) (hi : σ[i]? = some (some x)) (hj : σ[j]? = some (some y)) (q : ∀ H1, Ex H H1 → tz D (σ.set k (some (if b then x else y))) H1) : tSeq (tAsg (tIf t (tVar i) (tVar j)) (gName k)) tz D σ H :=
  h H (Ex.refl _) _ fun H1 e1 => by
    cases b with
    | true => exact ⟨x, hi, q H1 e1⟩
    | false => exact ⟨y, hj, q H1 e1⟩
theorem ixN_int {n : Nat} {i : Int} (h0 : 0 ≤ i) (h1 : i < (n : Int)) : ixN n i = some i.toNat := by
  have := ixN_nat (n := n) (j := i.toNat) (by omega)
  rwa [show ((i.toNat : Nat) : Int) = i by omega] at this
structure Fil (n : Nat) (H : Hp) (a t r c : Addr) (low high : Int) (ps : List Addr) (w : Nat) (R C : List Int) : Prop where
  dice : DiceAt H a
  tab : Tab w H ps
  sep : a ∉ ps
  ht : H t = some (.lst (ps.map V.ref))
  hr : H r = some (.lst (R.map V.int))
  hc : H c = some (.lst (C.map V.int))
  st : t ∉ a :: ps
  sr : r ∉ a :: ps
  sc : c ∉ a :: ps
  rn : R ≠ []
  cn : C ≠ []
  r12 : R.length ≤ 12
  c12 : C.length ≤ 12
  len : R.length + C.length ≤ n
  rb : ∀ x ∈ R, 0 ≤ x ∧ x < (ps.length : Int)
  cb : ∀ x ∈ C, 0 ≤ x ∧ x < (w : Int)
  lo : 0 ≤ low
  lh : low < high
  hi : high ≤ 61
def spFilled (n : Nat) : Sp := fun vs H Q _ => ∃ (a t r c : Addr) (low high : Int) (ps : List Addr) (w : Nat) (R C : List Int), vs = [.ref a, .ref t, .ref r, .ref c, .int low, .int high] ∧ Fil n H a t r c low high ps w R C ∧ ∀ H', Rt a ps w H H' → Q .non H'
section
variable {P : Program} {w : World} {K : PySem.W.Frag} {mg : Str → Option Value} {base : Heap}
theorem ok_L_lk_filled (T : Txt K mg) : ∀ n, FnOk P w K mg base CX0 (3 + n) T.a_L_lk_filled T.d_L_lk_filled ["_law_dice_here", "_law_table", "_law_rows", "_law_columns", "_law_low", "_law_high"] (spFilled n)
  | 0 => by
    refine T.F_L_lk_filled.ok sc_L_lk_filled (fun vs H Q E h => ?_) (fun cdv A outer s H vs Q E hr h => ?_)
    · obtain ⟨a, t, r, c, low, high, ps, wd, R, C, rfl, _⟩ := h
      rfl
    · obtain ⟨a, t, r, c, low, high, ps, wd, R, C, rfl, F, _⟩ := h
      have := List.length_pos_iff.mpr F.rn
      have := F.len
      omega
  | n + 1 => by
    have G_L_lk_filled := ok_L_lk_filled T n
    have G_L_roll := ok_L_roll (P := P) (w := w) (base := base) T
    have G_L_mixed := ok_L_mixed (P := P) (w := w) (base := base) T
    refine T.F_L_lk_filled.ok sc_L_lk_filled (fun vs H Q E h => ?_) (fun cdv A outer s H vs Q E hr h => ?_)
    · obtain ⟨a, t, r, c, low, high, ps, wd, R, C, rfl, _⟩ := h
      rfl
    · obtain ⟨a, t, r, c, low, high, ps, wd, R, C, rfl, F, q⟩ := h
      replace hr : Room (3 + n) _ := hr
      refine ⟨_, (pss_cons (ps_set (i := 6) sc_L_lk_filled.nd rfl (.inl rfl) (pe_call G_L_roll (hr.mono (by omega)) (by rfl) T.g_L_roll T.F_L_roll.kp T.b_L_roll .nil pass0 (pa_cons (pv 0) (pa_cons pe_int pa_nil))))
      (pss_cons (ps_set (i := 7) sc_L_lk_filled.nd rfl (.inl rfl) (pe_ifExp (PW.pt (pw_or (pt_cmpR op_lt (pv 6) pe_int (nomark _)) (pw_or1 (PW.pt (pw_and (pt_cmpR op_eq (pv 6) pe_int (nomark _)) (pw_and1 (pt_cmpR op_gt (pe_callB (k_len (K := K) rfl) (by rfl) T.z_len (by decide +kernel) (pa_cons (pv 2) pa_nil)) pe_int (nomark _)))))))) (pv 2) (pv 3)))
      (pss_cons (ps_if (PW.pt (pw_or (PW.pt (pw_and (pt_cmpR op_eq (pv 6) pe_int (nomark _)) (pw_and1 (pt_cmpR op_eq (pe_call G_L_roll (hr.mono (by omega)) (by rfl) T.g_L_roll T.F_L_roll.kp T.b_L_roll .nil pass0 (pa_cons (pv 0) (pa_cons pe_int pa_nil))) pe_int (nomark _))))) (pw_or (pt_cmpR op_lt (pe_op op_sub (pv 5) (pv 4)) pe_int (nomark _)) (pw_or1 (pt_cmpR op_lt (pe_callB (k_len (K := K) rfl) (by rfl) T.z_len (by decide +kernel) (pa_cons (pv 7) pa_nil)) pe_int (nomark _)))))) (pss_cons (ps_set (i := 8) sc_L_lk_filled.nd rfl (.inl rfl) (pe_op op_add (pv 4) (pe_call G_L_roll (hr.mono (by omega)) (by rfl) T.g_L_roll T.F_L_roll.kp T.b_L_roll .nil pass0 (pa_cons (pv 0) (pa_cons (pe_op op_sub (pv 5) (pv 4)) pa_nil)))))
      (pss_cons (ps_for PassesOwn.never rfl (k_list (K := K) rfl (pv 2)) (pg_name (i := 9) sc_L_lk_filled.nd rfl (.inl rfl)) (pss_one (ps_for PassesOwn.never rfl (k_list (K := K) rfl (pv 3)) (pg_name (i := 10) sc_L_lk_filled.nd rfl (.inl rfl)) (pss_one (ps_asg (pv 8) (pg_sub (pe_ix (k_ixL (K := K) rfl) (pv 1) (pv 9) (fun _ _ => rfl)) (pv 10) set_list))))))
      (pss_one ps_retN))) pss_nil)
      (pss_cons (ps_set (i := 11) sc_L_lk_filled.nd rfl (.inl rfl) (pe_call G_L_mixed (hr.mono (by omega)) (by rfl) T.g_L_mixed T.F_L_mixed.kp T.b_L_mixed .nil pass0 (pa_cons (pv 0) (pa_cons (pe_callTy (k_listOf (K := K) rfl) (by rfl) T.z_list (by decide +kernel) (pa_cons (pv 7) pa_nil)) pa_nil))))
      (pss_cons (ps_par (i := 12) (j := 13) rfl sc_L_lk_filled.nd rfl rfl (by decide) rfl rfl (pa_cons (pe_op op_add pe_int (pe_call G_L_roll (hr.mono (by omega)) (by rfl) T.g_L_roll T.F_L_roll.kp T.b_L_roll .nil pass0 (pa_cons (pv 0) (pa_cons (pe_op op_sub (pe_callB (k_len (K := K) rfl) (by rfl) T.z_len (by decide +kernel) (pa_cons (pv 11) pa_nil)) pe_int) pa_nil)))) (pa_cons (pe_op op_add (pv 4) (pe_op op_fdivN (pe_op op_sub (pv 5) (pv 4)) pe_int)) pa_nil)) (by rfl))
      (pss_cons (ps_par (i := 14) (j := 15) rfl sc_L_lk_filled.nd rfl rfl (by decide) rfl rfl (pa_cons (pe_callB (k_sorted (K := K) rfl) (by rfl) T.z_sorted (by decide +kernel) (pa_cons (pe_slice (k_slL (K := K) rfl) (pv 11) po_none (po_some (pv 12))) pa_nil)) (pa_cons (pe_callB (k_sorted (K := K) rfl) (by rfl) T.z_sorted (by decide +kernel) (pa_cons (pe_slice (k_slL (K := K) rfl) (pv 11) (po_some (pv 12)) po_none) pa_nil)) pa_nil)) (by rfl))
      (pss_one (ps_if (pt_cmpR (op_eqD hr.units) (pv 7) (pv 2) (nomark _)) (pss_cons (ps_expr (pe_call G_L_lk_filled (hr.mono (by omega)) (by rfl) T.g_L_lk_filled T.F_L_lk_filled.kp T.b_L_lk_filled .nil pass0 (pa_cons (pv 0) (pa_cons (pv 1) (pa_cons (pv 14) (pa_cons (pv 3) (pa_cons (pv 4) (pa_cons (pv 13) pa_nil))))))))
      (pss_one (ps_expr (pe_call G_L_lk_filled (hr.mono (by omega)) (by rfl) T.g_L_lk_filled T.F_L_lk_filled.kp T.b_L_lk_filled .nil pass0 (pa_cons (pv 0) (pa_cons (pv 1) (pa_cons (pv 15) (pa_cons (pv 3) (pa_cons (pv 13) (pa_cons (pv 5) pa_nil)))))))))) (pss_cons (ps_expr (pe_call G_L_lk_filled (hr.mono (by omega)) (by rfl) T.g_L_lk_filled T.F_L_lk_filled.kp T.b_L_lk_filled .nil pass0 (pa_cons (pv 0) (pa_cons (pv 1) (pa_cons (pv 2) (pa_cons (pv 14) (pa_cons (pv 4) (pa_cons (pv 13) pa_nil))))))))
      (pss_one (ps_expr (pe_call G_L_lk_filled (hr.mono (by omega)) (by rfl) T.g_L_lk_filled T.F_L_lk_filled.kp T.b_L_lk_filled .nil pass0 (pa_cons (pv 0) (pa_cons (pv 1) (pa_cons (pv 2) (pa_cons (pv 15) (pa_cons (pv 13) (pa_cons (pv 5) pa_nil)))))))))))))))))), ?_⟩
      have hra : r ≠ a := fun e => F.sr (by rw [e]; exact List.mem_cons_self)
      have hca : c ≠ a := fun e => F.sc (by rw [e]; exact List.mem_cons_self)
      have lh := F.lh
      have lo := F.lo
      have hi := F.hi
      have r12 := F.r12
      have c12 := F.c12
      have rlen := F.len
      have RT0 : Rt a ps wd H H := Rt.refl F.dice F.tab
      refine eq_asg F.dice (eroll (a := a) (m := 5) rfl (EvR.of (d := .int 5) (fun _ _ => dint) rfl rfl) F.dice (by decide) (by decide)) fun d v H1 q1 ⟨r1, hd1, p0, p1⟩ _ hv => ?_
      subst hd1
      rw [show v = _ from hv]
      have RT1 := RT0.rl F.sep q1
      have hr1 : H1 r = some (.lst (R.map V.int)) := q1.keep _ _ hra F.hr
      have hc1 : H1 c = some (.lst (C.map V.int)) := q1.keep _ _ hca F.hc
      have dR : Dv H1 (.lst (R.map Dat.int)) (.ref r) := dv_lst hr1 (dvl_ints.mpr rfl)
      have dC : Dv H1 (.lst (C.map Dat.int)) (.ref c) := dv_lst hc1 (dvl_ints.mpr rfl)
      refine s_ref (et_or (tst (dlt (dvar (d := .int r1) rfl rfl) dint)) fun _ => et_and (tst (deqI (dvar (d := .int r1) rfl rfl) dint)) fun _ => tst (dgt (dlenL (dvar rfl dR)) dint)) rfl rfl fun H2 e2 => ?_
      obtain ⟨q0, L, hq0, hq⟩ : ∃ q0 L, (if (decide (r1 < 2) || decide (r1 = 4) && decide (1 < ((R.map Dat.int).length : Int))) = true then V.ref r else V.ref c) = .ref q0 ∧ ((q0 = r ∧ L = R) ∨ (q0 = c ∧ L = C)) := by
        by_cases hz : (decide (r1 < 2) || decide (r1 = 4) && decide (1 < ((R.map Dat.int).length : Int))) = true
        · exact ⟨r, R, by rw [if_pos hz], .inl ⟨rfl, rfl⟩⟩
        · exact ⟨c, C, by rw [if_neg hz], .inr ⟨rfl, rfl⟩⟩
      rw [hq0]
      have RT2 := RT1.on F.sep e2
      have hqa : q0 ≠ a := by rcases hq with ⟨h, _⟩ | ⟨h, _⟩ <;> rw [h] <;> assumption
      have hq2 : H2 q0 = some (.lst (L.map V.int)) := by
        rcases hq with ⟨h, h'⟩ | ⟨h, h'⟩ <;> rw [h, h']
        · exact e2 _ _ hr1
        · exact e2 _ _ hc1
      have l12 : L.length ≤ 12 := by rcases hq with ⟨_, h⟩ | ⟨_, h⟩ <;> rw [h] <;> assumption
      have dLg : ∀ G, Rl a H2 G → Dv G (.lst (L.map Dat.int)) (.ref q0) := fun G g => dv_lst (g.keep _ _ hqa hq2) (dvl_ints.mpr rfl)
      have cond : EvRT a (tOr (tAnd (tTest (tOp rEq (tVar 6) (tC (.int 2)))) (tTest (tOp rEq (tCall spRoll [] E0 (tCons (tVar 0) (tCons (tC (.int 2)) tNil))) (tC (.int 0))))) (tOr (tTest (tOp (rI0 fun i j => .bl (decide (i < j))) (tOp (rI0 fun i j => .int (i - j)) (tVar 5) (tVar 4)) (tC (.int 2)))) (tTest (tOp (rI0 fun i j => .bl (decide (i < j))) (tCB (rLenS K) (tCons (tVar 7) tNil)) (tC (.int 2)))))) [some (.ref a), some (.ref t), some (.ref r), some (.ref c), some (.int low), some (.int high), some (.int r1), some (.ref q0), none, none, none, none, none, none, none, none] H2 (fun b => b = false → 2 ≤ high - low ∧ 2 ≤ L.length) := by
        refine rt_or (S := fun _ => True) (rt_and (S := fun _ => True) (rt_of (fun G g => tst (deqI (dvar (d := .int r1) rfl rfl) dint)) trivial) (rt_eq (eroll (a := a) (m := 2) rfl (EvR.of (d := .int 2) (fun _ _ => dint) rfl rfl) RT2.dice (by decide) (by decide))) fun _ => trivial) ?_ fun _ z => by cases z
        refine rt_of (b := decide (high - low < 2) || decide (((L.map Dat.int).length : Int) < 2)) (fun G g => et_or (tst (dlt (dsub (dvar (d := .int high) rfl rfl) (dvar (d := .int low) rfl rfl)) dint)) fun _ => tst (dlt (dlenL (dvar rfl (dLg G g))) dint)) fun hb => ?_
        rw [Bool.or_eq_false_iff, decide_eq_false_iff_not, decide_eq_false_iff_not, List.length_map] at hb
        omega
      refine cond H2 (Rl.refl RT2.dice) _ fun b H3 q3 hb => ?_
      have RT3 := RT2.rl F.sep q3
      cases b with
      | true =>
        rw [if_pos rfl]
        refine eq_asg (a := a) (R := fun d => ∃ z, d = .int z ∧ 0 ≤ z ∧ z ≤ 60) RT3.dice ((eI0 (f := fun i j => .int (i + j)) (eivar (P := fun i => i = low) rfl rfl) (eroll (a := a) (m := high - low) rfl (EvR.of (d := .int (high - low)) (fun _ _ => dsub (dvar (d := .int high) rfl rfl) (dvar (d := .int low) rfl rfl)) rfl rfl) RT3.dice (by omega) (by omega)) (fun _ _ => rfl) (fun _ _ _ => rfl)).imp ?_) fun d v H4 q4 ⟨z, hz, z0, z1⟩ _ hv => ?_
        · rintro d ⟨i, j, rfl, rfl, h0, h1⟩
          exact ⟨_, rfl, by omega, by omega⟩
        subst hz
        rw [show v = _ from hv]
        have RT4 := RT3.rl F.sep q4
        refine q_forLn (xs := R.map V.int) (ev_var rfl) (SqL.of (RT4.keep _ _ F.sr F.hr)) (fun i σ' H' => Rt a ps wd H H' ∧ ∃ o9 o10, σ' = [some (.ref a), some (.ref t), some (.ref r), some (.ref c), some (.int low), some (.int high), some (.int r1), some (.ref q0), some (.int z), o9, o10, none, none, none, none, none]) (fun H5 e5 => ⟨RT4.on F.sep e5, _, _, rfl⟩) (fun i σ' H' _ h => SqL.of (h.1.keep _ _ F.sr F.hr)) ?_ ?_
        · rintro i x σ' H5 hx ⟨RT5, o9, o10, rfl⟩
          rw [List.getElem?_map] at hx
          obtain ⟨row, hrow, rfl⟩ := Option.map_eq_some_iff.mp hx
          have rbd := F.rb row (List.mem_of_getElem? hrow)
          refine s_forLn (xs := C.map V.int) (ev_var rfl) (SqL.of (RT5.keep _ _ F.sc F.hc)) (fun i σ' H' => Rt a ps wd H H' ∧ ∃ o10, σ' = [some (.ref a), some (.ref t), some (.ref r), some (.ref c), some (.int low), some (.int high), some (.int r1), some (.ref q0), some (.int z), some (.int row), o10, none, none, none, none, none]) (fun H6 e6 => ⟨RT5.on F.sep e6, _, rfl⟩) (fun i σ' H' _ h => SqL.of (h.1.keep _ _ F.sc F.hc)) ?_ fun σ' H6 ⟨RT6, o10, hσ⟩ => ⟨RT6, _, _, hσ⟩
          rintro j y σ' H6 hy ⟨RT6, o10, rfl⟩
          rw [List.getElem?_map] at hy
          obtain ⟨col, hcol, rfl⟩ := Option.map_eq_some_iff.mp hy
          have cbd := F.cb col (List.mem_of_getElem? hcol)
          have hlt : row.toNat < ps.length := by omega
          have hpm : ps[row.toNat] ∈ ps := List.getElem_mem hlt
          obtain ⟨ns, hns, hnw, hnb⟩ := RT6.tab _ hpm
          refine ⟨_, rfl, ⟨_, rfl, _, rfl, t, ps.map V.ref, row, .ref ps[row.toNat], rfl, rfl, SqL.of (RT6.keep _ _ F.st F.ht), atI_of rbd.1 (by rw [List.getElem?_map, List.getElem?_eq_getElem hlt]; rfl), _, rfl, ps[row.toNat], ns.map V.int, col, col.toNat, rfl, rfl, hns, ixN_int cbd.1 (by rw [List.length_map]; omega), ?_⟩⟩
          have es : (ns.map V.int).set col.toNat (.int z) = (ns.set col.toNat z).map V.int := by rw [List.map_set]
          rw [es]
          refine ⟨RT6.set F.sep hpm (by rw [List.length_set]; exact hnw) fun x hx => ?_, _, rfl⟩
          rcases List.mem_or_eq_of_mem_set hx with hx | hx
          · exact hnb x hx
          · rw [hx]; exact ⟨z0, z1⟩
        · rintro σ' H5 ⟨RT5, o9, o10, rfl⟩
          exact q H5 RT5
      | false =>
        obtain ⟨hd2, hl2⟩ := hb rfl
        have hq3 := q3.keep _ _ hqa hq2
        rw [if_neg Bool.false_ne_true]
        refine ⟨_, rfl, ⟨_, rfl, q0, L.map V.int, rfl, .inl (SqL.of hq3), fun p hp => ?_⟩⟩
        have hpa : p ≠ a := fun e => by
          obtain ⟨l, s', c', hda⟩ := RT3.dice
          rw [← e, hp] at hda
          cases hda
        refine ⟨a, p, L, rfl, RT3.dice.up (Ex.new hp), hpa, upd_same, by omega, fun qm ms H4 pm hqm q4 hm4 => ?_⟩
        have RT4 := (RT3.on F.sep (Ex.new hp)).rl F.sep q4
        have mlen : ms.length = L.length := pm.length_eq
        have hqma : qm ≠ a := fun e => by
          obtain ⟨l, s', c', hda⟩ := RT3.dice.up (Ex.new (o := .lst (L.map V.int)) hp)
          rw [← e, hqm] at hda
          cases hda
        have dM : ∀ G, Rl a H4 G → Dv G (.lst (ms.map Dat.int)) (.ref qm) := fun G g => dv_lst (g.keep _ _ hqma hm4) (dvl_ints.mpr rfl)
        refine eq_par (a := a) (R := fun d => ∃ z, d = .int z ∧ 1 ≤ z ∧ z < (ms.length : Int)) (S := fun d => ∃ z, d = .int z ∧ low < z ∧ z < high) RT4.dice ((eI0 (f := fun i j => .int (i + j)) (eint RT4.dice) (eroll (a := a) (m := (ms.length : Int) - 1) rfl (EvR.of (d := .int ((ms.length : Int) - 1)) (fun G g => (dsub (dlenL (dvar rfl (dM G g))) dint).is (by rw [List.length_map])) rfl rfl) RT4.dice (by omega) (by omega)) (fun _ _ => rfl) (fun _ _ _ => rfl)).imp ?_) (EvR.of (d := .int (low + (high - low).fdiv 2)) (fun G g => dadd (dvar (d := .int low) rfl rfl) (dfdiv (dsub (dvar (d := .int high) rfl rfl) (dvar (d := .int low) rfl rfl)) dint (by decide) (by decide))) rfl ⟨_, rfl, ?_⟩) fun d e v u H5 q5 ⟨cut, hc0, cu0, cu1⟩ ⟨mid, hm0, mi0, mi1⟩ hv hu => ?_
        · rintro d ⟨i, j, rfl, rfl, h0, h1⟩
          exact ⟨_, rfl, by omega, by omega⟩
        · rw [Int.fdiv_eq_ediv_of_nonneg _ (by omega)]
          omega
        subst hc0 hm0
        rw [show v = _ from hv, show u = _ from hu]
        have RT5 := RT4.rl F.sep q5
        have dM5 := dM H5 q5
        obtain ⟨k, rfl⟩ : ∃ k : Nat, cut = (k : Int) := ⟨cut.toNat, by omega⟩
        refine mq_par2 (H0 := H5) Mut.nil (d1 := (srt (ms.take k)).map Dat.int) (d2 := (srt (ms.drop k)).map Dat.int) (nsorted ((nfrontL (dvar rfl dM5) (dvar (d := .int (k : Int)) rfl rfl)).is (by rw [List.map_take])).toD (srt_perm _) (srt_le _)) (nsorted ((ntailL (dvar rfl dM5) (dvar (d := .int (k : Int)) rfl rfl)).is (by rw [List.map_drop])).toD (srt_perm _) (srt_le _)) (plain_ints _) (plain_ints _) fun x1 x2 H6 M6 => ?_
        have M6 : Mut H5 [(x1, (srt (ms.take k)).map Dat.int), (x2, (srt (ms.drop k)).map Dat.int)] H6 := M6
        have RT6 := RT5.on F.sep M6.ex
        have know : ∀ b, b ∈ a :: ps → H5 b ≠ none := fun b hb => by
          rcases List.mem_cons.mp hb with rfl | hb
          · obtain ⟨l, s', c', hda⟩ := RT5.dice
            rw [hda]; simp
          · obtain ⟨ns, hns, _⟩ := RT5.tab b hb
            rw [hns]; simp
        have s1 : x1 ∉ a :: ps := fun hb => know _ hb (M6.get (i := 0) rfl).new
        have s2 : x2 ∉ a :: ps := fun hb => know _ hb (M6.get (i := 1) rfl).new
        obtain ⟨ys1, hy1, hl1⟩ := (M6.get (i := 0) rfl).at_
        obtain ⟨ys2, hy2, hl2'⟩ := (M6.get (i := 1) rfl).at_
        have hl1 := dvl_ints.mp hl1
        have hl2' := dvl_ints.mp hl2'
        subst hl1 hl2'
        have sl1 : (srt (ms.take k)).length = k := by rw [(srt_perm _).length_eq, List.length_take]; omega
        have sl2 : (srt (ms.drop k)).length = ms.length - k := by rw [(srt_perm _).length_eq, List.length_drop]
        have sb1 : ∀ x ∈ srt (ms.take k), x ∈ L := fun x hx => pm.subset (List.mem_of_mem_take ((srt_perm _).subset hx))
        have sb2 : ∀ x ∈ srt (ms.drop k), x ∈ L := fun x hx => pm.subset (List.mem_of_mem_drop ((srt_perm _).subset hx))
        generalize hO1 : srt (ms.take k) = O1 at *
        generalize hO2 : srt (ms.drop k) = O2 at *
        have O1n : O1 ≠ [] := by intro z; rw [z] at sl1; simp at sl1; omega
        have O2n : O2 ≠ [] := by intro z; rw [z] at sl2; simp at sl2; omega
        have hq6 : H6 q0 = some (.lst (L.map V.int)) := M6.ex _ _ (q5.keep _ _ hqa (q4.keep _ _ hqa ((Ex.new hp) _ _ hq3)))
        have dL6 : Dv H6 (.lst (L.map Dat.int)) (.ref q0) := dv_lst hq6 (dvl_ints.mpr rfl)
        have dR6 : Dv H6 (.lst (R.map Dat.int)) (.ref r) := dv_lst (RT6.keep _ _ F.sr F.hr) (dvl_ints.mpr rfl)
        refine s_if (tst (deqLI (dvar rfl dL6) (dvar rfl dR6))) (fun hb7 H7 e7 => ?_) fun hb7 H7 e7 => ?_
        · have hLR : L = R := of_decide_eq_true hb7
          subst hLR
          have RT7 := RT6.on F.sep e7
          refine ⟨_, rfl, _, rfl, _, rfl, _, rfl, _, rfl, _, rfl, a, t, x1, c, low, mid, ps, wd, O1, C, rfl, ⟨RT7.dice, RT7.tab, F.sep, RT7.keep _ _ F.st F.ht, e7 _ _ hy1, RT7.keep _ _ F.sc F.hc, F.st, s1, F.sc, O1n, F.cn, by omega, c12, by omega, fun x hx => F.rb x (sb1 x hx), F.cb, lo, mi0, by omega⟩, fun H8 RT8 => ?_⟩
          have RT78 := RT7.trans RT8
          refine ⟨_, rfl, _, rfl, _, rfl, _, rfl, _, rfl, _, rfl, a, t, x2, c, mid, high, ps, wd, O2, C, rfl, ⟨RT78.dice, RT78.tab, F.sep, RT78.keep _ _ F.st F.ht, RT8.keep _ _ s2 (e7 _ _ hy2), RT78.keep _ _ F.sc F.hc, F.st, s2, F.sc, O2n, F.cn, by omega, c12, by omega, fun x hx => F.rb x (sb2 x hx), F.cb, by omega, mi1, hi⟩, fun H9 RT9 => ?_⟩
          exact q H9 (RT78.trans RT9)
        · have hLC : L = C := by
            rcases hq with ⟨_, h⟩ | ⟨_, h⟩
            · rw [h] at hb7
              simp at hb7
            · exact h
          subst hLC
          have RT7 := RT6.on F.sep e7
          refine ⟨_, rfl, _, rfl, _, rfl, _, rfl, _, rfl, _, rfl, a, t, r, x1, low, mid, ps, wd, R, O1, rfl, ⟨RT7.dice, RT7.tab, F.sep, RT7.keep _ _ F.st F.ht, RT7.keep _ _ F.sr F.hr, e7 _ _ hy1, F.st, F.sr, s1, F.rn, O1n, r12, by omega, by omega, F.rb, fun x hx => F.cb x (sb1 x hx), lo, mi0, by omega⟩, fun H8 RT8 => ?_⟩
          have RT78 := RT7.trans RT8
          refine ⟨_, rfl, _, rfl, _, rfl, _, rfl, _, rfl, _, rfl, a, t, r, x2, mid, high, ps, wd, R, O2, rfl, ⟨RT78.dice, RT78.tab, F.sep, RT78.keep _ _ F.st F.ht, RT78.keep _ _ F.sr F.hr, RT8.keep _ _ s2 (e7 _ _ hy2), F.st, F.sr, s2, F.rn, O2n, r12, by omega, by omega, F.rb, fun x hx => F.cb x (sb2 x hx), by omega, mi1, hi⟩, fun H9 RT9 => ?_⟩
          exact q H9 (RT78.trans RT9)
end

end Kw
namespace Kw
open PySem PySem.Spec PyProof.Rows L2 Evl
section
variable {K : PySem.W.Frag} {σ : L2.St} {a p : Addr} {H H0 H1 H' : Hp} {te ta tb t1 t2 t3 : TE} {aa : TA} {R R1 R2 R3 : Dat → Prop} {d : Dat} {ds : List Dat} {D : Ends} {tz : TS} {k j : Nat}
theorem dvl_mem {H : Hp} : ∀ {ds : List Dat} {xs : List V} {x : V}, DvL H ds xs → x ∈ xs → ∃ d ∈ ds, Dv H d x
  | [], xs, x, h, hx => by rw [show xs = [] from h] at hx; exact absurd hx List.not_mem_nil
  | d :: ds, xs, x, ⟨y, r, h1, h2, h3⟩, hx => by
    rw [h1] at hx
    rcases List.mem_cons.mp hx with rfl | hx
    · exact ⟨d, List.mem_cons_self, h2⟩
    · obtain ⟨e, he, hd⟩ := dvl_mem h3 hx
      exact ⟨e, List.mem_cons_of_mem _ he, hd⟩
theorem epick {E : XK} (h0 : σ[k]? = some (some (.ref a))) (h : ∀ G, Rl a H G → EvAD aa σ G ds) (hn : ds ≠ []) (hl : ds.length ≤ 1000) (hp : plainL ds = true) : EvR a (tCall spPick [] E (tCons (tVar k) (tCons (tLst aa) tNil))) σ H fun d => d ∈ ds := fun H1 r1 Q q =>
  ⟨_, h0, h H1 r1 H1 (Ex.refl _) _ fun xs H2 e2 hx => ⟨by rw [hx.len]; exact Nat.le_of_lt (small1000 hl), fun p hpn => by
    have dd := r1.dice.up e2
    have hpa : p ≠ a := fun e => by
      obtain ⟨l, s, c, hda⟩ := dd
      rw [← e, hpn] at hda
      cases hda
    refine ⟨a, p, xs, rfl, dd.up (Ex.new hpn), hpa, upd_same, ?_, by rw [hx.len]; exact hl, fun x H' hm r2 => ?_⟩
    · intro e
      have := hx.len
      rw [e] at this
      exact hn (List.length_eq_zero_iff.mp this.symm)
    · obtain ⟨d, hd, hdv⟩ := dvl_mem hx hm
      have pd := plainL_all.mp hp d hd
      have dd2 := dd.up (Ex.new (o := .lst xs) hpn)
      exact q d x H' ((Rl.of r1.dice (e2.trans (Ex.new hpn))).trans r2) hd pd (Dv.evo (r2.evo dd2) d pd (hdv.mono (Ex.new hpn)))⟩⟩
/-- three ints into three names -/
theorem eq_tri {i1 i2 i3 : Nat} {P1 P2 P3 : Int → Prop} (hd : DiceAt H a) (h1 : EvR a t1 σ H fun d => ∃ i, d = .int i ∧ P1 i) (h2 : EvR a t2 σ H fun d => ∃ i, d = .int i ∧ P2 i) (h3 : EvR a t3 σ H fun d => ∃ i, d = .int i ∧ P3 i)
    (q : ∀ x y z H1, Rl a H H1 → P1 x → P2 y → P3 z → tz D (((σ.set i1 (some (.int x))).set i2 (some (.int y))).set i3 (some (.int z))) H1) : tSeq (tAsg (tTup (tCons t1 (tCons t2 (tCons t3 tNil)))) (gTup K 3 (gCons (gName i1) (gCons (gName i2) (gCons (gName i3) gNil))))) tz D σ H :=
  h1 H (Rl.refl hd) _ fun d1 v1 H1 r1 ⟨x, hx, p1⟩ _ hv1 => h2 H1 r1 _ fun d2 v2 H2 r2 ⟨y, hy, p2⟩ _ hv2 => h3 H2 (r1.trans r2) _ fun d3 v3 H3 r3 ⟨z, hz, p3⟩ _ hv3 => by
    subst hx hy hz
    rw [show v1 = _ from hv1, show v2 = _ from hv2, show v3 = _ from hv3]
    have rr := (r1.trans r2).trans r3
    exact ⟨by show 3 ≤ sizeLine; rw [sizeLine_eq]; omega, fun p hp => ⟨p, _, rfl, SqT.of upd_same, rfl, _, _, rfl, _, _, rfl, _, _, rfl, rfl, q x y z _ (rr.trans (Rl.of rr.dice (Ex.new hp))) p1 p2 p3⟩⟩
/-- tuple([.. for _ in range(n)]), the dice moving -/
theorem etupR {n : Nat} {vs : List Nat} (hk : σ[k]? = some (some (.int (n : Int)))) (hn : n ≤ 1000) (hd : DiceAt H a) (hw : ∀ x, wipe ((wipe σ vs).set j (some x)) vs = wipe σ vs)
    (he : ∀ x G, Rl a H G → EvR a te ((wipe σ vs).set j (some x)) G R) : EvR a (tCB (rTupOf K) (tCons (tLc (iRng1 (tCons (tVar k) tNil)) (gName j) tYes te vs) tNil)) σ H fun d => ∃ ds, d = .tup ds ∧ ds.length = n ∧ ∀ x ∈ ds, R x := fun H1 r1 Q q =>
  ⟨_, hk, (n : Int), rfl, by omega, by omega, fun A hA => by
    rw [show ((n : Int)).toNat = n by omega]
    have hAa : A ≠ a := fun e => by
      obtain ⟨l, s, c, hda⟩ := r1.dice
      rw [← e, hA] at hda
      cases hda
    refine ⟨fun i m H' => m = n - i ∧ i ≤ n ∧ Rl a H1 H' ∧ ∃ zs ds, H' A = some (.lst zs) ∧ DvL H' ds zs ∧ ds.length = i ∧ plainL ds = true ∧ ∀ d ∈ ds, R d, ⟨n, by simp, Nat.zero_le _, Rl.of r1.dice (Ex.new hA), [], [], upd_same, dvl_nil, rfl, rfl, fun d hd => absurd hd List.not_mem_nil⟩, ?_⟩
    rintro i m H' ⟨rfl, hi, rl, zs, ds, hA', hl, hlen, hpl, hR⟩
    by_cases hlt : i < n
    · refine .inr ⟨hlt, fun H'' => i + 1 ≤ n ∧ Rl a H1 H'' ∧ ∃ zs ds, H'' A = some (.lst zs) ∧ DvL H'' ds zs ∧ ds.length = i + 1 ∧ plainL ds = true ∧ ∀ d ∈ ds, R d, fun H'' hn' => ⟨n - (i + 1), by omega, rfl, hn'⟩, fun x H'' hy => ?_⟩
      obtain ⟨ex, hx⟩ := hy
      subst ex
      refine ⟨hw x, ?_⟩
      show te ((wipe σ vs).set j (some x)) _ _
      refine he x _ (r1.trans rl) _ (Rl.refl rl.dice) _ fun d v H4 r4 hd4 p4 hv4 => ?_
      have hA4 := r4.keep _ _ hAa hA'
      have ev : Evo H4 (upd H4 A (.lst (zs ++ [v]))) := Evo.upd hA4
      refine ⟨zs, hA4, by rw [hl.len, sizeLine_eq]; omega, hlt, ⟨fun b o hb ho => ?_, ?_⟩, zs ++ [v], ds ++ [d], upd_same, ?_, by simp [hlen], ?_, ?_⟩
      · rw [upd_ne (ne_of_none ho hA)]
        exact (rl.trans r4).keep b o hb ho
      · obtain ⟨l, s, c, hda⟩ := r4.dice
        exact ⟨l, s, c, by rw [upd_ne (fun e => hAa e.symm)]; exact hda⟩
      · exact DvL.append (DvL.evo ev _ hpl (DvL.evo (r4.evo rl.dice) _ hpl hl)) (dvl_cons (Dv.evo ev _ p4 hv4) dvl_nil)
      · exact plainL_all.mpr fun e hm => by
          rcases List.mem_append.mp hm with hm | hm
          · exact plainL_all.mp hpl e hm
          · simp at hm; rw [hm]; exact p4
      · intro e hm
        rcases List.mem_append.mp hm with hm | hm
        · exact hR e hm
        · simp at hm; rw [hm]; exact hd4
    · have e : i = n := by omega
      subst e
      refine .inl ⟨Nat.le_refl _, A, zs, rfl, .inl ⟨SqL.of hA', fun p hp => q (.tup ds) _ _ (rl.trans (Rl.of rl.dice (Ex.new hp))) ⟨ds, rfl, hlen, hR⟩ (by rw [plain_tup]; exact hpl) (dv_tup upd_same (hl.mono (Ex.new hp)))⟩⟩⟩
theorem yes_go {σ : L2.St} {H : Hp} {A B : Hp → Prop} (h : A H) : tYes σ H (fun b H3 => if b = true then A H3 else B H3) := h
/-- [[0] * w for _ in range(n)] -/
theorem ntab {n wd : Nat} {vs : List Nat} {k2 : Nat} {Q : VK} (hk : σ[k]? = some (some (.int (n : Int)))) (hk2 : ∀ x, ((wipe σ vs).set j (some x))[k2]? = some (some (.int (wd : Int)))) (hn : n ≤ 12) (hwd : wd ≤ 12) (hw : ∀ x, wipe ((wipe σ vs).set j (some x)) vs = wipe σ vs)
    (q : ∀ (A : Addr) (ps : List Addr) (H' : Hp), Ex H H' → H A = none → H' A = some (.lst (ps.map V.ref)) → ps.length = n → (∀ p ∈ ps, H p = none ∧ p ≠ A ∧ H' p = some (.lst ((List.replicate wd (0 : Int)).map V.int))) → Q (.ref A) H') :
    tLc (iRng1 (tCons (tVar k) tNil)) (gName j) tYes (tOp rRep (tLst (tCons (tC (.int 0)) tNil)) (tVar k2)) vs σ H Q :=
  ⟨_, hk, (n : Int), rfl, by omega, by omega, fun A hA => by
    rw [show ((n : Int)).toNat = n by omega]
    refine ⟨fun i m H' => m = n - i ∧ i ≤ n ∧ Ex H H' ∧ ∃ ps : List Addr, H' A = some (.lst (ps.map V.ref)) ∧ ps.length = i ∧ ∀ p ∈ ps, H p = none ∧ p ≠ A ∧ H' p = some (.lst ((List.replicate wd (0 : Int)).map V.int)), ⟨n, by simp, Nat.zero_le _, Ex.new hA, [], upd_same, rfl, fun d hd => absurd hd List.not_mem_nil⟩, ?_⟩
    rintro i m H' ⟨rfl, hi, ex, ps, hA', hlen, hps⟩
    by_cases hlt : i < n
    · refine .inr ⟨hlt, fun H'' => i + 1 ≤ n ∧ Ex H H'' ∧ ∃ ps : List Addr, H'' A = some (.lst (ps.map V.ref)) ∧ ps.length = i + 1 ∧ ∀ p ∈ ps, H p = none ∧ p ≠ A ∧ H'' p = some (.lst ((List.replicate wd (0 : Int)).map V.int)), fun H'' hn' => ⟨n - (i + 1), by omega, rfl, hn'⟩, fun x H'' hy => ?_⟩
      obtain ⟨ex2, hx⟩ := hy
      subst ex2
      refine ⟨hw x, ?_⟩
      refine yes_go ?_
      refine ⟨by show 1 ≤ sizeLine; rw [sizeLine_eq]; omega, fun l0 hl0 => ⟨_, hk2 x, l0, (wd : Int), [.int 0], rfl, rfl, upd_same, by omega, by omega, by rw [sizeLine_eq]; simp; omega, fun p hp => ?_⟩⟩
      have hpl : p ≠ l0 := fun e => by rw [e, upd_same] at hp; cases hp
      have hp2 : H'' p = none := by rw [upd_ne hpl] at hp; exact hp
      have hpA : p ≠ A := fun e => by rw [e, hA'] at hp2; cases hp2
      have hlA : l0 ≠ A := fun e => by rw [e, hA'] at hl0; cases hl0
      have hH4A : upd (upd H'' l0 (.lst [.int 0])) p (.lst (List.replicate ((wd : Int)).toNat [V.int 0]).flatten) A = some (.lst (ps.map V.ref)) := by
        rw [upd_ne (fun e => hpA e.symm), upd_ne (fun e => hlA e.symm)]
        exact hA'
      refine ⟨ps.map V.ref, hH4A, by rw [List.length_map, sizeLine_eq]; omega, hlt, fun b o hb => ?_, ps ++ [p], by rw [upd_same, List.map_append]; rfl, by simp [hlen], fun r hr => ?_⟩
      · rw [upd_ne (ne_of_none hb hA)]
        exact (Ex.new hp) b o ((Ex.new hl0) b o (ex b o hb))
      · rcases List.mem_append.mp hr with hr | hr
        · obtain ⟨h1, h2, h3⟩ := hps r hr
          refine ⟨h1, h2, ?_⟩
          rw [upd_ne h2]
          exact (Ex.new hp) r _ ((Ex.new hl0) r _ h3)
        · simp only [List.mem_singleton] at hr
          subst hr
          refine ⟨fresh_back ex hp2, hpA, ?_⟩
          rw [upd_ne hpA, upd_same]
          have : (List.replicate ((wd : Int)).toNat [V.int 0]).flatten = (List.replicate wd (0 : Int)).map V.int := by
            rw [show ((wd : Int)).toNat = wd by omega, List.map_replicate]
            have : ∀ m : Nat, (List.replicate m [V.int 0]).flatten = List.replicate m (V.int 0) := fun m => by
              induction m with
              | zero => rfl
              | succ m ih => rw [List.replicate_succ, List.flatten_cons, ih, List.replicate_succ]; rfl
            exact this wd
          rw [this]
    · have e : i = n := by omega
      subst e
      exact .inl ⟨Nat.le_refl _, q A ps H' ex hA hA' hlen hps⟩⟩
end
theorem sq_of_dat {n wd : Nat} {d : Dat} (hn : 0 < n ∧ n ≤ 12) (hw : 0 < wd ∧ wd ≤ 12) (h : ∃ ds, d = .tup ds ∧ ds.length = n ∧ ∀ x ∈ ds, ∃ es, x = .tup es ∧ es.length = wd ∧ ∀ y ∈ es, ∃ i, y = .int i ∧ 0 ≤ i ∧ i ≤ 60) : ∃ sq, d = sqD sq ∧ Wf sq := by
  obtain ⟨ds, rfl, hl, hds⟩ := h
  have key : ∀ ds : List Dat, (∀ x ∈ ds, ∃ es, x = .tup es ∧ es.length = wd ∧ ∀ y ∈ es, ∃ i, y = .int i ∧ 0 ≤ i ∧ i ≤ 60) → ∃ sq : Sq, ds = sq.map lnD ∧ ∀ r ∈ sq, r.length = wd ∧ ∀ x ∈ r, 0 ≤ x ∧ x ≤ 60 := fun ds => by
    induction ds with
    | nil => exact fun _ => ⟨[], rfl, fun r hr => absurd hr List.not_mem_nil⟩
    | cons x ds ih =>
      intro h
      obtain ⟨sq, e, hsq⟩ := ih fun y hy => h y (List.mem_cons_of_mem _ hy)
      obtain ⟨es, rfl, hel, hes⟩ := h x List.mem_cons_self
      have k2 : ∀ es : List Dat, (∀ y ∈ es, ∃ i, y = .int i ∧ 0 ≤ i ∧ i ≤ 60) → ∃ ns : List Int, es = ns.map Dat.int ∧ ∀ x ∈ ns, 0 ≤ x ∧ x ≤ 60 := fun es => by
        induction es with
        | nil => exact fun _ => ⟨[], rfl, fun r hr => absurd hr List.not_mem_nil⟩
        | cons y es ih =>
          intro h
          obtain ⟨ns, e, hns⟩ := ih fun z hz => h z (List.mem_cons_of_mem _ hz)
          obtain ⟨i, rfl, hi⟩ := h y List.mem_cons_self
          exact ⟨i :: ns, by rw [e]; rfl, fun x hx => by
            rcases List.mem_cons.mp hx with rfl | hx
            · exact hi
            · exact hns x hx⟩
      obtain ⟨ns, rfl, hns⟩ := k2 es hes
      rw [List.length_map] at hel
      exact ⟨ns :: sq, by rw [e]; rfl, fun r hr => by
        rcases List.mem_cons.mp hr with rfl | hr
        · exact ⟨hel, hns⟩
        · exact hsq r hr⟩
  obtain ⟨sq, rfl, hsq⟩ := key ds hds
  rw [List.length_map] at hl
  refine ⟨sq, rfl, ?_⟩
  have hne : sq ≠ [] := by intro e; rw [e] at hl; simp at hl; omega
  have hwid : wid sq = wd := by
    cases sq with
    | nil => exact absurd rfl hne
    | cons r sq => exact (hsq r List.mem_cons_self).1
  exact ⟨hne, by omega, by omega, by omega, fun r hr => by rw [hwid]; exact (hsq r hr).1, fun r hr x hx => (hsq r hr).2 x hx⟩

end Kw
namespace Kw
open PySem PySem.Spec PyProof.Rows L2 Evl
def spDrawn : Sp := fun vs H Q _ => ∃ (a : Addr) (m : Int), vs = [.ref a, .int m] ∧ DiceAt H a ∧ 1 ≤ m ∧ m ≤ 12 ∧ ∀ sq v H', Wf sq → Rl a H H' → Dv H' (sqD sq) v → Q v H'
theorem tab_dat {w : Nat} {H : Hp} : ∀ {ps : List Addr}, Tab w H ps → ∃ sq : Sq, DvL H (sq.map fun r => Dat.lst (r.map Dat.int)) (ps.map V.ref) ∧ sq.length = ps.length ∧ ∀ r ∈ sq, r.length = w ∧ ∀ x ∈ r, 0 ≤ x ∧ x ≤ 60
  | [], _ => ⟨[], rfl, rfl, fun r hr => absurd hr List.not_mem_nil⟩
  | p :: ps, h => by
    obtain ⟨sq, h1, h2, h3⟩ := tab_dat (ps := ps) fun q hq => h q (List.mem_cons_of_mem _ hq)
    obtain ⟨ns, hns, hw, hb⟩ := h p List.mem_cons_self
    refine ⟨ns :: sq, dvl_cons (dv_lst hns (dvl_ints.mpr rfl)) h1, by simp [h2], fun r hr => ?_⟩
    rcases List.mem_cons.mp hr with rfl | hr
    · exact ⟨hw, hb⟩
    · exact h3 r hr
theorem nq_tab {D : Ends} {tz : TS} {σ : L2.St} {H : Hp} {k j k2 k6 n wd : Nat} {vs : List Nat} (hk : σ[k]? = some (some (.int (n : Int)))) (hk2 : ∀ x, ((wipe σ vs).set j (some x))[k2]? = some (some (.int (wd : Int)))) (hn : n ≤ 12) (hwd : wd ≤ 12) (hw : ∀ x, wipe ((wipe σ vs).set j (some x)) vs = wipe σ vs)
    (q : ∀ (A : Addr) (ps : List Addr) (H' : Hp), Ex H H' → H A = none → H' A = some (.lst (ps.map V.ref)) → ps.length = n → (∀ p ∈ ps, H p = none ∧ p ≠ A ∧ H' p = some (.lst ((List.replicate wd (0 : Int)).map V.int))) → tz D (σ.set k6 (some (.ref A))) H') :
    tSeq (tAsg (tLc (iRng1 (tCons (tVar k) tNil)) (gName j) tYes (tOp rRep (tLst (tCons (tC (.int 0)) tNil)) (tVar k2)) vs) (gName k6)) tz D σ H := by
  have h := ntab (H := H) (Q := fun x H' => tz D (σ.set k6 (some x)) H') hk hk2 hn hwd hw q
  exact h
section
variable {P : Program} {w : World} {K : PySem.W.Frag} {mg : Str → Option Value} {base : Heap}
theorem ok_L_lk_drawn (T : Txt K mg) : FnOk P w K mg base CX0 28 T.a_L_lk_drawn T.d_L_lk_drawn ["_law_dice_here", "_law_most"] spDrawn := by
  have G_L_lk_filled := ok_L_lk_filled (P := P) (w := w) (base := base) T 24
  have G_L_roll := ok_L_roll (P := P) (w := w) (base := base) T
  have G_L_pick := ok_L_pick (P := P) (w := w) (base := base) T
  refine T.F_L_lk_drawn.ok sc_L_lk_drawn (fun vs H Q E h => ?_) (fun cdv A outer s H vs Q E hr h => ?_)
  · obtain ⟨a, m, rfl, _⟩ := h
    rfl
  · obtain ⟨a, m, rfl, hd, m1, m12, q⟩ := h
    refine ⟨_, (pss_cons (ps_asg (pe_tup (pa_cons (pe_op op_add pe_int (pe_call G_L_roll (hr.mono (by omega)) (by rfl) T.g_L_roll T.F_L_roll.kp T.b_L_roll .nil pass0 (pa_cons (pv 0) (pa_cons (pv 1) pa_nil)))) (pa_cons (pe_op op_add pe_int (pe_call G_L_roll (hr.mono (by omega)) (by rfl) T.g_L_roll T.F_L_roll.kp T.b_L_roll .nil pass0 (pa_cons (pv 0) (pa_cons (pv 1) pa_nil)))) (pa_cons (pe_call G_L_roll (hr.mono (by omega)) (by rfl) T.g_L_roll T.F_L_roll.kp T.b_L_roll .nil pass0 (pa_cons (pv 0) (pa_cons pe_int pa_nil))) pa_nil)))) (k_pgtup (K := K) (n := 3) rfl rfl (pgs_cons (pg_name (i := 2) sc_L_lk_drawn.nd rfl (.inl rfl)) (pgs_cons (pg_name (i := 3) sc_L_lk_drawn.nd rfl (.inr rfl)) (pgs_cons (pg_name (i := 4) sc_L_lk_drawn.nd rfl (.inl rfl)) pgs_nil)))))
      (pss_cons (ps_if (pt_cmpR op_eq (pv 4) pe_int (nomark _)) (pss_cons (ps_set (i := 5) sc_L_lk_drawn.nd rfl (.inr rfl) (pe_call G_L_pick (hr.mono (by omega)) (by rfl) T.g_L_pick T.F_L_pick.kp T.b_L_pick .nil pass0 (pa_cons (pv 0) (pa_cons (pe_lst (pa_cons pe_int (pa_cons pe_int (pa_cons pe_int (pa_cons pe_int (pa_cons pe_int (pa_cons pe_int pa_nil))))))) pa_nil))))
      (pss_one (ps_ret (pe_callTy (k_tupOf (K := K) rfl) (by rfl) T.z_tuple (by decide +kernel) (pa_cons (pe_lc (own := [("_law_row", 7)]) rfl sc_L_lk_drawn.nd (pi_range1 (by rfl) T.z_range (pa_cons (pv 2) pa_nil)) (blkOk_by (by kernel_rfl)) (fun _ _ _ _ _ => (pg_name (i := 7) sc_L_lk_drawn.nd rfl (.inl rfl))) (fun _ _ _ _ _ => pts_nil) (fun _ _ _ _ _ => (pe_callTy (k_tupOf (K := K) rfl) (by rfl) T.z_tuple (by decide +kernel) (pa_cons (pe_lc (own := [("_law_at", 8)]) rfl sc_L_lk_drawn.nd (pi_range1 (by rfl) T.z_range (pa_cons (pv 3) pa_nil)) (blkOk_by (by kernel_rfl)) (fun _ _ _ _ _ => (pg_name (i := 8) sc_L_lk_drawn.nd rfl (.inl rfl))) (fun _ _ _ _ _ => pts_nil) (fun _ _ _ _ _ => (pe_call G_L_roll (hr.mono (by omega)) (by rfl) T.g_L_roll T.F_L_roll.kp T.b_L_roll .nil pass0 (pa_cons (pv 0) (pa_cons (pv 5) pa_nil))))) pa_nil)))) pa_nil))))) pss_nil)
      (pss_cons (ps_setLc (own := [("_law_row", 7)]) (i := 6) rfl sc_L_lk_drawn.nd rfl rfl (sw_true rfl rfl rfl (by kernel_rfl)) (pi_range1 (by rfl) T.z_range (pa_cons (pv 2) pa_nil)) (blkOk_by (by kernel_rfl)) (fun _ _ _ _ _ => (pg_name (i := 7) sc_L_lk_drawn.nd rfl (.inl rfl))) (fun _ _ _ _ _ => pts_nil) (fun _ _ _ _ _ => (pe_op op_rep (pe_lst (pa_cons pe_int pa_nil)) (pv 3))))
      (pss_cons (ps_expr (pe_call G_L_lk_filled (hr.mono (by omega)) (by rfl) T.g_L_lk_filled T.F_L_lk_filled.kp T.b_L_lk_filled .nil pass0 (pa_cons (pv 0) (pa_cons (pv 6) (pa_cons (pe_listRg rfl (by rfl) T.z_list (prg_1 (by rfl) T.z_range (pv 2))) (pa_cons (pe_listRg rfl (by rfl) T.z_list (prg_1 (by rfl) T.z_range (pv 3))) (pa_cons pe_int (pa_cons (pe_call G_L_pick (hr.mono (by omega)) (by rfl) T.g_L_pick T.F_L_pick.kp T.b_L_pick .nil pass0 (pa_cons (pv 0) (pa_cons (pe_lst (pa_cons pe_int (pa_cons pe_int (pa_cons pe_int (pa_cons pe_int pa_nil))))) pa_nil))) pa_nil))))))))
      (pss_cons (ps_if (pt_cmpR op_eq (pv 4) pe_int (nomark _)) (pss_cons (ps_asg (pe_call G_L_roll (hr.mono (by omega)) (by rfl) T.g_L_roll T.F_L_roll.kp T.b_L_roll .nil pass0 (pa_cons (pv 0) (pa_cons pe_int pa_nil))) (pg_sub (pe_ix (k_ixL (K := K) rfl) (pv 6) (pe_call G_L_roll (hr.mono (by omega)) (by rfl) T.g_L_roll T.F_L_roll.kp T.b_L_roll .nil pass0 (pa_cons (pv 0) (pa_cons (pv 2) pa_nil))) (fun _ _ => rfl)) (pe_call G_L_roll (hr.mono (by omega)) (by rfl) T.g_L_roll T.F_L_roll.kp T.b_L_roll .nil pass0 (pa_cons (pv 0) (pa_cons (pv 3) pa_nil))) set_list))
      (pss_cons (ps_par (i := 7) (j := 8) rfl sc_L_lk_drawn.nd rfl rfl (by decide) rfl rfl (pa_cons (pe_call G_L_roll (hr.mono (by omega)) (by rfl) T.g_L_roll T.F_L_roll.kp T.b_L_roll .nil pass0 (pa_cons (pv 0) (pa_cons (pv 2) pa_nil))) (pa_cons (pe_call G_L_roll (hr.mono (by omega)) (by rfl) T.g_L_roll T.F_L_roll.kp T.b_L_roll .nil pass0 (pa_cons (pv 0) (pa_cons (pv 3) pa_nil))) pa_nil)) (by rfl))
      (pss_one (ps_asg (pe_ix (k_ixL (K := K) rfl) (pe_ix (k_ixL (K := K) rfl) (pv 6) (pe_call G_L_roll (hr.mono (by omega)) (by rfl) T.g_L_roll T.F_L_roll.kp T.b_L_roll .nil pass0 (pa_cons (pv 0) (pa_cons (pv 2) pa_nil))) (fun _ _ => rfl)) (pe_call G_L_roll (hr.mono (by omega)) (by rfl) T.g_L_roll T.F_L_roll.kp T.b_L_roll .nil pass0 (pa_cons (pv 0) (pa_cons (pv 3) pa_nil))) (fun _ _ => rfl)) (pg_sub (pe_ix (k_ixL (K := K) rfl) (pv 6) (pv 7) (fun _ _ => rfl)) (pv 8) set_list))))) pss_nil)
      (pss_one (ps_ret (pe_callTy (k_tupOf (K := K) rfl) (by rfl) T.z_tuple (by decide +kernel) (pa_cons (pe_lc (own := [("_law_row", 7)]) rfl sc_L_lk_drawn.nd (k_list (K := K) rfl (pv 6)) (blkOk_by (by kernel_rfl)) (fun _ _ _ _ _ => (pg_name (i := 7) sc_L_lk_drawn.nd rfl (.inl rfl))) (fun _ _ _ _ _ => pts_nil) (fun _ _ _ _ _ => (pe_callTy (k_tupOf (K := K) rfl) (by rfl) T.z_tuple (by decide +kernel) (pa_cons (pv 7) pa_nil)))) pa_nil))))))))), ?_⟩
    have one : ∀ {σ : L2.St} {G : Hp}, DiceAt G a → σ[0]? = some (some (.ref a)) → σ[1]? = some (some (.int m)) → EvR a (tOp (rI0 fun i j => .int (i + j)) (tC (.int 1)) (tCall spRoll [] E0 (tCons (tVar 0) (tCons (tVar 1) tNil)))) σ G fun d => ∃ i, d = .int i ∧ 1 ≤ i ∧ i ≤ m := fun {σ G} dg h0 h1 =>
      (eI0 (f := fun i j => .int (i + j)) (eint dg) (eroll (a := a) (m := m) h0 (EvR.of (d := .int m) (fun _ _ => dvar h1 rfl) rfl rfl) dg (by omega) (by omega)) (fun _ _ => rfl) (fun _ _ _ => rfl)).imp (by
        rintro d ⟨i, j, rfl, rfl, h0, h1⟩
        exact ⟨_, rfl, by omega, by omega⟩)
    refine eq_tri hd (one hd rfl rfl) (one hd rfl rfl) (eroll (a := a) (m := 4) rfl (EvR.of (d := .int 4) (fun _ _ => dint) rfl rfl) hd (by decide) (by decide)) fun x y z H1 q1 hx hy hz => ?_
    obtain ⟨n, rfl⟩ : ∃ n : Nat, x = (n : Int) := ⟨x.toNat, by omega⟩
    obtain ⟨wd, rfl⟩ : ∃ n : Nat, y = (n : Int) := ⟨y.toNat, by omega⟩
    refine dS_when (tst (deqI (dvar (d := .int z) rfl rfl) dint)) (fun hb H2 e2 => ?_) fun hb H2 e2 => ?_
    · have q2 := q1.trans (Rl.of q1.dice e2)
      refine eq_asg q2.dice (epick (a := a) (ds := [2, 3, 5, 9, 30, 61].map Dat.int) rfl (fun G g => aC dint (aC dint (aC dint (aC dint (aC dint (aC dint aN)))))) (by simp) (by simp) (plain_ints _)) fun d v H3 q3 hd3 _ hv => ?_
      obtain ⟨sz, hsz, rfl⟩ := List.mem_map.mp hd3
      have hsz2 : 0 < sz ∧ sz ≤ 61 := by
        simp only [List.mem_cons, List.not_mem_nil, or_false] at hsz
        omega
      rw [show v = _ from hv]
      have q23 := q2.trans q3
      refine eS_ret (a := a) (R := fun d => ∃ ds, d = .tup ds ∧ ds.length = n ∧ ∀ x ∈ ds, ∃ es, x = .tup es ∧ es.length = wd ∧ ∀ y ∈ es, ∃ i, y = .int i ∧ 0 ≤ i ∧ i ≤ 60) q23.dice ?_ fun d v H4 q4 hd4 _ hv => ?_
      · refine etupR (a := a) (n := n) (R := fun x => ∃ es, x = .tup es ∧ es.length = wd ∧ ∀ y ∈ es, ∃ i, y = .int i ∧ 0 ≤ i ∧ i ≤ 60) rfl (by omega) q23.dice (fun _ => rfl) fun x G g => ?_
        refine etupR (a := a) (n := wd) (R := fun y => ∃ i, y = .int i ∧ 0 ≤ i ∧ i ≤ 60) rfl (by omega) g.dice (fun _ => rfl) fun x2 G2 g2 => ?_
        refine (eroll (a := a) (m := sz) rfl (EvR.of (d := .int sz) (fun _ _ => dvar rfl rfl) rfl rfl) g2.dice (by omega) (by omega)).imp ?_
        rintro d ⟨i, rfl, h0, h1⟩
        exact ⟨i, rfl, h0, by omega⟩
      · obtain ⟨sq, rfl, wf⟩ := sq_of_dat (by omega) (by omega) hd4
        exact q sq v H4 wf (q23.trans q4) hv
    · have q2 := q1.trans (Rl.of q1.dice e2)
      refine nq_tab (n := n) (wd := wd) rfl (fun _ => rfl) (by omega) (by omega) (fun _ => rfl) fun t ps H3 e3 ht hT hpl hps => ?_
      have know : ∀ {b : Addr}, H2 b = none → b ≠ a := fun {b} hb e => by
        obtain ⟨l, s', c', hda⟩ := q2.dice
        rw [← e, hb] at hda
        cases hda
      have sep : a ∉ ps := fun h => know (hps a h).1 rfl
      have st : t ∉ a :: ps := fun h => by
        rcases List.mem_cons.mp h with h | h
        · exact know ht h
        · exact (hps t h).2.1 rfl
      have tab3 : Tab wd H3 ps := fun p hp => ⟨_, (hps p hp).2.2, by simp, fun x hx => by rw [List.eq_of_mem_replicate hx]; omega⟩
      have q3 := q2.trans (Rl.of q2.dice e3)
      show tSeq _ _ _ _ H3
      refine ⟨_, rfl, _, rfl, ?_⟩
      refine (nrgL (n := n) (dvar (d := .int (n : Int)) rfl rfl) (by omega)) H3 (Ex.refl _) _ fun r rs H4 hr4 e4 hrs hrl => ?_
      refine (nrgL (n := wd) (dvar (d := .int (wd : Int)) rfl rfl) (by omega)) H4 (Ex.refl _) _ fun c cs H5 hc5 e5 hcs hcl => ?_
      have hrl := dvl_ints.mp hrl
      have hcl := dvl_ints.mp hcl
      subst hrl hcl
      have q5 := q3.trans (Rl.of q3.dice (e4.trans e5))
      have known : ∀ {b : Addr}, b ∈ a :: ps → H3 b ≠ none := fun {b} hb => by
        rcases List.mem_cons.mp hb with rfl | hb
        · obtain ⟨l, s', c', hda⟩ := q3.dice
          rw [hda]; simp
        · obtain ⟨ns, hns, _⟩ := tab3 b hb
          rw [hns]; simp
      have sr : r ∉ a :: ps := fun hb => known hb hr4
      have sc : c ∉ a :: ps := fun hb => known hb (fresh_back e4 hc5)
      have tab5 : Tab wd H5 ps := fun p hp => by
        obtain ⟨ns, hns, h⟩ := tab3 p hp
        exact ⟨ns, e5 _ _ (e4 _ _ hns), h⟩
      refine epick (a := a) (ds := [4, 8, 16, 61].map Dat.int) rfl (fun G g => aC dint (aC dint (aC dint (aC dint aN)))) (by simp) (by simp) (plain_ints _) H5 (Rl.refl q5.dice) _ fun d v H6 q6 hd6 _ hv => ?_
      obtain ⟨hi, hhi, rfl⟩ := List.mem_map.mp hd6
      have hhi2 : 0 < hi ∧ hi ≤ 61 := by
        simp only [List.mem_cons, List.not_mem_nil, or_false] at hhi
        omega
      rw [show v = _ from hv]
      have RT6 : Rt a ps wd H5 H6 := (Rt.refl q5.dice tab5).rl sep q6
      refine ⟨a, t, r, c, 0, hi, ps, wd, upto n, upto wd, rfl, ⟨RT6.dice, RT6.tab, sep, RT6.keep _ _ st (e5 _ _ (e4 _ _ hT)), RT6.keep _ _ sr (e5 _ _ hrs), RT6.keep _ _ sc hcs, st, sr, sc, (upto_ln (by omega)).ne, (upto_ln (by omega)).ne, by rw [upto_len]; omega, by rw [upto_len]; omega, by rw [upto_len, upto_len]; omega, fun x hx => by rw [hpl]; exact mem_upto.mp hx, fun x hx => mem_upto.mp hx, by omega, by omega, by omega⟩, fun H7 RT7 => ?_⟩
      have RT67 := RT6.trans RT7
      have hT5 : H5 t = some (.lst (ps.map V.ref)) := e5 _ _ (e4 _ _ hT)
      have fin : ∀ σ' H', Rt a ps wd H5 H' → (∃ o7 o8, σ' = [some (.ref a), some (.int m), some (.int (n : Int)), some (.int (wd : Int)), some (.int z), none, some (.ref t), o7, o8]) → tRet (tCB (rTupOf K) (tCons (tLc (iList K (tVar 6)) (gName 7) tYes (tCB (rTupOf K) (tCons (tVar 7) tNil)) [7]) tNil)) { nx := fun x H' => Q V.non H', rt := Q } σ' H' := by
        rintro σ' H' RT ⟨o7, o8, rfl⟩
        obtain ⟨sq, hsq, hsl, hsr⟩ := tab_dat RT.tab
        have dT : Dv H' (.lst (sq.map fun r => Dat.lst (r.map Dat.int))) (.ref t) := dv_lst (RT.keep _ _ st hT5) hsq
        have hwid : wid sq = wd := by
          cases sq with
          | nil => simp at hsl; omega
          | cons r sq => exact (hsr r List.mem_cons_self).1
        have wf : Wf sq := ⟨by intro e; rw [e] at hsl; simp at hsl; omega, by omega, by omega, by omega, fun r hr => by rw [hwid]; exact (hsr r hr).1, fun r hr x hx => (hsr r hr).2 x hx⟩
        have rl : Rl a H H' := by
          refine ⟨fun b o hb ho => RT.keep b o (fun hm => ?_) (q5.keep b o hb ho), RT.dice⟩
          rcases List.mem_cons.mp hm with h | h
          · exact hb h
          · have := (hps b h).1
            rw [q2.keep b o hb ho] at this
            cases this
        refine dS_ret (d := sqD sq) ((dtupL (nlcM (fun d => match d with | .lst xs => .tup xs | _ => .non) (srcL (dvar rfl dT)) (by rw [List.length_map]; omega) ?_ ?_).toD).is ?_) fun v H8 e8 hv => q sq v H8 wf (rl.trans (Rl.of rl.dice e8)) hv
        · intro d hd
          obtain ⟨r, hr, rfl⟩ := List.mem_map.mp hd
          exact lnD_plain r
        · intro d hd x G e hx
          obtain ⟨r, hr, rfl⟩ := List.mem_map.mp hd
          exact bName ⟨rfl, dtupL (dvar rfl hx)⟩
        · rw [List.map_map]
          rfl
      refine dS_when (tst (deqI (dvar (d := .int z) rfl rfl) dint)) (fun hb8 H8 e8 => ?_) fun hb8 H8 e8 => fin _ _ (RT67.on sep e8) ⟨_, _, rfl⟩
      have RT8 := RT67.on sep e8
      have rollK : ∀ {σ : L2.St} {G : Hp} {k : Nat} {u : Nat}, DiceAt G a → σ[0]? = some (some (.ref a)) → σ[k]? = some (some (.int (u : Int))) → 0 < u → u ≤ 12 → EvR a (tCall spRoll [] E0 (tCons (tVar 0) (tCons (tVar k) tNil))) σ G fun d => ∃ r, d = .int r ∧ 0 ≤ r ∧ r < (u : Int) := fun dg h0 hk u0 u1 => eroll (a := a) h0 (EvR.of (d := .int _) (fun _ _ => dvar hk rfl) rfl rfl) dg (by omega) (by omega)
      have dN : ∀ {u : Nat}, ((u : Int)) = ((u : Int)) := rfl
      refine (eroll (a := a) (m := 61) rfl (EvR.of (d := .int 61) (fun _ _ => dint) rfl rfl) RT8.dice (by decide) (by decide)) H8 (Rl.refl RT8.dice) _ fun d v H9 q9 ⟨e, he, e0, e1⟩ _ hv => ?_
      subst he
      rw [show v = _ from hv]
      have RT9 := RT8.rl sep q9
      have rowp : ∀ {row : Int}, 0 ≤ row ∧ row < (n : Int) → ∃ p, atI (ps.map V.ref) row = some (.ref p) ∧ p ∈ ps := fun {row} hr => by
        have hlt : row.toNat < ps.length := by omega
        exact ⟨ps[row.toNat], atI_of hr.1 (by rw [List.getElem?_map, List.getElem?_eq_getElem hlt]; rfl), List.getElem_mem hlt⟩
      have setc : ∀ {G : Hp} {p : Addr} {col e : Int} {k : Hp → Prop}, p ∈ ps → Rt a ps wd H5 G → 0 ≤ col ∧ col < (wd : Int) → 0 ≤ e ∧ e ≤ 60 → (∀ G', Rt a ps wd H5 G' → k G') → L2.rSetL (.ref p) (.int col) (.int e) G k := fun {G p col e k} hpm RT hc he hk => by
        obtain ⟨ns, hns, hnw, hnb⟩ := RT.tab _ hpm
        refine ⟨p, ns.map V.int, col, col.toNat, rfl, rfl, hns, ixN_int hc.1 (by rw [List.length_map]; omega), ?_⟩
        have es : (ns.map V.int).set col.toNat (.int e) = (ns.set col.toNat e).map V.int := by rw [List.map_set]
        rw [es]
        refine hk _ (RT.set sep hpm (by rw [List.length_set]; exact hnw) fun x hx => ?_)
        rcases List.mem_or_eq_of_mem_set hx with hx | hx
        · exact hnb x hx
        · rw [hx]; exact he
      refine ⟨_, rfl, rollK (u := n) RT9.dice rfl rfl (by omega) (by omega) H9 (Rl.refl RT9.dice) _ fun d v H10 q10 ⟨row, hrow, r0, r1⟩ _ hv => ?_⟩
      subst hrow
      rw [show v = _ from hv]
      have RT10 := RT9.rl sep q10
      obtain ⟨p1, hat1, hpm1⟩ := rowp ⟨r0, r1⟩
      refine ⟨t, ps.map V.ref, row, .ref p1, rfl, rfl, SqL.of (RT10.keep _ _ st hT5), hat1, ?_⟩
      refine rollK (u := wd) RT10.dice rfl rfl (by omega) (by omega) H10 (Rl.refl RT10.dice) _ fun d v H11 q11 ⟨col, hcol, c0, c1⟩ _ hv => ?_
      subst hcol
      rw [show v = _ from hv]
      have RT11 := RT10.rl sep q11
      refine setc hpm1 RT11 ⟨c0, c1⟩ ⟨e0, by omega⟩ fun G RTg => ?_
      refine eq_par RTg.dice (rollK (u := n) RTg.dice rfl rfl (by omega) (by omega)) (rollK (u := wd) RTg.dice rfl rfl (by omega) (by omega)) fun d e v u H12 q12 ⟨row2, hrow2, x0, x1⟩ ⟨col2, hcol2, y0, y1⟩ hv hu => ?_
      subst hrow2 hcol2
      rw [show v = _ from hv, show u = _ from hu]
      have RT12 := RTg.rl sep q12
      refine ⟨_, rfl, rollK (u := n) RT12.dice rfl rfl (by omega) (by omega) H12 (Rl.refl RT12.dice) _ fun d v H13 q13 ⟨row3, hrow3, z0, z1⟩ _ hv => ?_⟩
      subst hrow3
      rw [show v = _ from hv]
      have RT13 := RT12.rl sep q13
      obtain ⟨p3, hat3, hpm3⟩ := rowp ⟨z0, z1⟩
      refine ⟨t, ps.map V.ref, row3, .ref p3, rfl, rfl, SqL.of (RT13.keep _ _ st hT5), hat3, ?_⟩
      refine rollK (u := wd) RT13.dice rfl rfl (by omega) (by omega) H13 (Rl.refl RT13.dice) _ fun d v H14 q14 ⟨col3, hcol3, w0, w1⟩ _ hv => ?_
      subst hcol3
      rw [show v = _ from hv]
      have RT14 := RT13.rl sep q14
      obtain ⟨ns, hns, hnw, hnb⟩ := RT14.tab _ hpm3
      have hlt : col3.toNat < ns.length := by omega
      have hcb := hnb _ (List.getElem_mem hlt)
      refine ⟨p3, ns.map V.int, col3, .int ns[col3.toNat], rfl, rfl, SqL.of hns, atI_of w0 (by rw [List.getElem?_map, List.getElem?_eq_getElem hlt]; rfl), ?_⟩
      obtain ⟨p2, hat2, hpm2⟩ := rowp ⟨x0, x1⟩
      refine ⟨_, rfl, _, rfl, t, ps.map V.ref, row2, .ref p2, rfl, rfl, SqL.of (RT14.keep _ _ st hT5), hat2, _, rfl, ?_⟩
      exact setc hpm2 RT14 ⟨y0, y1⟩ hcb fun G RTg => fin _ _ RTg ⟨_, _, rfl⟩
end

end Kw
namespace Kw
open PySem PySem.Spec PyProof.Rows L2 Evl
mutual
def Dat.wd : Dat → Bool
  | .tup ds => decide (ds.length ≤ 24) && wdL ds
  | _ => true
def wdL : List Dat → Bool
  | [] => true
  | d :: ds => d.wd && wdL ds
end
theorem wdL_all : ∀ {ds : List Dat}, wdL ds = true ↔ ∀ d ∈ ds, d.wd = true
  | [] => by simp [wdL]
  | d :: ds => by simp [wdL, wdL_all (ds := ds)]
theorem wd_tup {ds : List Dat} : (Dat.tup ds).wd = true ↔ ds.length ≤ 24 ∧ ∀ d ∈ ds, d.wd = true := by simp [Dat.wd, wdL_all]
def spBent (n : Nat) : Sp := fun vs H Q _ => ∃ (a : Addr) (v : V) (d : Dat), vs = [.ref a, v] ∧ DiceAt H a ∧ d.fits n = true ∧ d.wd = true ∧ Dv H d v ∧ ∀ d' v' H', d'.fits (n + 2) = true → Rl a H H' → Dv H' d' v' → Q v' H'
def oddL : List Dat := [.non, .int 0, .int 1, .bl true, .tup [], .str "flat", .str "rows", .str "columns", .tup [.int 0], .tup [.int 0, .int 1], .tup [.int 1, .int 0], .opq, .int 61, .int (-1), .tup [.int 0, .int 1, .int 0], .tup [.str "flat", .int 0]]
theorem odd_fits : ∀ d ∈ oddL, d.fits 2 = true := by
  intro d hd
  simp only [oddL, List.mem_cons, List.not_mem_nil, or_false] at hd
  rcases hd with rfl | rfl | rfl | rfl | rfl | rfl | rfl | rfl | rfl | rfl | rfl | rfl | rfl | rfl | rfl | rfl <;> rfl
section
variable {K : PySem.W.Frag} {σ : L2.St} {a : Addr} {H H1 : Hp} {te ta tb : TE} {R S T : Dat → Prop} {ds es : List Dat} {d : Dat}
theorem dopq (h : EvN te σ H ds) : EvD te σ H .opq := fun H1 e Q q => h H1 e _ fun p xs H2 _ e2 hH _ => q _ H2 e2 ⟨p, xs, rfl, hH⟩
theorem drev (h : EvD te σ H (.tup ds)) : EvD (tRevT K te) σ H (.tup ds.reverse) := fun H1 e Q q => h H1 e _ fun x H2 e2 ⟨b, xs, hx, hH, hl⟩ =>
  ⟨b, xs, hx, SqT.of hH, fun p hp => q _ _ (e2.trans (Ex.new hp)) (dv_tup upd_same (hl.rev.mono (Ex.new hp)))⟩
theorem catT_dv {x y : V} {Q : VK} (hx : Dv H (.tup ds) x) (hy : Dv H (.tup es) y) (hz : ds.length + es.length ≤ 1000) (q : ∀ v H2, Ex H H2 → Dv H2 (.tup (ds ++ es)) v → Q v H2) : rCatA K x y H Q := by
  obtain ⟨b, xs, hx, hH, hl⟩ := hx
  obtain ⟨c, ys, hy, hH2, hl2⟩ := hy
  have l1 := hl.len
  have l2 := hl2.len
  refine ⟨b, c, xs, ys, hx, hy, SqT.of hH, SqT.of hH2, by rw [sizeLine_eq]; omega, fun e => q _ _ (Ex.refl _) ?_, fun _ e => q _ _ (Ex.refl _) ?_, fun _ _ p hp => q _ _ (Ex.new hp) (dv_tup upd_same ((hl.append hl2).mono (Ex.new hp)))⟩
  · subst e
    cases ds with
    | nil => exact dv_tup hH2 hl2
    | cons => simp at l1
  · subst e
    cases es with
    | nil => rw [List.append_nil]; exact dv_tup hH hl
    | cons => simp at l2
end
section
variable {P : Program} {w : World} {K : PySem.W.Frag} {mg : Str → Option Value} {base : Heap}
theorem ok_L_bent (T : Txt K mg) : ∀ n, FnOk P w K mg base CX0 (3 + n) T.a_L_bent T.d_L_bent ["_law_dice_here", "_law_value"] (spBent n)
  | 0 => by
    refine T.F_L_bent.ok sc_L_bent (fun vs H Q E h => ?_) (fun cdv A outer s H vs Q E hr h => ?_)
    · obtain ⟨a, v, d, rfl, _⟩ := h
      rfl
    · obtain ⟨a, v, d, rfl, _, hf, _⟩ := h
      simp [Dat.fits] at hf
  | n + 1 => by
    have G_L_bent := ok_L_bent T n
    have G_L_roll := ok_L_roll (P := P) (w := w) (base := base) T
    have G_L_pick := ok_L_pick (P := P) (w := w) (base := base) T
    refine T.F_L_bent.ok sc_L_bent (fun vs H Q E h => ?_) (fun cdv A outer s H vs Q E hr h => ?_)
    · obtain ⟨a, v, d, rfl, _⟩ := h
      rfl
    · obtain ⟨a, v, d, rfl, hdc, hf, hwd, hv, q⟩ := h
      replace hr : Room (3 + n) _ := hr
      refine ⟨_, (pss_cons (ps_set (i := 2) sc_L_bent.nd rfl (.inl rfl) (pe_call G_L_pick (hr.mono (by omega)) (by rfl) T.g_L_pick T.F_L_pick.kp T.b_L_pick .nil pass0 (pa_cons (pv 0) (pa_cons (pe_lst (pa_cons pe_non (pa_cons pe_int (pa_cons pe_int (pa_cons pe_bl (pa_cons (pe_tup pa_nil) (pa_cons pe_str (pa_cons pe_str (pa_cons pe_str (pa_cons (pe_tup (pa_cons pe_int pa_nil)) (pa_cons (pe_tup (pa_cons pe_int (pa_cons pe_int pa_nil))) (pa_cons (pe_tup (pa_cons pe_int (pa_cons pe_int pa_nil))) (pa_cons (pe_lst (pa_cons pe_int pa_nil)) (pa_cons pe_int (pa_cons (pe_un un_neg pe_int) (pa_cons (pe_tup (pa_cons pe_int (pa_cons pe_int (pa_cons pe_int pa_nil)))) (pa_cons (pe_tup (pa_cons pe_str (pa_cons pe_int pa_nil))) pa_nil))))))))))))))))) pa_nil))))
      (pss_cons (ps_if (PW.pt (pw_or (pt_not (pt_val (pe_callB (k_isi (K := K) rfl) (by rfl) T.z_isinstance (by decide +kernel) (pa_cons (pv 1) (pa_cons (pe_bltn (v := .ty "tuple") (by rfl) T.z_tuple (by decide +kernel) rfl) pa_nil))))) (pw_or (pt_cmpR (k_eqE (K := K) rfl hr.units0) (pv 1) (pe_tup pa_nil) (nomark _)) (pw_or1 (pt_cmpR op_eq (pe_call G_L_roll (hr.mono (by omega)) (by rfl) T.g_L_roll T.F_L_roll.kp T.b_L_roll .nil pass0 (pa_cons (pv 0) (pa_cons pe_int pa_nil))) pe_int (nomark _)))))) (pss_one (ps_ret (pv 2))) pss_nil)
      (pss_cons (ps_par (i := 3) (j := 4) rfl sc_L_bent.nd rfl rfl (by decide) rfl rfl (pa_cons (pe_call G_L_roll (hr.mono (by omega)) (by rfl) T.g_L_roll T.F_L_roll.kp T.b_L_roll .nil pass0 (pa_cons (pv 0) (pa_cons (pe_callB (k_len (K := K) rfl) (by rfl) T.z_len (by decide +kernel) (pa_cons (pv 1) pa_nil)) pa_nil))) (pa_cons (pe_call G_L_roll (hr.mono (by omega)) (by rfl) T.g_L_roll T.F_L_roll.kp T.b_L_roll .nil pass0 (pa_cons (pv 0) (pa_cons pe_int pa_nil))) pa_nil)) (by rfl))
      (pss_cons (ps_if (pt_cmpR op_eq (pv 4) pe_int (nomark _)) (pss_one (ps_ret (pe_op (k_catA (K := K) rfl) (pe_slice (k_slT (K := K) rfl) (pv 1) po_none (po_some (pv 3))) (pe_slice (k_slT (K := K) rfl) (pv 1) (po_some (pe_op op_add (pv 3) pe_int)) po_none)))) pss_nil)
      (pss_cons (ps_if (pt_cmpR op_eq (pv 4) pe_int (nomark _)) (pss_one (ps_ret (pe_op (k_catA (K := K) rfl) (pe_op (k_catA (K := K) rfl) (pe_slice (k_slT (K := K) rfl) (pv 1) po_none (po_some (pv 3))) (pe_tup (pa_cons (pv 2) pa_nil))) (pe_slice (k_slT (K := K) rfl) (pv 1) (po_some (pv 3)) po_none)))) pss_nil)
      (pss_cons (ps_if (pt_cmpR op_eq (pv 4) pe_int (nomark _)) (pss_one (ps_ret (pe_op (k_catA (K := K) rfl) (pe_op (k_catA (K := K) rfl) (pe_slice (k_slT (K := K) rfl) (pv 1) po_none (po_some (pv 3))) (pe_slice (k_slT (K := K) rfl) (pv 1) (po_some (pv 3)) (po_some (pe_op op_add (pv 3) pe_int)))) (pe_slice (k_slT (K := K) rfl) (pv 1) (po_some (pv 3)) po_none)))) pss_nil)
      (pss_cons (ps_if (pt_cmpR op_eq (pv 4) pe_int (nomark _)) (pss_one (ps_ret (pe_ifExp (pt_cmpR op_eq (pe_call G_L_roll (hr.mono (by omega)) (by rfl) T.g_L_roll T.F_L_roll.kp T.b_L_roll .nil pass0 (pa_cons (pv 0) (pa_cons pe_int pa_nil))) pe_int (nomark _)) (pe_revT (pv 1)) (pe_callTy (k_listOf (K := K) rfl) (by rfl) T.z_list (by decide +kernel) (pa_cons (pv 1) pa_nil))))) pss_nil)
      (pss_one (ps_ret (pe_op (k_catA (K := K) rfl) (pe_op (k_catA (K := K) rfl) (pe_slice (k_slT (K := K) rfl) (pv 1) po_none (po_some (pv 3))) (pe_tup (pa_cons (pe_call G_L_bent (hr.mono (by omega)) (by rfl) T.g_L_bent T.F_L_bent.kp T.b_L_bent .nil pass0 (pa_cons (pv 0) (pa_cons (pe_ix (k_ixT (K := K) rfl) (pv 1) (pv 3) (fun _ _ => rfl)) pa_nil))) pa_nil))) (pe_slice (k_slT (K := K) rfl) (pv 1) (po_some (pe_op op_add (pv 3) pe_int)) po_none))))))))))), ?_⟩
      refine eq_asg hdc (epick (a := a) (ds := oddL) rfl (fun G g => aC dnon (aC dint (aC dint (aC dbl (aC (dtup aN (by simp)) (aC dstr (aC dstr (aC dstr (aC (dtup (aC dint aN) (by simp)) (aC (dtup (aC dint (aC dint aN)) (by simp)) (aC (dtup (aC dint (aC dint aN)) (by simp)) (aC (dopq (nlst (aC dint aN) (by simp))) (aC dint (aC (dneg dint) (aC (dtup (aC dint (aC dint (aC dint aN))) (by simp)) (aC (dtup (aC dstr (aC dint aN)) (by simp)) aN)))))))))))))))) (by simp [oddL]) (by simp [oddL]) (by rfl)) fun od ov H1 q1 hod pod hov => ?_
      have hof := odd_fits od hod
      have hv1 : Dv H1 d v := Dv.evo (q1.evo hdc) d (fits_plain hf) hv
      have retO : ∀ H', Rl a H1 H' → RetD od H' Q := fun H' r v' H2 e2 h2 => q od v' H2 (fits_mono od (by omega) hof) ((q1.trans r).trans (Rl.of r.dice e2)) h2
      have dOd : ∀ H', Rl a H1 H' → Dv H' od ov := fun H' r => Dv.evo (r.evo q1.dice) od pod hov
      cases d with
      | tup ds =>
        obtain ⟨m, hm0, hl, hm⟩ := fits_tup.mp hf
        cases hm0
        obtain ⟨hw1, hw2⟩ := wd_tup.mp hwd
        cases ds with
        | nil =>
          refine dS_when (b := true) (et_or (a := false) (b := true) (et_is (et_not (tst (disi_tuple (dvar rfl hv1)))) rfl) fun _ => et_or (a := true) (b := true) (et_is (tst (dempT (neg := false) (dvar rfl hv1))) rfl) fun z => by cases z) (fun _ H2 e2 => ?_) fun z => by cases z
          exact dS_ret (dvar rfl (dOd H2 (Rl.of q1.dice e2))) (retO H2 (Rl.of q1.dice e2))
        | cons d0 rest =>
          generalize hds : d0 :: rest = ds at *
          have hne : 0 < ds.length := by rw [← hds]; simp
          have dV : ∀ G, Rl a H1 G → Dv G (.tup ds) v := fun G g => Dv.evo (g.evo q1.dice) _ (fits_plain hf) hv1
          have emp : (if false = true then !ds.isEmpty else ds.isEmpty) = false := by rw [← hds]; rfl
          refine (rt_or (R := fun _ => True) (S := fun _ => True) (rt_of (b := false) (fun G g => et_is (et_not (tst (disi_tuple (dvar rfl (dV G g))))) rfl) trivial) (rt_or (S := fun _ => True) (rt_of (b := false) (fun G g => et_is (tst (dempT (neg := false) (dvar rfl (dV G g)))) emp) trivial) (rt_eq (eroll (a := a) (m := 6) rfl (EvR.of (d := .int 6) (fun _ _ => dint) rfl rfl) q1.dice (by decide) (by decide))) fun _ => trivial) fun _ => trivial : EvRT a _ _ H1 _) H1 (Rl.refl q1.dice) _ fun b H2 q2 _ => ?_
          cases b with
          | true =>
            rw [if_pos rfl]
            exact dS_ret (dvar rfl (dOd H2 q2)) (retO H2 q2)
          | false =>
            rw [if_neg Bool.false_ne_true]
            have dV2 := dV H2 q2
            refine eq_par q2.dice (eroll (a := a) (m := (ds.length : Nat)) rfl (EvR.of (d := .int (ds.length : Nat)) (fun G g => dlenT (dvar rfl (dV G (q2.trans g)))) rfl rfl) q2.dice (by omega) (by omega)) (eroll (a := a) (m := 9) rfl (EvR.of (d := .int 9) (fun _ _ => dint) rfl rfl) q2.dice (by decide) (by decide)) fun d e x y H3 q3 ⟨at', hat, t0, t1⟩ ⟨way, hway, _, _⟩ hx hy => ?_
            subst hat hway
            rw [show x = _ from hx, show y = _ from hy]
            obtain ⟨k, rfl⟩ : ∃ k : Nat, at' = (k : Int) := ⟨at'.toNat, by omega⟩
            have q13 := q2.trans q3
            have fin : ∀ (es : List Dat), es.length ≤ 25 → (∀ x ∈ es, x.fits (n + 2) = true) → ∀ H', Rl a H1 H' → RetD (.tup es) H' Q := fun es h1 h2 H' r v' H2 e2 hv2 => q (.tup es) v' H2 (fits_mk h1 h2) ((q1.trans r).trans (Rl.of r.dice e2)) hv2
            have inds : ∀ x ∈ ds, x.fits (n + 2) = true := fun x hx => fits_mono x (by omega) (hm x hx)
            have odd2 : od.fits (n + 2) = true := fits_mono od (by omega) hof
            have front : ∀ {σ : L2.St} {G : Hp}, Rl a H1 G → σ[1]? = some (some v) → σ[3]? = some (some (.int (k : Int))) → EvD (L2.tSl (rSlA K) (tVar 1) tNoPart (tPart (tVar 3))) σ G (.tup (ds.take k)) := fun g h1 h3 => dfront (dvar h1 (dV _ g)) (dvar (d := .int (k : Int)) h3 rfl)
            have back : ∀ {σ : L2.St} {G : Hp}, Rl a H1 G → σ[1]? = some (some v) → σ[3]? = some (some (.int (k : Int))) → EvD (L2.tSl (rSlA K) (tVar 1) (tPart (tVar 3)) tNoPart) σ G (.tup (ds.drop k)) := fun g h1 h3 => dtail (dvar h1 (dV _ g)) (dvar (d := .int (k : Int)) h3 rfl)
            have back1 : ∀ {σ : L2.St} {G : Hp}, Rl a H1 G → σ[1]? = some (some v) → σ[3]? = some (some (.int (k : Int))) → EvD (L2.tSl (rSlA K) (tVar 1) (tPart (tOp (rI0 fun i j => .int (i + j)) (tVar 3) (tC (.int 1)))) tNoPart) σ G (.tup (ds.drop (k + 1))) := fun g h1 h3 => dtail (k := k + 1) (dvar h1 (dV _ g)) (dadd (dvar (d := .int (k : Int)) h3 rfl) dint)
            have lt : (ds.take k).length ≤ 24 := by rw [List.length_take]; omega
            have ld : ∀ j, (ds.drop j).length ≤ 24 := fun j => by rw [List.length_drop]; omega
            refine dS_when (tst (deqI (dvar (d := .int way) rfl rfl) dint)) (fun hb4 H4 e4 => ?_) fun hb4 H4 e4 => ?_
            · have q4 := q13.trans (Rl.of q13.dice e4)
              refine dS_ret (dcatT (front q4 rfl rfl) (back1 q4 rfl rfl) (by have := ld (k + 1); omega)) (fin _ ?_ ?_ H4 q4)
              · rw [List.length_append, List.length_take, List.length_drop]; omega
              · intro x hx
                rcases List.mem_append.mp hx with h | h
                · exact inds x (List.mem_of_mem_take h)
                · exact inds x (List.mem_of_mem_drop h)
            have q4 := q13.trans (Rl.of q13.dice e4)
            refine dS_when (tst (deqI (dvar (d := .int way) rfl rfl) dint)) (fun hb5 H5 e5 => ?_) fun hb5 H5 e5 => ?_
            · have q5 := q4.trans (Rl.of q4.dice e5)
              refine dS_ret (dcatT (dcatT (front q5 rfl rfl) (dtup (aC (dvar rfl (dOd H5 q5)) aN) (by simp)) (by simp only [List.length_cons, List.length_nil]; omega)) (back q5 rfl rfl) (by have := ld k; simp only [List.length_append, List.length_cons, List.length_nil]; omega)) (fin _ ?_ ?_ H5 q5)
              · simp only [List.length_append, List.length_take, List.length_drop, List.length_cons, List.length_nil]; omega
              · intro x hx
                simp only [List.mem_append, List.mem_singleton] at hx
                rcases hx with (h | h) | h
                · exact inds x (List.mem_of_mem_take h)
                · rw [h]; exact odd2
                · exact inds x (List.mem_of_mem_drop h)
            have q5 := q4.trans (Rl.of q4.dice e5)
            refine dS_when (tst (deqI (dvar (d := .int way) rfl rfl) dint)) (fun hb6 H6 e6 => ?_) fun hb6 H6 e6 => ?_
            · have q6 := q5.trans (Rl.of q5.dice e6)
              refine dS_ret (dcatT (dcatT (front q6 rfl rfl) (dmid (k := k) (l := k + 1) (dvar rfl (dV _ q6)) (dvar (d := .int (k : Int)) rfl rfl) (dadd (dvar (d := .int (k : Int)) rfl rfl) dint) (by omega) (by omega)) (by rw [List.length_take (l := ds.drop k)]; omega)) (back q6 rfl rfl) (by have := ld k; simp only [List.length_append, List.length_take]; omega)) (fin _ ?_ ?_ H6 q6)
              · simp only [List.length_append, List.length_take, List.length_drop]; omega
              · intro x hx
                simp only [List.mem_append] at hx
                rcases hx with (h | h) | h
                · exact inds x (List.mem_of_mem_take h)
                · exact inds x (List.mem_of_mem_drop (List.mem_of_mem_take h))
                · exact inds x (List.mem_of_mem_drop h)
            have q6 := q5.trans (Rl.of q5.dice e6)
            refine dS_when (tst (deqI (dvar (d := .int way) rfl rfl) dint)) (fun hb7 H7 e7 => ?_) fun hb7 H7 e7 => ?_
            · have q7 := q6.trans (Rl.of q6.dice e7)
              refine (rt_eq (eroll (a := a) (m := 2) rfl (EvR.of (d := .int 2) (fun _ _ => dint) rfl rfl) q7.dice (by decide) (by decide)) : EvRT a _ _ H7 _) H7 (Rl.refl q7.dice) _ fun b H8 q8 _ => ?_
              have q78 := q7.trans q8
              cases b with
              | true =>
                rw [if_pos rfl]
                exact (drev (dvar rfl (dV _ q78))) H8 (Ex.refl _) _ (fin _ (by rw [List.length_reverse]; omega) (fun x hx => inds x (List.mem_reverse.mp hx)) H8 q78)
              | false =>
                rw [if_neg Bool.false_ne_true]
                exact (dopq (nlistT (dvar rfl (dV _ q78)))) H8 (Ex.refl _) _ fun v' H9 e9 h9 => q .opq v' H9 rfl ((q1.trans q78).trans (Rl.of q78.dice e9)) h9
            · have q7 := q6.trans (Rl.of q6.dice e7)
              have hlt : k < ds.length := by omega
              have hmk : ds[k] ∈ ds := List.getElem_mem hlt
              refine (front q7 rfl rfl) H7 (Ex.refl _) _ fun x1 H8 e8 hx1 => ?_
              have q8 := q7.trans (Rl.of q7.dice e8)
              refine ⟨_, rfl, (dixT (dvar rfl (dV _ q8)) (dvar (d := .int (k : Int)) rfl rfl) (by omega) (by rw [show ((k : Int)).toNat = k by omega]; exact List.getElem?_eq_getElem hlt) : EvD _ _ H8 ds[k]) H8 (Ex.refl _) _ fun x2 H9 e9 hx2 => ?_⟩
              have q9 := q8.trans (Rl.of q8.dice e9)
              refine ⟨a, x2, ds[k], rfl, q9.dice, hm _ hmk, hw2 _ hmk, hx2, fun d' v' H10 hf' q10 hv' => ⟨by show 1 ≤ sizeLine; rw [sizeLine_eq]; omega, fun p hp => ?_⟩⟩
              have q10' := q9.trans q10
              have e11 : Ex H10 (upd H10 p (.tup [v'])) := Ex.new hp
              have q11 := q10'.trans (Rl.of q10'.dice e11)
              have hx1' : Dv (upd H10 p (.tup [v'])) (.tup (ds.take k)) x1 := (Dv.evo ((Evo.of e9).trans (q10.evo q9.dice)) _ (by rw [plain_tup]; exact plainL_all.mpr fun x hx => fits_plain (hm x (List.mem_of_mem_take hx))) hx1).mono e11
              have ht : Dv (upd H10 p (.tup [v'])) (.tup [d']) (.ref p) := dv_tup upd_same (dvl_cons (hv'.mono e11) dvl_nil)
              refine catT_dv hx1' ht (by simp only [List.length_cons, List.length_nil]; omega) fun x3 H12 e12 hx3 => ?_
              have q12 := q11.trans (Rl.of q11.dice e12)
              refine (back1 q12 rfl rfl) H12 (Ex.refl _) _ fun x4 H13 e13 hx4 => ?_
              have q13' := q12.trans (Rl.of q12.dice e13)
              refine catT_dv (hx3.mono e13) hx4 (by have := ld (k + 1); simp only [List.length_append, List.length_cons, List.length_nil]; omega) (fin _ ?_ ?_ H13 q13')
              · simp only [List.length_append, List.length_take, List.length_drop, List.length_cons, List.length_nil]; omega
              · intro x hx
                simp only [List.mem_append, List.mem_singleton] at hx
                rcases hx with (h | h) | h
                · exact inds x (List.mem_of_mem_take h)
                · rw [h]; exact hf'
                · exact inds x (List.mem_of_mem_drop h)
      | _ =>
        refine dS_when (b := true) (et_or (a := true) (b := true) (et_is (et_not (tst (disi_tuple (dvar rfl hv1)))) rfl) fun z => by cases z) (fun _ H2 e2 => ?_) fun z => by cases z
        exact dS_ret (dvar rfl (dOd H2 (Rl.of q1.dice e2))) (retO H2 (Rl.of q1.dice e2))
end

end Kw
namespace Kw
open PySem PySem.Spec PyProof.Rows L2 Evl
theorem joinM_flag {w : Str} {cs : List (List Int)} {ps : List (Bool × Dat)} : (joinM w cs ps).1 = ps.all (·.1) := by
  unfold joinM
  cases h : ps.filter fun p => !p.1 with
  | nil =>
    have := filt_none ps fun p => !p.1
    rw [h] at this
    simp only [List.isEmpty_nil, Bool.not_not] at this
    exact this
  | cons p l =>
    have := filt_none ps fun p => !p.1
    rw [h] at this
    simp only [List.isEmpty_cons, Bool.not_not] at this
    exact this
theorem flag_has {sq : Sq} : ∀ (n : Nat) (rows cols : List Int), (paperM n sq rows cols).1 = hasTree n sq rows cols
  | 0, _, _ => rfl
  | n + 1, rows, cols => by
    unfold paperM hasTree
    split
    · rfl
    · split
      · rw [joinM_flag, List.all_map]
        congr 1
        funext lot
        exact flag_has n lot cols
      · split
        · rename_i h
          rw [joinM_flag, List.all_map, decide_eq_true h, Bool.true_and]
          congr 1
          funext lot
          exact flag_has n rows lot
        · rename_i h
          rw [decide_eq_false h, Bool.false_and]
section
variable {e : En} {cols : List Int}
theorem dfs_links_ok {P : Int × Int × Int → Prop} {L : List Int} (hP : ∀ r ∈ L, ∀ o ∈ L, lkB e cols r o = true → P (r, o, lkC e cols r o)) : ∀ (n : Nat) (left fresh here : List Int) (ls : Lks), (∀ a ∈ left, a ∈ L) → (∀ a ∈ fresh, a ∈ L) → (∀ l ∈ ls, P l) → ∀ l ∈ (dfs e cols n left fresh here ls).2.2, P l
  | 0, left, fresh, here, ls, _, _, h => h
  | n + 1, left, fresh, here, ls, h1, h2, h => by
    by_cases hf : fresh = []
    · subst hf
      rw [dfs_nil]
      exact h
    · obtain ⟨f, r, rfl⟩ := snoc_of fresh hf
      rw [dfs_snoc]
      refine dfs_links_ok hP n _ _ _ _ (fun a ha => h1 a (List.mem_filter.mp ha).1) (fun a ha => ?_) fun l hl => ?_
      · rcases List.mem_append.mp ha with ha | ha
        · exact h2 a (List.mem_append_left _ ha)
        · exact h1 a (List.mem_filter.mp ha).1
      · rcases List.mem_append.mp hl with hl | hl
        · exact h l hl
        · obtain ⟨o, ho, rfl⟩ := List.mem_map.mp hl
          have ho := List.mem_filter.mp ho
          exact hP r (h2 r (by simp)) o (h1 o ho.1) ho.2
theorem cls_links_ok {P : Int × Int × Int → Prop} {L0 : List Int} (hP : ∀ r ∈ L0, ∀ o ∈ L0, lkB e cols r o = true → P (r, o, lkC e cols r o)) : ∀ (n : Nat) (L : List Int), (∀ a ∈ L, a ∈ L0) → ∀ l ∈ (cls e cols n L).2, P l
  | n, [], _, l, hl => by
    rw [cls_nil] at hl
    exact absurd hl List.not_mem_nil
  | 0, x :: left, _, l, hl => absurd hl List.not_mem_nil
  | n + 1, x :: left, h, l, hl => by
    rw [cls_cons] at hl
    rcases List.mem_append.mp hl with hl | hl
    · exact dfs_links_ok hP _ _ _ _ _ (fun a ha => h a (List.mem_cons_of_mem _ ha)) (fun a ha => h a (by simp at ha; simp [ha])) (fun l hl => absurd hl List.not_mem_nil) l hl
    · exact cls_links_ok hP n _ (fun a ha => h a (List.mem_cons_of_mem _ ((dfs_sub _ _ _ _ _).subset ha))) l hl
theorem lkC_ok {r o : Int} (h : lkB e cols r o = true) : lkC e cols r o ∈ cols ∧ e r (lkC e cols r o) = e o (lkC e cols r o) := by
  unfold lkC
  unfold lkB at h
  rw [← filt_any] at h
  cases hf : cols.filter fun c => decide (e r c = e o c) with
  | nil => rw [hf] at h; cases h
  | cons c l =>
    have : c ∈ cols.filter fun c => decide (e r c = e o c) := by rw [hf]; exact List.mem_cons_self
    have := List.mem_filter.mp this
    exact ⟨this.1, of_decide_eq_true this.2⟩
theorem dfs_reach {L : List Int} {T : Int → Prop} : ∀ (n : Nat) (left fresh here : List Int) (ls : Lks), (∀ a ∈ left, a ∈ L) → (∀ a ∈ fresh, a ∈ L) → (∀ a o, T a → a ∈ L → o ∈ L → lkR (dfs e cols n left fresh here ls).2.2 a o = true → T o) → (∀ a, a ∈ fresh ∨ a ∈ here → T a) → ∀ a ∈ (dfs e cols n left fresh here ls).2.1, T a
  | 0, left, fresh, here, ls, _, _, _, h => fun a ha => h a (.inr ha)
  | n + 1, left, fresh, here, ls, h1, h2, hc, h => by
    by_cases hf : fresh = []
    · subst hf
      rw [dfs_nil]
      exact fun a ha => h a (.inr ha)
    · obtain ⟨f, r, rfl⟩ := snoc_of fresh hf
      rw [dfs_snoc] at hc ⊢
      refine dfs_reach n _ _ _ _ (fun a ha => h1 a (List.mem_filter.mp ha).1) (fun a ha => ?_) hc fun a ha => ?_
      · rcases List.mem_append.mp ha with ha | ha
        · exact h2 a (List.mem_append_left _ ha)
        · exact h1 a (List.mem_filter.mp ha).1
      · have tr : T r := h r (.inl (by simp))
        simp only [List.mem_append, List.mem_singleton] at ha
        rcases ha with (ha | ha) | ha | ha
        · exact h a (.inl (by simp [ha]))
        · have ha := List.mem_filter.mp ha
          refine hc r a tr (h2 r (by simp)) (h1 a ha.1) ?_
          rw [dfs_ls]
          refine List.any_eq_true.mpr ⟨(r, a, lkC e cols r a), List.mem_append_left _ (List.mem_append_right _ (List.mem_map.mpr ⟨a, List.mem_filter.mpr ha, rfl⟩)), by simp⟩
        · exact h a (.inr ha)
        · rw [ha]; exact tr
theorem one_class {n : Nat} {rows : List Int} (lr : Ln n rows) (h : ¬ (classes e cols rows).length > 1) : hang rows (links e cols rows) = true := by
  cases hr : rows with
  | nil => exact absurd hr lr.ne
  | cons x left =>
    subst hr
    have ha := lr.asc
    have e1 : classes e cols (x :: left) = (x :: left).filter (fun o => (dfs e cols (left.length + 1) left [x] [] []).2.1.contains o) :: (cls e cols left.length (dfs e cols (left.length + 1) left [x] [] []).1).1 := rfl
    have e2 : links e cols (x :: left) = (dfs e cols (left.length + 1) left [x] [] []).2.2 ++ (cls e cols left.length (dfs e cols (left.length + 1) left [x] [] []).1).2 := rfl
    have hl : (dfs e cols (left.length + 1) left [x] [] []).1 = [] := by
      cases hd : (dfs e cols (left.length + 1) left [x] [] []).1 with
      | nil => rfl
      | cons y r =>
        rw [hd] at e1
        have hlen := (dfs_sub (e := e) (cols := cols) (left.length + 1) left [x] [] []).length_le
        rw [hd] at hlen
        obtain ⟨m, hm⟩ : ∃ m, left.length = m + 1 := ⟨left.length - 1, by simp at hlen; omega⟩
        rw [hm, cls_cons] at e1
        rw [e1] at h
        simp at h
    rw [hl, cls_nil, List.append_nil] at e2
    rw [e2]
    have hp := dfs_perm (e := e) (cols := cols) (left.length + 1) left [x] [] [] (by simp)
    rw [hl, List.nil_append, List.append_nil] at hp
    have hp2 : (dfs e cols (left.length + 1) left [x] [] []).2.1.Perm (x :: left) := hp.trans (List.perm_append_comm.trans (by simp))
    have cmp : CompR (lkR (dfs e cols (left.length + 1) left [x] [] []).2.2) (x :: left) x (· ∈ (dfs e cols (left.length + 1) left [x] [] []).2.1) := by
      refine ⟨fun a h => hp2.subset h, hp2.symm.subset (by simp), fun a o _ ho _ => hp2.symm.subset ho, fun T hT hc a haa => ?_⟩
      exact dfs_reach (L := x :: left) _ _ _ _ _ (fun a h => List.mem_cons_of_mem _ h) (fun a h => by simp at h; simp [h]) hc (fun a h => by simp at h; rw [h]; exact hT) a haa
    have nd : (dfs e cols (left.length + 1) left [x] [] []).2.1.Nodup := hp2.nodup_iff.mpr (ha.imp fun h => by omega)
    have := hang_found (rows := x :: left) ha (by simp) nd cmp
    rw [← this, decide_eq_true (srt_eq hp2 ha)]
theorem lnkOf_lkD (ls : Lks) : (ls.map lkD).map lnkOf = ls := by
  rw [List.map_map]
  exact List.map_id' ls
theorem links_true {n : Nat} {rows : List Int} (lr : Ln n rows) (h : ¬ (classes e cols rows).length > 1) : linksB e rows cols (.tup ((links e cols rows).map lkD)) = true := by
  simp only [linksB, lnkOf_lkD, one_class lr h, Bool.and_true, List.all_map, List.all_eq_true]
  intro l hl
  have : ∃ r o, r ∈ rows ∧ o ∈ rows ∧ lkB e cols r o = true ∧ l = (r, o, lkC e cols r o) :=
    cls_links_ok (e := e) (cols := cols) (P := fun l => ∃ r o, r ∈ rows ∧ o ∈ rows ∧ lkB e cols r o = true ∧ l = (r, o, lkC e cols r o)) (L0 := rows) (fun r hr o ho h => ⟨r, o, hr, ho, h, rfl⟩) _ rows (fun a h => h) l hl
  obtain ⟨r, o, hr, ho, hk, rfl⟩ := this
  have := lkC_ok hk
  exact lnk_iff.mpr ⟨r, o, _, rfl, hr, ho, this.1, this.2⟩
theorem cls_true {n : Nat} {rows : List Int} (lr : Ln n rows) (h : (classes e cols rows).length > 1) : clsB e n rows cols (.tup ((classes e cols rows).map lnD)) = true := by
  have ok := classes_ok (e := e) (cols := cols) lr
  have hm : ((classes e cols rows).map lnD).map intsOf = classes e cols rows := by
    rw [List.map_map]
    exact (List.map_congr_left fun c _ => ints_lnD c).trans (List.map_id' _)
  have hall : (((classes e cols rows).map lnD).all fun x => linesB x n) = true := by
    rw [List.all_map, List.all_eq_true]
    exact fun c hc => ln_lines (classes_ln lr hc)
  simp only [clsB]
  rw [hm, hall, decide_eq_true (srt_eq ok.perm lr.asc), ok.apart, decide_eq_true (by rw [List.length_map]; omega)]
  rfl
end
theorem tree_true {sq : Sq} (wf : Wf sq) : ∀ (n m : Nat) (rows cols : List Int), n ≤ m → Ln sq.length rows → Ln (wid sq) cols → rows.length + cols.length ≤ n → (paperM n sq rows cols).1 = true → isTreeM m sq rows cols (paperM n sq rows cols).2 = true
  | 0, m, rows, cols, _, lr, lc, hn, _ => by
    have := lr.pos
    omega
  | n + 1, 0, rows, cols, h, _, _, _, _ => by omega
  | n + 1, m + 1, rows, cols, hm, lr, lc, hn, hf => by
    have lc' := wf_turnC wf lc
    have lr' := wf_turnR wf lr
    have hsz : ∀ (cs : List (List Int)) (f : List Int → Bool × Dat), (cs.zip (cs.map f)).all (fun p => p.2.1) = true → ∀ g : List Int → Dat → Bool, (∀ c ∈ cs, (f c).1 = true → g c (f c).2 = true) → (∀ c ∈ cs, (f c).1 = true) → (cs.zip ((cs.map f).map (·.2))).all (fun p => g p.1 p.2) = true := fun cs f _ g h1 h2 => by
      rw [List.all_eq_true]
      intro p hp
      rw [List.map_map, List.zip_map_right, List.mem_map] at hp
      obtain ⟨q, hq, rfl⟩ := hp
      have hqe : q.1 = q.2 ∧ q.1 ∈ cs := by
        have := List.of_mem_zip (show (q.1, q.2) ∈ cs.zip cs from hq)
        refine ⟨?_, this.1⟩
        obtain ⟨i, hi, e⟩ := List.mem_iff_getElem.mp hq
        rw [List.getElem_zip] at e
        rw [← e]
      show g q.1 (f q.2).2 = true
      rw [← hqe.1]
      exact h1 q.1 hqe.2 (h2 q.1 hqe.2)
    unfold paperM at hf ⊢
    split
    · rename_i hfl
      simp only [isTreeM, hfl, decide_true, Bool.true_and, Bool.and_true, intOf]
      have hb := lr.bd _ lr.head
      have hc := lc.bd _ lc.head
      obtain ⟨row, h1, h2, h3⟩ := ent_get wf (i := (rows.headD 0).toNat) (j := (cols.headD 0).toNat) (by omega) (by omega)
      have he := wf.ent row (List.mem_of_getElem? h1) _ (List.mem_of_getElem? h2)
      rw [show (((rows.headD 0).toNat : Nat) : Int) = rows.headD 0 by omega, show (((cols.headD 0).toNat : Nat) : Int) = cols.headD 0 by omega] at he
      exact decide_eq_true he
    · rename_i hfl
      rw [if_neg hfl] at hf
      split
      · rename_i hcl
        rw [if_pos hcl, joinM_flag, List.all_map, List.all_eq_true] at hf
        have hj : joinM "rows" (classes (ent sq) cols rows) ((classes (ent sq) cols rows).map fun lot => paperM n sq lot cols) = (true, .tup [.str "rows", .tup ((classes (ent sq) cols rows).map lnD), .tup (((classes (ent sq) cols rows).map fun lot => paperM n sq lot cols).map (·.2))]) := by
          unfold joinM
          rw [List.filter_eq_nil_iff.mpr]
          intro p hp
          obtain ⟨lot, hlot, rfl⟩ := List.mem_map.mp hp
          simpa using hf lot hlot
        rw [hj]
        have hmi : ((items (.tup ((classes (ent sq) cols rows).map lnD))).map intsOf) = classes (ent sq) cols rows := by
          show ((classes (ent sq) cols rows).map lnD).map intsOf = _
          rw [List.map_map]
          exact (List.map_congr_left fun c _ => ints_lnD c).trans (List.map_id' _)
        rw [isTreeM]
        simp only [if_true, cls_true lr hcl, hmi, Bool.true_and]
        rw [Bool.and_eq_true]
        refine ⟨decide_eq_true ?_, hsz _ (fun lot => paperM n sq lot cols) (by
          rw [List.all_eq_true]
          intro p hp
          rw [List.zip_map_right, List.mem_map] at hp
          obtain ⟨q, hq, rfl⟩ := hp
          exact hf q.2 (List.of_mem_zip (show (q.1, q.2) ∈ _ from hq)).2) (fun lot t => isTreeM m sq lot cols t) (fun lot hlot hfl => ?_) hf⟩
        · show _ = (List.map lnD _).length
          simp
        · have := classes_small lr hlot hcl
          exact tree_true wf n m lot cols (by omega) (classes_ln lr hlot) lc (by omega) hfl
      · rename_i hcl
        rw [if_neg hcl] at hf
        split
        · rename_i hcl2
          rw [if_pos hcl2, joinM_flag, List.all_map, List.all_eq_true] at hf
          have hj : joinM "columns" (classes (ent (turn sq)) rows cols) ((classes (ent (turn sq)) rows cols).map fun lot => paperM n sq rows lot) = (true, .tup [.str "columns", .tup ((classes (ent (turn sq)) rows cols).map lnD), .tup (((classes (ent (turn sq)) rows cols).map fun lot => paperM n sq rows lot).map (·.2))]) := by
            unfold joinM
            rw [List.filter_eq_nil_iff.mpr]
            intro p hp
            obtain ⟨lot, hlot, rfl⟩ := List.mem_map.mp hp
            simpa using hf lot hlot
          rw [hj]
          have hmi : ((items (.tup ((classes (ent (turn sq)) rows cols).map lnD))).map intsOf) = classes (ent (turn sq)) rows cols := by
            show ((classes (ent (turn sq)) rows cols).map lnD).map intsOf = _
            rw [List.map_map]
            exact (List.map_congr_left fun c _ => ints_lnD c).trans (List.map_id' _)
          rw [isTreeM]
          have hne : ¬ (("columns" : Str) = "rows") := by decide
          simp only [if_neg hne, if_true, cls_true lc' hcl2, hmi, Bool.true_and]
          rw [Bool.and_eq_true]
          refine ⟨decide_eq_true ?_, hsz _ (fun lot => paperM n sq rows lot) (by
            rw [List.all_eq_true]
            intro p hp
            rw [List.zip_map_right, List.mem_map] at hp
            obtain ⟨q, hq, rfl⟩ := hp
            exact hf q.2 (List.of_mem_zip (show (q.1, q.2) ∈ _ from hq)).2) (fun lot t => isTreeM m sq rows lot t) (fun lot hlot hfl => ?_) hf⟩
          · show _ = (List.map lnD _).length
            simp
          · have := classes_small lc' hlot hcl2
            have l1 := classes_ln lc' hlot
            rw [turn_len] at l1
            exact tree_true wf n m rows lot (by omega) lr l1 (by omega) hfl
        · rename_i hcl2
          rw [if_neg hcl2] at hf
          cases hf
theorem locked_true {sq : Sq} (wf : Wf sq) : ∀ (n : Nat) (rows cols : List Int), Ln sq.length rows → Ln (wid sq) cols → rows.length + cols.length ≤ n → (paperM n sq rows cols).1 = false → isLockedM sq (items (paperM n sq rows cols).2) = true
  | 0, rows, cols, lr, lc, hn, _ => by
    have := lr.pos
    omega
  | n + 1, rows, cols, lr, lc, hn, hf => by
    have lc' := wf_turnC wf lc
    have lr' := wf_turnR wf lr
    have join : ∀ (w : Str) (cs : List (List Int)) (f : List Int → Bool × Dat), (joinM w cs (cs.map f)).1 = false → (∀ c ∈ cs, (f c).1 = false → isLockedM sq (items (f c).2) = true) → isLockedM sq (items (joinM w cs (cs.map f)).2) = true := fun w cs f h1 h2 => by
      unfold joinM at h1 ⊢
      cases hfl : (cs.map f).filter fun p => !p.1 with
      | nil => rw [hfl] at h1; cases h1
      | cons p l =>
        have : p ∈ (cs.map f).filter fun p => !p.1 := by rw [hfl]; exact List.mem_cons_self
        have := List.mem_filter.mp this
        obtain ⟨c, hc, rfl⟩ := List.mem_map.mp this.1
        exact h2 c hc (by simpa using this.2)
    unfold paperM at hf ⊢
    split
    · rename_i hfl
      rw [if_pos hfl] at hf
      cases hf
    · rename_i hfl
      rw [if_neg hfl] at hf
      split
      · rename_i hcl
        rw [if_pos hcl] at hf
        refine join _ _ _ hf fun lot hlot h => ?_
        have := classes_small lr hlot hcl
        exact locked_true wf n lot cols (classes_ln lr hlot) lc (by omega) h
      · rename_i hcl
        rw [if_neg hcl] at hf
        split
        · rename_i hcl2
          rw [if_pos hcl2] at hf
          refine join _ _ _ hf fun lot hlot h => ?_
          have := classes_small lc' hlot hcl2
          have l1 := classes_ln lc' hlot
          rw [turn_len] at l1
          exact locked_true wf n rows lot lr l1 (by omega) h
        · rename_i hcl2
          have hfl2 : flat (ent sq) rows cols = false := by simpa using hfl
          simp only [items, isLockedM, ints_lnD, ln_lines lr, ln_lines lc, hfl2, links_true lr hcl, links_true lc' hcl2]
          rfl
theorem paper_true {sq : Sq} (wf : Wf sq) {n m : Nat} (hn : sq.length + wid sq ≤ n) (hm : n ≤ m) : isPaper m sq (wholeD (paperM n sq (upto sq.length) (upto (wid sq)))) = true := by
  have lr := upto_ln (List.length_pos_iff.mpr wf.ne)
  have lc := upto_ln wf.w0
  have hl : (upto sq.length).length + (upto (wid sq)).length ≤ n := by rw [upto_len, upto_len]; exact hn
  cases hf : (paperM n sq (upto sq.length) (upto (wid sq))).1 with
  | true =>
    unfold wholeD
    rw [hf, if_pos rfl]
    unfold isPaper
    simp only [if_true]
    exact tree_true wf n m _ _ hm lr lc hl hf
  | false =>
    unfold wholeD
    rw [hf, if_neg Bool.false_ne_true]
    unfold isPaper
    have hne : ¬ (("locked" : Str) = "tree") := by decide
    simp only [if_neg hne, decide_true, Bool.true_and]
    exact locked_true wf n _ _ lr lc hl hf

end Kw
namespace Kw
open PySem PyProof.Rows Srt SrtO
/-! ## sorted(..) of a tuple: its items go into a list, that list is copied, the copy is sorted -/
section
variable {xs : List Value} {g : Heap}
/-- behind the collecting -/
def hGot (g : Heap) (xs : List Value) : Heap := (g.push (seqObj "list" #[] 0)).update g.objs.size (Obj.mapSeq (· ++ xs.toArray))
/-- behind the copying -/
def hCopy (g : Heap) (xs : List Value) : Heap := (hGot g xs).push (seqObj "list" xs.toArray 0)
theorem hGot_size : (hGot g xs).objs.size = g.objs.size + 1 := (Heap.size_update _ _ _).trans (size_push' _ _)
theorem hCopy_at : (hCopy g xs).get? (g.objs.size + 1) = some (seqObj "list" xs.toArray 0) := hGot_size (g := g) (xs := xs) ▸ Heap.get?_push_size (hGot g xs) rfl
theorem hCopy_old {b : Addr} {o : Obj} (e : g.get? b = some o) : b ≠ g.objs.size + 1 ∧ (hCopy g xs).get? b = some o := by
  have small := Heap.lt_size e
  have first : (hGot g xs).get? b = some o := by
    unfold hGot
    have other := Heap.get?_update_ne (g.push (seqObj "list" #[] 0)) b g.objs.size (Obj.mapSeq (· ++ xs.toArray)) (Nat.ne_of_lt small)
    exact other.trans (Heap.get?_push_of_some _ e)
  exact ⟨Nat.ne_of_lt (Nat.lt_succ_of_lt small), Heap.get?_push_of_some _ first⟩
variable {prog : Program} {w : World} {A : Around} {E : Value → Shared → Prop} {s : Shared} {t : Addr}
theorem collect_tup {R : List Value → Shared → Prop} (ht : IsTup s.heap t xs.toArray) (small : xs.length ≤ sizeLine) (r : R xs { s with heap := hGot s.heap xs }) : wpAny (model prog w) A (collect (.ref t)) R E s := by
  rcases ht with ⟨ob, at_, cls, k, data⟩
  have new0 : (s.heap.push (seqObj "list" #[] 0)).get? s.heap.objs.size = some (seqObj "list" #[] 0) := Heap.get?_push_size _ rfl
  have old : (s.heap.push (seqObj "list" #[] 0)).get? t = some ob := Heap.get?_push_of_some _ at_
  have fit : ((#[] : Array Value) ++ xs.toArray).size ≤ sizeLine + 1 := by
    simp only [Array.size_append, List.size_toArray, List.length_nil]
    omega
  have back : ((#[] : Array Value) ++ xs.toArray).toList = xs := by simp
  have yes : (Value.type "tuple" == Value.type "tuple") = true := rfl
  have ext : ∀ A' E', wpAny (model prog w) A' (Builtin.List.listExtendWith (.ref s.heap.objs.size) (.ref t) (.ref s.heap.objs.size)) (fun f s' => f = .done (.ret (.ref s.heap.objs.size)) ∧ s' = { s with heap := hGot s.heap xs }) E' { s with heap := s.heap.push (seqObj "list" #[] 0) } := fun A' E' => by
    unfold Builtin.List.listExtendWith
    refine wpAny_bind (wpAny_typeOf (T := "tuple") (v := .ref t) ⟨ob, old, cls⟩ ?_)
    rw [if_pos (by rw [yes]; simp)]
    refine wpAny_bind (listItems_at old data (wpAny_bind (listItems_at new0 rfl ?_)))
    rw [if_neg (by simp)]
    exact wpAny_bind (listUpdate_at new0 rfl (wpAny_pure ⟨rfl, rfl⟩) (Nat.zero_le _) fit)
  unfold collect
  refine wpAny_bind (wpAny_runValue (codeAny_builtin entry_proto_collect' (wpAny_bind (wpAny_newList (wpAny_pure ⟨Code.quiet_builtin _ (by decide +kernel), codeAny_builtin entry_list_iadd' ?_⟩)))))
  refine wpAny_mono (ext _ _) (fun f s' e => ?_) fun _ _ x => x
  obtain ⟨ef, es⟩ := e
  subst ef es
  refine wpAny_bind (wpAny_load (get?_update_seq new0 (· ++ xs.toArray)) (wpAny_pure ?_))
  show R ((#[] : Array Value) ++ xs.toArray).toList _
  rw [back]
  exact r
theorem sorted_tup {lt : Value → Value → Bool} {R : Value → Shared → Prop} (O : Swo lt) (ht : IsTup s.heap t xs.toArray) (small : xs.length ≤ sizeLine)
    (can : 2 ≤ xs.length → ∀ (g : Heap) (a : Addr), g.get? a = some (seqObj "list" xs.toArray 0) → (∀ b o, s.heap.get? b = some o → b ≠ a ∧ g.get? b = some o) → SortableO prog w A.in1.in1 { s with heap := g } a xs lt)
    (r : ∀ ys : List Value, Srtd lt ys → Stb lt ys xs → R (.ref (s.heap.objs.size + 1)) { s with heap := sortedAll s.heap xs ys.toArray }) : wpAny (model prog w) A (call (.builtin "sorted") [.ref t]) R E s := by
  have at2 := hCopy_at (g := s.heap) (xs := xs)
  have own := fun two => can two _ _ at2 fun b o e => hCopy_old e
  refine Calls.call_function_entry kind_sorted plain_sorted entry_sorted (args_sorted1 (.ref t)) ?_
  unfold Builtin.«sorted»
  refine wpAny_bind (wpAny_pure (a := ()) ?_)
  refine wpAny_bind (collect_tup ht small (wpAny_bind (wpAny_newList ?_ small)))
  change wpAny _ _ _ _ _ { s with heap := hCopy s.heap xs }
  rw [show ({ s with heap := hGot s.heap xs } : Shared).heap.objs.size = s.heap.objs.size + 1 from hGot_size]
  refine wpAny_bind (wpAny_holding (wpAny_call_entry slot_list_sort ⟨_, at2, rfl⟩ entry_list_sort (list_sort_ord O at2 small own ?_) (args_list_sort _)))
  exact fun ys s1 s2 => ⟨_, rfl, wpAny_pure ⟨_, rfl, r ys s1 s2⟩⟩
end
end Kw
namespace Kw
open PySem PySem.Spec PyProof.Rows L2
/-- sorted(a tuple of ints) -/
def rSortedU (K : PySem.W.Frag) : List V → Hp → VK → Prop := fun vs H Q => ∃ (a : Addr) (ns : List Int), vs = [.ref a] ∧ SqT K H a (ns.map V.int) ∧
  (∀ (ms : List Int) (p : Addr), ms.Perm ns → ms.Pairwise (· ≤ ·) → H p = none → Q (.ref p) (upd H p (.lst (ms.map V.int))))
theorem cr_sortedU {X : Cx} : CallR X (.builtin "sorted") (rSortedU X.K) := by
  rintro pins s σ H vs us Q I hv ⟨a, ns, rfl, ht, q⟩
  obtain ⟨its, rel, tup, hz⟩ := I.tuple ht
  have allI := rel.ints
  have nl : ns.length ≤ sizeLine := by simpa using hz
  rw [Vals.ref1 hv]
  refine sorted_tup SrtO.swo_int tup (rel.length ▸ hz) (fun two _ _ _ _ => SrtO.ints_sortable allI two) fun ys s1 s2 => ?_
  have ⟨i1, i2, i3⟩ := SrtO.ints_out allI s1 s2
  have ⟨c, there⟩ := PyProof.Rows.sortedAll_at s.heap its ys.toArray
  have fits : ((ys.map SrtO.iv).map V.int).length ≤ sizeLine := by rw [List.length_map, i2.length_eq]; exact nl
  have I2 := I.laid (o := .lst ((ys.map SrtO.iv).map V.int)) (t' := s.toks) (fun _ _ => PyProof.Rows.sortedAll_old) (Nat.le_succ _) ⟨fits, ys, c, vals_of_ints i1, there⟩
  exact ⟨V.ref (s.heap.objs.size + 1), _, I2, rfl, q _ _ i2 i3 (I.hok.fresh (Nat.le_succ _))⟩
end Kw
namespace Kw
open PySem PySem.Spec PyProof.Rows L2 Evl
theorem k_sortedU {X : Cx} {K : PySem.W.Frag} (h : X.K = K) : CallR X (.builtin "sorted") (rSortedU K) := h ▸ cr_sortedU
theorem nsortedU {K : PySem.W.Frag} {σ : L2.St} {H : Hp} {te : TE} {ns ms' : List Int} (h : EvD te σ H (lnD ns)) (hp : ms'.Perm ns) (hs : ms'.Pairwise (· ≤ ·)) : EvN (tCB (rSortedU K) (tCons te tNil)) σ H (ms'.map Dat.int) := fun H1 e1 Q q => h H1 e1 _ fun x H2 e2 ⟨a, xs, hx, hH, hl⟩ => by
  rw [dvl_ints.mp hl] at hH
  refine ⟨a, ns, by rw [hx], SqT.of hH, fun ns' p hperm hsort hp' => ?_⟩
  have e : ns' = ms' := List.Perm.eq_of_pairwise (fun a b _ _ h1 h2 => Int.le_antisymm h1 h2) hsort hs (hperm.trans hp.symm)
  subst e
  exact q p _ _ (fresh_back e2 hp') (e2.trans (Ex.new hp')) upd_same (dvl_ints.mpr rfl)
theorem wd_mk {ds : List Dat} (hl : ds.length ≤ 24) (h : ∀ d ∈ ds, d.wd = true) : (Dat.tup ds).wd = true := wd_tup.mpr ⟨hl, h⟩
theorem wd_ln {ns : List Int} (h : ns.length ≤ 24) : (lnD ns).wd = true := wd_mk (by rw [List.length_map]; exact h) fun d hd => by
  obtain ⟨n, _, rfl⟩ := List.mem_map.mp hd
  rfl
theorem wd_lks {ls : Lks} (h : ls.length ≤ 24) : (Dat.tup (ls.map lkD)).wd = true := wd_mk (by rw [List.length_map]; exact h) fun d hd => by
  obtain ⟨n, _, rfl⟩ := List.mem_map.mp hd
  rfl
theorem wd_lns {cs : List (List Int)} (h : cs.length ≤ 24) (h2 : ∀ c ∈ cs, c.length ≤ 24) : (Dat.tup (cs.map lnD)).wd = true := wd_mk (by rw [List.length_map]; exact h) fun d hd => by
  obtain ⟨n, hn, rfl⟩ := List.mem_map.mp hd
  exact wd_ln (h2 n hn)
theorem joinM_wd {w : Str} {cs : List (List Int)} {ps : List (Bool × Dat)} (h1 : cs.length ≤ 24) (h2 : ∀ c ∈ cs, c.length ≤ 24) (h3 : ps.length ≤ 24) (h4 : ∀ p ∈ ps, p.2.wd = true) : (joinM w cs ps).2.wd = true := by
  unfold joinM
  split
  · rename_i p l h
    have : p ∈ ps.filter fun p => !p.1 := by rw [h]; exact List.mem_cons_self
    exact h4 p (List.mem_filter.mp this).1
  · refine wd_mk (by simp) fun d hd => ?_
    simp only [List.mem_cons, List.not_mem_nil, or_false] at hd
    rcases hd with rfl | rfl | rfl
    · rfl
    · exact wd_lns h1 h2
    · refine wd_mk (by rw [List.length_map]; exact h3) fun d hd => ?_
      obtain ⟨p, hp, rfl⟩ := List.mem_map.mp hd
      exact h4 p hp
theorem paper_wd {sq : Sq} (wf : Wf sq) : ∀ (n : Nat) {rows cols : List Int}, Ln sq.length rows → Ln (wid sq) cols → (paperM n sq rows cols).2.wd = true
  | 0, rows, cols, lr, lc => rfl
  | n + 1, rows, cols, lr, lc => by
    have r12 := Nat.le_trans lr.len wf.len
    have c12 := Nat.le_trans lc.len wf.w12
    have lc' := wf_turnC wf lc
    have cl1 := classes_len (e := ent sq) (cols := cols) lr
    have cl2 := classes_len (e := ent (turn sq)) (cols := rows) lc'
    have ok1 := classes_ok (e := ent sq) (cols := cols) lr
    have ok2 := classes_ok (e := ent (turn sq)) (cols := rows) lc'
    unfold paperM
    split
    · rfl
    · split
      · refine joinM_wd (by omega) (fun c hc => ?_) (by rw [List.length_map]; omega) fun p hp => ?_
        · have := ((ok1.lot c hc).2).length_le
          omega
        · obtain ⟨lot, hlot, rfl⟩ := List.mem_map.mp hp
          exact paper_wd wf n (classes_ln lr hlot) lc
      · split
        · refine joinM_wd (by omega) (fun c hc => ?_) (by rw [List.length_map]; omega) fun p hp => ?_
          · have := ((ok2.lot c hc).2).length_le
            omega
          · obtain ⟨lot, hlot, rfl⟩ := List.mem_map.mp hp
            have l1 := classes_ln lc' hlot
            rw [turn_len] at l1
            exact paper_wd wf n lr l1
        · refine wd_mk (by simp) fun d hd => ?_
          have k1 := ok1.links
          have k2 := ok2.links
          simp only [List.mem_cons, List.not_mem_nil, or_false] at hd
          rcases hd with rfl | rfl | rfl | rfl
          · exact wd_ln (by omega)
          · exact wd_ln (by omega)
          · exact wd_lks (by omega)
          · exact wd_lks (by omega)
/-- what a tree looks like -/
theorem tree_shape {sq : Sq} (wf : Wf sq) {n : Nat} {rows cols : List Int} (lr : Ln sq.length rows) (lc : Ln (wid sq) cols) (hf : (paperM (n + 1) sq rows cols).1 = true) :
    (∃ e, (paperM (n + 1) sq rows cols).2 = .tup [.str "flat", .int e]) ∨ ∃ (w : Str) (cs : List (List Int)) (ts : List Dat), (paperM (n + 1) sq rows cols).2 = .tup [.str w, .tup (cs.map lnD), .tup ts] ∧ w ≠ "flat" ∧ 2 ≤ cs.length ∧ cs.length ≤ 12 ∧ ts.length ≤ 12 ∧ (cs.getD 0 []).length + (cs.getD 1 []).length ≤ 24 ∧ ∀ c ∈ cs, c.length ≤ 12 := by
  have r12 := Nat.le_trans lr.len wf.len
  have c12 := Nat.le_trans lc.len wf.w12
  have lc' := wf_turnC wf lc
  have cl1 := classes_len (e := ent sq) (cols := cols) lr
  have cl2 := classes_len (e := ent (turn sq)) (cols := rows) lc'
  have ok1 := classes_ok (e := ent sq) (cols := cols) lr
  have ok2 := classes_ok (e := ent (turn sq)) (cols := rows) lc'
  have two : ∀ cs : List (List Int), (∀ c ∈ cs, c.length ≤ 12) → (cs.getD 0 []).length + (cs.getD 1 []).length ≤ 24 := fun cs h => by
    have g : ∀ i, (cs.getD i []).length ≤ 12 := fun i => by
      by_cases hi : i < cs.length
      · rw [List.getD_eq_getElem?_getD, List.getElem?_eq_getElem hi]
        exact h _ (List.getElem_mem hi)
      · rw [List.getD_eq_getElem?_getD, List.getElem?_eq_none (by omega)]
        simp
    have := g 0
    have := g 1
    omega
  have join : ∀ (w : Str) (cs : List (List Int)) (f : List Int → Bool × Dat), (joinM w cs (cs.map f)).1 = true → joinM w cs (cs.map f) = (true, .tup [.str w, .tup (cs.map lnD), .tup ((cs.map f).map (·.2))]) := fun w cs f h => by
    unfold joinM at h ⊢
    cases hfl : (cs.map f).filter fun p => !p.1 with
    | nil => rfl
    | cons p l => rw [hfl] at h; cases h
  unfold paperM at hf ⊢
  by_cases h1 : flat (ent sq) rows cols = true
  · rw [if_pos h1]
    exact .inl ⟨_, rfl⟩
  · rw [if_neg h1] at hf ⊢
    by_cases h2 : (classes (ent sq) cols rows).length > 1
    · rw [if_pos h2] at hf ⊢
      rw [join _ _ _ hf]
      have hc : ∀ c ∈ classes (ent sq) cols rows, c.length ≤ 12 := fun c hc => by
        have := ((ok1.lot c hc).2).length_le
        omega
      exact .inr ⟨_, _, _, rfl, by decide, by omega, by omega, by simp; omega, two _ hc, hc⟩
    · rw [if_neg h2] at hf ⊢
      by_cases h3 : (classes (ent (turn sq)) rows cols).length > 1
      · rw [if_pos h3] at hf ⊢
        rw [join _ _ _ hf]
        have hc : ∀ c ∈ classes (ent (turn sq)) rows cols, c.length ≤ 12 := fun c hc => by
          have := ((ok2.lot c hc).2).length_le
          omega
        exact .inr ⟨_, _, _, rfl, by decide, by omega, by omega, by simp; omega, two _ hc, hc⟩
      · rw [if_neg h3] at hf
        cases hf
def spDice (K : PySem.W.Frag) : Sp := fun vs H Q _ => ∃ (s : Addr) (ns : List Int) (k : Nat), vs = [.ref s, .int (k : Int)] ∧ SqL K H s (ns.map V.int) ∧ ns.length ≤ 63 ∧ k ≤ 3 ∧ ∀ p l c e H', H p = none → Ex H H' → H' p = some (.lst [.int l, .int c, .int e]) → Q (.ref p) H'
section
variable {P : Program} {w : World} {K : PySem.W.Frag} {mg : Str → Option Value} {base : Heap}
theorem dabs {σ : L2.St} {H : Hp} {te : TE} {i : Int} (h : EvD te σ H (.int i)) : EvD (tCB (fun xs H Q => ∃ i, xs = [.int i] ∧ Q (.int (if i < 0 then -i else i)) H) (tCons te tNil)) σ H (.int (if i < 0 then -i else i)) := fun H1 e1 Q q => h H1 e1 _ fun x H2 e2 hx => ⟨i, by rw [show x = _ from hx], q _ H2 e2 rfl⟩
theorem dmax2 {σ : L2.St} {H : Hp} {ta tb : TE} {i j : Int} (h : EvD ta σ H (.int i)) (g : EvD tb σ H (.int j)) : EvD (tCB (fun xs H Q => ∃ i j, xs = [.int i, .int j] ∧ Q (.int (if j > i then j else i)) H) (tCons ta (tCons tb tNil))) σ H (.int (if j > i then j else i)) := fun H1 e1 Q q => h H1 e1 _ fun x H2 e2 hx => g H2 (e1.trans e2) _ fun y H3 e3 hy => ⟨i, j, by rw [show x = _ from hx, show y = _ from hy], q _ H3 (e2.trans e3) rfl⟩
theorem dmin2 {σ : L2.St} {H : Hp} {ta tb : TE} {i j : Int} (h : EvD ta σ H (.int i)) (g : EvD tb σ H (.int j)) : EvD (tCB (fun xs H Q => ∃ i j, xs = [.int i, .int j] ∧ Q (.int (if j < i then j else i)) H) (tCons ta (tCons tb tNil))) σ H (.int (if j < i then j else i)) := fun H1 e1 Q q => h H1 e1 _ fun x H2 e2 hx => g H2 (e1.trans e2) _ fun y H3 e3 hy => ⟨i, j, by rw [show x = _ from hx, show y = _ from hy], q _ H3 (e2.trans e3) rfl⟩
theorem dpow {σ : L2.St} {H : Hp} {ta tb : TE} {i j : Int} (h : EvD ta σ H (.int i)) (g : EvD tb σ H (.int j)) (hc : CPow i j) : EvD (tOp (rI CPow fun i j => .int (i ^ j.toNat)) ta tb) σ H (.int (i ^ j.toNat)) := dI h g hc fun _ => rfl
theorem dlenK {σ : L2.St} {H : Hp} {s : Addr} {xs : List V} {k : Nat} (hk : σ[k]? = some (some (.ref s))) (h : SqL K H s xs) : EvD (tCB (rLenS K) (tCons (tVar k) tNil)) σ H (.int (xs.length : Nat)) := fun H1 e1 Q q => ⟨_, hk, s, xs, rfl, .inl (ex_l e1 h), q _ H1 (Ex.refl _) rfl⟩
theorem ok_L_dice (T : Txt K mg) : FnOk P w K mg base CX0 1 T.a_L_dice T.d_L_dice ["_law_script", "_law_spot"] (spDice K) := by
  refine T.F_L_dice.ok sc_L_dice (fun vs H Q E h => ?_) (fun cdv A outer s H vs Q E hr h => ?_)
  · obtain ⟨s, ns, k, rfl, _⟩ := h
    rfl
  · obtain ⟨s', ns, k, rfl, hS, hl, hk, q⟩ := h
    refine ⟨_, (pss_cons (ps_set (i := 2) sc_L_dice.nd rfl (.inl rfl) (pe_ifExp (pt_cmpR op_lt (pv 1) (pe_callB (k_len (K := K) rfl) (by rfl) T.z_len (by decide +kernel) (pa_cons (pv 0) pa_nil)) (nomark _)) (pe_callTy call_int1 (by rfl) T.z_int (by decide +kernel) (pa_cons (pe_ix (k_ixL (K := K) rfl) (pv 0) (pv 1) (fun _ _ => rfl)) pa_nil)) (pe_op op_add (pe_op op_mul pe_int (pv 1)) pe_int)))
      (pss_cons (ps_set (i := 3) sc_L_dice.nd rfl (.inl rfl) (pe_op op_modN (pe_callB (call_max2 rfl) (by rfl) T.z_max (by decide +kernel) (pa_cons pe_int (pa_cons (pe_op op_sub (pe_callB call_abs (by rfl) T.z_abs (by decide +kernel) (pa_cons (pv 2) pa_nil)) (pe_op op_pow pe_int pe_int)) pa_nil))) (pe_op op_mulW (pe_op op_pow pe_int pe_int) (pe_op op_pow pe_int pe_int))))
      (pss_one (ps_ret (pe_lst (pa_cons (pv 3) (pa_cons (pe_op op_add (pe_op op_add (pe_op op_add (pe_op op_mul (pe_op op_modN (pe_callB call_abs (by rfl) T.z_abs (by decide +kernel) (pa_cons (pv 2) pa_nil)) pe_int) pe_int) (pe_op op_mul pe_int (pv 1))) (pe_op op_mul pe_int (pe_callTy call_int1 (by rfl) T.z_int (by decide +kernel) (pa_cons (pe_cmpR op_lt (pv 2) pe_int (nomark _)) pa_nil)))) pe_int) (pa_cons pe_int pa_nil)))))))), ?_⟩
    have cell : ∃ cell : Int, EvD (tIf (tTest (tOp (rI0 fun i j => .bl (decide (i < j))) (tVar 1) (tCB (rLenS K) (tCons (tVar 0) tNil)))) (tCB (fun xs H Q => (∃ i, xs = [.int i] ∧ Q (.int i) H) ∨ ∃ k, xs = [.bl k] ∧ Q (.int (if k then 1 else 0)) H) (tCons (tOp (rIxL K) (tVar 0) (tVar 1)) tNil)) (tOp (rI0 fun i j => .int (i + j)) (tOp (rI CMul fun i j => .int (i * j)) (tC (.int 103)) (tVar 1)) (tC (.int 67)))) [some (.ref s'), some (.int (k : Int)), none, none] H (.int cell) := by
      by_cases hkl : k < ns.length
      · refine ⟨ns[k], dif (b := true) ((tst (dlt (dvar (d := .int (k : Int)) rfl rfl) (dlenK rfl hS))) |> fun h => et_is h ?_) (fun _ => dint1 ?_) fun z => by cases z⟩
        · rw [List.length_map]
          exact decide_eq_true (by omega)
        · intro H1 e1 Q q
          exact ⟨_, rfl, _, rfl, s', ns.map V.int, (k : Int), .int ns[k], rfl, rfl, ex_l e1 hS, atI_nat (by rw [List.getElem?_map, List.getElem?_eq_getElem hkl]; rfl), q _ H1 (Ex.refl _) rfl⟩
      · refine ⟨103 * (k : Int) + 67, dif (b := false) ((tst (dlt (dvar (d := .int (k : Int)) rfl rfl) (dlenK rfl hS))) |> fun h => et_is h ?_) (fun z => by cases z) fun _ => dadd (dmul dint (dvar (d := .int (k : Int)) rfl rfl) (.inl (by omega))) dint⟩
        rw [List.length_map]
        exact decide_eq_false (by omega)
    obtain ⟨cell, hcell⟩ := cell
    refine dq_asg hcell fun v H1 e1 hv => ?_
    refine dq_asg (dmod (dmax2 dint (dsub (dabs (dvar rfl hv)) (dpow dint dint ⟨by decide, by decide, by decide⟩))) (dI (C := CMulW) (g := fun i j => .int (i * j)) (dpow dint dint ⟨by decide, by decide, by decide⟩) (dpow dint dint ⟨by decide, by decide, by decide⟩) (by show _ < _; decide +kernel) fun _ => rfl) (by decide +kernel)) fun v2 H2 e2 hv2 => ?_
    have hv' := hv.mono e2
    have b1 := fmod_bd (i := if cell < 0 then -cell else cell) (m := 1152921504606846733) (by decide)
    refine (nlst (aC (dvar rfl hv2) (aC (dadd (dadd (dadd (dmul (dmod (dabs (dvar rfl hv')) dint (by decide)) dint (.inr (by omega))) (dmul dint (dvar (d := .int (k : Int)) rfl rfl) (.inl (by omega)))) (dmul dint (dint1b (dlt (dvar rfl hv') dint)) (.inl (by omega)))) dint) (aC dint aN))) (by simp)) H2 (Ex.refl _) _ fun p xs H3 hp e3 hH hx => ?_
    obtain ⟨x1, _, rfl, h1, x2, _, rfl, h2, h3⟩ := hx
    obtain ⟨x3, rfl, h3z⟩ := DvL.one h3
    rw [show x1 = _ from h1, show x2 = _ from h2, show x3 = _ from h3z] at hH
    exact q p _ _ _ H3 (fresh_back (e1.trans e2) hp) ((e1.trans e2).trans e3) hH
end

end Kw
namespace Kw
open PySem PySem.Spec PyProof.Rows L2 Evl
def spRight : Sp := fun vs H Q _ => ∃ a : Addr, vs = [.ref a] ∧ DiceAt H a ∧ ∀ H', Rl a H H' → Q (.bl true) H'
section
variable {K : PySem.W.Frag} {σ : L2.St} {a p : Addr} {H0 H : Hp} {te : TE} {d : Dat} {ds : List Dat} {ms : List (Addr × List Dat)} {i k : Nat} {D : Ends} {tz : TS}
theorem mdS_app (M : MutD a H0 ms H) (hm : ms[i]? = some (p, ds)) (hk : σ[k]? = some (some (.ref p))) (h : EvD te σ H d) (pd : d.plain = true) (hz : ds.length ≤ 1000) (q : ∀ H1, MutD a H0 (ms.set i (p, ds ++ [d])) H1 → Evo H H1 → D.nx σ H1) :
    tDrop (tBM K "list" rAppend (tVar k) (tCons te tNil)) D σ H := ⟨.ref p, hk, by
  obtain ⟨x, b, xs, c, l⟩ := M.mu.get hm
  refine ⟨.inl ⟨rfl, xs, sq_of c⟩, h H (Ex.refl _) _ fun v H1 e1 hv => ⟨p, xs, v, rfl, rfl, e1 _ _ c, by rw [l.len, sizeLine_eq]; show ds.length < _; omega, ?_⟩⟩
  refine q _ ((M.on e1).put hm ?_ ((l.mono e1).append (dvl_cons hv dvl_nil))) ((Evo.of e1).trans (Evo.upd (e1 _ _ c)))
  exact plainL_all.mpr fun d' hd' => by
    rcases List.mem_append.mp hd' with h1 | h1
    · exact plainL_all.mp b _ h1
    · simp at h1
      rw [h1]
      exact pd⟩
theorem mdq_app (M : MutD a H0 ms H) (hm : ms[i]? = some (p, ds)) (hk : σ[k]? = some (some (.ref p))) (h : EvD te σ H d) (pd : d.plain = true) (hz : ds.length ≤ 1000) (q : ∀ H1, MutD a H0 (ms.set i (p, ds ++ [d])) H1 → Evo H H1 → tz D σ H1) :
    tSeq (tDrop (tBM K "list" rAppend (tVar k) (tCons te tNil))) tz D σ H := mdS_app (D := { D with nx := tz D }) M hm hk h pd hz q
theorem dq_par {ta tb : TE} {e : Dat} {i j : Nat} (h1 : EvD ta σ H d) (h2 : EvD tb σ H e) (q : ∀ v u H1, Ex H H1 → Dv H1 d v → Dv H1 e u → tz D ((σ.set i (some v)).set j (some u)) H1) : tSeq (tPar i j (tCons ta (tCons tb tNil))) tz D σ H :=
  h1 H (Ex.refl _) _ fun v H1 e1 hv => h2 H1 e1 _ fun u H2 e2 hu => ⟨v, u, rfl, q v u H2 (e1.trans e2) (hv.mono e2) hu⟩
theorem drepr {b : Bool} (h : EvD te σ H (.bl b)) : EvD (tCB (fun xs H Q => ∃ b : Bool, xs = [.bl b] ∧ Q (.str (if b then "True" else "False")) H) (tCons te tNil)) σ H (.str (if b then "True" else "False")) := fun H1 e1 Q q => h H1 e1 _ fun x H2 e2 hx => ⟨b, by rw [show x = _ from hx], q _ H2 e2 rfl⟩
end
theorem whole_shape {sq : Sq} (wf : Wf sq) {n : Nat} {rows cols : List Int} (lr : Ln sq.length rows) (lc : Ln (wid sq) cols) : ∃ r, wholeD (paperM n sq rows cols) = .tup (.str (if (paperM n sq rows cols).1 then "tree" else "locked") :: r) ∧ ((paperM n sq rows cols).1 = true → r = [(paperM n sq rows cols).2]) ∧ r.length ≤ 4 ∧ (∀ d ∈ r, d.fits (2 * n + 4) = true) ∧ ∀ d ∈ r, d.wd = true := by
  have f := paper_fits wf n lr lc
  have g := paper_wd wf n lr lc
  unfold wholeD
  cases hf : (paperM n sq rows cols).1 with
  | true => exact ⟨[(paperM n sq rows cols).2], rfl, fun _ => rfl, by simp, fun d hd => by simp at hd; rw [hd]; exact f, fun d hd => by simp at hd; rw [hd]; exact g⟩
  | false =>
    obtain ⟨ds, e, e2⟩ := paper_locked n rows cols hf
    rw [e] at f g ⊢
    obtain ⟨m, hm, _, h2⟩ := fits_tup.mp f
    refine ⟨ds, rfl, fun z => (by cases z), by omega, fun d hd => fits_mono d (by omega) (h2 d hd), fun d hd => (wd_tup.mp g).2 d hd⟩
theorem word_tree (b : Bool) : decide ((if b then ("tree" : Str) else "locked") = "tree") = b := by cases b <;> rfl
theorem fitsN {n m : Nat} {d : Dat} (h : d.fits n = true) (hm : n ≤ m) : d.fits m = true := fits_mono d hm h
section
variable {P : Program} {w : World} {K : PySem.W.Frag} {mg : Str → Option Value} {base : Heap}
theorem ok_L_right (T : Txt K mg) : FnOk P w K mg base CX0 100 T.a_L_right T.d_L_right ["_law_dice_here"] spRight := by
  have G_L_bent := ok_L_bent (P := P) (w := w) (base := base) T 53
  have G_L_lk_drawn := ok_L_lk_drawn (P := P) (w := w) (base := base) T
  have G_L_lk_has_tree := ok_L_lk_has_tree (P := P) (w := w) (base := base) T 24
  have G_L_lk_is_paper := ok_L_lk_is_paper (P := P) (w := w) (base := base) T 60
  have G_L_pick := ok_L_pick (P := P) (w := w) (base := base) T
  have G_is_tree_paper := ok_is_tree_paper (P := P) (w := w) (base := base) T 60
  have G_tree_or_locked := ok_tree_or_locked (P := P) (w := w) (base := base) T 24
  refine T.F_L_right.ok sc_L_right (fun vs H Q E h => ?_) (fun cdv A outer s H vs Q E hr h => ?_)
  · obtain ⟨a, rfl, _⟩ := h
    rfl
  · obtain ⟨a, rfl, hd, q⟩ := h
    refine ⟨_, (pss_cons (ps_set (i := 1) sc_L_right.nd rfl (.inr rfl) (pe_call G_L_lk_drawn (hr.mono (by omega)) (by rfl) T.g_L_lk_drawn T.F_L_lk_drawn.kp T.b_L_lk_drawn .nil pass0 (pa_cons (pv 0) (pa_cons (pe_call G_L_pick (hr.mono (by omega)) (by rfl) T.g_L_pick T.F_L_pick.kp T.b_L_pick .nil pass0 (pa_cons (pv 0) (pa_cons (pe_lst (pa_cons pe_int (pa_cons pe_int (pa_cons pe_int (pa_cons pe_int (pa_cons pe_int pa_nil)))))) pa_nil))) pa_nil))))
      (pss_cons (ps_par (i := 2) (j := 3) rfl sc_L_right.nd rfl rfl (by decide) rfl rfl (pa_cons (pe_tupRg rfl (by rfl) T.z_tuple (prg_1 (by rfl) T.z_range (pe_callB (k_len (K := K) rfl) (by rfl) T.z_len (by decide +kernel) (pa_cons (pv 1) pa_nil)))) (pa_cons (pe_tupRg rfl (by rfl) T.z_tuple (prg_1 (by rfl) T.z_range (pe_callB (k_len (K := K) rfl) (by rfl) T.z_len (by decide +kernel) (pa_cons (pe_ix (k_ixT (K := K) rfl) (pv 1) pe_int (fun _ _ => rfl)) pa_nil)))) pa_nil)) (by rfl))
      (pss_cons (ps_set (i := 4) sc_L_right.nd rfl (.inl rfl) (pe_call G_tree_or_locked (hr.mono (by omega)) (by rfl) T.g_tree_or_locked T.F_tree_or_locked.kp T.b_tree_or_locked .nil pass0 (pa_cons (pv 1) pa_nil)))
      (pss_cons (ps_if (PW.pt (pw_or (pt_cmpR op_ne (pe_cmpR op_eq (pe_ix (k_ixT (K := K) rfl) (pv 4) pe_int (fun _ _ => rfl)) pe_str (nomark _)) (pe_call G_L_lk_has_tree (hr.mono (by omega)) (by rfl) T.g_L_lk_has_tree T.F_L_lk_has_tree.kp T.b_L_lk_has_tree .nil pass0 (pa_cons (pv 1) (pa_cons (pv 2) (pa_cons (pv 3) pa_nil)))) (nomark _)) (pw_or1 (pt_not (pt_val (pe_call G_L_lk_is_paper (hr.mono (by omega)) (by rfl) T.g_L_lk_is_paper T.F_L_lk_is_paper.kp T.b_L_lk_is_paper .nil pass0 (pa_cons (pv 1) (pa_cons (pv 4) pa_nil)))))))) (pss_one (ps_ret pe_bl)) pss_nil)
      (pss_cons (ps_set (i := 5) sc_L_right.nd rfl (.inl rfl) (pe_lst (pa_cons (pv 4) (pa_cons (pe_callTy (k_listOf (K := K) rfl) (by rfl) T.z_list (by decide +kernel) (pa_cons (pv 4) pa_nil)) (pa_cons (pe_slice (k_slT (K := K) rfl) (pv 4) po_none (po_some pe_int)) (pa_cons (pe_op (k_catA (K := K) rfl) (pv 4) (pe_tup (pa_cons pe_int pa_nil))) (pa_cons (pe_tup (pa_cons pe_str (pa_cons (pe_tup (pa_cons pe_str (pa_cons (pe_ix (k_ixT (K := K) rfl) (pe_ix (k_ixT (K := K) rfl) (pv 1) pe_int (fun _ _ => rfl)) pe_int (fun _ _ => rfl)) pa_nil))) pa_nil))) (pa_cons pe_non (pa_cons (pe_tup pa_nil) (pa_cons pe_str (pa_cons (pe_op (k_catA (K := K) rfl) (pe_tup (pa_cons pe_str pa_nil)) (pe_slice (k_slT (K := K) rfl) (pv 4) (po_some pe_int) po_none)) pa_nil)))))))))))
      (pss_cons (ps_expr (pe_bm PySem.F.plainAttrs_list PySem.F.slot_list_append PySem.F.type_list_append mt_append (pv 5) (pa_cons (pe_tup (pa_cons pe_str (pa_cons (pv 2) (pa_cons (pv 3) (pa_cons (pe_tup pa_nil) (pa_cons (pe_tup pa_nil) pa_nil)))))) pa_nil)))
      (pss_cons (ps_for PassesOwn.never rfl (pi_range1 (by rfl) T.z_range (pa_cons pe_int pa_nil)) (pg_name (i := 6) sc_L_right.nd rfl (.inl rfl)) (pss_one (ps_expr (pe_bm PySem.F.plainAttrs_list PySem.F.slot_list_append PySem.F.type_list_append mt_append (pv 5) (pa_cons (pe_call G_L_bent (hr.mono (by omega)) (by rfl) T.g_L_bent T.F_L_bent.kp T.b_L_bent .nil pass0 (pa_cons (pv 0) (pa_cons (pv 4) pa_nil))) pa_nil)))))
      (pss_cons (ps_if (PW.pt (pw_and (pt_cmpR op_eq (pe_ix (k_ixT (K := K) rfl) (pv 4) pe_int (fun _ _ => rfl)) pe_str (nomark _)) (pw_and1 (pt_cmpR op_ne (pe_ix (k_ixT (K := K) rfl) (pe_ix (k_ixT (K := K) rfl) (pv 4) pe_int (fun _ _ => rfl)) pe_int (fun _ _ => rfl)) pe_str (nomark _))))) (pss_cons (ps_asg (pe_ix (k_ixT (K := K) rfl) (pv 4) pe_int (fun _ _ => rfl)) (k_pgtup (K := K) (n := 3) rfl rfl (pgs_cons (pg_name (i := 7) sc_L_right.nd rfl (.inl rfl)) (pgs_cons (pg_name (i := 8) sc_L_right.nd rfl (.inl rfl)) (pgs_cons (pg_name (i := 9) sc_L_right.nd rfl (.inl rfl)) pgs_nil)))))
      (pss_cons (ps_expr (pe_bm PySem.F.plainAttrs_list PySem.F.slot_list_append PySem.F.type_list_append mt_append (pv 5) (pa_cons (pe_tup (pa_cons pe_str (pa_cons (pe_tup (pa_cons (pv 7) (pa_cons (pe_revT (pv 8)) (pa_cons (pe_revT (pv 9)) pa_nil)))) pa_nil))) pa_nil)))
      (pss_one (ps_expr (pe_bm PySem.F.plainAttrs_list PySem.F.slot_list_append PySem.F.type_list_append mt_append (pv 5) (pa_cons (pe_tup (pa_cons pe_str (pa_cons (pe_tup (pa_cons (pv 7) (pa_cons (pe_op (k_catA (K := K) rfl) (pe_tup (pa_cons (pe_callTy (k_tupOf (K := K) rfl) (by rfl) T.z_tuple (by decide +kernel) (pa_cons (pe_callB (k_sortedU (K := K) rfl) (by rfl) T.z_sorted (by decide +kernel) (pa_cons (pe_op (k_catA (K := K) rfl) (pe_ix (k_ixT (K := K) rfl) (pv 8) pe_int (fun _ _ => rfl)) (pe_ix (k_ixT (K := K) rfl) (pv 8) pe_int (fun _ _ => rfl))) pa_nil)) pa_nil)) pa_nil)) (pe_slice (k_slT (K := K) rfl) (pv 8) (po_some pe_int) po_none)) (pa_cons (pe_slice (k_slT (K := K) rfl) (pv 9) (po_some pe_int) po_none) pa_nil)))) pa_nil))) pa_nil)))))) pss_nil)
      (pss_one (ps_ret (pe_cmpR (k_eqE (K := K) rfl hr.units0) (pe_lc (own := [("_law_value", 10)]) rfl sc_L_right.nd (k_list (K := K) rfl (pv 5)) (blkOk_by (by kernel_rfl)) (fun _ _ _ _ _ => (pg_name (i := 10) sc_L_right.nd rfl (.inl rfl))) (fun _ _ _ _ _ => (pts_one (pt_cmpR op_ne (pe_callB call_repr_bool (by rfl) T.z_repr (by decide +kernel) (pa_cons (pe_call G_is_tree_paper (hr.mono (by omega)) (by rfl) T.g_is_tree_paper T.F_is_tree_paper.kp T.b_is_tree_paper .nil pass0 (pa_cons (pv 1) (pa_cons (pv 10) pa_nil))) pa_nil)) (pe_callB call_repr_bool (by rfl) T.z_repr (by decide +kernel) (pa_cons (pe_call G_L_lk_is_paper (hr.mono (by omega)) (by rfl) T.g_L_lk_is_paper T.F_L_lk_is_paper.kp T.b_L_lk_is_paper .nil pass0 (pa_cons (pv 1) (pa_cons (pv 10) pa_nil))) pa_nil)) (nomark _)))) (fun _ _ _ _ _ => (pv 10))) (pe_lst pa_nil) (nomark _)))))))))))), ?_⟩
    refine ⟨_, rfl, epick (a := a) (ds := [3, 4, 6, 6, 12].map Dat.int) rfl (fun G g => aC dint (aC dint (aC dint (aC dint (aC dint aN))))) (by simp) (by simp) (plain_ints _) H (Rl.refl hd) _ fun d v H1 q1 hd1 _ hv => ?_⟩
    obtain ⟨sz, hsz, rfl⟩ := List.mem_map.mp hd1
    have hsz2 : 1 ≤ sz ∧ sz ≤ 12 := by
      simp only [List.mem_cons, List.not_mem_nil, or_false] at hsz
      omega
    refine ⟨a, sz, by rw [show v = _ from hv]; rfl, q1.dice, hsz2.1, hsz2.2, fun sq vsq H2 wf q2 hsq => ?_⟩
    have q12 := q1.trans q2
    have hp := List.length_pos_iff.mpr wf.ne
    have hw := wf.w12
    have hw0 := wf.w0
    have hl := wf.len
    have lr := upto_ln hp
    have lc := upto_ln hw0
    refine dq_par (d := lnD (upto sq.length)) (e := lnD (upto (wid sq))) (drgT (n := sq.length) ((dlenT (dvar rfl hsq)).is (by rw [List.length_map])) (by omega)) (drgT (n := wid sq) ((dlenT (dRow wf (r := 0) (dvar rfl hsq) dint ⟨by omega, by omega⟩)).is (by rw [List.length_map, head_wid wf])) (by omega)) fun vr vc H4 e4 hvr4 hvc => ?_
    have hsq4 := hsq.mono e4
    refine dq_asg (dcallD (aC (dvar rfl hsq4) aN) ⟨sq, wf, by omega, rfl, rfl⟩) fun vp H5 e5 hvp => ?_
    have pt : isPaper 60 sq (wholeD (paperM 24 sq (upto sq.length) (upto (wid sq)))) = true := paper_true wf (by omega) (by omega)
    have hfl := flag_has (sq := sq) 24 (upto sq.length) (upto (wid sq))
    have hshape := tree_shape (n := 23) wf lr lc
    obtain ⟨pr, hP, hPt, hPl, hPf, hPw⟩ := whole_shape (n := 24) wf lr lc
    rw [hP] at hvp pt
    have f2 := paper_fits wf 24 lr lc
    generalize hpp : paperM 24 sq (upto sq.length) (upto (wid sq)) = pp at *
    obtain ⟨flag, told⟩ := pp
    simp only at hP hPt hPf hvp pt hfl hshape f2
    have Pfit : (Dat.tup (.str (if flag = true then "tree" else "locked") :: pr)).fits 53 = true := fits_mk (by simp; omega) fun d hd => by
      rcases List.mem_cons.mp hd with rfl | hd
      · rfl
      · exact hPf d hd
    have Pwd : (Dat.tup (.str (if flag = true then "tree" else "locked") :: pr)).wd = true := wd_mk (by simp; omega) fun d hd => by
      rcases List.mem_cons.mp hd with rfl | hd
      · rfl
      · exact hPw d hd
    have Ppl := fits_plain Pfit
    have hsq5 := hsq4.mono e5
    have hvr5 := hvr4.mono e5
    have hvc5 := hvc.mono e5
    refine dS_when (b := false) (et_or (a := false) (b := false) (et_is (tst (dneB (deqS (dixT (dvar rfl hvp) dint (by omega) (by rfl)) dstr) (dcallD (aC (dvar rfl hsq5) (aC (dvar rfl hvr5) (aC (dvar rfl hvc5) aN))) ⟨sq, upto sq.length, upto (wid sq), wf, lr, lc, by rw [upto_len, upto_len]; omega, rfl, rfl⟩))) (by rw [word_tree, ← hfl]; simp)) fun _ => et_is (et_not (tst (dcallD (aC (dvar rfl hsq5) (aC (dvar rfl hvp) aN)) ⟨sq, _, wf, fitsN Pfit (by omega), rfl, rfl⟩))) (by rw [pt]; rfl)) (fun z => by cases z) fun _ H6 e6 => ?_
    have q6 : Rl a H H6 := q12.trans (Rl.of q12.dice ((e4.trans e5).trans e6))
    have hsq6 := hsq5.mono e6
    have hvr6 := hvr5.mono e6
    have hvc6 := hvc5.mono e6
    have hvp6 := hvp.mono e6
    have d6 := q6.dice
    have up : ∀ {d : Dat} {v : V} {G : Hp}, Dv H6 d v → d.plain = true → Rl a H6 G → Dv G d v := fun h hp g => Dv.evo (g.evo d6) _ hp h
    refine dq_asgN (nlst (aC (dvar rfl hvp6) (aC (dopq (nlistT (dvar rfl hvp6))) (aC (dfront (k := 1) (dvar rfl hvp6) dint) (aC (dcatT (dvar rfl hvp6) (dtup (aC (d := .int 1) dint aN) (by simp)) (by simp only [List.length_cons, List.length_nil]; omega)) (aC (dtup (aC (d := .str "tree") dstr (aC (dtup (aC (d := .str "flat") dstr (aC (dEnt wf (r := 0) (c := 0) (dvar rfl hsq6) dint dint ⟨by omega, by omega⟩ ⟨by omega, by omega⟩) aN)) (by simp)) aN)) (by simp)) (aC (d := .non) dnon (aC (dtup aN (by simp)) (aC (d := .str "tree") dstr (aC (dcatT (dtup (aC (d := .str "locked") dstr aN) (by simp)) (dtail (k := 1) (dvar rfl hvp6) dint) (by simp; omega)) aN))))))))) (by simp)) fun near xs H7 hp7 e7 hH7 hl7 => ?_
    have ffix : ∀ {n : Nat} {ds : List Dat}, ds.length ≤ 25 → n < 61 → (∀ d ∈ ds, d.fits n = true) → (Dat.tup ds).fits 61 = true := fun h1 h2 h3 => fitsN (fits_mk h1 h3) (by omega)
    have prf : ∀ d ∈ pr, d.fits 52 = true := hPf
    have w0 : (Dat.str (if flag = true then "tree" else "locked")).fits 52 = true := rfl
    have all0 : ∀ d ∈ (Dat.str (if flag = true then "tree" else "locked") :: pr), d.fits 52 = true := fun d hd => by
      rcases List.mem_cons.mp hd with rfl | hd
      · exact w0
      · exact prf d hd
    generalize hds0 : ([_, _, _, _, _, _, _, _, _] : List Dat) = ds0 at hl7
    have l0 : ds0.length = 9 := by rw [← hds0]; rfl
    have f0 : ∀ d ∈ ds0, d.fits 61 = true := by
      intro d hd
      rw [← hds0] at hd
      simp only [List.mem_cons, List.not_mem_nil, or_false] at hd
      rcases hd with rfl | rfl | rfl | rfl | rfl | rfl | rfl | rfl | rfl
      · exact fitsN Pfit (by omega)
      · rfl
      · exact ffix (n := 52) (by simp) (by omega) fun d hd => all0 d (List.mem_of_mem_take hd)
      · exact ffix (n := 52) (by simp; omega) (by omega) fun d hd => by
          rcases List.mem_append.mp hd with hd | hd
          · exact all0 d hd
          · simp at hd; rw [hd]; rfl
      · rfl
      · rfl
      · rfl
      · rfl
      · exact ffix (n := 52) (by simp; omega) (by omega) fun d hd => by
          rcases List.mem_append.mp hd with hd | hd
          · simp at hd; rw [hd]; rfl
          · exact all0 d (List.mem_of_mem_drop hd)
    have M7 : MutD a (cutH H6 [a]) [(near, ds0)] H7 := (MutD.nil d6).push e7 hp7 hH7 hl7 (plainL_all.mpr fun d hd => fits_plain (f0 d hd))
    have r7 := M7.out
    refine mdq_app M7 (i := 0) rfl rfl (d := .tup [.str "locked", lnD (upto sq.length), lnD (upto (wid sq)), .tup [], .tup []]) (dtup (aC dstr (aC (dvar rfl (up hvr6 (lnD_plain _) r7)) (aC (dvar rfl (up hvc6 (lnD_plain _) r7)) (aC (dtup aN (by simp)) (aC (dtup aN (by simp)) aN))))) (by simp)) (by simp [plain_tup, plainL, lnD_plain, Dat.plain]) (by omega) fun H8 M8 _ => ?_
    have f8 : ∀ d ∈ ds0 ++ [Dat.tup [.str "locked", lnD (upto sq.length), lnD (upto (wid sq)), .tup [], .tup []]], d.fits 61 = true := fun d hd => by
      rcases List.mem_append.mp hd with hd | hd
      · exact f0 d hd
      · simp only [List.mem_singleton] at hd
        rw [hd]
        refine ffix (n := 2) (by simp) (by omega) fun d hd => ?_
        simp only [List.mem_cons, List.not_mem_nil, or_false] at hd
        rcases hd with rfl | rfl | rfl | rfl | rfl
        · rfl
        · exact fits_ln (by rw [upto_len]; omega)
        · exact fits_ln (by rw [upto_len]; omega)
        · rfl
        · rfl
    refine q_forR1 (n := 12) (ea_cons ev_c ea_nil) (by omega) (fun i σ' H' => ∃ ds o6, MutD a (cutH H6 [a]) [(near, ds)] H' ∧ ds.length ≤ 10 + i ∧ (∀ d ∈ ds, d.fits 61 = true) ∧ σ' = [some (.ref a), some vsq, some vr, some vc, some vp, some (.ref near), o6, none, none, none, none]) (fun H9 e9 => ⟨_, none, M8.on e9, by simp [l0], f8, rfl⟩) ?_ ?_
    · rintro i σ' H9 hi ⟨ds, o6, M9, l9, f9, rfl⟩
      have r9 := M9.out
      have hpt9 := up hvp6 Ppl r9
      obtain ⟨_, _, ys, hn9, ln9⟩ := M9.mu.get (i := 0) rfl
      refine ⟨_, rfl, .inl ⟨rfl, ys, SqL.of hn9⟩, _, rfl, _, rfl, a, vp, _, rfl, M9.dice, Pfit, Pwd, hpt9, fun d' v' H10 hf' r10 hv' => ?_⟩
      have M10 := M9.rl r10
      obtain ⟨_, b10, zs, hn10, ln10⟩ := M10.mu.get (i := 0) rfl
      refine ⟨near, zs, v', rfl, rfl, hn10, by rw [ln10.len, sizeLine_eq]; show ds.length < _; omega, ?_⟩
      refine ⟨ds ++ [d'], _, M10.put (i := 0) rfl ?_ (ln10.append (dvl_cons hv' dvl_nil)), by simp; omega, fun d hd => ?_, rfl⟩
      · exact plainL_all.mpr fun d hd => by
          rcases List.mem_append.mp hd with hd | hd
          · exact plainL_all.mp b10 _ hd
          · simp at hd; rw [hd]; exact fits_plain hf'
      · rcases List.mem_append.mp hd with hd | hd
        · exact f9 d hd
        · simp at hd; rw [hd]; exact fitsN hf' (by omega)
    · rintro σ' H9 ⟨ds, o6, M9, l9, f9, rfl⟩
      have l9 : ds.length ≤ 22 := l9
      have fin : ∀ (ds : List Dat) (o6 o7 o8 o9 : Option V) (H' : Hp), MutD a (cutH H6 [a]) [(near, ds)] H' → ds.length ≤ 30 → (∀ d ∈ ds, d.fits 61 = true) → tRet (tOp (rEmp K false) (tLc (iList K (tVar 5)) (gName 10) (tTest (tOp rNe (tCB (fun xs H Q => ∃ b : Bool, xs = [.bl b] ∧ Q (.str (if b then "True" else "False")) H) (tCons (tCall (SpD (domPap 60)) [] E0 (tCons (tVar 1) (tCons (tVar 10) tNil))) tNil)) (tCB (fun xs H Q => ∃ b : Bool, xs = [.bl b] ∧ Q (.str (if b then "True" else "False")) H) (tCons (tCall (SpD (domPap 60)) [] E0 (tCons (tVar 1) (tCons (tVar 10) tNil))) tNil)))) (tVar 10) [10]) (tLst tNil)) { nx := fun x H' => Q V.non H', rt := Q } [some (.ref a), some vsq, some vr, some vc, some vp, some (.ref near), o6, o7, o8, o9, none] H' := by
        intro ds o6 o7 o8 o9 H' M l f
        have r := M.out
        have hs := up hsq6 (sqD_plain sq) r
        refine dS_ret (d := .bl true) ((dempL (neg := false) (nlc (fun _ => false) (fun d => d) (srcL (dvar rfl (M.mu.dv (i := 0) rfl))) (by omega) (fun d hd _ => fits_plain (f d hd)) fun d hd x G e hx => bName ⟨rfl, et_is (tst (dneS (drepr (dcallD (aC (dvar rfl (hs.mono e)) (aC (dvar rfl hx) aN)) ⟨sq, d, wf, f d hd, rfl, rfl⟩)) (drepr (dcallD (aC (dvar rfl (hs.mono e)) (aC (dvar rfl hx) aN)) ⟨sq, d, wf, f d hd, rfl, rfl⟩)))) (by simp), fun z => by cases z⟩).toD).is ?_) fun v H'' e hv => ?_
        · have : (ds.filter fun _ => false).map (fun d => d) = [] := by simp
          rw [this]
          rfl
        · rw [show v = _ from hv]
          exact q H'' (q6.trans (r.trans (Rl.of r.dice e)))
      have hpt9 := up hvp6 Ppl M9.out
      cases flag with
      | false =>
        refine dS_when (b := false) (et_and (a := false) (b := true) (et_is (tst (deqS (dixT (dvar rfl hpt9) dint (by omega) (by rfl)) dstr)) (word_tree _)) fun z => by cases z) (fun z => by cases z) fun _ H10 e10 => fin _ _ _ _ _ _ (M9.on e10) (by omega) f9
      | true =>
        have hpr := hPt rfl
        subst hpr
        have toldf := hPf told (by simp)
        rcases hshape rfl with ⟨e, he⟩ | ⟨wd, cs, ts, he, hwn, c2, c12, t12, cc, call⟩
        · have he : told = .tup [.str "flat", .int e] := he
          subst he
          refine dS_when (b := false) (et_and (a := true) (b := false) (et_is (tst (deqS (dixT (dvar rfl hpt9) dint (by omega) (by rfl)) dstr)) (word_tree _)) fun _ => et_is (tst (dneS (dixT (dixT (ds := [Dat.str "tree", Dat.tup [.str "flat", .int e]]) (dvar rfl hpt9) dint (by omega) (by rfl)) dint (by omega) (by rfl)) dstr)) (by decide)) (fun z => by cases z) fun _ H10 e10 => fin _ _ _ _ _ _ (M9.on e10) (by omega) f9
        · have he : told = .tup [.str wd, .tup (cs.map lnD), .tup ts] := he
          subst he
          obtain ⟨m, hm, _, hf3⟩ := fits_tup.mp toldf
          have ftup : ∀ {es : List Dat} {n : Nat}, (Dat.tup es).fits n = true → ∀ d ∈ es, d.fits n = true := fun h d hd => by
            obtain ⟨k, hk, _, h2⟩ := fits_tup.mp h
            exact fits_mono d (by omega) (h2 d hd)
          have hcf := hf3 (.tup (cs.map lnD)) (by simp)
          have htf := hf3 (.tup ts) (by simp)
          have m51 : m ≤ 51 := by omega
          refine dS_when (b := true) (et_and (a := true) (b := true) (et_is (tst (deqS (dixT (dvar rfl hpt9) dint (by omega) (by rfl)) dstr)) (word_tree _)) fun _ => et_is (tst (dneS (dixT (dixT (ds := [Dat.str "tree", Dat.tup [.str wd, .tup (cs.map lnD), .tup ts]]) (dvar rfl hpt9) dint (by omega) (by rfl)) dint (by omega) (by rfl)) dstr)) (by simp [hwn])) (fun _ H10 e10 => ?_) fun z => by cases z
          have M10 := M9.on e10
          have hpt10 := hpt9.mono e10
          refine dq_asgG (dixT (d := .tup [.str wd, .tup (cs.map lnD), .tup ts]) (dvar rfl hpt10) dint (by omega) (by rfl)) fun vv H11 e11 hvv => bThree hvv fun xw xc xt hxw hxc hxt => ?_
          have M11 := M10.on e11
          have rc : plainL (cs.map lnD).reverse = true := plainL_all.mpr fun d hd => plainL_all.mp (lns_plain cs) d (List.mem_reverse.mp hd)
          have g1 : (Dat.tup [.str "tree", .tup [.str wd, .tup (cs.map lnD).reverse, .tup ts.reverse]]).fits 61 = true := by
            refine ffix (n := 54) (by simp) (by omega) fun d hd => ?_
            simp only [List.mem_cons, List.not_mem_nil, or_false] at hd
            rcases hd with rfl | rfl
            · rfl
            · refine fits_mk (n := 53) (by simp) fun d hd => ?_
              simp only [List.mem_cons, List.not_mem_nil, or_false] at hd
              rcases hd with rfl | rfl | rfl
              · rfl
              · exact fits_mk (n := 52) (by simp; omega) fun d hd => fitsN (ftup hcf d (List.mem_reverse.mp hd)) (by omega)
              · exact fits_mk (n := 52) (by simp; omega) fun d hd => fitsN (ftup htf d (List.mem_reverse.mp hd)) (by omega)
          refine mdq_app M11 (i := 0) rfl rfl (d := .tup [.str "tree", .tup [.str wd, .tup (cs.map lnD).reverse, .tup ts.reverse]]) (dtup (aC dstr (aC (dtup (aC (dvar rfl hxw) (aC (drev (dvar rfl hxc)) (aC (drev (dvar rfl hxt)) aN))) (by simp)) aN)) (by simp)) (fits_plain g1) (by omega) fun H12 M12 ev => ?_
          obtain ⟨c0, c1, crest, rfl⟩ : ∃ c0 c1 crest, cs = c0 :: c1 :: crest := by
            match cs, c2 with
            | c0 :: c1 :: crest, _ => exact ⟨c0, c1, crest, rfl⟩
          have hxw' := Dv.evo ev _ rfl hxw
          have hxc' := Dv.evo ev _ (by rw [plain_tup]; exact lns_plain _) hxc
          have hxt' := Dv.evo ev _ (fits_plain htf) hxt
          have c0l := call c0 (by simp)
          have c1l := call c1 (by simp)
          have g2 : (Dat.tup [.str "tree", .tup [.str wd, .tup ([lnD (srt (c0 ++ c1))] ++ crest.map lnD), .tup (ts.drop 1)]]).fits 61 = true := by
            refine ffix (n := 54) (by simp) (by omega) fun d hd => ?_
            simp only [List.mem_cons, List.not_mem_nil, or_false] at hd
            rcases hd with rfl | rfl
            · rfl
            · refine fits_mk (n := 53) (by simp) fun d hd => ?_
              simp only [List.mem_cons, List.not_mem_nil, or_false] at hd
              rcases hd with rfl | rfl | rfl
              · rfl
              · refine fits_mk (n := 52) (by simp at c12 ⊢; omega) fun d hd => ?_
                rcases List.mem_append.mp hd with hd | hd
                · simp only [List.mem_singleton] at hd
                  rw [hd]
                  exact fitsN (fits_ln (by rw [(srt_perm _).length_eq, List.length_append]; omega)) (by omega)
                · exact fitsN (ftup hcf d (by simp at hd ⊢; exact .inr (.inr hd))) (by omega)
              · exact fits_mk (n := 52) (by simp; omega) fun d hd => fitsN (ftup htf d (List.mem_of_mem_drop hd)) (by omega)
          refine mdS_app M12 (i := 0) rfl rfl (d := .tup [.str "tree", .tup [.str wd, .tup ([lnD (srt (c0 ++ c1))] ++ crest.map lnD), .tup (ts.drop 1)]]) (dtup (aC dstr (aC (dtup (aC (dvar rfl hxw') (aC (dcatT (dtup (aC (d := lnD (srt (c0 ++ c1))) (dtupL (nsortedU (ns := c0 ++ c1) ((dcatT (dixT (d := lnD c0) (dvar rfl hxc') dint (by omega) (by rfl)) (dixT (d := lnD c1) (dvar rfl hxc') dint (by omega) (by rfl)) (by simp; omega)).is (by simp [lnD])) (srt_perm _) (srt_le _)).toD) aN) (by simp)) ((dtail (k := 2) (dvar rfl hxc') dint).is (by rfl)) (by simp at c12 ⊢; omega)) (aC (dtail (k := 1) (dvar rfl hxt') dint) aN))) (by simp)) aN)) (by simp)) (fits_plain g2) (by simp; omega) fun H13 M13 _ => ?_
          refine fin _ _ _ _ _ _ M13 (by simp; omega) fun d hd => ?_
          simp only [List.mem_append, List.mem_singleton] at hd
          rcases hd with (hd | hd) | hd
          · exact f9 d hd
          · rw [hd]; exact g1
          · rw [hd]; exact g2
end

end Kw
namespace Kw
open PySem PySem.Spec PyProof.Rows L2 Evl
def spLaw (K : PySem.W.Frag) : Sp := fun vs H Q _ => ∃ (a : Addr) (ns : List Int), vs = [.ref a] ∧ SqL K H a (ns.map V.int) ∧ ns.length ≤ 63 ∧ ∀ H', Q (.bl true) H'
theorem evI {te : TE} {σ : L2.St} {H : Hp} {i : Int} (h : EvD te σ H (.int i)) : Ev te σ H (.int i) := fun H1 e Q q => h H1 e _ fun v H2 e2 hv => by
  rw [show v = _ from hv]
  exact q H2 e2
theorem le1k {n : Nat} (h : Nat.ble n 1000 = true) : n ≤ 1000 := Nat.le_of_ble_eq_true h
def sqBoth : Sq := [[0, 0], [0, 1]]
def sqRing : Sq := [[0, 0, 1], [2, 4, 1], [2, 3, 3]]
def sqTree : Sq := [[0, 1], [1, 0]]
def sqOne : Sq := [[7]]
def wfB (sq : Sq) : Bool := !sq.isEmpty && decide (sq.length ≤ 12) && decide (0 < wid sq) && decide (wid sq ≤ 12) && sq.all fun r => decide (r.length = wid sq) && r.all fun x => decide (0 ≤ x) && decide (x ≤ 60)
theorem wf_of {sq : Sq} (h : wfB sq = true) : Wf sq := by
  simp only [wfB, Bool.and_eq_true, decide_eq_true_eq, Bool.not_eq_true', List.isEmpty_eq_false_iff, List.all_eq_true] at h
  obtain ⟨⟨⟨⟨h1, h2⟩, h3⟩, h4⟩, h5⟩ := h
  exact ⟨h1, h2, h3, h4, fun r hr => (h5 r hr).1, fun r hr x hx => (h5 r hr).2 x hx⟩
def toldOf (sq : Sq) : List Dat := items (wholeD (paperM 24 sq (upto sq.length) (upto (wid sq))))
def toldAll : Dat := .lst [.tup (toldOf sqOne), .tup ((toldOf sqBoth).take 3), .tup ((toldOf sqRing).take 3), .str "tree"]
def toldWant : Dat := .lst [.tup [.str "tree", .tup [.str "flat", .int 7]], .tup [.str "locked", .tup [.int 0, .int 1], .tup [.int 0, .int 1]], .tup [.str "locked", .tup [.int 0, .int 1, .int 2], .tup [.int 0, .int 1, .int 2]], .str "tree"]
def t3 (a b c : Int) : Dat := .tup [.int a, .int b, .int c]
def some1 : List Dat := [.tup [.str "locked", .tup [.int 0, .int 1], .tup [.int 0, .int 1], .tup [t3 1 0 0], .tup [t3 1 0 0, t3 0 1 0]], .tup [.str "locked", .tup [.int 0, .int 1], .tup [.int 0, .int 1], .tup [t3 0 1 1], .tup [t3 0 1 0]]]
def some2 : List Dat := [.tup [.str "locked", .tup [.int 0], .tup [.int 0, .int 1], .tup [], .tup [t3 0 1 0]], .tup [.str "locked", .tup [.int 0, .int 1], .tup [.int 0, .int 1], .tup [t3 0 1 0], .tup []], .tup [.str "tree", .tup [.str "flat", .int 0]]]
theorem told_eqv : PyData.eqv toldAll.py toldWant.py = true := by decide +kernel
theorem told_told : toldAll.told = true ∧ toldWant.told = true ∧ SeqAt.shaped toldAll.py = true ∧ SeqAt.shaped toldWant.py = true := by decide +kernel
theorem some_fits : ∀ d ∈ some1 ++ some2, d.fits 61 = true := fitsL_all.mp (by decide +kernel)
def verdicts : Dat := .lst ((some1 ++ some2).map fun d => .bl (isPaper 60 sqBoth d))
def wantV : Dat := .lst [.bl true, .bl false, .bl false, .bl false, .bl false]
theorem verd_eqv : PyData.eqv verdicts.py wantV.py = true := by decide +kernel
theorem verd_told : verdicts.told = true ∧ wantV.told = true ∧ SeqAt.shaped verdicts.py = true ∧ SeqAt.shaped wantV.py = true := by decide +kernel
theorem whole_tup {sq : Sq} (wf : Wf sq) : wholeD (paperM 24 sq (upto sq.length) (upto (wid sq))) = .tup (toldOf sq) := by
  obtain ⟨r, h, _⟩ := whole_shape (n := 24) wf (upto_ln (List.length_pos_iff.mpr wf.ne)) (upto_ln wf.w0)
  unfold toldOf
  rw [h]
  rfl
theorem tree_word : (toldOf sqTree)[0]? = some (.str "tree") := by
  have : (match (toldOf sqTree)[0]? with | some (Dat.str s) => decide (s = "tree") | _ => false) = true := by decide +kernel
  revert this
  cases (toldOf sqTree)[0]? with
  | none => intro h; cases h
  | some d =>
    cases d with
    | str s => intro h; rw [of_decide_eq_true h]
    | _ => intro h; cases h
section
variable {P : Program} {w : World} {K : PySem.W.Frag} {mg : Str → Option Value} {base : Heap}
theorem ok_law (T : Txt K mg) : FnOk P w K mg base CX0 200 T.a_law T.d_law ["_law_script"] (spLaw K) := by
  have G_L_dice := ok_L_dice (P := P) (w := w) (base := base) T
  have G_L_right := ok_L_right (P := P) (w := w) (base := base) T
  have G_is_tree_paper := ok_is_tree_paper (P := P) (w := w) (base := base) T 60
  have G_tree_or_locked := ok_tree_or_locked (P := P) (w := w) (base := base) T 24
  refine T.F_law.ok sc_law (fun vs H Q E h => ?_) (fun cdv A outer s H vs Q E hr h => ?_)
  · obtain ⟨a, ns, rfl, _⟩ := h
    rfl
  · obtain ⟨a, ns, rfl, hS, hl, q⟩ := h
    refine ⟨_, (pss_cons (ps_for PassesOwn.never rfl (pi_range1 (by rfl) T.z_range (pa_cons (pe_callB (call_max2 rfl) (by rfl) T.z_max (by decide +kernel) (pa_cons pe_int (pa_cons (pe_callB (call_min2 rfl) (by rfl) T.z_min (by decide +kernel) (pa_cons pe_int (pa_cons (pe_callB (k_len (K := K) rfl) (by rfl) T.z_len (by decide +kernel) (pa_cons (pv 0) pa_nil)) pa_nil))) pa_nil))) pa_nil)) (pg_name (i := 1) sc_law.nd rfl (.inl rfl)) (pss_cons (ps_set (i := 2) sc_law.nd rfl (.inl rfl) (pe_call G_L_dice (hr.mono (by omega)) (by rfl) T.g_L_dice T.F_L_dice.kp T.b_L_dice .nil pass0 (pa_cons (pv 0) (pa_cons (pv 1) pa_nil))))
      (pss_one (ps_for PassesOwn.never rfl (pi_range1 (by rfl) T.z_range (pa_cons pe_int pa_nil)) (pg_name (i := 3) sc_law.nd rfl (.inl rfl)) (pss_one (ps_if (pt_not (pt_val (pe_call G_L_right (hr.mono (by omega)) (by rfl) T.g_L_right T.F_L_right.kp T.b_L_right .nil pass0 (pa_cons (pv 2) pa_nil)))) (pss_one (ps_ret pe_bl)) pss_nil))))))
      (pss_cons (ps_asg (pe_tup (pa_cons (pe_tup (pa_cons (pe_tup (pa_cons pe_int (pa_cons pe_int pa_nil))) (pa_cons (pe_tup (pa_cons pe_int (pa_cons pe_int pa_nil))) pa_nil))) (pa_cons (pe_tup (pa_cons (pe_tup (pa_cons pe_int (pa_cons pe_int (pa_cons pe_int pa_nil)))) (pa_cons (pe_tup (pa_cons pe_int (pa_cons pe_int (pa_cons pe_int pa_nil)))) (pa_cons (pe_tup (pa_cons pe_int (pa_cons pe_int (pa_cons pe_int pa_nil)))) pa_nil)))) pa_nil))) (k_pgtup (K := K) (n := 2) rfl rfl (pgs_cons (pg_name (i := 4) sc_law.nd rfl (.inr rfl)) (pgs_cons (pg_name (i := 5) sc_law.nd rfl (.inl rfl)) pgs_nil))))
      (pss_cons (ps_set (i := 6) sc_law.nd rfl (.inl rfl) (pe_lst (pa_cons (pe_call G_tree_or_locked (hr.mono (by omega)) (by rfl) T.g_tree_or_locked T.F_tree_or_locked.kp T.b_tree_or_locked .nil pass0 (pa_cons (pe_tup (pa_cons (pe_tup (pa_cons pe_int pa_nil)) pa_nil)) pa_nil)) (pa_cons (pe_slice (k_slT (K := K) rfl) (pe_call G_tree_or_locked (hr.mono (by omega)) (by rfl) T.g_tree_or_locked T.F_tree_or_locked.kp T.b_tree_or_locked .nil pass0 (pa_cons (pv 4) pa_nil)) po_none (po_some pe_int)) (pa_cons (pe_slice (k_slT (K := K) rfl) (pe_call G_tree_or_locked (hr.mono (by omega)) (by rfl) T.g_tree_or_locked T.F_tree_or_locked.kp T.b_tree_or_locked .nil pass0 (pa_cons (pv 5) pa_nil)) po_none (po_some pe_int)) (pa_cons (pe_ix (k_ixT (K := K) rfl) (pe_call G_tree_or_locked (hr.mono (by omega)) (by rfl) T.g_tree_or_locked T.F_tree_or_locked.kp T.b_tree_or_locked .nil pass0 (pa_cons (pe_tup (pa_cons (pe_tup (pa_cons pe_int (pa_cons pe_int pa_nil))) (pa_cons (pe_tup (pa_cons pe_int (pa_cons pe_int pa_nil))) pa_nil))) pa_nil)) pe_int (fun _ _ => rfl)) pa_nil))))))
      (pss_cons (ps_if (pt_cmpR (op_neD hr.units) (pv 6) (pe_lst (pa_cons (pe_tup (pa_cons pe_str (pa_cons (pe_tup (pa_cons pe_str (pa_cons pe_int pa_nil))) pa_nil))) (pa_cons (pe_tup (pa_cons pe_str (pa_cons (pe_tup (pa_cons pe_int (pa_cons pe_int pa_nil))) (pa_cons (pe_tup (pa_cons pe_int (pa_cons pe_int pa_nil))) pa_nil)))) (pa_cons (pe_tup (pa_cons pe_str (pa_cons (pe_tup (pa_cons pe_int (pa_cons pe_int (pa_cons pe_int pa_nil)))) (pa_cons (pe_tup (pa_cons pe_int (pa_cons pe_int (pa_cons pe_int pa_nil)))) pa_nil)))) (pa_cons pe_str pa_nil))))) (nomark _)) (pss_one (ps_ret pe_bl)) pss_nil)
      (pss_cons (ps_set (i := 7) sc_law.nd rfl (.inl rfl) (pe_lst (pa_cons (pe_tup (pa_cons pe_str (pa_cons (pe_tup (pa_cons pe_int (pa_cons pe_int pa_nil))) (pa_cons (pe_tup (pa_cons pe_int (pa_cons pe_int pa_nil))) (pa_cons (pe_tup (pa_cons (pe_tup (pa_cons pe_int (pa_cons pe_int (pa_cons pe_int pa_nil)))) pa_nil)) (pa_cons (pe_tup (pa_cons (pe_tup (pa_cons pe_int (pa_cons pe_int (pa_cons pe_int pa_nil)))) (pa_cons (pe_tup (pa_cons pe_int (pa_cons pe_int (pa_cons pe_int pa_nil)))) pa_nil))) pa_nil)))))) (pa_cons (pe_tup (pa_cons pe_str (pa_cons (pe_tup (pa_cons pe_int (pa_cons pe_int pa_nil))) (pa_cons (pe_tup (pa_cons pe_int (pa_cons pe_int pa_nil))) (pa_cons (pe_tup (pa_cons (pe_tup (pa_cons pe_int (pa_cons pe_int (pa_cons pe_int pa_nil)))) pa_nil)) (pa_cons (pe_tup (pa_cons (pe_tup (pa_cons pe_int (pa_cons pe_int (pa_cons pe_int pa_nil)))) pa_nil)) pa_nil)))))) pa_nil))))
      (pss_cons (ps_set (i := 7) sc_law.nd rfl (.inl rfl) (pe_op op_cat (pv 7) (pe_lst (pa_cons (pe_tup (pa_cons pe_str (pa_cons (pe_tup (pa_cons pe_int pa_nil)) (pa_cons (pe_tup (pa_cons pe_int (pa_cons pe_int pa_nil))) (pa_cons (pe_tup pa_nil) (pa_cons (pe_tup (pa_cons (pe_tup (pa_cons pe_int (pa_cons pe_int (pa_cons pe_int pa_nil)))) pa_nil)) pa_nil)))))) (pa_cons (pe_tup (pa_cons pe_str (pa_cons (pe_tup (pa_cons pe_int (pa_cons pe_int pa_nil))) (pa_cons (pe_tup (pa_cons pe_int (pa_cons pe_int pa_nil))) (pa_cons (pe_tup (pa_cons (pe_tup (pa_cons pe_int (pa_cons pe_int (pa_cons pe_int pa_nil)))) pa_nil)) (pa_cons (pe_tup pa_nil) pa_nil)))))) (pa_cons (pe_tup (pa_cons pe_str (pa_cons (pe_tup (pa_cons pe_str (pa_cons pe_int pa_nil))) pa_nil))) pa_nil))))))
      (pss_one (ps_ret (pe_cmpR (op_eqD hr.units) (pe_lc (own := [("_law_value", 8)]) rfl sc_law.nd (k_list (K := K) rfl (pv 7)) (blkOk_by (by kernel_rfl)) (fun _ _ _ _ _ => (pg_name (i := 8) sc_law.nd rfl (.inl rfl))) (fun _ _ _ _ _ => pts_nil) (fun _ _ _ _ _ => (pe_call G_is_tree_paper (hr.mono (by omega)) (by rfl) T.g_is_tree_paper T.F_is_tree_paper.kp T.b_is_tree_paper .nil pass0 (pa_cons (pv 4) (pa_cons (pv 8) pa_nil))))) (pe_lst (pa_cons pe_bl (pa_cons pe_bl (pa_cons pe_bl (pa_cons pe_bl (pa_cons pe_bl pa_nil)))))) (nomark _)))))))))), ?_⟩
    obtain ⟨n, hn, hn3⟩ : ∃ n : Nat, (if (if ((ns.map V.int).length : Int) < 3 then ((ns.map V.int).length : Int) else 3) > 1 then (if ((ns.map V.int).length : Int) < 3 then ((ns.map V.int).length : Int) else 3) else 1) = (n : Int) ∧ n ≤ 3 := by
      by_cases h1 : ((ns.map V.int).length : Int) < 3
      · rw [if_pos h1]
        by_cases h2 : ((ns.map V.int).length : Int) > 1
        · exact ⟨(ns.map V.int).length, by rw [if_pos h2], by omega⟩
        · exact ⟨1, by rw [if_neg h2]; rfl, by omega⟩
      · rw [if_neg h1]
        exact ⟨3, by decide, by omega⟩
    refine q_forR1 (n := (n : Int)) (ea_cons (evI ((dmax2 dint (dmin2 dint (dlenK rfl hS))).is (congrArg Dat.int hn))) ea_nil) (by omega) (fun i σ' H' => Ex H H' ∧ ∃ o1 o2 o3, σ' = [some (.ref a), o1, o2, o3, none, none, none, none, none]) (fun H1 e1 => ⟨e1, none, none, none, rfl⟩) ?_ ?_
    · rintro i σ' H1 hi ⟨e1, o1, o2, o3, rfl⟩
      refine ⟨_, rfl, _, rfl, a, ns, i, rfl, ex_l e1 hS, hl, by omega, fun p l c e H2 hp e2 hdp => ?_⟩
      have hp0 : H p = none := fresh_back e1 hp
      refine s_forR1 (n := 4) (ea_cons ev_c ea_nil) (by omega) (fun j σ' H' => Ex H H' ∧ DiceAt H' p ∧ ∃ o3, σ' = [some (.ref a), some (.int (i : Int)), some (.ref p), o3, none, none, none, none, none]) (fun H3 e3 => ⟨(e1.trans e2).trans e3, DiceAt.up ⟨l, c, e, hdp⟩ e3, _, rfl⟩) ?_ fun σ' H3 h => ?_
      · rintro j σ' H3 hj ⟨e3, d3, o3, rfl⟩
        refine ⟨_, rfl, p, rfl, d3, fun H4 r4 => ⟨true, rfl, ?_⟩⟩
        show (if (!true) = true then _ else _)
        rw [if_neg (by decide)]
        exact ⟨r4.up0 hp0 e3, r4.dice, _, rfl⟩
      · obtain ⟨e3, _, o3, rfl⟩ := h
        exact ⟨e3, _, _, _, rfl⟩
    · rintro σ' H1 ⟨e1, o1, o2, o3, rfl⟩
      have wb : Wf sqBoth := wf_of (by decide)
      have wr : Wf sqRing := wf_of (by decide)
      have wt : Wf sqTree := wf_of (by decide)
      have wo : Wf sqOne := wf_of (by decide)
      refine dq_asgG (d := .tup [sqD sqBoth, sqD sqRing]) (dtup (aC (dtup (aC (dtup (aC dint (aC dint aN)) (le1k rfl)) (aC (dtup (aC dint (aC dint aN)) (le1k rfl)) aN)) (le1k rfl)) (aC (dtup (aC (dtup (aC dint (aC dint (aC dint aN))) (le1k rfl)) (aC (dtup (aC dint (aC dint (aC dint aN))) (le1k rfl)) (aC (dtup (aC dint (aC dint (aC dint aN))) (le1k rfl)) aN))) (le1k rfl)) aN)) (le1k rfl)) fun vv H2 e2 hvv => bTwo hvv fun vb vr hb hrg => ?_
      have whole : ∀ {sq : Sq} {te : TE} {σ : L2.St} {G : Hp}, Wf sq → sq.length + wid sq ≤ 24 → EvD te σ G (sqD sq) → EvD (tCall (SpD (domWhole 24)) [] E0 (tCons te tNil)) σ G (.tup (toldOf sq)) := fun wf hn h => (dcallD (aC h aN) ⟨_, wf, hn, rfl, rfl⟩).is (whole_tup wf)
      refine dq_asg (d := toldAll) ((nlst (aC (whole (sq := sqOne) wo (by decide) (dtup (aC (dtup (aC dint aN) (le1k rfl)) aN) (le1k rfl))) (aC (dfront (k := 3) (whole (sq := sqBoth) wb (by decide) (dvar rfl hb)) dint) (aC (dfront (k := 3) (whole (sq := sqRing) wr (by decide) (dvar rfl hrg)) dint) (aC (dixT (i := 0) (d := .str "tree") (whole (sq := sqTree) wt (by decide) (dtup (aC (dtup (aC dint (aC dint aN)) (le1k rfl)) (aC (dtup (aC dint (aC dint aN)) (le1k rfl)) aN)) (le1k rfl))) dint (by omega) tree_word) aN)))) (le1k rfl)).toD) fun vt H3 e3 hvt => ?_
      refine dS_when (b := false) (et_is (tst (dneD (e := toldWant) (dvar rfl hvt) (nlst (aC (dtup (aC dstr (aC (dtup (aC dstr (aC dint aN)) (le1k rfl)) aN)) (le1k rfl)) (aC (dtup (aC dstr (aC (dtup (aC dint (aC dint aN)) (le1k rfl)) (aC (dtup (aC dint (aC dint aN)) (le1k rfl)) aN))) (le1k rfl)) (aC (dtup (aC dstr (aC (dtup (aC dint (aC dint (aC dint aN))) (le1k rfl)) (aC (dtup (aC dint (aC dint (aC dint aN))) (le1k rfl)) aN))) (le1k rfl)) (aC dstr aN)))) (le1k rfl)).toD told_told.1 told_told.2.1 told_told.2.2.1 told_told.2.2.2)) (by rw [told_eqv]; rfl)) (fun z => by cases z) fun _ H4 e4 => ?_
      refine dq_asg (d := .lst some1) ((nlst (aC (dtup (aC dstr (aC (dtup (aC dint (aC dint aN)) (le1k rfl)) (aC (dtup (aC dint (aC dint aN)) (le1k rfl)) (aC (dtup (aC (dtup (aC dint (aC dint (aC dint aN))) (le1k rfl)) aN) (le1k rfl)) (aC (dtup (aC (dtup (aC dint (aC dint (aC dint aN))) (le1k rfl)) (aC (dtup (aC dint (aC dint (aC dint aN))) (le1k rfl)) aN)) (le1k rfl)) aN))))) (le1k rfl)) (aC (dtup (aC dstr (aC (dtup (aC dint (aC dint aN)) (le1k rfl)) (aC (dtup (aC dint (aC dint aN)) (le1k rfl)) (aC (dtup (aC (dtup (aC dint (aC dint (aC dint aN))) (le1k rfl)) aN) (le1k rfl)) (aC (dtup (aC (dtup (aC dint (aC dint (aC dint aN))) (le1k rfl)) aN) (le1k rfl)) aN))))) (le1k rfl)) aN)) (le1k rfl)).toD) fun vs1 H5 e5 hvs1 => ?_
      refine dq_asg (d := .lst (some1 ++ some2)) ((ncat (es := some2) (dvar rfl hvs1) (nlst (aC (dtup (aC dstr (aC (dtup (aC dint aN) (le1k rfl)) (aC (dtup (aC dint (aC dint aN)) (le1k rfl)) (aC (dtup aN (le1k rfl)) (aC (dtup (aC (dtup (aC dint (aC dint (aC dint aN))) (le1k rfl)) aN) (le1k rfl)) aN))))) (le1k rfl)) (aC (dtup (aC dstr (aC (dtup (aC dint (aC dint aN)) (le1k rfl)) (aC (dtup (aC dint (aC dint aN)) (le1k rfl)) (aC (dtup (aC (dtup (aC dint (aC dint (aC dint aN))) (le1k rfl)) aN) (le1k rfl)) (aC (dtup aN (le1k rfl)) aN))))) (le1k rfl)) (aC (dtup (aC dstr (aC (dtup (aC dstr (aC dint aN)) (le1k rfl)) aN)) (le1k rfl)) aN))) (le1k rfl)) (by simp [some1]) (by simp [some2])).toD) fun vs2 H6 e6 hvs2 => ?_
      have hb6 := hb.mono ((e3.trans e4).trans (e5.trans e6))
      refine dS_ret (d := .bl true) ((deqD (d := verdicts) (e := wantV) (nlcM (fun d => .bl (isPaper 60 sqBoth d)) (srcL (dvar rfl hvs2)) (by simp [some1, some2]) (fun _ _ => rfl) fun d hd x G e hx => bName ⟨rfl, dcallD (aC (dvar rfl (hb6.mono e)) (aC (dvar rfl hx) aN)) ⟨sqBoth, d, wb, some_fits d hd, rfl, rfl⟩⟩).toD (nlst (aC dbl (aC dbl (aC dbl (aC dbl (aC dbl aN))))) (le1k rfl)).toD verd_told.1 verd_told.2.1 verd_told.2.2.1 verd_told.2.2.2).is (by rw [verd_eqv])) fun v H7 e7 hv => ?_
      rw [show v = _ from hv]
      exact q H7
end

end Kw
namespace Kw
open PySem PySem.Spec PyProof.Rows L2
def txt_mk {K : PySem.W.Frag} {h : Heap} {mg : Str → Option Value} {f1 f2 f3 f4 f5 f6 f7 f8 f9 f10 f11 f12 f13 f14 f15 f16 f17 f18 f19 f20 f21 f22 f23 f24 f25 f26 f27 f28 f29 f30 f31 f32 f33 f34 f35 f36 f37 : Addr} (X : K.In h) (G : h.Ns mainGlobals mg)
    {od1 an1 od2 an2 od3 an3 od4 an4 od5 an5 od6 an6 od7 an7 od8 an8 od9 an9 od10 an10 od11 an11 od12 an12 od13 an13 od14 an14 od15 an15 od16 an16 od17 an17 od18 an18 od19 an19 od20 an20 od21 an21 od22 an22 od23 an23 od24 an24 od25 an25 od26 an26 od27 an27 od28 an28 od29 an29 od30 an30 od31 an31 od32 an32 od33 an33 od34 an34 od35 an35 od36 an36 od37 an37 : Option Addr} {sl1 sl2 sl3 sl4 sl5 sl6 sl7 sl8 sl9 sl10 sl11 sl12 sl13 sl14 sl15 sl16 sl17 sl18 sl19 sl20 sl21 sl22 sl23 sl24 sl25 sl26 sl27 sl28 sl29 sl30 sl31 sl32 sl33 sl34 sl35 sl36 sl37 : Array (Option Value)} {oc1 kV1 dc1 pm1 cd1 ct1 oc2 kV2 dc2 pm2 cd2 ct2 oc3 kV3 dc3 pm3 cd3 ct3 oc4 kV4 dc4 pm4 cd4 ct4 oc5 kV5 dc5 pm5 cd5 ct5 oc6 kV6 dc6 pm6 cd6 ct6 oc7 kV7 dc7 pm7 cd7 ct7 oc8 kV8 dc8 pm8 cd8 ct8 oc9 kV9 dc9 pm9 cd9 ct9 oc10 kV10 dc10 pm10 cd10 ct10 oc11 kV11 dc11 pm11 cd11 ct11 oc12 kV12 dc12 pm12 cd12 ct12 oc13 kV13 dc13 pm13 cd13 ct13 oc14 kV14 dc14 pm14 cd14 ct14 oc15 kV15 dc15 pm15 cd15 ct15 oc16 kV16 dc16 pm16 cd16 ct16 oc17 kV17 dc17 pm17 cd17 ct17 oc18 kV18 dc18 pm18 cd18 ct18 oc19 kV19 dc19 pm19 cd19 ct19 oc20 kV20 dc20 pm20 cd20 ct20 oc21 kV21 dc21 pm21 cd21 ct21 oc22 kV22 dc22 pm22 cd22 ct22 oc23 kV23 dc23 pm23 cd23 ct23 oc24 kV24 dc24 pm24 cd24 ct24 oc25 kV25 dc25 pm25 cd25 ct25 oc26 kV26 dc26 pm26 cd26 ct26 oc27 kV27 dc27 pm27 cd27 ct27 oc28 kV28 dc28 pm28 cd28 ct28 oc29 kV29 dc29 pm29 cd29 ct29 oc30 kV30 dc30 pm30 cd30 ct30 oc31 kV31 dc31 pm31 cd31 ct31 oc32 kV32 dc32 pm32 cd32 ct32 oc33 kV33 dc33 pm33 cd33 ct33 oc34 kV34 dc34 pm34 cd34 ct34 oc35 kV35 dc35 pm35 cd35 ct35 oc36 kV36 dc36 pm36 cd36 ct36 oc37 kV37 dc37 pm37 cd37 ct37 : Value} {tk0 tk1 tk2 tk3 tk4 tk5 tk6 tk7 tk8 tk9 tk10 tk11 : Tok}
    (a1 : PySem.W.nsIn K mainGlobals "is_integer" = some (some (.ref f1))) (l1 : K.lookup f1 = some ⟨oc1, od1, .func (PySem.W.fnOf "is_integer" "is_integer" (defArgs s_is_integer) (defBody s_is_integer) (defScope s_is_integer) .none kV1 dc1 pm1 an1 cd1 ct1), sl1⟩) (c1 : PySem.W.codeIn K cd1 "is_integer" = true) (k1 : PySem.W.keepIn K (.ref f1) = true)
    (a2 : PySem.W.nsIn K mainGlobals "is_within" = some (some (.ref f2))) (l2 : K.lookup f2 = some ⟨oc2, od2, .func (PySem.W.fnOf "is_within" "is_within" (defArgs s_is_within) (defBody s_is_within) (defScope s_is_within) .none kV2 dc2 pm2 an2 cd2 ct2), sl2⟩) (c2 : PySem.W.codeIn K cd2 "is_within" = true) (k2 : PySem.W.keepIn K (.ref f2) = true)
    (a3 : PySem.W.nsIn K mainGlobals "is_square_table" = some (some (.ref f3))) (l3 : K.lookup f3 = some ⟨oc3, od3, .func (PySem.W.fnOf "is_square_table" "is_square_table" (defArgs s_is_square_table) (defBody s_is_square_table) (defScope s_is_square_table) .none kV3 dc3 pm3 an3 cd3 ct3), sl3⟩) (c3 : PySem.W.codeIn K cd3 "is_square_table" = true) (k3 : PySem.W.keepIn K (.ref f3) = true)
    (a4 : PySem.W.nsIn K mainGlobals "turned_square" = some (some (.ref f4))) (l4 : K.lookup f4 = some ⟨oc4, od4, .func (PySem.W.fnOf "turned_square" "turned_square" (defArgs s_turned_square) (defBody s_turned_square) (defScope s_turned_square) .none kV4 dc4 pm4 an4 cd4 ct4), sl4⟩) (c4 : PySem.W.codeIn K cd4 "turned_square" = true) (k4 : PySem.W.keepIn K (.ref f4) = true)
    (a5 : PySem.W.nsIn K mainGlobals "is_flat" = some (some (.ref f5))) (l5 : K.lookup f5 = some ⟨oc5, od5, .func (PySem.W.fnOf "is_flat" "is_flat" (defArgs s_is_flat) (defBody s_is_flat) (defScope s_is_flat) .none kV5 dc5 pm5 an5 cd5 ct5), sl5⟩) (c5 : PySem.W.codeIn K cd5 "is_flat" = true) (k5 : PySem.W.keepIn K (.ref f5) = true)
    (a6 : PySem.W.nsIn K mainGlobals "link_of" = some (some (.ref f6))) (l6 : K.lookup f6 = some ⟨oc6, od6, .func (PySem.W.fnOf "link_of" "link_of" (defArgs s_link_of) (defBody s_link_of) (defScope s_link_of) .none kV6 dc6 pm6 an6 cd6 ct6), sl6⟩) (c6 : PySem.W.codeIn K cd6 "link_of" = true) (k6 : PySem.W.keepIn K (.ref f6) = true)
    (a7 : PySem.W.nsIn K mainGlobals "classes_of" = some (some (.ref f7))) (l7 : K.lookup f7 = some ⟨oc7, od7, .func (PySem.W.fnOf "classes_of" "classes_of" (defArgs s_classes_of) (defBody s_classes_of) (defScope s_classes_of) .none kV7 dc7 pm7 an7 cd7 ct7), sl7⟩) (c7 : PySem.W.codeIn K cd7 "classes_of" = true) (k7 : PySem.W.keepIn K (.ref f7) = true)
    (a8 : PySem.W.nsIn K mainGlobals "paper_of" = some (some (.ref f8))) (l8 : K.lookup f8 = some ⟨oc8, od8, .func (PySem.W.fnOf "paper_of" "paper_of" (defArgs s_paper_of) (defBody s_paper_of) (defScope s_paper_of) .none kV8 dc8 pm8 an8 cd8 ct8), sl8⟩) (c8 : PySem.W.codeIn K cd8 "paper_of" = true) (k8 : PySem.W.keepIn K (.ref f8) = true)
    (a9 : PySem.W.nsIn K mainGlobals "joined_paper" = some (some (.ref f9))) (l9 : K.lookup f9 = some ⟨oc9, od9, .func (PySem.W.fnOf "joined_paper" "joined_paper" (defArgs s_joined_paper) (defBody s_joined_paper) (defScope s_joined_paper) .none kV9 dc9 pm9 an9 cd9 ct9), sl9⟩) (c9 : PySem.W.codeIn K cd9 "joined_paper" = true) (k9 : PySem.W.keepIn K (.ref f9) = true)
    (a10 : PySem.W.nsIn K mainGlobals "are_lines" = some (some (.ref f10))) (l10 : K.lookup f10 = some ⟨oc10, od10, .func (PySem.W.fnOf "are_lines" "are_lines" (defArgs s_are_lines) (defBody s_are_lines) (defScope s_are_lines) .none kV10 dc10 pm10 an10 cd10 ct10), sl10⟩) (c10 : PySem.W.codeIn K cd10 "are_lines" = true) (k10 : PySem.W.keepIn K (.ref f10) = true)
    (a11 : PySem.W.nsIn K mainGlobals "are_classes" = some (some (.ref f11))) (l11 : K.lookup f11 = some ⟨oc11, od11, .func (PySem.W.fnOf "are_classes" "are_classes" (defArgs s_are_classes) (defBody s_are_classes) (defScope s_are_classes) .none kV11 dc11 pm11 an11 cd11 ct11), sl11⟩) (c11 : PySem.W.codeIn K cd11 "are_classes" = true) (k11 : PySem.W.keepIn K (.ref f11) = true)
    (a12 : PySem.W.nsIn K mainGlobals "is_tree" = some (some (.ref f12))) (l12 : K.lookup f12 = some ⟨oc12, od12, .func (PySem.W.fnOf "is_tree" "is_tree" (defArgs s_is_tree) (defBody s_is_tree) (defScope s_is_tree) .none kV12 dc12 pm12 an12 cd12 ct12), sl12⟩) (c12 : PySem.W.codeIn K cd12 "is_tree" = true) (k12 : PySem.W.keepIn K (.ref f12) = true)
    (a13 : PySem.W.nsIn K mainGlobals "are_links" = some (some (.ref f13))) (l13 : K.lookup f13 = some ⟨oc13, od13, .func (PySem.W.fnOf "are_links" "are_links" (defArgs s_are_links) (defBody s_are_links) (defScope s_are_links) .none kV13 dc13 pm13 an13 cd13 ct13), sl13⟩) (c13 : PySem.W.codeIn K cd13 "are_links" = true) (k13 : PySem.W.keepIn K (.ref f13) = true)
    (a14 : PySem.W.nsIn K mainGlobals "is_locked" = some (some (.ref f14))) (l14 : K.lookup f14 = some ⟨oc14, od14, .func (PySem.W.fnOf "is_locked" "is_locked" (defArgs s_is_locked) (defBody s_is_locked) (defScope s_is_locked) .none kV14 dc14 pm14 an14 cd14 ct14), sl14⟩) (c14 : PySem.W.codeIn K cd14 "is_locked" = true) (k14 : PySem.W.keepIn K (.ref f14) = true)
    (a15 : PySem.W.nsIn K mainGlobals "require_square" = some (some (.ref f15))) (l15 : K.lookup f15 = some ⟨oc15, od15, .func (PySem.W.fnOf "require_square" "require_square" (defArgs s_require_square) (defBody s_require_square) (defScope s_require_square) .none kV15 dc15 pm15 an15 cd15 ct15), sl15⟩) (c15 : PySem.W.codeIn K cd15 "require_square" = true) (k15 : PySem.W.keepIn K (.ref f15) = true)
    (a16 : PySem.W.nsIn K mainGlobals "tree_or_locked" = some (some (.ref f16))) (l16 : K.lookup f16 = some ⟨oc16, od16, .func (PySem.W.fnOf "tree_or_locked" "tree_or_locked" (defArgs s_tree_or_locked) (defBody s_tree_or_locked) (defScope s_tree_or_locked) .none kV16 dc16 pm16 an16 cd16 ct16), sl16⟩) (c16 : PySem.W.codeIn K cd16 "tree_or_locked" = true) (k16 : PySem.W.keepIn K (.ref f16) = true)
    (a17 : PySem.W.nsIn K mainGlobals "is_tree_paper" = some (some (.ref f17))) (l17 : K.lookup f17 = some ⟨oc17, od17, .func (PySem.W.fnOf "is_tree_paper" "is_tree_paper" (defArgs s_is_tree_paper) (defBody s_is_tree_paper) (defScope s_is_tree_paper) .none kV17 dc17 pm17 an17 cd17 ct17), sl17⟩) (c17 : PySem.W.codeIn K cd17 "is_tree_paper" = true) (k17 : PySem.W.keepIn K (.ref f17) = true)
    (a18 : PySem.W.nsIn K mainGlobals "is_whole_tree" = some (some (.ref f18))) (l18 : K.lookup f18 = some ⟨oc18, od18, .func (PySem.W.fnOf "is_whole_tree" "is_whole_tree" (defArgs s_is_whole_tree) (defBody s_is_whole_tree) (defScope s_is_whole_tree) .none kV18 dc18 pm18 an18 cd18 ct18), sl18⟩) (c18 : PySem.W.codeIn K cd18 "is_whole_tree" = true) (k18 : PySem.W.keepIn K (.ref f18) = true)
    (a19 : PySem.W.nsIn K mainGlobals "_law_dice" = some (some (.ref f19))) (l19 : K.lookup f19 = some ⟨oc19, od19, .func (PySem.W.fnOf "_law_dice" "_law_dice" (defArgs s_L_dice) (defBody s_L_dice) (defScope s_L_dice) .none kV19 dc19 pm19 an19 cd19 ct19), sl19⟩) (c19 : PySem.W.codeIn K cd19 "_law_dice" = true) (k19 : PySem.W.keepIn K (.ref f19) = true)
    (a20 : PySem.W.nsIn K mainGlobals "_law_roll" = some (some (.ref f20))) (l20 : K.lookup f20 = some ⟨oc20, od20, .func (PySem.W.fnOf "_law_roll" "_law_roll" (defArgs s_L_roll) (defBody s_L_roll) (defScope s_L_roll) .none kV20 dc20 pm20 an20 cd20 ct20), sl20⟩) (c20 : PySem.W.codeIn K cd20 "_law_roll" = true) (k20 : PySem.W.keepIn K (.ref f20) = true)
    (a21 : PySem.W.nsIn K mainGlobals "_law_pick" = some (some (.ref f21))) (l21 : K.lookup f21 = some ⟨oc21, od21, .func (PySem.W.fnOf "_law_pick" "_law_pick" (defArgs s_L_pick) (defBody s_L_pick) (defScope s_L_pick) .none kV21 dc21 pm21 an21 cd21 ct21), sl21⟩) (c21 : PySem.W.codeIn K cd21 "_law_pick" = true) (k21 : PySem.W.keepIn K (.ref f21) = true)
    (a22 : PySem.W.nsIn K mainGlobals "_law_mixed" = some (some (.ref f22))) (l22 : K.lookup f22 = some ⟨oc22, od22, .func (PySem.W.fnOf "_law_mixed" "_law_mixed" (defArgs s_L_mixed) (defBody s_L_mixed) (defScope s_L_mixed) .none kV22 dc22 pm22 an22 cd22 ct22), sl22⟩) (c22 : PySem.W.codeIn K cd22 "_law_mixed" = true) (k22 : PySem.W.keepIn K (.ref f22) = true)
    (a23 : PySem.W.nsIn K mainGlobals "_law_lk_turned" = some (some (.ref f23))) (l23 : K.lookup f23 = some ⟨oc23, od23, .func (PySem.W.fnOf "_law_lk_turned" "_law_lk_turned" (defArgs s_L_lk_turned) (defBody s_L_lk_turned) (defScope s_L_lk_turned) .none kV23 dc23 pm23 an23 cd23 ct23), sl23⟩) (c23 : PySem.W.codeIn K cd23 "_law_lk_turned" = true) (k23 : PySem.W.keepIn K (.ref f23) = true)
    (a24 : PySem.W.nsIn K mainGlobals "_law_lk_classes" = some (some (.ref f24))) (l24 : K.lookup f24 = some ⟨oc24, od24, .func (PySem.W.fnOf "_law_lk_classes" "_law_lk_classes" (defArgs s_L_lk_classes) (defBody s_L_lk_classes) (defScope s_L_lk_classes) .none kV24 dc24 pm24 an24 cd24 ct24), sl24⟩) (c24 : PySem.W.codeIn K cd24 "_law_lk_classes" = true) (k24 : PySem.W.keepIn K (.ref f24) = true)
    (a25 : PySem.W.nsIn K mainGlobals "_law_lk_is_flat" = some (some (.ref f25))) (l25 : K.lookup f25 = some ⟨oc25, od25, .func (PySem.W.fnOf "_law_lk_is_flat" "_law_lk_is_flat" (defArgs s_L_lk_is_flat) (defBody s_L_lk_is_flat) (defScope s_L_lk_is_flat) .none kV25 dc25 pm25 an25 cd25 ct25), sl25⟩) (c25 : PySem.W.codeIn K cd25 "_law_lk_is_flat" = true) (k25 : PySem.W.keepIn K (.ref f25) = true)
    (a26 : PySem.W.nsIn K mainGlobals "_law_lk_has_tree" = some (some (.ref f26))) (l26 : K.lookup f26 = some ⟨oc26, od26, .func (PySem.W.fnOf "_law_lk_has_tree" "_law_lk_has_tree" (defArgs s_L_lk_has_tree) (defBody s_L_lk_has_tree) (defScope s_L_lk_has_tree) .none kV26 dc26 pm26 an26 cd26 ct26), sl26⟩) (c26 : PySem.W.codeIn K cd26 "_law_lk_has_tree" = true) (k26 : PySem.W.keepIn K (.ref f26) = true)
    (a27 : PySem.W.nsIn K mainGlobals "_law_lk_is_within" = some (some (.ref f27))) (l27 : K.lookup f27 = some ⟨oc27, od27, .func (PySem.W.fnOf "_law_lk_is_within" "_law_lk_is_within" (defArgs s_L_lk_is_within) (defBody s_L_lk_is_within) (defScope s_L_lk_is_within) .none kV27 dc27 pm27 an27 cd27 ct27), sl27⟩) (c27 : PySem.W.codeIn K cd27 "_law_lk_is_within" = true) (k27 : PySem.W.keepIn K (.ref f27) = true)
    (a28 : PySem.W.nsIn K mainGlobals "_law_lk_are_lines" = some (some (.ref f28))) (l28 : K.lookup f28 = some ⟨oc28, od28, .func (PySem.W.fnOf "_law_lk_are_lines" "_law_lk_are_lines" (defArgs s_L_lk_are_lines) (defBody s_L_lk_are_lines) (defScope s_L_lk_are_lines) .none kV28 dc28 pm28 an28 cd28 ct28), sl28⟩) (c28 : PySem.W.codeIn K cd28 "_law_lk_are_lines" = true) (k28 : PySem.W.keepIn K (.ref f28) = true)
    (a29 : PySem.W.nsIn K mainGlobals "_law_lk_are_classes" = some (some (.ref f29))) (l29 : K.lookup f29 = some ⟨oc29, od29, .func (PySem.W.fnOf "_law_lk_are_classes" "_law_lk_are_classes" (defArgs s_L_lk_are_classes) (defBody s_L_lk_are_classes) (defScope s_L_lk_are_classes) .none kV29 dc29 pm29 an29 cd29 ct29), sl29⟩) (c29 : PySem.W.codeIn K cd29 "_law_lk_are_classes" = true) (k29 : PySem.W.keepIn K (.ref f29) = true)
    (a30 : PySem.W.nsIn K mainGlobals "_law_lk_is_tree" = some (some (.ref f30))) (l30 : K.lookup f30 = some ⟨oc30, od30, .func (PySem.W.fnOf "_law_lk_is_tree" "_law_lk_is_tree" (defArgs s_L_lk_is_tree) (defBody s_L_lk_is_tree) (defScope s_L_lk_is_tree) .none kV30 dc30 pm30 an30 cd30 ct30), sl30⟩) (c30 : PySem.W.codeIn K cd30 "_law_lk_is_tree" = true) (k30 : PySem.W.keepIn K (.ref f30) = true)
    (a31 : PySem.W.nsIn K mainGlobals "_law_lk_are_links" = some (some (.ref f31))) (l31 : K.lookup f31 = some ⟨oc31, od31, .func (PySem.W.fnOf "_law_lk_are_links" "_law_lk_are_links" (defArgs s_L_lk_are_links) (defBody s_L_lk_are_links) (defScope s_L_lk_are_links) .none kV31 dc31 pm31 an31 cd31 ct31), sl31⟩) (c31 : PySem.W.codeIn K cd31 "_law_lk_are_links" = true) (k31 : PySem.W.keepIn K (.ref f31) = true)
    (a32 : PySem.W.nsIn K mainGlobals "_law_lk_is_paper" = some (some (.ref f32))) (l32 : K.lookup f32 = some ⟨oc32, od32, .func (PySem.W.fnOf "_law_lk_is_paper" "_law_lk_is_paper" (defArgs s_L_lk_is_paper) (defBody s_L_lk_is_paper) (defScope s_L_lk_is_paper) .none kV32 dc32 pm32 an32 cd32 ct32), sl32⟩) (c32 : PySem.W.codeIn K cd32 "_law_lk_is_paper" = true) (k32 : PySem.W.keepIn K (.ref f32) = true)
    (a33 : PySem.W.nsIn K mainGlobals "_law_lk_filled" = some (some (.ref f33))) (l33 : K.lookup f33 = some ⟨oc33, od33, .func (PySem.W.fnOf "_law_lk_filled" "_law_lk_filled" (defArgs s_L_lk_filled) (defBody s_L_lk_filled) (defScope s_L_lk_filled) .none kV33 dc33 pm33 an33 cd33 ct33), sl33⟩) (c33 : PySem.W.codeIn K cd33 "_law_lk_filled" = true) (k33 : PySem.W.keepIn K (.ref f33) = true)
    (a34 : PySem.W.nsIn K mainGlobals "_law_lk_drawn" = some (some (.ref f34))) (l34 : K.lookup f34 = some ⟨oc34, od34, .func (PySem.W.fnOf "_law_lk_drawn" "_law_lk_drawn" (defArgs s_L_lk_drawn) (defBody s_L_lk_drawn) (defScope s_L_lk_drawn) .none kV34 dc34 pm34 an34 cd34 ct34), sl34⟩) (c34 : PySem.W.codeIn K cd34 "_law_lk_drawn" = true) (k34 : PySem.W.keepIn K (.ref f34) = true)
    (a35 : PySem.W.nsIn K mainGlobals "_law_bent" = some (some (.ref f35))) (l35 : K.lookup f35 = some ⟨oc35, od35, .func (PySem.W.fnOf "_law_bent" "_law_bent" (defArgs s_L_bent) (defBody s_L_bent) (defScope s_L_bent) .none kV35 dc35 pm35 an35 cd35 ct35), sl35⟩) (c35 : PySem.W.codeIn K cd35 "_law_bent" = true) (k35 : PySem.W.keepIn K (.ref f35) = true)
    (a36 : PySem.W.nsIn K mainGlobals "_law_right" = some (some (.ref f36))) (l36 : K.lookup f36 = some ⟨oc36, od36, .func (PySem.W.fnOf "_law_right" "_law_right" (defArgs s_L_right) (defBody s_L_right) (defScope s_L_right) .none kV36 dc36 pm36 an36 cd36 ct36), sl36⟩) (c36 : PySem.W.codeIn K cd36 "_law_right" = true) (k36 : PySem.W.keepIn K (.ref f36) = true)
    (a37 : PySem.W.nsIn K mainGlobals "law" = some (some (.ref f37))) (l37 : K.lookup f37 = some ⟨oc37, od37, .func (PySem.W.fnOf "law" "law" (defArgs s_law) (defBody s_law) (defScope s_law) .none kV37 dc37 pm37 an37 cd37 ct37), sl37⟩) (c37 : PySem.W.codeIn K cd37 "law" = true) (k37 : PySem.W.keepIn K (.ref f37) = true)
    (y0 : PySem.W.nsIn K mainGlobals "MAX_LINES" = some (some (.int 12 tk0)))
    (y1 : PySem.W.nsIn K mainGlobals "MAX_ENTRY" = some (some (.int 60 tk1)))
    (y2 : PySem.W.nsIn K mainGlobals "LEAST_CLASSES" = some (some (.int 2 tk2)))
    (y3 : PySem.W.nsIn K mainGlobals "LINK_SIZE" = some (some (.int 3 tk3)))
    (y4 : PySem.W.nsIn K mainGlobals "FLAT_SIZE" = some (some (.int 2 tk4)))
    (y5 : PySem.W.nsIn K mainGlobals "NODE_SIZE" = some (some (.int 3 tk5)))
    (y6 : PySem.W.nsIn K mainGlobals "LOCKED_SIZE" = some (some (.int 5 tk6)))
    (y7 : PySem.W.nsIn K mainGlobals "FLAT" = some (some (.str "flat" tk7)))
    (y8 : PySem.W.nsIn K mainGlobals "ROWS" = some (some (.str "rows" tk8)))
    (y9 : PySem.W.nsIn K mainGlobals "COLUMNS" = some (some (.str "columns" tk9)))
    (y10 : PySem.W.nsIn K mainGlobals "TREE" = some (some (.str "tree" tk10)))
    (y11 : PySem.W.nsIn K mainGlobals "LOCKED" = some (some (.str "locked" tk11)))
    (z0 : PySem.W.nsIn K mainGlobals "isinstance" = some none)
    (z1 : PySem.W.nsIn K mainGlobals "all" = some none)
    (z2 : PySem.W.nsIn K mainGlobals "any" = some none)
    (z3 : PySem.W.nsIn K mainGlobals "len" = some none)
    (z4 : PySem.W.nsIn K mainGlobals "list" = some none)
    (z5 : PySem.W.nsIn K mainGlobals "tuple" = some none)
    (z6 : PySem.W.nsIn K mainGlobals "range" = some none)
    (z7 : PySem.W.nsIn K mainGlobals "sorted" = some none)
    (z8 : PySem.W.nsIn K mainGlobals "set" = some none)
    (z9 : PySem.W.nsIn K mainGlobals "zip" = some none)
    (z10 : PySem.W.nsIn K mainGlobals "enumerate" = some none)
    (z11 : PySem.W.nsIn K mainGlobals "int" = some none)
    (z12 : PySem.W.nsIn K mainGlobals "bool" = some none)
    (z13 : PySem.W.nsIn K mainGlobals "str" = some none)
    (z14 : PySem.W.nsIn K mainGlobals "abs" = some none)
    (z15 : PySem.W.nsIn K mainGlobals "max" = some none)
    (z16 : PySem.W.nsIn K mainGlobals "min" = some none)
    (z17 : PySem.W.nsIn K mainGlobals "repr" = some none) : Txt K mg where
    a_is_integer := f1
    d_is_integer := _
    F_is_integer := fun_mk (st := s_is_integer) l1 c1 k1
    g_is_integer := PySem.W.mg_of X G a1
    b_is_integer := (fun_mk (st := s_is_integer) l1 c1 k1).binds (ps := ["value"]) fun _ _ _ _ _ _ us hl => match us, hl with | [_], _ => rfl
    a_is_within := f2
    d_is_within := _
    F_is_within := fun_mk (st := s_is_within) l2 c2 k2
    g_is_within := PySem.W.mg_of X G a2
    b_is_within := (fun_mk (st := s_is_within) l2 c2 k2).binds (ps := ["value", "least", "most"]) fun _ _ _ _ _ _ us hl => match us, hl with | [_, _, _], _ => rfl
    a_is_square_table := f3
    d_is_square_table := _
    F_is_square_table := fun_mk (st := s_is_square_table) l3 c3 k3
    g_is_square_table := PySem.W.mg_of X G a3
    b_is_square_table := (fun_mk (st := s_is_square_table) l3 c3 k3).binds (ps := ["value"]) fun _ _ _ _ _ _ us hl => match us, hl with | [_], _ => rfl
    a_turned_square := f4
    d_turned_square := _
    F_turned_square := fun_mk (st := s_turned_square) l4 c4 k4
    g_turned_square := PySem.W.mg_of X G a4
    b_turned_square := (fun_mk (st := s_turned_square) l4 c4 k4).binds (ps := ["square"]) fun _ _ _ _ _ _ us hl => match us, hl with | [_], _ => rfl
    a_is_flat := f5
    d_is_flat := _
    F_is_flat := fun_mk (st := s_is_flat) l5 c5 k5
    g_is_flat := PySem.W.mg_of X G a5
    b_is_flat := (fun_mk (st := s_is_flat) l5 c5 k5).binds (ps := ["square", "rows", "columns"]) fun _ _ _ _ _ _ us hl => match us, hl with | [_, _, _], _ => rfl
    a_link_of := f6
    d_link_of := _
    F_link_of := fun_mk (st := s_link_of) l6 c6 k6
    g_link_of := PySem.W.mg_of X G a6
    b_link_of := (fun_mk (st := s_link_of) l6 c6 k6).binds (ps := ["square", "row", "other", "columns"]) fun _ _ _ _ _ _ us hl => match us, hl with | [_, _, _, _], _ => rfl
    a_classes_of := f7
    d_classes_of := _
    F_classes_of := fun_mk (st := s_classes_of) l7 c7 k7
    g_classes_of := PySem.W.mg_of X G a7
    b_classes_of := (fun_mk (st := s_classes_of) l7 c7 k7).binds (ps := ["square", "rows", "columns"]) fun _ _ _ _ _ _ us hl => match us, hl with | [_, _, _], _ => rfl
    a_paper_of := f8
    d_paper_of := _
    F_paper_of := fun_mk (st := s_paper_of) l8 c8 k8
    g_paper_of := PySem.W.mg_of X G a8
    b_paper_of := (fun_mk (st := s_paper_of) l8 c8 k8).binds (ps := ["square", "rows", "columns"]) fun _ _ _ _ _ _ us hl => match us, hl with | [_, _, _], _ => rfl
    a_joined_paper := f9
    d_joined_paper := _
    F_joined_paper := fun_mk (st := s_joined_paper) l9 c9 k9
    g_joined_paper := PySem.W.mg_of X G a9
    b_joined_paper := (fun_mk (st := s_joined_paper) l9 c9 k9).binds (ps := ["word", "classes", "papers"]) fun _ _ _ _ _ _ us hl => match us, hl with | [_, _, _], _ => rfl
    a_are_lines := f10
    d_are_lines := _
    F_are_lines := fun_mk (st := s_are_lines) l10 c10 k10
    g_are_lines := PySem.W.mg_of X G a10
    b_are_lines := (fun_mk (st := s_are_lines) l10 c10 k10).binds (ps := ["value", "size"]) fun _ _ _ _ _ _ us hl => match us, hl with | [_, _], _ => rfl
    a_are_classes := f11
    d_are_classes := _
    F_are_classes := fun_mk (st := s_are_classes) l11 c11 k11
    g_are_classes := PySem.W.mg_of X G a11
    b_are_classes := (fun_mk (st := s_are_classes) l11 c11 k11).binds (ps := ["square", "rows", "columns", "value"]) fun _ _ _ _ _ _ us hl => match us, hl with | [_, _, _, _], _ => rfl
    a_is_tree := f12
    d_is_tree := _
    F_is_tree := fun_mk (st := s_is_tree) l12 c12 k12
    g_is_tree := PySem.W.mg_of X G a12
    b_is_tree := (fun_mk (st := s_is_tree) l12 c12 k12).binds (ps := ["square", "rows", "columns", "value"]) fun _ _ _ _ _ _ us hl => match us, hl with | [_, _, _, _], _ => rfl
    a_are_links := f13
    d_are_links := _
    F_are_links := fun_mk (st := s_are_links) l13 c13 k13
    g_are_links := PySem.W.mg_of X G a13
    b_are_links := (fun_mk (st := s_are_links) l13 c13 k13).binds (ps := ["square", "rows", "columns", "value"]) fun _ _ _ _ _ _ us hl => match us, hl with | [_, _, _, _], _ => rfl
    a_is_locked := f14
    d_is_locked := _
    F_is_locked := fun_mk (st := s_is_locked) l14 c14 k14
    g_is_locked := PySem.W.mg_of X G a14
    b_is_locked := (fun_mk (st := s_is_locked) l14 c14 k14).binds (ps := ["square", "value"]) fun _ _ _ _ _ _ us hl => match us, hl with | [_, _], _ => rfl
    a_require_square := f15
    d_require_square := _
    F_require_square := fun_mk (st := s_require_square) l15 c15 k15
    g_require_square := PySem.W.mg_of X G a15
    b_require_square := (fun_mk (st := s_require_square) l15 c15 k15).binds (ps := ["value"]) fun _ _ _ _ _ _ us hl => match us, hl with | [_], _ => rfl
    a_tree_or_locked := f16
    d_tree_or_locked := _
    F_tree_or_locked := fun_mk (st := s_tree_or_locked) l16 c16 k16
    g_tree_or_locked := PySem.W.mg_of X G a16
    b_tree_or_locked := (fun_mk (st := s_tree_or_locked) l16 c16 k16).binds (ps := ["square"]) fun _ _ _ _ _ _ us hl => match us, hl with | [_], _ => rfl
    a_is_tree_paper := f17
    d_is_tree_paper := _
    F_is_tree_paper := fun_mk (st := s_is_tree_paper) l17 c17 k17
    g_is_tree_paper := PySem.W.mg_of X G a17
    b_is_tree_paper := (fun_mk (st := s_is_tree_paper) l17 c17 k17).binds (ps := ["square", "value"]) fun _ _ _ _ _ _ us hl => match us, hl with | [_, _], _ => rfl
    a_is_whole_tree := f18
    d_is_whole_tree := _
    F_is_whole_tree := fun_mk (st := s_is_whole_tree) l18 c18 k18
    g_is_whole_tree := PySem.W.mg_of X G a18
    b_is_whole_tree := (fun_mk (st := s_is_whole_tree) l18 c18 k18).binds (ps := ["square", "value"]) fun _ _ _ _ _ _ us hl => match us, hl with | [_, _], _ => rfl
    a_L_dice := f19
    d_L_dice := _
    F_L_dice := fun_mk (st := s_L_dice) l19 c19 k19
    g_L_dice := PySem.W.mg_of X G a19
    b_L_dice := (fun_mk (st := s_L_dice) l19 c19 k19).binds (ps := ["_law_script", "_law_spot"]) fun _ _ _ _ _ _ us hl => match us, hl with | [_, _], _ => rfl
    a_L_roll := f20
    d_L_roll := _
    F_L_roll := fun_mk (st := s_L_roll) l20 c20 k20
    g_L_roll := PySem.W.mg_of X G a20
    b_L_roll := (fun_mk (st := s_L_roll) l20 c20 k20).binds (ps := ["_law_dice_here", "_law_most"]) fun _ _ _ _ _ _ us hl => match us, hl with | [_, _], _ => rfl
    a_L_pick := f21
    d_L_pick := _
    F_L_pick := fun_mk (st := s_L_pick) l21 c21 k21
    g_L_pick := PySem.W.mg_of X G a21
    b_L_pick := (fun_mk (st := s_L_pick) l21 c21 k21).binds (ps := ["_law_dice_here", "_law_items"]) fun _ _ _ _ _ _ us hl => match us, hl with | [_, _], _ => rfl
    a_L_mixed := f22
    d_L_mixed := _
    F_L_mixed := fun_mk (st := s_L_mixed) l22 c22 k22
    g_L_mixed := PySem.W.mg_of X G a22
    b_L_mixed := (fun_mk (st := s_L_mixed) l22 c22 k22).binds (ps := ["_law_dice_here", "_law_items"]) fun _ _ _ _ _ _ us hl => match us, hl with | [_, _], _ => rfl
    a_L_lk_turned := f23
    d_L_lk_turned := _
    F_L_lk_turned := fun_mk (st := s_L_lk_turned) l23 c23 k23
    g_L_lk_turned := PySem.W.mg_of X G a23
    b_L_lk_turned := (fun_mk (st := s_L_lk_turned) l23 c23 k23).binds (ps := ["_law_square"]) fun _ _ _ _ _ _ us hl => match us, hl with | [_], _ => rfl
    a_L_lk_classes := f24
    d_L_lk_classes := _
    F_L_lk_classes := fun_mk (st := s_L_lk_classes) l24 c24 k24
    g_L_lk_classes := PySem.W.mg_of X G a24
    b_L_lk_classes := (fun_mk (st := s_L_lk_classes) l24 c24 k24).binds (ps := ["_law_square", "_law_rows", "_law_columns"]) fun _ _ _ _ _ _ us hl => match us, hl with | [_, _, _], _ => rfl
    a_L_lk_is_flat := f25
    d_L_lk_is_flat := _
    F_L_lk_is_flat := fun_mk (st := s_L_lk_is_flat) l25 c25 k25
    g_L_lk_is_flat := PySem.W.mg_of X G a25
    b_L_lk_is_flat := (fun_mk (st := s_L_lk_is_flat) l25 c25 k25).binds (ps := ["_law_square", "_law_rows", "_law_columns"]) fun _ _ _ _ _ _ us hl => match us, hl with | [_, _, _], _ => rfl
    a_L_lk_has_tree := f26
    d_L_lk_has_tree := _
    F_L_lk_has_tree := fun_mk (st := s_L_lk_has_tree) l26 c26 k26
    g_L_lk_has_tree := PySem.W.mg_of X G a26
    b_L_lk_has_tree := (fun_mk (st := s_L_lk_has_tree) l26 c26 k26).binds (ps := ["_law_square", "_law_rows", "_law_columns"]) fun _ _ _ _ _ _ us hl => match us, hl with | [_, _, _], _ => rfl
    a_L_lk_is_within := f27
    d_L_lk_is_within := _
    F_L_lk_is_within := fun_mk (st := s_L_lk_is_within) l27 c27 k27
    g_L_lk_is_within := PySem.W.mg_of X G a27
    b_L_lk_is_within := (fun_mk (st := s_L_lk_is_within) l27 c27 k27).binds (ps := ["_law_value", "_law_least", "_law_most"]) fun _ _ _ _ _ _ us hl => match us, hl with | [_, _, _], _ => rfl
    a_L_lk_are_lines := f28
    d_L_lk_are_lines := _
    F_L_lk_are_lines := fun_mk (st := s_L_lk_are_lines) l28 c28 k28
    g_L_lk_are_lines := PySem.W.mg_of X G a28
    b_L_lk_are_lines := (fun_mk (st := s_L_lk_are_lines) l28 c28 k28).binds (ps := ["_law_value", "_law_size"]) fun _ _ _ _ _ _ us hl => match us, hl with | [_, _], _ => rfl
    a_L_lk_are_classes := f29
    d_L_lk_are_classes := _
    F_L_lk_are_classes := fun_mk (st := s_L_lk_are_classes) l29 c29 k29
    g_L_lk_are_classes := PySem.W.mg_of X G a29
    b_L_lk_are_classes := (fun_mk (st := s_L_lk_are_classes) l29 c29 k29).binds (ps := ["_law_square", "_law_rows", "_law_columns", "_law_value"]) fun _ _ _ _ _ _ us hl => match us, hl with | [_, _, _, _], _ => rfl
    a_L_lk_is_tree := f30
    d_L_lk_is_tree := _
    F_L_lk_is_tree := fun_mk (st := s_L_lk_is_tree) l30 c30 k30
    g_L_lk_is_tree := PySem.W.mg_of X G a30
    b_L_lk_is_tree := (fun_mk (st := s_L_lk_is_tree) l30 c30 k30).binds (ps := ["_law_square", "_law_rows", "_law_columns", "_law_value"]) fun _ _ _ _ _ _ us hl => match us, hl with | [_, _, _, _], _ => rfl
    a_L_lk_are_links := f31
    d_L_lk_are_links := _
    F_L_lk_are_links := fun_mk (st := s_L_lk_are_links) l31 c31 k31
    g_L_lk_are_links := PySem.W.mg_of X G a31
    b_L_lk_are_links := (fun_mk (st := s_L_lk_are_links) l31 c31 k31).binds (ps := ["_law_square", "_law_rows", "_law_columns", "_law_value"]) fun _ _ _ _ _ _ us hl => match us, hl with | [_, _, _, _], _ => rfl
    a_L_lk_is_paper := f32
    d_L_lk_is_paper := _
    F_L_lk_is_paper := fun_mk (st := s_L_lk_is_paper) l32 c32 k32
    g_L_lk_is_paper := PySem.W.mg_of X G a32
    b_L_lk_is_paper := (fun_mk (st := s_L_lk_is_paper) l32 c32 k32).binds (ps := ["_law_square", "_law_value"]) fun _ _ _ _ _ _ us hl => match us, hl with | [_, _], _ => rfl
    a_L_lk_filled := f33
    d_L_lk_filled := _
    F_L_lk_filled := fun_mk (st := s_L_lk_filled) l33 c33 k33
    g_L_lk_filled := PySem.W.mg_of X G a33
    b_L_lk_filled := (fun_mk (st := s_L_lk_filled) l33 c33 k33).binds (ps := ["_law_dice_here", "_law_table", "_law_rows", "_law_columns", "_law_low", "_law_high"]) fun _ _ _ _ _ _ us hl => match us, hl with | [_, _, _, _, _, _], _ => rfl
    a_L_lk_drawn := f34
    d_L_lk_drawn := _
    F_L_lk_drawn := fun_mk (st := s_L_lk_drawn) l34 c34 k34
    g_L_lk_drawn := PySem.W.mg_of X G a34
    b_L_lk_drawn := (fun_mk (st := s_L_lk_drawn) l34 c34 k34).binds (ps := ["_law_dice_here", "_law_most"]) fun _ _ _ _ _ _ us hl => match us, hl with | [_, _], _ => rfl
    a_L_bent := f35
    d_L_bent := _
    F_L_bent := fun_mk (st := s_L_bent) l35 c35 k35
    g_L_bent := PySem.W.mg_of X G a35
    b_L_bent := (fun_mk (st := s_L_bent) l35 c35 k35).binds (ps := ["_law_dice_here", "_law_value"]) fun _ _ _ _ _ _ us hl => match us, hl with | [_, _], _ => rfl
    a_L_right := f36
    d_L_right := _
    F_L_right := fun_mk (st := s_L_right) l36 c36 k36
    g_L_right := PySem.W.mg_of X G a36
    b_L_right := (fun_mk (st := s_L_right) l36 c36 k36).binds (ps := ["_law_dice_here"]) fun _ _ _ _ _ _ us hl => match us, hl with | [_], _ => rfl
    a_law := f37
    d_law := _
    F_law := fun_mk (st := s_law) l37 c37 k37
    g_law := PySem.W.mg_of X G a37
    b_law := (fun_mk (st := s_law) l37 c37 k37).binds (ps := ["_law_script"]) fun _ _ _ _ _ _ us hl => match us, hl with | [_], _ => rfl
    t_MAX_LINES := tk0
    g_MAX_LINES := PySem.W.mg_of X G y0
    t_MAX_ENTRY := tk1
    g_MAX_ENTRY := PySem.W.mg_of X G y1
    t_LEAST_CLASSES := tk2
    g_LEAST_CLASSES := PySem.W.mg_of X G y2
    t_LINK_SIZE := tk3
    g_LINK_SIZE := PySem.W.mg_of X G y3
    t_FLAT_SIZE := tk4
    g_FLAT_SIZE := PySem.W.mg_of X G y4
    t_NODE_SIZE := tk5
    g_NODE_SIZE := PySem.W.mg_of X G y5
    t_LOCKED_SIZE := tk6
    g_LOCKED_SIZE := PySem.W.mg_of X G y6
    t_FLAT := tk7
    g_FLAT := PySem.W.mg_of X G y7
    t_ROWS := tk8
    g_ROWS := PySem.W.mg_of X G y8
    t_COLUMNS := tk9
    g_COLUMNS := PySem.W.mg_of X G y9
    t_TREE := tk10
    g_TREE := PySem.W.mg_of X G y10
    t_LOCKED := tk11
    g_LOCKED := PySem.W.mg_of X G y11
    z_isinstance := PySem.W.mg_none_of X G z0
    z_all := PySem.W.mg_none_of X G z1
    z_any := PySem.W.mg_none_of X G z2
    z_len := PySem.W.mg_none_of X G z3
    z_list := PySem.W.mg_none_of X G z4
    z_tuple := PySem.W.mg_none_of X G z5
    z_range := PySem.W.mg_none_of X G z6
    z_sorted := PySem.W.mg_none_of X G z7
    z_set := PySem.W.mg_none_of X G z8
    z_zip := PySem.W.mg_none_of X G z9
    z_enumerate := PySem.W.mg_none_of X G z10
    z_int := PySem.W.mg_none_of X G z11
    z_bool := PySem.W.mg_none_of X G z12
    z_str := PySem.W.mg_none_of X G z13
    z_abs := PySem.W.mg_none_of X G z14
    z_max := PySem.W.mg_none_of X G z15
    z_min := PySem.W.mg_none_of X G z16
    z_repr := PySem.W.mg_none_of X G z17

theorem law_end {P : Program} {w : World} {K : PySem.W.Frag} {mg : Str → Option Value} {fa : Addr} (T : Txt K mg) (hfa : mg "law" = some (.ref fa)) :
    ∃ fd : FuncData, (∀ (s : Shared) (v : Value), BindsTo s fd ⟨[v], []⟩ [("_law_script", v)]) ∧ ∀ base : Heap, K.In base → base.Ns mainGlobals mg → FnOk P w K mg base CX0 200 fa fd ["_law_script"] (spLaw K) := by
  have e := hfa.symm.trans T.g_law
  cases e
  refine ⟨T.d_law, fun s v => ?_, fun base _ _ => ok_law T⟩
  obtain ⟨oc, od, kV, doc, pm, an, cdv, ct, osl, e, _⟩ := T.F_law.ex
  rw [e]
  exact .of_eq rfl
end Kw
open PySem PySem.W PyProof.Rows
set_option maxHeartbeats 0 in
theorem PySem.Challenge.cw_evencoins_k93_whole_trees_or_locked_squa_holds : PySem.Challenge.rw_evencoins_k93_whole_trees_or_locked_squa.Holds := by
  w_on; o_law; k_head; (case hw => w_witness2)
  k_fill
  refine L2.walk_of (l := PySem.Challenge.rw_evencoins_k93_whole_trees_or_locked_squa) (n := 63) (k := 200) (x := "_law_script") (CX := fun _ => L2.CX0) (sp := fun w => Kw.spLaw _) rfl (by decide) rfl ⟨rfl, by decide, by decide⟩ (fun w h Y => PySem.W.kIn_of Y) ?F (fun _ _ a ns hl _ hS => ⟨a, ns, rfl, hS, hl, fun _ => rfl⟩) (fun _ _ _ _ _ h => h)
  case F =>
    intro w mg fa h KX G hmg
    refine' Kw.law_end (Kw.txt_mk KX G ?a1 ?l1 ?c1 ?k1 ?a2 ?l2 ?c2 ?k2 ?a3 ?l3 ?c3 ?k3 ?a4 ?l4 ?c4 ?k4 ?a5 ?l5 ?c5 ?k5 ?a6 ?l6 ?c6 ?k6 ?a7 ?l7 ?c7 ?k7 ?a8 ?l8 ?c8 ?k8 ?a9 ?l9 ?c9 ?k9 ?a10 ?l10 ?c10 ?k10 ?a11 ?l11 ?c11 ?k11 ?a12 ?l12 ?c12 ?k12 ?a13 ?l13 ?c13 ?k13 ?a14 ?l14 ?c14 ?k14 ?a15 ?l15 ?c15 ?k15 ?a16 ?l16 ?c16 ?k16 ?a17 ?l17 ?c17 ?k17 ?a18 ?l18 ?c18 ?k18 ?a19 ?l19 ?c19 ?k19 ?a20 ?l20 ?c20 ?k20 ?a21 ?l21 ?c21 ?k21 ?a22 ?l22 ?c22 ?k22 ?a23 ?l23 ?c23 ?k23 ?a24 ?l24 ?c24 ?k24 ?a25 ?l25 ?c25 ?k25 ?a26 ?l26 ?c26 ?k26 ?a27 ?l27 ?c27 ?k27 ?a28 ?l28 ?c28 ?k28 ?a29 ?l29 ?c29 ?k29 ?a30 ?l30 ?c30 ?k30 ?a31 ?l31 ?c31 ?k31 ?a32 ?l32 ?c32 ?k32 ?a33 ?l33 ?c33 ?k33 ?a34 ?l34 ?c34 ?k34 ?a35 ?l35 ?c35 ?k35 ?a36 ?l36 ?c36 ?k36 ?a37 ?l37 ?c37 ?k37 ?y0 ?y1 ?y2 ?y3 ?y4 ?y5 ?y6 ?y7 ?y8 ?y9 ?y10 ?y11 ?z0 ?z1 ?z2 ?z3 ?z4 ?z5 ?z6 ?z7 ?z8 ?z9 ?z10 ?z11 ?z12 ?z13 ?z14 ?z15 ?z16 ?z17) hmg
    (case a1 => k_is); (case l1 => k_is); (case c1 => k_is); (case k1 => k_is)
    (case a2 => k_is); (case l2 => k_is); (case c2 => k_is); (case k2 => k_is)
    (case a3 => k_is); (case l3 => k_is); (case c3 => k_is); (case k3 => k_is)
    (case a4 => k_is); (case l4 => k_is); (case c4 => k_is); (case k4 => k_is)
    (case a5 => k_is); (case l5 => k_is); (case c5 => k_is); (case k5 => k_is)
    (case a6 => k_is); (case l6 => k_is); (case c6 => k_is); (case k6 => k_is)
    (case a7 => k_is); (case l7 => k_is); (case c7 => k_is); (case k7 => k_is)
    (case a8 => k_is); (case l8 => k_is); (case c8 => k_is); (case k8 => k_is)
    (case a9 => k_is); (case l9 => k_is); (case c9 => k_is); (case k9 => k_is)
    (case a10 => k_is); (case l10 => k_is); (case c10 => k_is); (case k10 => k_is)
    (case a11 => k_is); (case l11 => k_is); (case c11 => k_is); (case k11 => k_is)
    (case a12 => k_is); (case l12 => k_is); (case c12 => k_is); (case k12 => k_is)
    (case a13 => k_is); (case l13 => k_is); (case c13 => k_is); (case k13 => k_is)
    (case a14 => k_is); (case l14 => k_is); (case c14 => k_is); (case k14 => k_is)
    (case a15 => k_is); (case l15 => k_is); (case c15 => k_is); (case k15 => k_is)
    (case a16 => k_is); (case l16 => k_is); (case c16 => k_is); (case k16 => k_is)
    (case a17 => k_is); (case l17 => k_is); (case c17 => k_is); (case k17 => k_is)
    (case a18 => k_is); (case l18 => k_is); (case c18 => k_is); (case k18 => k_is)
    (case a19 => k_is); (case l19 => k_is); (case c19 => k_is); (case k19 => k_is)
    (case a20 => k_is); (case l20 => k_is); (case c20 => k_is); (case k20 => k_is)
    (case a21 => k_is); (case l21 => k_is); (case c21 => k_is); (case k21 => k_is)
    (case a22 => k_is); (case l22 => k_is); (case c22 => k_is); (case k22 => k_is)
    (case a23 => k_is); (case l23 => k_is); (case c23 => k_is); (case k23 => k_is)
    (case a24 => k_is); (case l24 => k_is); (case c24 => k_is); (case k24 => k_is)
    (case a25 => k_is); (case l25 => k_is); (case c25 => k_is); (case k25 => k_is)
    (case a26 => k_is); (case l26 => k_is); (case c26 => k_is); (case k26 => k_is)
    (case a27 => k_is); (case l27 => k_is); (case c27 => k_is); (case k27 => k_is)
    (case a28 => k_is); (case l28 => k_is); (case c28 => k_is); (case k28 => k_is)
    (case a29 => k_is); (case l29 => k_is); (case c29 => k_is); (case k29 => k_is)
    (case a30 => k_is); (case l30 => k_is); (case c30 => k_is); (case k30 => k_is)
    (case a31 => k_is); (case l31 => k_is); (case c31 => k_is); (case k31 => k_is)
    (case a32 => k_is); (case l32 => k_is); (case c32 => k_is); (case k32 => k_is)
    (case a33 => k_is); (case l33 => k_is); (case c33 => k_is); (case k33 => k_is)
    (case a34 => k_is); (case l34 => k_is); (case c34 => k_is); (case k34 => k_is)
    (case a35 => k_is); (case l35 => k_is); (case c35 => k_is); (case k35 => k_is)
    (case a36 => k_is); (case l36 => k_is); (case c36 => k_is); (case k36 => k_is)
    (case a37 => k_is); (case l37 => k_is); (case c37 => k_is); (case k37 => k_is)
    (case y0 => k_is); (case y1 => k_is); (case y2 => k_is); (case y3 => k_is)
    (case y4 => k_is); (case y5 => k_is); (case y6 => k_is); (case y7 => k_is)
    (case y8 => k_is); (case y9 => k_is); (case y10 => k_is); (case y11 => k_is)
    (case z0 => k_is); (case z1 => k_is); (case z2 => k_is); (case z3 => k_is)
    (case z4 => k_is); (case z5 => k_is); (case z6 => k_is); (case z7 => k_is)
    (case z8 => k_is); (case z9 => k_is); (case z10 => k_is); (case z11 => k_is)
    (case z12 => k_is); (case z13 => k_is); (case z14 => k_is); (case z15 => k_is)
    (case z16 => k_is); (case z17 => k_is)
