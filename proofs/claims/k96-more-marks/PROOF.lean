import PyProof.Rows.All
import Wide.All
import OpenK.AllK
import Wide.FinOn
import Lean
import HandS.Base
import HandS.Call
import HandS.List
import HandS.Comp
import HandS.Ends
import HandS.Dict
import HandS.Iter
import HandS.Text
import HandS.More
import HandS.Words
import HandS.WordsList
import HandS.WordsDict
import HandS.Exc
import HandS.WordsExc
import HandS.Defaults
import HandS.Flow
import HandS.Conv
import HandS.IsInst
import HandS.DictComp
import HandS.Walk
import HandS.Wide
import HandS.WideMore
import HandS.Evl
import HandS.Steps
import HandS.Head0
import HandS.Head1
import HandS.Head2
import HandS.HeadEnd
import HandS.HeadHook1
import HandS.HeadHook2
import HandS.HeadHook3
import HandS.HeadHook4
import PySem.Challenge.RW_spreadhues_k96_whole_more_marks_and_othe
import KE.KStateDown
import HandS.HeadWalk
import KE.KDictKeyed
import KE.KDictDisplayH
import KE.KDictWalk
import KE.SortData
import KE.SortKeyHeap
import KE.KDictCopyH
import KE.KUnpackStar
import KE.GoesEnum
import KE.GoesMore
import KE.DataMinMax
import HandS.Codes
import HandS.WideBits
import HandS.IterVal
import HandS.TupLen
import HandS.Lambda
import HandS.TryOnly
section
set_option maxHeartbeats 4000000
set_option Elab.async false
set_option linter.all false
set_option maxRecDepth 100000
set_option maxHeartbeats 4000000
/-! A0: the text by places, the facts of the top (printed by gen_head.py) -/
namespace G6
open PySem PySem.Spec PyProof.Rows L2
abbrev RW : PySem.W.OpenLaw := PySem.Challenge.rw_spreadhues_k96_whole_more_marks_and_othe
def top (i : Nat) : Stmt := PySem.Challenge.pw_spreadhues_k96_whole_more_marks_and_othe.main.body.getD i (.Pass ⟨0, 0, 0, 0⟩)
abbrev s_is_whole : Stmt := top 12
abbrev s_Picture_init : Stmt := inClass (top 16) 0
abbrev s_check_cells : Stmt := top 17
abbrev s_check_ties : Stmt := top 18
abbrev s_check_marks : Stmt := top 19
abbrev s_with_colours : Stmt := top 20
abbrev s_neighbour_lists : Stmt := top 21
abbrev s_grown : Stmt := top 23
abbrev s_patches_of : Stmt := top 24
abbrev s_patch_numbers : Stmt := top 25
abbrev s_Folding_init : Stmt := inClass (top 28) 0
abbrev s_folded_patches : Stmt := top 29
abbrev s_spread_hue : Stmt := top 30
abbrev s_alike_parts : Stmt := top 31
abbrev s_wish_in_state : Stmt := top 32
abbrev s_unfold_state : Stmt := top 33
abbrev s_unlike_wholes : Stmt := top 34
abbrev s_check_choice : Stmt := top 35
abbrev s_list_pours : Stmt := top 36
abbrev s_close_states : Stmt := top 37
abbrev s_is_wish : Stmt := top 39
abbrev s_check_wish : Stmt := top 40
abbrev s_Book_init : Stmt := inClass (top 44) 0
abbrev s_Forced_init : Stmt := inClass (top 45) 0
abbrev s_Kept_init : Stmt := inClass (top 46) 0
abbrev s_Contest_init : Stmt := inClass (top 47) 0
abbrev s_Contest_lead_on : Stmt := inClass (top 47) 1
abbrev s_Contest_sure_ranks : Stmt := inClass (top 47) 2
abbrev s_Contest_is_sure : Stmt := inClass (top 47) 3
abbrev s_Contest_is_good : Stmt := inClass (top 47) 4
abbrev s_Contest_rows_of_mine : Stmt := inClass (top 47) 5
abbrev s_Contest_rows_of_theirs : Stmt := inClass (top 47) 6
abbrev s_check_hands : Stmt := top 48
abbrev s_forced : Stmt := top 49
abbrev s_naming : Stmt := top 51
abbrev s_renamed_colours : Stmt := top 52
abbrev s_check_order : Stmt := top 53
abbrev s_exchanged_marks : Stmt := top 54
abbrev s_Fewest_init : Stmt := inClass (top 56) 0
abbrev s_NeverSo_init : Stmt := inClass (top 57) 0
abbrev s_Search_init : Stmt := inClass (top 58) 0
abbrev s_Search_following : Stmt := inClass (top 58) 1
abbrev s_rank_states : Stmt := top 59
abbrev s_fewest_pours : Stmt := top 60
abbrev s_L_hand : Stmt := top 62
abbrev s_L_mixed : Stmt := top 63
abbrev s_L_take : Stmt := top 64
abbrev s_L_colour : Stmt := top 65
abbrev s_L_ties : Stmt := top 66
abbrev s_L_marks : Stmt := top 67
abbrev s_L_picture : Stmt := top 68
abbrev s_L_unlike : Stmt := top 69
abbrev s_L_hues : Stmt := top 70
abbrev s_L_shades : Stmt := top 71
abbrev s_L_wish : Stmt := top 72
abbrev s_L_whole : Stmt := top 73
abbrev s_L_table : Stmt := top 74
abbrev s_L_number : Stmt := top 75
abbrev s_L_more : Stmt := top 76
abbrev s_L_led : Stmt := top 77
abbrev s_L_alone_right : Stmt := top 78
abbrev s_law : Stmt := top 79
def d_is_whole : He.DefD := ⟨("is_whole", none), "is_whole", "is_whole", defArgs s_is_whole, defBody s_is_whole, defScope s_is_whole, [.non, .non], []⟩
def d_Picture_init : He.DefD := ⟨("Picture", (some "__init__")), "__init__", "Picture.__init__", defArgs s_Picture_init, defBody s_Picture_init, defScope s_Picture_init, [], []⟩
def d_check_cells : He.DefD := ⟨("_check_cells", none), "_check_cells", "_check_cells", defArgs s_check_cells, defBody s_check_cells, defScope s_check_cells, [], []⟩
def d_check_ties : He.DefD := ⟨("_check_ties", none), "_check_ties", "_check_ties", defArgs s_check_ties, defBody s_check_ties, defScope s_check_ties, [], []⟩
def d_check_marks : He.DefD := ⟨("_check_marks", none), "_check_marks", "_check_marks", defArgs s_check_marks, defBody s_check_marks, defScope s_check_marks, [], []⟩
def d_with_colours : He.DefD := ⟨("with_colours", none), "with_colours", "with_colours", defArgs s_with_colours, defBody s_with_colours, defScope s_with_colours, [], []⟩
def d_neighbour_lists : He.DefD := ⟨("neighbour_lists", none), "neighbour_lists", "neighbour_lists", defArgs s_neighbour_lists, defBody s_neighbour_lists, defScope s_neighbour_lists, [], []⟩
def d_grown : He.DefD := ⟨("_grown", none), "_grown", "_grown", defArgs s_grown, defBody s_grown, defScope s_grown, [], []⟩
def d_patches_of : He.DefD := ⟨("patches_of", none), "patches_of", "patches_of", defArgs s_patches_of, defBody s_patches_of, defScope s_patches_of, [], []⟩
def d_patch_numbers : He.DefD := ⟨("patch_numbers", none), "patch_numbers", "patch_numbers", defArgs s_patch_numbers, defBody s_patch_numbers, defScope s_patch_numbers, [], []⟩
def d_Folding_init : He.DefD := ⟨("Folding", (some "__init__")), "__init__", "Folding.__init__", defArgs s_Folding_init, defBody s_Folding_init, defScope s_Folding_init, [], []⟩
def d_folded_patches : He.DefD := ⟨("folded_patches", none), "folded_patches", "folded_patches", defArgs s_folded_patches, defBody s_folded_patches, defScope s_folded_patches, [], []⟩
def d_spread_hue : He.DefD := ⟨("spread_hue", none), "spread_hue", "spread_hue", defArgs s_spread_hue, defBody s_spread_hue, defScope s_spread_hue, [], []⟩
def d_alike_parts : He.DefD := ⟨("alike_parts", none), "alike_parts", "alike_parts", defArgs s_alike_parts, defBody s_alike_parts, defScope s_alike_parts, [], []⟩
def d_wish_in_state : He.DefD := ⟨("wish_in_state", none), "wish_in_state", "wish_in_state", defArgs s_wish_in_state, defBody s_wish_in_state, defScope s_wish_in_state, [], []⟩
def d_unfold_state : He.DefD := ⟨("unfold_state", none), "unfold_state", "unfold_state", defArgs s_unfold_state, defBody s_unfold_state, defScope s_unfold_state, [], []⟩
def d_unlike_wholes : He.DefD := ⟨("unlike_wholes", none), "unlike_wholes", "unlike_wholes", defArgs s_unlike_wholes, defBody s_unlike_wholes, defScope s_unlike_wholes, [], []⟩
def d_check_choice : He.DefD := ⟨("check_choice", none), "check_choice", "check_choice", defArgs s_check_choice, defBody s_check_choice, defScope s_check_choice, [], []⟩
def d_list_pours : He.DefD := ⟨("list_pours", none), "list_pours", "list_pours", defArgs s_list_pours, defBody s_list_pours, defScope s_list_pours, [], []⟩
def d_close_states : He.DefD := ⟨("close_states", none), "close_states", "close_states", defArgs s_close_states, defBody s_close_states, defScope s_close_states, [], []⟩
def d_is_wish : He.DefD := ⟨("is_wish", none), "is_wish", "is_wish", defArgs s_is_wish, defBody s_is_wish, defScope s_is_wish, [], []⟩
def d_check_wish : He.DefD := ⟨("check_wish", none), "check_wish", "check_wish", defArgs s_check_wish, defBody s_check_wish, defScope s_check_wish, [], []⟩
def d_Book_init : He.DefD := ⟨("Book", (some "__init__")), "__init__", "Book.__init__", defArgs s_Book_init, defBody s_Book_init, defScope s_Book_init, [], []⟩
def d_Forced_init : He.DefD := ⟨("Forced", (some "__init__")), "__init__", "Forced.__init__", defArgs s_Forced_init, defBody s_Forced_init, defScope s_Forced_init, [], []⟩
def d_Kept_init : He.DefD := ⟨("Kept", (some "__init__")), "__init__", "Kept.__init__", defArgs s_Kept_init, defBody s_Kept_init, defScope s_Kept_init, [], []⟩
def d_Contest_init : He.DefD := ⟨("Contest", (some "__init__")), "__init__", "Contest.__init__", defArgs s_Contest_init, defBody s_Contest_init, defScope s_Contest_init, [], []⟩
def d_Contest_lead_on : He.DefD := ⟨("Contest", (some "lead_on")), "lead_on", "Contest.lead_on", defArgs s_Contest_lead_on, defBody s_Contest_lead_on, defScope s_Contest_lead_on, [], []⟩
def d_Contest_sure_ranks : He.DefD := ⟨("Contest", (some "sure_ranks")), "sure_ranks", "Contest.sure_ranks", defArgs s_Contest_sure_ranks, defBody s_Contest_sure_ranks, defScope s_Contest_sure_ranks, [], []⟩
def d_Contest_is_sure : He.DefD := ⟨("Contest", (some "is_sure")), "is_sure", "Contest.is_sure", defArgs s_Contest_is_sure, defBody s_Contest_is_sure, defScope s_Contest_is_sure, [], []⟩
def d_Contest_is_good : He.DefD := ⟨("Contest", (some "is_good")), "is_good", "Contest.is_good", defArgs s_Contest_is_good, defBody s_Contest_is_good, defScope s_Contest_is_good, [], []⟩
def d_Contest_rows_of_mine : He.DefD := ⟨("Contest", (some "rows_of_mine")), "rows_of_mine", "Contest.rows_of_mine", defArgs s_Contest_rows_of_mine, defBody s_Contest_rows_of_mine, defScope s_Contest_rows_of_mine, [], []⟩
def d_Contest_rows_of_theirs : He.DefD := ⟨("Contest", (some "rows_of_theirs")), "rows_of_theirs", "Contest.rows_of_theirs", defArgs s_Contest_rows_of_theirs, defBody s_Contest_rows_of_theirs, defScope s_Contest_rows_of_theirs, [], []⟩
def d_check_hands : He.DefD := ⟨("check_hands", none), "check_hands", "check_hands", defArgs s_check_hands, defBody s_check_hands, defScope s_check_hands, [], []⟩
def d_forced : He.DefD := ⟨("forced", none), "forced", "forced", defArgs s_forced, defBody s_forced, defScope s_forced, [], []⟩
def d_naming : He.DefD := ⟨("_naming", none), "_naming", "_naming", defArgs s_naming, defBody s_naming, defScope s_naming, [], []⟩
def d_renamed_colours : He.DefD := ⟨("renamed_colours", none), "renamed_colours", "renamed_colours", defArgs s_renamed_colours, defBody s_renamed_colours, defScope s_renamed_colours, [], []⟩
def d_check_order : He.DefD := ⟨("_check_order", none), "_check_order", "_check_order", defArgs s_check_order, defBody s_check_order, defScope s_check_order, [], []⟩
def d_exchanged_marks : He.DefD := ⟨("exchanged_marks", none), "exchanged_marks", "exchanged_marks", defArgs s_exchanged_marks, defBody s_exchanged_marks, defScope s_exchanged_marks, [], []⟩
def d_Fewest_init : He.DefD := ⟨("Fewest", (some "__init__")), "__init__", "Fewest.__init__", defArgs s_Fewest_init, defBody s_Fewest_init, defScope s_Fewest_init, [], []⟩
def d_NeverSo_init : He.DefD := ⟨("NeverSo", (some "__init__")), "__init__", "NeverSo.__init__", defArgs s_NeverSo_init, defBody s_NeverSo_init, defScope s_NeverSo_init, [], []⟩
def d_Search_init : He.DefD := ⟨("Search", (some "__init__")), "__init__", "Search.__init__", defArgs s_Search_init, defBody s_Search_init, defScope s_Search_init, [], []⟩
def d_Search_following : He.DefD := ⟨("Search", (some "following")), "following", "Search.following", defArgs s_Search_following, defBody s_Search_following, defScope s_Search_following, [], []⟩
def d_rank_states : He.DefD := ⟨("rank_states", none), "rank_states", "rank_states", defArgs s_rank_states, defBody s_rank_states, defScope s_rank_states, [], []⟩
def d_fewest_pours : He.DefD := ⟨("fewest_pours", none), "fewest_pours", "fewest_pours", defArgs s_fewest_pours, defBody s_fewest_pours, defScope s_fewest_pours, [], []⟩
def d_L_hand : He.DefD := ⟨("_law_hand", none), "_law_hand", "_law_hand", defArgs s_L_hand, defBody s_L_hand, defScope s_L_hand, [], []⟩
def d_L_mixed : He.DefD := ⟨("_law_mixed", none), "_law_mixed", "_law_mixed", defArgs s_L_mixed, defBody s_L_mixed, defScope s_L_mixed, [], []⟩
def d_L_take : He.DefD := ⟨("_law_take", none), "_law_take", "_law_take", defArgs s_L_take, defBody s_L_take, defScope s_L_take, [], []⟩
def d_L_colour : He.DefD := ⟨("_law_colour", none), "_law_colour", "_law_colour", defArgs s_L_colour, defBody s_L_colour, defScope s_L_colour, [], []⟩
def d_L_ties : He.DefD := ⟨("_law_ties", none), "_law_ties", "_law_ties", defArgs s_L_ties, defBody s_L_ties, defScope s_L_ties, [], []⟩
def d_L_marks : He.DefD := ⟨("_law_marks", none), "_law_marks", "_law_marks", defArgs s_L_marks, defBody s_L_marks, defScope s_L_marks, [], []⟩
def d_L_picture : He.DefD := ⟨("_law_picture", none), "_law_picture", "_law_picture", defArgs s_L_picture, defBody s_L_picture, defScope s_L_picture, [], []⟩
def d_L_unlike : He.DefD := ⟨("_law_unlike", none), "_law_unlike", "_law_unlike", defArgs s_L_unlike, defBody s_L_unlike, defScope s_L_unlike, [], []⟩
def d_L_hues : He.DefD := ⟨("_law_hues", none), "_law_hues", "_law_hues", defArgs s_L_hues, defBody s_L_hues, defScope s_L_hues, [], []⟩
def d_L_shades : He.DefD := ⟨("_law_shades", none), "_law_shades", "_law_shades", defArgs s_L_shades, defBody s_L_shades, defScope s_L_shades, [], []⟩
def d_L_wish : He.DefD := ⟨("_law_wish", none), "_law_wish", "_law_wish", defArgs s_L_wish, defBody s_L_wish, defScope s_L_wish, [], []⟩
def d_L_whole : He.DefD := ⟨("_law_whole", none), "_law_whole", "_law_whole", defArgs s_L_whole, defBody s_L_whole, defScope s_L_whole, [], []⟩
def d_L_table : He.DefD := ⟨("_law_table", none), "_law_table", "_law_table", defArgs s_L_table, defBody s_L_table, defScope s_L_table, [], []⟩
def d_L_number : He.DefD := ⟨("_law_number", none), "_law_number", "_law_number", defArgs s_L_number, defBody s_L_number, defScope s_L_number, [], []⟩
def d_L_more : He.DefD := ⟨("_law_more", none), "_law_more", "_law_more", defArgs s_L_more, defBody s_L_more, defScope s_L_more, [], []⟩
def d_L_led : He.DefD := ⟨("_law_led", none), "_law_led", "_law_led", defArgs s_L_led, defBody s_L_led, defScope s_L_led, [], []⟩
def d_L_alone_right : He.DefD := ⟨("_law_alone_right", none), "_law_alone_right", "_law_alone_right", defArgs s_L_alone_right, defBody s_L_alone_right, defScope s_L_alone_right, [], []⟩
def d_law : He.DefD := ⟨("law", none), "law", "law", defArgs s_law, defBody s_law, defScope s_law, [], []⟩
def fn : List He.DefD := [d_is_whole, d_Picture_init, d_check_cells, d_check_ties, d_check_marks, d_with_colours, d_neighbour_lists, d_grown, d_patches_of, d_patch_numbers, d_Folding_init, d_folded_patches, d_spread_hue, d_alike_parts, d_wish_in_state, d_unfold_state, d_unlike_wholes, d_check_choice, d_list_pours, d_close_states, d_is_wish, d_check_wish, d_Book_init, d_Forced_init, d_Kept_init, d_Contest_init, d_Contest_lead_on, d_Contest_sure_ranks, d_Contest_is_sure, d_Contest_is_good, d_Contest_rows_of_mine, d_Contest_rows_of_theirs, d_check_hands, d_forced, d_naming, d_renamed_colours, d_check_order, d_exchanged_marks, d_Fewest_init, d_NeverSo_init, d_Search_init, d_Search_following, d_rank_states, d_fewest_pours, d_L_hand, d_L_mixed, d_L_take, d_L_colour, d_L_ties, d_L_marks, d_L_picture, d_L_unlike, d_L_hues, d_L_shades, d_L_wish, d_L_whole, d_L_table, d_L_number, d_L_more, d_L_led, d_L_alone_right, d_law]
def fa : List He.Fa := [.free "isinstance", .free "int", .free "bool", .free "list", .free "tuple", .free "str", .free "len", .free "enumerate", .free "range", .free "min", .free "max", .free "sorted", .free "any", .free "all", .free "zip", .free "abs", .int "MOST_COLOUR" 99, .int "MOST_CELLS" 700, .int "MOST_TIES" 2000, .int "MOST_PATCHES" 10, .int "MOST_PARTS" 8, .int "MOST_TURNS" 2000, .glo "is_whole", .glo "_check_cells", .glo "_check_ties", .glo "_check_marks", .glo "with_colours", .glo "neighbour_lists", .glo "_grown", .glo "patches_of", .glo "patch_numbers", .glo "folded_patches", .glo "spread_hue", .glo "alike_parts", .glo "wish_in_state", .glo "unfold_state", .glo "unlike_wholes", .glo "check_choice", .glo "list_pours", .glo "close_states", .glo "is_wish", .glo "check_wish", .glo "check_hands", .glo "forced", .glo "_naming", .glo "renamed_colours", .glo "_check_order", .glo "exchanged_marks", .glo "rank_states", .glo "fewest_pours", .glo "_law_hand", .glo "_law_mixed", .glo "_law_take", .glo "_law_colour", .glo "_law_ties", .glo "_law_marks", .glo "_law_picture", .glo "_law_unlike", .glo "_law_hues", .glo "_law_shades", .glo "_law_wish", .glo "_law_whole", .glo "_law_table", .glo "_law_number", .glo "_law_more", .glo "_law_led", .glo "_law_alone_right", .glo "law", .glo "Picture", .cls "Picture", .noat "Picture" "colours", .noat "Picture" "ties", .noat "Picture" "marks", .mkr "Picture", .glo "Folding", .cls "Folding", .noat "Folding" "numbers", .noat "Folding" "near", .noat "Folding" "homes", .noat "Folding" "hues", .mkr "Folding", .glo "Book", .cls "Book", .noat "Book" "rows", .mkr "Book", .glo "Forced", .cls "Forced", .noat "Forced" "rank", .noat "Forced" "book", .mkr "Forced", .glo "Kept", .cls "Kept", .noat "Kept" "book", .mkr "Kept", .glo "Contest", .cls "Contest", .noat "Contest" "due", .noat "Contest" "folding", .noat "Contest" "pours", .noat "Contest" "start", .noat "Contest" "ended", .noat "Contest" "graph", .noat "Contest" "found", .mkr "Contest", .meth "Contest" "lead_on", .meth "Contest" "sure_ranks", .meth "Contest" "is_sure", .meth "Contest" "is_good", .meth "Contest" "rows_of_mine", .meth "Contest" "rows_of_theirs", .glo "Fewest", .cls "Fewest", .noat "Fewest" "number", .noat "Fewest" "script", .mkr "Fewest", .glo "NeverSo", .cls "NeverSo", .noat "NeverSo" "standings", .mkr "NeverSo", .glo "Search", .cls "Search", .noat "Search" "folding", .noat "Search" "pours", .noat "Search" "graph", .noat "Search" "found", .mkr "Search", .meth "Search" "following"]
def owns : List Str := ["Forced", "Fewest", "Kept", "NeverSo"]
def insB (K : PySem.W.Frag) (x : Str) : Bool := He.eqO (PySem.W.findIn K (.ref (He.ga K x)) "__class__") (some (some (.builtin "object.__class__"))) &&
  (decide (PySem.W.mroIn K (He.ga K x) (.type "object") = some true) && owns.all fun y => decide (PySem.W.kitOne K (.ref (He.ga K x)) (.ref (He.ga K y)) = some (decide (x = y))))
def moreB (K : PySem.W.Frag) : Bool := (He.eqO (PySem.W.specialIn K (.builtin "object.__class__") "__get__") (some (some (.builtin "getset_descriptor.__get__"))) &&
  decide (PySem.W.takesIn K (.builtin "object.__class__") = some true)) && owns.all (insB K)
/-- what is known of the written part K, the module's names mg -/
structure TX (K : PySem.W.Frag) (mg : Str → Option Value) : Prop where
  says : He.SaysD fa fn K
  more : moreB K = true
  glo : ∀ x, (He.Fa.glo x).ok K = true → mg x = some (.ref (He.ga K x))
  free : ∀ x, (He.Fa.free x).ok K = true → mg x = none
  int : ∀ x i, (He.Fa.int x i).ok K = true → ∃ t, mg x = some (.int i t)
section
variable {K : PySem.W.Frag} {mg : Str → Option Value} (T : TX K mg)
include T
theorem TX.f_isinstance : mg "isinstance" = none := T.free _ (T.says.fact 0 (f := .free "isinstance") rfl)
theorem TX.f_int : mg "int" = none := T.free _ (T.says.fact 1 (f := .free "int") rfl)
theorem TX.f_bool : mg "bool" = none := T.free _ (T.says.fact 2 (f := .free "bool") rfl)
theorem TX.f_list : mg "list" = none := T.free _ (T.says.fact 3 (f := .free "list") rfl)
theorem TX.f_tuple : mg "tuple" = none := T.free _ (T.says.fact 4 (f := .free "tuple") rfl)
theorem TX.f_str : mg "str" = none := T.free _ (T.says.fact 5 (f := .free "str") rfl)
theorem TX.f_len : mg "len" = none := T.free _ (T.says.fact 6 (f := .free "len") rfl)
theorem TX.f_enumerate : mg "enumerate" = none := T.free _ (T.says.fact 7 (f := .free "enumerate") rfl)
theorem TX.f_range : mg "range" = none := T.free _ (T.says.fact 8 (f := .free "range") rfl)
theorem TX.f_min : mg "min" = none := T.free _ (T.says.fact 9 (f := .free "min") rfl)
theorem TX.f_max : mg "max" = none := T.free _ (T.says.fact 10 (f := .free "max") rfl)
theorem TX.f_sorted : mg "sorted" = none := T.free _ (T.says.fact 11 (f := .free "sorted") rfl)
theorem TX.f_any : mg "any" = none := T.free _ (T.says.fact 12 (f := .free "any") rfl)
theorem TX.f_all : mg "all" = none := T.free _ (T.says.fact 13 (f := .free "all") rfl)
theorem TX.f_zip : mg "zip" = none := T.free _ (T.says.fact 14 (f := .free "zip") rfl)
theorem TX.f_abs : mg "abs" = none := T.free _ (T.says.fact 15 (f := .free "abs") rfl)
theorem TX.c_MOST_COLOUR : ∃ u, mg "MOST_COLOUR" = some u ∧ RelV (.int 99) u := by
  obtain ⟨t, e⟩ := T.int _ _ (T.says.fact 16 (f := .int "MOST_COLOUR" 99) rfl)
  exact ⟨_, e, t, rfl⟩
theorem TX.c_MOST_CELLS : ∃ u, mg "MOST_CELLS" = some u ∧ RelV (.int 700) u := by
  obtain ⟨t, e⟩ := T.int _ _ (T.says.fact 17 (f := .int "MOST_CELLS" 700) rfl)
  exact ⟨_, e, t, rfl⟩
theorem TX.c_MOST_TIES : ∃ u, mg "MOST_TIES" = some u ∧ RelV (.int 2000) u := by
  obtain ⟨t, e⟩ := T.int _ _ (T.says.fact 18 (f := .int "MOST_TIES" 2000) rfl)
  exact ⟨_, e, t, rfl⟩
theorem TX.c_MOST_PATCHES : ∃ u, mg "MOST_PATCHES" = some u ∧ RelV (.int 10) u := by
  obtain ⟨t, e⟩ := T.int _ _ (T.says.fact 19 (f := .int "MOST_PATCHES" 10) rfl)
  exact ⟨_, e, t, rfl⟩
theorem TX.c_MOST_PARTS : ∃ u, mg "MOST_PARTS" = some u ∧ RelV (.int 8) u := by
  obtain ⟨t, e⟩ := T.int _ _ (T.says.fact 20 (f := .int "MOST_PARTS" 8) rfl)
  exact ⟨_, e, t, rfl⟩
theorem TX.c_MOST_TURNS : ∃ u, mg "MOST_TURNS" = some u ∧ RelV (.int 2000) u := by
  obtain ⟨t, e⟩ := T.int _ _ (T.says.fact 21 (f := .int "MOST_TURNS" 2000) rfl)
  exact ⟨_, e, t, rfl⟩
theorem TX.g_is_whole : mg "is_whole" = some (.ref (He.ga K "is_whole")) := T.glo _ (T.says.fact 22 (f := .glo "is_whole") rfl)
theorem TX.g_check_cells : mg "_check_cells" = some (.ref (He.ga K "_check_cells")) := T.glo _ (T.says.fact 23 (f := .glo "_check_cells") rfl)
theorem TX.g_check_ties : mg "_check_ties" = some (.ref (He.ga K "_check_ties")) := T.glo _ (T.says.fact 24 (f := .glo "_check_ties") rfl)
theorem TX.g_check_marks : mg "_check_marks" = some (.ref (He.ga K "_check_marks")) := T.glo _ (T.says.fact 25 (f := .glo "_check_marks") rfl)
theorem TX.g_with_colours : mg "with_colours" = some (.ref (He.ga K "with_colours")) := T.glo _ (T.says.fact 26 (f := .glo "with_colours") rfl)
theorem TX.g_neighbour_lists : mg "neighbour_lists" = some (.ref (He.ga K "neighbour_lists")) := T.glo _ (T.says.fact 27 (f := .glo "neighbour_lists") rfl)
theorem TX.g_grown : mg "_grown" = some (.ref (He.ga K "_grown")) := T.glo _ (T.says.fact 28 (f := .glo "_grown") rfl)
theorem TX.g_patches_of : mg "patches_of" = some (.ref (He.ga K "patches_of")) := T.glo _ (T.says.fact 29 (f := .glo "patches_of") rfl)
theorem TX.g_patch_numbers : mg "patch_numbers" = some (.ref (He.ga K "patch_numbers")) := T.glo _ (T.says.fact 30 (f := .glo "patch_numbers") rfl)
theorem TX.g_folded_patches : mg "folded_patches" = some (.ref (He.ga K "folded_patches")) := T.glo _ (T.says.fact 31 (f := .glo "folded_patches") rfl)
theorem TX.g_spread_hue : mg "spread_hue" = some (.ref (He.ga K "spread_hue")) := T.glo _ (T.says.fact 32 (f := .glo "spread_hue") rfl)
theorem TX.g_alike_parts : mg "alike_parts" = some (.ref (He.ga K "alike_parts")) := T.glo _ (T.says.fact 33 (f := .glo "alike_parts") rfl)
theorem TX.g_wish_in_state : mg "wish_in_state" = some (.ref (He.ga K "wish_in_state")) := T.glo _ (T.says.fact 34 (f := .glo "wish_in_state") rfl)
theorem TX.g_unfold_state : mg "unfold_state" = some (.ref (He.ga K "unfold_state")) := T.glo _ (T.says.fact 35 (f := .glo "unfold_state") rfl)
theorem TX.g_unlike_wholes : mg "unlike_wholes" = some (.ref (He.ga K "unlike_wholes")) := T.glo _ (T.says.fact 36 (f := .glo "unlike_wholes") rfl)
theorem TX.g_check_choice : mg "check_choice" = some (.ref (He.ga K "check_choice")) := T.glo _ (T.says.fact 37 (f := .glo "check_choice") rfl)
theorem TX.g_list_pours : mg "list_pours" = some (.ref (He.ga K "list_pours")) := T.glo _ (T.says.fact 38 (f := .glo "list_pours") rfl)
theorem TX.g_close_states : mg "close_states" = some (.ref (He.ga K "close_states")) := T.glo _ (T.says.fact 39 (f := .glo "close_states") rfl)
theorem TX.g_is_wish : mg "is_wish" = some (.ref (He.ga K "is_wish")) := T.glo _ (T.says.fact 40 (f := .glo "is_wish") rfl)
theorem TX.g_check_wish : mg "check_wish" = some (.ref (He.ga K "check_wish")) := T.glo _ (T.says.fact 41 (f := .glo "check_wish") rfl)
theorem TX.g_check_hands : mg "check_hands" = some (.ref (He.ga K "check_hands")) := T.glo _ (T.says.fact 42 (f := .glo "check_hands") rfl)
theorem TX.g_forced : mg "forced" = some (.ref (He.ga K "forced")) := T.glo _ (T.says.fact 43 (f := .glo "forced") rfl)
theorem TX.g_naming : mg "_naming" = some (.ref (He.ga K "_naming")) := T.glo _ (T.says.fact 44 (f := .glo "_naming") rfl)
theorem TX.g_renamed_colours : mg "renamed_colours" = some (.ref (He.ga K "renamed_colours")) := T.glo _ (T.says.fact 45 (f := .glo "renamed_colours") rfl)
theorem TX.g_check_order : mg "_check_order" = some (.ref (He.ga K "_check_order")) := T.glo _ (T.says.fact 46 (f := .glo "_check_order") rfl)
theorem TX.g_exchanged_marks : mg "exchanged_marks" = some (.ref (He.ga K "exchanged_marks")) := T.glo _ (T.says.fact 47 (f := .glo "exchanged_marks") rfl)
theorem TX.g_rank_states : mg "rank_states" = some (.ref (He.ga K "rank_states")) := T.glo _ (T.says.fact 48 (f := .glo "rank_states") rfl)
theorem TX.g_fewest_pours : mg "fewest_pours" = some (.ref (He.ga K "fewest_pours")) := T.glo _ (T.says.fact 49 (f := .glo "fewest_pours") rfl)
theorem TX.g_L_hand : mg "_law_hand" = some (.ref (He.ga K "_law_hand")) := T.glo _ (T.says.fact 50 (f := .glo "_law_hand") rfl)
theorem TX.g_L_mixed : mg "_law_mixed" = some (.ref (He.ga K "_law_mixed")) := T.glo _ (T.says.fact 51 (f := .glo "_law_mixed") rfl)
theorem TX.g_L_take : mg "_law_take" = some (.ref (He.ga K "_law_take")) := T.glo _ (T.says.fact 52 (f := .glo "_law_take") rfl)
theorem TX.g_L_colour : mg "_law_colour" = some (.ref (He.ga K "_law_colour")) := T.glo _ (T.says.fact 53 (f := .glo "_law_colour") rfl)
theorem TX.g_L_ties : mg "_law_ties" = some (.ref (He.ga K "_law_ties")) := T.glo _ (T.says.fact 54 (f := .glo "_law_ties") rfl)
theorem TX.g_L_marks : mg "_law_marks" = some (.ref (He.ga K "_law_marks")) := T.glo _ (T.says.fact 55 (f := .glo "_law_marks") rfl)
theorem TX.g_L_picture : mg "_law_picture" = some (.ref (He.ga K "_law_picture")) := T.glo _ (T.says.fact 56 (f := .glo "_law_picture") rfl)
theorem TX.g_L_unlike : mg "_law_unlike" = some (.ref (He.ga K "_law_unlike")) := T.glo _ (T.says.fact 57 (f := .glo "_law_unlike") rfl)
theorem TX.g_L_hues : mg "_law_hues" = some (.ref (He.ga K "_law_hues")) := T.glo _ (T.says.fact 58 (f := .glo "_law_hues") rfl)
theorem TX.g_L_shades : mg "_law_shades" = some (.ref (He.ga K "_law_shades")) := T.glo _ (T.says.fact 59 (f := .glo "_law_shades") rfl)
theorem TX.g_L_wish : mg "_law_wish" = some (.ref (He.ga K "_law_wish")) := T.glo _ (T.says.fact 60 (f := .glo "_law_wish") rfl)
theorem TX.g_L_whole : mg "_law_whole" = some (.ref (He.ga K "_law_whole")) := T.glo _ (T.says.fact 61 (f := .glo "_law_whole") rfl)
theorem TX.g_L_table : mg "_law_table" = some (.ref (He.ga K "_law_table")) := T.glo _ (T.says.fact 62 (f := .glo "_law_table") rfl)
theorem TX.g_L_number : mg "_law_number" = some (.ref (He.ga K "_law_number")) := T.glo _ (T.says.fact 63 (f := .glo "_law_number") rfl)
theorem TX.g_L_more : mg "_law_more" = some (.ref (He.ga K "_law_more")) := T.glo _ (T.says.fact 64 (f := .glo "_law_more") rfl)
theorem TX.g_L_led : mg "_law_led" = some (.ref (He.ga K "_law_led")) := T.glo _ (T.says.fact 65 (f := .glo "_law_led") rfl)
theorem TX.g_L_alone_right : mg "_law_alone_right" = some (.ref (He.ga K "_law_alone_right")) := T.glo _ (T.says.fact 66 (f := .glo "_law_alone_right") rfl)
theorem TX.g_law : mg "law" = some (.ref (He.ga K "law")) := T.glo _ (T.says.fact 67 (f := .glo "law") rfl)
theorem TX.g_Picture : mg "Picture" = some (.ref (He.ga K "Picture")) := T.glo _ (T.says.fact 68 (f := .glo "Picture") rfl)
theorem TX.k_Picture : Cls K (He.ga K "Picture") := He.cls_ok (T.says.fact 69 (f := .cls "Picture") rfl)
theorem TX.n_Picture_colours : NoAttr K (He.ga K "Picture") "colours" := He.noat_ok (T.says.fact 70 (f := .noat "Picture" "colours") rfl)
theorem TX.n_Picture_ties : NoAttr K (He.ga K "Picture") "ties" := He.noat_ok (T.says.fact 71 (f := .noat "Picture" "ties") rfl)
theorem TX.n_Picture_marks : NoAttr K (He.ga K "Picture") "marks" := He.noat_ok (T.says.fact 72 (f := .noat "Picture" "marks") rfl)
theorem TX.m_Picture : Mk K (He.ga K "Picture") (He.ma K (He.ga K "Picture") "__init__") := He.mkr_ok (T.says.fact 73 (f := .mkr "Picture") rfl)
theorem TX.g_Folding : mg "Folding" = some (.ref (He.ga K "Folding")) := T.glo _ (T.says.fact 74 (f := .glo "Folding") rfl)
theorem TX.k_Folding : Cls K (He.ga K "Folding") := He.cls_ok (T.says.fact 75 (f := .cls "Folding") rfl)
theorem TX.n_Folding_numbers : NoAttr K (He.ga K "Folding") "numbers" := He.noat_ok (T.says.fact 76 (f := .noat "Folding" "numbers") rfl)
theorem TX.n_Folding_near : NoAttr K (He.ga K "Folding") "near" := He.noat_ok (T.says.fact 77 (f := .noat "Folding" "near") rfl)
theorem TX.n_Folding_homes : NoAttr K (He.ga K "Folding") "homes" := He.noat_ok (T.says.fact 78 (f := .noat "Folding" "homes") rfl)
theorem TX.n_Folding_hues : NoAttr K (He.ga K "Folding") "hues" := He.noat_ok (T.says.fact 79 (f := .noat "Folding" "hues") rfl)
theorem TX.m_Folding : Mk K (He.ga K "Folding") (He.ma K (He.ga K "Folding") "__init__") := He.mkr_ok (T.says.fact 80 (f := .mkr "Folding") rfl)
theorem TX.g_Book : mg "Book" = some (.ref (He.ga K "Book")) := T.glo _ (T.says.fact 81 (f := .glo "Book") rfl)
theorem TX.k_Book : Cls K (He.ga K "Book") := He.cls_ok (T.says.fact 82 (f := .cls "Book") rfl)
theorem TX.n_Book_rows : NoAttr K (He.ga K "Book") "rows" := He.noat_ok (T.says.fact 83 (f := .noat "Book" "rows") rfl)
theorem TX.m_Book : Mk K (He.ga K "Book") (He.ma K (He.ga K "Book") "__init__") := He.mkr_ok (T.says.fact 84 (f := .mkr "Book") rfl)
theorem TX.g_Forced : mg "Forced" = some (.ref (He.ga K "Forced")) := T.glo _ (T.says.fact 85 (f := .glo "Forced") rfl)
theorem TX.k_Forced : Cls K (He.ga K "Forced") := He.cls_ok (T.says.fact 86 (f := .cls "Forced") rfl)
theorem TX.n_Forced_rank : NoAttr K (He.ga K "Forced") "rank" := He.noat_ok (T.says.fact 87 (f := .noat "Forced" "rank") rfl)
theorem TX.n_Forced_book : NoAttr K (He.ga K "Forced") "book" := He.noat_ok (T.says.fact 88 (f := .noat "Forced" "book") rfl)
theorem TX.m_Forced : Mk K (He.ga K "Forced") (He.ma K (He.ga K "Forced") "__init__") := He.mkr_ok (T.says.fact 89 (f := .mkr "Forced") rfl)
theorem TX.g_Kept : mg "Kept" = some (.ref (He.ga K "Kept")) := T.glo _ (T.says.fact 90 (f := .glo "Kept") rfl)
theorem TX.k_Kept : Cls K (He.ga K "Kept") := He.cls_ok (T.says.fact 91 (f := .cls "Kept") rfl)
theorem TX.n_Kept_book : NoAttr K (He.ga K "Kept") "book" := He.noat_ok (T.says.fact 92 (f := .noat "Kept" "book") rfl)
theorem TX.m_Kept : Mk K (He.ga K "Kept") (He.ma K (He.ga K "Kept") "__init__") := He.mkr_ok (T.says.fact 93 (f := .mkr "Kept") rfl)
theorem TX.g_Contest : mg "Contest" = some (.ref (He.ga K "Contest")) := T.glo _ (T.says.fact 94 (f := .glo "Contest") rfl)
theorem TX.k_Contest : Cls K (He.ga K "Contest") := He.cls_ok (T.says.fact 95 (f := .cls "Contest") rfl)
theorem TX.n_Contest_due : NoAttr K (He.ga K "Contest") "due" := He.noat_ok (T.says.fact 96 (f := .noat "Contest" "due") rfl)
theorem TX.n_Contest_folding : NoAttr K (He.ga K "Contest") "folding" := He.noat_ok (T.says.fact 97 (f := .noat "Contest" "folding") rfl)
theorem TX.n_Contest_pours : NoAttr K (He.ga K "Contest") "pours" := He.noat_ok (T.says.fact 98 (f := .noat "Contest" "pours") rfl)
theorem TX.n_Contest_start : NoAttr K (He.ga K "Contest") "start" := He.noat_ok (T.says.fact 99 (f := .noat "Contest" "start") rfl)
theorem TX.n_Contest_ended : NoAttr K (He.ga K "Contest") "ended" := He.noat_ok (T.says.fact 100 (f := .noat "Contest" "ended") rfl)
theorem TX.n_Contest_graph : NoAttr K (He.ga K "Contest") "graph" := He.noat_ok (T.says.fact 101 (f := .noat "Contest" "graph") rfl)
theorem TX.n_Contest_found : NoAttr K (He.ga K "Contest") "found" := He.noat_ok (T.says.fact 102 (f := .noat "Contest" "found") rfl)
theorem TX.m_Contest : Mk K (He.ga K "Contest") (He.ma K (He.ga K "Contest") "__init__") := He.mkr_ok (T.says.fact 103 (f := .mkr "Contest") rfl)
theorem TX.t_Contest_lead_on : Meth K (He.ga K "Contest") "lead_on" (He.ma K (He.ga K "Contest") "lead_on") := He.meth_ok (T.says.fact 104 (f := .meth "Contest" "lead_on") rfl)
theorem TX.t_Contest_sure_ranks : Meth K (He.ga K "Contest") "sure_ranks" (He.ma K (He.ga K "Contest") "sure_ranks") := He.meth_ok (T.says.fact 105 (f := .meth "Contest" "sure_ranks") rfl)
theorem TX.t_Contest_is_sure : Meth K (He.ga K "Contest") "is_sure" (He.ma K (He.ga K "Contest") "is_sure") := He.meth_ok (T.says.fact 106 (f := .meth "Contest" "is_sure") rfl)
theorem TX.t_Contest_is_good : Meth K (He.ga K "Contest") "is_good" (He.ma K (He.ga K "Contest") "is_good") := He.meth_ok (T.says.fact 107 (f := .meth "Contest" "is_good") rfl)
theorem TX.t_Contest_rows_of_mine : Meth K (He.ga K "Contest") "rows_of_mine" (He.ma K (He.ga K "Contest") "rows_of_mine") := He.meth_ok (T.says.fact 108 (f := .meth "Contest" "rows_of_mine") rfl)
theorem TX.t_Contest_rows_of_theirs : Meth K (He.ga K "Contest") "rows_of_theirs" (He.ma K (He.ga K "Contest") "rows_of_theirs") := He.meth_ok (T.says.fact 109 (f := .meth "Contest" "rows_of_theirs") rfl)
theorem TX.g_Fewest : mg "Fewest" = some (.ref (He.ga K "Fewest")) := T.glo _ (T.says.fact 110 (f := .glo "Fewest") rfl)
theorem TX.k_Fewest : Cls K (He.ga K "Fewest") := He.cls_ok (T.says.fact 111 (f := .cls "Fewest") rfl)
theorem TX.n_Fewest_number : NoAttr K (He.ga K "Fewest") "number" := He.noat_ok (T.says.fact 112 (f := .noat "Fewest" "number") rfl)
theorem TX.n_Fewest_script : NoAttr K (He.ga K "Fewest") "script" := He.noat_ok (T.says.fact 113 (f := .noat "Fewest" "script") rfl)
theorem TX.m_Fewest : Mk K (He.ga K "Fewest") (He.ma K (He.ga K "Fewest") "__init__") := He.mkr_ok (T.says.fact 114 (f := .mkr "Fewest") rfl)
theorem TX.g_NeverSo : mg "NeverSo" = some (.ref (He.ga K "NeverSo")) := T.glo _ (T.says.fact 115 (f := .glo "NeverSo") rfl)
theorem TX.k_NeverSo : Cls K (He.ga K "NeverSo") := He.cls_ok (T.says.fact 116 (f := .cls "NeverSo") rfl)
theorem TX.n_NeverSo_standings : NoAttr K (He.ga K "NeverSo") "standings" := He.noat_ok (T.says.fact 117 (f := .noat "NeverSo" "standings") rfl)
theorem TX.m_NeverSo : Mk K (He.ga K "NeverSo") (He.ma K (He.ga K "NeverSo") "__init__") := He.mkr_ok (T.says.fact 118 (f := .mkr "NeverSo") rfl)
theorem TX.g_Search : mg "Search" = some (.ref (He.ga K "Search")) := T.glo _ (T.says.fact 119 (f := .glo "Search") rfl)
theorem TX.k_Search : Cls K (He.ga K "Search") := He.cls_ok (T.says.fact 120 (f := .cls "Search") rfl)
theorem TX.n_Search_folding : NoAttr K (He.ga K "Search") "folding" := He.noat_ok (T.says.fact 121 (f := .noat "Search" "folding") rfl)
theorem TX.n_Search_pours : NoAttr K (He.ga K "Search") "pours" := He.noat_ok (T.says.fact 122 (f := .noat "Search" "pours") rfl)
theorem TX.n_Search_graph : NoAttr K (He.ga K "Search") "graph" := He.noat_ok (T.says.fact 123 (f := .noat "Search" "graph") rfl)
theorem TX.n_Search_found : NoAttr K (He.ga K "Search") "found" := He.noat_ok (T.says.fact 124 (f := .noat "Search" "found") rfl)
theorem TX.m_Search : Mk K (He.ga K "Search") (He.ma K (He.ga K "Search") "__init__") := He.mkr_ok (T.says.fact 125 (f := .mkr "Search") rfl)
theorem TX.t_Search_following : Meth K (He.ga K "Search") "following" (He.ma K (He.ga K "Search") "following") := He.meth_ok (T.says.fact 126 (f := .meth "Search" "following") rfl)
theorem TX.F_is_whole : ∃ fd, FunD K "is_whole" "is_whole" (defArgs s_is_whole) (defBody s_is_whole) (defScope s_is_whole) [.non, .non] [] (He.ga K "is_whole") fd := T.says.def_ 0 (d := d_is_whole) rfl
theorem TX.F_Picture_init : ∃ fd, FunD K "__init__" "Picture.__init__" (defArgs s_Picture_init) (defBody s_Picture_init) (defScope s_Picture_init) [] [] (He.ma K (He.ga K "Picture") "__init__") fd := T.says.def_ 1 (d := d_Picture_init) rfl
theorem TX.F_check_cells : ∃ fd, FunD K "_check_cells" "_check_cells" (defArgs s_check_cells) (defBody s_check_cells) (defScope s_check_cells) [] [] (He.ga K "_check_cells") fd := T.says.def_ 2 (d := d_check_cells) rfl
theorem TX.F_check_ties : ∃ fd, FunD K "_check_ties" "_check_ties" (defArgs s_check_ties) (defBody s_check_ties) (defScope s_check_ties) [] [] (He.ga K "_check_ties") fd := T.says.def_ 3 (d := d_check_ties) rfl
theorem TX.F_check_marks : ∃ fd, FunD K "_check_marks" "_check_marks" (defArgs s_check_marks) (defBody s_check_marks) (defScope s_check_marks) [] [] (He.ga K "_check_marks") fd := T.says.def_ 4 (d := d_check_marks) rfl
theorem TX.F_with_colours : ∃ fd, FunD K "with_colours" "with_colours" (defArgs s_with_colours) (defBody s_with_colours) (defScope s_with_colours) [] [] (He.ga K "with_colours") fd := T.says.def_ 5 (d := d_with_colours) rfl
theorem TX.F_neighbour_lists : ∃ fd, FunD K "neighbour_lists" "neighbour_lists" (defArgs s_neighbour_lists) (defBody s_neighbour_lists) (defScope s_neighbour_lists) [] [] (He.ga K "neighbour_lists") fd := T.says.def_ 6 (d := d_neighbour_lists) rfl
theorem TX.F_grown : ∃ fd, FunD K "_grown" "_grown" (defArgs s_grown) (defBody s_grown) (defScope s_grown) [] [] (He.ga K "_grown") fd := T.says.def_ 7 (d := d_grown) rfl
theorem TX.F_patches_of : ∃ fd, FunD K "patches_of" "patches_of" (defArgs s_patches_of) (defBody s_patches_of) (defScope s_patches_of) [] [] (He.ga K "patches_of") fd := T.says.def_ 8 (d := d_patches_of) rfl
theorem TX.F_patch_numbers : ∃ fd, FunD K "patch_numbers" "patch_numbers" (defArgs s_patch_numbers) (defBody s_patch_numbers) (defScope s_patch_numbers) [] [] (He.ga K "patch_numbers") fd := T.says.def_ 9 (d := d_patch_numbers) rfl
theorem TX.F_Folding_init : ∃ fd, FunD K "__init__" "Folding.__init__" (defArgs s_Folding_init) (defBody s_Folding_init) (defScope s_Folding_init) [] [] (He.ma K (He.ga K "Folding") "__init__") fd := T.says.def_ 10 (d := d_Folding_init) rfl
theorem TX.F_folded_patches : ∃ fd, FunD K "folded_patches" "folded_patches" (defArgs s_folded_patches) (defBody s_folded_patches) (defScope s_folded_patches) [] [] (He.ga K "folded_patches") fd := T.says.def_ 11 (d := d_folded_patches) rfl
theorem TX.F_spread_hue : ∃ fd, FunD K "spread_hue" "spread_hue" (defArgs s_spread_hue) (defBody s_spread_hue) (defScope s_spread_hue) [] [] (He.ga K "spread_hue") fd := T.says.def_ 12 (d := d_spread_hue) rfl
theorem TX.F_alike_parts : ∃ fd, FunD K "alike_parts" "alike_parts" (defArgs s_alike_parts) (defBody s_alike_parts) (defScope s_alike_parts) [] [] (He.ga K "alike_parts") fd := T.says.def_ 13 (d := d_alike_parts) rfl
theorem TX.F_wish_in_state : ∃ fd, FunD K "wish_in_state" "wish_in_state" (defArgs s_wish_in_state) (defBody s_wish_in_state) (defScope s_wish_in_state) [] [] (He.ga K "wish_in_state") fd := T.says.def_ 14 (d := d_wish_in_state) rfl
theorem TX.F_unfold_state : ∃ fd, FunD K "unfold_state" "unfold_state" (defArgs s_unfold_state) (defBody s_unfold_state) (defScope s_unfold_state) [] [] (He.ga K "unfold_state") fd := T.says.def_ 15 (d := d_unfold_state) rfl
theorem TX.F_unlike_wholes : ∃ fd, FunD K "unlike_wholes" "unlike_wholes" (defArgs s_unlike_wholes) (defBody s_unlike_wholes) (defScope s_unlike_wholes) [] [] (He.ga K "unlike_wholes") fd := T.says.def_ 16 (d := d_unlike_wholes) rfl
theorem TX.F_check_choice : ∃ fd, FunD K "check_choice" "check_choice" (defArgs s_check_choice) (defBody s_check_choice) (defScope s_check_choice) [] [] (He.ga K "check_choice") fd := T.says.def_ 17 (d := d_check_choice) rfl
theorem TX.F_list_pours : ∃ fd, FunD K "list_pours" "list_pours" (defArgs s_list_pours) (defBody s_list_pours) (defScope s_list_pours) [] [] (He.ga K "list_pours") fd := T.says.def_ 18 (d := d_list_pours) rfl
theorem TX.F_close_states : ∃ fd, FunD K "close_states" "close_states" (defArgs s_close_states) (defBody s_close_states) (defScope s_close_states) [] [] (He.ga K "close_states") fd := T.says.def_ 19 (d := d_close_states) rfl
theorem TX.F_is_wish : ∃ fd, FunD K "is_wish" "is_wish" (defArgs s_is_wish) (defBody s_is_wish) (defScope s_is_wish) [] [] (He.ga K "is_wish") fd := T.says.def_ 20 (d := d_is_wish) rfl
theorem TX.F_check_wish : ∃ fd, FunD K "check_wish" "check_wish" (defArgs s_check_wish) (defBody s_check_wish) (defScope s_check_wish) [] [] (He.ga K "check_wish") fd := T.says.def_ 21 (d := d_check_wish) rfl
theorem TX.F_Book_init : ∃ fd, FunD K "__init__" "Book.__init__" (defArgs s_Book_init) (defBody s_Book_init) (defScope s_Book_init) [] [] (He.ma K (He.ga K "Book") "__init__") fd := T.says.def_ 22 (d := d_Book_init) rfl
theorem TX.F_Forced_init : ∃ fd, FunD K "__init__" "Forced.__init__" (defArgs s_Forced_init) (defBody s_Forced_init) (defScope s_Forced_init) [] [] (He.ma K (He.ga K "Forced") "__init__") fd := T.says.def_ 23 (d := d_Forced_init) rfl
theorem TX.F_Kept_init : ∃ fd, FunD K "__init__" "Kept.__init__" (defArgs s_Kept_init) (defBody s_Kept_init) (defScope s_Kept_init) [] [] (He.ma K (He.ga K "Kept") "__init__") fd := T.says.def_ 24 (d := d_Kept_init) rfl
theorem TX.F_Contest_init : ∃ fd, FunD K "__init__" "Contest.__init__" (defArgs s_Contest_init) (defBody s_Contest_init) (defScope s_Contest_init) [] [] (He.ma K (He.ga K "Contest") "__init__") fd := T.says.def_ 25 (d := d_Contest_init) rfl
theorem TX.F_Contest_lead_on : ∃ fd, FunD K "lead_on" "Contest.lead_on" (defArgs s_Contest_lead_on) (defBody s_Contest_lead_on) (defScope s_Contest_lead_on) [] [] (He.ma K (He.ga K "Contest") "lead_on") fd := T.says.def_ 26 (d := d_Contest_lead_on) rfl
theorem TX.F_Contest_sure_ranks : ∃ fd, FunD K "sure_ranks" "Contest.sure_ranks" (defArgs s_Contest_sure_ranks) (defBody s_Contest_sure_ranks) (defScope s_Contest_sure_ranks) [] [] (He.ma K (He.ga K "Contest") "sure_ranks") fd := T.says.def_ 27 (d := d_Contest_sure_ranks) rfl
theorem TX.F_Contest_is_sure : ∃ fd, FunD K "is_sure" "Contest.is_sure" (defArgs s_Contest_is_sure) (defBody s_Contest_is_sure) (defScope s_Contest_is_sure) [] [] (He.ma K (He.ga K "Contest") "is_sure") fd := T.says.def_ 28 (d := d_Contest_is_sure) rfl
theorem TX.F_Contest_is_good : ∃ fd, FunD K "is_good" "Contest.is_good" (defArgs s_Contest_is_good) (defBody s_Contest_is_good) (defScope s_Contest_is_good) [] [] (He.ma K (He.ga K "Contest") "is_good") fd := T.says.def_ 29 (d := d_Contest_is_good) rfl
theorem TX.F_Contest_rows_of_mine : ∃ fd, FunD K "rows_of_mine" "Contest.rows_of_mine" (defArgs s_Contest_rows_of_mine) (defBody s_Contest_rows_of_mine) (defScope s_Contest_rows_of_mine) [] [] (He.ma K (He.ga K "Contest") "rows_of_mine") fd := T.says.def_ 30 (d := d_Contest_rows_of_mine) rfl
theorem TX.F_Contest_rows_of_theirs : ∃ fd, FunD K "rows_of_theirs" "Contest.rows_of_theirs" (defArgs s_Contest_rows_of_theirs) (defBody s_Contest_rows_of_theirs) (defScope s_Contest_rows_of_theirs) [] [] (He.ma K (He.ga K "Contest") "rows_of_theirs") fd := T.says.def_ 31 (d := d_Contest_rows_of_theirs) rfl
theorem TX.F_check_hands : ∃ fd, FunD K "check_hands" "check_hands" (defArgs s_check_hands) (defBody s_check_hands) (defScope s_check_hands) [] [] (He.ga K "check_hands") fd := T.says.def_ 32 (d := d_check_hands) rfl
theorem TX.F_forced : ∃ fd, FunD K "forced" "forced" (defArgs s_forced) (defBody s_forced) (defScope s_forced) [] [] (He.ga K "forced") fd := T.says.def_ 33 (d := d_forced) rfl
theorem TX.F_naming : ∃ fd, FunD K "_naming" "_naming" (defArgs s_naming) (defBody s_naming) (defScope s_naming) [] [] (He.ga K "_naming") fd := T.says.def_ 34 (d := d_naming) rfl
theorem TX.F_renamed_colours : ∃ fd, FunD K "renamed_colours" "renamed_colours" (defArgs s_renamed_colours) (defBody s_renamed_colours) (defScope s_renamed_colours) [] [] (He.ga K "renamed_colours") fd := T.says.def_ 35 (d := d_renamed_colours) rfl
theorem TX.F_check_order : ∃ fd, FunD K "_check_order" "_check_order" (defArgs s_check_order) (defBody s_check_order) (defScope s_check_order) [] [] (He.ga K "_check_order") fd := T.says.def_ 36 (d := d_check_order) rfl
theorem TX.F_exchanged_marks : ∃ fd, FunD K "exchanged_marks" "exchanged_marks" (defArgs s_exchanged_marks) (defBody s_exchanged_marks) (defScope s_exchanged_marks) [] [] (He.ga K "exchanged_marks") fd := T.says.def_ 37 (d := d_exchanged_marks) rfl
theorem TX.F_Fewest_init : ∃ fd, FunD K "__init__" "Fewest.__init__" (defArgs s_Fewest_init) (defBody s_Fewest_init) (defScope s_Fewest_init) [] [] (He.ma K (He.ga K "Fewest") "__init__") fd := T.says.def_ 38 (d := d_Fewest_init) rfl
theorem TX.F_NeverSo_init : ∃ fd, FunD K "__init__" "NeverSo.__init__" (defArgs s_NeverSo_init) (defBody s_NeverSo_init) (defScope s_NeverSo_init) [] [] (He.ma K (He.ga K "NeverSo") "__init__") fd := T.says.def_ 39 (d := d_NeverSo_init) rfl
theorem TX.F_Search_init : ∃ fd, FunD K "__init__" "Search.__init__" (defArgs s_Search_init) (defBody s_Search_init) (defScope s_Search_init) [] [] (He.ma K (He.ga K "Search") "__init__") fd := T.says.def_ 40 (d := d_Search_init) rfl
theorem TX.F_Search_following : ∃ fd, FunD K "following" "Search.following" (defArgs s_Search_following) (defBody s_Search_following) (defScope s_Search_following) [] [] (He.ma K (He.ga K "Search") "following") fd := T.says.def_ 41 (d := d_Search_following) rfl
theorem TX.F_rank_states : ∃ fd, FunD K "rank_states" "rank_states" (defArgs s_rank_states) (defBody s_rank_states) (defScope s_rank_states) [] [] (He.ga K "rank_states") fd := T.says.def_ 42 (d := d_rank_states) rfl
theorem TX.F_fewest_pours : ∃ fd, FunD K "fewest_pours" "fewest_pours" (defArgs s_fewest_pours) (defBody s_fewest_pours) (defScope s_fewest_pours) [] [] (He.ga K "fewest_pours") fd := T.says.def_ 43 (d := d_fewest_pours) rfl
theorem TX.F_L_hand : ∃ fd, FunD K "_law_hand" "_law_hand" (defArgs s_L_hand) (defBody s_L_hand) (defScope s_L_hand) [] [] (He.ga K "_law_hand") fd := T.says.def_ 44 (d := d_L_hand) rfl
theorem TX.F_L_mixed : ∃ fd, FunD K "_law_mixed" "_law_mixed" (defArgs s_L_mixed) (defBody s_L_mixed) (defScope s_L_mixed) [] [] (He.ga K "_law_mixed") fd := T.says.def_ 45 (d := d_L_mixed) rfl
theorem TX.F_L_take : ∃ fd, FunD K "_law_take" "_law_take" (defArgs s_L_take) (defBody s_L_take) (defScope s_L_take) [] [] (He.ga K "_law_take") fd := T.says.def_ 46 (d := d_L_take) rfl
theorem TX.F_L_colour : ∃ fd, FunD K "_law_colour" "_law_colour" (defArgs s_L_colour) (defBody s_L_colour) (defScope s_L_colour) [] [] (He.ga K "_law_colour") fd := T.says.def_ 47 (d := d_L_colour) rfl
theorem TX.F_L_ties : ∃ fd, FunD K "_law_ties" "_law_ties" (defArgs s_L_ties) (defBody s_L_ties) (defScope s_L_ties) [] [] (He.ga K "_law_ties") fd := T.says.def_ 48 (d := d_L_ties) rfl
theorem TX.F_L_marks : ∃ fd, FunD K "_law_marks" "_law_marks" (defArgs s_L_marks) (defBody s_L_marks) (defScope s_L_marks) [] [] (He.ga K "_law_marks") fd := T.says.def_ 49 (d := d_L_marks) rfl
theorem TX.F_L_picture : ∃ fd, FunD K "_law_picture" "_law_picture" (defArgs s_L_picture) (defBody s_L_picture) (defScope s_L_picture) [] [] (He.ga K "_law_picture") fd := T.says.def_ 50 (d := d_L_picture) rfl
theorem TX.F_L_unlike : ∃ fd, FunD K "_law_unlike" "_law_unlike" (defArgs s_L_unlike) (defBody s_L_unlike) (defScope s_L_unlike) [] [] (He.ga K "_law_unlike") fd := T.says.def_ 51 (d := d_L_unlike) rfl
theorem TX.F_L_hues : ∃ fd, FunD K "_law_hues" "_law_hues" (defArgs s_L_hues) (defBody s_L_hues) (defScope s_L_hues) [] [] (He.ga K "_law_hues") fd := T.says.def_ 52 (d := d_L_hues) rfl
theorem TX.F_L_shades : ∃ fd, FunD K "_law_shades" "_law_shades" (defArgs s_L_shades) (defBody s_L_shades) (defScope s_L_shades) [] [] (He.ga K "_law_shades") fd := T.says.def_ 53 (d := d_L_shades) rfl
theorem TX.F_L_wish : ∃ fd, FunD K "_law_wish" "_law_wish" (defArgs s_L_wish) (defBody s_L_wish) (defScope s_L_wish) [] [] (He.ga K "_law_wish") fd := T.says.def_ 54 (d := d_L_wish) rfl
theorem TX.F_L_whole : ∃ fd, FunD K "_law_whole" "_law_whole" (defArgs s_L_whole) (defBody s_L_whole) (defScope s_L_whole) [] [] (He.ga K "_law_whole") fd := T.says.def_ 55 (d := d_L_whole) rfl
theorem TX.F_L_table : ∃ fd, FunD K "_law_table" "_law_table" (defArgs s_L_table) (defBody s_L_table) (defScope s_L_table) [] [] (He.ga K "_law_table") fd := T.says.def_ 56 (d := d_L_table) rfl
theorem TX.F_L_number : ∃ fd, FunD K "_law_number" "_law_number" (defArgs s_L_number) (defBody s_L_number) (defScope s_L_number) [] [] (He.ga K "_law_number") fd := T.says.def_ 57 (d := d_L_number) rfl
theorem TX.F_L_more : ∃ fd, FunD K "_law_more" "_law_more" (defArgs s_L_more) (defBody s_L_more) (defScope s_L_more) [] [] (He.ga K "_law_more") fd := T.says.def_ 58 (d := d_L_more) rfl
theorem TX.F_L_led : ∃ fd, FunD K "_law_led" "_law_led" (defArgs s_L_led) (defBody s_L_led) (defScope s_L_led) [] [] (He.ga K "_law_led") fd := T.says.def_ 59 (d := d_L_led) rfl
theorem TX.F_L_alone_right : ∃ fd, FunD K "_law_alone_right" "_law_alone_right" (defArgs s_L_alone_right) (defBody s_L_alone_right) (defScope s_L_alone_right) [] [] (He.ga K "_law_alone_right") fd := T.says.def_ 60 (d := d_L_alone_right) rfl
theorem TX.F_law : ∃ fd, FunD K "law" "law" (defArgs s_law) (defBody s_law) (defScope s_law) [] [] (He.ga K "law") fd := T.says.def_ 61 (d := d_law) rfl
end
end G6
end
section
set_option maxHeartbeats 4000000
set_option Elab.async false
set_option linter.all false
set_option maxRecDepth 100000
set_option maxHeartbeats 0
/-! A9: the head with facts (printed by gen_a9.py) -/
namespace G6
open PySem PySem.Spec PyProof.Rows L2
abbrev R : PySem.W.OpenRow := PySem.W.OpenLaw.row PySem.Challenge.rw_spreadhues_k96_whole_more_marks_and_othe
def nm0 : List PySem.Str := ["_wall", "HueError", "BadPicture", "BadNaming", "BadOrder", "TooMany", "BadWish", "BadChoice", "BadHands", "MOST_COLOUR", "is_whole", "MOST_CELLS", "MOST_TIES", "Picture", "_check_cells", "_check_ties", "_check_marks", "with_colours", "neighbour_lists", "_grown", "patches_of", "patch_numbers", "MOST_PATCHES", "Folding", "folded_patches", "spread_hue", "alike_parts", "wish_in_state", "unfold_state", "unlike_wholes"]
def nm1 : List PySem.Str := ["check_choice", "list_pours", "close_states", "is_wish", "check_wish", "MOST_PARTS", "MOST_TURNS", "Book", "Forced", "Kept", "Contest", "check_hands", "forced", "_naming", "renamed_colours", "_check_order", "exchanged_marks", "Fewest", "NeverSo", "Search", "rank_states", "fewest_pours", "_law_hand", "_law_mixed", "_law_take", "_law_colour", "_law_ties", "_law_marks", "_law_picture", "_law_unlike"]
def nm2 : List PySem.Str := ["_law_hues", "_law_shades", "_law_wish", "_law_whole", "_law_table", "_law_number", "_law_more", "_law_led", "_law_alone_right"]
def names : List PySem.Str := nm0 ++ nm1 ++ nm2
abbrev hk : PySem.W.Hook := He.hookX 5 fa fn [] [("Contest", some "rows_of_mine")] moreB
def ob (s : PySem.W.SharedT) : He.AlX := He.obsX 5 fa fn [] [("Contest", some "rows_of_mine")] moreB (HandSHeadRun.getT s)
theorem ob_eq (s : PySem.W.SharedT) : ob s = hk.obs s.abs := He.obsX_eq (HandSHeadRun.getT_eq s)
theorem run (w : World) : HandSHeadRun.RunEq R (PySem.W.view R.prog [79]) hk ob 20000 names w := by
  intro os
  kernel_rfl
end G6
end
section
set_option maxHeartbeats 4000000
set_option Elab.async false
set_option linter.all false
set_option maxRecDepth 100000
set_option maxHeartbeats 4000000
/-! A1: dicts whose keys are nested tuples of numbers, over the layer -/
namespace G6
open PySem PySem.Spec PyProof.Rows L2

/-! ### nested tuples over the abstract heap -/
mutual
def Rp (H : Hp) : NestedKey → V → Prop
  | .none, v => v = .non
  | .num i, v => v = .int i
  | .text x, v => v = .str x
  | .tup ks, v => ∃ (a : Addr) (vs : List V), v = .ref a ∧ H a = some (.tup vs) ∧ RpAll H ks vs
def RpAll (H : Hp) : List NestedKey → List V → Prop
  | [], vs => vs = []
  | k :: ks, vs => ∃ (x : V) (r : List V), vs = x :: r ∧ Rp H k x ∧ RpAll H ks r
end
/-- the tuples stay -/
def TupSame (H H' : Hp) : Prop := ∀ b vs, H b = some (.tup vs) → H' b = some (.tup vs)
theorem Same.tups {H H' : Hp} (e : Same H H') : TupSame H H' := fun b _ h => e b _ h
theorem TupSame.trans {H H1 H2 : Hp} (a : TupSame H H1) (b : TupSame H1 H2) : TupSame H H2 := fun c vs h => b c vs (a c vs h)
theorem TupSame.mut {H : Hp} {a : Addr} {o : HO} (h : ∀ vs, H a ≠ some (.tup vs)) : TupSame H (upd H a o) := fun b vs e => by
  by_cases q : b = a
  · subst q
    exact absurd e (h vs)
  · rw [upd_ne q]
    exact e
mutual
theorem Rp.ext {H H' : Hp} (e : TupSame H H') : ∀ (k : NestedKey) (v : V), Rp H k v → Rp H' k v
  | .none, _, h => by rw [Rp] at h ⊢; exact h
  | .num _, _, h => by rw [Rp] at h ⊢; exact h
  | .text _, _, h => by rw [Rp] at h ⊢; exact h
  | .tup ks, _, h => by
    rw [Rp] at h ⊢
    obtain ⟨a, vs, h1, h2, h3⟩ := h
    exact ⟨a, vs, h1, e a vs h2, RpAll.ext e ks vs h3⟩
theorem RpAll.ext {H H' : Hp} (e : TupSame H H') : ∀ (ks : List NestedKey) (vs : List V), RpAll H ks vs → RpAll H' ks vs
  | [], _, h => by rw [RpAll] at h ⊢; exact h
  | k :: ks, _, h => by
    rw [RpAll] at h ⊢
    obtain ⟨x, r, h1, h2, h3⟩ := h
    exact ⟨x, r, h1, Rp.ext e k x h2, RpAll.ext e ks r h3⟩
end
mutual
theorem Rp.is {P : Program} {w : World} {H : Hp} {h : Heap} (ok : HOk P w H h) : ∀ (k : NestedKey) (v : V) (u : Value), Rp H k v → RelV v u → NestedIs h k u
  | .none, v, u, h, r => by
    rw [Rp] at h
    subst h
    cases (show u = Value.none from r)
    exact .none
  | .num i, v, u, h, r => by
    rw [Rp] at h
    subst h
    obtain ⟨t, rfl⟩ := (show ∃ t, u = Value.int i t from r)
    exact .int i t
  | .text x, v, u, h, r => by
    rw [Rp] at h
    subst h
    obtain ⟨t, rfl⟩ := (show ∃ t, u = Value.str x t from r)
    exact .text x t
  | .tup ks, v, u, h, r => by
    rw [Rp] at h
    obtain ⟨a, vs, rfl, h2, h3⟩ := h
    cases (show u = Value.ref a from r)
    obtain ⟨_, its, rv, o, e1, e2, n, e3⟩ := (show ObjOk P w H _ a (.tup vs) from ok a _ h2)
    exact .tup e1 e2 e3 (by rw [List.toList_toArray]; exact RpAll.is ok ks vs its h3 rv)
theorem RpAll.is {P : Program} {w : World} {H : Hp} {h : Heap} (ok : HOk P w H h) : ∀ (ks : List NestedKey) (vs : List V) (us : List Value), RpAll H ks vs → Vals vs us → NestedAll h ks us
  | [], vs, us, h, r => by
    rw [RpAll] at h
    subst h
    cases r
    exact .nil
  | k :: ks, vs, us, h, r => by
    rw [RpAll] at h
    obtain ⟨x, q, rfl, h2, h3⟩ := h
    cases r with
    | cons r1 r2 => exact .cons (Rp.is ok k x _ h2 r1) (RpAll.is ok ks q _ h3 r2)
end
theorem rp_tup {H : Hp} {ks : List NestedKey} {v : V} : Rp H (.tup ks) v ↔ ∃ (a : Addr) (vs : List V), v = .ref a ∧ H a = some (.tup vs) ∧ RpAll H ks vs := by rw [Rp]
theorem rp_num {H : Hp} {i : Int} {v : V} : Rp H (.num i) v ↔ v = .int i := by rw [Rp]
theorem rpa_nil {H : Hp} {vs : List V} : RpAll H [] vs ↔ vs = [] := by rw [RpAll]
theorem rpa_cons {H : Hp} {k : NestedKey} {ks : List NestedKey} {vs : List V} : RpAll H (k :: ks) vs ↔ ∃ (x : V) (r : List V), vs = x :: r ∧ Rp H k x ∧ RpAll H ks r := by rw [RpAll]

/-! ### the dict -/
abbrev DX : Type := List (NestedKey × Addr × V)
def kvx (xs : DX) : List (NestedKey × V) := xs.map fun x => (x.1, x.2.2)
def EntR (p : NestedKey × Addr × V) (q : NestedKey × Addr × Value) : Prop := p.1 = q.1 ∧ p.2.1 = q.2.1 ∧ RelV p.2.2 q.2.2
def dNphi (w : World) (a : Addr) (xs : DX) (ep : Nat) (h : Heap) : Prop := ∃ (o : Obj) (es : Array DictEntry) (ys : List (NestedKey × Addr × Value)),
  h.get? a = some o ∧ o.ExactDict ∧ o.data = .dict es ep ∧ es.toList = ys.map (fun y => (⟨y.1.hash w, .ref y.2.1, y.2.2⟩ : DictEntry)) ∧ Paired EntR xs ys
def dN (w : World) (a : Addr) (xs : DX) (ep : Nat) : HO := .ext (dNphi w a xs ep)
/-- at a stands a dict with the entries xs: keys, where their tuples stand, values -/
structure DN (w : World) (H : Hp) (a : Addr) (xs : DX) (ep : Nat) : Prop where
  at_ : H a = some (dN w a xs ep)
  keys : ∀ x ∈ xs, Rp H x.1 (.ref x.2.1) ∧ x.1.depth ≤ 8
  nd : (xs.map (·.1)).Nodup
  le : xs.length ≤ sizeLine
  sys : (a == sysModules) = false
theorem DN.ext {w : World} {H H' : Hp} {a : Addr} {xs : DX} {ep : Nat} (d : DN w H a xs ep) (e : H' a = H a) (t : TupSame H H') : DN w H' a xs ep :=
  ⟨e.trans d.at_, fun x hx => ⟨Rp.ext t _ _ (d.keys x hx).1, (d.keys x hx).2⟩, d.nd, d.le, d.sys⟩
theorem DN.same {w : World} {H H' : Hp} {a : Addr} {xs : DX} {ep : Nat} (d : DN w H a xs ep) (e : Same H H') : DN w H' a xs ep :=
  d.ext ((e a _ d.at_).trans d.at_.symm) (Same.tups e)
theorem DN.notup {w : World} {H : Hp} {a : Addr} {xs : DX} {ep : Nat} (d : DN w H a xs ep) : ∀ vs, H a ≠ some (.tup vs) := fun vs e => by
  rw [d.at_] at e
  cases e
theorem dN_ok {P : Program} {w : World} {H : Hp} {h : Heap} {a : Addr} {xs : DX} {ep : Nat} (p : dNphi w a xs ep h) : ObjOk P w H h a (dN w a xs ep) := by
  refine ⟨p, ?_, fun h1 h2 q st => ?_⟩
  · obtain ⟨o, _, _, e, _⟩ := p
    exact ⟨o, e⟩
  · obtain ⟨o, es, ys, e, r⟩ := q
    exact ⟨o, es, ys, st o e, r⟩
theorem ent_len {xs : DX} {ys : List (NestedKey × Addr × Value)} (r : Paired EntR xs ys) : xs.length = ys.length := Paired.length r
theorem ent_keys {xs : DX} {ys : List (NestedKey × Addr × Value)} (r : Paired EntR xs ys) : xs.map (·.1) = ys.map (·.1) := by
  induction r with
  | nil => rfl
  | cons h _ ih => rw [List.map_cons, List.map_cons, h.1, ih]
theorem ent_mem {xs : DX} {ys : List (NestedKey × Addr × Value)} (r : Paired EntR xs ys) : ∀ y ∈ ys, ∃ x ∈ xs, EntR x y := by
  induction r with
  | nil => intro y hy; cases hy
  | cons h _ ih =>
    intro y hy
    rcases List.mem_cons.mp hy with rfl | hy
    · exact ⟨_, List.mem_cons_self, h⟩
    · obtain ⟨x, hx, e⟩ := ih y hy
      exact ⟨x, List.mem_cons_of_mem _ hx, e⟩
/-- what the heap's rules want -/
theorem DN.dict {P : Program} {w : World} {H : Hp} {h : Heap} (ok : HOk P w H h) {a : Addr} {xs : DX} {ep : Nat} (d : DN w H a xs ep) :
    ∃ (o : Obj) (es : Array DictEntry) (ys : List (NestedKey × Addr × Value)), Paired EntR xs ys ∧ h.DictOfH (nestedKind P w) a ys ∧ h.get? a = some o ∧ o.ExactDict ∧ o.data = .dict es ep ∧ es.toList = ys.map (entryOfKey (nestedKind P w)) := by
  obtain ⟨⟨o, es, ys, e1, e2, e3, e4, r⟩, _, _⟩ := (show ObjOk P w H h a (dN w a xs ep) from ok a _ d.at_)
  refine ⟨o, es, ys, r, ⟨o, es, ep, e1, e2, e3, e4, fun y hy => ?_, ?_⟩, e1, e2, e3, e4⟩
  · obtain ⟨x, hx, h1, h2, h3⟩ := ent_mem r y hy
    obtain ⟨k1, k2⟩ := d.keys x hx
    rw [← h1, ← h2]
    exact ⟨Rp.is ok _ _ _ k1 rfl, k2⟩
  · rw [← ent_keys r]
    exact d.nd
theorem dN_val {xs : DX} {ys : List (NestedKey × Addr × Value)} (r : Paired EntR xs ys) (k : NestedKey) : RelO (valV (kvx xs) k) ((atKey ys k).map (·.2)) := by
  induction r with
  | nil => exact True.intro
  | @cons p q ps qs h t ih =>
    obtain ⟨h1, h2, h3⟩ := h
    show RelO (valV ((p.1, p.2.2) :: kvx ps) k) _
    by_cases e : p.1 = k
    · have e' : q.1 = k := h1.symm.trans e
      have z : atKey (q :: qs) k = some q.2 := by simp [atKey, List.find?_cons, e']
      rw [valV_pos (p := (p.1, p.2.2)) e, z]
      exact h3
    · have e' : ¬ q.1 = k := fun z => e (h1.trans z)
      have z : atKey (q :: qs) k = atKey qs k := by simp [atKey, List.find?_cons, e']
      rw [valV_neg (p := (p.1, p.2.2)) e, z]
      exact ih
/-- the entries behind d[k] = v -/
def putX (xs : DX) (k : NestedKey) (b : Addr) (v : V) : DX := if (valV (kvx xs) k).isSome then xs.map (fun x => if x.1 = k then (x.1, x.2.1, v) else x) else xs ++ [(k, b, v)]
theorem kvx_putX (xs : DX) (k : NestedKey) (b : Addr) (v : V) : kvx (putX xs k b v) = putK (kvx xs) k v := by
  unfold putX putK
  rw [valV_any]
  by_cases q : (valV (kvx xs) k).isSome = true
  · rw [if_pos q, if_pos q]
    unfold kvx
    rw [List.map_map, List.map_map]
    refine List.map_congr_left fun x _ => ?_
    show ((if x.1 = k then (x.1, x.2.1, v) else x).1, (if x.1 = k then (x.1, x.2.1, v) else x).2.2) = if x.1 = k then (x.1, v) else (x.1, x.2.2)
    by_cases e : x.1 = k
    · rw [if_pos e, if_pos e]
    · rw [if_neg e, if_neg e]
  · rw [if_neg q, if_neg q]
    unfold kvx
    rw [List.map_append]
    rfl
theorem putX_ent {xs : DX} {ys : List (NestedKey × Addr × Value)} (r : Paired EntR xs ys) (k : NestedKey) (b : Addr) {v : V} {u : Value} (rv : RelV v u) : Paired EntR (putX xs k b v) (storedH ys k b u) := by
  unfold putX storedH
  have e := (dN_val r k).isSome_eq
  rw [Option.isSome_map] at e
  rw [e]
  by_cases q : (atKey ys k).isSome = true
  · rw [if_pos q, if_pos q]
    clear q e
    induction r with
    | nil => exact .nil
    | @cons p q ps qs h t ih =>
      rw [List.map_cons, List.map_cons]
      refine .cons ?_ ih
      obtain ⟨h1, h2, h3⟩ := h
      unfold putAt
      by_cases e : p.1 = k
      · rw [if_pos e, if_pos (h1.symm.trans e)]
        exact ⟨h1, h2, rv⟩
      · rw [if_neg e, if_neg (fun z => e (h1.trans z))]
        exact ⟨h1, h2, h3⟩
  · rw [if_neg q, if_neg q]
    exact Paired.snoc r ⟨rfl, rfl, rv⟩
theorem putX_len (xs : DX) (k : NestedKey) (b : Addr) (v : V) : (putX xs k b v).length ≤ xs.length + 1 := by
  unfold putX
  split
  · rw [List.length_map]
    exact Nat.le_succ _
  · rw [List.length_append]
    exact Nat.le_refl _
theorem putX_mem {xs : DX} {k : NestedKey} {b : Addr} {v : V} {x : NestedKey × Addr × V} (h : x ∈ putX xs k b v) : (∃ y ∈ xs, y.1 = x.1 ∧ y.2.1 = x.2.1) ∨ (x.1 = k ∧ x.2.1 = b) := by
  unfold putX at h
  split at h
  · obtain ⟨y, hy, e⟩ := List.mem_map.mp h
    refine .inl ⟨y, hy, ?_⟩
    by_cases q : y.1 = k
    · rw [if_pos q] at e
      rw [← e]
      exact ⟨rfl, rfl⟩
    · rw [if_neg q] at e
      rw [e]
      exact ⟨rfl, rfl⟩
  · rcases List.mem_append.mp h with h | h
    · exact .inl ⟨x, h, rfl, rfl⟩
    · rw [List.mem_singleton] at h
      rw [h]
      exact .inr ⟨rfl, rfl⟩
theorem valV_none_mem {kvs : List (NestedKey × V)} {k : NestedKey} (h : valV kvs k = none) : k ∉ kvs.map (·.1) := by
  induction kvs with
  | nil => exact fun z => by cases z
  | cons p r ih =>
    by_cases e : p.1 = k
    · rw [valV_pos e] at h
      cases h
    · rw [valV_neg e] at h
      intro z
      rcases List.mem_cons.mp z with z | z
      · exact e z.symm
      · exact ih h z
theorem putX_nd {xs : DX} {k : NestedKey} {b : Addr} {v : V} (nd : (xs.map (·.1)).Nodup) : ((putX xs k b v).map (·.1)).Nodup := by
  unfold putX
  by_cases q : (valV (kvx xs) k).isSome = true
  · rw [if_pos q, List.map_map]
    have e : xs.map ((·.1) ∘ fun x => if x.1 = k then (x.1, x.2.1, v) else x) = xs.map (·.1) := List.map_congr_left fun x _ => by
      show (if x.1 = k then (x.1, x.2.1, v) else x).1 = x.1
      split
      · rfl
      · rfl
    rw [e]
    exact nd
  · rw [if_neg q, List.map_append]
    have hn : valV (kvx xs) k = none := by
      cases e : valV (kvx xs) k with
      | none => rfl
      | some z => rw [e] at q; exact absurd rfl q
    have h1 : k ∉ xs.map (·.1) := by
      have h2 := valV_none_mem hn
      unfold kvx at h2
      rw [List.map_map] at h2
      exact h2
    refine List.nodup_append.mpr ⟨nd, by simp, fun a ha b hb => ?_⟩
    rw [List.map_cons, List.map_nil, List.mem_singleton] at hb
    rw [hb]
    intro z
    rw [z] at ha
    exact h1 ha
/-- what the dict at a holds at the key y -/
def NGet (w : World) (H : Hp) (a : Addr) (y : V) (r : Option V) : Prop := ∃ (xs : DX) (ep : Nat) (ks : List NestedKey), DN w H a xs ep ∧ Rp H (.tup ks) y ∧ (NestedKey.tup ks).depth ≤ 8 ∧ r = valV (kvx xs) (.tup ks)
section
variable {X : Cx} {pins : List (Addr × Obj)} {σ : L2.St} {H : Hp} {s : Shared} {a : Addr} {y v : V} {u r : Value} {A : Around} {E : Value → Shared → Prop}
theorem rp_ref {ks : List NestedKey} (h : Rp H (.tup ks) y) : ∃ b, y = .ref b ∧ Rp H (.tup ks) (.ref b) := by
  obtain ⟨b, vs, rfl, h2⟩ := rp_tup.mp h
  exact ⟨b, rfl, h⟩
theorem n_getItem {Q : Value → Shared → Prop} (hu : A.units + 64 < cLine) (I : Inv X pins σ H s) (g : NGet X.w H a y (some v)) (ry : RelV y u) (h : ∀ w' s', Inv X pins σ H s' → RelV v w' → Q w' s') :
    wpAny (model X.prog X.w) A (getItem (.ref a) u) Q E s := by
  obtain ⟨xs, ep, ks, d, hk, dp, l⟩ := g
  obtain ⟨b, rfl, hk⟩ := rp_ref hk
  cases (show u = Value.ref b from ry)
  obtain ⟨o, es, ys, rel, dd, _⟩ := d.dict I.hok
  obtain ⟨w', hw, rw'⟩ := RelO.some_of (v := v) (o := (atKey ys (.tup ks)).map (·.2)) (by rw [l]; exact dN_val rel _)
  obtain ⟨p, hp, hp2⟩ := Option.map_eq_some_iff.mp hw
  refine wpAny_getItem_heap (knd := nestedKind X.prog X.w) (by show A.units + 1 + 8 < cLine; omega) ⟨Rp.is I.hok _ _ _ hk rfl, dp⟩ dd hp ?_
  rw [hp2]
  exact h w' _ (I.tok _) rw'
/-- y in d, y not in d -/
def rInN (w : World) : R2 := fun y x H Q => ∃ (a : Addr) (o : Option V), x = .ref a ∧ NGet w H a y o ∧ Q (.bl o.isSome) H
def rNotInN (w : World) : R2 := fun y x H Q => ∃ (a : Addr) (o : Option V), x = .ref a ∧ NGet w H a y o ∧ Q (.bl (!o.isSome)) H
theorem op_inN (hu : X.A.units + 64 < cLine) : OpR X (compareOp .In) (rInN X.w) := by
  intro pins s σ H y x iv ov Q I ry rx h
  obtain ⟨a, o, rfl, ⟨xs, ep, ks, d, hk, dp, rfl⟩, q⟩ := h
  obtain rfl : ov = Value.ref a := rx
  obtain ⟨b, rfl, hk⟩ := rp_ref hk
  cases (show iv = Value.ref b from ry)
  obtain ⟨o, es, ys, rel, dd, _⟩ := d.dict I.hok
  refine wpAny_in_heap (knd := nestedKind X.prog X.w) (by show X.A.units + 1 + 8 < cLine; omega) ⟨Rp.is I.hok _ _ _ hk rfl, dp⟩ d.sys dd ?_
  have z := (dN_val rel (.tup ks)).isSome_eq
  rw [Option.isSome_map] at z
  exact fin_bl (I.tok _) q z
theorem op_notInN (hu : X.A.units + 64 < cLine) : OpR X (compareOp .NotIn) (rNotInN X.w) := by
  intro pins s σ H y x iv ov Q I ry rx h
  obtain ⟨a, o, rfl, ⟨xs, ep, ks, d, hk, dp, rfl⟩, q⟩ := h
  obtain rfl : ov = Value.ref a := rx
  obtain ⟨b, rfl, hk⟩ := rp_ref hk
  cases (show iv = Value.ref b from ry)
  obtain ⟨o, es, ys, rel, dd, _⟩ := d.dict I.hok
  refine wpAny_notIn_heap (knd := nestedKind X.prog X.w) (by show X.A.units + 1 + 8 < cLine; omega) ⟨Rp.is I.hok _ _ _ hk rfl, dp⟩ d.sys dd ?_
  have z := (dN_val rel (.tup ks)).isSome_eq
  rw [Option.isSome_map] at z
  exact fin_bl (I.tok _) q (congrArg (!·) z)
/-- the object behind a store -/
theorem dN_stored {o' : Obj} {h' : Heap} {xs : DX} {ep : Nat} {ks : List NestedKey} {b : Addr} {v : V} {ys : List (NestedKey × Addr × Value)} (d : DN X.w H a xs ep) (hl : xs.length < sizeLine) (hk : Rp H (.tup ks) (.ref b)) (dp : (NestedKey.tup ks).depth ≤ 8)
    (rel : Paired EntR (putX xs (.tup ks) b v) ys) (dd : h'.DictOfH (nestedKind X.prog X.w) a ys) :
    ∃ ep', ObjOk X.prog X.w (upd H a (dN X.w a (putX xs (.tup ks) b v) ep')) h' a (dN X.w a (putX xs (.tup ks) b v) ep') ∧ DN X.w (upd H a (dN X.w a (putX xs (.tup ks) b v) ep')) a (putX xs (.tup ks) b v) ep' := by
  obtain ⟨o, es, ep', e1, e2, e3, e4, _, _⟩ := dd
  refine ⟨ep', dN_ok ⟨o, es, ys, e1, e2, e3, e4, rel⟩, upd_same, fun x hx => ?_, putX_nd d.nd, Nat.le_trans (putX_len _ _ _ _) hl, d.sys⟩
  have ts : TupSame H (upd H a (dN X.w a (putX xs (.tup ks) b v) ep')) := TupSame.mut d.notup
  rcases putX_mem hx with ⟨y, hy, f1, f2⟩ | ⟨f1, f2⟩
  · obtain ⟨k1, k2⟩ := d.keys y hy
    rw [← f1, ← f2]
    exact ⟨Rp.ext ts _ _ k1, k2⟩
  · rw [f1, f2]
    exact ⟨Rp.ext ts _ _ hk, dp⟩
def NPut (w : World) (H : Hp) (a : Addr) (y v : V) (Q : Hp → Prop) : Prop := ∃ (xs : DX) (ep : Nat) (ks : List NestedKey) (b : Addr), DN w H a xs ep ∧ y = .ref b ∧ Rp H (.tup ks) (.ref b) ∧ (NestedKey.tup ks).depth ≤ 8 ∧ xs.length < sizeLine ∧
  ∀ ep', DN w (upd H a (dN w a (putX xs (.tup ks) b v) ep')) a (putX xs (.tup ks) b v) ep' → Q (upd H a (dN w a (putX xs (.tup ks) b v) ep'))
def setN (w : World) : TSet := fun o i v H Q => ∃ a : Addr, o = .ref a ∧ NPut w H a i v Q
theorem set_N (hu : X.A.units + 64 < cLine) : PSet X (setN X.w) := by
  intro pins s σ H o i v ov iv u Q I ro ri rv h
  obtain ⟨a, rfl, xs, ep, ks, b, d, rfl, hk, dp, hl, q⟩ := h
  obtain rfl : ov = Value.ref a := ro
  obtain rfl : iv = Value.ref b := ri
  obtain ⟨o, es, ys, rel, dd, _⟩ := d.dict I.hok
  refine wpAny_setItem_heap (knd := nestedKind X.prog X.w) (hsz := by rw [← ent_len rel]; exact d.le) (by show X.A.units + 1 + 8 < cLine; omega) ⟨Rp.is I.hok _ _ _ hk rfl, dp⟩ dd fun h' dd' hs => ?_
  obtain ⟨ep', ok', d'⟩ := dN_stored (o' := o) d hl hk dp (putX_ent rel (.tup ks) b rv) dd'
  have he : ∃ q, h'.get? a = some q := let ⟨q, _, _, hq, _⟩ := dd'; ⟨q, hq⟩
  exact ⟨_, d_write I (by rw [d.at_]; exact True.intro) hs he ok', q ep' d'⟩
/-- a store by a comprehension -/
theorem n_dictSet {Q : Unit → Shared → Prop} {y v : V} {u r : Value} {Qh : Hp → Prop} (hu : A.units + 64 < cLine) (I : Inv X pins σ H s) (hp : NPut X.w H a y v Qh) (ry : RelV y u) (rv : RelV v r) (h : ∀ H' s', Inv X pins σ H' s' → Qh H' → Q () s') :
    wpAny (model X.prog X.w) A (dictSet a u r) Q E s := by
  obtain ⟨xs, ep, ks, b, d, rfl, hk, dp, hl, q⟩ := hp
  obtain rfl : u = Value.ref b := ry
  obtain ⟨o, es, ys, rel, dd, _⟩ := d.dict I.hok
  refine wpAny_dictSet_heap (knd := nestedKind X.prog X.w) (hsz := by rw [← ent_len rel]; exact d.le) (by show A.units + 8 < cLine; omega) ⟨Rp.is I.hok _ _ _ hk rfl, dp⟩ dd fun h' dd' hs => ?_
  obtain ⟨ep', ok', d'⟩ := dN_stored (o' := o) d hl hk dp (putX_ent rel (.tup ks) b rv) dd'
  have he : ∃ q, h'.get? a = some q := let ⟨q, _, _, hq, _⟩ := dd'; ⟨q, hq⟩
  exact h _ _ (d_write I (by rw [d.at_]; exact True.intro) hs he ok') (q ep' d')
theorem dN_new {P : Program} {w : World} {H : Hp} (h : Heap) (hb : sysModules < h.objs.size) : ObjOk P w (upd H h.objs.size (dN w h.objs.size [] 0)) (h.push { cls := .type "dict", data := .dict #[] }) h.objs.size (dN w h.objs.size [] 0) ∧ DN w (upd H h.objs.size (dN w h.objs.size [] 0)) h.objs.size [] 0 :=
  ⟨dN_ok ⟨_, #[], [], Heap.get?_push_size _ rfl, ⟨rfl, rfl, rfl⟩, rfl, rfl, .nil⟩, upd_same, (fun x hx => by cases hx), List.nodup_nil, Nat.zero_le _, beq_eq_false_iff_ne.mpr (Ne.symm (Nat.ne_of_lt hb))⟩
end
/-- d[y], {} -/
def tNGet (w : World) (td ty : TE) : TE := fun σ H Q => td σ H fun x H1 => ty σ H1 fun y H2 => ∃ (a : Addr) (v : V), x = .ref a ∧ NGet w H2 a y (some v) ∧ Q v H2
def tNNew (w : World) : TE := fun _ H Q => ∀ p, H p = none → DN w (upd H p (dN w p [] 0)) p [] 0 → Q (.ref p) (upd H p (dN w p [] 0))
/-- {k: v}, the dict stands empty while the key and the value are made -/
def tNOne (w : World) (tk tv : TE) : TE := fun σ H Q => ∀ p, H p = none → DN w (upd H p (dN w p [] 0)) p [] 0 → tk σ (upd H p (dN w p [] 0)) fun y H1 => tv σ H1 fun v H2 => H2 p = some (dN w p [] 0) ∧ NPut w H2 p y v fun H3 => Q (.ref p) H3
section
variable {X : Cx} {o i e value : Expr} {pos pos' tpos : Pos} {td ty tv tk : TE}
theorem pe_nget (hu : X.A.units + 64 < cLine) (ho : PE X o td) (hi : PE X i ty) (hs : NoSl i) : PE X (.Subscript o i pos) (tNGet X.w td ty) := by
  refine ⟨fun pins s σ H Q I h => ?_⟩
  refine subD_of PySem.F.slot_dict_getitem.lookup hs (thn (ho.run pins s σ H _ I h) fun u s1 ⟨x, H1, I1, rx, q1⟩ => thn (hi.run pins s1 σ H1 _ I1 q1) fun iv s2 ⟨y, H2, I2, ry, a, v, ex, g, q2⟩ => ?_)
  subst ex
  obtain rfl : u = Value.ref a := rx
  refine ⟨?_, n_getItem hu I2 g ry fun w' s3 I3 rw' => ⟨v, H2, I3, rw', q2⟩⟩
  obtain ⟨xs, ep, ks, d, _⟩ := g
  obtain ⟨_, _, _, _, dd, _⟩ := d.dict I2.hok
  exact dd.typeIs
theorem pe_nnew : PE X (.Dict [] [] pos) (tNNew X.w) := ⟨fun pins s σ H Q I h => by
  have n := dN_new (P := X.prog) (w := X.w) (H := H) s.heap I.big
  exact wpAny_Dict_empty ⟨.ref s.heap.objs.size, _, I.laid (a := s.heap.objs.size) (t' := s.toks) (fun _ _ q => Heap.get?_push_of_some _ q) (Nat.le_refl _) n.1, rfl, h _ (I.hok.fresh (Nat.le_refl _)) n.2⟩⟩
theorem pe_none (hu : X.A.units + 64 < cLine) {k v : Expr} (hk : PE X k tk) (hv : PE X v tv) : PE X (.Dict [some k] [v] pos) (tNOne X.w tk tv) := by
  refine ⟨fun pins s σ H Q I h => ?_⟩
  have n := dN_new (P := X.prog) (w := X.w) (H := H) s.heap I.big
  have I1 := I.laid (a := s.heap.objs.size) (h' := s.heap.push { cls := .type "dict", data := .dict #[] }) (t' := s.toks) (fun _ _ q => Heap.get?_push_of_some _ q) (Nat.le_refl _) n.1
  have hp := h _ (I.hok.fresh (Nat.le_refl _)) n.2
  have sh : (evalEachOpt [some k] X.env).zip ((evalEach [v] X.env).map fun v => do let x ← v; standAt pos; pure x) = (pairTrees [some k] [v] X.env pos).map fun p => (some p.1, p.2) := rfl
  rw [arm_eval_Dict, sh, dictDisplay_pairs (pairTrees [some k] [v] X.env pos) (by intro z; cases z) (by show 1 < 17; decide)]
  refine wpAny_bind (wpAny_standAt (wpAny_bind (wpAny_subDictH (knd := nestedKind X.prog X.w) (Q := fun d s' => wpAny (model X.prog X.w) X.A (pure (Value.ref d)) (EP X pins σ Q) X.xe s') (by have := hu; show X.A.units + 8 < cLine; omega) (by show 1 ≤ 15; decide) ?_)))
  refine pairTrees_cons_walk (thn (hk.run pins _ σ _ _ I1 hp) fun u s1 ⟨y, H1, I2, ry, q1⟩ => thn (hv.run pins s1 σ H1 _ I2 q1) fun w2 s2 ⟨z, H2, I3, rz, at2, xs, ep, ks, b, d, ey, hkk, dp, hl, q2⟩ => pairTrees_nil_walk ?_)
  subst ey
  obtain rfl : u = Value.ref b := ry
  obtain ⟨o, es, ys, rel, dd, e1, e2, e3, e4⟩ := d.dict I3.hok
  have exs : dN X.w s.heap.objs.size xs ep = dN X.w s.heap.objs.size [] 0 := Option.some.inj (d.at_.symm.trans at2)
  have exs' : xs = [] := by
    have h3 : dNphi X.w s.heap.objs.size xs ep = dNphi X.w s.heap.objs.size [] 0 := by
      unfold dN at exs
      exact HO.ext.inj exs
    have h4 : dNphi X.w s.heap.objs.size xs ep s2.heap := ⟨o, es, ys, e1, e2, e3, e4, rel⟩
    rw [h3] at h4
    obtain ⟨o', es', ys', f1, f2, f3, f4, f5⟩ := h4
    rw [e1] at f1
    cases f1
    rw [e3] at f3
    injection f3 with f3 _
    subst f3
    cases f5
    rw [e4] at f4
    have z : ys = [] := by
      cases ys with
      | nil => rfl
      | cons _ _ => cases f4
    subst z
    cases rel
    rfl
  subst exs'
  cases rel
  refine ⟨[(.tup ks, b, w2)], ⟨rfl, rfl, ⟨Rp.is I3.hok _ _ _ hkk rfl, dp⟩, True.intro⟩, dd, fun h' tk' dd' hs => wpAny_pure ?_⟩
  have dd2 : h'.DictOfH (nestedKind X.prog X.w) s.heap.objs.size (storedH [] (.tup ks) b w2) := dd'
  obtain ⟨ep', ok', d'⟩ := dN_stored (o' := o) d hl hkk dp (putX_ent .nil (.tup ks) b rz) dd2
  have he : ∃ q, h'.get? s.heap.objs.size = some q := let ⟨q, _, _, hq, _⟩ := dd2; ⟨q, hq⟩
  exact ⟨.ref s.heap.objs.size, _, d_write I3 (by rw [d.at_]; exact True.intro) hs he ok', rfl, q2 ep' d'⟩
end
end G6
end
section
set_option maxHeartbeats 4000000
set_option Elab.async false
set_option linter.all false
set_option maxRecDepth 100000
set_option maxHeartbeats 4000000
/-! A2: sorted of nested tuples, of a dict's keys -/
namespace G6
open PySem PySem.Spec PyProof.Rows L2 PySem.W
mutual
theorem Rp.reads {P : Program} {w : World} {H : Hp} {h : Heap} (ok : HOk P w H h) : ∀ (k : NestedKey) (v : V) (u : Value), Rp H k v → RelV v u → Reads h u k.data []
  | .none, v, u, q, r => by
    rw [Rp] at q
    subst q
    cases (show u = Value.none from r)
    exact .none
  | .num i, v, u, q, r => by
    rw [Rp] at q
    subst q
    obtain ⟨t, rfl⟩ := (show ∃ t, u = Value.int i t from r)
    exact .int i t
  | .text x, v, u, q, r => by
    rw [Rp] at q
    subst q
    obtain ⟨t, rfl⟩ := (show ∃ t, u = Value.str x t from r)
    exact .str x t
  | .tup ks, v, u, q, r => by
    rw [Rp] at q
    obtain ⟨a, vs, rfl, h2, h3⟩ := q
    cases (show u = Value.ref a from r)
    obtain ⟨_, its, rv, o, e1, e2, n, e3⟩ := (show ObjOk P w H _ a (.tup vs) from ok a _ h2)
    show Reads h (Value.ref a) (PyData.tuple (NestedKey.datas ks)) []
    exact .tuple e1 e2 e3 (by rw [List.toList_toArray]; exact RpAll.reads ok ks vs its h3 rv)
theorem RpAll.reads {P : Program} {w : World} {H : Hp} {h : Heap} (ok : HOk P w H h) : ∀ (ks : List NestedKey) (vs : List V) (us : List Value), RpAll H ks vs → Vals vs us → ReadsAll h us (NestedKey.datas ks) []
  | [], vs, us, q, r => by
    rw [RpAll] at q
    subst q
    cases r
    exact .nil
  | k :: ks, vs, us, q, r => by
    rw [RpAll] at q
    obtain ⟨x, z, rfl, h2, h3⟩ := q
    cases r with
    | cons r1 r2 =>
      have h4 := ReadsAll.cons (Rp.reads ok k x _ h2 r1) (RpAll.reads ok ks z _ h3 r2)
      exact h4
end
/-! ### what is collected of a source, sorted -/
section
variable {prog : Program} {w : World} {A : Around} {E : Value → Shared → Prop} {s : Shared} {T : String} {r d : Addr} {n : Nat} {P : Nat → Value → Prop} {OK : Heap → Prop}
theorem collect_src {R : List Value → Shared → Prop} (K : KdlSrc prog w T r d n P OK) (hh : A.handled = none) (hok : OK s.heap) (hn : n ≤ sizeLine)
    (h : ∀ (h' : Heap) (tk : Nat) (vs : List Value), (∀ b o, s.heap.get? b = some o → h'.get? b = some o) → s.heap.objs.size ≤ h'.objs.size → vs.length = n → (∀ j v, vs[j]? = some v → P j v) → R vs { s with heap := h', toks := tk }) :
    wpAny (model prog w) A (collect (.ref r)) R E s := by
  have hlt := K.there _ hok
  unfold collect
  refine wpAny_bind (wpAny_runValue (codeAny_builtin entry_proto_collect' ?_))
  rw [Around.under_plainId PySem.F.plain_proto_collect _]
  show wpAny _ A.in1 (newList [] >>= fun l => again (.builtin "list.__iadd__" ⟨[l, .ref r], []⟩)) _ _ s
  refine wpAny_bind (wpAny_newObj_type ?_)
  refine wpAny_pure ⟨plainId_quiet PySem.F.plain_list_iadd _, codeAny_builtin entry_list_iadd' ?_⟩
  rw [Around.under_plainId PySem.F.plain_list_iadd _]
  have at0 : (s.heap.push { cls := .type "list", data := .seq ([] : List Value).toArray }).get? s.heap.objs.size = some { cls := .type "list", data := .seq #[] } := Heap.get?_push_size _ rfl
  show wpAny _ A.in1 (Builtin.List.listExtendWith (.ref s.heap.objs.size) (.ref r) (.ref s.heap.objs.size)) _ _ _
  have ext := kdl_extend (A := A) (s := { s with heap := s.heap.push { cls := .type "list", data := .seq ([] : List Value).toArray } })
    (R := fun (q : Result) (s' : Shared) => ∃ (h' : Heap) (tk : Nat) (acc' : Array Value) (c' : Nat), q = .ok (.ret (.ref s.heap.objs.size)) ∧ s' = { s with heap := h', toks := tk } ∧ (∀ b o, s.heap.get? b = some o → h'.get? b = some o) ∧
      h'.get? s.heap.objs.size = some { cls := .type "list", dict := none, data := .seq acc' c', slots := #[] } ∧ ItemsOf P acc' n)
    K hh (K.keep _ _ hok fun b _ o e => Heap.get?_push_of_some _ e) s.heap.objs.size (Nat.ne_of_gt hlt.1) (Nat.ne_of_gt hlt.2) (.ref s.heap.objs.size) 0 at0
    (fun h' tk acc' c' hk at1 hacc => ⟨h', tk, acc', c', rfl, rfl, fun b o e => hk b o (Nat.ne_of_lt (Heap.lt_size e)) (Heap.get?_push_of_some _ e), at1, hacc⟩) hn
  have fin : ∀ (h' : Heap) (tk : Nat) (acc' : Array Value) (c' : Nat), (∀ b o, s.heap.get? b = some o → h'.get? b = some o) → h'.get? s.heap.objs.size = some { cls := .type "list", dict := none, data := .seq acc' c', slots := #[] } → ItemsOf P acc' n →
      R acc'.toList { s with heap := h', toks := tk } := fun h' tk acc' c' hk at1 hacc =>
    h h' tk acc'.toList hk (Nat.le_of_lt (Heap.lt_size at1)) (by rw [Array.length_toList]; exact hacc.1) fun j v e => hacc.2 j v (by rw [← Array.getElem?_toList]; exact e)
  refine wpAny_mono ext (fun fi s' x => ?_) fun e s' x => ?_
  · cases fi with
    | done f =>
      obtain ⟨h', tk, acc', c', e, rfl, hk, at1, hacc⟩ := x
      cases e
      show wpAny _ A (load s.heap.objs.size >>= _) _ _ _
      exact wpAny_bind (wpAny_load at1 (wpAny_pure (fin h' tk acc' c' hk at1 hacc)))
    | again c₁ =>
      refine ⟨x.1, codeAny_mono x.2 fun q s₂ y => ?_⟩
      obtain ⟨h', tk, acc', c', rfl, rfl, hk, at1, hacc⟩ := y
      show wpAny _ A (load s.heap.objs.size >>= _) _ _ _
      exact wpAny_bind (wpAny_load at1 (wpAny_pure (fin h' tk acc' c' hk at1 hacc)))
  · obtain ⟨_, _, _, _, e', _⟩ := x
    cases e'
theorem sorted_src {Q : Value → Shared → Prop} (K : KdlSrc prog w T r d n P OK) (hh : A.handled = none) (hok : OK s.heap) (hn : n ≤ sizeLine)
    (h : ∀ (h' : Heap) (tk : Nat) (vs : List Value), (∀ b o, s.heap.get? b = some o → h'.get? b = some o) → s.heap.objs.size ≤ h'.objs.size → vs.length = n → (∀ j v, vs[j]? = some v → P j v) →
      wpAny (model prog w) A.in1 (call (.builtin "list.sort") [.ref h'.objs.size]) (fun _ s' => Q (.ref h'.objs.size) s') E { s with heap := h'.push { cls := .type "list", data := .seq vs.toArray }, toks := tk }) :
    wpAny (model prog w) A (call (.builtin "sorted") [.ref r]) Q E s := by
  refine Calls.call_function_entry kind_sorted plain_sorted entry_sorted (args_sorted1 _) ?_
  unfold Builtin.«sorted»
  refine wpAny_bind (m := checkCount "sorted" 1 1 _) (wpAny_pure ?_)
  refine wpAny_bind (collect_src (A := A.in1) K hh hok hn fun h' tk vs hk hsz hl hp => ?_)
  refine wpAny_bind (wpAny_newList ?_ (by rw [hl]; exact hn))
  refine wpAny_bind (wpAny_holding (wpAny_mono (h h' tk vs hk hsz hl hp) (fun _ s' x => ?_) fun _ _ e => e))
  exact wpAny_pure ⟨_, rfl, x⟩
end
/-! ### over the layer -/
abbrev BD : Type := V × PyData
/-- the items as values and as data -/
def sortB (bs : List BD) : List V := (bs.mergeSort (dataLe false (fun b : BD => b.2))).map (·.1)
def BdOk (H : Hp) (bs : List BD) : Prop := (∀ b ∈ bs, ∃ k : NestedKey, Rp H k b.1 ∧ b.2 = k.data ∧ k.depth ≤ 8) ∧ AllAlike (bs.map (·.2)) ∧ Sortable (bs.map (·.2))
theorem each_vals : ∀ {bs : List BD} {us : List Value}, EachIs (fun (u : Value) (b : BD) => RelV b.1 u) us bs → Vals (bs.map (·.1)) us
  | [], _, .nil => .nil
  | _ :: _, _, .cons h t => .cons h (each_vals t)
theorem vals_each : ∀ {bs : List BD} {us : List Value}, Vals (bs.map (·.1)) us → EachIs (fun (u : Value) (b : BD) => RelV b.1 u) us bs
  | [], us, h => by
    have h' : Vals [] us := h
    cases h'
    exact .nil
  | b :: bs, us, h => by
    have h' : Vals (b.1 :: bs.map (·.1)) us := h
    cases h' with
    | cons h1 t => exact .cons h1 (vals_each t)
theorem each_reads {P : Program} {w : World} {H : Hp} {h : Heap} (ok : HOk P w H h) (a : Addr) : ∀ {bs : List BD} {us : List Value}, (∀ b ∈ bs, ∃ k : NestedKey, Rp H k b.1 ∧ b.2 = k.data ∧ k.depth ≤ 8) → Vals (bs.map (·.1)) us →
    EachIs (fun (u : Value) (b : BD) => ∃ as, Reads h u b.2 as ∧ a ∉ as) us bs
  | [], us, _, q => by
    have q' : Vals [] us := q
    cases q'
    exact .nil
  | b :: bs, us, hb, q => by
    have q' : Vals (b.1 :: bs.map (·.1)) us := q
    cases q' with
    | cons r t =>
      obtain ⟨k, h1, h2, _⟩ := hb b List.mem_cons_self
      exact .cons ⟨[], by rw [h2]; exact Rp.reads ok k _ _ h1 r, by simp⟩ (each_reads ok a (fun b hm => hb b (List.mem_cons_of_mem _ hm)) t)
mutual
theorem data_depth : ∀ k : NestedKey, k.data.depth ≤ k.depth
  | .none => by simp [NestedKey.data, PyData.depth]
  | .num _ => by simp [NestedKey.data, PyData.depth]
  | .text _ => by simp [NestedKey.data, PyData.depth]
  | .tup ks => by
    have h := datas_depth ks
    show (PyData.tuple (NestedKey.datas ks)).depth ≤ NestedKey.depthAll ks + 1
    rw [PyData.depth]
    omega
theorem datas_depth : ∀ ks : List NestedKey, PyData.depthAll (NestedKey.datas ks) ≤ NestedKey.depthAll ks
  | [] => by simp [NestedKey.datas, PyData.depthAll]
  | k :: ks => by
    have h1 := data_depth k
    have h2 := datas_depth ks
    rw [NestedKey.datas, PyData.depthAll, NestedKey.depthAll]
    omega
end
theorem sortB_len (bs : List BD) : (sortB bs).length = bs.length := by
  unfold sortB
  rw [List.length_map, List.length_mergeSort]
section
variable {X : Cx} {pins : List (Addr × Obj)} {σ : L2.St} {H : Hp} {s : Shared}
/-- sorted(xs), a list of nested tuples -/
def rSortBD (K : PySem.W.Frag) : List V → Hp → VK → Prop := fun xs H Q => ∃ (a : Addr) (bs : List BD), xs = [.ref a] ∧ SqL K H a (bs.map (·.1)) ∧ BdOk H bs ∧ ∀ q, H q = none → Q (.ref q) (upd H q (.lst (sortB bs)))
theorem cr_sortBD (hu : X.A.units + 64 < cLine) : CallR X (.builtin "sorted") (rSortBD X.K) := by
  intro pins s σ H xs us Q I r h
  obtain ⟨a, bs, rfl, hl, ⟨hb, hal, hk⟩, q⟩ := h
  obtain rfl := Vals.ref1 r
  obtain ⟨its, rv, pl, hz⟩ := I.list hl
  refine sorted_data (enc := fun b : BD => b.2) (R := fun (u : Value) (b : BD) => RelV b.1 u) pl.isList (vals_each rv) ((each_reads I.hok a hb rv).mono fun _ _ ⟨as, z, _⟩ => ⟨as, z⟩) hal hk (by rw [List.length_map] at hz; exact hz) (fun b hm => ?_) fun out hlen eo => ?_
  · obtain ⟨k, _, h2, h3⟩ := hb b hm
    have h4 := data_depth k
    rw [h2]
    show X.A.units + 2 + k.data.depth < cLine
    omega
  · obtain ⟨c, hc⟩ := PyProof.Rows.sortedAll_at s.heap its out.toArray
    refine ⟨.ref (s.heap.objs.size + 1), _, I.laid (o := .lst (sortB bs)) (t' := s.toks) (fun _ _ => PyProof.Rows.sortedAll_old) (Nat.le_succ _) ⟨?_, out, c, each_vals eo, hc⟩, rfl, q _ (I.hok.fresh (Nat.le_succ _))⟩
    have h5 := sortB_len bs
    rw [h5]
    rw [List.length_map] at hz
    exact hz
/-- a view of a dict's keys -/
def viewO (p d : Addr) : HO := .ext fun h => KdlKeysView h p d
theorem viewO_ok {P : Program} {w : World} {h : Heap} {p d : Addr} (e : h.get? p = some { cls := .type "dict_keys", data := .fields #[.ref d] }) : ObjOk P w H h p (viewO p d) :=
  ⟨⟨_, e, rfl, rfl⟩, ⟨_, e⟩, fun _ _ ⟨o, q, r⟩ st => ⟨o, st o q, r⟩⟩
/-- sorted(d.keys()) up to the sort of the keys: us the keys' values -/
theorem sort_view {p d : Addr} {es : Array DictEntry} {ep : Nat} {bs : List BD} {Q : VK} (hu : X.A.units + 64 < cLine) (hc : X.calm = true) (I : Inv X pins σ H s) (hv : H p = some (viewO p d)) (hd : s.heap.DictRaw d es ep) (hsz : es.size ≤ sizeLine)
    (hkeys : Vals (bs.map (·.1)) (es.toList.map (·.key))) (hb : BdOk H bs) (q : ∀ q, H q = none → Q (.ref q) (upd H q (.lst (sortB bs)))) :
    wpAny (model X.prog X.w) X.A (call (.builtin "sorted") [.ref p]) (EP X pins σ Q) X.xe s := by
  obtain ⟨hv1, _, _⟩ := (show ObjOk X.prog X.w H s.heap p (viewO p d) from I.hok p _ hv)
  obtain ⟨hb, hal, hk⟩ := hb
  refine sorted_src (KdlSrc.rawKeys (r := p) (d := d) (es := es) (ep := ep)) (I.ok.hd hc) ⟨hv1, hd⟩ hsz fun h' tk vs kp hle hl hp => ?_
  have evs : vs = es.toList.map (·.key) := by
    apply List.ext_getElem?
    intro j
    by_cases hj : j < es.size
    · obtain ⟨_, e⟩ := hp j vs[j] (List.getElem?_eq_getElem (by rw [hl]; exact hj))
      rw [List.getElem?_eq_getElem (by rw [hl]; exact hj), e, List.getElem?_map, List.getElem?_eq_getElem (by rw [Array.length_toList]; exact hj)]
      simp
    · rw [List.getElem?_eq_none (by rw [hl]; omega), List.getElem?_eq_none (by rw [List.length_map, Array.length_toList]; omega)]
  subst evs
  have hbl : bs.length = es.size := by
    have z := hkeys.length
    rw [List.length_map, List.length_map, Array.length_toList] at z
    exact z
  have I1 : Inv X pins σ H { s with heap := h', toks := tk } := I.kept kp
  have I2 : Inv X pins σ H { s with heap := h'.push { cls := .type "list", data := .seq (es.toList.map (·.key)).toArray }, toks := tk } := I1.kept (t' := tk) fun b o e => Heap.get?_push_of_some _ e
  have ho : (h'.push { cls := .type "list", data := .seq (es.toList.map (·.key)).toArray }).get? h'.objs.size = some (seqObj "list" (es.toList.map (·.key)).toArray 0) := Heap.get?_push_size _ rfl
  refine list_sort_data (A := X.A.in1) (s := { s with heap := h'.push { cls := .type "list", data := .seq (es.toList.map (·.key)).toArray }, toks := tk }) (enc := fun b : BD => b.2) (R := fun (u : Value) (b : BD) => RelV b.1 u) ho (vals_each hkeys) (each_reads I2.hok _ hb hkeys) hal hk (by rw [hbl]; exact hsz) (fun b hm => ?_) fun out hlen eo => ?_
  · obtain ⟨k, _, h2, h3⟩ := hb b hm
    have h4 := data_depth k
    rw [h2]
    show X.A.units + 1 + 1 + k.data.depth < cLine
    omega
  · obtain ⟨c, hc2⟩ := PyProof.Rows.sortedHeap_at (vs := es.toList.map (·.key)) (out := out.toArray) ho
    have keep : ∀ b o, s.heap.get? b = some o → (PyProof.Rows.sortedHeap (h'.push { cls := .type "list", data := .seq (es.toList.map (·.key)).toArray }) h'.objs.size (es.toList.map (·.key)) out.toArray).get? b = some o := fun b o e => by
      have e1 := kp b o e
      have hlt := Heap.lt_size e1
      have e2 := Heap.get?_push_of_some ({ cls := .type "list", data := .seq (es.toList.map (·.key)).toArray } : Obj) e1
      exact (PyProof.Rows.sortedHeap_old (Nat.ne_of_lt hlt) (Heap.lt_size e2)).trans e2
    refine ⟨.ref h'.objs.size, _, I.laid (o := .lst (sortB bs)) (t' := tk) keep hle ⟨?_, out, c, each_vals eo, hc2⟩, rfl, q _ (I.hok.fresh hle)⟩
    have h5 := sortB_len bs
    rw [h5, hbl]
    exact hsz
/-- sorted(d.keys()), keys nested tuples -/
def keysB (xs : DX) : List BD := xs.map fun x => (V.ref x.2.1, x.1.data)
def rSortKN (w : World) : List V → Hp → VK → Prop := fun vs H Q => ∃ (p d : Addr) (xs : DX) (ep : Nat), vs = [.ref p] ∧ H p = some (viewO p d) ∧ DN w H d xs ep ∧ AllAlike (xs.map (·.1.data)) ∧ Sortable (xs.map (·.1.data)) ∧ ∀ q, H q = none → Q (.ref q) (upd H q (.lst (sortB (keysB xs))))
theorem keysB_ok {w : World} {d : Addr} {xs : DX} {ep : Nat} (D : DN w H d xs ep) (h1 : AllAlike (xs.map (·.1.data))) (h2 : Sortable (xs.map (·.1.data))) : BdOk H (keysB xs) := by
  have e : (keysB xs).map (·.2) = xs.map (·.1.data) := by
    unfold keysB
    rw [List.map_map]
    rfl
  refine ⟨fun b hb => ?_, by rw [e]; exact h1, by rw [e]; exact h2⟩
  obtain ⟨x, hx, rfl⟩ := List.mem_map.mp hb
  obtain ⟨k1, k2⟩ := D.keys x hx
  exact ⟨x.1, k1, rfl, k2⟩
theorem cr_sortKN (hu : X.A.units + 64 < cLine) (hc : X.calm = true) : CallR X (.builtin "sorted") (rSortKN X.w) := by
  intro pins s σ H xs us Q I r h
  obtain ⟨p, d, xs, ep, rfl, hv, D, h1, h2, q⟩ := h
  obtain rfl := Vals.ref1 r
  obtain ⟨o, es, ys, rel, dd, e1, e2, e3, e4⟩ := D.dict I.hok
  have hl : es.size = xs.length := by
    rw [← Array.length_toList, e4, List.length_map, ent_len rel]
  refine sort_view hu hc I hv ⟨o, e1, e2, e3⟩ (by rw [hl]; exact D.le) ?_ (keysB_ok D h1 h2) q
  rw [e4]
  unfold keysB
  rw [List.map_map, List.map_map]
  clear e4 hl dd D h1 h2 q hv
  induction rel with
  | nil => exact .nil
  | cons h t ih =>
    refine .cons ?_ ih
    show RelV (V.ref _) (Value.ref _)
    rw [h.2.1]
    rfl
/-- sorted(d.keys()), keys ints -/
def intB (ns : List Int) : List BD := ns.map fun n => (V.int n, PyData.int n)
theorem sortB_int (ns : List Int) : sortB (intB ns) = (ns.mergeSort (fun a b => decide (a ≤ b))).map V.int := by
  unfold sortB intB
  have h := sort_maps (r := fun a b : Int => decide (a ≤ b)) (s := dataLe false (fun b : BD => b.2)) (fun n : Int => ((V.int n, PyData.int n) : BD)) (l := ns) (fun a _ b _ => by
    have e := congrFun (congrFun (dataLe_int (β := Int) id) a) b
    exact e.symm)
  rw [← h, List.map_map]
  rfl
def rSortKI : List V → Hp → VK → Prop := fun vs H Q => ∃ (p d : Addr) (kvs : List (Key × V)) (ns : List Int), vs = [.ref p] ∧ H p = some (viewO p d) ∧ Rd H d (.dK kvs) ∧ kvs.map (·.1) = ns.map Sum.inl ∧ ∀ q, H q = none → Q (.ref q) (upd H q (.lst ((ns.mergeSort (fun a b => decide (a ≤ b))).map V.int)))
theorem all_alike_int (ns : List Int) : AllAlike ((intB ns).map (·.2)) := by
  have e : (intB ns).map (·.2) = ns.map PyData.int := by
    unfold intB
    rw [List.map_map]
    rfl
  rw [e]
  exact AllAlike.of fun b b' => by simp [alike]
theorem sortable_int (ns : List Int) : Sortable ((intB ns).map (·.2)) := by
  have e : (intB ns).map (·.2) = ns.map PyData.int := by
    unfold intB
    rw [List.map_map]
    rfl
  rw [e]
  exact Sortable.others fun b => ⟨(fun z => nomatch z), fun _ z => nomatch z⟩
theorem intB_ok (ns : List Int) : BdOk H (intB ns) := ⟨fun b hb => by
  obtain ⟨n, _, rfl⟩ := List.mem_map.mp hb
  exact ⟨.num n, rp_num.mpr rfl, rfl, Nat.zero_le _⟩, all_alike_int ns, sortable_int ns⟩
theorem cr_sortKI (hu : X.A.units + 64 < cLine) (hc : X.calm = true) : CallR X (.builtin "sorted") rSortKI := by
  intro pins s σ H xs us Q I r h
  obtain ⟨p, d, kvs, ns, rfl, hv, hd, hk, q⟩ := h
  obtain rfl := Vals.ref1 r
  obtain ⟨z, hs, vs, rel, dd⟩ := dk_rd I.hok hd
  obtain ⟨es, ep, raw, hsz, ent⟩ := dd.raw
  have l1 : kvs.length = vs.length := rel.length
  have l2 : ns.length = kvs.length := by
    have e := congrArg List.length hk
    rw [List.length_map, List.length_map] at e
    exact e.symm
  refine sort_view (bs := intB ns) hu hc I hv raw (by rw [hsz, ← l1]; exact z) ?_ (intB_ok ns) fun b hb => by rw [sortB_int]; exact q b hb
  refine vals_of_at ?_ fun j x u hx hu => ?_
  · unfold intB
    simp only [List.length_map, Array.length_toList]
    omega
  · unfold intB at hx
    rw [List.map_map, List.getElem?_map] at hx
    rw [List.getElem?_map, Array.getElem?_toList] at hu
    obtain ⟨n, hn, rfl⟩ := Option.map_eq_some_iff.mp hx
    obtain ⟨en, hen, rfl⟩ := Option.map_eq_some_iff.mp hu
    obtain ⟨hj, rfl⟩ := Array.getElem?_eq_some_iff.mp hen
    have hjk : j < kvs.length := by omega
    have e1 : (kvs.map (·.1))[j]? = (ns.map Sum.inl)[j]? := by rw [hk]
    rw [List.getElem?_map, List.getElem?_map, hn, List.getElem?_eq_getElem hjk] at e1
    have e2 : kvs[j].1 = Sum.inl n := Option.some.inj e1
    obtain ⟨u, hu2, _⟩ := kv_get rel (i := j) (k := Sum.inl n) (v := kvs[j].2) (by rw [List.getElem?_eq_getElem hjk, ← e2])
    exact relV_key (k := Sum.inl n) (show keyIs _ _ = true from (ent j hj _ _ hu2).1)
/-- e.keys(), as a value -/
def IsDct (w : World) (H : Hp) (d : Addr) : Prop := (∃ kvs, Rd H d (.dK kvs)) ∨ ∃ xs ep, DN w H d xs ep
theorem IsDct.raw (I : Inv X pins σ H s) {d : Addr} (h : IsDct X.w H d) : (d == sysModules) = false ∧ ∃ es ep, s.heap.DictRaw d es ep := by
  rcases h with ⟨kvs, hd⟩ | ⟨xs, ep, D⟩
  · obtain ⟨z, hs, vs, rel, dd⟩ := dk_rd I.hok hd
    obtain ⟨es, ep, raw, _⟩ := dd.raw
    exact ⟨hs, es, ep, raw⟩
  · obtain ⟨o, es, ys, rel, dd, e1, e2, e3, e4⟩ := D.dict I.hok
    exact ⟨D.sys, es, ep, o, e1, e2, e3⟩
def tKeysV (w : World) (te : TE) : TE := fun σ H Q => te σ H fun x H1 => ∃ d, x = .ref d ∧ IsDct w H1 d ∧ ∀ p, H1 p = none → Q (.ref p) (upd H1 p (viewO p d))
theorem pe_keysv {e : Expr} {te : TE} {apos cpos : Pos} (he : PE X e te) (hbase : attributeBase e "keys" X.env (eval e X.env) = eval e X.env := by rfl) (hline : (apos.endLine == cpos.line) = true := by rfl) : PE X (.Call (.Attribute e "keys" apos) [] [] cpos) (tKeysV X.w te) := by
  refine ⟨fun pins s σ H Q I h => ?_⟩
  refine wpAny_Call_method (T := "dict") (id := "dict.keys") hbase rfl hline PySem.F.plainAttrs_dict PySem.F.slot_dict_keys PySem.F.type_dict_keys (thn (he.run pins s σ H _ I h) fun u s1 ⟨x, H1, I1, rx, d, ex, hd, q⟩ => ?_)
  subst ex
  obtain rfl : u = Value.ref d := rx
  obtain ⟨hs, es, ep, raw⟩ := IsDct.raw I1 hd
  refine ⟨raw.typeIs, ?_, ?_⟩
  · intro b hb
    cases hb
    obtain ⟨o, e1, e2, _⟩ := raw
    exact ⟨o, e1, e2.2.1⟩
  show wpAny _ _ (callWith cpos (.builtin "dict.keys") [.ref d] [] []) _ X.xe s1
  refine method_meetsIn PySem.F.slot_dict_keys PySem.F.entry_dict_keys rfl (PySem.evalArgs_none ⟨rfl, raw.typeIs, PySem.F.args_dict_keys_1 _, _, meets_dict_keys_raw d hs, ⟨es, ep, raw⟩, ?_⟩)
  exact ⟨.ref s1.heap.objs.size, _, I1.laid (t' := s1.toks) (fun b o e => Heap.get?_push_of_some _ e) (Nat.le_refl _) (viewO_ok (Heap.get?_push_size _ rfl)), rfl, q _ (I1.hok.fresh (Nat.le_refl _))⟩
end
end G6
end
section
set_option maxHeartbeats 4000000
set_option Elab.async false
set_option linter.all false
set_option maxRecDepth 100000
set_option maxHeartbeats 4000000
/-! A3: walks over dicts with nested keys, enumerate of a tuple, a, *b = t, max of a tuple, dict comprehensions -/
namespace G6
open PySem PySem.Spec PyProof.Rows L2 PySem.W

/-! ### for k in d -/
def ItN (w : World) (d : Addr) (xs : DX) (ep : Nat) : It := ⟨fun i H => DN w H d xs ep ∧ i < xs.length, fun i H x H' => H' = H ∧ ∃ y, xs[i]? = some y ∧ x = .ref y.2.1, fun i H => DN w H d xs ep ∧ xs.length ≤ i⟩
theorem walk_N {w : World} {d : Addr} {xs : DX} {ep : Nat} : Walk (ItN w d xs ep) xs.length (fun H => DN w H d xs ep) (fun i H x H' => H' = H ∧ ∃ y, xs[i]? = some y ∧ x = .ref y.2.1) :=
  ⟨fun _ _ hi q => ⟨q, hi⟩, fun _ q => ⟨q, Nat.le_refl _⟩, fun _ _ _ _ _ _ y => y⟩
theorem ent_get {xs : DX} {ys : List (NestedKey × Addr × Value)} (r : Paired EntR xs ys) {i : Nat} {x : NestedKey × Addr × V} (h : xs[i]? = some x) : ∃ y, ys[i]? = some y ∧ EntR x y := paired_get r h
theorem turn_N {P : Program} {w : World} {K : PySem.W.Frag} {tg : Expr} {d : Addr} {xs : DX} {ep : Nat} (it : Addr) : Turn P w K tg (ItN w d xs ep) [it] it (fun i h => h.IsKeyIter it d i xs.length ep) where
  mem := List.mem_singleton.mpr rfl
  obj := fun i h st b hb => by
    obtain rfl : b = it := List.mem_singleton.mp hb
    obtain ⟨oi, e, _, dd⟩ := st
    exact ⟨oi, e, fun v z => by rw [dd] at z; cases z⟩
  keep := fun i h h' st k => st.at fun oi e => k it (List.mem_singleton.mpr rfl) oi e
  item := by
    intro X hP hw hK hc i pins s σ H E I hf st hg
    subst hP hw hK
    obtain ⟨D, hi⟩ := hg
    obtain ⟨f0, f1, f2, f3, f4, f5⟩ := hf it (List.mem_singleton.mpr rfl)
    obtain ⟨o, es, ys, rel, dd, e1, e2, e3, e4⟩ := D.dict I.hok
    have hx : xs[i]? = some xs[i] := List.getElem?_eq_getElem hi
    obtain ⟨y, hy, r1, r2, _⟩ := ent_get rel hx
    have hsz : es.size = xs.length := by rw [← Array.length_toList, e4, List.length_map, ent_len rel]
    have hen : es[i]? = some (entryOfKey (nestedKind X.prog X.w) y) := by rw [← Array.getElem?_toList, e4, List.getElem?_map, hy]; rfl
    refine next_key_item st e1 e3 hsz hen fun h' st' sb => ?_
    have I1 : Inv X pins σ H { s with heap := h' } := I.turned (t' := s.toks) (fun b ob hb e => (sb.2 b hb).trans e) f0 f1 f3 f4 f5
    obtain ⟨oi, g1, g2, g3⟩ := id st'
    refine ⟨_, rfl, go_of (s := { s with heap := h' }) g1 g2 g3 (by decide) ⟨.ref xs[i].2.1, H, I1, ?_, ⟨rfl, xs[i], hx, rfl⟩, st', fun b hb => (hf b hb).1⟩⟩
    show Value.ref y.2.1 = Value.ref xs[i].2.1
    rw [r2]
  done := by
    intro X hP hw hK hc i pins s σ H E I hf st hg
    subst hP hw hK
    obtain ⟨D, hi⟩ := hg
    obtain ⟨f0, f1, f2, f3, f4, f5⟩ := hf it (List.mem_singleton.mpr rfl)
    obtain ⟨o, es, ys, rel, dd, e1, e2, e3, e4⟩ := D.dict I.hok
    have hsz : es.size = xs.length := by rw [← Array.length_toList, e4, List.length_map, ent_len rel]
    exact next_key_end (I.ok.hd hc) st e1 e3 hsz hi fun h' eb => ⟨rfl, I.turned (t' := s.toks) (fun b ob hb e => eb b ob hb e) f0 f1 f3 f4 f5⟩
  self := fun A i s Q E st h => wpAny_pyIter_keyiter st h
def iN (w : World) (td : TE) : TI := fun σ H R => td σ H fun x H1 => ∃ d xs ep, x = .ref d ∧ DN w H1 d xs ep ∧ R (ItN w d xs ep) H1
theorem pi_N {X : Cx} {tg e : Expr} {td : TE} (he : PE X e td) : PI X tg e (iN X.w td) := by
  refine ⟨fun pins s σ H R I h => ?_⟩
  refine thn (he.run pins s σ H _ I h) fun u s1 ⟨x, H1, I1, rx, d, xs, ep, ex, D, q⟩ => ?_
  subst ex
  obtain rfl : u = Value.ref d := rx
  obtain ⟨o, es, ys, rel, dd, e1, e2, e3, e4⟩ := D.dict I1.hok
  have hsz : es.size = xs.length := by rw [← Array.length_toList, e4, List.length_map, ent_len rel]
  refine iter_keys D.sys e1 e2 e3 (pi_one (tk := s1.toks) I1 _ (turn_N _) ⟨_, Heap.get?_push_size _ rfl, rfl, ?_⟩ q)
  rw [hsz] <;> rfl

/-! ### enumerate(t) -/
set_option maxHeartbeats 1000000 in
theorem meets_enumT (l : Addr) (items : Array Value) :
    Meets (Builtin.«enumerate.__new__» ⟨[.type "enumerate", .ref l], []⟩) (fun _ R s => s.heap.IsTuple l items ∧
      R (.ok (.ret (.ref (s.heap.push { cls := .type "tuple_iterator", data := .fields #[.ref l, .int 0 0] }).objs.size)))
        { s with heap := (s.heap.push { cls := .type "tuple_iterator", data := .fields #[.ref l, .int 0 0] }).push { cls := .type "enumerate", data := .fields #[.none, .bool false, .ref s.heap.objs.size, rawInt 0, .none, .none] } }) :=
  .of_wp fun prog w A R s h => by
    obtain ⟨hp, g, d, tk, os⟩ := s
    obtain ⟨hl, h⟩ := h
    have hsub := sub_enumerate
    have q1 : ∀ {A' : Around} {E : Value → Shared → Prop} {Q : Value → Shared → Prop}, Q (.ref hp.objs.size) ⟨hp.push { cls := .type "tuple_iterator", data := .fields #[.ref l, .int 0 0] }, g, d, tk, os⟩ → wpAny (model prog w) A' (pyIter (.ref l)) Q E ⟨hp, g, d, tk, os⟩ :=
      fun q => wpAny_pyIter_tuple hl q
    wp_walk using q1
    refine wpAny_stack_any fun st => wpAny_pure ?_
    split
    · rename_i c _ _ _ _ _
      cases (c == Value.type "enumerate")
      · wp_walk using q1
        exact ⟨_, rfl, h⟩
      · wp_walk using q1
        exact ⟨_, rfl, h⟩
    · wp_walk using q1
      exact ⟨_, rfl, h⟩
theorem call_enumT {prog : Program} {w : World} {A : Around} {E : Value → Shared → Prop} {s : Shared} {l : Addr} {items : Array Value} {Q : Value → Shared → Prop} (hL : s.heap.IsTuple l items)
    (h : ∀ h', IsEnum h' (s.heap.objs.size + 1) s.heap.objs.size 0 .none → h'.IsTupleIter s.heap.objs.size l 0 → h'.objs.size = s.heap.objs.size + 2 →
      (∀ b o, s.heap.get? b = some o → h'.get? b = some o) → Q (.ref (s.heap.objs.size + 1)) { s with heap := h' }) :
    wpAny (model prog w) A (call (.type "enumerate") [.ref l]) Q E s := by
  refine callType_new F.called_enumerate (by decide) (F.typeCall_enumerate_1 _) (F.newCall_enumerate_1 _) (fun obj => F.args_object_init_2 obj _) F.entry_enumerate_new (meets_enumT l items) ⟨hL, ?_⟩
  have hz : (s.heap.push { cls := .type "tuple_iterator", data := .fields #[.ref l, .int 0 0] }).objs.size = s.heap.objs.size + 1 := Heap.size_push ..
  show _ ∧ _
  rw [hz]
  have he : IsEnum ((s.heap.push { cls := .type "tuple_iterator", data := .fields #[.ref l, .int 0 0] }).push
      { cls := .type "enumerate", data := .fields #[.none, .bool false, .ref s.heap.objs.size, rawInt 0, .none, .none] }) (s.heap.objs.size + 1) s.heap.objs.size 0 .none := by
    have z := Heap.get?_push_size (s.heap.push { cls := .type "tuple_iterator", data := .fields #[.ref l, .int 0 0] })
      (o := { cls := .type "enumerate", data := .fields #[.none, .bool false, .ref s.heap.objs.size, rawInt 0, .none, .none] }) rfl
    rw [hz] at z
    exact z
  exact ⟨⟨_, he, rfl⟩, h _ he ⟨_, Heap.get?_push_of_some _ (Heap.get?_push_size _ rfl), rfl, rfl⟩ (by rw [Heap.size_push, hz]) fun b o x => Heap.get?_push_of_some _ (Heap.get?_push_of_some _ x)⟩
def IteT (K : PySem.W.Frag) (a : Addr) : It :=
  ⟨fun i H => ∃ (xs : List V) (x : V), SqT K H a xs ∧ xs[i]? = some x, fun i H v H' => ∃ T x, v = .ref T ∧ H T = none ∧ H' = upd H T (.tup [.int (i : Nat), x]) ∧ ∀ xs, SqT K H a xs → xs[i]? = some x, fun i H => ∃ xs : List V, SqT K H a xs ∧ xs.length = i⟩
theorem turn_enumT {P : Program} {w : World} {K : PySem.W.Frag} {elts : List Expr} {kk : Nat} {tpos : Pos} (a e it : Addr) :
    Turn P w K (.Tuple elts kk tpos) (IteT K a) [e, it] e (fun i h => (∃ old, IsEnum h e it ((i : Nat) : Int) old) ∧ h.IsTupleIter it a i ∧ e ≠ it ∧ a ≠ e ∧ a ≠ it) where
  mem := List.mem_cons_self
  obj := fun i h st b hb => by
    obtain ⟨⟨old, he⟩, ⟨o, ho, hc, hd⟩, _⟩ := st
    rcases List.mem_cons.mp hb with z | z
    · rw [z]
      exact ⟨_, he, fun v q => nomatch q⟩
    · rw [List.mem_singleton.mp z]
      exact ⟨o, ho, fun v q => by rw [hd] at q; cases q⟩
  keep := fun i h h' st k => let ⟨⟨old, he⟩, hi, hne⟩ := st; ⟨⟨old, k e (by simp) _ he⟩, hi.at fun o q => k it (by simp) o q, hne⟩
  item := by
    intro X hP hw hK hc i pins s σ H E I hf st hg
    subst hP hw hK
    obtain ⟨⟨old, he⟩, hit, hne, nae, nai⟩ := st
    obtain ⟨xs, x, hq, hx⟩ := hg
    obtain ⟨its, rv, p, hz⟩ := I.tuple hq
    obtain ⟨u, hu, ru⟩ := rv.get hx
    have hel : e < s.heap.objs.size := Heap.lt_size he
    have hil : it < s.heap.objs.size := by obtain ⟨_, q, _⟩ := hit; exact Heap.lt_size q
    have D := Draws.tuple (prog := X.prog) (w := X.w) (A := X.A.in1) (I.ok.hd hc) it a nai its.toArray
    have hi : i < its.toArray.size := by
      rw [List.size_toArray]
      exact (List.getElem?_eq_some_iff.mp hu).1
    refine wpAny_pyNext_enum_itemC D he ⟨hit, p⟩ hi hne (by simp [hne, Ne.symm nae]) fun u' h' tk hP ho hit' hT hsz hk => ?_
    have eu : u' = u := by
      have z : its.toArray[i]? = some u' := hP
      rw [List.getElem?_toArray, hu] at z
      exact (Option.some.inj z).symm
    subst eu
    refine ⟨_, rfl, wpAny_letOwnedTupleGo_enum (s := { s with heap := h', toks := tk + 1 }) ho fun h'' he' sb => ?_⟩
    have hT2 : h''.get? s.heap.objs.size = some { cls := .type "tuple", data := .seq #[.int i tk, u'] } := (sb.2 _ (Nat.ne_of_gt hel)).trans hT
    have new : ObjOk X.prog X.w (upd H s.heap.objs.size (.tup [.int (i : Nat), x])) h'' s.heap.objs.size (.tup [.int (i : Nat), x]) :=
      ⟨by show 2 ≤ sizeLine; decide, [.int i tk, u'], .cons ⟨_, rfl⟩ (.cons ru .nil), ⟨_, hT2, rfl, _, rfl⟩⟩
    have I1 : Inv X pins σ (upd H s.heap.objs.size (.tup [.int (i : Nat), x])) { s with heap := h'', toks := tk + 1 } :=
      I.turnedNew (ch := [e, it]) (fun b ob hb q => (sb.2 b (fun z => hb (by simp [z]))).trans (hk b ob (fun z => hb (by simp [z])) (fun z => hb (by simp [z])) q)) hf (Nat.le_refl _) new
    refine ⟨.ref s.heap.objs.size, _, I1, rfl, ⟨_, x, rfl, I.hok.fresh (Nat.le_refl _), rfl, fun ys hy => by rw [I.tuple_inj hy hq]; exact hx⟩, ⟨⟨u', ?_⟩, hit'.1.at fun o q => (sb.2 it (Ne.symm hne)).trans q, hne, nae, nai⟩, fun b hb => ?_⟩
    · have e1 : ((i + 1 : Nat) : Int) = (i : Int) + 1 := by omega
      rw [e1]
      exact he'
    · have hb' : b < s.heap.objs.size := by
        rcases List.mem_cons.mp hb with z | z
        · rw [z]
          exact hel
        · rw [List.mem_singleton.mp z]
          exact hil
      rw [upd_ne (Nat.ne_of_lt hb')]
      exact (hf b hb).1
  done := by
    intro X hP hw hK hc i pins s σ H E I hf st hg
    subst hP hw hK
    obtain ⟨⟨old, he⟩, hit, hne, nae, nai⟩ := st
    obtain ⟨xs, hq, hx⟩ := hg
    obtain ⟨its, rv, p, hz⟩ := I.tuple hq
    obtain ⟨f0, f1, f2, f3, f4, f5⟩ := hf it (by simp)
    have hl := rv.length
    have hi : i = its.toArray.size := by
      rw [List.size_toArray]
      omega
    have D := Draws.tuple (prog := X.prog) (w := X.w) (A := X.A.in1) (I.ok.hd hc) it a nai its.toArray
    exact wpAny_pyNext_enum_endD D he (by rw [← hi]; exact ⟨hit, p⟩) fun h' eb => ⟨rfl, I.turned (t' := s.toks) (fun b o hb q => eb b o hb q) f0 f1 f3 f4 f5⟩
  self := fun A i s Q E st h => let ⟨⟨_, he⟩, _⟩ := st; wpAny_pyIter_enum he h
theorem walk_enumT {K : PySem.W.Frag} {a : Addr} {xs : List V} : Walk (IteT K a) xs.length (fun H => SqT K H a xs) (YPair (fun i => some (.int (i : Nat))) (fun i => xs[i]?)) := by
  refine ⟨fun i _ hi q => ⟨xs, xs[i], q, by simp [hi]⟩, fun _ q => ⟨xs, q, rfl⟩, fun i H v H' _ q y => ?_⟩
  obtain ⟨T, x, h1, h2, h3, h4⟩ := y
  exact ⟨T, .int (i : Nat), x, h1, h2, h3, rfl, h4 xs q⟩
def iEnumT (K : PySem.W.Frag) (ta : TA) : TI := fun σ H R => ta σ H fun vs H1 => ∃ a xs, vs = [.ref a] ∧ SqT K H1 a xs ∧ R (IteT K a) H1
theorem pi_enumT {X : Cx} {e : Expr} {ta : TA} {p pos tpos : Pos} {elts : List Expr} {kk : Nat} (hg : Gl X "enumerate") (hm : X.mg "enumerate" = none) (ha : PA X [e] ta) (hs : starEach [e] X.env = [(false, eval e X.env)] := by rfl) :
    PI X (.Tuple elts kk tpos) (.Call (.Name "enumerate" p) [e] [] pos) (iEnumT X.K ta) := by
  refine ⟨fun pins s σ H R I h => ?_⟩
  refine Call_ (ld_blt I hg hm boot_enumerate (PyProof.Rows.callWith_type1 (thn (ha.run pos pins s σ H _ I h) fun us s1 ⟨vs, H1, I1, r1, q1⟩ => ?_) hs rfl))
  obtain ⟨a, xs, ex, hq, q⟩ := q1
  subst ex
  cases r1 with
  | cons r rr =>
    cases rr
    cases r
    obtain ⟨its, rv, p', hz⟩ := I1.tuple hq
    have la : a < s1.heap.objs.size := p'.lt
    refine call_enumT p' fun h' he hit hsz hk => wpAny_pyIter_enum he ?_
    have I2 : Inv X pins σ H1 { s1 with heap := h' } := I1.kept (t' := s1.toks) hk
    refine ⟨s1.heap.objs.size + 1, [s1.heap.objs.size + 1, s1.heap.objs.size], _, _, H1, rfl, I2, turn_enumT a (s1.heap.objs.size + 1) s1.heap.objs.size, ⟨⟨.none, he⟩, hit, Nat.succ_ne_self _, Nat.ne_of_lt (Nat.lt_succ_of_lt la), Nat.ne_of_lt la⟩, fun b hb => ?_, q⟩
    have hle : s1.heap.objs.size ≤ b := by
      rcases List.mem_cons.mp hb with z | z
      · rw [z]
        exact Nat.le_add_right _ _
      · rw [List.mem_singleton.mp z]
        exact Nat.le_refl _
    exact I1.fpOk hle (I1.hok.fresh hle)

/-! ### max of a tuple of ints -/
theorem readsAll_ints {h : Heap} : ∀ {ns : List Int} {us : List Value}, Vals (ns.map V.int) us → ReadsAll h us (ns.map PyData.int) []
  | [], us, r => by
    have r' : Vals [] us := r
    cases r'
    exact .nil
  | n :: ns, us, r => by
    have r' : Vals (V.int n :: ns.map V.int) us := r
    cases r' with
    | cons r1 r2 =>
      obtain ⟨t, rfl⟩ := r1
      have z := ReadsAll.cons (Reads.int (h := h) n t) (readsAll_ints (h := h) r2)
      exact z
def rMaxT (K : PySem.W.Frag) : List V → Hp → VK → Prop := fun vs H Q => ∃ (a : Addr) (n : Int) (ns : List Int), vs = [.ref a] ∧ SqT K H a ((n :: ns).map V.int) ∧ Q (.int (ns.foldl max n)) H
theorem cr_maxT {X : Cx} (hu : X.A.units + 64 < cLine) (hc : X.calm = true) : CallR X (.builtin "max") (rMaxT X.K) := by
  intro pins s σ H vs us Q I r h
  obtain ⟨a, n, ns, rfl, hs, q⟩ := h
  obtain ⟨its, rv, hl, _⟩ := I.tuple hs
  rw [Vals.ref1 r]
  have dz : ∀ l : List Int, PyData.depthAll (l.map PyData.int) = 0 := depth_ints
  refine max_tuple_data (x := .int n) (xs := ns.map PyData.int) (I.ok.hd hc) hl (by rw [List.toList_toArray]; exact readsAll_ints rv) ?_ ?_ fun i v h' tk bs hv hr hk => ?_
  · have hall : ∀ x, x ∈ (PyData.int n :: ns.map PyData.int) → ∃ i, x = PyData.int i := fun x hx => by
      rcases List.mem_cons.mp hx with e | e
      · exact ⟨n, e⟩
      · obtain ⟨i, _, e2⟩ := List.mem_map.mp e
        exact ⟨i, e2.symm⟩
    refine ⟨fun x hx y hy => ?_, fun x hx z => ?_⟩
    · obtain ⟨i, rfl⟩ := hall x hx
      obtain ⟨j, rfl⟩ := hall y hy
      simp [alike]
    · obtain ⟨i, rfl⟩ := hall x hx
      cases z
  · have z := dz (n :: ns)
    show X.A.units + 1 + PyData.depthAll ((n :: ns).map PyData.int) < cLine
    rw [z]
    omega
  · rw [maxD_ints] at hr
    cases hr with
    | int _ t => exact ⟨.int _, H, I.kept hk, ⟨_, rfl⟩, q⟩

/-! ### a, *b = t -/
/-- the first item, then a new list of the others -/
def gStar (K : PySem.W.Frag) (t : TGs) : TG := fun v σ H Q => ∃ a x xs, v = .ref a ∧ SqT K H a (x :: xs) ∧ xs.length ≤ 1000 ∧ ∀ D, H D = none → t [x, .ref D] σ (upd H D (.lst xs)) Q
theorem pg_star {X : Cx} {e1 e2 : Expr} {k : Nat} {t : TGs} {pos p2 : Pos} (hc : X.calm = true) (h : PGs X [e1, e2] t)
    (he : assignEach [e1, .Starred e2 p2] X.env = [(false, assign e1 X.env), (true, assign e2 X.env)] := by rfl) (he2 : (assignEach [e1, e2] X.env).map (·.2) = [assign e1 X.env, assign e2 X.env] := by rfl) :
    PG X (.Tuple [e1, .Starred e2 p2] k pos) (gStar X.K t) := by
  refine ⟨fun pins s σ H v u Q I r hw => ?_⟩
  obtain ⟨a, x, xs, rfl, hq, hz, hw⟩ := hw
  obtain rfl : u = Value.ref a := r
  obtain ⟨its, rv, hl, _⟩ := I.tuple hq
  cases rv with
  | @cons _ u1 _ ur r1 r2 =>
  have hlen : ur.length = xs.length := r2.length.symm
  have hlt : a ≠ s.heap.objs.size := Nat.ne_of_lt hl.lt
  rw [assign_Tuple]
  refine wpAny_bind (wpAny_standAt ?_)
  unfold unpack
  rw [he]
  refine wpAny_bind (wpAny_holding ?_)
  show wpAny _ _ (unpackItems (.ref a) 2 (some 1)) _ _ _
  unfold unpackItems
  refine wpAny_bind ?_
  unfold notIterableAtAll
  refine wpAny_bind (wpAny_specialOf hl.typeIs slot_tuple_iter.lookup (wpAny_pure ?_))
  simp only [Bool.false_eq_true, if_false]
  refine wpAny_bind (wpAny_holding (iter_tuple hl ?_))
  refine wpAny_bind (wpAny_holding (draw_tuple hlt 1 0 _ _ ⟨_, Heap.get?_push_size _ rfl, rfl, rfl⟩ (hl.push _) (by simp) fun h₁ hit₁ hs₁ => ?_))
  have hl₁ : IsTup h₁ a (u1 :: ur).toArray := (hl.push _).extBut hs₁.extBut hlt
  obtain ⟨oi, hoi, _⟩ := id hit₁
  have la := hl₁.lt
  show wpAny _ _ (if ([u1] : List Value).length < 1 then _ else _) _ _ _
  rw [if_neg (by simp)]
  refine wpAny_bind (wpAny_holding (kun_collect (s := { s with heap := h₁ }) (T := "tuple_iterator") (.inr (.inr (.inr rfl))) (Walks.tuple (A := X.A.in1) (I.ok.hd hc) s.heap.objs.size a hlt (u1 :: ur).toArray) (fun j u st => st.1.typeIs) (k := 1) (by simp) ⟨hit₁, hl₁⟩ (Heap.lt_size hoi) la (fun h₂ tk hk => ?_) (by rw [sizeLine_eq]; simp; omega)))
  show wpAny _ _ (if ur.length < 0 then _ else _) _ _ _
  rw [if_neg (by omega)]
  show wpAny _ _ (newList (ur.take (ur.length - 0)) >>= fun d => pure ([u1] ++ [d] ++ ur.drop (ur.length - 0))) _ _ _
  rw [Nat.sub_zero, List.take_length, List.drop_length]
  have ext : ∀ b o, s.heap.get? b = some o → h₂.get? b = some o := fun b o e => hk b o (Nat.ne_of_lt (Heap.lt_size e)) (hs₁.extBut b o (Nat.ne_of_lt (Heap.lt_size e)) (Heap.get?_push_of_some _ e))
  have I1 : Inv X pins σ H { s with heap := h₂, toks := tk } := I.kept ext
  refine wpAny_bind (wpAny_newList (wpAny_pure ?_) (by rw [hlen, sizeLine_eq]; omega))
  have I2 : Inv X pins σ (upd H h₂.objs.size (.lst xs)) { s with heap := h₂.push { cls := .type "list", data := .seq ur.toArray }, toks := tk } :=
    I1.laid (a := h₂.objs.size) (t' := tk) (fun b o e => Heap.get?_push_of_some _ e) (Nat.le_refl _) ⟨by rw [sizeLine_eq]; omega, ur, 0, r2, Heap.get?_push_size _ rfl⟩
  have z := h.run pins _ σ _ [x, .ref h₂.objs.size] [u1, .ref h₂.objs.size] Q I2 (.cons r1 (.cons rfl .nil)) (hw _ (I1.hok.fresh (Nat.le_refl _)))
  rw [he2] at z
  exact z
end G6
end
section
set_option maxHeartbeats 4000000
set_option Elab.async false
set_option linter.all false
set_option maxRecDepth 100000
set_option maxHeartbeats 4000000
/-! A4: {k: v for .. in ..} whose keys are nested tuples -/
namespace G6
open PySem PySem.Spec PyProof.Rows L2 PySem.W
section
variable {X : Cx}
/-- the turns of a dict comprehension; Dd the new dict -/
def DcTurns (w : World) (J : It) (g : TG) (tt : TT) (tk tv : TE) (vs : List Nat) (σ : L2.St) (Dd : Addr) (H0 : Hp) (Qd : Hp → Prop) : Prop :=
  ∃ W : Nat → Nat → Hp → Prop, (∃ m, W 0 m H0) ∧ ∀ i m H, W i m H → (J.stop i H ∧ Qd H) ∨
    (J.go i H ∧ ∃ Nx : Hp → Prop, (∀ H', Nx H' → ∃ m', m' < m ∧ W (i + 1) m' H') ∧ ∀ x H', J.yld i H x H' → g x (wipe σ vs) H' fun σ2 H2 => wipe σ2 vs = wipe σ vs ∧ tt σ2 H2 fun b H3 =>
      if b = true then tk σ2 H3 fun y H4 => tv σ2 H4 fun z H5 => NPut w H5 Dd y z Nx else Nx H3)
def tDcN (w : World) (wi : TI) (g : TG) (tt : TT) (tk tv : TE) (vs : List Nat) : TE := fun σ H Q => wi σ H fun J H1 => ∀ Dd, H1 Dd = none → DN w (upd H1 Dd (dN w Dd [] 0)) Dd [] 0 → DcTurns w J g tt tk tv vs σ Dd (upd H1 Dd (dN w Dd [] 0)) fun H2 => Q (.ref Dd) H2
theorem dcN_core {pins : List (Addr × Obj)} {s : Shared} {σ : L2.St} {H : Hp} {Q : VK} {kx vx tg iter : Expr} {ifs : List Expr} {scope : Scope} {own : List (Str × Nat)} {pos pos' : Pos} {wi : TI} {g : TG} {tt : TT} {tk tv : TE} {use : Option (Value → Sem Unit)} {Qf : Value → Shared → Prop}
    (hu : X.A.units + 80 < cLine) (hc : X.calm = true) (hN : X.N.Nodup) (I : Inv X pins σ H s) (hi : PI X tg iter wi) (ok : BlkOk X.N X.env.scope scope own)
    (hg : ∀ (t : Shared) (H : Hp) (C : Addr) (cl : List (Str × Addr)) (fp : List Addr), PG (X.blk t H scope (compEnvC scope cl C X.env) fp) tg g)
    (ht : ∀ (t : Shared) (H : Hp) (C : Addr) (cl : List (Str × Addr)) (fp : List Addr), PTs (X.blk t H scope (compEnvC scope cl C X.env) fp) ifs tt)
    (hk : ∀ (t : Shared) (H : Hp) (C : Addr) (cl : List (Str × Addr)) (fp : List Addr), PE (X.blk t H scope (compEnvC scope cl C X.env) fp) kx tk)
    (he : ∀ (t : Shared) (H : Hp) (C : Addr) (cl : List (Str × Addr)) (fp : List Addr), PE (X.blk t H scope (compEnvC scope cl C X.env) fp) vx tv) (hs : ∀ x, foldedSetIterable iter X.env x = pure x)
    (h : tDcN X.w wi g tt tk tv (own.map (·.2)) σ H Q)
    (hRR : ∀ Dd C t m H', Inv X pins σ H' t → Q (.ref Dd) H' → t.heap.Ns C m → FpOk X pins H' C → compPost (model X.prog X.w) X.A X.xe use Qf (.ref Dd) C (.ok .next) t) :
    wpAny (model X.prog X.w) X.A (comprehension (.DictComp kx vx [⟨tg, iter, ifs, 0⟩] scope pos) scope X.env pos' newDict false (eval iter X.env) use) Qf X.xe s := by
  have free' : ∀ y ∈ scope.names, y.2 = .free → ∃ c, X.env.cells.lookup y.1 = some c := fun y hy e => (ok.free y hy e).elim (fun k => I.ok.has _ (.inl k)) fun k => I.ok.has _ (.inr k)
  refine wpAny_comprehension_free (use := use) rfl hs (closure_ok free') ok.kind (fun y hy e => by rw [ok.uniq y hy, e]) (thn (hi.run pins s σ H _ I h) fun xv t1 hx => thn hx fun itv t2 h2 => ?_)
  obtain ⟨it, fp, tn, J, H2, e, I2, T, st2, f2, q⟩ := h2
  subst e
  refine wpAny_newObj_type (newEnv_comp ?_)
  generalize eD : t2.heap.objs.size = Dd
  have nD : H2 Dd = none := I2.hok.fresh (Nat.le_of_eq eD)
  have new2 := dN_new (P := X.prog) (w := X.w) (H := H2) t2.heap I2.big
  rw [eD] at new2
  obtain ⟨W, ⟨m0, w0⟩, turn⟩ := q Dd nD new2.2
  generalize es3 : ({ t2 with heap := t2.heap.push { cls := .type "dict", data := .dict #[] } } : Shared) = t3
  have I3 : Inv X pins σ (upd H2 Dd (dN X.w Dd [] 0)) t3 := by
    rw [← es3]
    exact I2.laid (t' := t2.toks) (fun b o e => Heap.get?_push_of_some _ e) (Nat.le_of_eq eD) new2.1
  have h3 : t3.heap = t2.heap.push { cls := .type "dict", data := .dict #[] } := by rw [← es3]
  have f3 : ∀ b ∈ fp, FpOk X pins (upd H2 Dd (dN X.w Dd [] 0)) b ∧ b < t3.heap.objs.size := fun b hb => by
    obtain ⟨o, eo, _⟩ := T.obj _ _ st2 b hb
    have lt := Heap.lt_size eo
    refine ⟨⟨?_, (f2 b hb).2⟩, by rw [h3, Heap.size_push]; exact Nat.lt_succ_of_lt lt⟩
    rw [upd_ne (by rw [← eD]; exact Nat.ne_of_lt lt)]
    exact (f2 b hb).1
  have st3 : tn 0 t3.heap := T.keep _ _ _ st2 fun b _ o e => by rw [h3]; exact Heap.get?_push_of_some _ e
  have I4 := block_start I3 ok hN f3
  have pg := hg t3 (upd H2 Dd (dN X.w Dd [] 0)) t3.heap.objs.size (cellsFrom (t3.heap.objs.size + 1) scope.names (cloFrom X.env.cells scope.names [])) fp
  have pt := ht t3 (upd H2 Dd (dN X.w Dd [] 0)) t3.heap.objs.size (cellsFrom (t3.heap.objs.size + 1) scope.names (cloFrom X.env.cells scope.names [])) fp
  have pk := hk t3 (upd H2 Dd (dN X.w Dd [] 0)) t3.heap.objs.size (cellsFrom (t3.heap.objs.size + 1) scope.names (cloFrom X.env.cells scope.names [])) fp
  have pe := he t3 (upd H2 Dd (dN X.w Dd [] 0)) t3.heap.objs.size (cellsFrom (t3.heap.objs.size + 1) scope.names (cloFrom X.env.cells scope.names [])) fp
  show codeAny _ _ (.compStart (.DictComp kx vx [⟨tg, iter, ifs, 0⟩] scope pos) 0 (.ref it) (.ref Dd) (compEnvC scope (cellsFrom (t3.heap.objs.size + 1) scope.names (cloFrom X.env.cells scope.names [])) t3.heap.objs.size X.env)) (compPost (model X.prog X.w) X.A X.xe use Qf (.ref Dd) t3.heap.objs.size)
    { t3 with heap := pushCells (t3.heap.push { cls := .type "dict", data := .dict #[] }) scope.names }
  have nfp : ∀ b ∈ fp, (upd H2 Dd (dN X.w Dd [] 0)) b = none := fun b hb => (f3 b hb).1.1
  generalize ece : compEnvC scope (cellsFrom (t3.heap.objs.size + 1) scope.names (cloFrom X.env.cells scope.names [])) t3.heap.objs.size X.env = ce at I4 pg pt pk pe ⊢
  have cL : ce.locals = t3.heap.objs.size := by rw [← ece]; rfl
  generalize eH3 : upd H2 Dd (dN X.w Dd [] 0) = H3 at I3 I4 pg pt pk pe w0 nfp f3
  generalize es4 : ({ t3 with heap := pushCells (t3.heap.push { cls := .type "dict", data := .dict #[] }) scope.names } : Shared) = t4 at I4 ⊢
  have st4 : tn 0 t4.heap := T.keep _ _ _ st3 fun b _ o e => by rw [← es4]; exact pushCells_keeps _ _ _ _ (Heap.get?_push_of_some _ e)
  have stat : ∀ {σ' : L2.St} {H' : Hp} {t' : Shared}, Inv (X.blk t3 H3 scope ce fp) [] σ' H' t' → (∀ b ∈ fp, H' b = none) → ∀ b ∈ fp, FpOk (X.blk t3 H3 scope ce fp) [] H' b := fun {σ' H' t'} I' hn b hb =>
    ⟨hn b hb, (I'.ok.exf b hb).1, I'.ok.exfs b hb, .inl hb, fun x c e => (I'.ok.exf b hb).2 x c e, fun p hp => absurd (show p ∈ ([] : List (Addr × Obj)) ++ [] from hp) (by simp)⟩
  have loop : codeAny (model X.prog X.w) X.A (.compLoop (.DictComp kx vx [⟨tg, iter, ifs, 0⟩] scope pos) 0 (.ref it) (.ref Dd) ce) (compPost (model X.prog X.w) X.A X.xe use Qf (.ref Dd) t3.heap.objs.size) t4 := by
    refine compLoop_anyD (fun n t => ∃ i H', Inv (X.blk t3 H3 scope ce fp) [] (wipe σ (own.map (·.2))) H' t ∧ tn i t.heap ∧ (∀ b ∈ fp, H' b = none) ∧ W i n H') ?_ m0 ⟨0, H3, I4, st4, nfp, w0⟩
    rintro n t5 ⟨i, H5, I5, st5, n5, w5⟩
    rcases turn i n H5 w5 with ⟨stop, qq⟩ | ⟨go, Nx, hNx, step⟩
    · refine thnF (T.done (X.blk t3 H3 scope ce fp) rfl rfl rfl hc i [] t5 _ H5 (fun _ _ => False) I5 (stat I5 n5) st5 stop) fun r t6 ⟨hr, I6⟩ => ?_
      subst hr
      have I7 : Inv X pins σ H5 t6 := I3.call' (ch := fp) I6.os I6.base I6.hok I6.bare fun b hb => ⟨(f3 b hb).1.2.2.2.1, (f3 b hb).1.2.1, (f3 b hb).1.2.2.2.2.1, (f3 b hb).1.2.2.2.2.2⟩
      have nC : H5 t3.heap.objs.size = none := by
        have z : H5 ce.locals = none := I6.free
        rw [cL] at z
        exact z
      obtain ⟨m, hn, _⟩ := I6.loc
      have hn : t6.heap.Ns ce.locals m := hn
      rw [cL] at hn
      exact hRR Dd t3.heap.objs.size t6 m H5 I7 qq hn (I3.fpOk (Nat.le_refl _) nC)
    · refine thnF (T.item (X.blk t3 H3 scope ce fp) rfl rfl rfl hc i [] t5 _ H5 (fun _ _ => False) I5 (stat I5 n5) st5 go) fun r t6 ⟨u, hr, h6⟩ => ?_
      subst hr
      refine thnF h6 fun _ t7 ⟨x, H7, I7, r7, y7, st7, n7⟩ => ?_
      have I7' := I7.pinned (stat I7 n7) (T.obj _ _ st7)
      refine thnF (pg.run _ t7 _ H7 x u _ I7' r7 (step x H7 y7)) fun _ t8 ⟨σ8, H8, I8, hw8, q8⟩ => ?_
      refine thnF (pt.run _ t8 σ8 H8 _ I8 q8) fun b t9 ⟨H9, I9, q9⟩ => ?_
      have fin : ∀ {t' : Shared} {H' : Hp}, Inv (X.blk t3 H3 scope ce fp) ([] ++ pinsAt fp t7.heap) σ8 H' t' → Nx H' → ∃ m, m < n ∧ ∃ i H', Inv (X.blk t3 H3 scope ce fp) [] (wipe σ (own.map (·.2))) H' t' ∧ tn i t'.heap ∧ (∀ b ∈ fp, H' b = none) ∧ W i m H' := fun {t' H'} I' nx => by
        obtain ⟨m', hm, w'⟩ := hNx H' nx
        have pin' : ∀ b ∈ fp, ∀ o, t7.heap.get? b = some o → t'.heap.get? b = some o ∧ H' b = none := fun b hb o e =>
          let z := I'.pin (b, o) (List.mem_append_right _ (List.mem_append_right _ (mem_pinsAt hb e)))
          ⟨z.1, z.2.1⟩
        have hl : (wipe σ (own.map (·.2))).length = σ8.length := by rw [← hw8, wipe_length]
        refine ⟨m', hm, i + 1, H', (I'.unpinned (pins := [])).weak hl (fun j v e => ?_), T.keep _ _ _ st7 fun b hb o e => (pin' b hb o e).1, fun b hb => ?_, w'⟩
        · rw [← hw8] at e
          exact (wipe_some e).1
        · obtain ⟨o, e, _⟩ := T.obj _ _ st7 b hb
          exact (pin' b hb o e).2
      cases b with
      | false =>
        simp only [Bool.false_eq_true, if_false] at q9 ⊢
        exact fin I9 q9
      | true =>
        simp only [if_true] at q9 ⊢
        refine thnF (pk.run _ t9 σ8 H9 _ I9 q9) fun zk t10 ⟨yk, H10, I10, r10, q10⟩ => ?_
        refine thnF (pe.run _ t10 σ8 H10 _ I10 q10) fun zv t11 ⟨yv, H11, I11, r11, np⟩ => ?_
        exact n_dictSet (X := X.blk t3 H3 scope ce fp) (by have := hu; show X.A.units + 64 < cLine; omega) I11 np r10 r11 fun H12 t12 I12 nx => fin I12 nx
  exact codeAny_compStart_dict loop (T.self X.A 0 _ _ _ st4 loop)
theorem pe_dcN {kx vx tg iter : Expr} {ifs : List Expr} {scope : Scope} {own : List (Str × Nat)} {pos : Pos} {wi : TI} {g : TG} {tt : TT} {tk tv : TE} (hu : X.A.units + 80 < cLine) (hc : X.calm = true) (hN : X.N.Nodup) (hi : PI X tg iter wi) (ok : BlkOk X.N X.env.scope scope own)
    (hg : ∀ (t : Shared) (H : Hp) (C : Addr) (cl : List (Str × Addr)) (fp : List Addr), PG (X.blk t H scope (compEnvC scope cl C X.env) fp) tg g)
    (ht : ∀ (t : Shared) (H : Hp) (C : Addr) (cl : List (Str × Addr)) (fp : List Addr), PTs (X.blk t H scope (compEnvC scope cl C X.env) fp) ifs tt)
    (hk : ∀ (t : Shared) (H : Hp) (C : Addr) (cl : List (Str × Addr)) (fp : List Addr), PE (X.blk t H scope (compEnvC scope cl C X.env) fp) kx tk)
    (he : ∀ (t : Shared) (H : Hp) (C : Addr) (cl : List (Str × Addr)) (fp : List Addr), PE (X.blk t H scope (compEnvC scope cl C X.env) fp) vx tv) (hs : ∀ x, foldedSetIterable iter X.env x = pure x := by intro _; rfl) :
    PE X (.DictComp kx vx [⟨tg, iter, ifs, 0⟩] scope pos) (tDcN X.w wi g tt tk tv (own.map (·.2))) := by
  refine ⟨fun pins s σ H Q I h => ?_⟩
  rw [arm_eval_DictComp]
  refine dcN_core hu hc hN I hi ok hg ht hk he hs h fun Dd C t m H' I' q hn f => ⟨m, hn, fun h'' sb => ?_⟩
  obtain ⟨f0, f1, f2, f3, f4, f5⟩ := f
  exact ⟨.ref Dd, H', I'.turned (t' := t.toks) (fun b o hb e => (sb.2 b hb).trans e) f0 f1 f3 f4 f5, rfl, q⟩
/-- over anything that walks -/
theorem dcN_it {w : World} {J : It} {n : Nat} {G : Hp → Prop} {Y : Nat → Hp → V → Hp → Prop} (wk : Walk J n G Y) {g : TG} {tt : TT} {tk tv : TE} {vs : List Nat} {σ : L2.St} {Dd : Addr} {H0 : Hp} {Qd : Hp → Prop} (Pv : Nat → Hp → Prop) (h0 : Pv 0 H0) (hG : ∀ i H, i ≤ n → Pv i H → G H)
    (hs : ∀ i x H H', i < n → Pv i H → Y i H x H' → g x (wipe σ vs) H' fun σ2 H2 => wipe σ2 vs = wipe σ vs ∧ tt σ2 H2 fun b H3 => if b = true then tk σ2 H3 fun y H4 => tv σ2 H4 fun z H5 => NPut w H5 Dd y z (Pv (i + 1)) else Pv (i + 1) H3) (hd : ∀ H, Pv n H → Qd H) :
    DcTurns w J g tt tk tv vs σ Dd H0 Qd := by
  refine ⟨fun i m H => m = n - i ∧ i ≤ n ∧ Pv i H, ⟨n, (Nat.sub_zero n).symm, Nat.zero_le _, h0⟩, ?_⟩
  rintro i m H ⟨rfl, hi, p⟩
  have q := hG i H hi p
  by_cases hlt : i < n
  · exact .inr ⟨wk.goes i H hlt q, Pv (i + 1), fun H' p' => ⟨n - (i + 1), by omega, rfl, hlt, p'⟩, fun x H' y => hs i x H H' hlt p (wk.yields i H x H' hlt q y)⟩
  · obtain rfl : i = n := by omega
    exact .inl ⟨wk.stops H q, hd H p⟩
/-- int keys, over anything that walks -/
theorem dcK_it {J : It} {n : Nat} {G : Hp → Prop} {Y : Nat → Hp → V → Hp → Prop} (wk : Walk J n G Y) {g : TG} {tt : TT} {tk tv : TE} {vs : List Nat} {σ : L2.St} {H1 : Hp} {Dd : Addr} {Qd : Hp → Prop} (Pv : Nat → Hp → Prop) (h0 : Pv 0 (upd H1 Dd (.dK []))) (hG : ∀ i H, i ≤ n → Pv i H → G H)
    (hs : ∀ i x H H', i < n → Pv i H → Y i H x H' → g x (wipe σ vs) H' fun σ2 H2 => wipe σ2 vs = wipe σ vs ∧ tt σ2 H2 fun b H3 =>
      if b = true then tk σ2 H3 fun y H4 => tv σ2 H4 fun z H5 => ∃ kvs k, y = kV k ∧ H5 Dd = some (.dK kvs) ∧ kvs.length < sizeLine ∧ Pv (i + 1) (upd H5 Dd (.dK (putK kvs k z))) else Pv (i + 1) H3) (hd : ∀ H, Pv n H → Qd H) :
    ∃ W : Nat → Nat → Hp → Prop, (∃ m, W 0 m (upd H1 Dd (.dK []))) ∧ ∀ i m H, W i m H →
      (J.stop i H ∧ Qd H) ∨ (J.go i H ∧ ∃ Nx : Hp → Prop, (∀ H', Nx H' → ∃ m', m' < m ∧ W (i + 1) m' H') ∧ ∀ x H', J.yld i H x H' → g x (wipe σ vs) H' fun σ2 H2 => wipe σ2 vs = wipe σ vs ∧ tt σ2 H2 fun b H3 =>
        if b = true then tk σ2 H3 fun y H4 => tv σ2 H4 fun z H5 => ∃ kvs k, y = kV k ∧ H5 Dd = some (.dK kvs) ∧ kvs.length < sizeLine ∧ Nx (upd H5 Dd (.dK (putK kvs k z))) else Nx H3) := by
  refine ⟨fun i m H => m = n - i ∧ i ≤ n ∧ Pv i H, ⟨n, (Nat.sub_zero n).symm, Nat.zero_le _, h0⟩, ?_⟩
  rintro i m H ⟨rfl, hi, p⟩
  have q := hG i H hi p
  by_cases hlt : i < n
  · exact .inr ⟨wk.goes i H hlt q, Pv (i + 1), fun H' p' => ⟨n - (i + 1), by omega, rfl, hlt, p'⟩, fun x H' y => hs i x H H' hlt p (wk.yields i H x H' hlt q y)⟩
  · obtain rfl : i = n := by omega
    exact .inl ⟨wk.stops H q, hd H p⟩
end
end G6
end
section
set_option maxHeartbeats 4000000
set_option Elab.async false
set_option linter.all false
set_option maxRecDepth 100000
/-! B1: how data stand in the heap -/
namespace G6
open PySem PySem.Spec PyProof.Rows L2 PySem.W
abbrev vN (ns : List Nat) : List V := ns.map fun n : Nat => V.int (n : Int)
theorem vN_len (ns : List Nat) : (vN ns).length = ns.length := by simp
theorem vN_get {ns : List Nat} {i n : Nat} (h : ns[i]? = some n) : (vN ns)[i]? = some (.int (n : Int)) := by
  rw [List.getElem?_map, h]; rfl
theorem vN_inv {ns : List Nat} {i : Nat} {x : V} (h : (vN ns)[i]? = some x) : ∃ n, ns[i]? = some n ∧ x = .int (n : Int) := by
  rw [List.getElem?_map] at h
  cases e : ns[i]? with
  | none => rw [e] at h; cases h
  | some n => rw [e] at h; exact ⟨n, rfl, (Option.some.inj h).symm⟩
theorem vN_at {ns : List Nat} {i n : Nat} (h : ns[i]? = some n) : atI (vN ns) (i : Int) = some (.int (n : Int)) := atI_nat (vN_get h)
theorem vN_set (ns : List Nat) (i n : Nat) : (vN ns).set i (.int (n : Int)) = vN (ns.set i n) := by simp [vN, List.map_set]
theorem vN_app (ns : List Nat) (n : Nat) : vN ns ++ [.int (n : Int)] = vN (ns ++ [n]) := by simp [vN]
theorem vN_drop (ns : List Nat) : (vN ns).dropLast = vN ns.dropLast := by simp [vN, List.map_dropLast]
theorem upd_get {H : Hp} {a b : Addr} {o : HO} : upd H a o b = if b = a then some o else H b := by
  by_cases h : b = a
  · subst h; rw [if_pos rfl, upd_same]
  · rw [if_neg h, upd_ne h]
theorem same_new {H : Hp} {p : Addr} {o : HO} (h : H p = none) : Same H (upd H p o) := fun b x e => by
  rw [upd_ne (ne_of_none e h)]; exact e
theorem same_of {H H' : Hp} {p : Addr} {o : HO} (s : Same H H') (h : H p = none) : Same H (upd H' p o) := fun b x e => by
  rw [upd_ne (ne_of_none e h)]; exact s _ _ e
/-- a new thing in a heap that grew -/
theorem new_of {H H' : Hp} {p : Addr} (s : Same H H') (h : H' p = none) : H p = none := s.free h
theorem ne_obj {H : Hp} {a b : Addr} {x y : HO} (h1 : H a = some x) (h2 : H b = some y) (n : x ≠ y) : a ≠ b := fun e => by
  subst e; rw [h1] at h2; exact n (Option.some.inj h2)
/-- a tuple of whole numbers -/
abbrev TN (H : Hp) (a : Addr) (ns : List Nat) : Prop := H a = some (.tup (vN ns))
abbrev LN (H : Hp) (a : Addr) (ns : List Nat) : Prop := H a = some (.lst (vN ns))
inductive All2 {α β : Type} (R : α → β → Prop) : List α → List β → Prop
  | nil : All2 R [] []
  | cons {a b as bs} : R a b → All2 R as bs → All2 R (a :: as) (b :: bs)
theorem All2.len {α β : Type} {R : α → β → Prop} {as : List α} {bs : List β} (h : All2 R as bs) : as.length = bs.length := by
  induction h with
  | nil => rfl
  | cons _ _ ih => rw [List.length_cons, List.length_cons, ih]
theorem All2.imp {α β : Type} {R S : α → β → Prop} {as : List α} {bs : List β} (h : All2 R as bs) (f : ∀ a b, R a b → S a b) : All2 S as bs := by
  induction h with
  | nil => exact .nil
  | cons r _ ih => exact .cons (f _ _ r) ih
theorem All2.imp' {α β : Type} {R S : α → β → Prop} {as : List α} {bs : List β} (h : All2 R as bs) : (∀ a b, a ∈ as → R a b → S a b) → All2 S as bs := by
  induction h with
  | nil => exact fun _ => .nil
  | cons r _ ih => exact fun f => .cons (f _ _ (List.mem_cons_self ..) r) (ih fun a b h => f a b (List.mem_cons_of_mem _ h))
theorem All2.get {α β : Type} {R : α → β → Prop} {as : List α} {bs : List β} (h : All2 R as bs) : ∀ {i : Nat} {b : β}, bs[i]? = some b → ∃ a, as[i]? = some a ∧ R a b := by
  induction h with
  | nil => intro i b e; simp at e
  | cons r _ ih =>
    intro i b e
    cases i with
    | zero => exact ⟨_, rfl, by cases e; exact r⟩
    | succ i => exact ih e
theorem All2.getL {α β : Type} {R : α → β → Prop} {as : List α} {bs : List β} (h : All2 R as bs) : ∀ {i : Nat} {a : α}, as[i]? = some a → ∃ b, bs[i]? = some b ∧ R a b := by
  induction h with
  | nil => intro i b e; simp at e
  | cons r _ ih =>
    intro i b e
    cases i with
    | zero => exact ⟨_, rfl, by cases e; exact r⟩
    | succ i => exact ih e
theorem All2.snoc {α β : Type} {R : α → β → Prop} {as : List α} {bs : List β} {a : α} {b : β} (h : All2 R as bs) (r : R a b) : All2 R (as ++ [a]) (bs ++ [b]) := by
  induction h with
  | nil => exact .cons r .nil
  | cons r' _ ih => exact .cons r' ih
theorem All2.of {α β : Type} {R : α → β → Prop} : ∀ {as : List α} {bs : List β}, as.length = bs.length → (∀ (i : Nat) a b, as[i]? = some a → bs[i]? = some b → R a b) → All2 R as bs
  | [], [], _, _ => .nil
  | [], _ :: _, h, _ => by cases h
  | _ :: _, [], h, _ => by cases h
  | a :: as, b :: bs, h, k => .cons (k 0 a b rfl rfl) (All2.of (Nat.succ.inj h) fun i x y e f => k (i + 1) x y e f)
abbrev refs (as : List Addr) : List V := as.map V.ref
theorem refs_get {as : List Addr} {i : Nat} {a : Addr} (h : as[i]? = some a) : (refs as)[i]? = some (.ref a) := by
  rw [List.getElem?_map, h]; rfl
theorem refs_inv {as : List Addr} {i : Nat} {x : V} (h : (refs as)[i]? = some x) : ∃ a, as[i]? = some a ∧ x = .ref a := by
  rw [List.getElem?_map] at h
  cases e : as[i]? with
  | none => rw [e] at h; cases h
  | some n => rw [e] at h; exact ⟨n, rfl, (Option.some.inj h).symm⟩
/-- couples of numbers, each a tuple -/
def CpT (H : Hp) (as : List Addr) (ps : List (Nat × Nat)) : Prop := All2 (fun a p => H a = some (.tup [.int (p.1 : Int), .int (p.2 : Int)])) as ps
theorem CpT.ext {H H' : Hp} {as : List Addr} {ps : List (Nat × Nat)} (h : CpT H as ps) (s : Same H H') : CpT H' as ps := All2.imp h fun _ _ r => s _ _ r
/-- lists of numbers, each a list of its own -/
def LL (H : Hp) (L : Addr) (ls : List (List Nat)) : Prop := ∃ as : List Addr, H L = some (.lst (refs as)) ∧ All2 (fun a l => LN H a l) as ls
theorem LL.ext {H H' : Hp} {L : Addr} {ls : List (List Nat)} (h : LL H L ls) (s : Same H H') : LL H' L ls := by
  obtain ⟨as, h1, h2⟩ := h
  exact ⟨as, s _ _ h1, h2.imp fun _ _ r => s _ _ r⟩
end G6
end
section
set_option maxHeartbeats 4000000
set_option Elab.async false
set_option linter.all false
set_option maxRecDepth 100000
/-! B2: the readings, one lemma each, so that a proof can walk -/
namespace G6
open PySem PySem.Spec PyProof.Rows L2 PySem.W
section
variable {K : PySem.W.Frag} {σ : L2.St} {H : Hp} {Q : VK} {D : Ends} {i : Nat} {v x y : V}
/-! statements -/
theorem r_seq {t u : TS} (h : t { D with nx := u D } σ H) : tSeq t u D σ H := h
theorem r_next (h : D.nx σ H) : tNext D σ H := h
theorem r_asg {te : TE} {g : TG} (h : te σ H fun x H1 => g x σ H1 D.nx) : tAsg te g D σ H := h
theorem r_drop {te : TE} (h : te σ H fun _ H1 => D.nx σ H1) : tDrop te D σ H := h
theorem r_ret {te : TE} (h : te σ H D.rt) : tRet te D σ H := h
theorem r_retN (h : D.rt .non H) : tRetN D σ H := h
theorem r_ifs {c : TT} {t u : TS} (h : c σ H fun b H1 => if b = true then t D σ H1 else u D σ H1) : tIfS c t u D σ H := h
theorem r_brk (h : D.bk σ H) : tBreak D σ H := h
theorem r_cont (h : D.ct σ H) : tCont D σ H := h
def AugK (i : Nat) (te : TE) (ti : TIp) (D : Ends) (σ : L2.St) (x : V) (H : Hp) : Prop := te σ H fun y H1 => ti x y H1 fun z H2 => D.nx (σ.set i (some z)) H2
theorem r_aug {te : TE} {ti : TIp} (h : σ[i]? = some (some x)) (k : te σ H fun y H1 => ti x y H1 fun z H2 => D.nx (σ.set i (some z)) H2) : tAug i te ti D σ H := ⟨x, h, k⟩
theorem r_ipadd {a b : Int} (h : Q (.int (a + b)) H) : ipI (fun i j => i + j) (.int a) (.int b) H Q := ⟨a, b, rfl, rfl, h⟩
/-! targets -/
theorem r_name {q : L2.St → Hp → Prop} (h : q (σ.set i (some v)) H) : gName i v σ H q := h
theorem r_gnil {q : L2.St → Hp → Prop} (h : q σ H) : gNil [] σ H q := ⟨rfl, h⟩
theorem r_gcons {t : TG} {u : TGs} {r : List V} {q : L2.St → Hp → Prop} (h : t v σ H fun σ' H' => u r σ' H' q) : gCons t u (v :: r) σ H q := ⟨v, r, rfl, h⟩
theorem r_gtup {n : Nat} {t : TGs} {a : Addr} {xs : List V} {q : L2.St → Hp → Prop} (hx : H a = some (.tup xs)) (hl : xs.length = n) (h : t xs σ H q) : gTup K n t (.ref a) σ H q := ⟨a, xs, rfl, .inl (.inl hx), hl, h⟩
theorem r_gsub {to ti : TE} {t : TSet} {q : L2.St → Hp → Prop} (h : to σ H fun o H1 => ti σ H1 fun i H2 => t o i v H2 fun H3 => q σ H3) : gSub to ti t v σ H q := h
theorem r_setL {a : Addr} {xs : List V} {k : Int} {j : Nat} {q : Hp → Prop} (hx : H a = some (.lst xs)) (hj : ixN xs.length k = some j) (h : q (upd H a (.lst (xs.set j v)))) : rSetL (.ref a) (.int k) v H q := ⟨a, xs, k, j, rfl, rfl, hx, hj, h⟩
/-! values -/
theorem r_var (h : σ[i]? = some (some v)) (k : Q v H) : tVar i σ H Q := ⟨v, h, k⟩
theorem r_c (k : Q v H) : tC v σ H Q := k
theorem r_op {r : R2} {ta tb : TE} (h : ta σ H fun x H1 => tb σ H1 fun y H2 => r x y H2 Q) : tOp r ta tb σ H Q := h
theorem r_un {r : V → Hp → VK → Prop} {ta : TE} (h : ta σ H fun x H1 => r x H1 Q) : tUn r ta σ H Q := h
theorem r_add {a b : Int} (h : Q (.int (a + b)) H) : rAdd (.int a) (.int b) H Q := ⟨a, b, rfl, rfl, h⟩
theorem r_sub {a b : Int} (h : Q (.int (a - b)) H) : rSub (.int a) (.int b) H Q := ⟨a, b, rfl, rfl, h⟩
theorem r_i {C : Int → Int → Prop} {g : Int → Int → V} {a b : Int} (c : C a b) (h : Q (g a b) H) : rI C g (.int a) (.int b) H Q := ⟨a, b, rfl, rfl, c, h⟩
theorem r_i0 {g : Int → Int → V} {a b : Int} (h : Q (g a b) H) : rI0 g (.int a) (.int b) H Q := ⟨a, b, rfl, rfl, h⟩
theorem r_u {g : Int → V} {a : Int} (h : Q (g a) H) : rU g (.int a) H Q := ⟨a, rfl, h⟩
theorem r_eq (s : scal x y = true) (h : Q (.bl (decide (x = y))) H) : rEq x y H Q := ⟨s, h⟩
theorem r_ne (s : scal x y = true) (h : Q (.bl (!decide (x = y))) H) : rNe x y H Q := ⟨s, h⟩
def FldK (K : PySem.W.Frag) (f : Str) (Q : VK) : VK := fun x H1 => ∃ a C dx fs v, x = .ref a ∧ H1 a = some (.ins C dx fs) ∧ Cls K C ∧ NoAttr K C f ∧ fs.lookup f = some v ∧ Q v H1
theorem r_fld {ta : TE} {f : Str} (h : ta σ H (FldK K f Q)) : tFld K ta f σ H Q := h
theorem r_fldk {f : Str} {a C dx : Addr} {fs : List (Str × V)} (h : H a = some (.ins C dx fs)) (c : Cls K C) (n : NoAttr K C f) (l : fs.lookup f = some v) (k : Q v H) : FldK K f Q (.ref a) H := ⟨a, C, dx, fs, v, rfl, h, c, n, l, k⟩
theorem r_nil {q : List V → Hp → Prop} (h : q [] H) : tNil σ H q := h
theorem r_cons {ta : TE} {tr : TA} {q : List V → Hp → Prop} (h : ta σ H fun x H1 => tr σ H1 fun xs H2 => q (x :: xs) H2) : tCons ta tr σ H q := h
theorem r_cb {r : List V → Hp → VK → Prop} {t : TA} (h : t σ H fun vs H1 => r vs H1 Q) : tCB r t σ H Q := h
def TupK (Q : VK) (xs : List V) (H1 : Hp) : Prop := xs.length ≤ sizeLine ∧ ∀ p, H1 p = none → Q (.ref p) (upd H1 p (.tup xs))
def LstK (Q : VK) (xs : List V) (H1 : Hp) : Prop := xs.length ≤ sizeLine ∧ ∀ p, H1 p = none → Q (.ref p) (upd H1 p (.lst xs))
theorem r_tup {t : TA} (h : t σ H (TupK Q)) : tTup t σ H Q := h
theorem r_lst {t : TA} (h : t σ H (LstK Q)) : tLst t σ H Q := h
theorem r_tupk {xs : List V} (l : xs.length ≤ sizeLine) (k : ∀ p, H p = none → Q (.ref p) (upd H p (.tup xs))) : TupK Q xs H := ⟨l, k⟩
theorem r_lstk {xs : List V} (l : xs.length ≤ sizeLine) (k : ∀ p, H p = none → Q (.ref p) (upd H p (.lst xs))) : LstK Q xs H := ⟨l, k⟩
theorem r_if {t : TT} {ta tb : TE} (h : t σ H fun c H1 => if c = true then ta σ H1 Q else tb σ H1 Q) : tIf t ta tb σ H Q := h
/-! tests -/
def BlK (q : Bool → Hp → Prop) : VK := fun x H1 => ∃ c, x = .bl c ∧ q c H1
variable {q : Bool → Hp → Prop}
theorem r_b {t : TE} (h : t σ H (BlK q)) : tB t σ H q := h
theorem r_test {t : TE} (h : t σ H (BlK q)) : tTest t σ H q := h
theorem r_blk {c : Bool} (h : q c H) : BlK q (.bl c) H := ⟨c, rfl, h⟩
theorem r_and {t u : TT} (h : t σ H fun c H1 => if c = true then u σ H1 q else q false H1) : tAnd t u σ H q := h
theorem r_or {t u : TT} (h : t σ H fun c H1 => if c = true then q true H1 else u σ H1 q) : tOr t u σ H q := h
theorem r_not {t : TT} (h : t σ H fun c H1 => q (!c) H1) : tNot t σ H q := h
theorem r_yes (h : q true H) : tYes σ H q := h
def AndK (tb : TE) (σ : L2.St) (Q : VK) : VK := fun x H1 => ∃ c, x = .bl c ∧ if c = true then tb σ H1 Q else Q (.bl false) H1
def OrK (tb : TE) (σ : L2.St) (Q : VK) : VK := fun x H1 => ∃ c, x = .bl c ∧ if c = true then Q (.bl true) H1 else tb σ H1 Q
def NotK (Q : VK) : VK := fun x H1 => ∃ c, x = .bl c ∧ Q (.bl (!c)) H1
theorem r_andV {ta tb : TE} (h : ta σ H (AndK tb σ Q)) : tAndV ta tb σ H Q := h
theorem r_orV {ta tb : TE} (h : ta σ H (OrK tb σ Q)) : tOrV ta tb σ H Q := h
theorem r_notV {ta : TE} (h : ta σ H (NotK Q)) : tNotV ta σ H Q := h
theorem r_andk {tb : TE} {c : Bool} (h : if c = true then tb σ H Q else Q (.bl false) H) : AndK tb σ Q (.bl c) H := ⟨c, rfl, h⟩
theorem r_ork {tb : TE} {c : Bool} (h : if c = true then Q (.bl true) H else tb σ H Q) : OrK tb σ Q (.bl c) H := ⟨c, rfl, h⟩
theorem r_notk {c : Bool} (h : Q (.bl (!c)) H) : NotK Q (.bl c) H := ⟨c, rfl, h⟩
def ChK (r' : R2) (tc : TE) (σ : L2.St) (y : V) (Q : VK) : VK := fun z H3 => ∃ k, z = .bl k ∧ (if k = true then tc σ H3 fun w' H4 => r' y w' H4 Q else Q (.bl false) H3)
theorem r_chain {r r' : R2} {ta tb tc : TE} (h : ta σ H fun x H1 => tb σ H1 fun y H2 => r x y H2 (ChK r' tc σ y Q)) : tChain r r' ta tb tc σ H Q := h
theorem r_chk {r' : R2} {tc : TE} {k : Bool} (h : if k = true then tc σ H fun w' H4 => r' y w' H4 Q else Q (.bl false) H) : ChK r' tc σ y Q (.bl k) H := ⟨k, rfl, h⟩
theorem r_cmp {p : Int → Int → Bool} {ta tb : TE} (h : t2I ta tb (fun i j H2 => Q (.bl (p i j)) H2) σ H) : tCmp p ta tb σ H Q := h
theorem r_isN (h : Q (.bl (decide (x = .non))) H) : (fun (x y : V) (H : Hp) (Q : VK) => y = .non ∧ Q (.bl (decide (x = .non))) H) x .non H Q := ⟨rfl, h⟩
theorem r_notN (h : Q (.bl (!decide (x = .non))) H) : (fun (x y : V) (H : Hp) (Q : VK) => y = .non ∧ Q (.bl (!decide (x = .non))) H) x .non H Q := ⟨rfl, h⟩
/-! lists and tuples -/
theorem r_ixL {a : Addr} {xs : List V} {i : Int} (hx : H a = some (.lst xs)) (hi : atI xs i = some v) (k : Q v H) : rIxL K (.ref a) (.int i) H Q := ⟨a, xs, i, v, rfl, rfl, .inl (.inl hx), hi, k⟩
theorem r_ixT {a : Addr} {xs : List V} {i : Int} (hx : H a = some (.tup xs)) (hi : atI xs i = some v) (k : Q v H) : rIxT K (.ref a) (.int i) H Q := ⟨a, xs, i, v, rfl, rfl, .inl (.inl hx), hi, k⟩
def BMK (K : PySem.W.Frag) (T : String) (r : V → List V → Hp → VK → Prop) (t : TA) (σ : L2.St) (Q : VK) : VK := fun x H1 => tyV K T x H1 ∧ t σ H1 fun xs H2 => r x xs H2 Q
theorem r_bm {T : String} {r : V → List V → Hp → VK → Prop} {to : TE} {t : TA} (h : to σ H (BMK K T r t σ Q)) : tBM K T r to t σ H Q := h
theorem r_bmL {r : V → List V → Hp → VK → Prop} {t : TA} {a : Addr} {xs : List V} (hx : H a = some (.lst xs)) (h : t σ H fun xs H2 => r (.ref a) xs H2 Q) : BMK K "list" r t σ Q (.ref a) H := ⟨.inl ⟨rfl, _, SqL.of hx⟩, h⟩
def BM0K (K : PySem.W.Frag) (T : String) (r : V → List V → Hp → VK → Prop) (Q : VK) : VK := fun x H1 => tyV K T x H1 ∧ r x [] H1 Q
theorem r_bm0 {T : String} {r : V → List V → Hp → VK → Prop} {to : TE} (h : to σ H (BM0K K T r Q)) : tBM0 K T r to σ H Q := h
theorem r_bm0L {r : V → List V → Hp → VK → Prop} {a : Addr} {xs : List V} (hx : H a = some (.lst xs)) (h : r (.ref a) [] H Q) : BM0K K "list" r Q (.ref a) H := ⟨.inl ⟨rfl, _, SqL.of hx⟩, h⟩
theorem r_append {a : Addr} {xs : List V} (hx : H a = some (.lst xs)) (hl : xs.length < sizeLine) (h : Q .non (upd H a (.lst (xs ++ [y])))) : rAppend (.ref a) [y] H Q := ⟨a, xs, y, rfl, rfl, hx, hl, h⟩
theorem r_pop {a : Addr} {xs : List V} (hx : H a = some (.lst xs)) (hl : xs[xs.length - 1]? = some y) (h : Q y (upd H a (.lst xs.dropLast))) : rPop (.ref a) [] H Q := ⟨a, xs, y, rfl, rfl, hx, hl, h⟩
theorem r_popAt {a : Addr} {xs : List V} {i : Int} {k : Nat} (hx : H a = some (.lst xs)) (h1 : -(2 ^ 63) ≤ i) (h2 : i < 2 ^ 63) (h3 : seqIndex? i xs.length = some k) (h4 : xs[k]? = some y) (h : Q y (upd H a (.lst (xs.eraseIdx k)))) : rPopAt (.ref a) [.int i] H Q := ⟨a, xs, i, k, y, rfl, rfl, hx, h1, h2, h3, h4, h⟩
def LenK (K : PySem.W.Frag) : List V → Hp → VK → Prop := fun xs H Q => ∃ p ys, xs = [.ref p] ∧ (SqL K H p ys ∨ SqT K H p ys) ∧ Q (.int ys.length) H
theorem r_lenL {a : Addr} {xs : List V} (hx : H a = some (.lst xs)) (h : Q (.int (xs.length : Int)) H) : (fun (vs : List V) (H : Hp) (Q : VK) => ∃ p ys, vs = [.ref p] ∧ (SqL K H p ys ∨ SqT K H p ys) ∧ Q (.int ys.length) H) [.ref a] H Q := ⟨a, xs, rfl, .inl (SqL.of hx), h⟩
theorem r_lenT {a : Addr} {xs : List V} (hx : H a = some (.tup xs)) (h : Q (.int (xs.length : Int)) H) : (fun (vs : List V) (H : Hp) (Q : VK) => ∃ p ys, vs = [.ref p] ∧ (SqL K H p ys ∨ SqT K H p ys) ∧ Q (.int ys.length) H) [.ref a] H Q := ⟨a, xs, rfl, .inr (SqT.of hx), h⟩
theorem r_listL {a : Addr} {xs : List V} (hx : H a = some (.lst xs)) (h : ∀ l, H l = none → Q (.ref l) (upd H l (.lst xs))) : (fun (vs : List V) (H : Hp) (Q : VK) => ∃ p ys, vs = [.ref p] ∧ (SqL K H p ys ∨ SqT K H p ys) ∧ ∀ l, H l = none → Q (.ref l) (upd H l (.lst ys))) [.ref a] H Q := ⟨a, xs, rfl, .inl (SqL.of hx), h⟩
theorem r_listT {a : Addr} {xs : List V} (hx : H a = some (.tup xs)) (h : ∀ l, H l = none → Q (.ref l) (upd H l (.lst xs))) : (fun (vs : List V) (H : Hp) (Q : VK) => ∃ p ys, vs = [.ref p] ∧ (SqL K H p ys ∨ SqT K H p ys) ∧ ∀ l, H l = none → Q (.ref l) (upd H l (.lst ys))) [.ref a] H Q := ⟨a, xs, rfl, .inr (SqT.of hx), h⟩
theorem r_tupL {a : Addr} {xs : List V} (hx : H a = some (.lst xs)) (h : ∀ l, H l = none → Q (.ref l) (upd H l (.tup xs))) : (fun (vs : List V) (H : Hp) (Q : VK) => ∃ p ys, vs = [.ref p] ∧ ((SqL K H p ys ∧ ∀ l, H l = none → Q (.ref l) (upd H l (.tup ys))) ∨ (SqT K H p ys ∧ Q (.ref p) H))) [.ref a] H Q := ⟨a, xs, rfl, .inl ⟨SqL.of hx, h⟩⟩
theorem r_tupT {a : Addr} {xs : List V} (hx : H a = some (.tup xs)) (h : Q (.ref a) H) : (fun (vs : List V) (H : Hp) (Q : VK) => ∃ p ys, vs = [.ref p] ∧ ((SqL K H p ys ∧ ∀ l, H l = none → Q (.ref l) (upd H l (.tup ys))) ∨ (SqT K H p ys ∧ Q (.ref p) H))) [.ref a] H Q := ⟨a, xs, rfl, .inr ⟨SqT.of hx, h⟩⟩
theorem r_inL {a : Addr} {xs : List V} {neg : Bool} (hx : H a = some (.lst xs)) (f : flatV x = true) (fs : xs.all flatV = true) (k : Q (.bl (if neg then !inV x xs else inV x xs)) H) : rIn K neg x (.ref a) H Q := ⟨a, xs, rfl, .inl (SqL.of hx), f, fs, k⟩
theorem r_inT {a : Addr} {xs : List V} {neg : Bool} (hx : H a = some (.tup xs)) (f : flatV x = true) (fs : xs.all flatV = true) (k : Q (.bl (if neg then !inV x xs else inV x xs)) H) : rIn K neg x (.ref a) H Q := ⟨a, xs, rfl, .inr (SqT.of hx), f, fs, k⟩
theorem r_cat {a b : Addr} {xs ys : List V} (hx : H a = some (.lst xs)) (hy : H b = some (.lst ys)) (hl : xs.length + ys.length ≤ sizeLine) (k : ∀ p, H p = none → Q (.ref p) (upd H p (.lst (xs ++ ys)))) : rCat (.ref a) (.ref b) H Q := ⟨a, b, xs, ys, rfl, rfl, hx, hy, hl, k⟩
theorem r_rep {a : Addr} {j : Int} {xs : List V} (hx : H a = some (.lst xs)) (h1 : -(2 ^ 63) ≤ j) (h2 : j < 2 ^ 63) (hl : xs.length * j.toNat ≤ sizeLine) (k : ∀ p, H p = none → Q (.ref p) (upd H p (.lst (List.replicate j.toNat xs).flatten))) : rRep (.ref a) (.int j) H Q := ⟨a, j, xs, rfl, rfl, hx, h1, h2, hl, k⟩
theorem r_any {a : Addr} {bs : List Bool} (hx : H a = some (.lst (bs.map V.bl))) (k : Q (.bl (bs.any id)) H) : rAny K [.ref a] H Q := ⟨a, bs, rfl, SqL.of hx, k⟩
theorem r_all {a : Addr} {bs : List Bool} (hx : H a = some (.lst (bs.map V.bl))) (k : Q (.bl (bs.all id)) H) : rAll K [.ref a] H Q := ⟨a, bs, rfl, SqL.of hx, k⟩
theorem r_noPart {q : Option Int → Hp → Prop} (h : q none H) : tNoPart σ H q := h
def PartK (q : Option Int → Hp → Prop) : VK := fun x H1 => ∃ i, x = .int i ∧ q (some i) H1
theorem r_part {t : TE} {q : Option Int → Hp → Prop} (h : t σ H (PartK q)) : tPart t σ H q := h
theorem r_partk {q : Option Int → Hp → Prop} {i : Int} (h : q (some i) H) : PartK q (.int i) H := ⟨i, rfl, h⟩
theorem r_sl {r : V → Option Int → Option Int → Hp → VK → Prop} {te : TE} {tl th : TO} (h : te σ H fun x H1 => tl σ H1 fun l H2 => th σ H2 fun u H3 => r x l u H3 Q) : tSl r te tl th σ H Q := h
theorem r_slL {a : Addr} {xs : List V} {lo hi : Option Int} (hx : H a = some (.lst xs)) (k : ∀ p, H p = none → Q (.ref p) (upd H p (.lst (cutV xs lo hi)))) : rSlL K (.ref a) lo hi H Q := ⟨a, xs, rfl, SqL.of hx, k⟩
def TruK (K : PySem.W.Frag) (q : Bool → Hp → Prop) : VK := fun x H' => ∃ k, TruV K x H' k ∧ q k H'
theorem r_truL {a : Addr} {xs : List V} (hx : H a = some (.lst xs)) (k : q (!xs.isEmpty) H) : TruK K q (.ref a) H := ⟨_, .inl ⟨xs, SqL.of hx, rfl⟩, k⟩
theorem r_truT {a : Addr} {xs : List V} (hx : H a = some (.tup xs)) (k : q (!xs.isEmpty) H) : TruK K q (.ref a) H := ⟨_, .inr (.inl ⟨xs, SqT.of hx, rfl⟩), k⟩
def tTru (K : PySem.W.Frag) (ta : TE) : TT := fun σ H Q => ta σ H (TruK K Q)
theorem r_tru {ta : TE} (h : ta σ H (TruK K q)) : tTru K ta σ H q := h
/-! loops -/
def ForK (g : TG) (tb : TS) (D : Ends) (σ : L2.St) (J : It) (H1 : Hp) : Prop := ∃ W : Nat → Nat → L2.St → Hp → Prop, (∃ m, W 0 m σ H1) ∧ ∀ i m σ H, W i m σ H →
  (J.stop i H ∧ D.nx σ H) ∨ (J.go i H ∧ ∃ N : L2.St → Hp → Prop, (∀ σ' H', N σ' H' → ∃ m', m' < m ∧ W (i + 1) m' σ' H') ∧ ∀ x H', J.yld i H x H' → g x σ H' fun σ2 H2 => tb { D with nx := N, ct := N, bk := D.nx } σ2 H2)
theorem r_for {wi : TI} {g : TG} {tb : TS} (h : wi σ H (ForK g tb D σ)) : tFor wi g tb D σ H := h
def ITupK (K : PySem.W.Frag) (R : It → Hp → Prop) : VK := fun x H1 => ∃ a, x = .ref a ∧ (∃ xs, SqT K H1 a xs) ∧ R (Itt K a) H1
def ILstK (K : PySem.W.Frag) (R : It → Hp → Prop) : VK := fun x H1 => ∃ a, x = .ref a ∧ (∃ xs, SqL K H1 a xs) ∧ R (Itl K a) H1
variable {R : It → Hp → Prop}
theorem r_itup {tl : TE} (h : tl σ H (ITupK K R)) : iTup K tl σ H R := h
theorem r_ilst {tl : TE} (h : tl σ H (ILstK K R)) : iList K tl σ H R := h
theorem r_itupk {a : Addr} {xs : List V} (hx : H a = some (.tup xs)) (h : R (Itt K a) H) : ITupK K R (.ref a) H := ⟨a, rfl, ⟨xs, SqT.of hx⟩, h⟩
theorem r_ilstk {a : Addr} {xs : List V} (hx : H a = some (.lst xs)) (h : R (Itl K a) H) : ILstK K R (.ref a) H := ⟨a, rfl, ⟨xs, SqL.of hx⟩, h⟩
def IR1K (R : It → Hp → Prop) (vs : List V) (H1 : Hp) : Prop := ∃ j : Int, vs = [.int j] ∧ -(2 ^ 62) ≤ j ∧ j < 2 ^ 62 ∧ R (Itr 0 j.toNat) H1
theorem r_irng1 {ta : TA} (h : ta σ H (IR1K R)) : iRng1 ta σ H R := h
theorem r_ir1k {j : Int} (h1 : -(2 ^ 62) ≤ j) (h2 : j < 2 ^ 62) (h : R (Itr 0 j.toNat) H) : IR1K R [.int j] H := ⟨j, rfl, h1, h2, h⟩
def LcK (g : TG) (tt : TT) (te : TE) (vs : List Nat) (σ : L2.St) (Q : VK) (J : It) (H1 : Hp) : Prop := ∀ D, H1 D = none → ∃ W : Nat → Nat → Hp → Prop, (∃ m, W 0 m (upd H1 D (.lst []))) ∧ ∀ i m H, W i m H →
  (J.stop i H ∧ Q (.ref D) H) ∨ (J.go i H ∧ ∃ Nx : Hp → Prop, (∀ H', Nx H' → ∃ m', m' < m ∧ W (i + 1) m' H') ∧ ∀ x H', J.yld i H x H' → g x (wipe σ vs) H' fun σ2 H2 => wipe σ2 vs = wipe σ vs ∧ tt σ2 H2 fun b H3 =>
    if b = true then te σ2 H3 fun y H4 => ∃ acc, H4 D = some (.lst acc) ∧ acc.length < sizeLine ∧ Nx (upd H4 D (.lst (acc ++ [y]))) else Nx H3)
theorem r_lc {wi : TI} {g : TG} {tt : TT} {te : TE} {vs : List Nat} (h : wi σ H (LcK g tt te vs σ Q)) : tLc wi g tt te vs σ H Q := h
/-! calls -/
theorem r_call {sp : Sp} {dvs : List V} {E : XK} {t : TA} (h : t σ H fun vs H1 => sp (vs ++ dvs) H1 Q E) : tCall sp dvs E t σ H Q := h
def MethK (m : Str) (sp : Sp) (dvs : List V) (E : XK) (t : TA) (σ : L2.St) (Q : VK) : VK := fun x H1 => ∃ a dx fs C, x = .ref a ∧ H1 a = some (.ins C dx fs) ∧ fs.lookup m = none ∧ t σ H1 fun vs H2 => sp (x :: (vs ++ dvs)) H2 Q E
theorem r_make {C : Addr} {sp : Sp} {dvs : List V} {E : XK} {t : TA} (h : t σ H fun vs H1 => ∀ x dx, H1 x = none → H1 dx = none → dx ≠ x →
  sp (.ref x :: (vs ++ dvs)) (upd (upd H1 dx (.own x)) x (.ins C dx [])) (fun v H2 => v = .non ∧ Q (.ref x) H2) E) : tMake C sp dvs E t σ H Q := h
end
end G6
end
section
set_option maxHeartbeats 4000000
set_option Elab.async false
set_option linter.all false
set_option maxRecDepth 100000
/-! B3: readings of dicts, fields, methods (printed by gen_b3.py) -/
namespace G6
open PySem PySem.Spec PyProof.Rows L2 PySem.W
section
variable {K : PySem.W.Frag} {σ : L2.St} {H : Hp} {Q : VK} {D : Ends} {i : Nat} {v x y : V} {q : Bool → Hp → Prop}
theorem pt_tru {X : Cx} {a : Expr} {ta : TE} (ha : PE X a ta) (he : ∀ whole, isTrue a X.env whole = (do let v ← whole; standAt a.pos; holding [v] (truthy v))) : PT X a (tTru X.K ta) := pt_truth ha he
theorem r_truD {a : Addr} {xs : List (Key × V)} (hx : H a = some (.dK xs)) (k : q (!xs.isEmpty) H) : TruK K q (.ref a) H := ⟨_, .inr (.inr ⟨xs, hx, rfl⟩), k⟩
/-! dicts with whole numbers as keys -/
def DGetK (Q : VK) (x y : V) (H2 : Hp) : Prop := ∃ a v, x = .ref a ∧ DGet H2 a y (some v) ∧ Q v H2
theorem r_dget {td ty : TE} (h : td σ H fun x H1 => ty σ H1 fun y H2 => DGetK Q x y H2) : tDGet td ty σ H Q := h
theorem r_dgetk {a : Addr} {kvs : List (Key × V)} {n : Int} (hx : H a = some (.dK kvs)) (e : valV kvs (Sum.inl n) = some v) (k : Q v H) : DGetK Q (.ref a) (.int n) H := ⟨a, v, rfl, e ▸ DGet.k (k := Sum.inl n) hx, k⟩
def DInK (neg : Bool) (Q : VK) (y x : V) (H2 : Hp) : Prop := ∃ a o, x = .ref a ∧ DGet H2 a y o ∧ Q (.bl (if neg = true then !o.isSome else o.isSome)) H2
theorem r_din {ty td : TE} (h : ty σ H fun y H1 => td σ H1 fun x H2 => DInK false Q y x H2) : tDIn ty td σ H Q := h
theorem r_dnin {ty td : TE} (h : ty σ H fun y H1 => td σ H1 fun x H2 => DInK true Q y x H2) : tDNotIn ty td σ H Q := h
theorem r_dink {neg : Bool} {a : Addr} {kvs : List (Key × V)} {n : Int} (hx : H a = some (.dK kvs)) (k : Q (.bl (if neg = true then !(valV kvs (Sum.inl n)).isSome else (valV kvs (Sum.inl n)).isSome)) H) : DInK neg Q (.int n) (.ref a) H := ⟨a, _, rfl, DGet.k (k := Sum.inl n) hx, k⟩
def DPutK (D : Ends) (σ : L2.St) (v x y : V) (H3 : Hp) : Prop := ∃ a H4, x = .ref a ∧ DPut H3 a y v H4 ∧ D.nx σ H4
theorem r_dput {td ty tv : TE} (h : tv σ H fun v H1 => td σ H1 fun x H2 => ty σ H2 fun y H3 => DPutK D σ v x y H3) : sDPut td ty tv D σ H := h
theorem r_dputk {a : Addr} {kvs : List (Key × V)} {n : Int} (hx : H a = some (.dK kvs)) (l : kvs.length < sizeLine) (k : D.nx σ (upd H a (.dK (putK kvs (Sum.inl n) v)))) : DPutK D σ v (.ref a) (.int n) H := ⟨a, _, rfl, DPut.k (k := Sum.inl n) hx l, k⟩
theorem r_lenD {a : Addr} {kvs : List (Key × V)} (hx : H a = some (.dK kvs)) (h : Q (.int (kvs.length : Int)) H) : (fun (vs : List V) (H : Hp) (Q : VK) => ∃ a kvs, vs = [V.ref a] ∧ H a = some (.dK kvs) ∧ Q (.int kvs.length) H) [.ref a] H Q := ⟨a, kvs, rfl, hx, h⟩
/-! dicts with nested keys -/
theorem r_inN {w : World} {a : Addr} {xs : DX} {ep : Nat} {ks : List NestedKey} (d : DN w H a xs ep) (hk : Rp H (.tup ks) y) (dp : (NestedKey.tup ks).depth ≤ 8) (k : Q (.bl (valV (kvx xs) (.tup ks)).isSome) H) : rInN w y (.ref a) H Q := ⟨a, _, rfl, ⟨xs, ep, ks, d, hk, dp, rfl⟩, k⟩
theorem r_ninN {w : World} {a : Addr} {xs : DX} {ep : Nat} {ks : List NestedKey} (d : DN w H a xs ep) (hk : Rp H (.tup ks) y) (dp : (NestedKey.tup ks).depth ≤ 8) (k : Q (.bl (!(valV (kvx xs) (.tup ks)).isSome)) H) : rNotInN w y (.ref a) H Q := ⟨a, _, rfl, ⟨xs, ep, ks, d, hk, dp, rfl⟩, k⟩
/-! fields -/
def SFldK (K : PySem.W.Frag) (f : Str) (D : Ends) (σ : L2.St) (y x : V) (H2 : Hp) : Prop := ∃ a C dx fs, x = .ref a ∧ H2 a = some (.ins C dx fs) ∧ Cls K C ∧ NoAttr K C f ∧ fs.length < 1000 ∧ D.nx σ (upd H2 a (.ins C dx (putF f y fs)))
theorem r_sfld {ta tv : TE} {f : Str} (h : tv σ H fun y H1 => ta σ H1 fun x H2 => SFldK K f D σ y x H2) : sFld K ta tv f D σ H := h
theorem r_sfldk {f : Str} {a C dx : Addr} {fs fs' : List (Str × V)} (h : H a = some (.ins C dx fs)) (c : Cls K C) (n : NoAttr K C f) (l : fs.length < 1000) (e : putF f y fs = fs') (k : D.nx σ (upd H a (.ins C dx fs'))) : SFldK K f D σ y (.ref a) H := ⟨a, C, dx, fs, rfl, h, c, n, l, e ▸ k⟩
def MeK (m : Str) (sp : Sp) (dvs : List V) (E : XK) (t : TA) (σ : L2.St) (Q : VK) : VK := fun x H1 => ∃ a dx fs, x = .ref a ∧ H1 a = some (.ins (0 : Nat) dx fs) ∧ fs.lookup m = none ∧ t σ H1 fun vs H2 => sp (x :: (vs ++ dvs)) H2 Q E
theorem r_meth {C : Addr} {m : Str} {sp : Sp} {dvs : List V} {E : XK} {ta : TE} {t : TA} (h : ta σ H fun x H1 => ∃ a dx fs, x = .ref a ∧ H1 a = some (.ins C dx fs) ∧ fs.lookup m = none ∧ t σ H1 fun vs H2 => sp (x :: (vs ++ dvs)) H2 Q E) : tMeth C m sp dvs E ta t σ H Q := h
theorem r_methk {C : Addr} {m : Str} {sp : Sp} {dvs : List V} {E : XK} {t : TA} {a dx : Addr} {fs : List (Str × V)} (h : H a = some (.ins C dx fs)) (l : fs.lookup m = none) (k : t σ H fun vs H2 => sp (V.ref a :: (vs ++ dvs)) H2 Q E) : ∃ a' dx fs, (V.ref a : V) = .ref a' ∧ H a' = some (.ins C dx fs) ∧ fs.lookup m = none ∧ t σ H fun vs H2 => sp (V.ref a :: (vs ++ dvs)) H2 Q E := ⟨a, dx, fs, rfl, h, l, k⟩
variable {mg : Str → Option Value}
def f_Picture (v0 v1 v2 : V) : List (Str × V) := [("colours", v0), ("ties", v1), ("marks", v2)]
theorem rd_Picture_colours (T : TX K mg) {a dx : Addr} {v0 v1 v2 : V} (h : H a = some (.ins (He.ga K "Picture") dx (f_Picture v0 v1 v2))) (k : Q v0 H) : FldK K "colours" Q (.ref a) H := r_fldk h T.k_Picture T.n_Picture_colours rfl k
theorem st_Picture_colours (T : TX K mg) {a dx : Addr} {v0 : V} (h : H a = some (.ins (He.ga K "Picture") dx [])) (k : D.nx σ (upd H a (.ins (He.ga K "Picture") dx [("colours", v0)]))) : SFldK K "colours" D σ v0 (.ref a) H := r_sfldk h T.k_Picture T.n_Picture_colours (by show 0 < 1000; decide) rfl k
theorem rd_Picture_ties (T : TX K mg) {a dx : Addr} {v0 v1 v2 : V} (h : H a = some (.ins (He.ga K "Picture") dx (f_Picture v0 v1 v2))) (k : Q v1 H) : FldK K "ties" Q (.ref a) H := r_fldk h T.k_Picture T.n_Picture_ties rfl k
theorem st_Picture_ties (T : TX K mg) {a dx : Addr} {v0 v1 : V} (h : H a = some (.ins (He.ga K "Picture") dx [("colours", v0)])) (k : D.nx σ (upd H a (.ins (He.ga K "Picture") dx [("colours", v0), ("ties", v1)]))) : SFldK K "ties" D σ v1 (.ref a) H := r_sfldk h T.k_Picture T.n_Picture_ties (by show 1 < 1000; decide) rfl k
theorem rd_Picture_marks (T : TX K mg) {a dx : Addr} {v0 v1 v2 : V} (h : H a = some (.ins (He.ga K "Picture") dx (f_Picture v0 v1 v2))) (k : Q v2 H) : FldK K "marks" Q (.ref a) H := r_fldk h T.k_Picture T.n_Picture_marks rfl k
theorem st_Picture_marks (T : TX K mg) {a dx : Addr} {v0 v1 v2 : V} (h : H a = some (.ins (He.ga K "Picture") dx [("colours", v0), ("ties", v1)])) (k : D.nx σ (upd H a (.ins (He.ga K "Picture") dx (f_Picture v0 v1 v2)))) : SFldK K "marks" D σ v2 (.ref a) H := r_sfldk h T.k_Picture T.n_Picture_marks (by show 2 < 1000; decide) rfl k
def f_Folding (v0 v1 v2 v3 : V) : List (Str × V) := [("numbers", v0), ("near", v1), ("homes", v2), ("hues", v3)]
theorem rd_Folding_numbers (T : TX K mg) {a dx : Addr} {v0 v1 v2 v3 : V} (h : H a = some (.ins (He.ga K "Folding") dx (f_Folding v0 v1 v2 v3))) (k : Q v0 H) : FldK K "numbers" Q (.ref a) H := r_fldk h T.k_Folding T.n_Folding_numbers rfl k
theorem st_Folding_numbers (T : TX K mg) {a dx : Addr} {v0 : V} (h : H a = some (.ins (He.ga K "Folding") dx [])) (k : D.nx σ (upd H a (.ins (He.ga K "Folding") dx [("numbers", v0)]))) : SFldK K "numbers" D σ v0 (.ref a) H := r_sfldk h T.k_Folding T.n_Folding_numbers (by show 0 < 1000; decide) rfl k
theorem rd_Folding_near (T : TX K mg) {a dx : Addr} {v0 v1 v2 v3 : V} (h : H a = some (.ins (He.ga K "Folding") dx (f_Folding v0 v1 v2 v3))) (k : Q v1 H) : FldK K "near" Q (.ref a) H := r_fldk h T.k_Folding T.n_Folding_near rfl k
theorem st_Folding_near (T : TX K mg) {a dx : Addr} {v0 v1 : V} (h : H a = some (.ins (He.ga K "Folding") dx [("numbers", v0)])) (k : D.nx σ (upd H a (.ins (He.ga K "Folding") dx [("numbers", v0), ("near", v1)]))) : SFldK K "near" D σ v1 (.ref a) H := r_sfldk h T.k_Folding T.n_Folding_near (by show 1 < 1000; decide) rfl k
theorem rd_Folding_homes (T : TX K mg) {a dx : Addr} {v0 v1 v2 v3 : V} (h : H a = some (.ins (He.ga K "Folding") dx (f_Folding v0 v1 v2 v3))) (k : Q v2 H) : FldK K "homes" Q (.ref a) H := r_fldk h T.k_Folding T.n_Folding_homes rfl k
theorem st_Folding_homes (T : TX K mg) {a dx : Addr} {v0 v1 v2 : V} (h : H a = some (.ins (He.ga K "Folding") dx [("numbers", v0), ("near", v1)])) (k : D.nx σ (upd H a (.ins (He.ga K "Folding") dx [("numbers", v0), ("near", v1), ("homes", v2)]))) : SFldK K "homes" D σ v2 (.ref a) H := r_sfldk h T.k_Folding T.n_Folding_homes (by show 2 < 1000; decide) rfl k
theorem rd_Folding_hues (T : TX K mg) {a dx : Addr} {v0 v1 v2 v3 : V} (h : H a = some (.ins (He.ga K "Folding") dx (f_Folding v0 v1 v2 v3))) (k : Q v3 H) : FldK K "hues" Q (.ref a) H := r_fldk h T.k_Folding T.n_Folding_hues rfl k
theorem st_Folding_hues (T : TX K mg) {a dx : Addr} {v0 v1 v2 v3 : V} (h : H a = some (.ins (He.ga K "Folding") dx [("numbers", v0), ("near", v1), ("homes", v2)])) (k : D.nx σ (upd H a (.ins (He.ga K "Folding") dx (f_Folding v0 v1 v2 v3)))) : SFldK K "hues" D σ v3 (.ref a) H := r_sfldk h T.k_Folding T.n_Folding_hues (by show 3 < 1000; decide) rfl k
def f_Contest (v0 v1 v2 v3 v4 v5 v6 : V) : List (Str × V) := [("due", v0), ("folding", v1), ("pours", v2), ("start", v3), ("ended", v4), ("graph", v5), ("found", v6)]
theorem rd_Contest_due (T : TX K mg) {a dx : Addr} {v0 v1 v2 v3 v4 v5 v6 : V} (h : H a = some (.ins (He.ga K "Contest") dx (f_Contest v0 v1 v2 v3 v4 v5 v6))) (k : Q v0 H) : FldK K "due" Q (.ref a) H := r_fldk h T.k_Contest T.n_Contest_due rfl k
theorem st_Contest_due (T : TX K mg) {a dx : Addr} {v0 : V} (h : H a = some (.ins (He.ga K "Contest") dx [])) (k : D.nx σ (upd H a (.ins (He.ga K "Contest") dx [("due", v0)]))) : SFldK K "due" D σ v0 (.ref a) H := r_sfldk h T.k_Contest T.n_Contest_due (by show 0 < 1000; decide) rfl k
theorem rd_Contest_folding (T : TX K mg) {a dx : Addr} {v0 v1 v2 v3 v4 v5 v6 : V} (h : H a = some (.ins (He.ga K "Contest") dx (f_Contest v0 v1 v2 v3 v4 v5 v6))) (k : Q v1 H) : FldK K "folding" Q (.ref a) H := r_fldk h T.k_Contest T.n_Contest_folding rfl k
theorem st_Contest_folding (T : TX K mg) {a dx : Addr} {v0 v1 : V} (h : H a = some (.ins (He.ga K "Contest") dx [("due", v0)])) (k : D.nx σ (upd H a (.ins (He.ga K "Contest") dx [("due", v0), ("folding", v1)]))) : SFldK K "folding" D σ v1 (.ref a) H := r_sfldk h T.k_Contest T.n_Contest_folding (by show 1 < 1000; decide) rfl k
theorem rd_Contest_pours (T : TX K mg) {a dx : Addr} {v0 v1 v2 v3 v4 v5 v6 : V} (h : H a = some (.ins (He.ga K "Contest") dx (f_Contest v0 v1 v2 v3 v4 v5 v6))) (k : Q v2 H) : FldK K "pours" Q (.ref a) H := r_fldk h T.k_Contest T.n_Contest_pours rfl k
theorem st_Contest_pours (T : TX K mg) {a dx : Addr} {v0 v1 v2 : V} (h : H a = some (.ins (He.ga K "Contest") dx [("due", v0), ("folding", v1)])) (k : D.nx σ (upd H a (.ins (He.ga K "Contest") dx [("due", v0), ("folding", v1), ("pours", v2)]))) : SFldK K "pours" D σ v2 (.ref a) H := r_sfldk h T.k_Contest T.n_Contest_pours (by show 2 < 1000; decide) rfl k
theorem rd_Contest_start (T : TX K mg) {a dx : Addr} {v0 v1 v2 v3 v4 v5 v6 : V} (h : H a = some (.ins (He.ga K "Contest") dx (f_Contest v0 v1 v2 v3 v4 v5 v6))) (k : Q v3 H) : FldK K "start" Q (.ref a) H := r_fldk h T.k_Contest T.n_Contest_start rfl k
theorem st_Contest_start (T : TX K mg) {a dx : Addr} {v0 v1 v2 v3 : V} (h : H a = some (.ins (He.ga K "Contest") dx [("due", v0), ("folding", v1), ("pours", v2)])) (k : D.nx σ (upd H a (.ins (He.ga K "Contest") dx [("due", v0), ("folding", v1), ("pours", v2), ("start", v3)]))) : SFldK K "start" D σ v3 (.ref a) H := r_sfldk h T.k_Contest T.n_Contest_start (by show 3 < 1000; decide) rfl k
theorem rd_Contest_ended (T : TX K mg) {a dx : Addr} {v0 v1 v2 v3 v4 v5 v6 : V} (h : H a = some (.ins (He.ga K "Contest") dx (f_Contest v0 v1 v2 v3 v4 v5 v6))) (k : Q v4 H) : FldK K "ended" Q (.ref a) H := r_fldk h T.k_Contest T.n_Contest_ended rfl k
theorem st_Contest_ended (T : TX K mg) {a dx : Addr} {v0 v1 v2 v3 v4 : V} (h : H a = some (.ins (He.ga K "Contest") dx [("due", v0), ("folding", v1), ("pours", v2), ("start", v3)])) (k : D.nx σ (upd H a (.ins (He.ga K "Contest") dx [("due", v0), ("folding", v1), ("pours", v2), ("start", v3), ("ended", v4)]))) : SFldK K "ended" D σ v4 (.ref a) H := r_sfldk h T.k_Contest T.n_Contest_ended (by show 4 < 1000; decide) rfl k
theorem rd_Contest_graph (T : TX K mg) {a dx : Addr} {v0 v1 v2 v3 v4 v5 v6 : V} (h : H a = some (.ins (He.ga K "Contest") dx (f_Contest v0 v1 v2 v3 v4 v5 v6))) (k : Q v5 H) : FldK K "graph" Q (.ref a) H := r_fldk h T.k_Contest T.n_Contest_graph rfl k
theorem st_Contest_graph (T : TX K mg) {a dx : Addr} {v0 v1 v2 v3 v4 v5 : V} (h : H a = some (.ins (He.ga K "Contest") dx [("due", v0), ("folding", v1), ("pours", v2), ("start", v3), ("ended", v4)])) (k : D.nx σ (upd H a (.ins (He.ga K "Contest") dx [("due", v0), ("folding", v1), ("pours", v2), ("start", v3), ("ended", v4), ("graph", v5)]))) : SFldK K "graph" D σ v5 (.ref a) H := r_sfldk h T.k_Contest T.n_Contest_graph (by show 5 < 1000; decide) rfl k
theorem rd_Contest_found (T : TX K mg) {a dx : Addr} {v0 v1 v2 v3 v4 v5 v6 : V} (h : H a = some (.ins (He.ga K "Contest") dx (f_Contest v0 v1 v2 v3 v4 v5 v6))) (k : Q v6 H) : FldK K "found" Q (.ref a) H := r_fldk h T.k_Contest T.n_Contest_found rfl k
theorem st_Contest_found (T : TX K mg) {a dx : Addr} {v0 v1 v2 v3 v4 v5 v6 : V} (h : H a = some (.ins (He.ga K "Contest") dx [("due", v0), ("folding", v1), ("pours", v2), ("start", v3), ("ended", v4), ("graph", v5)])) (k : D.nx σ (upd H a (.ins (He.ga K "Contest") dx (f_Contest v0 v1 v2 v3 v4 v5 v6)))) : SFldK K "found" D σ v6 (.ref a) H := r_sfldk h T.k_Contest T.n_Contest_found (by show 6 < 1000; decide) rfl k
def f_Forced (v0 v1 : V) : List (Str × V) := [("rank", v0), ("book", v1)]
theorem rd_Forced_rank (T : TX K mg) {a dx : Addr} {v0 v1 : V} (h : H a = some (.ins (He.ga K "Forced") dx (f_Forced v0 v1))) (k : Q v0 H) : FldK K "rank" Q (.ref a) H := r_fldk h T.k_Forced T.n_Forced_rank rfl k
theorem st_Forced_rank (T : TX K mg) {a dx : Addr} {v0 : V} (h : H a = some (.ins (He.ga K "Forced") dx [])) (k : D.nx σ (upd H a (.ins (He.ga K "Forced") dx [("rank", v0)]))) : SFldK K "rank" D σ v0 (.ref a) H := r_sfldk h T.k_Forced T.n_Forced_rank (by show 0 < 1000; decide) rfl k
theorem rd_Forced_book (T : TX K mg) {a dx : Addr} {v0 v1 : V} (h : H a = some (.ins (He.ga K "Forced") dx (f_Forced v0 v1))) (k : Q v1 H) : FldK K "book" Q (.ref a) H := r_fldk h T.k_Forced T.n_Forced_book rfl k
theorem st_Forced_book (T : TX K mg) {a dx : Addr} {v0 v1 : V} (h : H a = some (.ins (He.ga K "Forced") dx [("rank", v0)])) (k : D.nx σ (upd H a (.ins (He.ga K "Forced") dx (f_Forced v0 v1)))) : SFldK K "book" D σ v1 (.ref a) H := r_sfldk h T.k_Forced T.n_Forced_book (by show 1 < 1000; decide) rfl k
def f_Kept (v0 : V) : List (Str × V) := [("book", v0)]
theorem rd_Kept_book (T : TX K mg) {a dx : Addr} {v0 : V} (h : H a = some (.ins (He.ga K "Kept") dx (f_Kept v0))) (k : Q v0 H) : FldK K "book" Q (.ref a) H := r_fldk h T.k_Kept T.n_Kept_book rfl k
theorem st_Kept_book (T : TX K mg) {a dx : Addr} {v0 : V} (h : H a = some (.ins (He.ga K "Kept") dx [])) (k : D.nx σ (upd H a (.ins (He.ga K "Kept") dx (f_Kept v0)))) : SFldK K "book" D σ v0 (.ref a) H := r_sfldk h T.k_Kept T.n_Kept_book (by show 0 < 1000; decide) rfl k
def f_Book (v0 : V) : List (Str × V) := [("rows", v0)]
theorem rd_Book_rows (T : TX K mg) {a dx : Addr} {v0 : V} (h : H a = some (.ins (He.ga K "Book") dx (f_Book v0))) (k : Q v0 H) : FldK K "rows" Q (.ref a) H := r_fldk h T.k_Book T.n_Book_rows rfl k
theorem st_Book_rows (T : TX K mg) {a dx : Addr} {v0 : V} (h : H a = some (.ins (He.ga K "Book") dx [])) (k : D.nx σ (upd H a (.ins (He.ga K "Book") dx (f_Book v0)))) : SFldK K "rows" D σ v0 (.ref a) H := r_sfldk h T.k_Book T.n_Book_rows (by show 0 < 1000; decide) rfl k
def f_Fewest (v0 v1 : V) : List (Str × V) := [("number", v0), ("script", v1)]
theorem rd_Fewest_number (T : TX K mg) {a dx : Addr} {v0 v1 : V} (h : H a = some (.ins (He.ga K "Fewest") dx (f_Fewest v0 v1))) (k : Q v0 H) : FldK K "number" Q (.ref a) H := r_fldk h T.k_Fewest T.n_Fewest_number rfl k
theorem st_Fewest_number (T : TX K mg) {a dx : Addr} {v0 : V} (h : H a = some (.ins (He.ga K "Fewest") dx [])) (k : D.nx σ (upd H a (.ins (He.ga K "Fewest") dx [("number", v0)]))) : SFldK K "number" D σ v0 (.ref a) H := r_sfldk h T.k_Fewest T.n_Fewest_number (by show 0 < 1000; decide) rfl k
theorem rd_Fewest_script (T : TX K mg) {a dx : Addr} {v0 v1 : V} (h : H a = some (.ins (He.ga K "Fewest") dx (f_Fewest v0 v1))) (k : Q v1 H) : FldK K "script" Q (.ref a) H := r_fldk h T.k_Fewest T.n_Fewest_script rfl k
theorem st_Fewest_script (T : TX K mg) {a dx : Addr} {v0 v1 : V} (h : H a = some (.ins (He.ga K "Fewest") dx [("number", v0)])) (k : D.nx σ (upd H a (.ins (He.ga K "Fewest") dx (f_Fewest v0 v1)))) : SFldK K "script" D σ v1 (.ref a) H := r_sfldk h T.k_Fewest T.n_Fewest_script (by show 1 < 1000; decide) rfl k
def f_NeverSo (v0 : V) : List (Str × V) := [("standings", v0)]
theorem rd_NeverSo_standings (T : TX K mg) {a dx : Addr} {v0 : V} (h : H a = some (.ins (He.ga K "NeverSo") dx (f_NeverSo v0))) (k : Q v0 H) : FldK K "standings" Q (.ref a) H := r_fldk h T.k_NeverSo T.n_NeverSo_standings rfl k
theorem st_NeverSo_standings (T : TX K mg) {a dx : Addr} {v0 : V} (h : H a = some (.ins (He.ga K "NeverSo") dx [])) (k : D.nx σ (upd H a (.ins (He.ga K "NeverSo") dx (f_NeverSo v0)))) : SFldK K "standings" D σ v0 (.ref a) H := r_sfldk h T.k_NeverSo T.n_NeverSo_standings (by show 0 < 1000; decide) rfl k
def f_Search (v0 v1 v2 v3 : V) : List (Str × V) := [("folding", v0), ("pours", v1), ("graph", v2), ("found", v3)]
theorem rd_Search_folding (T : TX K mg) {a dx : Addr} {v0 v1 v2 v3 : V} (h : H a = some (.ins (He.ga K "Search") dx (f_Search v0 v1 v2 v3))) (k : Q v0 H) : FldK K "folding" Q (.ref a) H := r_fldk h T.k_Search T.n_Search_folding rfl k
theorem st_Search_folding (T : TX K mg) {a dx : Addr} {v0 : V} (h : H a = some (.ins (He.ga K "Search") dx [])) (k : D.nx σ (upd H a (.ins (He.ga K "Search") dx [("folding", v0)]))) : SFldK K "folding" D σ v0 (.ref a) H := r_sfldk h T.k_Search T.n_Search_folding (by show 0 < 1000; decide) rfl k
theorem rd_Search_pours (T : TX K mg) {a dx : Addr} {v0 v1 v2 v3 : V} (h : H a = some (.ins (He.ga K "Search") dx (f_Search v0 v1 v2 v3))) (k : Q v1 H) : FldK K "pours" Q (.ref a) H := r_fldk h T.k_Search T.n_Search_pours rfl k
theorem st_Search_pours (T : TX K mg) {a dx : Addr} {v0 v1 : V} (h : H a = some (.ins (He.ga K "Search") dx [("folding", v0)])) (k : D.nx σ (upd H a (.ins (He.ga K "Search") dx [("folding", v0), ("pours", v1)]))) : SFldK K "pours" D σ v1 (.ref a) H := r_sfldk h T.k_Search T.n_Search_pours (by show 1 < 1000; decide) rfl k
theorem rd_Search_graph (T : TX K mg) {a dx : Addr} {v0 v1 v2 v3 : V} (h : H a = some (.ins (He.ga K "Search") dx (f_Search v0 v1 v2 v3))) (k : Q v2 H) : FldK K "graph" Q (.ref a) H := r_fldk h T.k_Search T.n_Search_graph rfl k
theorem st_Search_graph (T : TX K mg) {a dx : Addr} {v0 v1 v2 : V} (h : H a = some (.ins (He.ga K "Search") dx [("folding", v0), ("pours", v1)])) (k : D.nx σ (upd H a (.ins (He.ga K "Search") dx [("folding", v0), ("pours", v1), ("graph", v2)]))) : SFldK K "graph" D σ v2 (.ref a) H := r_sfldk h T.k_Search T.n_Search_graph (by show 2 < 1000; decide) rfl k
theorem rd_Search_found (T : TX K mg) {a dx : Addr} {v0 v1 v2 v3 : V} (h : H a = some (.ins (He.ga K "Search") dx (f_Search v0 v1 v2 v3))) (k : Q v3 H) : FldK K "found" Q (.ref a) H := r_fldk h T.k_Search T.n_Search_found rfl k
theorem st_Search_found (T : TX K mg) {a dx : Addr} {v0 v1 v2 v3 : V} (h : H a = some (.ins (He.ga K "Search") dx [("folding", v0), ("pours", v1), ("graph", v2)])) (k : D.nx σ (upd H a (.ins (He.ga K "Search") dx (f_Search v0 v1 v2 v3)))) : SFldK K "found" D σ v3 (.ref a) H := r_sfldk h T.k_Search T.n_Search_found (by show 3 < 1000; decide) rfl k
end
end G6
end
section
set_option maxHeartbeats 4000000
set_option Elab.async false
set_option linter.all false
set_option maxRecDepth 100000
/-! B4: the program's own things in the heap -/
namespace G6
open PySem PySem.Spec PyProof.Rows L2 PySem.W
structure PicD where
  col : List Nat
  tie : List (Nat × Nat)
  mks : List Nat
def PicAt (K : PySem.W.Frag) (H : Hp) (p : Addr) (d : PicD) : Prop := ∃ (dx c t m : Addr) (ts : List Addr), H p = some (.ins (He.ga K "Picture") dx (f_Picture (.ref c) (.ref t) (.ref m))) ∧ TN H c d.col ∧ H t = some (.tup (refs ts)) ∧ CpT H ts d.tie ∧ TN H m d.mks
theorem PicAt.ext {K : PySem.W.Frag} {H H' : Hp} {p : Addr} {d : PicD} (h : PicAt K H p d) (s : Same H H') : PicAt K H' p d := by
  obtain ⟨dx, c, t, m, ts, h1, h2, h3, h4, h5⟩ := h
  exact ⟨dx, c, t, m, ts, s _ _ h1, s _ _ h2, s _ _ h3, h4.ext s, s _ _ h5⟩
end G6
end
section
set_option maxHeartbeats 4000000
set_option Elab.async false
set_option linter.all false
set_option maxRecDepth 100000
/-! B5: loops and comprehensions, as they are met on the walk -/
namespace G6
open PySem PySem.Spec PyProof.Rows L2 PySem.W
section
variable {K : PySem.W.Frag} {σ : L2.St} {H : Hp} {Q : VK} {D : Ends} {v x y : V} {g : TG} {tb : TS} {a : Addr} {xs : List V}
theorem r_ifT {A B : Prop} {i : Decidable (true = true)} (h : A) : @ite Prop (true = true) i A B := by rw [if_pos rfl]; exact h
theorem r_ifF {A B : Prop} {i : Decidable (false = true)} (h : B) : @ite Prop (false = true) i A B := by rw [if_neg (fun z => Bool.noConfusion z)]; exact h
theorem r_ite {A B : Prop} {c : Bool} (h1 : c = true → A) (h2 : c = false → B) : if c = true then A else B := by
  cases c
  · exact r_ifF (h2 rfl)
  · exact r_ifT (h1 rfl)
theorem same_at {H H' : Hp} {b : Addr} {o : HO} (s : Same H H') (h : H b = some o) : H' b = some o := s _ _ h
theorem lt_sz {n : Nat} (h : n ≤ 10000) : n < sizeLine := Nat.lt_of_le_of_lt h (by decide)
theorem le_sz {n : Nat} (h : n ≤ 10000) : n ≤ sizeLine := Nat.le_trans h (by decide)
theorem p_fldk {f : Str} (h : FldK K f Q v H) : FldK K f Q v H := h
theorem p_sfldk {f : Str} (h : SFldK K f D σ x y H) : SFldK K f D σ x y H := h
/-! for -/
theorem for_J {J : It} {n : Nat} {G : Hp → Prop} {Y : Nat → Hp → V → Hp → Prop} (w : Walk J n G Y) (Pv : Nat → L2.St → Hp → Prop) (h0 : Pv 0 σ H) (hG : ∀ i σ H, i ≤ n → Pv i σ H → G H)
    (hs : ∀ i x σ H H', i < n → Pv i σ H → Y i H x H' → g x σ H' fun σ2 H2 => tb { D with nx := Pv (i + 1), ct := Pv (i + 1), bk := D.nx } σ2 H2) (hd : ∀ σ H, Pv n σ H → D.nx σ H) : ForK g tb D σ J H := for_it w Pv h0 hG hs hd
theorem for_T (Pv : Nat → L2.St → Hp → Prop) (h0 : Pv 0 σ H) (hG : ∀ i σ H, i ≤ xs.length → Pv i σ H → H a = some (.tup xs))
    (hs : ∀ i x σ H, xs[i]? = some x → Pv i σ H → g x σ H fun σ2 H2 => tb { D with nx := Pv (i + 1), ct := Pv (i + 1), bk := D.nx } σ2 H2) (hd : ∀ σ H, Pv xs.length σ H → D.nx σ H) : ForK g tb D σ (Itt K a) H :=
  for_it walk_tup Pv h0 (fun i σ H h p => SqT.of (hG i σ H h p)) (fun i x σ H H' hi p y => by obtain ⟨rfl, y⟩ := y; exact hs i x σ _ y p) hd
theorem for_L (Pv : Nat → L2.St → Hp → Prop) (h0 : Pv 0 σ H) (hG : ∀ i σ H, i ≤ xs.length → Pv i σ H → H a = some (.lst xs))
    (hs : ∀ i x σ H, xs[i]? = some x → Pv i σ H → g x σ H fun σ2 H2 => tb { D with nx := Pv (i + 1), ct := Pv (i + 1), bk := D.nx } σ2 H2) (hd : ∀ σ H, Pv xs.length σ H → D.nx σ H) : ForK g tb D σ (Itl K a) H :=
  for_it walk_list Pv h0 (fun i σ H h p => SqL.of (hG i σ H h p)) (fun i x σ H H' hi p y => by obtain ⟨rfl, y⟩ := y; exact hs i x σ _ y p) hd
theorem for_R {lo : Int} {n : Nat} (Pv : Nat → L2.St → Hp → Prop) (h0 : Pv 0 σ H)
    (hs : ∀ i σ H, i < n → Pv i σ H → g (.int (lo + (i : Int))) σ H fun σ2 H2 => tb { D with nx := Pv (i + 1), ct := Pv (i + 1), bk := D.nx } σ2 H2) (hd : ∀ σ H, Pv n σ H → D.nx σ H) : ForK g tb D σ (Itr lo n) H :=
  for_it walk_range Pv h0 (fun _ _ _ _ _ => trivial) (fun i x σ H H' hi p y => by obtain ⟨rfl, rfl⟩ := y; exact hs i σ _ hi p) hd
theorem for_EL (Pv : Nat → L2.St → Hp → Prop) (h0 : Pv 0 σ H) (hG : ∀ i σ H, i ≤ xs.length → Pv i σ H → H a = some (.lst xs))
    (hs : ∀ i x σ H t, xs[i]? = some x → Pv i σ H → H t = none → g (.ref t) σ (upd H t (.tup [.int (i : Int), x])) fun σ2 H2 => tb { D with nx := Pv (i + 1), ct := Pv (i + 1), bk := D.nx } σ2 H2) (hd : ∀ σ H, Pv xs.length σ H → D.nx σ H) : ForK g tb D σ (Ite K a) H :=
  for_it walk_enum Pv h0 (fun i σ H h p => SqL.of (hG i σ H h p)) (fun i x σ H H' hi p y => by
    obtain ⟨t, x1, x2, rfl, ht, rfl, e1, e2⟩ := y
    cases e1
    exact hs i x2 σ H t e2 p ht) hd
theorem for_ET (Pv : Nat → L2.St → Hp → Prop) (h0 : Pv 0 σ H) (hG : ∀ i σ H, i ≤ xs.length → Pv i σ H → H a = some (.tup xs))
    (hs : ∀ i x σ H t, xs[i]? = some x → Pv i σ H → H t = none → g (.ref t) σ (upd H t (.tup [.int (i : Int), x])) fun σ2 H2 => tb { D with nx := Pv (i + 1), ct := Pv (i + 1), bk := D.nx } σ2 H2) (hd : ∀ σ H, Pv xs.length σ H → D.nx σ H) : ForK g tb D σ (IteT K a) H :=
  for_it walk_enumT Pv h0 (fun i σ H h p => SqT.of (hG i σ H h p)) (fun i x σ H H' hi p y => by
    obtain ⟨t, x1, x2, rfl, ht, rfl, e1, e2⟩ := y
    cases e1
    exact hs i x2 σ H t e2 p ht) hd
def IEnK (K : PySem.W.Frag) (R : It → Hp → Prop) (vs : List V) (H1 : Hp) : Prop := ∃ a xs, vs = [.ref a] ∧ SqL K H1 a xs ∧ R (Ite K a) H1
def IEnTK (K : PySem.W.Frag) (R : It → Hp → Prop) (vs : List V) (H1 : Hp) : Prop := ∃ a xs, vs = [.ref a] ∧ SqT K H1 a xs ∧ R (IteT K a) H1
theorem r_ienum {ta : TA} {R : It → Hp → Prop} (h : ta σ H (IEnK K R)) : iEnum K ta σ H R := h
theorem r_ienumT {ta : TA} {R : It → Hp → Prop} (h : ta σ H (IEnTK K R)) : iEnumT K ta σ H R := h
theorem r_ienk {R : It → Hp → Prop} (hx : H a = some (.lst xs)) (h : R (Ite K a) H) : IEnK K R [.ref a] H := ⟨a, xs, rfl, SqL.of hx, h⟩
theorem r_ientk {R : It → Hp → Prop} (hx : H a = some (.tup xs)) (h : R (IteT K a) H) : IEnTK K R [.ref a] H := ⟨a, xs, rfl, SqT.of hx, h⟩
/-! while -/
theorem wh {c : TT} (W : Nat → L2.St → Hp → Prop) {m : Nat} (h0 : W m σ H)
    (hs : ∀ m σ H, W m σ H → c σ H fun b H1 => if b = true then tb { D with nx := fun σ' H' => ∃ m', m' < m ∧ W m' σ' H', ct := fun σ' H' => ∃ m', m' < m ∧ W m' σ' H', bk := D.nx } σ H1 else D.nx σ H1)
    (mono : ∀ σ H (q q' : Bool → Hp → Prop), (∀ b H, q b H → q' b H) → c σ H q → c σ H q') : tWhile c tb D σ H := by
  refine ⟨W, ⟨m, h0⟩, fun m σ H w => mono σ H _ _ (fun b H1 h => ?_) (hs m σ H w)⟩
  cases b with
  | true =>
    rw [if_pos rfl] at h ⊢
    exact ⟨fun σ' H' => ∃ m', m' < m ∧ W m' σ' H', fun σ' H' z => z, h⟩
  | false =>
    rw [if_neg (by decide)] at h ⊢
    exact h
/-- while rest: (a list in a slot) -/
theorem wh_L {i : Nat} (W : Nat → L2.St → Hp → Prop) {m : Nat} (h0 : W m σ H)
    (hl : ∀ m σ H, W m σ H → ∃ r ys, σ[i]? = some (some (.ref r)) ∧ H r = some (.lst ys))
    (hs : ∀ m σ H r y ys, W m σ H → σ[i]? = some (some (.ref r)) → H r = some (.lst (ys ++ [y])) → tb { D with nx := fun σ' H' => ∃ m', m' < m ∧ W m' σ' H', ct := fun σ' H' => ∃ m', m' < m ∧ W m' σ' H', bk := D.nx } σ H)
    (hd : ∀ m σ H r, W m σ H → σ[i]? = some (some (.ref r)) → H r = some (.lst []) → D.nx σ H) : tWhile (tTru K (tVar i)) tb D σ H := by
  refine ⟨W, ⟨m, h0⟩, fun m σ H w => ?_⟩
  obtain ⟨r, ys, h1, h2⟩ := hl m σ H w
  refine ⟨_, h1, _, .inl ⟨ys, SqL.of h2, rfl⟩, ?_⟩
  rcases List.eq_nil_or_concat ys with rfl | ⟨zs, z, rfl⟩
  · exact r_ifF (hd m σ H r w h1 h2)
  · rw [List.concat_eq_append] at h2 ⊢
    have e : (!(zs ++ [z]).isEmpty) = true := by simp
    rw [e]
    exact r_ifT ⟨fun σ' H' => ∃ m', m' < m ∧ W m' σ' H', fun σ' H' z => z, hs m σ H r z zs w h1 h2⟩
theorem r_popL {r : Addr} {ys : List V} (hx : H r = some (.lst (ys ++ [y]))) (h : Q y (upd H r (.lst ys))) : rPop (.ref r) [] H Q := by
  refine r_pop hx (y := y) (by simp) ?_
  rw [List.dropLast_concat]
  exact h
/-! comprehensions -/
def EltK (D : Addr) (Nx : Hp → Prop) : VK := fun y H4 => ∃ acc, H4 D = some (.lst acc) ∧ acc.length < sizeLine ∧ Nx (upd H4 D (.lst (acc ++ [y])))
theorem r_eltk {D : Addr} {Nx : Hp → Prop} {acc : List V} (h : H D = some (.lst acc)) (l : acc.length < sizeLine) (k : Nx (upd H D (.lst (acc ++ [y])))) : EltK D Nx y H := ⟨acc, h, l, k⟩
def TurnK (tt : TT) (te : TE) (vs : List Nat) (σ : L2.St) (D : Addr) (Nx : Hp → Prop) (σ2 : L2.St) (H2 : Hp) : Prop := wipe σ2 vs = wipe σ vs ∧ tt σ2 H2 fun b H3 => if b = true then te σ2 H3 (EltK D Nx) else Nx H3
theorem r_turn {tt : TT} {te : TE} {vs : List Nat} {D : Addr} {Nx : Hp → Prop} {σ2 : L2.St} (e : wipe σ2 vs = wipe σ vs) (h : tt σ2 H fun b H3 => if b = true then te σ2 H3 (EltK D Nx) else Nx H3) : TurnK tt te vs σ D Nx σ2 H := ⟨e, h⟩
variable {tt : TT} {te : TE} {vs : List Nat}
theorem lc_J {J : It} {n : Nat} {G : Hp → Prop} {Y : Nat → Hp → V → Hp → Prop} (w : Walk J n G Y) (Pv : Addr → Nat → Hp → Prop) (h0 : ∀ D, H D = none → Pv D 0 (upd H D (.lst []))) (hG : ∀ D i H, i ≤ n → Pv D i H → G H)
    (hs : ∀ D i x H H', i < n → Pv D i H → Y i H x H' → g x (wipe σ vs) H' (TurnK tt te vs σ D (Pv D (i + 1)))) (hd : ∀ D H, Pv D n H → Q (.ref D) H) : LcK g tt te vs σ Q J H :=
  fun D hD => lc_it w (Pv D) (h0 D hD) (hG D) (hs D) (hd D)
theorem lc_T (Pv : Addr → Nat → Hp → Prop) (h0 : ∀ D, H D = none → Pv D 0 (upd H D (.lst []))) (hG : ∀ D i H, i ≤ xs.length → Pv D i H → H a = some (.tup xs))
    (hs : ∀ D i x H, xs[i]? = some x → Pv D i H → g x (wipe σ vs) H (TurnK tt te vs σ D (Pv D (i + 1)))) (hd : ∀ D H, Pv D xs.length H → Q (.ref D) H) : LcK g tt te vs σ Q (Itt K a) H :=
  lc_J walk_tup Pv h0 (fun D i H h p => SqT.of (hG D i H h p)) (fun D i x H H' _ p y => by obtain ⟨rfl, y⟩ := y; exact hs D i x _ y p) hd
theorem lc_L (Pv : Addr → Nat → Hp → Prop) (h0 : ∀ D, H D = none → Pv D 0 (upd H D (.lst []))) (hG : ∀ D i H, i ≤ xs.length → Pv D i H → H a = some (.lst xs))
    (hs : ∀ D i x H, xs[i]? = some x → Pv D i H → g x (wipe σ vs) H (TurnK tt te vs σ D (Pv D (i + 1)))) (hd : ∀ D H, Pv D xs.length H → Q (.ref D) H) : LcK g tt te vs σ Q (Itl K a) H :=
  lc_J walk_list Pv h0 (fun D i H h p => SqL.of (hG D i H h p)) (fun D i x H H' _ p y => by obtain ⟨rfl, y⟩ := y; exact hs D i x _ y p) hd
theorem lc_R {lo : Int} {n : Nat} (Pv : Addr → Nat → Hp → Prop) (h0 : ∀ D, H D = none → Pv D 0 (upd H D (.lst [])))
    (hs : ∀ D i H, i < n → Pv D i H → g (.int (lo + (i : Int))) (wipe σ vs) H (TurnK tt te vs σ D (Pv D (i + 1)))) (hd : ∀ D H, Pv D n H → Q (.ref D) H) : LcK g tt te vs σ Q (Itr lo n) H :=
  lc_J walk_range Pv h0 (fun _ _ _ _ _ => trivial) (fun D i x H H' hi p y => by obtain ⟨rfl, rfl⟩ := y; exact hs D i _ hi p) hd
/-! lists of lists that are made here -/
structure LLm (H0 H : Hp) (L : Addr) (as : List Addr) (ls : List (List Nat)) : Prop where
  at_ : H L = some (.lst (refs as))
  all : All2 (fun a l => LN H a l) as ls
  nd : as.Nodup
  nL : L ∉ as
  new : H0 L = none
  news : ∀ a ∈ as, H0 a = none
theorem LLm.fin {H0 H : Hp} {L : Addr} {as : List Addr} {ls : List (List Nat)} (h : LLm H0 H L as ls) : LL H L ls := ⟨as, h.at_, h.all⟩
theorem LLm.at {H0 H : Hp} {L : Addr} {as : List Addr} {ls : List (List Nat)} (h : LLm H0 H L as ls) {i : Nat} {l : List Nat} (e : ls[i]? = some l) :
    ∃ b, as[i]? = some b ∧ LN H b l ∧ H0 b = none ∧ b ≠ L ∧ ∀ l', LLm H0 (upd H b (.lst (vN l'))) L as (ls.set i l') := by
  obtain ⟨b, e1, e2⟩ := h.all.get e
  have m : b ∈ as := List.mem_of_getElem? e1
  have nb : b ≠ L := fun z => h.nL (z ▸ m)
  refine ⟨b, e1, e2, h.news b m, nb, fun l' => ⟨?_, ?_, h.nd, h.nL, h.new, h.news⟩⟩
  · rw [upd_ne nb.symm]
    exact h.at_
  · refine All2.of (by rw [List.length_set]; exact h.all.len) fun j c m' f1 f2 => ?_
    by_cases hj : i = j
    · subst hj
      rw [e1] at f1
      cases f1
      rw [List.getElem?_set_self (List.getElem?_eq_some_iff.mp e).1] at f2
      cases f2
      exact upd_same
    · rw [List.getElem?_set_ne hj] at f2
      have nc : c ≠ b := fun z => by
        subst z
        have i1 := (List.getElem?_eq_some_iff.mp e1)
        have i2 := (List.getElem?_eq_some_iff.mp f1)
        obtain ⟨p1, q1⟩ := i1
        obtain ⟨p2, q2⟩ := i2
        exact hj ((List.getElem_inj h.nd).mp (q1.trans q2.symm))
      obtain ⟨c', g1, g2⟩ := h.all.get f2
      rw [f1] at g1
      cases g1
      show upd H b _ c = _
      rw [upd_ne nc]
      exact g2
end
end G6
end
section
set_option maxHeartbeats 4000000
set_option Elab.async false
set_option linter.all false
/-! M1: what the small functions compute -/
namespace G6
open PySem PySem.Spec PyProof.Rows L2 PySem.W
/-! neighbour lists -/
def psh (ls : List (List Nat)) (i x : Nat) : List (List Nat) := ls.set i (ls.getD i [] ++ [x])
def nblS (ls : List (List Nat)) (t : Nat × Nat) : List (List Nat) := psh (psh ls t.1 t.2) t.2 t.1
def nbl (n : Nat) (ts : List (Nat × Nat)) : List (List Nat) := ts.foldl nblS (List.replicate n [])
theorem psh_len (ls : List (List Nat)) (i x : Nat) : (psh ls i x).length = ls.length := List.length_set ..
theorem nblS_len (ls : List (List Nat)) (t : Nat × Nat) : (nblS ls t).length = ls.length := by rw [nblS, psh_len, psh_len]
theorem nblF_len (ts : List (Nat × Nat)) : ∀ ls : List (List Nat), (ts.foldl nblS ls).length = ls.length := by
  induction ts with
  | nil => intro ls; rfl
  | cons t ts ih => intro ls; rw [List.foldl_cons, ih, nblS_len]
theorem nbl_len (n : Nat) (ts : List (Nat × Nat)) : (nbl n ts).length = n := by rw [nbl, nblF_len, List.length_replicate]
theorem getD_of {α : Type} {ls : List α} {i : Nat} {l d : α} (h : ls[i]? = some l) : ls.getD i d = l := by rw [List.getD_eq_getElem?_getD, h]; rfl
theorem foldl_take {α β : Type} (f : β → α → β) (b : β) (xs : List α) {i : Nat} {x : α} (h : xs[i]? = some x) : (xs.take (i + 1)).foldl f b = f ((xs.take i).foldl f b) x := by
  rw [List.take_add_one, h, List.foldl_append]; rfl
theorem foldl_all {α β : Type} (f : β → α → β) (b : β) (xs : List α) {n : Nat} (h : n = xs.length) : (xs.take n).foldl f b = xs.foldl f b := by
  rw [h, List.take_length]
theorem getElem?_of_lt {α : Type} {ls : List α} {i : Nat} (h : i < ls.length) : ∃ x, ls[i]? = some x := ⟨ls[i], List.getElem?_eq_getElem h⟩
theorem mem_nbl_lt {n m : Nat} : ∀ (ts : List (Nat × Nat)) (ls : List (List Nat)), (∀ l ∈ ls, ∀ x ∈ l, x < m) → (∀ t ∈ ts, t.1 < m ∧ t.2 < m) → ∀ l ∈ ts.foldl nblS ls, ∀ x ∈ l, x < m := by
  intro ts
  have hp : ∀ (ls : List (List Nat)) (i x : Nat), (∀ l ∈ ls, ∀ y ∈ l, y < m) → x < m → ∀ l ∈ psh ls i x, ∀ y ∈ l, y < m := by
    intro ls i x h hx l hl y hy
    rcases List.mem_or_eq_of_mem_set hl with h1 | h1
    · exact h l h1 y hy
    · subst h1
      rcases List.mem_append.mp hy with h2 | h2
      · cases e : ls[i]? with
        | none =>
          rw [List.getD_eq_getElem?_getD, e] at h2
          cases h2
        | some l' =>
          rw [getD_of e] at h2
          exact h l' (List.mem_of_getElem? e) y h2
      · rw [List.mem_singleton] at h2
        omega
  induction ts with
  | nil => intro ls h _; exact h
  | cons t ts ih =>
    intro ls h ht
    have t1 := ht t (List.mem_cons_self ..)
    exact ih _ (hp _ _ _ (hp _ _ _ h t1.2) t1.1) fun u hu => ht u (List.mem_cons_of_mem _ hu)
theorem psh_bd {ls : List (List Nat)} {i x B : Nat} (h : ∀ l ∈ ls, l.length ≤ B) : ∀ l ∈ psh ls i x, l.length ≤ B + 1 := by
  intro l hl
  rcases List.mem_or_eq_of_mem_set hl with h1 | h1
  · exact Nat.le_succ_of_le (h l h1)
  · subst h1
    rw [List.length_append, List.length_singleton]
    cases e : ls[i]? with
    | none => rw [List.getD_eq_getElem?_getD, e]; exact Nat.le_add_left _ _
    | some l' => rw [getD_of e]; exact Nat.succ_le_succ (h l' (List.mem_of_getElem? e))
theorem nblF_bd : ∀ (ts : List (Nat × Nat)) {ls : List (List Nat)} {B : Nat}, (∀ l ∈ ls, l.length ≤ B) → ∀ l ∈ ts.foldl nblS ls, l.length ≤ B + 2 * ts.length
  | [], _, _, h => h
  | t :: ts, ls, B, h => fun l hl => by
    have z := nblF_bd ts (psh_bd (psh_bd h (i := t.1) (x := t.2)) (i := t.2) (x := t.1)) l hl
    rw [List.length_cons]
    omega
theorem rep_bd {n : Nat} : ∀ l ∈ List.replicate n ([] : List Nat), l.length ≤ 0 := fun l hl => by rw [(List.mem_replicate.mp hl).2]; exact Nat.le_refl _
theorem nbl_lt {n : Nat} {ts : List (Nat × Nat)} (ht : ∀ t ∈ ts, t.1 < n ∧ t.2 < n) : ∀ l ∈ nbl n ts, ∀ x ∈ l, x < n :=
  mem_nbl_lt (n := n) ts _ (fun l hl x hx => by rw [(List.mem_replicate.mp hl).2] at hx; cases hx) ht
end G6
end
section
set_option maxHeartbeats 4000000
set_option Elab.async false
set_option linter.all false
set_option maxRecDepth 100000
/-! B6: isinstance, max, sorted on the walk -/
namespace G6
open PySem PySem.Spec PyProof.Rows L2 PySem.W
section
variable {K : PySem.W.Frag} {σ : L2.St} {H : Hp} {Q : VK} {D : Ends} {v x y : V} {a : Addr} {xs : List V}
theorem r_isi_int {i : Int} (k : Q (.bl true) H) : rIsi K [.int i, .ty "int"] H Q := ⟨_, _, _, _, true, rfl, .ty "int", .base (.int i), kit_ty (by decide +kernel), k⟩
theorem r_isi_intB {i : Int} (k : Q (.bl false) H) : rIsi K [.int i, .ty "bool"] H Q := ⟨_, _, _, _, false, rfl, .ty "bool", .base (.int i), kit_ty (by decide +kernel), k⟩
theorem r_isi_str {z : Str} (k : Q (.bl true) H) : rIsi K [.str z, .ty "str"] H Q := ⟨_, _, _, _, true, rfl, .ty "str", .base (.str z), kit_ty (by decide +kernel), k⟩
theorem clsLT : Paired ClsV [.ty "list", .ty "tuple"] [.type "list", .type "tuple"] := .cons (.ty _) (.cons (.ty _) .nil)
theorem r_isT_L {tp : Addr} (ht : H tp = some (.tup [.ty "list", .ty "tuple"])) (hx : H a = some (.lst xs)) (k : Q (.bl true) H) : rIsiT K [.ref a, .ref tp] H Q :=
  ⟨_, tp, _, _, _, true, rfl, ht, clsLT, .base (.lst hx), by rfl, k⟩
theorem r_isT_T {tp : Addr} (ht : H tp = some (.tup [.ty "list", .ty "tuple"])) (hx : H a = some (.tup xs)) (k : Q (.bl true) H) : rIsiT K [.ref a, .ref tp] H Q :=
  ⟨_, tp, _, _, _, true, rfl, ht, clsLT, .base (.tup hx), by rfl, k⟩
theorem pe_ei {X : Cx} {e : Expr} {t1 t2 : TE} (h1 : PE X e t1) (h2 : PE X e t2) : PE X e (fun σ H Q => t1 σ H Q ∨ t2 σ H Q) := ⟨fun pins s σ H Q I h => h.elim (h1.run pins s σ H Q I) (h2.run pins s σ H Q I)⟩
theorem pi_ei {X : Cx} {tg e : Expr} {t1 t2 : TI} (h1 : PI X tg e t1) (h2 : PI X tg e t2) : PI X tg e (fun σ H Q => t1 σ H Q ∨ t2 σ H Q) := ⟨fun pins s σ H R I h => h.elim (h1.run pins s σ H R I) (h2.run pins s σ H R I)⟩
theorem r_ifT2 {A B : Prop} {c : Bool} {i : Decidable (c = true)} (e : c = true) (h : A) : @ite Prop (c = true) i A B := by rw [if_pos e]; exact h
theorem r_ifF2 {A B : Prop} {c : Bool} {i : Decidable (c = true)} (e : c = false) (h : B) : @ite Prop (c = true) i A B := by rw [if_neg (by rw [e]; exact fun z => Bool.noConfusion z)]; exact h
/-! the built-in calls under names -/
def kLen (K : PySem.W.Frag) : List V → Hp → VK → Prop := fun xs H Q => ∃ p ys, xs = [.ref p] ∧ (SqL K H p ys ∨ SqT K H p ys) ∧ Q (.int ys.length) H
theorem call_lenK {X : Cx} : CallR X (.builtin "len") (kLen X.K) := call_len_seq
theorem k_lenL (hx : H a = some (.lst xs)) (h : Q (.int (xs.length : Int)) H) : kLen K [.ref a] H Q := ⟨a, xs, rfl, .inl (SqL.of hx), h⟩
theorem k_lenT (hx : H a = some (.tup xs)) (h : Q (.int (xs.length : Int)) H) : kLen K [.ref a] H Q := ⟨a, xs, rfl, .inr (SqT.of hx), h⟩
def kLenD : List V → Hp → VK → Prop := fun xs H Q => ∃ a kvs, xs = [V.ref a] ∧ H a = some (.dK kvs) ∧ Q (.int kvs.length) H
theorem call_lenDK {X : Cx} : CallR X (.builtin "len") kLenD := call_lenD
theorem k_lenD {kvs : List (Key × V)} (hx : H a = some (.dK kvs)) (h : Q (.int (kvs.length : Int)) H) : kLenD [.ref a] H Q := ⟨a, kvs, rfl, hx, h⟩
def kList (K : PySem.W.Frag) : List V → Hp → VK → Prop := fun xs H Q => ∃ p ys, xs = [.ref p] ∧ (SqL K H p ys ∨ SqT K H p ys) ∧ ∀ l, H l = none → Q (.ref l) (upd H l (.lst ys))
theorem call_listK {X : Cx} : CallR X (.type "list") (kList X.K) := call_list_of
theorem k_listL (hx : H a = some (.lst xs)) (h : ∀ l, H l = none → Q (.ref l) (upd H l (.lst xs))) : kList K [.ref a] H Q := ⟨a, xs, rfl, .inl (SqL.of hx), h⟩
theorem k_listT (hx : H a = some (.tup xs)) (h : ∀ l, H l = none → Q (.ref l) (upd H l (.lst xs))) : kList K [.ref a] H Q := ⟨a, xs, rfl, .inr (SqT.of hx), h⟩
def kTup (K : PySem.W.Frag) : List V → Hp → VK → Prop := fun xs H Q => ∃ p ys, xs = [.ref p] ∧ ((SqL K H p ys ∧ ∀ l, H l = none → Q (.ref l) (upd H l (.tup ys))) ∨ (SqT K H p ys ∧ Q (.ref p) H))
theorem call_tupleK {X : Cx} : CallR X (.type "tuple") (kTup X.K) := call_tuple_of
theorem k_tupL (hx : H a = some (.lst xs)) (h : ∀ l, H l = none → Q (.ref l) (upd H l (.tup xs))) : kTup K [.ref a] H Q := ⟨a, xs, rfl, .inl ⟨SqL.of hx, h⟩⟩
theorem k_tupT (hx : H a = some (.tup xs)) (h : Q (.ref a) H) : kTup K [.ref a] H Q := ⟨a, xs, rfl, .inr ⟨SqT.of hx, h⟩⟩
def kAbs : List V → Hp → VK → Prop := fun xs H Q => ∃ i, xs = [.int i] ∧ Q (.int (if i < 0 then -i else i)) H
theorem call_absK {X : Cx} : CallR X (.builtin "abs") kAbs := call_abs
theorem k_abs {i : Int} (h : Q (.int (if i < 0 then -i else i)) H) : kAbs [.int i] H Q := ⟨i, rfl, h⟩
def kMax2 : List V → Hp → VK → Prop := fun xs H Q => ∃ i j, xs = [.int i, .int j] ∧ Q (.int (if j > i then j else i)) H
theorem call_max2K {X : Cx} (hc : X.calm = true) : CallR X (.builtin "max") kMax2 := call_max2 hc
theorem k_max2 {i j : Int} (h : Q (.int (if j > i then j else i)) H) : kMax2 [.int i, .int j] H Q := ⟨i, j, rfl, h⟩
def kMin2 : List V → Hp → VK → Prop := fun xs H Q => ∃ i j, xs = [.int i, .int j] ∧ Q (.int (if j < i then j else i)) H
theorem call_min2K {X : Cx} (hc : X.calm = true) : CallR X (.builtin "min") kMin2 := call_min2 hc
theorem k_min2 {i j : Int} (h : Q (.int (if j < i then j else i)) H) : kMin2 [.int i, .int j] H Q := ⟨i, j, rfl, h⟩
def kInt1 : List V → Hp → VK → Prop := fun xs H Q => (∃ i, xs = [.int i] ∧ Q (.int i) H) ∨ ∃ k, xs = [.bl k] ∧ Q (.int (if k then 1 else 0)) H
theorem call_int1K {X : Cx} : CallR X (.type "int") kInt1 := call_int1
theorem k_int1 {i : Int} (h : Q (.int i) H) : kInt1 [.int i] H Q := .inl ⟨i, rfl, h⟩
def kIsN : R2 := fun x y H Q => y = .non ∧ Q (.bl (decide (x = .non))) H
def kNotN : R2 := fun x y H Q => y = .non ∧ Q (.bl (!decide (x = .non))) H
theorem op_isNK {X : Cx} : OpR X (compareOp .Is) kIsN := op_isN
theorem op_notNK {X : Cx} : OpR X (compareOp .IsNot) kNotN := op_notN
theorem k_isN (h : Q (.bl (decide (x = .non))) H) : kIsN x .non H Q := ⟨rfl, h⟩
theorem k_notN (h : Q (.bl (!decide (x = .non))) H) : kNotN x .non H Q := ⟨rfl, h⟩
/-! in, slices -/
theorem flat_vN (ns : List Nat) : (vN ns).all flatV = true := List.all_eq_true.mpr fun x hx => by
  obtain ⟨n, _, rfl⟩ := List.mem_map.mp hx
  rfl
theorem inV_vN (n : Nat) : ∀ ns : List Nat, inV (.int (n : Int)) (vN ns) = decide (n ∈ ns)
  | [] => by simp [inV]
  | m :: ns => by
    have ih := inV_vN n ns
    show (eqV (.int (m : Int)) (.int (n : Int)) || inV (.int (n : Int)) (vN ns)) = _
    rw [ih]
    show (((m : Int) == (n : Int)) || decide (n ∈ ns)) = _
    by_cases h : m = n
    · subst h; simp
    · have h2 : ((m : Int) == (n : Int)) = false := by simp; omega
      rw [h2]
      simp [Ne.symm h]
theorem k_inL {neg : Bool} {n : Nat} {ns : List Nat} (hx : H a = some (.lst (vN ns))) (k : Q (.bl (if neg = true then !decide (n ∈ ns) else decide (n ∈ ns))) H) : rIn K neg (.int (n : Int)) (.ref a) H Q := ⟨a, _, rfl, .inl (SqL.of hx), rfl, flat_vN ns, by rw [inV_vN]; exact k⟩
theorem k_inT {neg : Bool} {n : Nat} {ns : List Nat} (hx : H a = some (.tup (vN ns))) (k : Q (.bl (if neg = true then !decide (n ∈ ns) else decide (n ∈ ns))) H) : rIn K neg (.int (n : Int)) (.ref a) H Q := ⟨a, _, rfl, .inr (SqT.of hx), rfl, flat_vN ns, by rw [inV_vN]; exact k⟩
theorem cut_to (xs : List V) {i : Nat} (h : i ≤ xs.length) : cutV xs none (some (i : Int)) = xs.take i := by
  unfold cutV
  rw [HT.sIx_none, HT.sIx_nat, List.drop_zero, Nat.min_eq_left h, Nat.sub_zero]
theorem cut_to' (xs : List V) {i : Nat} (h : xs.length ≤ i) : cutV xs none (some (i : Int)) = xs := by
  unfold cutV
  rw [HT.sIx_none, HT.sIx_nat, List.drop_zero, Nat.min_eq_right h, Nat.sub_zero, List.take_length]
theorem cut_upto (xs : List V) (i : Nat) : cutV xs none (some (i : Int)) = xs.take i := by
  by_cases h : i ≤ xs.length
  · exact cut_to xs h
  · rw [cut_to' xs (by omega), List.take_of_length_le (by omega)]
theorem cut_from (xs : List V) (i : Nat) : cutV xs (some (i : Int)) none = xs.drop i := by
  unfold cutV
  rw [HT.sIx_none, HT.sIx_nat]
  by_cases h : i ≤ xs.length
  · rw [Nat.min_eq_left h, List.take_of_length_le (by rw [List.length_drop]; omega)]
  · rw [Nat.min_eq_right (by omega), Nat.sub_self, List.take_zero, List.drop_eq_nil_of_le (by omega)]
theorem vN_take (ns : List Nat) (i : Nat) : (vN ns).take i = vN (ns.take i) := by simp [vN, List.map_take]
theorem vN_dropN (ns : List Nat) (i : Nat) : (vN ns).drop i = vN (ns.drop i) := by simp [vN, List.map_drop]
theorem k_slL_to {i : Nat} (hx : H a = some (.lst xs)) (k : ∀ p, H p = none → Q (.ref p) (upd H p (.lst (xs.take i)))) : rSlL K (.ref a) none (some (i : Int)) H Q := r_slL hx (by rw [cut_upto]; exact k)
theorem k_slL_from {i : Nat} (hx : H a = some (.lst xs)) (k : ∀ p, H p = none → Q (.ref p) (upd H p (.lst (xs.drop i)))) : rSlL K (.ref a) (some (i : Int)) none H Q := r_slL hx (by rw [cut_from]; exact k)
theorem k_slT_to {i : Nat} (hx : H a = some (.tup xs)) (hi : i < xs.length) (k : ∀ p, H p = none → Q (.ref p) (upd H p (.tup (xs.take i)))) : rSlT K (.ref a) none (some (i : Int)) H Q :=
  ⟨a, xs, rfl, SqT.of hx, fun z => by
    have z2 := z.2
    rw [HT.sIx_nat] at z2
    omega, by rw [cut_upto]; exact k⟩
def sqo (b : Bool) (xs : List V) : HO := if b = true then .lst xs else .tup xs
end
end G6
end
section
set_option maxHeartbeats 4000000
set_option Elab.async false
set_option linter.all false
set_option maxRecDepth 100000
/-! A5: name = {k: v for ..}, the name a local -/
namespace G6
open PySem PySem.Spec PyProof.Rows L2 PySem.W
section
variable {X : Cx}
theorem sw_dict {kx vx : Expr} {gs : List Comprehension} {scope : Scope} {pos py : Pos} {y : Str} {l : Nat} {env : Env} (h1 : env.scope.kind = .function) (h2 : env.scope.names.lookup y = some .local) (h3 : (py.line == pos.line) = true)
    (h4 : (scope.names.any fun (n, k) => n == y && (k == .local || k == .cell)) = false) : swapsWith (.DictComp kx vx gs scope pos) (some (.Name y py)) l env = pure true := by
  have e1 : env.kindOf y = some .local := h2
  have e2 : env.blockKind = .function := by unfold Env.blockKind; rw [h1]; rfl
  unfold swapsWith
  simp only [e1, e2]
  show (pure (_ && _ && (py.line == pos.line) && _) : Sem Bool) = pure true
  rw [h3, h4]
  rfl
theorem ps_setDcN {j : Nat} {y : Str} {py : Pos} {kx vx tg iter : Expr} {ifs : List Expr} {scope : Scope} {own : List (Str × Nat)} {pos sp : Pos} {wi : TI} {g : TG} {tt : TT} {tk tv : TE} (hu : X.A.units + 80 < cLine) (hc : X.calm = true) (hN : X.N.Nodup) (hy : X.N[j]? = some y) (hl : X.env.scope.names.lookup y = some .local)
    (sw : swapsWith (.DictComp kx vx [⟨tg, iter, ifs, 0⟩] scope pos) (some (.Name y py)) sp.line X.env = pure true) (hi : PI X tg iter wi) (ok : BlkOk X.N X.env.scope scope own)
    (hg : ∀ (t : Shared) (H : Hp) (C : Addr) (cl : List (Str × Addr)) (fp : List Addr), PG (X.blk t H scope (compEnvC scope cl C X.env) fp) tg g)
    (ht : ∀ (t : Shared) (H : Hp) (C : Addr) (cl : List (Str × Addr)) (fp : List Addr), PTs (X.blk t H scope (compEnvC scope cl C X.env) fp) ifs tt)
    (hk : ∀ (t : Shared) (H : Hp) (C : Addr) (cl : List (Str × Addr)) (fp : List Addr), PE (X.blk t H scope (compEnvC scope cl C X.env) fp) kx tk)
    (he : ∀ (t : Shared) (H : Hp) (C : Addr) (cl : List (Str × Addr)) (fp : List Addr), PE (X.blk t H scope (compEnvC scope cl C X.env) fp) vx tv) (hs : ∀ x, foldedSetIterable iter X.env x = pure x := by intro _; rfl) :
    PS X (.Assign [.Name y py] (.DictComp kx vx [⟨tg, iter, ifs, 0⟩] scope pos) sp) (tAsg (tDcN X.w wi g tt tk tv (own.map (·.2))) (gName j)) := by
  refine ⟨fun pins s σ H D I h => ?_⟩
  rw [exec_Assign_Name_used _ _ _ _ sw]
  refine wpAny_bind (wpAny_standAt (wpAny_bind ?_))
  show wpAny _ X.A (do let _ ← comprehension (.DictComp kx vx [⟨tg, iter, ifs, 0⟩] scope pos) scope X.env (firstIterPos [⟨tg, iter, ifs, 0⟩] pos) newDict false (eval iter X.env) (some (assign (.Name y py) X.env))) _ _ s
  have h' : tDcN X.w wi g tt tk tv (own.map (·.2)) σ H (fun x H1 => gName j x σ H1 D.nx) := h
  refine wpAny_bind (thn (dcN_core (Qf := fun _ t => SP X pins D .next t) hu hc hN I hi ok hg ht hk he hs h' fun L C t m H' I' q hn f => ?_) fun _ t hq => wpAny_pure (wpAny_pure hq))
  show wpAny _ _ (assign (.Name y py) X.env (.ref L)) _ _ _
  refine wpAny_assign_Name (store_ok2 (v := V.ref L) I' hN hy (.inl hl) rfl (fun s2 I2 ⟨a, sb, ha⟩ => ?_) (.inr hl))
  obtain ⟨f0, f1, f2, f3, f4, f5⟩ := f
  have haC : C ≠ a := ha.elim (fun z => by rw [z]; exact f1) fun z e => f4 y a z e.symm
  exact ⟨m, hn.sameBut sb haC, fun h3 sb3 => ⟨_, H', I2.turned (t' := s2.toks) (fun b o hb e => (sb3.2 b hb).trans e) f0 f1 f3 f4 f5, q⟩⟩
end
end G6
end
section
set_option maxHeartbeats 4000000
set_option Elab.async false
set_option linter.all false
set_option maxRecDepth 100000
/-! B7: dicts with nested keys, dict comprehensions, sorted, on the walk -/
namespace G6
open PySem PySem.Spec PyProof.Rows L2 PySem.W
/-- a list or a tuple of things -/
def Sq (H : Hp) (a : Addr) (xs : List V) : Prop := H a = some (.lst xs) ∨ H a = some (.tup xs)
section
variable {K : PySem.W.Frag} {w : World} {σ : L2.St} {H : Hp} {Q : VK} {D : Ends} {v x y z : V} {a : Addr} {xs : DX} {g : TG} {tt : TT} {tk tv : TE} {vs : List Nat} {ep : Nat}
/-! comprehension, nested keys -/
def DcNK (w : World) (g : TG) (tt : TT) (tk tv : TE) (vs : List Nat) (σ : L2.St) (Q : VK) (J : It) (H1 : Hp) : Prop := ∀ Dd, H1 Dd = none → DN w (upd H1 Dd (dN w Dd [] 0)) Dd [] 0 → DcTurns w J g tt tk tv vs σ Dd (upd H1 Dd (dN w Dd [] 0)) fun H2 => Q (.ref Dd) H2
theorem r_dcn {wi : TI} (h : wi σ H (DcNK w g tt tk tv vs σ Q)) : tDcN w wi g tt tk tv vs σ H Q := h
def PutK (w : World) (Dd : Addr) (y : V) (Nx : Hp → Prop) : VK := fun z H5 => NPut w H5 Dd y z Nx
theorem r_putk {Dd : Addr} {Nx : Hp → Prop} {ks : List NestedKey} {b : Addr} (d : DN w H Dd xs ep) (hk : Rp H (.tup ks) (.ref b)) (dp : (NestedKey.tup ks).depth ≤ 8) (hl : xs.length < sizeLine)
    (k : ∀ ep', DN w (upd H Dd (dN w Dd (putX xs (.tup ks) b z) ep')) Dd (putX xs (.tup ks) b z) ep' → Nx (upd H Dd (dN w Dd (putX xs (.tup ks) b z) ep'))) : PutK w Dd (.ref b) Nx z H := ⟨xs, ep, ks, b, d, rfl, hk, dp, hl, k⟩
def DTurnK (w : World) (tt : TT) (tk tv : TE) (vs : List Nat) (σ : L2.St) (Dd : Addr) (Nx : Hp → Prop) (σ2 : L2.St) (H2 : Hp) : Prop := wipe σ2 vs = wipe σ vs ∧ tt σ2 H2 fun b H3 => if b = true then tk σ2 H3 fun y H4 => tv σ2 H4 (PutK w Dd y Nx) else Nx H3
theorem r_dturn {Dd : Addr} {Nx : Hp → Prop} {σ2 : L2.St} (e : wipe σ2 vs = wipe σ vs) (h : tt σ2 H fun b H3 => if b = true then tk σ2 H3 fun y H4 => tv σ2 H4 (PutK w Dd y Nx) else Nx H3) : DTurnK w tt tk tv vs σ Dd Nx σ2 H := ⟨e, h⟩
theorem dcn_J {J : It} {n : Nat} {G : Hp → Prop} {Y : Nat → Hp → V → Hp → Prop} (wk : Walk J n G Y) (Pv : Addr → Nat → Hp → Prop) (h0 : ∀ Dd, H Dd = none → DN w (upd H Dd (dN w Dd [] 0)) Dd [] 0 → Pv Dd 0 (upd H Dd (dN w Dd [] 0))) (hG : ∀ Dd i H, i ≤ n → Pv Dd i H → G H)
    (hs : ∀ Dd i x H H', i < n → Pv Dd i H → Y i H x H' → g x (wipe σ vs) H' (DTurnK w tt tk tv vs σ Dd (Pv Dd (i + 1)))) (hd : ∀ Dd H, Pv Dd n H → Q (.ref Dd) H) : DcNK w g tt tk tv vs σ Q J H :=
  fun Dd h1 h2 => dcN_it wk (Pv Dd) (h0 Dd h1 h2) (hG Dd) (hs Dd) (hd Dd)
/-! comprehension, whole numbers as keys -/
def DcKK (g : TG) (tt : TT) (tk tv : TE) (vs : List Nat) (σ : L2.St) (Q : VK) (J : It) (H1 : Hp) : Prop := ∀ D, H1 D = none → ∃ W : Nat → Nat → Hp → Prop, (∃ m, W 0 m (upd H1 D (.dK []))) ∧ ∀ i m H, W i m H →
  (J.stop i H ∧ Q (.ref D) H) ∨ (J.go i H ∧ ∃ Nx : Hp → Prop, (∀ H', Nx H' → ∃ m', m' < m ∧ W (i + 1) m' H') ∧ ∀ x H', J.yld i H x H' → g x (wipe σ vs) H' fun σ2 H2 => wipe σ2 vs = wipe σ vs ∧ tt σ2 H2 fun b H3 =>
    if b = true then tk σ2 H3 fun y H4 => tv σ2 H4 fun z H5 => ∃ kvs k, y = kV k ∧ H5 D = some (.dK kvs) ∧ kvs.length < sizeLine ∧ Nx (upd H5 D (.dK (putK kvs k z))) else Nx H3)
theorem r_dck {wi : TI} (h : wi σ H (DcKK g tt tk tv vs σ Q)) : tDc wi g tt tk tv vs σ H Q := h
def PutKK (D : Addr) (y : V) (Nx : Hp → Prop) : VK := fun z H5 => ∃ kvs k, y = kV k ∧ H5 D = some (.dK kvs) ∧ kvs.length < sizeLine ∧ Nx (upd H5 D (.dK (putK kvs k z)))
theorem r_putkk {Dd : Addr} {Nx : Hp → Prop} {n : Int} {kvs : List (Key × V)} (e : H Dd = some (.dK kvs)) (hl : kvs.length < sizeLine) (k : Nx (upd H Dd (.dK (putK kvs (Sum.inl n) z)))) : PutKK Dd (.int n) Nx z H := ⟨kvs, Sum.inl n, rfl, e, hl, k⟩
def DTurnKK (tt : TT) (tk tv : TE) (vs : List Nat) (σ : L2.St) (Dd : Addr) (Nx : Hp → Prop) (σ2 : L2.St) (H2 : Hp) : Prop := wipe σ2 vs = wipe σ vs ∧ tt σ2 H2 fun b H3 => if b = true then tk σ2 H3 fun y H4 => tv σ2 H4 (PutKK Dd y Nx) else Nx H3
theorem r_dturnk {Dd : Addr} {Nx : Hp → Prop} {σ2 : L2.St} (e : wipe σ2 vs = wipe σ vs) (h : tt σ2 H fun b H3 => if b = true then tk σ2 H3 fun y H4 => tv σ2 H4 (PutKK Dd y Nx) else Nx H3) : DTurnKK tt tk tv vs σ Dd Nx σ2 H := ⟨e, h⟩
theorem dck_J {J : It} {n : Nat} {G : Hp → Prop} {Y : Nat → Hp → V → Hp → Prop} (wk : Walk J n G Y) (Pv : Addr → Nat → Hp → Prop) (h0 : ∀ Dd, H Dd = none → Pv Dd 0 (upd H Dd (.dK []))) (hG : ∀ Dd i H, i ≤ n → Pv Dd i H → G H)
    (hs : ∀ Dd i x H H', i < n → Pv Dd i H → Y i H x H' → g x (wipe σ vs) H' (DTurnKK tt tk tv vs σ Dd (Pv Dd (i + 1)))) (hd : ∀ Dd H, Pv Dd n H → Q (.ref Dd) H) : DcKK g tt tk tv vs σ Q J H :=
  fun Dd h1 => dcK_it wk (Pv Dd) (h0 Dd h1) (hG Dd) (hs Dd) (hd Dd)
/-! d.keys(), sorted -/
def KeysK (w : World) (Q : VK) : VK := fun x H1 => ∃ d, x = .ref d ∧ IsDct w H1 d ∧ ∀ p, H1 p = none → Q (.ref p) (upd H1 p (viewO p d))
theorem r_keysv {te : TE} (h : te σ H (KeysK w Q)) : tKeysV w te σ H Q := h
theorem r_keysN (d : DN w H a xs ep) (k : ∀ p, H p = none → Q (.ref p) (upd H p (viewO p a))) : KeysK w Q (.ref a) H := ⟨a, rfl, .inr ⟨xs, ep, d⟩, k⟩
theorem r_keysD {kvs : List (Key × V)} (d : H a = some (.dK kvs)) (k : ∀ p, H p = none → Q (.ref p) (upd H p (viewO p a))) : KeysK w Q (.ref a) H := ⟨a, rfl, .inl ⟨kvs, .inl d⟩, k⟩
theorem r_sortKI {p d : Addr} {kvs : List (Key × V)} {ns : List Int} (hv : H p = some (viewO p d)) (hd : H d = some (.dK kvs)) (e : kvs.map (·.1) = ns.map Sum.inl) (k : ∀ q, H q = none → Q (.ref q) (upd H q (.lst ((ns.mergeSort (fun a b => decide (a ≤ b))).map V.int)))) : rSortKI [.ref p] H Q := ⟨p, d, kvs, ns, rfl, hv, .inl hd, e, k⟩
/-- numbers that are not negative, sorted -/
def srt (ns : List Nat) : List Nat := ns.mergeSort (fun a b => decide (a ≤ b))
theorem srt_int (ns : List Nat) : ((ns.map fun n : Nat => (n : Int)).mergeSort (fun a b => decide (a ≤ b))).map V.int = vN (srt ns) := by
  unfold srt vN
  rw [← sort_maps (r := fun a b : Nat => decide (a ≤ b)) (fun n : Nat => (n : Int)) (fun a _ b _ => by simp), List.map_map]
  rfl
theorem srt_perm (ns : List Nat) : (srt ns).Perm ns := List.mergeSort_perm _ _
/-- the dict of numbers that are keys, all True -/
def kT (ns : List Nat) : List (Key × V) := ns.map fun n : Nat => ((Sum.inl (n : Int) : Key), V.bl true)
theorem kT_keys (ns : List Nat) : (kT ns).map (·.1) = (ns.map fun n : Nat => (n : Int)).map Sum.inl := by simp [kT]
def addK (ns : List Nat) (n : Nat) : List Nat := if n ∈ ns then ns else ns ++ [n]
theorem kT_val (ns : List Nat) (n : Nat) : (valV (kT ns) (Sum.inl (n : Int) : Key)).isSome = decide (n ∈ ns) := by
  induction ns with
  | nil => rfl
  | cons m ns ih =>
    by_cases h : m = n
    · subst h
      show (valV (((Sum.inl (m : Int) : Key), V.bl true) :: kT ns) _).isSome = _
      rw [valV_pos rfl]
      simp
    · have h2 : ¬ ((Sum.inl (m : Int) : Key) = Sum.inl (n : Int)) := fun z => h (by have := Sum.inl.inj z; omega)
      have e : valV (((Sum.inl (m : Int) : Key), V.bl true) :: kT ns) (Sum.inl (n : Int) : Key) = valV (kT ns) (Sum.inl (n : Int) : Key) := by
        simp [valV, List.find?_cons, h2]
      show (valV (((Sum.inl (m : Int) : Key), V.bl true) :: kT ns) _).isSome = _
      rw [e, ih]
      simp [Ne.symm h]
theorem kT_put (ns : List Nat) (n : Nat) : putK (kT ns) (Sum.inl (n : Int) : Key) (.bl true) = kT (addK ns n) := by
  unfold putK
  rw [valV_any, kT_val]
  by_cases h : n ∈ ns
  · rw [if_pos (decide_eq_true h), addK, if_pos h]
    unfold kT
    rw [List.map_map]
    refine List.map_congr_left fun m _ => ?_
    show (if (Sum.inl (m : Int) : Key) = Sum.inl (n : Int) then _ else _) = _
    split <;> rfl
  · rw [if_neg (by rw [decide_eq_false h]; exact fun z => Bool.noConfusion z), addK, if_neg h]
    simp [kT]
theorem addK_len (ns : List Nat) (n : Nat) : (addK ns n).length ≤ ns.length + 1 := by
  unfold addK
  split
  · omega
  · simp
theorem mem_addK {ns : List Nat} {n m : Nat} : m ∈ addK ns n ↔ m ∈ ns ∨ m = n := by
  unfold addK
  split
  · rename_i h
    exact ⟨.inl, fun z => z.elim id fun e => e ▸ h⟩
  · simp
theorem addK_nd {ns : List Nat} {n : Nat} (h : ns.Nodup) : (addK ns n).Nodup := by
  unfold addK
  split
  · exact h
  · rename_i hn
    refine List.nodup_append.mpr ⟨h, by simp, fun a ha b hb => ?_⟩
    rw [List.mem_singleton] at hb
    exact fun z => hn (by rw [← hb, ← z]; exact ha)
theorem kT_len (ns : List Nat) : (kT ns).length = ns.length := by simp [kT]
/-! keys of a dict with nested keys behind a store -/
theorem valV_mem {xs : DX} {k : NestedKey} : (valV (kvx xs) k).isSome = decide (k ∈ xs.map (·.1)) := by
  induction xs with
  | nil => rfl
  | cons x xs ih =>
    by_cases h : x.1 = k
    · have e : (valV (kvx (x :: xs)) k) = some x.2.2 := valV_pos (p := (x.1, x.2.2)) (r := kvx xs) h
      rw [e]
      simp [h]
    · have e : valV (kvx (x :: xs)) k = valV (kvx xs) k := by
        show valV ((x.1, x.2.2) :: kvx xs) k = _
        simp [valV, List.find?_cons, h]
      rw [e, ih]
      simp [Ne.symm h]
theorem keys_putX (xs : DX) (k : NestedKey) (b : Addr) (v : V) : (putX xs k b v).map (·.1) = if k ∈ xs.map (·.1) then xs.map (·.1) else xs.map (·.1) ++ [k] := by
  unfold putX
  rw [valV_mem]
  by_cases h : k ∈ xs.map (·.1)
  · rw [if_pos h, if_pos (decide_eq_true h), List.map_map]
    refine List.map_congr_left fun x _ => ?_
    show (if x.1 = k then _ else _ : NestedKey × Addr × V).1 = x.1
    split <;> rfl
  · rw [if_neg h, if_neg (by rw [decide_eq_false h]; exact fun z => Bool.noConfusion z), List.map_append]
    rfl
/-! pairs of numbers as keys -/
def kP (p : Nat × Nat) : NestedKey := .tup [.num (p.1 : Int), .num (p.2 : Int)]
theorem kP_inj {p q : Nat × Nat} (h : kP p = kP q) : p = q := by
  unfold kP at h
  simp only [NestedKey.tup.injEq, List.cons.injEq, NestedKey.num.injEq, and_true] at h
  exact Prod.ext (by omega) (by omega)
theorem rp_pair {p : Nat × Nat} {b : Addr} (h : H b = some (.tup [.int (p.1 : Int), .int (p.2 : Int)])) : Rp H (kP p) (.ref b) :=
  rp_tup.mpr ⟨b, _, rfl, h, rpa_cons.mpr ⟨_, _, rfl, rp_num.mpr rfl, rpa_cons.mpr ⟨_, _, rfl, rp_num.mpr rfl, rpa_nil.mpr rfl⟩⟩⟩
theorem rp_pair' {p : Nat × Nat} {b : Addr} (h : Rp H (kP p) (.ref b)) : H b = some (.tup [.int (p.1 : Int), .int (p.2 : Int)]) := by
  obtain ⟨b', vs, e, h1, h2⟩ := rp_tup.mp h
  cases e
  obtain ⟨x, r, rfl, hx, h3⟩ := rpa_cons.mp h2
  obtain ⟨y, r2, rfl, hy, h4⟩ := rpa_cons.mp h3
  rw [rp_num.mp hx, rp_num.mp hy, rpa_nil.mp h4] at h1
  exact h1
def lex2 (p q : Nat × Nat) : Bool := decide (p.1 < q.1 ∨ (p.1 = q.1 ∧ p.2 ≤ q.2))
def srt2 (ps : List (Nat × Nat)) : List (Nat × Nat) := ps.mergeSort lex2
theorem r_sortKP {p d : Addr} {ps : List (Nat × Nat)} (hv : H p = some (viewO p d)) (hd : DN w H d xs ep) (e : xs.map (·.1) = ps.map kP)
    (k : ∀ q ts, H q = none → CpT H ts (srt2 ps) → Q (.ref q) (upd H q (.lst (refs ts)))) : rSortKN w [.ref p] H Q := by
  refine ⟨p, d, xs, ep, rfl, hv, hd, ?_, ?_, fun q hq => ?_⟩
  · have e2 : xs.map (·.1.data) = ps.map fun p => (kP p).data := by
      have := congrArg (List.map NestedKey.data) e
      rw [List.map_map, List.map_map] at this
      exact this
    rw [e2]
    exact AllAlike.of fun b b' => by simp [kP, NestedKey.data, NestedKey.datas, alike, alikeAll]
  · have e2 : xs.map (·.1.data) = ps.map fun p => (kP p).data := by
      have := congrArg (List.map NestedKey.data) e
      rw [List.map_map, List.map_map] at this
      exact this
    rw [e2]
    exact Sortable.tuples fun b => ⟨_, _, rfl⟩
  · -- the couples with their places
    have hz : ∃ l : List (Addr × (Nat × Nat)), xs.map (fun x => (x.1, x.2.1)) = l.map (fun q => (kP q.2, q.1)) ∧ l.map (·.2) = ps := by
      clear hv hd k hq
      induction xs generalizing ps with
      | nil =>
        cases ps with
        | nil => exact ⟨[], rfl, rfl⟩
        | cons _ _ => cases e
      | cons x xs ih =>
        cases ps with
        | nil => cases e
        | cons p ps =>
          rw [List.map_cons, List.map_cons] at e
          obtain ⟨e1, e2⟩ := List.cons.inj e
          obtain ⟨l, f1, f2⟩ := ih e2
          exact ⟨(x.2.1, p) :: l, by rw [List.map_cons, List.map_cons, f1, e1], by rw [List.map_cons, f2]⟩
    obtain ⟨l, f1, f2⟩ := hz
    have fk : keysB xs = l.map fun q => (V.ref q.1, PyData.tuple [.int (q.2.1 : Int), .int (q.2.2 : Int)]) := by
      have := congrArg (List.map fun z : NestedKey × Addr => (V.ref z.2, z.1.data)) f1
      rw [List.map_map, List.map_map] at this
      exact this
    have hs := sort_maps (r := fun a b : Addr × (Nat × Nat) => lex2 a.2 b.2) (s := dataLe false (fun b : BD => b.2)) (fun q : Addr × (Nat × Nat) => ((V.ref q.1, PyData.tuple [.int (q.2.1 : Int), .int (q.2.2 : Int)]) : BD)) (l := l) (fun a _ b _ => by
      have e := congrFun (congrFun (dataLe_ii (β := Addr × (Nat × Nat)) (fun q => (q.2.1 : Int)) (fun q => (q.2.2 : Int))) a) b
      refine Eq.trans ?_ e.symm
      unfold lex2
      refine decide_eq_decide.mpr ?_
      omega)
    have h1 : sortB (keysB xs) = refs ((l.mergeSort fun a b => lex2 a.2 b.2).map (·.1)) := by
      unfold sortB
      rw [fk, ← hs, List.map_map, refs, List.map_map]
      rfl
    have h2 : (l.mergeSort fun a b => lex2 a.2 b.2).map (·.2) = srt2 ps := by
      rw [srt2, ← f2]
      exact sort_maps (s := lex2) (fun q : Addr × (Nat × Nat) => q.2) fun _ _ _ _ => rfl
    rw [h1]
    refine k q _ hq ?_
    rw [← h2]
    have hall : ∀ q ∈ l, H q.1 = some (.tup [.int (q.2.1 : Int), .int (q.2.2 : Int)]) := fun q hq => by
      have m : (kP q.2, q.1) ∈ xs.map (fun x => (x.1, x.2.1)) := by
        rw [f1]
        exact List.mem_map.mpr ⟨q, hq, rfl⟩
      obtain ⟨x, hx, ex⟩ := List.mem_map.mp m
      have r := (hd.keys x hx).1
      have e1 : x.1 = kP q.2 := congrArg Prod.fst ex
      have e2 : x.2.1 = q.1 := congrArg Prod.snd ex
      rw [e1, e2] at r
      exact rp_pair' r
    have go : ∀ m : List (Addr × (Nat × Nat)), (∀ q ∈ m, q ∈ l) → CpT H (m.map (·.1)) (m.map (·.2)) := fun m => by
      induction m with
      | nil => exact fun _ => .nil
      | cons q m ih => exact fun h => .cons (hall q (h q (List.mem_cons_self ..))) (ih fun z hz => h z (List.mem_cons_of_mem _ hz))
    exact go _ fun q hq => (List.mergeSort_perm l _).mem_iff.mp hq
end
end G6
end
section
set_option maxHeartbeats 4000000
set_option Elab.async false
set_option linter.all false
set_option maxRecDepth 100000
/-! B8: the rules with K and w said (within comprehensions they must not lean on the block) -/
namespace G6
open PySem PySem.Spec PyProof.Rows L2 PySem.W
theorem _root_.L2.Room.u1 {k : Nat} {A : Around} (r : Room k A) : A.units + 1 < cLine := by have := r.un; omega
theorem _root_.L2.Room.u80 {k : Nat} {A : Around} (r : Room k A) : A.units + 80 < cLine := by have := r.un; omega
section
variable {X : Cx} (K : PySem.W.Frag) (w : World)
theorem ix_list' (h : X.K = K) : IxR X (rIxL K) := by subst h; exact ix_list
theorem ix_tup' (h : X.K = K) : IxR X (rIxT K) := by subst h; exact ix_tup
theorem sl_list' (h : X.K = K) : SlR X (rSlL K) := by subst h; exact sl_list
theorem sl_tup' (h : X.K = K) : SlR X (rSlT K) := by subst h; exact sl_tup
theorem op_in_seq' (h : X.K = K) : OpR X (compareOp .In) (rIn K false) := by subst h; exact op_in_seq
theorem op_notIn_seq' (h : X.K = K) : OpR X (compareOp .NotIn) (rIn K true) := by subst h; exact op_notIn_seq
theorem call_lenK' (h : X.K = K) : CallR X (.builtin "len") (kLen K) := by subst h; exact call_lenK
theorem call_listK' (h : X.K = K) : CallR X (.type "list") (kList K) := by subst h; exact call_listK
theorem call_tupleK' (h : X.K = K) : CallR X (.type "tuple") (kTup K) := by subst h; exact call_tupleK
theorem cr_any' (h : X.K = K) (hc : X.calm = true) : CallR X (.builtin "any") (rAny K) := by subst h; exact cr_any hc
theorem cr_all' (h : X.K = K) (hc : X.calm = true) : CallR X (.builtin "all") (rAll K) := by subst h; exact cr_all hc
theorem call_isi' (h : X.K = K) : CallR X (.builtin "isinstance") (rIsi K) := by subst h; exact call_isi
theorem call_isiT' (h : X.K = K) : CallR X (.builtin "isinstance") (rIsiT K) := by subst h; exact call_isiT
theorem cr_maxT' (h : X.K = K) (hu : X.A.units + 64 < cLine) (hc : X.calm = true) : CallR X (.builtin "max") (rMaxT K) := by subst h; exact cr_maxT hu hc
theorem op_eqD' (h : X.K = K) (hu : X.A.units + 64 < cLine) : OpR X (compareOp .Eq) (rEqD K) := by subst h; exact op_eqD hu
theorem op_neD' (h : X.K = K) (hu : X.A.units + 64 < cLine) : OpR X (compareOp .NotEq) (rNeD K) := by subst h; exact op_neD hu
theorem op_catT' (h : X.K = K) : OpR X (binaryOp .Add) (rCatT K) := by subst h; exact op_catT
theorem mt_index' (h : X.K = K) : MtR X "list.index" (rIndex K) := by subst h; exact mt_index
theorem op_inN' (h : X.w = w) (hu : X.A.units + 64 < cLine) : OpR X (compareOp .In) (rInN w) := by subst h; exact op_inN hu
theorem op_notInN' (h : X.w = w) (hu : X.A.units + 64 < cLine) : OpR X (compareOp .NotIn) (rNotInN w) := by subst h; exact op_notInN hu
theorem set_N' (h : X.w = w) (hu : X.A.units + 64 < cLine) : PSet X (setN w) := by subst h; exact set_N hu
theorem cr_sortKN' (h : X.w = w) (hu : X.A.units + 64 < cLine) (hc : X.calm = true) : CallR X (.builtin "sorted") (rSortKN w) := by subst h; exact cr_sortKN hu hc
theorem cr_sortBD' (h : X.K = K) (hu : X.A.units + 64 < cLine) : CallR X (.builtin "sorted") (rSortBD K) := by subst h; exact cr_sortBD hu
variable {e o i value elt iter tg k v : Expr} {es : List Expr} {ta td ty tv te tk tl to : TE} {t : TA} {f : Str} {pos apos cpos : Pos}
theorem pe_fld' (h : X.K = K) (he : PE X e ta) (hb : attributeBase e f X.env (eval e X.env) = eval e X.env) : PE X (.Attribute e f pos) (tFld K ta f) := by subst h; exact pe_fld he hb
theorem pt_tru' (h : X.K = K) (ha : PE X e ta) (he : ∀ whole, isTrue e X.env whole = (do let v ← whole; standAt e.pos; holding [v] (truthy v))) : PT X e (tTru K ta) := by subst h; exact pt_tru ha he
theorem pi_list' (h : X.K = K) (hl : PE X e tl) : PI X tg e (iList K tl) := by subst h; exact pi_list hl
theorem pi_tup' (h : X.K = K) (hl : PE X e tl) : PI X tg e (iTup K tl) := by subst h; exact pi_tup hl
theorem pi_N' (h : X.w = w) (hl : PE X e tl) : PI X tg e (iN w tl) := by subst h; exact pi_N hl
theorem pe_nget' (h : X.w = w) (hu : X.A.units + 64 < cLine) (ho : PE X o td) (hi : PE X i ty) (hs : NoSl i) : PE X (.Subscript o i pos) (tNGet w td ty) := by subst h; exact pe_nget hu ho hi hs
theorem pe_nnew' (h : X.w = w) : PE X (.Dict [] [] pos) (tNNew w) := by subst h; exact pe_nnew
theorem pe_none' (h : X.w = w) (hu : X.A.units + 64 < cLine) (hk : PE X k tk) (hv : PE X v tv) : PE X (.Dict [some k] [v] pos) (tNOne w tk tv) := by subst h; exact pe_none hu hk hv
theorem pe_keysv' (h : X.w = w) (he : PE X e te) (hbase : attributeBase e "keys" X.env (eval e X.env) = eval e X.env := by rfl) (hline : (apos.endLine == cpos.line) = true := by rfl) : PE X (.Call (.Attribute e "keys" apos) [] [] cpos) (tKeysV w te) := by subst h; exact pe_keysv he hbase hline
variable {T id : String} {r : V → List V → Hp → VK → Prop} {name : Str}
theorem pe_bm0' (h : X.K = K) (pa : PlainAttrs T) (slot : Slot T name id) (hty : typeOf (.builtin id) = pure (.type "method_descriptor")) (hm : MtR X id r) (ho : PE X o to)
    (hbase : attributeBase o name X.env (eval o X.env) = eval o X.env := by rfl) (hline : (apos.endLine == cpos.line) = true := by rfl) : PE X (.Call (.Attribute o name apos) [] [] cpos) (tBM0 K T r to) := by subst h; exact pe_bm0 pa slot hty hm ho hbase hline
theorem pe_bm' (h : X.K = K) (pa : PlainAttrs T) (slot : Slot T name id) (hty : typeOf (.builtin id) = pure (.type "method_descriptor")) (hm : MtR X id r) (ho : PE X o to) (ha : PA X (e :: es) t)
    (hbase : attributeBase o name X.env (eval o X.env) = eval o X.env := by rfl)
    (hfew : ((backTo cpos (starEach (e :: es) X.env)).all (fun x => !x.1) && (backToKw cpos (keywordEach [] X.env)).all (fun x => x.1.isSome)
      && decide ((e :: es).length + ([] : List Keyword).length + (if ([] : List Keyword).isEmpty then 0 else 1) < 30)) = true := by rfl)
    (hline : (apos.endLine == cpos.line) = true := by rfl) (hs : starEach (e :: es) X.env = (false, eval e X.env) :: starEach es X.env := by rfl) (hplain : (backTo cpos (starEach es X.env)).any (·.1) = false := by rfl) :
    PE X (.Call (.Attribute o name apos) (e :: es) [] cpos) (tBM K T r to t) := by subst h; exact pe_bm pa slot hty hm ho ha hbase hfew hline hs hplain
theorem pg_tup' {es : List Expr} {k : Nat} {t : TGs} {n : Nat} (h : X.K = K) (hc : X.calm = true) (hp : PGs X es t)
    (hn : (assignEach es X.env).length = n) (hst : (assignEach es X.env).findIdx? (·.1) = none := by rfl) : PG X (.Tuple es k pos) (gTup K n t) := by subst h; exact pg_tup hc hp hn hst
theorem pg_star' {e1 e2 : Expr} {k : Nat} {t : TGs} {p2 : Pos} (h : X.K = K) (hc : X.calm = true) (hp : PGs X [e1, e2] t)
    (he : assignEach [e1, .Starred e2 p2] X.env = [(false, assign e1 X.env), (true, assign e2 X.env)] := by rfl) (he2 : (assignEach [e1, e2] X.env).map (·.2) = [assign e1 X.env, assign e2 X.env] := by rfl) :
    PG X (.Tuple [e1, .Starred e2 p2] k pos) (gStar K t) := by subst h; exact pg_star hc hp he he2
theorem pi_enum' {p tpos : Pos} {elts : List Expr} {kk : Nat} (h : X.K = K) (hg : Gl X "enumerate") (hm : X.mg "enumerate" = none) (ha : PA X [e] t) (hs : starEach [e] X.env = [(false, eval e X.env)] := by rfl) :
    PI X (.Tuple elts kk tpos) (.Call (.Name "enumerate" p) [e] [] pos) (iEnum K t) := by subst h; exact pi_enum hg hm ha hs
theorem pi_enumT' {p tpos : Pos} {elts : List Expr} {kk : Nat} (h : X.K = K) (hg : Gl X "enumerate") (hm : X.mg "enumerate" = none) (ha : PA X [e] t) (hs : starEach [e] X.env = [(false, eval e X.env)] := by rfl) :
    PI X (.Tuple elts kk tpos) (.Call (.Name "enumerate" p) [e] [] pos) (iEnumT K t) := by subst h; exact pi_enumT hg hm ha hs
end
section
variable {K : PySem.W.Frag} {H : Hp} {Q : VK} {a : Addr} {xs : List V}
theorem upd_upd {H : Hp} {a : Addr} {o o' : HO} : upd (upd H a o) a o' = upd H a o' := funext fun b => by
  by_cases h : b = a
  · rw [h, upd_same, upd_same]
  · rw [upd_ne h, upd_ne h, upd_ne h]
def Disp1K (p : Addr) (Q : VK) (x y : V) (H2 : Hp) : Prop := H2 p = some (.dK []) ∧ ∃ n : Int, x = .int n ∧ Q (.ref p) (upd H2 p (.dK [((Sum.inl n : Key), y)]))
theorem r_disp1 {σ : L2.St} {tk tv : TE} (h : ∀ p, H p = none → tk σ (upd H p (.dK [])) fun x H1 => tv σ H1 fun y H2 => Disp1K p Q x y H2) (mk : ∀ H q q', (∀ x H1, q x H1 → q' x H1) → tk σ H q → tk σ H q') (mv : ∀ H q q', (∀ x H1, q x H1 → q' x H1) → tv σ H q → tv σ H q') : tDisp [(tk, tv)] σ H Q :=
  fun p hp => mk _ _ _ (fun x H1 h1 => mv _ _ _ (fun y H2 h2 => ⟨h2.1, by
    obtain ⟨_, n, rfl, q⟩ := h2
    exact ⟨[((Sum.inl n : Key), y)], rfl, by show 1 ≤ 15; decide, q⟩⟩) h1) (h p hp)
theorem r_disp1v {σ : L2.St} {i : Nat} {n : Int} {y : V} (hn : σ[i]? = some (some (.int n))) (h : ∀ p, H p = none → Q (.ref p) (upd H p (.dK [((Sum.inl n : Key), y)]))) : tDisp [(tVar i, tC y)] σ H Q :=
  fun p hp => ⟨_, hn, upd_same, [((Sum.inl n : Key), y)], rfl, by show 1 ≤ 15; decide, by rw [upd_upd]; exact h p hp⟩
theorem r_dnew {σ : L2.St} (h : ∀ p, H p = none → Q (.ref p) (upd H p (.dK []))) : tDNewK σ H Q := h
theorem Sq.ext {H H' : Hp} {a : Addr} {xs : List V} (h : Sq H a xs) (s : Same H H') : Sq H' a xs := h.imp (s _ _) (s _ _)
theorem k_lenSq (h : Sq H a xs) (k : Q (.int (xs.length : Int)) H) : kLen K [.ref a] H Q := h.elim (fun h => k_lenL h k) fun h => k_lenT h k
theorem k_tupSq (h : Sq H a xs) (k : ∀ l H', H' l = some (.tup xs) → Same H H' → Q (.ref l) H') : kTup K [.ref a] H Q :=
  h.elim (fun h => k_tupL h fun l hl => k l _ upd_same (same_new hl)) fun h => k_tupT h (k a H h (Same.refl H))
end
end G6
end
section
set_option linter.all false
open PySem PySem.Spec PyProof.Rows L2 PySem.W
local macro_rules | `(tactic| walk_at "NE") => `(tactic| (first | assumption | (apply Ne.symm; assumption) | exact ne_of_none (by assumption) (by assumption) | exact (ne_of_none (by assumption) (by assumption)).symm))
local macro_rules | `(tactic| walk_at "HL") => `(tactic| (first | assumption | exact upd_same | (apply G6.same_at; assumption; assumption) | (refine (upd_ne ?_).trans ?_; walk_at "NE"; walk_at "HL")))
local macro_rules | `(tactic| walk_at "WK") => `(tactic| repeat (walk_at "W1"))
local macro_rules | `(tactic| walk_at "W1") => `(tactic| ((with_reducible apply G6.p_sfldk); ((with_reducible apply G6.st_Search_found); assumption; walk_at "HL")))
local macro_rules | `(tactic| walk_at "W1") => `(tactic| ((with_reducible apply G6.p_sfldk); ((with_reducible apply G6.st_Search_graph); assumption; walk_at "HL")))
local macro_rules | `(tactic| walk_at "W1") => `(tactic| ((with_reducible apply G6.p_sfldk); ((with_reducible apply G6.st_Search_pours); assumption; walk_at "HL")))
local macro_rules | `(tactic| walk_at "W1") => `(tactic| ((with_reducible apply G6.p_sfldk); ((with_reducible apply G6.st_Search_folding); assumption; walk_at "HL")))
local macro_rules | `(tactic| walk_at "W1") => `(tactic| ((with_reducible apply G6.p_sfldk); ((with_reducible apply G6.st_NeverSo_standings); assumption; walk_at "HL")))
local macro_rules | `(tactic| walk_at "W1") => `(tactic| ((with_reducible apply G6.p_sfldk); ((with_reducible apply G6.st_Fewest_script); assumption; walk_at "HL")))
local macro_rules | `(tactic| walk_at "W1") => `(tactic| ((with_reducible apply G6.p_sfldk); ((with_reducible apply G6.st_Fewest_number); assumption; walk_at "HL")))
local macro_rules | `(tactic| walk_at "W1") => `(tactic| ((with_reducible apply G6.p_sfldk); ((with_reducible apply G6.st_Book_rows); assumption; walk_at "HL")))
local macro_rules | `(tactic| walk_at "W1") => `(tactic| ((with_reducible apply G6.p_sfldk); ((with_reducible apply G6.st_Kept_book); assumption; walk_at "HL")))
local macro_rules | `(tactic| walk_at "W1") => `(tactic| ((with_reducible apply G6.p_sfldk); ((with_reducible apply G6.st_Forced_book); assumption; walk_at "HL")))
local macro_rules | `(tactic| walk_at "W1") => `(tactic| ((with_reducible apply G6.p_sfldk); ((with_reducible apply G6.st_Forced_rank); assumption; walk_at "HL")))
local macro_rules | `(tactic| walk_at "W1") => `(tactic| ((with_reducible apply G6.p_sfldk); ((with_reducible apply G6.st_Contest_found); assumption; walk_at "HL")))
local macro_rules | `(tactic| walk_at "W1") => `(tactic| ((with_reducible apply G6.p_sfldk); ((with_reducible apply G6.st_Contest_graph); assumption; walk_at "HL")))
local macro_rules | `(tactic| walk_at "W1") => `(tactic| ((with_reducible apply G6.p_sfldk); ((with_reducible apply G6.st_Contest_ended); assumption; walk_at "HL")))
local macro_rules | `(tactic| walk_at "W1") => `(tactic| ((with_reducible apply G6.p_sfldk); ((with_reducible apply G6.st_Contest_start); assumption; walk_at "HL")))
local macro_rules | `(tactic| walk_at "W1") => `(tactic| ((with_reducible apply G6.p_sfldk); ((with_reducible apply G6.st_Contest_pours); assumption; walk_at "HL")))
local macro_rules | `(tactic| walk_at "W1") => `(tactic| ((with_reducible apply G6.p_sfldk); ((with_reducible apply G6.st_Contest_folding); assumption; walk_at "HL")))
local macro_rules | `(tactic| walk_at "W1") => `(tactic| ((with_reducible apply G6.p_sfldk); ((with_reducible apply G6.st_Contest_due); assumption; walk_at "HL")))
local macro_rules | `(tactic| walk_at "W1") => `(tactic| ((with_reducible apply G6.p_sfldk); ((with_reducible apply G6.st_Folding_hues); assumption; walk_at "HL")))
local macro_rules | `(tactic| walk_at "W1") => `(tactic| ((with_reducible apply G6.p_sfldk); ((with_reducible apply G6.st_Folding_homes); assumption; walk_at "HL")))
local macro_rules | `(tactic| walk_at "W1") => `(tactic| ((with_reducible apply G6.p_sfldk); ((with_reducible apply G6.st_Folding_near); assumption; walk_at "HL")))
local macro_rules | `(tactic| walk_at "W1") => `(tactic| ((with_reducible apply G6.p_sfldk); ((with_reducible apply G6.st_Folding_numbers); assumption; walk_at "HL")))
local macro_rules | `(tactic| walk_at "W1") => `(tactic| ((with_reducible apply G6.p_sfldk); ((with_reducible apply G6.st_Picture_marks); assumption; walk_at "HL")))
local macro_rules | `(tactic| walk_at "W1") => `(tactic| ((with_reducible apply G6.p_sfldk); ((with_reducible apply G6.st_Picture_ties); assumption; walk_at "HL")))
local macro_rules | `(tactic| walk_at "W1") => `(tactic| ((with_reducible apply G6.p_sfldk); ((with_reducible apply G6.st_Picture_colours); assumption; walk_at "HL")))
local macro_rules | `(tactic| walk_at "W1") => `(tactic| ((with_reducible apply G6.r_turn); exact rfl))
local macro_rules | `(tactic| walk_at "W1") => `(tactic| ((with_reducible apply G6.r_ipadd)))
local macro_rules | `(tactic| walk_at "W1") => `(tactic| ((with_reducible apply G6.r_isT_T); walk_at "HL"; walk_at "HL"))
local macro_rules | `(tactic| walk_at "W1") => `(tactic| ((with_reducible apply G6.r_isT_L); walk_at "HL"; walk_at "HL"))
local macro_rules | `(tactic| walk_at "W1") => `(tactic| ((with_reducible apply G6.r_isi_str)))
local macro_rules | `(tactic| walk_at "W1") => `(tactic| ((with_reducible apply G6.r_isi_intB)))
local macro_rules | `(tactic| walk_at "W1") => `(tactic| ((with_reducible apply G6.r_isi_int)))
local macro_rules | `(tactic| walk_at "W1") => `(tactic| ((with_reducible apply G6.r_aug); exact rfl))
local macro_rules | `(tactic| walk_at "W1") => `(tactic| ((with_reducible apply G6.r_dnew)))
local macro_rules | `(tactic| walk_at "W1") => `(tactic| ((with_reducible apply G6.r_disp1v); exact rfl))
local macro_rules | `(tactic| walk_at "W1") => `(tactic| ((with_reducible apply G6.r_keysD); walk_at "HL"))
local macro_rules | `(tactic| walk_at "W1") => `(tactic| ((with_reducible apply G6.r_keysv)))
local macro_rules | `(tactic| walk_at "W1") => `(tactic| ((with_reducible apply G6.r_dturnk); exact rfl))
local macro_rules | `(tactic| walk_at "W1") => `(tactic| ((with_reducible apply G6.r_dck)))
local macro_rules | `(tactic| walk_at "W1") => `(tactic| ((with_reducible apply G6.r_dturn); exact rfl))
local macro_rules | `(tactic| walk_at "W1") => `(tactic| ((with_reducible apply G6.r_dcn)))
local macro_rules | `(tactic| walk_at "W1") => `(tactic| ((with_reducible apply G6.k_slT_to); walk_at "HL"; (first | assumption | omega)))
local macro_rules | `(tactic| walk_at "W1") => `(tactic| ((with_reducible apply G6.k_slL_from); walk_at "HL"))
local macro_rules | `(tactic| walk_at "W1") => `(tactic| ((with_reducible apply G6.k_slL_to); walk_at "HL"))
local macro_rules | `(tactic| walk_at "W1") => `(tactic| ((with_reducible apply G6.k_inT); walk_at "HL"))
local macro_rules | `(tactic| walk_at "W1") => `(tactic| ((with_reducible apply G6.k_inL); walk_at "HL"))
local macro_rules | `(tactic| walk_at "W1") => `(tactic| ((with_reducible apply G6.r_ientk); walk_at "HL"))
local macro_rules | `(tactic| walk_at "W1") => `(tactic| ((with_reducible apply G6.r_ienk); walk_at "HL"))
local macro_rules | `(tactic| walk_at "W1") => `(tactic| ((with_reducible apply G6.r_ienumT)))
local macro_rules | `(tactic| walk_at "W1") => `(tactic| ((with_reducible apply G6.r_ienum)))
local macro_rules | `(tactic| walk_at "W1") => `(tactic| ((with_reducible apply G6.r_ifF2); (first | exact rfl | assumption | exact decide_eq_false (by omega) | (simp; omega))))
local macro_rules | `(tactic| walk_at "W1") => `(tactic| ((with_reducible apply G6.r_ifT2); (first | exact rfl | assumption | exact decide_eq_true (by omega) | (simp; omega))))
local macro_rules | `(tactic| walk_at "W1") => `(tactic| ((with_reducible apply G6.r_meth)))
local macro_rules | `(tactic| walk_at "W1") => `(tactic| ((with_reducible apply G6.r_sfld)))
local macro_rules | `(tactic| walk_at "W1") => `(tactic| ((with_reducible apply G6.r_dput)))
local macro_rules | `(tactic| walk_at "W1") => `(tactic| ((with_reducible apply G6.r_dink); walk_at "HL"))
local macro_rules | `(tactic| walk_at "W1") => `(tactic| ((with_reducible apply G6.r_dnin)))
local macro_rules | `(tactic| walk_at "W1") => `(tactic| ((with_reducible apply G6.r_din)))
local macro_rules | `(tactic| walk_at "W1") => `(tactic| ((with_reducible apply G6.r_dget)))
local macro_rules | `(tactic| walk_at "W1") => `(tactic| ((with_reducible apply G6.r_tupk); (first | exact Nat.zero_le _ | exact G6.le_sz (Nat.le_of_ble_eq_true rfl))))
local macro_rules | `(tactic| walk_at "W1") => `(tactic| ((with_reducible apply G6.r_lstk); (first | exact Nat.zero_le _ | exact G6.le_sz (Nat.le_of_ble_eq_true rfl))))
local macro_rules | `(tactic| walk_at "W1") => `(tactic| ((with_reducible apply G6.r_make)))
local macro_rules | `(tactic| walk_at "W1") => `(tactic| ((with_reducible apply G6.r_call)))
local macro_rules | `(tactic| walk_at "W1") => `(tactic| ((with_reducible apply G6.r_lc)))
local macro_rules | `(tactic| walk_at "W1") => `(tactic| ((with_reducible apply G6.r_irng1)))
local macro_rules | `(tactic| walk_at "W1") => `(tactic| ((with_reducible apply G6.r_ilstk); walk_at "HL"))
local macro_rules | `(tactic| walk_at "W1") => `(tactic| ((with_reducible apply G6.r_itupk); walk_at "HL"))
local macro_rules | `(tactic| walk_at "W1") => `(tactic| ((with_reducible apply G6.r_ilst)))
local macro_rules | `(tactic| walk_at "W1") => `(tactic| ((with_reducible apply G6.r_itup)))
local macro_rules | `(tactic| walk_at "W1") => `(tactic| ((with_reducible apply G6.r_for)))
local macro_rules | `(tactic| walk_at "W1") => `(tactic| ((with_reducible apply G6.r_truD); walk_at "HL"))
local macro_rules | `(tactic| walk_at "W1") => `(tactic| ((with_reducible apply G6.r_truT); walk_at "HL"))
local macro_rules | `(tactic| walk_at "W1") => `(tactic| ((with_reducible apply G6.r_truL); walk_at "HL"))
local macro_rules | `(tactic| walk_at "W1") => `(tactic| ((with_reducible apply G6.r_tru)))
local macro_rules | `(tactic| walk_at "W1") => `(tactic| ((with_reducible apply G6.r_sl)))
local macro_rules | `(tactic| walk_at "W1") => `(tactic| ((with_reducible apply G6.r_partk)))
local macro_rules | `(tactic| walk_at "W1") => `(tactic| ((with_reducible apply G6.r_part)))
local macro_rules | `(tactic| walk_at "W1") => `(tactic| ((with_reducible apply G6.r_noPart)))
local macro_rules | `(tactic| walk_at "W1") => `(tactic| ((with_reducible apply G6.k_tupT); walk_at "HL"))
local macro_rules | `(tactic| walk_at "W1") => `(tactic| ((with_reducible apply G6.k_tupL); walk_at "HL"))
local macro_rules | `(tactic| walk_at "W1") => `(tactic| ((with_reducible apply G6.k_listT); walk_at "HL"))
local macro_rules | `(tactic| walk_at "W1") => `(tactic| ((with_reducible apply G6.k_listL); walk_at "HL"))
local macro_rules | `(tactic| walk_at "W1") => `(tactic| ((with_reducible apply G6.k_int1)))
local macro_rules | `(tactic| walk_at "W1") => `(tactic| ((with_reducible apply G6.k_min2)))
local macro_rules | `(tactic| walk_at "W1") => `(tactic| ((with_reducible apply G6.k_max2)))
local macro_rules | `(tactic| walk_at "W1") => `(tactic| ((with_reducible apply G6.k_abs)))
local macro_rules | `(tactic| walk_at "W1") => `(tactic| ((with_reducible apply G6.k_lenD); walk_at "HL"))
local macro_rules | `(tactic| walk_at "W1") => `(tactic| ((with_reducible apply G6.k_lenT); walk_at "HL"))
local macro_rules | `(tactic| walk_at "W1") => `(tactic| ((with_reducible apply G6.k_lenL); walk_at "HL"))
local macro_rules | `(tactic| walk_at "W1") => `(tactic| ((with_reducible apply G6.r_bm0L); walk_at "HL"))
local macro_rules | `(tactic| walk_at "W1") => `(tactic| ((with_reducible apply G6.r_bmL); walk_at "HL"))
local macro_rules | `(tactic| walk_at "W1") => `(tactic| ((with_reducible apply G6.r_bm0)))
local macro_rules | `(tactic| walk_at "W1") => `(tactic| ((with_reducible apply G6.r_bm)))
local macro_rules | `(tactic| walk_at "W1") => `(tactic| ((with_reducible apply G6.r_chk)))
local macro_rules | `(tactic| walk_at "W1") => `(tactic| ((with_reducible apply G6.r_chain)))
local macro_rules | `(tactic| walk_at "W1") => `(tactic| ((with_reducible apply G6.r_notk)))
local macro_rules | `(tactic| walk_at "W1") => `(tactic| ((with_reducible apply G6.r_ork)))
local macro_rules | `(tactic| walk_at "W1") => `(tactic| ((with_reducible apply G6.r_andk)))
local macro_rules | `(tactic| walk_at "W1") => `(tactic| ((with_reducible apply G6.r_notV)))
local macro_rules | `(tactic| walk_at "W1") => `(tactic| ((with_reducible apply G6.r_orV)))
local macro_rules | `(tactic| walk_at "W1") => `(tactic| ((with_reducible apply G6.r_andV)))
local macro_rules | `(tactic| walk_at "W1") => `(tactic| ((with_reducible apply G6.r_yes)))
local macro_rules | `(tactic| walk_at "W1") => `(tactic| ((with_reducible apply G6.r_not)))
local macro_rules | `(tactic| walk_at "W1") => `(tactic| ((with_reducible apply G6.r_or)))
local macro_rules | `(tactic| walk_at "W1") => `(tactic| ((with_reducible apply G6.r_and)))
local macro_rules | `(tactic| walk_at "W1") => `(tactic| ((with_reducible apply G6.r_b)))
local macro_rules | `(tactic| walk_at "W1") => `(tactic| ((with_reducible apply G6.r_if)))
local macro_rules | `(tactic| walk_at "W1") => `(tactic| ((with_reducible apply G6.r_lst)))
local macro_rules | `(tactic| walk_at "W1") => `(tactic| ((with_reducible apply G6.r_tup)))
local macro_rules | `(tactic| walk_at "W1") => `(tactic| ((with_reducible apply G6.r_cmp)))
local macro_rules | `(tactic| walk_at "W1") => `(tactic| ((with_reducible apply G6.k_notN)))
local macro_rules | `(tactic| walk_at "W1") => `(tactic| ((with_reducible apply G6.k_isN)))
local macro_rules | `(tactic| walk_at "W1") => `(tactic| ((with_reducible apply G6.r_ne); exact rfl))
local macro_rules | `(tactic| walk_at "W1") => `(tactic| ((with_reducible apply G6.r_eq); exact rfl))
local macro_rules | `(tactic| walk_at "W1") => `(tactic| ((with_reducible apply G6.r_u)))
local macro_rules | `(tactic| walk_at "W1") => `(tactic| ((with_reducible apply G6.r_i0)))
local macro_rules | `(tactic| walk_at "W1") => `(tactic| ((with_reducible apply G6.r_sub)))
local macro_rules | `(tactic| walk_at "W1") => `(tactic| ((with_reducible apply G6.r_add)))
local macro_rules | `(tactic| walk_at "W1") => `(tactic| ((with_reducible apply G6.r_un)))
local macro_rules | `(tactic| walk_at "W1") => `(tactic| ((with_reducible apply G6.r_gsub)))
local macro_rules | `(tactic| walk_at "W1") => `(tactic| ((with_reducible apply G6.r_gtup); walk_at "HL"; rfl))
local macro_rules | `(tactic| walk_at "W1") => `(tactic| ((with_reducible apply G6.r_gcons)))
local macro_rules | `(tactic| walk_at "W1") => `(tactic| ((with_reducible apply G6.r_gnil)))
local macro_rules | `(tactic| walk_at "W1") => `(tactic| ((with_reducible apply G6.r_cont)))
local macro_rules | `(tactic| walk_at "W1") => `(tactic| ((with_reducible apply G6.r_brk)))
local macro_rules | `(tactic| walk_at "W1") => `(tactic| ((with_reducible apply G6.r_retN)))
local macro_rules | `(tactic| walk_at "W1") => `(tactic| ((with_reducible apply G6.r_ret)))
local macro_rules | `(tactic| walk_at "W1") => `(tactic| ((with_reducible apply G6.r_drop)))
local macro_rules | `(tactic| walk_at "W1") => `(tactic| ((with_reducible apply G6.r_next)))
local macro_rules | `(tactic| walk_at "W1") => `(tactic| ((with_reducible apply G6.r_ifF)))
local macro_rules | `(tactic| walk_at "W1") => `(tactic| ((with_reducible apply G6.r_ifT)))
local macro_rules | `(tactic| walk_at "W1") => `(tactic| ((with_reducible apply G6.r_ifs)))
local macro_rules | `(tactic| walk_at "W1") => `(tactic| ((with_reducible apply G6.r_blk)))
local macro_rules | `(tactic| walk_at "W1") => `(tactic| ((with_reducible apply G6.r_test)))
local macro_rules | `(tactic| walk_at "W1") => `(tactic| ((with_reducible apply G6.r_ixT); walk_at "HL"; (first | exact G6.vN_at (by assumption) | exact atI_nat (by first | assumption | rfl | exact G6.refs_get (by assumption)) | rfl)))
local macro_rules | `(tactic| walk_at "W1") => `(tactic| ((with_reducible apply G6.r_ixL); walk_at "HL"; (first | exact G6.vN_at (by assumption) | exact atI_nat (by first | assumption | rfl | exact G6.refs_get (by assumption)) | rfl)))
local macro_rules | `(tactic| walk_at "W1") => `(tactic| ((with_reducible apply G6.r_cb)))
local macro_rules | `(tactic| walk_at "W1") => `(tactic| ((with_reducible apply G6.r_c)))
local macro_rules | `(tactic| walk_at "W1") => `(tactic| ((with_reducible apply G6.r_seq)))
local macro_rules | `(tactic| walk_at "W1") => `(tactic| ((with_reducible apply G6.r_asg)))
local macro_rules | `(tactic| walk_at "W1") => `(tactic| ((with_reducible apply G6.r_name)))
local macro_rules | `(tactic| walk_at "W1") => `(tactic| ((with_reducible apply G6.r_op)))
local macro_rules | `(tactic| walk_at "W1") => `(tactic| ((with_reducible apply G6.r_nil)))
local macro_rules | `(tactic| walk_at "W1") => `(tactic| ((with_reducible apply G6.r_cons)))
local macro_rules | `(tactic| walk_at "W1") => `(tactic| ((with_reducible apply G6.p_fldk); ((with_reducible apply G6.rd_Search_found); assumption; walk_at "HL")))
local macro_rules | `(tactic| walk_at "W1") => `(tactic| ((with_reducible apply G6.p_fldk); ((with_reducible apply G6.rd_Search_graph); assumption; walk_at "HL")))
local macro_rules | `(tactic| walk_at "W1") => `(tactic| ((with_reducible apply G6.p_fldk); ((with_reducible apply G6.rd_Search_pours); assumption; walk_at "HL")))
local macro_rules | `(tactic| walk_at "W1") => `(tactic| ((with_reducible apply G6.p_fldk); ((with_reducible apply G6.rd_Search_folding); assumption; walk_at "HL")))
local macro_rules | `(tactic| walk_at "W1") => `(tactic| ((with_reducible apply G6.p_fldk); ((with_reducible apply G6.rd_NeverSo_standings); assumption; walk_at "HL")))
local macro_rules | `(tactic| walk_at "W1") => `(tactic| ((with_reducible apply G6.p_fldk); ((with_reducible apply G6.rd_Fewest_script); assumption; walk_at "HL")))
local macro_rules | `(tactic| walk_at "W1") => `(tactic| ((with_reducible apply G6.p_fldk); ((with_reducible apply G6.rd_Fewest_number); assumption; walk_at "HL")))
local macro_rules | `(tactic| walk_at "W1") => `(tactic| ((with_reducible apply G6.p_fldk); ((with_reducible apply G6.rd_Book_rows); assumption; walk_at "HL")))
local macro_rules | `(tactic| walk_at "W1") => `(tactic| ((with_reducible apply G6.p_fldk); ((with_reducible apply G6.rd_Kept_book); assumption; walk_at "HL")))
local macro_rules | `(tactic| walk_at "W1") => `(tactic| ((with_reducible apply G6.p_fldk); ((with_reducible apply G6.rd_Forced_book); assumption; walk_at "HL")))
local macro_rules | `(tactic| walk_at "W1") => `(tactic| ((with_reducible apply G6.p_fldk); ((with_reducible apply G6.rd_Forced_rank); assumption; walk_at "HL")))
local macro_rules | `(tactic| walk_at "W1") => `(tactic| ((with_reducible apply G6.p_fldk); ((with_reducible apply G6.rd_Contest_found); assumption; walk_at "HL")))
local macro_rules | `(tactic| walk_at "W1") => `(tactic| ((with_reducible apply G6.p_fldk); ((with_reducible apply G6.rd_Contest_graph); assumption; walk_at "HL")))
local macro_rules | `(tactic| walk_at "W1") => `(tactic| ((with_reducible apply G6.p_fldk); ((with_reducible apply G6.rd_Contest_ended); assumption; walk_at "HL")))
local macro_rules | `(tactic| walk_at "W1") => `(tactic| ((with_reducible apply G6.p_fldk); ((with_reducible apply G6.rd_Contest_start); assumption; walk_at "HL")))
local macro_rules | `(tactic| walk_at "W1") => `(tactic| ((with_reducible apply G6.p_fldk); ((with_reducible apply G6.rd_Contest_pours); assumption; walk_at "HL")))
local macro_rules | `(tactic| walk_at "W1") => `(tactic| ((with_reducible apply G6.p_fldk); ((with_reducible apply G6.rd_Contest_folding); assumption; walk_at "HL")))
local macro_rules | `(tactic| walk_at "W1") => `(tactic| ((with_reducible apply G6.p_fldk); ((with_reducible apply G6.rd_Contest_due); assumption; walk_at "HL")))
local macro_rules | `(tactic| walk_at "W1") => `(tactic| ((with_reducible apply G6.p_fldk); ((with_reducible apply G6.rd_Folding_hues); assumption; walk_at "HL")))
local macro_rules | `(tactic| walk_at "W1") => `(tactic| ((with_reducible apply G6.p_fldk); ((with_reducible apply G6.rd_Folding_homes); assumption; walk_at "HL")))
local macro_rules | `(tactic| walk_at "W1") => `(tactic| ((with_reducible apply G6.p_fldk); ((with_reducible apply G6.rd_Folding_near); assumption; walk_at "HL")))
local macro_rules | `(tactic| walk_at "W1") => `(tactic| ((with_reducible apply G6.p_fldk); ((with_reducible apply G6.rd_Folding_numbers); assumption; walk_at "HL")))
local macro_rules | `(tactic| walk_at "W1") => `(tactic| ((with_reducible apply G6.p_fldk); ((with_reducible apply G6.rd_Picture_marks); assumption; walk_at "HL")))
local macro_rules | `(tactic| walk_at "W1") => `(tactic| ((with_reducible apply G6.p_fldk); ((with_reducible apply G6.rd_Picture_ties); assumption; walk_at "HL")))
local macro_rules | `(tactic| walk_at "W1") => `(tactic| ((with_reducible apply G6.p_fldk); ((with_reducible apply G6.rd_Picture_colours); assumption; walk_at "HL")))
local macro_rules | `(tactic| walk_at "W1") => `(tactic| ((with_reducible apply G6.r_fld)))
local macro_rules | `(tactic| walk_at "W1") => `(tactic| ((with_reducible apply G6.r_var); exact rfl))
section
set_option maxHeartbeats 4000000
set_option Elab.async false
set_option linter.all false
namespace G6
open PySem PySem.Spec PyProof.Rows L2 PySem.W
/-! the heap without the instance that is being made -/
def dr (H : Hp) (x : Addr) : Hp := fun b => if b = x then none else H b
theorem dr_self {H : Hp} {x : Addr} : dr H x x = none := if_pos rfl
theorem dr_ne {H : Hp} {x b : Addr} (h : b ≠ x) : dr H x b = H b := if_neg h
theorem dr_same {H : Hp} {x : Addr} : Same (dr H x) H := fun b o e => by
  by_cases h : b = x
  · rw [h, dr_self] at e; cases e
  · rw [dr_ne h] at e; exact e
theorem dr_mono {H H' : Hp} {x : Addr} (s : Same H H') : Same (dr H x) (dr H' x) := fun b o e => by
  by_cases h : b = x
  · rw [h, dr_self] at e; cases e
  · rw [dr_ne h] at e ⊢; exact s _ _ e
theorem dr_upd {H : Hp} {x : Addr} {o : HO} : dr (upd H x o) x = dr H x := funext fun b => by
  by_cases h : b = x
  · rw [h, dr_self, dr_self]
  · rw [dr_ne h, dr_ne h, upd_ne h]
theorem dr_up {H : Hp} {x : Addr} {o : HO} : Same (dr H x) (upd H x o) := by
  have z := dr_same (H := upd H x o) (x := x)
  rw [dr_upd] at z
  exact z
theorem dr_of {H0 H : Hp} {x : Addr} (s : Same H0 H) (n : H0 x = none) : Same H0 (dr H x) := fun b o e => by
  rw [dr_ne (ne_of_none e n)]
  exact s _ _ e
theorem dr_step {D H H' : Hp} {x : Addr} {o : HO} (d : Same D (dr H x)) (s : Same (upd H x o) H') : Same D (dr H' x) := by
  have z := dr_mono (x := x) s
  rw [dr_upd] at z
  exact d.trans z
end G6
end
section
set_option maxHeartbeats 4000000
set_option Elab.async false
set_option linter.all false
set_option maxRecDepth 100000
namespace G6
open PySem PySem.Spec PyProof.Rows L2 PySem.W
/-! L1: the hand that draws -/
/-- the hand: the cells, the place, the rest, the total -/
def Hand (H : Hp) (a c : Addr) : Prop := ∃ (ns : List Nat) (i : Nat) (j t : Int), H a = some (.lst [.ref c, .int (i : Int), .int j, .int t]) ∧ LN H c ns ∧ ns.length ≤ 63 ∧ i ≤ ns.length ∧ 0 ≤ j ∧ 0 ≤ t ∧ t < 2147483587
theorem Hand.ext {H H' : Hp} {a c : Addr} (h : Hand H a c) (s : Same H H') : Hand H' a c := by
  obtain ⟨ns, i, j, t, h1, h2, h3⟩ := h
  exact ⟨ns, i, j, t, s _ _ h1, s _ _ h2, h3⟩
theorem Hand.ne_ {H : Hp} {a c : Addr} {ns : List Nat} {i : Nat} {j t : Int} (h1 : H a = some (.lst [.ref c, .int (i : Int), .int j, .int t])) (h2 : LN H c ns) : c ≠ a := fun z => by
  rw [z] at h2
  have h2 : H a = some (.lst (vN ns)) := h2
  rw [h1] at h2
  cases ns with
  | nil => simp at h2
  | cons n ns => simp at h2
theorem Hand.put {H : Hp} {a c : Addr} {ns : List Nat} {i : Nat} {j t : Int} (h1 : H a = some (.lst [.ref c, .int (i : Int), .int j, .int t])) (h2 : LN H c ns) (h3 : ns.length ≤ 63) (i' : Nat) (j' t' : Int) (hi : i' ≤ ns.length) (hj : 0 ≤ j') (ht : 0 ≤ t') (ht2 : t' < 2147483587) :
    Hand (upd H a (.lst [.ref c, .int (i' : Int), .int j', .int t'])) a c := ⟨ns, i', j', t', upd_same, (upd_ne (Hand.ne_ h1 h2)).trans h2, h3, hi, hj, ht, ht2⟩
theorem dr_put {H : Hp} {a : Addr} {o : HO} : Same (dr H a) (upd H a o) := dr_up
theorem dr_go {D H : Hp} {a : Addr} (s : Same D H) (n : D a = none) : Same D (dr H a) := dr_of s n
theorem Hand.at_ {H : Hp} {a c : Addr} (h : Hand H a c) : ∃ xs, H a = some (.lst xs) := by
  obtain ⟨ns, i, j, t, h1, _⟩ := h
  exact ⟨_, h1⟩
theorem Hand.cat {H : Hp} {a c : Addr} (h : Hand H a c) : ∃ o, dr H a c = some o := by
  obtain ⟨ns, i, j, t, h1, h2, _⟩ := h
  exact ⟨_, (dr_ne (Hand.ne_ h1 h2)).trans h2⟩
/-- another object is written -/
theorem Hand.upd {H : Hp} {a c b : Addr} {o : HO} (h : Hand H a c) (n1 : b ≠ a) (n2 : b ≠ c) : Hand (upd H b o) a c := by
  obtain ⟨ns, i, j, t, h1, h2, h3⟩ := h
  exact ⟨ns, i, j, t, (upd_ne n1.symm).trans h1, (upd_ne n2.symm).trans h2, h3⟩
/-- what stood beside the hand stands -/
theorem dr_dr {H H' : Hp} {a : Addr} (s : Same (dr H a) H') : Same (dr H a) (dr H' a) := dr_of s dr_self
theorem dr_then {H H' H'' : Hp} {a : Addr} (s : Same (dr H a) H') (s' : Same (dr H' a) H'') : Same (dr H a) H'' := (dr_dr s).trans s'
theorem dr_id {H : Hp} {a : Addr} : Same (dr H a) H := dr_same
theorem r_mod {H : Hp} {Q : VK} {i j : Int} (hj : 0 < j) (h : Q (.int (i % j)) H) : rI (fun _ j => 0 < j) (fun i j => .int (i % j)) (.int i) (.int j) H Q := ⟨i, j, rfl, rfl, hj, h⟩
theorem r_fdv {H : Hp} {Q : VK} {i j : Int} (hj : 0 < j) (hj2 : j < 1073741824) (h : Q (.int (i / j)) H) : rI CDiv (fun i j => .int (i / j)) (.int i) (.int j) H Q := ⟨i, j, rfl, rfl, ⟨hj, hj2⟩, h⟩
theorem r_mul {H : Hp} {Q : VK} {i j : Int} (c : CMul i j) (h : Q (.int (i * j)) H) : rI CMul (fun i j => .int (i * j)) (.int i) (.int j) H Q := ⟨i, j, rfl, rfl, c, h⟩
theorem r_pow {H : Hp} {Q : VK} {i j : Int} (c : CPow i j) (h : Q (.int (i ^ j.toNat)) H) : rI CPow (fun i j => .int (i ^ j.toNat)) (.int i) (.int j) H Q := ⟨i, j, rfl, rfl, c, h⟩
section
variable {P : Program} {w : World} {K : PySem.W.Frag} {mg : Str → Option Value} {base : Heap}
theorem sc_L_mixed : FnScope ["_law_number_here", "_law_turn", "_law_once", "_law_twice"] ["_law_number_here", "_law_turn"] (defScope s_L_mixed) := ⟨rfl, rfl, rfl, by decide +kernel, rfl, by decide +kernel, by decide +kernel⟩
def sp_mix : Sp := fun vs H Q _ => ∃ n t : Int, vs = [.int n, .int t] ∧ (0 ≤ n ∧ n < 2147483648) ∧ (0 ≤ t ∧ t < 2147483648) ∧ ∀ r, 0 ≤ r → Q (.int r) H
theorem ok_mixed (T : TX K mg) : C8.Cal P w K mg base 1 "_law_mixed" sp_mix [] := by
  obtain ⟨fd, F⟩ := T.F_L_mixed
  refine ⟨_, fd, ["_law_number_here", "_law_turn"], [], ?_, T.g_L_mixed, F.kp, (F.bindsN (fun _ _ _ _ _ _ us hl => match us, hl with | [_, _], _ => rfl)), .nil⟩
  refine F.ok sc_L_mixed (fun vs H Q E h => ?_) (fun cdv A outer s H vs Q E hr h => ?_)
  · obtain ⟨n, t, rfl, _⟩ := h
    rfl
  · obtain ⟨n, t, rfl, hn, ht, k⟩ := h
    refine ⟨_, PSs.nox (pss_cons (ps_set (i := 2) sc_L_mixed.nd rfl (.inl rfl) (pe_op op_mod (pe_callTy call_int1K (by rfl) T.f_int (by decide +kernel) (pa_cons (pe_op op_add (pe_op op_add (pe_op op_mul (pv 0) pe_int) (pe_op op_mul (pv 1) pe_int)) pe_int) pa_nil)) pe_int))
      (pss_cons (ps_set (i := 3) sc_L_mixed.nd rfl (.inl rfl) (pe_op op_mod (pe_callTy call_int1K (by rfl) T.f_int (by decide +kernel) (pa_cons (pe_op op_add (pe_op op_add (pe_op op_mul (pv 2) (pv 2)) (pe_op op_mul (pv 1) pe_int)) (pe_op op_fdiv (pv 2) pe_int)) pa_nil)) pe_int))
      (pss_one (ps_ret (pe_op op_fdiv (pe_callTy call_int1K (by rfl) T.f_int (by decide +kernel) (pa_cons (pe_op op_mod (pe_callTy call_int1K (by rfl) T.f_int (by decide +kernel) (pa_cons (pe_op op_add (pe_op op_mul (pv 3) pe_int) (pe_op op_fdiv (pv 2) pe_int)) pa_nil)) pe_int) pa_nil)) pe_int))))), ?_⟩
    try dsimp only [cxOf]
    walk_at "WK"
    refine r_mul (.inl (by omega)) ?_
    walk_at "WK"
    refine r_mul (.inl (by omega)) ?_
    walk_at "WK"
    refine r_mod (by decide) ?_
    have a1 := Int.emod_nonneg (n * 69621 + t * 7907 + 40503) (show (2147483647 : Int) ≠ 0 by decide)
    have a2 := Int.emod_lt_of_pos (n * 69621 + t * 7907 + 40503) (show (0 : Int) < 2147483647 by decide)
    generalize (n * 69621 + t * 7907 + 40503) % 2147483647 = o at a1 a2 ⊢
    walk_at "WK"
    refine r_mul (.inl (by omega)) ?_
    walk_at "WK"
    refine r_mul (.inl (by omega)) ?_
    walk_at "WK"
    refine r_fdv (by decide) (by decide) ?_
    walk_at "WK"
    refine r_mod (by decide) ?_
    have b1 := Int.emod_nonneg (o * o + t * 104723 + o / 131) (show (2147483629 : Int) ≠ 0 by decide)
    have b2 := Int.emod_lt_of_pos (o * o + t * 104723 + o / 131) (show (0 : Int) < 2147483629 by decide)
    generalize (o * o + t * 104723 + o / 131) % 2147483629 = p at b1 b2 ⊢
    walk_at "WK"
    refine r_mul (.inl (by omega)) ?_
    walk_at "WK"
    refine r_fdv (by decide) (by decide) ?_
    walk_at "WK"
    refine r_mod (by decide) ?_
    have c1 := Int.emod_nonneg (p * 48271 + o / 7) (show (2147483579 : Int) ≠ 0 by decide)
    generalize (p * 48271 + o / 7) % 2147483579 = u at c1 ⊢
    walk_at "WK"
    refine r_fdv (by decide) (by decide) ?_
    walk_at "WK"
    exact k _ (Int.ediv_nonneg c1 (by decide))
theorem nat_mod {x m : Int} (hm : 0 < m) : ∃ r : Nat, x % m = (r : Int) ∧ (r : Int) < m := by
  have h1 := Int.emod_nonneg x (show m ≠ 0 by omega)
  have h2 := Int.emod_lt_of_pos x hm
  exact ⟨(x % m).toNat, by omega, by omega⟩
theorem r_mix {H : Hp} {Q : VK} {E : XK} {n t : Int} (h1 : 0 ≤ n) (h2 : n < 2147483648) (h3 : 0 ≤ t) (h4 : t < 2147483648) (k : ∀ r, 0 ≤ r → Q (.int r) H) : sp_mix ([.int n, .int t] ++ []) H Q E := ⟨n, t, rfl, ⟨h1, h2⟩, ⟨h3, h4⟩, k⟩
theorem sc_L_take : FnScope ["_law_hand_here", "_law_many", "_law_cell", "_law_rest"] ["_law_hand_here", "_law_many"] (defScope s_L_take) := ⟨rfl, rfl, rfl, by decide +kernel, rfl, by decide +kernel, by decide +kernel⟩
def sp_take : Sp := fun vs H Q _ => ∃ (a c : Addr) (m : Int), vs = [.ref a, .int m] ∧ Hand H a c ∧ 0 < m ∧ m < 1073741824 ∧ ∀ H' (r : Nat), Same (dr H a) H' → Hand H' a c → (r : Int) < m → Q (.int (r : Int)) H'
theorem ok_take (T : TX K mg) : C8.Cal P w K mg base 2 "_law_take" sp_take [] := by
  have c_L_mixed := ok_mixed (P := P) (w := w) (base := base) T
  obtain ⟨fd, F⟩ := T.F_L_take
  refine ⟨_, fd, ["_law_hand_here", "_law_many"], [], ?_, T.g_L_take, F.kp, (F.bindsN (fun _ _ _ _ _ _ us hl => match us, hl with | [_, _], _ => rfl)), .nil⟩
  refine F.ok sc_L_take (fun vs H Q E h => ?_) (fun cdv A outer s H vs Q E hr h => ?_)
  · obtain ⟨a, c, m, rfl, _⟩ := h
    rfl
  · obtain ⟨a, c, m, rfl, ⟨ns, i, j, t, ha, hc, hl, hi, hj, ht, ht2⟩, hm, hm2, k⟩ := h
    have e0 : atI [V.ref c, .int (i : Int), .int j, .int t] 0 = some (V.ref c) := atI_nat (j := 0) rfl
    have e1 : atI [V.ref c, .int (i : Int), .int j, .int t] 1 = some (V.int (i : Int)) := atI_nat (j := 1) rfl
    have e2 : atI [V.ref c, .int (i : Int), .int j, .int t] 2 = some (V.int j) := atI_nat (j := 2) rfl
    have e3 : atI [V.ref c, .int (i : Int), .int j, .int t] 3 = some (V.int t) := atI_nat (j := 3) rfl
    refine ⟨_, PSs.nox (pss_cons (ps_if (PW.pt (pw_and (pt_cmpR op_eq (pe_ix (ix_list' K rfl) (pv 0) pe_int (fun _ _ => rfl)) pe_int (nomark _)) (pw_and1 (pt_cmpR op_lt (pe_ix (ix_list' K rfl) (pv 0) pe_int (fun _ _ => rfl)) (pe_callB (call_lenK' K rfl) (by rfl) T.f_len (by decide +kernel) (pa_cons (pe_ix (ix_list' K rfl) (pv 0) pe_int (fun _ _ => rfl)) pa_nil)) (nomark _))))) (pss_cons (ps_set (i := 2) sc_L_take.nd rfl (.inl rfl) (pe_ix (ix_list' K rfl) (pe_ix (ix_list' K rfl) (pv 0) pe_int (fun _ _ => rfl)) (pe_ix (ix_list' K rfl) (pv 0) pe_int (fun _ _ => rfl)) (fun _ _ => rfl)))
      (pss_cons (ps_asg (pe_op op_add (pe_ix (ix_list' K rfl) (pv 0) pe_int (fun _ _ => rfl)) pe_int) (pg_sub (pv 0) pe_int set_list))
      (pss_cons (ps_if (pt_cmpR op_lt (pv 2) (pe_op op_pow pe_int pe_int) (nomark _)) (pss_one (ps_ret (pe_op op_mod (pe_callTy call_int1K (by rfl) T.f_int (by decide +kernel) (pa_cons (C8.pe_c (c_L_mixed) hr (by omega) (by rfl) (pa_cons (pe_op op_mod (pe_callTy call_int1K (by rfl) T.f_int (by decide +kernel) (pa_cons (pv 2) pa_nil)) pe_int) (pa_cons (pe_ix (ix_list' K rfl) (pv 0) pe_int (fun _ _ => rfl)) pa_nil))) pa_nil)) (pv 1)))) pss_nil)
      (pss_one (ps_asg (pv 2) (pg_sub (pv 0) pe_int set_list)))))) pss_nil)
      (pss_cons (ps_if (pt_cmpR op_gt (pe_ix (ix_list' K rfl) (pv 0) pe_int (fun _ _ => rfl)) pe_int (nomark _)) (pss_cons (ps_set (i := 3) sc_L_take.nd rfl (.inl rfl) (pe_ix (ix_list' K rfl) (pv 0) pe_int (fun _ _ => rfl)))
      (pss_cons (ps_asg (pe_op op_fdiv (pe_callTy call_int1K (by rfl) T.f_int (by decide +kernel) (pa_cons (pv 3) pa_nil)) (pv 1)) (pg_sub (pv 0) pe_int set_list))
      (pss_one (ps_ret (pe_op op_mod (pe_callTy call_int1K (by rfl) T.f_int (by decide +kernel) (pa_cons (pv 3) pa_nil)) (pv 1)))))) pss_nil)
      (pss_cons (ps_asg (pe_op op_mod (pe_callTy call_int1K (by rfl) T.f_int (by decide +kernel) (pa_cons (pe_op op_add (pe_ix (ix_list' K rfl) (pv 0) pe_int (fun _ _ => rfl)) pe_int) pa_nil)) pe_int) (pg_sub (pv 0) pe_int set_list))
      (pss_one (ps_ret (pe_op op_mod (pe_callTy call_int1K (by rfl) T.f_int (by decide +kernel) (pa_cons (C8.pe_c (c_L_mixed) hr (by omega) (by rfl) (pa_cons (pe_ix (ix_list' K rfl) (pv 0) pe_int (fun _ _ => rfl)) (pa_cons (pe_ix (ix_list' K rfl) (pv 0) pe_int (fun _ _ => rfl)) pa_nil))) pa_nil)) (pv 1))))))), ?_⟩
    try dsimp only [cxOf]
    walk_at "WK"
    by_cases h1 : j = 0 ∧ i < ns.length
    · obtain ⟨rfl, hin⟩ := h1
      obtain ⟨v, hv⟩ := getElem?_of_lt hin
      have ev : atI (vN ns) (i : Int) = some (V.int (v : Int)) := vN_at hv
      refine r_ifT2 rfl ?_
      walk_at "WK"
      refine r_setL ha (j := 1) rfl ?_
      have hc1 : LN (upd H a (.lst [.ref c, .int ((i + 1 : Nat) : Int), .int 0, .int t])) c ns := (upd_ne (Hand.ne_ ha hc)).trans hc
      have hP := Hand.put ha hc hl (i + 1) 0 t (by omega) (by omega) ht ht2
      have s1 : Same (dr H a) (upd H a (.lst [.ref c, .int ((i + 1 : Nat) : Int), .int 0, .int t])) := dr_put
      have ha1 : upd H a (.lst [.ref c, .int ((i + 1 : Nat) : Int), .int 0, .int t]) a = some (.lst [.ref c, .int ((i + 1 : Nat) : Int), .int 0, .int t]) := upd_same
      show _
      simp only [List.set, show ((i : Int) + 1) = ((i + 1 : Nat) : Int) by omega]
      generalize upd H a (.lst [.ref c, .int ((i + 1 : Nat) : Int), .int 0, .int t]) = H1 at hc1 hP s1 ha1 ⊢
      have g1 : atI [V.ref c, .int ((i + 1 : Nat) : Int), .int 0, .int t] 1 = some (V.int ((i + 1 : Nat) : Int)) := atI_nat (j := 1) rfl
      walk_at "WK"
      refine r_pow ⟨by decide, by decide, by decide⟩ ?_
      generalize (10 : Int) ^ (18 : Int).toNat = N18
      refine r_i0 (r_blk ?_)
      by_cases h2 : (v : Int) < N18
      · refine r_ifT2 (decide_eq_true h2) ?_
        walk_at "WK"
        refine r_mod (by decide) ?_
        have b1 := Int.emod_nonneg (v : Int) (show (2147483647 : Int) ≠ 0 by decide)
        have b2 := Int.emod_lt_of_pos (v : Int) (show (0 : Int) < 2147483647 by decide)
        walk_at "WK"
        refine r_mix b1 (by omega) (by omega) (by omega) fun x hx => ?_
        walk_at "WK"
        obtain ⟨r, er, hr2⟩ := nat_mod (x := x) hm
        refine r_mod hm ?_
        rw [er]
        exact k _ r s1 hP hr2
      · refine r_ifF2 (decide_eq_false h2) ?_
        walk_at "WK"
        refine r_setL ha1 (j := 2) rfl ?_
        have hc2 : LN (upd H1 a (.lst [.ref c, .int ((i + 1 : Nat) : Int), .int (v : Int), .int t])) c ns := (upd_ne (Hand.ne_ ha1 hc1)).trans hc1
        have hP2 := Hand.put ha1 hc1 hl (i + 1) (v : Int) t (by omega) (by omega) ht ht2
        have s12 := dr_then s1 (dr_put (H := H1) (a := a) (o := .lst [.ref c, .int ((i + 1 : Nat) : Int), .int (v : Int), .int t]))
        have ha2 : upd H1 a (.lst [.ref c, .int ((i + 1 : Nat) : Int), .int (v : Int), .int t]) a = some (.lst [.ref c, .int ((i + 1 : Nat) : Int), .int (v : Int), .int t]) := upd_same
        show _
        simp only [List.set]
        generalize upd H1 a (.lst [.ref c, .int ((i + 1 : Nat) : Int), .int (v : Int), .int t]) = H2 at hc2 hP2 s12 ha2 ⊢
        clear s1 ha1 hc1 hP g1
        have s1 := s12
        have ha1 := ha2
        have hc1 := hc2
        have hj1 : (0 : Int) ≤ (v : Int) := by omega
        have hi1 : i + 1 ≤ ns.length := hin
        generalize (v : Int) = j1 at ha1 hj1 ⊢
        generalize i + 1 = i1 at ha1 hi1 ⊢
        have nDD : dr H a a = none := dr_self
        generalize dr H a = DD at s1 k nDD
        generalize H2 = H1 at ha1 hc1 s1 ⊢
        by_cases hj0 : 0 < j1
        · skip
          have f0 : atI [V.ref c, .int (i1 : Int), .int j1, .int t] 2 = some (V.int j1) := atI_nat (j := 2) rfl
          have f1 : atI [V.ref c, .int (i1 : Int), .int j1, .int t] 1 = some (V.int (i1 : Int)) := atI_nat (j := 1) rfl
          have f3 : atI [V.ref c, .int (i1 : Int), .int j1, .int t] 3 = some (V.int t) := atI_nat (j := 3) rfl
          walk_at "WK"
          refine r_fdv hm hm2 ?_
          walk_at "WK"
          refine r_setL ha1 (j := 2) rfl ?_
          obtain ⟨r, er, hr2⟩ := nat_mod (x := j1) hm
          walk_at "WK"
          refine r_mod hm ?_
          rw [er]
          exact k _ r ((dr_go s1 nDD).trans dr_put) (Hand.put ha1 hc1 hl i1 _ t hi1 (Int.ediv_nonneg (by omega) (by omega)) ht ht2) hr2
        · skip
          have f0 : atI [V.ref c, .int (i1 : Int), .int j1, .int t] 2 = some (V.int j1) := atI_nat (j := 2) rfl
          have f1 : atI [V.ref c, .int (i1 : Int), .int j1, .int t] 1 = some (V.int (i1 : Int)) := atI_nat (j := 1) rfl
          have f3 : atI [V.ref c, .int (i1 : Int), .int j1, .int t] 3 = some (V.int t) := atI_nat (j := 3) rfl
          walk_at "WK"
          refine r_mod (by decide) ?_
          have g1 := Int.emod_nonneg (t + 1) (show (2147483587 : Int) ≠ 0 by decide)
          have g2 := Int.emod_lt_of_pos (t + 1) (show (0 : Int) < 2147483587 by decide)
          generalize (t + 1) % 2147483587 = t2 at g1 g2 ⊢
          walk_at "WK"
          refine r_setL ha1 (j := 3) rfl ?_
          have hP := Hand.put ha1 hc1 hl i1 j1 t2 hi1 hj1 g1 g2
          have s2 := (dr_go s1 nDD).trans (dr_put (H := H1) (a := a) (o := .lst [.ref c, .int (i1 : Int), .int j1, .int t2]))
          have ha2 : upd H1 a (.lst [.ref c, .int (i1 : Int), .int j1, .int t2]) a = some (.lst [.ref c, .int (i1 : Int), .int j1, .int t2]) := upd_same
          show _
          simp only [List.set]
          generalize upd H1 a (.lst [.ref c, .int (i1 : Int), .int j1, .int t2]) = H2 at hP s2 ha2 ⊢
          have h1 : atI [V.ref c, .int (i1 : Int), .int j1, .int t2] 1 = some (V.int (i1 : Int)) := atI_nat (j := 1) rfl
          have h3 : atI [V.ref c, .int (i1 : Int), .int j1, .int t2] 3 = some (V.int t2) := atI_nat (j := 3) rfl
          walk_at "WK"
          refine r_mix g1 (by omega) (by omega) (by omega) fun x hx => ?_
          walk_at "WK"
          obtain ⟨r, er, hr2⟩ := nat_mod (x := x) hm
          refine r_mod hm ?_
          rw [er]
          exact k _ r s2 hP hr2
    · have s1 : Same (dr H a) H := dr_same
      have ha1 := ha
      have hc1 := hc
      have hj1 := hj
      have hi1 := hi
      by_cases h0 : j = 0
      · have hin : ¬ i < ns.length := fun z => h1 ⟨h0, z⟩
        have hvl := vN_len ns
        have hz : ¬ (i : Int) < ((vN ns).length : Int) := by omega
        refine r_ifT2 (by rw [h0]; exact decide_eq_true rfl) ?_
        refine r_test (r_op (r_op (r_var rfl (r_c (r_ixL ha e1 (r_cb (r_cons (r_op (r_var rfl (r_c (r_ixL ha e0 (r_nil (k_lenL hc (r_i0 (r_blk (r_ifF2 (decide_eq_false hz) ?_))))))))))))))))
        generalize hj1e : j = j1 at ha1 hj1 h0 ⊢
        generalize hi1e : i = i1 at ha1 hi1 hz hin ⊢
        have nDD : dr H a a = none := dr_self
        generalize dr H a = DD at s1 k nDD
        generalize hHe : H = H1 at ha1 hc1 s1 ⊢
        have hj0 : ¬ 0 < j1 := by omega
        have f0 : atI [V.ref c, .int (i1 : Int), .int j1, .int t] 2 = some (V.int j1) := atI_nat (j := 2) rfl
        have f1 : atI [V.ref c, .int (i1 : Int), .int j1, .int t] 1 = some (V.int (i1 : Int)) := atI_nat (j := 1) rfl
        have f3 : atI [V.ref c, .int (i1 : Int), .int j1, .int t] 3 = some (V.int t) := atI_nat (j := 3) rfl
        walk_at "WK"
        refine r_mod (by decide) ?_
        have g1 := Int.emod_nonneg (t + 1) (show (2147483587 : Int) ≠ 0 by decide)
        have g2 := Int.emod_lt_of_pos (t + 1) (show (0 : Int) < 2147483587 by decide)
        generalize (t + 1) % 2147483587 = t2 at g1 g2 ⊢
        walk_at "WK"
        refine r_setL ha1 (j := 3) rfl ?_
        have hP := Hand.put ha1 hc1 hl i1 j1 t2 hi1 hj1 g1 g2
        have s2 := (dr_go s1 nDD).trans (dr_put (H := H1) (a := a) (o := .lst [.ref c, .int (i1 : Int), .int j1, .int t2]))
        have ha2 : upd H1 a (.lst [.ref c, .int (i1 : Int), .int j1, .int t2]) a = some (.lst [.ref c, .int (i1 : Int), .int j1, .int t2]) := upd_same
        show _
        simp only [List.set]
        generalize upd H1 a (.lst [.ref c, .int (i1 : Int), .int j1, .int t2]) = H2 at hP s2 ha2 ⊢
        have h1 : atI [V.ref c, .int (i1 : Int), .int j1, .int t2] 1 = some (V.int (i1 : Int)) := atI_nat (j := 1) rfl
        have h3 : atI [V.ref c, .int (i1 : Int), .int j1, .int t2] 3 = some (V.int t2) := atI_nat (j := 3) rfl
        walk_at "WK"
        refine r_mix g1 (by omega) (by omega) (by omega) fun x hx => ?_
        walk_at "WK"
        obtain ⟨r, er, hr2⟩ := nat_mod (x := x) hm
        refine r_mod hm ?_
        rw [er]
        exact k _ r s2 hP hr2
      · refine r_ifF2 (decide_eq_false fun z => h0 (V.int.inj z)) ?_
        refine r_ifF ?_
        generalize hj1e : j = j1 at ha1 hj1 h0 ⊢
        generalize hi1e : i = i1 at ha1 hi1 ⊢
        have nDD : dr H a a = none := dr_self
        generalize dr H a = DD at s1 k nDD
        generalize hHe : H = H1 at ha1 hc1 s1 ⊢
        have hj0 : 0 < j1 := by omega
        have f0 : atI [V.ref c, .int (i1 : Int), .int j1, .int t] 2 = some (V.int j1) := atI_nat (j := 2) rfl
        have f1 : atI [V.ref c, .int (i1 : Int), .int j1, .int t] 1 = some (V.int (i1 : Int)) := atI_nat (j := 1) rfl
        have f3 : atI [V.ref c, .int (i1 : Int), .int j1, .int t] 3 = some (V.int t) := atI_nat (j := 3) rfl
        walk_at "WK"
        refine r_fdv hm hm2 ?_
        walk_at "WK"
        refine r_setL ha1 (j := 2) rfl ?_
        obtain ⟨r, er, hr2⟩ := nat_mod (x := j1) hm
        walk_at "WK"
        refine r_mod hm ?_
        rw [er]
        exact k _ r ((dr_go s1 nDD).trans dr_put) (Hand.put ha1 hc1 hl i1 _ t hi1 (Int.ediv_nonneg (by omega) (by omega)) ht ht2) hr2
theorem r_take {H : Hp} {Q : VK} {E : XK} {a c : Addr} {m : Int} (h : Hand H a c) (h0 : 0 < m) (h1 : m < 1073741824) (k : ∀ H' (r : Nat), Same (dr H a) H' → Hand H' a c → (r : Int) < m → Q (.int (r : Int)) H') : sp_take ([.ref a, .int m] ++ []) H Q E := ⟨a, c, m, rfl, h, h0, h1, k⟩
theorem sc_L_hand : FnScope ["_law_script", "_law_total", "_law_cells", "_law_cell"] ["_law_script"] (defScope s_L_hand) := ⟨rfl, rfl, rfl, by decide +kernel, rfl, by decide +kernel, by decide +kernel⟩
def sp_hand (K : PySem.W.Frag) : Sp := fun vs H Q _ => ∃ (s : Addr) (ns : List Int), vs = [.ref s] ∧ SqL K H s (ns.map V.int) ∧ ns.length ≤ 63 ∧ ∀ H' a c, Same H H' → Hand H' a c → H a = none → Q (.ref a) H'
theorem ok_hand (T : TX K mg) : C8.Cal P w K mg base 1 "_law_hand" (sp_hand K) [] := by
  obtain ⟨fd, F⟩ := T.F_L_hand
  refine ⟨_, fd, ["_law_script"], [], ?_, T.g_L_hand, F.kp, (F.bindsN (fun _ _ _ _ _ _ us hl => match us, hl with | [_], _ => rfl)), .nil⟩
  refine F.ok sc_L_hand (fun vs H Q E h => ?_) (fun cdv A outer s H vs Q E hr h => ?_)
  · obtain ⟨s, ns, rfl, _⟩ := h
    rfl
  · obtain ⟨sA, ns, rfl, hs, hl, k⟩ := h
    refine ⟨_, PSs.nox (pss_cons (ps_set (i := 1) sc_L_hand.nd rfl (.inl rfl) (pe_op op_add (pe_callB (call_lenK' K rfl) (by rfl) T.f_len (by decide +kernel) (pa_cons (pv 0) pa_nil)) pe_int))
      (pss_cons (ps_set (i := 2) sc_L_hand.nd rfl (.inl rfl) (pe_lst pa_nil))
      (pss_cons (ps_for PassesOwn.never rfl (pi_list' K rfl (pv 0)) (pg_name (i := 3) sc_L_hand.nd rfl (.inl rfl)) (pss_cons (ps_set (i := 1) sc_L_hand.nd rfl (.inl rfl) (pe_op op_mod (pe_callTy call_int1K (by rfl) T.f_int (by decide +kernel) (pa_cons (pe_op op_add (pe_op op_mul (pv 1) pe_int) (pe_callTy call_int1K (by rfl) T.f_int (by decide +kernel) (pa_cons (pv 3) pa_nil))) pa_nil)) pe_int))
      (pss_one (ps_expr (pe_bm' K rfl PySem.F.plainAttrs_list PySem.F.slot_list_append PySem.F.type_list_append mt_append (pv 2) (pa_cons (pe_callB call_absK (by rfl) T.f_abs (by decide +kernel) (pa_cons (pe_callTy call_int1K (by rfl) T.f_int (by decide +kernel) (pa_cons (pv 3) pa_nil)) pa_nil)) pa_nil))))))
      (pss_one (ps_ret (pe_lst (pa_cons (pv 2) (pa_cons pe_int (pa_cons pe_int (pa_cons (pv 1) pa_nil)))))))))), ?_⟩
    try dsimp only [cxOf]
    walk_at "WK"
    refine ⟨sA, _, rfl, .inl hs, ?_⟩
    walk_at "WK"
    intro cA hcA
    have s1 := same_new hcA (o := .lst [])
    have hc1 : LN (upd H cA (.lst [])) cA [] := upd_same
    walk_at "WK"
    refine ⟨sA, rfl, ⟨_, Same.seq s1 hs⟩, ?_⟩
    refine for_it (walk_list (xs := ns.map V.int)) (fun i σ H' => ∃ t y3, σ = [some (.ref sA), some (.int t), some (.ref cA), y3] ∧ Same H H' ∧ LN H' cA ((ns.take i).map Int.natAbs) ∧ 0 ≤ t ∧ t < 2147483587) ⟨_, _, rfl, s1, hc1, by rw [List.length_map]; omega, by rw [List.length_map]; omega⟩ (fun i σ H' _ h => by obtain ⟨_, _, _, h, _⟩ := h; exact Same.seq h hs) ?_ ?_
    · rintro i x σ H' H9 hi9 ⟨t, y3, rfl, s2, hc2, ht, ht2⟩ ⟨rfl, hx⟩
      rw [List.getElem?_map] at hx
      obtain ⟨v, hv, rfl⟩ := Option.map_eq_some_iff.mp hx
      have hi := (List.getElem?_eq_some_iff.mp hv).1
      walk_at "WK"
      refine r_mul (.inr ⟨by decide, by decide⟩) ?_
      walk_at "WK"
      refine r_mod (by decide) ?_
      have g1 := Int.emod_nonneg (t * 1021 + v) (show (2147483587 : Int) ≠ 0 by decide)
      have g2 := Int.emod_lt_of_pos (t * 1021 + v) (show (0 : Int) < 2147483587 by decide)
      generalize (t * 1021 + v) % 2147483587 = t2 at g1 g2 ⊢
      walk_at "WK"
      refine r_append hc2 (lt_sz (by rw [vN_len, List.length_map, List.length_take]; omega)) ?_
      refine ⟨_, _, rfl, same_of s2 hcA, ?_, g1, g2⟩
      have ev : (if v < 0 then -v else v) = ((v.natAbs : Nat) : Int) := by split <;> omega
      rw [ev, vN_app]
      show upd _ cA _ cA = _
      rw [upd_same, List.take_add_one, hv, List.map_append]
      rfl
    · rintro σ H' ⟨t, y3, rfl, s2, hc2, ht, ht2⟩
      rw [List.length_map, List.take_length] at hc2
      walk_at "WK"
      intro q hq
      have sq := same_new hq (o := .lst [.ref cA, .int 0, .int 0, .int t])
      exact k _ q cA (s2.trans sq) ⟨_, 0, 0, t, upd_same, sq _ _ hc2, by rw [List.length_map]; exact hl, Nat.zero_le _, by decide, ht, ht2⟩ (s2.free hq)
theorem sc_L_colour : FnScope ["_law_hand_here", "_law_kind"] ["_law_hand_here"] (defScope s_L_colour) := ⟨rfl, rfl, rfl, by decide +kernel, rfl, by decide +kernel, by decide +kernel⟩
def sp_col : Sp := fun vs H Q _ => ∃ (a c : Addr), vs = [.ref a] ∧ Hand H a c ∧ ∀ H' (r : Nat), Same (dr H a) H' → Hand H' a c → r ≤ 99 → Q (.int (r : Int)) H'
theorem ok_colour (T : TX K mg) : C8.Cal P w K mg base 3 "_law_colour" sp_col [] := by
  have c_L_take := ok_take (P := P) (w := w) (base := base) T
  obtain ⟨fd, F⟩ := T.F_L_colour
  refine ⟨_, fd, ["_law_hand_here"], [], ?_, T.g_L_colour, F.kp, (F.bindsN (fun _ _ _ _ _ _ us hl => match us, hl with | [_], _ => rfl)), .nil⟩
  refine F.ok sc_L_colour (fun vs H Q E h => ?_) (fun cdv A outer s H vs Q E hr h => ?_)
  · obtain ⟨a, c, rfl, _⟩ := h
    rfl
  · obtain ⟨a, c, rfl, ha, k⟩ := h
    refine ⟨_, PSs.nox (pss_cons (ps_set (i := 1) sc_L_colour.nd rfl (.inl rfl) (C8.pe_c (c_L_take) hr (by omega) (by rfl) (pa_cons (pv 0) (pa_cons pe_int pa_nil))))
      (pss_one (ps_ret (pe_ifExp (pt_cmpR op_eq (pv 1) pe_int (nomark _)) (C8.pe_c (c_L_take) hr (by omega) (by rfl) (pa_cons (pv 0) (pa_cons pe_int pa_nil))) (pe_ifExp (pt_cmpR op_lt (pv 1) pe_int (nomark _)) (C8.pe_c (c_L_take) hr (by omega) (by rfl) (pa_cons (pv 0) (pa_cons pe_int pa_nil))) (C8.pe_c (c_L_take) hr (by omega) (by rfl) (pa_cons (pv 0) (pa_cons pe_int pa_nil)))))))), ?_⟩
    try dsimp only [cxOf]
    walk_at "WK"
    refine r_take ha (by decide) (by decide) fun H1 r1 s1 h1 hr1 => ?_
    by_cases e0 : r1 = 0
    · subst e0
      walk_at "WK"
      refine r_take h1 (by decide) (by decide) fun H2 r2 s2 h2 hr2 => ?_
      exact k _ r2 (dr_then s1 s2) h2 (by omega)
    · by_cases e3 : (r1 : Int) < 3
      · walk_at "WK"
        refine r_take h1 (by decide) (by decide) fun H2 r2 s2 h2 hr2 => ?_
        exact k _ r2 (dr_then s1 s2) h2 (by omega)
      · walk_at "WK"
        refine r_take h1 (by decide) (by decide) fun H2 r2 s2 h2 hr2 => ?_
        exact k _ r2 (dr_then s1 s2) h2 (by omega)
theorem r_col {H : Hp} {Q : VK} {E : XK} {a c : Addr} (h : Hand H a c) (k : ∀ H' (r : Nat), Same (dr H a) H' → Hand H' a c → r ≤ 99 → Q (.int (r : Int)) H') : sp_col ([.ref a] ++ []) H Q E := ⟨a, c, rfl, h, k⟩
end
end G6
end
section
set_option maxHeartbeats 4000000
set_option Elab.async false
set_option linter.all false
set_option maxRecDepth 100000
namespace G6
open PySem PySem.Spec PyProof.Rows L2 PySem.W
/-! L2: small readings for the law's drawing -/
section
variable {K : PySem.W.Frag} {σ : L2.St} {H : Hp} {Q : VK} {a b : Addr} {x y : V} {xs : List V}
def IR2K (R : It → Hp → Prop) (vs : List V) (H1 : Hp) : Prop := ∃ i j : Int, vs = [.int i, .int j] ∧ (-(2 ^ 62) ≤ i ∧ i < 2 ^ 62 ∧ -(2 ^ 62) ≤ j ∧ j < 2 ^ 62) ∧ R (Itr i (j - i).toNat) H1
theorem r_irng2 {ta : TA} {R : It → Hp → Prop} (h : ta σ H (IR2K R)) : iRng2 ta σ H R := h
theorem r_ir2k {i j : Int} {R : It → Hp → Prop} (h1 : -(2 ^ 62) ≤ i) (h2 : i < 2 ^ 62) (h3 : -(2 ^ 62) ≤ j) (h4 : j < 2 ^ 62) (h : R (Itr i (j - i).toNat) H) : IR2K R [.int i, .int j] H := ⟨i, j, rfl, ⟨h1, h2, h3, h4⟩, h⟩
theorem k_slL_f1 (hx : H a = some (.lst xs)) (k : ∀ p, H p = none → Q (.ref p) (upd H p (.lst (xs.drop 1)))) : rSlL K (.ref a) (some 1) none H Q := k_slL_from (i := 1) hx k
theorem k_slL_tN {n : Int} (h0 : 0 ≤ n) (hx : H a = some (.lst xs)) (k : ∀ p, H p = none → Q (.ref p) (upd H p (.lst (xs.take n.toNat)))) : rSlL K (.ref a) none (some n) H Q := by
  obtain ⟨m, rfl⟩ := Int.eq_ofNat_of_zero_le h0
  exact k_slL_to (i := m) hx k
theorem seq_nat {k n : Nat} (h : k < n) : seqIndex? (k : Int) n = some k := by
  unfold seqIndex?
  have z : ¬ ((k : Int) < 0) := by omega
  simp only [if_neg z]
  rw [if_pos (by simp only [Bool.and_eq_true, decide_eq_true_eq]; omega)]
  rfl
/-- xs.pop(k) of a list of numbers -/
theorem r_popN {ns : List Nat} {k : Nat} {v : Nat} (hx : LN H a ns) (hl : ns.length ≤ 10000) (hv : ns[k]? = some v) (h : Q (.int (v : Int)) (upd H a (.lst (vN (ns.eraseIdx k))))) : rPopAt (.ref a) [.int (k : Int)] H Q := by
  have hk := (List.getElem?_eq_some_iff.mp hv).1
  refine r_popAt (k := k) hx (by omega) (by omega) (seq_nat (by rw [vN_len]; exact hk)) (y := .int (v : Int)) (by show (List.map _ ns)[k]? = _; rw [List.getElem?_map, hv]; rfl) ?_
  have e : (vN ns).eraseIdx k = vN (ns.eraseIdx k) := by
    show (List.map _ ns).eraseIdx k = List.map _ _
    rw [List.eraseIdx_eq_take_drop_succ, List.eraseIdx_eq_take_drop_succ, List.map_append, List.map_take, List.map_drop]
  rw [e]
  exact h
theorem rgV_nat (n : Nat) : rgV 0 (n : Int) = vN (List.range n) := by
  unfold rgV vN
  rw [show ((n : Int) - 0).toNat = n by omega]
  refine List.map_congr_left fun i _ => ?_
  rw [show (0 + (i : Int)) = (i : Int) by omega]
theorem lay_ints : ∀ ns : List Nat, PyData.canLayAll0 (ns.map fun n : Nat => PyData.int (n : Int)) = true
  | [] => by simp [PyData.canLayAll0]
  | n :: ns => by simp [PyData.canLayAll0, PyData.canLay0, lay_ints ns]
theorem dep_ints : ∀ ns : List Nat, PyData.depthAll (ns.map fun n : Nat => PyData.int (n : Int)) ≤ 1
  | [] => by simp [PyData.depthAll]
  | n :: ns => by
    have := dep_ints ns
    simp only [List.map_cons, PyData.depthAll, PyData.depth]
    omega
theorem shaped_ints (ns : List Nat) : SeqAt.shaped (.list (ns.map fun n : Nat => PyData.int (n : Int))) = true := by
  have h := dep_ints ns
  unfold SeqAt.shaped
  rw [Bool.and_eq_true]
  refine ⟨by simp [PyData.canLay0, lay_ints ns], decide_eq_true ?_⟩
  rw [PyData.depth]
  omega
theorem dp_ints : ∀ ns : List Nat, DpAll K H (vN ns) (ns.map fun n : Nat => PyData.int (n : Int))
  | [] => .nil
  | n :: ns => .cons (.int _) (dp_ints ns)
theorem eqv_nil (ns : List Nat) : PyData.eqv (.list (ns.map fun n : Nat => PyData.int (n : Int))) (.list []) = decide (ns = []) := by
  cases ns with
  | nil => simp [PyData.eqv, PyData.eqvAll]
  | cons n ns => simp [PyData.eqv, PyData.eqvAll]
/-- xs != [], xs == [] of a list of numbers -/
theorem r_neNil {ns : List Nat} (hx : LN H a ns) (hy : H b = some (.lst [])) (h : Q (.bl (!decide (ns = []))) H) : rNeD K (.ref a) (.ref b) H Q :=
  ⟨_, _, .lst (SqL.of hx) (dp_ints ns), .lst (SqL.of hy) .nil, shaped_ints ns, shaped_ints [], by rw [eqv_nil]; exact h⟩
theorem r_eqNil {ns : List Nat} (hx : LN H a ns) (hy : H b = some (.lst [])) (h : Q (.bl (decide (ns = []))) H) : rEqD K (.ref a) (.ref b) H Q :=
  ⟨_, _, .lst (SqL.of hx) (dp_ints ns), .lst (SqL.of hy) .nil, shaped_ints ns, shaped_ints [], by rw [eqv_nil]; exact h⟩
/-- xs.index(n) of a list of unlike numbers -/
theorem r_indexN {ns : List Nat} {n j : Nat} (hx : LN H a ns) (hj : ns[j]? = some n) (hd : ns.Nodup) (h : Q (.int (j : Int)) H) : rIndex K (.ref a) [.int (n : Int)] H Q := by
  refine ⟨a, vN ns, .int (n : Int), j, .int (n : Int), rfl, rfl, SqL.of hx, rfl, flat_vN ns, by show (List.map _ ns)[j]? = _; rw [List.getElem?_map, hj]; rfl, by show ((n : Int) == (n : Int)) = true; simp, fun m z' hm hz => ?_, h⟩
  obtain ⟨v, hv, rfl⟩ := vN_inv hz
  show ((v : Int) == (n : Int)) = false
  have : v ≠ n := fun z => by
    subst z
    obtain ⟨p1, q1⟩ := List.getElem?_eq_some_iff.mp hv
    obtain ⟨p2, q2⟩ := List.getElem?_eq_some_iff.mp hj
    have := (List.getElem_inj hd).mp (q1.trans q2.symm)
    omega
  simp
  omega
theorem ins_eq (ns : List Nat) (i n : Nat) : (vN ns).take (i : Int).toNat ++ [V.int (n : Int)] ++ (vN ns).drop (i : Int).toNat = vN (ns.take i ++ [n] ++ ns.drop i) := by
  rw [Int.toNat_natCast, vN_take, vN_dropN]
  simp [vN, List.map_append]
/-! the hand and what is being made beside it -/
theorem Hand.tup {c : Addr} (ha : Hand H a c) : TupSame H (dr H a) := fun b vs e => by
  obtain ⟨xs, h1⟩ := ha.at_
  rw [dr_ne (fun z => by rw [z, h1] at e; cases e)]
  exact e
theorem CpT.tups {H1 H2 : Hp} {as : List Addr} {ps : List (Nat × Nat)} (h : CpT H1 as ps) (t : TupSame H1 H2) : CpT H2 as ps := All2.imp h fun _ _ r => t _ _ r
theorem LN.drH {ns : List Nat} {c : Addr} (h : LN H b ns) (ha : Hand H a c) : LN (dr H a) b ns := by
  obtain ⟨ms, i, j, t, h1, _⟩ := ha
  show dr H a b = _
  rw [dr_ne (fun z => by
    subst z
    have h : H b = some (.lst (vN ns)) := h
    rw [h1] at h
    cases ns with
    | nil => simp at h
    | cons n ns => simp at h)]
  exact h
theorem Hand.fresh {c t : Addr} (h : Hand H a c) (ht : H t = none) : t ≠ a ∧ t ≠ c := by
  obtain ⟨ns, i, j, tt, h1, h2, _⟩ := h
  refine ⟨fun z => ?_, fun z => ?_⟩
  · rw [z, h1] at ht
    cases ht
  · have h2 : H c = some (.lst (vN ns)) := h2
    rw [z, h2] at ht
    cases ht
/-- couples that are being made, in the list at tA -/
structure TiI (H H' : Hp) (a c tA : Addr) (m : Int) (B : Nat) : Prop where
  s : Same (dr H a) H'
  h : Hand H' a c
  ne : tA ≠ a
  nc : tA ≠ c
  new : dr H a tA = none
  cs : ∃ ts ps, H' tA = some (.lst (refs ts)) ∧ CpT H' ts ps ∧ ps.length ≤ B ∧ ∀ p ∈ ps, (p.1 : Int) < m ∧ (p.2 : Int) < m ∧ p.1 ≠ p.2
variable {H' H'' : Hp} {tA c : Addr} {m : Int} {B : Nat}
theorem TiI.go (I : TiI H H' a c tA m B) (s : Same (dr H' a) H'') (h : Hand H'' a c) : TiI H H'' a c tA m B := by
  obtain ⟨ts, ps, h1, h2, h3⟩ := I.cs
  exact ⟨dr_then I.s s, h, I.ne, I.nc, I.new, ts, ps, s _ _ (by rw [dr_ne I.ne]; exact h1), CpT.ext (CpT.tups h2 I.h.tup) s, h3⟩
theorem TiI.le (I : TiI H H' a c tA m B) {B' : Nat} (h : B ≤ B') : TiI H H' a c tA m B' := by
  obtain ⟨ts, ps, h1, h2, h3, h4⟩ := I.cs
  exact ⟨I.s, I.h, I.ne, I.nc, I.new, ts, ps, h1, h2, by omega, h4⟩
/-- ts.append((x, y)) -/
theorem TiI.app (I : TiI H H' a c tA m B) {x y : Int} {t : Addr} (ht : H' t = none) (hx : 0 ≤ x ∧ x < m) (hy : 0 ≤ y ∧ y < m) (hxy : x ≠ y) (hB : B ≤ 1000) {Q : VK} (k : ∀ H'', TiI H H'' a c tA m (B + 1) → Q .non H'') : rAppend (.ref tA) [.ref t] (upd H' t (.tup [.int x, .int y])) Q := by
  obtain ⟨ts, ps, h1, h2, h3, h4⟩ := I.cs
  have st := same_new ht (o := .tup [.int x, .int y])
  have e1 := st _ _ h1
  have hl := h2.len
  have nt : t ≠ tA := (ne_of_none h1 ht).symm
  refine r_append e1 (lt_sz (by rw [List.length_map]; omega)) (k _ ?_)
  have na : a ≠ tA := I.ne.symm
  have tW : TupSame (upd H' t (.tup [.int x, .int y])) (upd (upd H' t (.tup [.int x, .int y])) tA (.lst (refs ts ++ [.ref t]))) := TupSame.mut fun vs e => by rw [e1] at e; cases e
  refine ⟨same_of (I.s.trans st) I.new, (I.h.ext st).upd I.ne I.nc, I.ne, I.nc, I.new, ts ++ [t], ps ++ [(x.toNat, y.toNat)], by rw [upd_same]; simp [refs], All2.snoc (CpT.tups (CpT.ext h2 st) tW) ?_, by rw [List.length_append, List.length_singleton]; omega, fun p hp => ?_⟩
  · show upd _ tA _ t = _
    rw [upd_ne nt, upd_same]
    rw [Int.toNat_of_nonneg hx.1, Int.toNat_of_nonneg hy.1]
  · rcases List.mem_append.mp hp with z | z
    · exact h4 p z
    · rw [List.mem_singleton.mp z]
      show ((x.toNat : Nat) : Int) < m ∧ ((y.toNat : Nat) : Int) < m ∧ x.toNat ≠ y.toNat
      omega
theorem TiI.start {H1 : Hp} {c : Addr} (s : Same (dr H a) H1) (h : Hand H1 a c) (ht : H1 tA = none) : TiI H (upd H1 tA (.lst [])) a c tA m 0 :=
  ⟨s.trans (same_new ht), h.ext (same_new ht), (h.fresh ht).1, (h.fresh ht).2, s.free ht, [], [], upd_same, .nil, Nat.le_refl _, fun _ z => by cases z⟩
end
end G6
end
section
set_option maxHeartbeats 4000000
set_option Elab.async false
set_option linter.all false
set_option maxRecDepth 100000
namespace G6
open PySem PySem.Spec PyProof.Rows L2 PySem.W
theorem perm_pop {L acc : List Nat} {k v : Nat} {L0 : List Nat} (h : (L ++ acc).Perm L0) (hv : L[k]? = some v) : (L.eraseIdx k ++ (acc ++ [v])).Perm L0 := by
  obtain ⟨hk, e⟩ := List.getElem?_eq_some_iff.mp hv
  have e1 : L = L.take k ++ v :: L.drop (k + 1) := by
    have h1 := List.drop_eq_getElem_cons hk
    rw [e] at h1
    rw [← h1, List.take_append_drop]
  have h1 : (v :: L.eraseIdx k).Perm L := by
    rw [List.eraseIdx_eq_take_drop_succ]
    exact List.perm_middle.symm.trans (List.Perm.of_eq e1.symm)
  have h2 : (L.eraseIdx k ++ (acc ++ [v])).Perm ((v :: L.eraseIdx k) ++ acc) := by
    rw [← List.append_assoc]
    exact List.perm_append_comm
  exact (h2.trans (h1.append_right acc)).trans h
theorem r_lstRg {σ : L2.St} {H : Hp} {Q : VK} {i : Nat} {n : Int} (h : σ[i]? = some (some (.int n))) (ok : RgOk 0 n) (k : ∀ q, H q = none → Q (.ref q) (upd H q (.lst (rgV 0 n)))) : tLstRg (tRg1 (tVar i)) σ H Q := ⟨_, h, n, rfl, ok, k⟩
theorem perm_pop_len {L acc : List Nat} {n : Nat} (h : (L ++ acc).Perm (List.range n)) : L.length + acc.length = n := by
  have := h.length_eq
  rw [List.length_append, List.length_range] at this
  exact this
section
variable {P : Program} {w : World} {K : PySem.W.Frag} {mg : Str → Option Value} {base : Heap}
theorem sc_L_unlike : FnScope ["_law_hand_here", "_law_many", "_law_wanted", "_law_left", "_law_turn"] ["_law_hand_here", "_law_many", "_law_wanted"] (defScope s_L_unlike) := ⟨rfl, rfl, rfl, by decide +kernel, rfl, by decide +kernel, by decide +kernel⟩
def sp_unl : Sp := fun vs H Q _ => ∃ (a c : Addr) (m : Nat) (x : Int), vs = [.ref a, .int (m : Int), .int x] ∧ Hand H a c ∧ m ≤ 100 ∧ 0 ≤ x ∧ x ≤ 1000 ∧ ∀ H' q ms, Same (dr H a) H' → Hand H' a c → LN (dr H' a) q ms → ms.Nodup → (∀ v ∈ ms, v < m) → ms.length = min m x.toNat → Q (.ref q) H'
theorem ok_unlike (T : TX K mg) : C8.Cal P w K mg base 3 "_law_unlike" sp_unl [] := by
  have c_L_take := ok_take (P := P) (w := w) (base := base) T
  obtain ⟨fd, F⟩ := T.F_L_unlike
  refine ⟨_, fd, ["_law_hand_here", "_law_many", "_law_wanted"], [], ?_, T.g_L_unlike, F.kp, (F.bindsN (fun _ _ _ _ _ _ us hl => match us, hl with | [_, _, _], _ => rfl)), .nil⟩
  refine F.ok sc_L_unlike (fun vs H Q E h => ?_) (fun cdv A outer s H vs Q E hr h => ?_)
  · obtain ⟨a, c, m, x, rfl, _⟩ := h
    rfl
  · obtain ⟨a, c, m, x, rfl, ha, hm, hx0, hx1, k⟩ := h
    refine ⟨_, PSs.nox (pss_cons (ps_set (i := 3) sc_L_unlike.nd rfl (.inr rfl) (pe_listRg rfl (by rfl) T.f_list (prg_1 (by rfl) T.f_range (pv 1))))
      (pss_one (ps_ret (pe_lc (own := [("_law_turn", 4)]) (g := gName 4) (by rfl) sc_L_unlike.nd (pi_range1 (by rfl) T.f_range (pa_cons (pe_callB (call_min2K rfl) (by rfl) T.f_min (by decide +kernel) (pa_cons (pv 2) (pa_cons (pv 1) pa_nil))) pa_nil)) (blkOk_by (own := [("_law_turn", 4)]) (N := ["_law_hand_here", "_law_many", "_law_wanted", "_law_left", "_law_turn"]) (sc := defScope s_L_unlike) (by decide +kernel)) (fun _ _ _ _ _ => (pg_name (i := 4) sc_L_unlike.nd rfl (.inl rfl))) (fun _ _ _ _ _ => pts_nil) (fun _ _ _ _ _ => (pe_bm' K rfl PySem.F.plainAttrs_list PySem.F.slot_list_pop PySem.F.type_list_pop mt_popAt (pv 3) (pa_cons (C8.pe_c (c_L_take) hr (by omega) (by rfl) (pa_cons (pv 0) (pa_cons (pe_callB (call_lenK' K rfl) (by rfl) T.f_len (by decide +kernel) (pa_cons (pv 3) pa_nil)) pa_nil))) pa_nil))))))), ?_⟩
    try dsimp only [cxOf]
    walk_at "WK"
    refine r_lstRg rfl (RgOk.of_le (by omega) (by omega) (by omega) (by omega)) fun lA hlA => ?_
    rw [rgV_nat]
    have sl := (dr_same (x := a)).trans (same_new hlA (o := .lst (vN (List.range m))))
    have hh := ha.ext (same_new hlA (o := .lst (vN (List.range m))))
    have hL1 : LN (upd H lA (.lst (vN (List.range m)))) lA (List.range m) := upd_same
    obtain ⟨nla, nlc⟩ := ha.fresh hlA
    have nl : dr H a lA = none := (dr_same (x := a)).free hlA
    generalize upd H lA (.lst (vN (List.range m))) = H1 at sl hh hL1 ⊢
    walk_at "WK"
    have hz : (if (m : Int) < x then (m : Int) else x) = ((min m x.toNat : Nat) : Int) := by split <;> omega
    rw [hz]
    have hmin : min m x.toNat ≤ m := Nat.min_le_left _ _
    generalize min m x.toNat = n at k hz hmin ⊢
    refine r_ir1k (by omega) (by omega) ?_
    rw [Int.toNat_natCast]
    refine lc_R (fun D i H' => Same (dr H a) H' ∧ Hand H' a c ∧ D ≠ a ∧ D ≠ c ∧ D ≠ lA ∧ dr H a D = none ∧ ∃ L acc, LN H' lA L ∧ LN H' D acc ∧ (L ++ acc).Perm (List.range m) ∧ acc.length = i) (fun D hD => ?_) ?_ ?_
    · have sD := same_new hD (o := .lst [])
      exact ⟨sl.trans sD, hh.ext sD, (hh.fresh hD).1, (hh.fresh hD).2, (ne_of_none hL1 hD).symm, sl.free hD, List.range m, [], sD _ _ hL1, upd_same, by rw [List.append_nil], rfl⟩
    · rintro D i H' hi ⟨s1, h1, na, nc, nDl, nD, L, acc, hL, hD, hp, hl⟩
      have hlen := perm_pop_len hp
      have hvl := vN_len L
      walk_at "WK"
      refine r_take h1 (by omega) (by omega) fun H2 r s2 h2 hr2 => ?_
      have hL2 : LN H2 lA L := s2 _ _ ((dr_ne nla).trans hL)
      have hD2 : LN H2 D acc := s2 _ _ ((dr_ne na).trans hD)
      obtain ⟨v, hv⟩ := getElem?_of_lt (ls := L) (i := r) (by omega)
      refine r_popN hL2 (by omega) hv ?_
      have hD3 : LN (upd H2 lA (.lst (vN (L.eraseIdx r)))) D acc := (upd_ne nDl).trans hD2
      refine r_eltk hD3 (lt_sz (by rw [vN_len]; omega)) ?_
      rw [vN_app]
      refine ⟨same_of (same_of (dr_then s1 s2) nl) nD, (h2.upd nla nlc).upd na nc, na, nc, nDl, nD, L.eraseIdx r, acc ++ [v], (upd_ne nDl.symm).trans upd_same, upd_same, perm_pop hp hv, by rw [List.length_append, List.length_singleton, hl]⟩
    · rintro D H' ⟨s1, h1, na, nc, nDl, nD, L, acc, hL, hD, hp, hl⟩
      have hnd := hp.nodup_iff.mpr List.nodup_range
      exact k _ D acc s1 h1 ((dr_ne na).trans hD) (List.nodup_append.mp hnd).2.1 (fun v hv => List.mem_range.mp (hp.mem_iff.mp (List.mem_append.mpr (.inr hv)))) hl
end
end G6
end
section
set_option maxHeartbeats 4000000
set_option Elab.async false
set_option linter.all false
set_option maxRecDepth 100000
namespace G6
open PySem PySem.Spec PyProof.Rows L2 PySem.W
section
variable {P : Program} {w : World} {K : PySem.W.Frag} {mg : Str → Option Value} {base : Heap}
theorem sc_L_hues : FnScope ["_law_hand_here", "_law_colours", "_law_most", "_law_pool", "_law_colour_here", "_law_out", "_law_turn"] ["_law_hand_here", "_law_colours", "_law_most"] (defScope s_L_hues) := ⟨rfl, rfl, rfl, by decide +kernel, rfl, by decide +kernel, by decide +kernel⟩
def sp_hues : Sp := fun vs H Q _ => ∃ (a c l : Addr) (cols : List Nat), vs = [.ref a, .ref l, .int 3] ∧ Hand H a c ∧ LN (dr H a) l cols ∧ cols.length ≤ 1000 ∧ (∀ v ∈ cols, v ≤ 99) ∧ ∀ H' q hs, Same (dr H a) H' → Hand H' a c → LN (dr H' a) q hs → hs.Nodup → (∀ v ∈ hs, v ≤ 99) → 1 ≤ hs.length → hs.length ≤ 3 → Q (.ref q) H'
theorem ok_hues (T : TX K mg) : C8.Cal P w K mg base 4 "_law_hues" sp_hues [] := by
  have c_L_take := ok_take (P := P) (w := w) (base := base) T
  have c_L_colour := ok_colour (P := P) (w := w) (base := base) T
  obtain ⟨fd, F⟩ := T.F_L_hues
  refine ⟨_, fd, ["_law_hand_here", "_law_colours", "_law_most"], [], ?_, T.g_L_hues, F.kp, (F.bindsN (fun _ _ _ _ _ _ us hl => match us, hl with | [_, _, _], _ => rfl)), .nil⟩
  refine F.ok sc_L_hues (fun vs H Q E h => ?_) (fun cdv A outer s H vs Q E hr h => ?_)
  · obtain ⟨a, c, l, cols, rfl, _⟩ := h
    rfl
  · obtain ⟨a, c, l, cols, rfl, ha, hcols, hcl, hc99, k⟩ := h
    have hl0 := dr_same _ _ hcols
    refine ⟨_, PSs.nox (pss_cons (ps_set (i := 3) sc_L_hues.nd rfl (.inl rfl) (pe_lst pa_nil))
      (pss_cons (ps_for PassesOwn.never rfl (pi_list' K rfl (pe_op op_cat (pe_callTy (call_listK' K rfl) (by rfl) T.f_list (by decide +kernel) (pa_cons (pv 1) pa_nil)) (pe_lst (pa_cons pe_int (pa_cons pe_int (pa_cons pe_int (pa_cons (C8.pe_c (c_L_colour) hr (by omega) (by rfl) (pa_cons (pv 0) pa_nil)) pa_nil))))))) (pg_name (i := 4) sc_L_hues.nd rfl (.inl rfl)) (pss_one (ps_if (pt_cmpR (op_notIn_seq' K rfl) (pv 4) (pv 3) (by rfl)) (pss_one (ps_expr (pe_bm' K rfl PySem.F.plainAttrs_list PySem.F.slot_list_append PySem.F.type_list_append mt_append (pv 3) (pa_cons (pv 4) pa_nil)))) pss_nil)))
      (pss_cons (ps_set (i := 5) sc_L_hues.nd rfl (.inl rfl) (pe_lst pa_nil))
      (pss_cons (ps_for PassesOwn.never rfl (pi_range1 (by rfl) T.f_range (pa_cons (pe_op op_add pe_int (C8.pe_c (c_L_take) hr (by omega) (by rfl) (pa_cons (pv 0) (pa_cons (pv 2) pa_nil)))) pa_nil)) (pg_name (i := 6) sc_L_hues.nd rfl (.inl rfl)) (pss_one (ps_if (pt_cmpR (op_neD' K rfl hr.units) (pv 3) (pe_lst pa_nil) (nomark _)) (pss_one (ps_expr (pe_bm' K rfl PySem.F.plainAttrs_list PySem.F.slot_list_append PySem.F.type_list_append mt_append (pv 5) (pa_cons (pe_bm' K rfl PySem.F.plainAttrs_list PySem.F.slot_list_pop PySem.F.type_list_pop mt_popAt (pv 3) (pa_cons (C8.pe_c (c_L_take) hr (by omega) (by rfl) (pa_cons (pv 0) (pa_cons (pe_callB (call_lenK' K rfl) (by rfl) T.f_len (by decide +kernel) (pa_cons (pv 3) pa_nil)) pa_nil))) pa_nil)) pa_nil)))) pss_nil)))
      (pss_one (ps_ret (pv 5))))))), ?_⟩
    try dsimp only [cxOf]
    walk_at "WK"
    intro pA hpA
    obtain ⟨npa, npc⟩ := ha.fresh hpA
    have np : dr H a pA = none := (dr_same (x := a)).free hpA
    have s1 := (dr_same (x := a)).trans (same_new hpA (o := .lst []))
    have h1 := ha.ext (same_new hpA (o := .lst []))
    have hp1 : LN (upd H pA (.lst [])) pA [] := upd_same
    have hl1 := same_new hpA (o := .lst []) _ _ hl0
    generalize upd H pA (.lst []) = H1 at s1 h1 hp1 hl1 ⊢
    walk_at "WK"
    intro l1 hl1n
    obtain ⟨nla, nlc⟩ := h1.fresh hl1n
    have s2 := s1.trans (same_new hl1n (o := .lst (vN cols)))
    have h2 := h1.ext (same_new hl1n (o := .lst (vN cols)))
    have hp2 := same_new hl1n (o := .lst (vN cols)) _ _ hp1
    have hl2 : LN (upd H1 l1 (.lst (vN cols))) l1 cols := upd_same
    generalize upd H1 l1 (.lst (vN cols)) = H2 at s2 h2 hp2 hl2 ⊢
    walk_at "WK"
    refine r_col h2 fun H3 r s3 h3 hr3 => ?_
    have hp3 := s3 _ _ ((dr_ne npa).trans hp2)
    have hl3 := s3 _ _ ((dr_ne nla).trans hl2)
    have s03 := dr_then s2 s3
    walk_at "WK"
    intro l2 hl2n
    have s4 := s03.trans (same_new hl2n (o := .lst [.int 0, .int 1, .int 2, .int (r : Int)]))
    have h4 := h3.ext (same_new hl2n (o := .lst [.int 0, .int 1, .int 2, .int (r : Int)]))
    have hp4 := same_new hl2n (o := .lst [.int 0, .int 1, .int 2, .int (r : Int)]) _ _ hp3
    have hl4 := same_new hl2n (o := .lst [.int 0, .int 1, .int 2, .int (r : Int)]) _ _ hl3
    have hm4 : upd H3 l2 (.lst [.int 0, .int 1, .int 2, .int (r : Int)]) l2 = some (.lst [.int 0, .int 1, .int 2, .int (r : Int)]) := upd_same
    generalize upd H3 l2 (.lst [.int 0, .int 1, .int 2, .int (r : Int)]) = H4 at s4 h4 hp4 hl4 hm4 ⊢
    refine r_cat hl4 hm4 (le_sz (by rw [vN_len]; simp only [List.length_cons, List.length_nil]; omega)) fun l3 hl3n => ?_
    have ez : vN cols ++ [V.int 0, .int 1, .int 2, .int (r : Int)] = vN (cols ++ [0, 1, 2, r]) := by simp [vN]
    rw [ez]
    have hz99 : ∀ v ∈ cols ++ [0, 1, 2, r], v ≤ 99 := fun v hv => by
      rcases List.mem_append.mp hv with z | z
      · exact hc99 v z
      · simp only [List.mem_cons, List.not_mem_nil, or_false] at z
        omega
    have hzl : (cols ++ [0, 1, 2, r]).length = cols.length + 4 := by rw [List.length_append]; rfl
    generalize cols ++ [0, 1, 2, r] = zs at hz99 hzl ⊢
    have s5 := s4.trans (same_new hl3n (o := .lst (vN zs)))
    have h5 := h4.ext (same_new hl3n (o := .lst (vN zs)))
    have hp5 := same_new hl3n (o := .lst (vN zs)) _ _ hp4
    have hz5 : LN (upd H4 l3 (.lst (vN zs))) l3 zs := upd_same
    have n3p : l3 ≠ pA := (ne_of_none hp4 hl3n).symm
    generalize upd H4 l3 (.lst (vN zs)) = H5 at s5 h5 hp5 hz5 ⊢
    walk_at "WK"
    refine for_L (xs := vN zs) (fun i σ H' => ∃ y4 L, σ = [some (.ref a), some (.ref l), some (.int 3), some (.ref pA), y4, none, none] ∧ Same (dr H a) H' ∧ Hand H' a c ∧ LN H' l3 zs ∧ LN H' pA L ∧ L.Nodup ∧ (∀ v ∈ L, v ≤ 99) ∧ L.length ≤ i ∧ (1 ≤ i → L ≠ [])) ⟨_, [], rfl, s5, h5, hz5, hp5, List.nodup_nil, (fun _ z => by cases z), Nat.le_refl _, fun z => by omega⟩ (fun i σ H' _ h => by obtain ⟨_, _, _, _, _, h, _⟩ := h; exact h) ?_ ?_
    · rintro i x σ H' hx ⟨y4, L, rfl, s6, h6, hz6, hp6, hnd, h99, hLl, hne⟩
      obtain ⟨v, hv, rfl⟩ := vN_inv hx
      have hi := (List.getElem?_eq_some_iff.mp hv).1
      walk_at "WK"
      rw [if_pos rfl]
      by_cases hin : v ∈ L
      · rw [decide_eq_true hin]
        walk_at "WK"
        exact ⟨_, L, rfl, s6, h6, hz6, hp6, hnd, h99, by omega, fun _ z => by rw [z] at hin; cases hin⟩
      · rw [decide_eq_false hin]
        walk_at "WK"
        refine r_append hp6 (lt_sz (by rw [vN_len]; omega)) ?_
        rw [vN_app]
        exact ⟨_, L ++ [v], rfl, same_of s6 np, h6.upd npa npc, (upd_ne n3p).trans hz6, upd_same, List.nodup_append.mpr ⟨hnd, by simp, fun p hp q hq => by
            rw [List.mem_singleton] at hq
            exact fun z => hin (by rw [← hq, ← z]; exact hp)⟩, fun u hu => by
            rcases List.mem_append.mp hu with z | z
            · exact h99 u z
            · rw [List.mem_singleton.mp z]
              exact hz99 v (List.mem_of_getElem? hv), by rw [List.length_append, List.length_singleton]; omega, fun _ z => by simp at z⟩
    · rintro σ H6 ⟨y4, L0, rfl, s6, h6, hz6, hp6, hnd0, h990, hLl, hne⟩
      have hne0 := hne (by rw [vN_len]; omega)
      rw [vN_len] at hLl
      walk_at "WK"
      intro oA hoA
      obtain ⟨noa, noc⟩ := h6.fresh hoA
      have no : dr H a oA = none := s6.free hoA
      have nop : oA ≠ pA := (ne_of_none hp6 hoA).symm
      have s7 := s6.trans (same_new hoA (o := .lst []))
      have h7 := h6.ext (same_new hoA (o := .lst []))
      have hp7 := same_new hoA (o := .lst []) _ _ hp6
      have ho7 : LN (upd H6 oA (.lst [])) oA [] := upd_same
      generalize upd H6 oA (.lst []) = H7 at s7 h7 hp7 ho7 ⊢
      walk_at "WK"
      refine r_take h7 (by decide) (by decide) fun H8 r8 s8 h8 hr8 => ?_
      have s08 := dr_then s7 s8
      have hp8 := s8 _ _ ((dr_ne npa).trans hp7)
      have ho8 := s8 _ _ ((dr_ne noa).trans ho7)
      walk_at "WK"
      refine r_ir1k (by omega) (by omega) ?_
      rw [show ((1 : Int) + (r8 : Int)).toNat = r8 + 1 by omega]
      refine for_R (fun i σ H' => ∃ y6 L out, σ = [some (.ref a), some (.ref l), some (.int 3), some (.ref pA), y4, some (.ref oA), y6] ∧ Same (dr H a) H' ∧ Hand H' a c ∧ LN H' pA L ∧ LN H' oA out ∧ (L ++ out).Perm L0 ∧ out.length ≤ i ∧ (1 ≤ i → out ≠ [])) ⟨_, L0, [], rfl, s08, h8, hp8, ho8, by rw [List.append_nil], Nat.le_refl _, fun z => by omega⟩ ?_ ?_
      · rintro i σ H' hi ⟨y6, L, out, rfl, s9, h9, hp9, ho9, hperm, hol, hone⟩
        have hlen := hperm.length_eq
        rw [List.length_append] at hlen
        have hvl := vN_len L
        walk_at "WK"
        intro lE hlE
        have sE := same_new hlE (o := .lst [])
        have s10 := s9.trans sE
        have h10 := h9.ext sE
        have hp10 := sE _ _ hp9
        have ho10 := sE _ _ ho9
        have hE : upd H' lE (.lst []) lE = some (.lst []) := upd_same
        refine r_neNil hp10 hE ?_
        generalize upd H' lE (.lst []) = H10 at s10 h10 hp10 ho10 ⊢
        by_cases hL : L = []
        · rw [decide_eq_true hL]
          walk_at "WK"
          refine ⟨_, L, out, rfl, s10, h10, hp10, ho10, hperm, by omega, fun _ z => ?_⟩
          rw [hL, z] at hperm
          exact hne0 (hperm.symm.eq_nil)
        · rw [decide_eq_false hL]
          have hLp := List.length_pos_iff.mpr hL
          walk_at "WK"
          refine r_take h10 (by omega) (by omega) fun H11 r11 s11 h11 hr11 => ?_
          have hp11 := s11 _ _ ((dr_ne npa).trans hp10)
          have ho11 := s11 _ _ ((dr_ne noa).trans ho10)
          obtain ⟨v, hv⟩ := getElem?_of_lt (ls := L) (i := r11) (by omega)
          refine r_nil (r_popN hp11 (by omega) hv ?_)
          have ho12 : LN (upd H11 pA (.lst (vN (L.eraseIdx r11)))) oA out := (upd_ne nop).trans ho11
          walk_at "WK"
          refine r_append ho12 (lt_sz (by rw [vN_len]; omega)) ?_
          rw [vN_app]
          exact ⟨_, L.eraseIdx r11, out ++ [v], rfl, same_of (same_of (dr_then s10 s11) np) no, (h11.upd npa npc).upd noa noc, (upd_ne nop.symm).trans upd_same, upd_same, perm_pop hperm hv, by rw [List.length_append, List.length_singleton]; omega, fun _ z => by simp at z⟩
      · rintro σ H' ⟨y6, L, out, rfl, s9, h9, hp9, ho9, hperm, hol, hone⟩
        have hnd := hperm.nodup_iff.mpr hnd0
        walk_at "WK"
        exact k _ oA out s9 h9 ((dr_ne noa).trans ho9) (List.nodup_append.mp hnd).2.1 (fun v hv => h990 v (hperm.mem_iff.mp (List.mem_append.mpr (.inr hv)))) (List.length_pos_iff.mpr (hone (by omega))) (by omega)
theorem sc_L_shades : FnScope ["_law_colours", "_law_most", "_law_colour_here"] ["_law_colours", "_law_most"] (defScope s_L_shades) := ⟨rfl, rfl, rfl, by decide +kernel, rfl, by decide +kernel, by decide +kernel⟩
def sp_shd : Sp := fun vs H Q _ => ∃ (l : Addr) (cols : List Nat), vs = [.ref l, .int 100] ∧ LN H l cols ∧ ∀ H' q, Same H H' → LN H' q ((List.range 100).filter fun v => decide (v ∈ cols)) → Q (.ref q) H'
theorem ok_shades (T : TX K mg) : C8.Cal P w K mg base 1 "_law_shades" sp_shd [] := by
  obtain ⟨fd, F⟩ := T.F_L_shades
  refine ⟨_, fd, ["_law_colours", "_law_most"], [], ?_, T.g_L_shades, F.kp, (F.bindsN (fun _ _ _ _ _ _ us hl => match us, hl with | [_, _], _ => rfl)), .nil⟩
  refine F.ok sc_L_shades (fun vs H Q E h => ?_) (fun cdv A outer s H vs Q E hr h => ?_)
  · obtain ⟨l, cols, rfl, _⟩ := h
    rfl
  · obtain ⟨l, cols, rfl, hl, k⟩ := h
    refine ⟨_, PSs.nox (pss_one (ps_ret (pe_slice (sl_list' K rfl) (pe_lc (own := [("_law_colour_here", 2)]) (g := gName 2) (by rfl) sc_L_shades.nd (pi_range1 (by rfl) T.f_range (pa_cons pe_int pa_nil)) (blkOk_by (own := [("_law_colour_here", 2)]) (N := ["_law_colours", "_law_most", "_law_colour_here"]) (sc := defScope s_L_shades) (by decide +kernel)) (fun _ _ _ _ _ => (pg_name (i := 2) sc_L_shades.nd rfl (.inl rfl))) (fun _ _ _ _ _ => (pts_one (pt_cmpR (op_in_seq' K rfl) (pv 2) (pv 0) (by rfl)))) (fun _ _ _ _ _ => (pv 2))) po_none (po_some (pv 1))))), ?_⟩
    try dsimp only [cxOf]
    walk_at "WK"
    refine r_ir1k (by omega) (by omega) ?_
    refine lc_R (fun D i H' => Same H H' ∧ H D = none ∧ LN H' D ((List.range i).filter fun v => decide (v ∈ cols))) (fun D hD => ⟨same_new hD, hD, upd_same⟩) ?_ ?_
    · rintro D i H' hi ⟨s1, nD, hD⟩
      have hl1 := s1 _ _ hl
      have hb : ((List.range i).filter fun v => decide (v ∈ cols)).length ≤ i := by
        have := List.length_filter_le (fun v => decide (v ∈ cols)) (List.range i)
        rwa [List.length_range] at this
      have hi : i < 100 := hi
      have e0 : (0 : Int) + (i : Int) = (i : Int) := by omega
      rw [e0]
      walk_at "WK"
      simp only [Bool.false_eq_true, if_false]
      have er : List.range (i + 1) = List.range i ++ [i] := List.range_succ
      by_cases hin : i ∈ cols
      · rw [decide_eq_true hin]
        walk_at "WK"
        refine r_eltk hD (lt_sz (by rw [vN_len]; omega)) ?_
        rw [vN_app]
        refine ⟨same_of s1 nD, nD, ?_⟩
        rw [er, List.filter_append]
        simp only [List.filter_cons, decide_eq_true hin, if_true, List.filter_nil]
        exact upd_same
      · rw [decide_eq_false hin]
        walk_at "WK"
        refine ⟨s1, nD, ?_⟩
        rw [er, List.filter_append]
        simp only [List.filter_cons, decide_eq_false hin, List.filter_nil]
        simpa using hD
    · rintro D H' ⟨s1, nD, hD⟩
      have hD : LN H' D ((List.range 100).filter fun v => decide (v ∈ cols)) := hD
      have hb := List.length_filter_le (fun v => decide (v ∈ cols)) (List.range 100)
      rw [List.length_range] at hb
      walk_at "WK"
      refine k_slL_tN (by decide) hD fun q hq => ?_
      have e1 : (vN ((List.range 100).filter fun v => decide (v ∈ cols))).take (100 : Int).toNat = vN ((List.range 100).filter fun v => decide (v ∈ cols)) := List.take_of_length_le (by rw [vN_len]; exact hb)
      rw [e1]
      walk_at "WK"
      exact k _ q (s1.trans (same_new hq)) upd_same
end
end G6
end
section
set_option maxHeartbeats 4000000
set_option Elab.async false
set_option linter.all false
set_option maxRecDepth 100000
namespace G6
open PySem PySem.Spec PyProof.Rows L2 PySem.W
section
variable {P : Program} {w : World} {K : PySem.W.Frag} {mg : Str → Option Value} {base : Heap}
theorem sc_L_ties : FnScope ["_law_hand_here", "_law_many", "_law_kind", "_law_ties_here", "_law_cell", "_law_turn", "_law_one", "_law_other"] ["_law_hand_here", "_law_many"] (defScope s_L_ties) := ⟨rfl, rfl, rfl, by decide +kernel, rfl, by decide +kernel, by decide +kernel⟩
def sp_ties : Sp := fun vs H Q _ => ∃ (a c : Addr) (m : Nat), vs = [.ref a, .int (m : Int)] ∧ Hand H a c ∧ 2 ≤ m ∧ m ≤ 5 ∧ ∀ H' q ts ps, Same (dr H a) H' → Hand H' a c → dr H' a q = some (.lst (refs ts)) → CpT (dr H' a) ts ps → ps.length ≤ 20 → (∀ p ∈ ps, p.1 < m ∧ p.2 < m ∧ p.1 ≠ p.2) → Q (.ref q) H'
theorem ok_ties (T : TX K mg) : C8.Cal P w K mg base 3 "_law_ties" sp_ties [] := by
  have c_L_take := ok_take (P := P) (w := w) (base := base) T
  obtain ⟨fd, F⟩ := T.F_L_ties
  refine ⟨_, fd, ["_law_hand_here", "_law_many"], [], ?_, T.g_L_ties, F.kp, (F.bindsN (fun _ _ _ _ _ _ us hl => match us, hl with | [_, _], _ => rfl)), .nil⟩
  refine F.ok sc_L_ties (fun vs H Q E h => ?_) (fun cdv A outer s H vs Q E hr h => ?_)
  · obtain ⟨a, c, m, rfl, _⟩ := h
    rfl
  · obtain ⟨a, c, m, rfl, ha, hm2, hm5, k⟩ := h
    refine ⟨_, PSs.nox (pss_cons (ps_set (i := 2) sc_L_ties.nd rfl (.inl rfl) (C8.pe_c (c_L_take) hr (by omega) (by rfl) (pa_cons (pv 0) (pa_cons pe_int pa_nil))))
      (pss_cons (ps_set (i := 3) sc_L_ties.nd rfl (.inl rfl) (pe_lst pa_nil))
      (pss_cons (ps_for PassesOwn.never rfl (pi_range2 (by rfl) T.f_range (pa_cons pe_int (pa_cons (pv 1) pa_nil))) (pg_name (i := 4) sc_L_ties.nd rfl (.inl rfl)) (pss_one (ps_if (pt_cmpR op_lt (pv 2) pe_int (nomark _)) (pss_one (ps_expr (pe_bm' K rfl PySem.F.plainAttrs_list PySem.F.slot_list_append PySem.F.type_list_append mt_append (pv 3) (pa_cons (pe_tup (pa_cons (pe_op op_sub (pv 4) pe_int) (pa_cons (pv 4) pa_nil))) pa_nil)))) (pss_one (ps_if (pt_cmpR op_eq (pv 2) pe_int (nomark _)) (pss_one (ps_expr (pe_bm' K rfl PySem.F.plainAttrs_list PySem.F.slot_list_append PySem.F.type_list_append mt_append (pv 3) (pa_cons (pe_tup (pa_cons (pe_callB (call_max2K rfl) (by rfl) T.f_max (by decide +kernel) (pa_cons (pe_op op_sub (pv 4) pe_int) (pa_cons pe_int pa_nil))) (pa_cons (pv 4) pa_nil))) pa_nil)))) (pss_one (ps_expr (pe_bm' K rfl PySem.F.plainAttrs_list PySem.F.slot_list_append PySem.F.type_list_append mt_append (pv 3) (pa_cons (pe_tup (pa_cons (C8.pe_c (c_L_take) hr (by omega) (by rfl) (pa_cons (pv 0) (pa_cons (pv 4) pa_nil))) (pa_cons (pv 4) pa_nil))) pa_nil)))))))))
      (pss_cons (ps_if (PW.pt (pw_and (pt_cmpR op_eq (pv 2) pe_int (nomark _)) (pw_and1 (pt_cmpR op_gt (pv 1) pe_int (nomark _))))) (pss_one (ps_expr (pe_bm' K rfl PySem.F.plainAttrs_list PySem.F.slot_list_append PySem.F.type_list_append mt_append (pv 3) (pa_cons (pe_tup (pa_cons (pe_op op_sub (pv 1) pe_int) (pa_cons pe_int pa_nil))) pa_nil)))) pss_nil)
      (pss_cons (ps_if (pt_cmpR op_gt (pv 2) pe_int (nomark _)) (pss_one (ps_for PassesOwn.never rfl (pi_range1 (by rfl) T.f_range (pa_cons (C8.pe_c (c_L_take) hr (by omega) (by rfl) (pa_cons (pv 0) (pa_cons pe_int pa_nil))) pa_nil)) (pg_name (i := 5) sc_L_ties.nd rfl (.inl rfl)) (pss_cons (ps_set (i := 6) sc_L_ties.nd rfl (.inl rfl) (C8.pe_c (c_L_take) hr (by omega) (by rfl) (pa_cons (pv 0) (pa_cons (pv 1) pa_nil))))
      (pss_cons (ps_set (i := 7) sc_L_ties.nd rfl (.inl rfl) (C8.pe_c (c_L_take) hr (by omega) (by rfl) (pa_cons (pv 0) (pa_cons (pv 1) pa_nil))))
      (pss_one (ps_if (pt_cmpR op_ne (pv 6) (pv 7) (nomark _)) (pss_one (ps_expr (pe_bm' K rfl PySem.F.plainAttrs_list PySem.F.slot_list_append PySem.F.type_list_append mt_append (pv 3) (pa_cons (pe_tup (pa_cons (pv 6) (pa_cons (pv 7) pa_nil))) pa_nil)))) pss_nil)))))) pss_nil)
      (pss_cons (ps_if (pt_cmpR op_eq (C8.pe_c (c_L_take) hr (by omega) (by rfl) (pa_cons (pv 0) (pa_cons pe_int pa_nil))) pe_int (nomark _)) (pss_one (ps_set (i := 3) sc_L_ties.nd rfl (.inl rfl) (pe_slice (sl_list' K rfl) (pv 3) (po_some pe_int) po_none))) pss_nil)
      (pss_one (ps_ret (pv 3))))))))), ?_⟩
    try dsimp only [cxOf]
    walk_at "WK"
    refine r_take ha (by decide) (by decide) fun H1 r1 s1 h1 hr1 => ?_
    walk_at "WK"
    intro tA htA
    have I0 : TiI H (upd H1 tA (.lst [])) a c tA (m : Int) 0 := TiI.start s1 h1 htA
    generalize upd H1 tA (.lst []) = H2 at I0 ⊢
    walk_at "WK"
    refine r_irng2 ?_
    walk_at "WK"
    refine r_ir2k (by omega) (by omega) (by omega) (by omega) ?_
    rw [show ((m : Int) - 1).toNat = m - 1 by omega]
    refine for_R (fun i σ H' => ∃ y4 y5 y6 y7, σ = [some (.ref a), some (.int (m : Int)), some (.int (r1 : Int)), some (.ref tA), y4, y5, y6, y7] ∧ TiI H H' a c tA (m : Int) i) ⟨_, _, _, _, rfl, I0⟩ ?_ ?_
    · rintro i σ H' hi ⟨y4, y5, y6, y7, rfl, I⟩
      obtain ⟨ts0, ps0, hts, _⟩ := id I.cs
      by_cases k2 : (r1 : Int) < 2
      · walk_at "WK"
        intro t ht
        walk_at "WK"
        refine I.app ht ⟨by omega, by omega⟩ ⟨by omega, by omega⟩ (by omega) (by omega) fun H'' I2 => ?_
        exact ⟨_, _, _, _, rfl, I2⟩
      · by_cases k3 : r1 = 2
        · subst k3
          walk_at "WK"
          intro t ht
          walk_at "WK"
          refine I.app ht ⟨by split <;> omega, by split <;> omega⟩ ⟨by omega, by omega⟩ (by split <;> omega) (by omega) fun H'' I2 => ?_
          exact ⟨_, _, _, _, rfl, I2⟩
        · have kd : decide (V.int (r1 : Int) = V.int 2) = false := decide_eq_false fun z => k3 (by have := V.int.inj z; omega)
          walk_at "WK"
          refine r_take (m := 1 + (i : Int)) I.h (by omega) (by omega) fun H3 r3 s3 h3 hr3 => ?_
          have I := I.go s3 h3
          walk_at "WK"
          intro t ht
          walk_at "WK"
          refine I.app ht ⟨by omega, by omega⟩ ⟨by omega, by omega⟩ (by omega) (by omega) fun H'' I2 => ?_
          exact ⟨_, _, _, _, rfl, I2⟩
    · rintro σ H' ⟨y4, y5, y6, y7, rfl, I⟩
      have I := I.le (B' := 4) (by omega)
      obtain ⟨ts0, ps0, hts, _⟩ := id I.cs
      by_cases k1 : r1 = 1 ∧ 2 < m
      · obtain ⟨rfl, k2⟩ := k1
        walk_at "WK"
        intro t ht
        walk_at "WK"
        refine I.app ht ⟨by omega, by omega⟩ ⟨by omega, by omega⟩ (by omega) (by omega) fun H5 I => ?_
        clear hts
        walk_at "WK"
        refine r_take I.h (by decide) (by decide) fun H6 r6 s6 h6 hr6 => ?_
        have I := I.go s6 h6
        obtain ⟨ts1, ps1, g1, g2, g3, g4⟩ := I.cs
        by_cases z6 : r6 = 0
        · subst z6
          walk_at "WK"
          refine k_slL_f1 g1 fun q hq => ?_
          walk_at "WK"
          have sq := same_new hq (o := .lst ((refs ts1).drop 1))
          refine k _ q (ts1.drop 1) (ps1.drop 1) (I.s.trans sq) (I.h.ext sq) ((dr_ne (I.h.fresh hq).1).trans (upd_same.trans (by simp [refs, List.map_drop]))) (CpT.tups (CpT.ext ?_ sq) (I.h.ext sq).tup) ?_ fun p hp => ?_
          · cases g2 with
            | nil => exact .nil
            | cons _ r => exact r
          · rw [List.length_drop]
            omega
          · have := g4 p (List.mem_of_mem_drop hp)
            omega
        · have kd3 : decide (V.int (r6 : Int) = V.int 0) = false := decide_eq_false fun z => by have := V.int.inj z; omega
          walk_at "WK"
          exact k _ tA ts1 ps1 I.s I.h ((dr_ne I.ne).trans g1) (CpT.tups g2 I.h.tup) (by omega) fun p hp => by have := g4 p hp; omega
      · by_cases k4 : 3 < r1
        · have kd : decide (V.int (r1 : Int) = V.int 1) = false := decide_eq_false fun z => by have := V.int.inj z; omega
          walk_at "WK"
          refine r_take I.h (by decide) (by decide) fun H6 r6 s6 h6 hr6 => ?_
          have I := I.go s6 h6
          clear hts
          walk_at "WK"
          refine r_ir1k (by omega) (by omega) ?_
          rw [Int.toNat_natCast]
          refine for_R (fun i σ H' => ∃ y4 y5 y6 y7, σ = [some (.ref a), some (.int (m : Int)), some (.int (r1 : Int)), some (.ref tA), y4, y5, y6, y7] ∧ TiI H H' a c tA (m : Int) (4 + i)) ⟨_, _, _, _, rfl, I⟩ ?_ ?_
          · rintro i σ H' hi ⟨y4, y5, y6, y7, rfl, I⟩
            walk_at "WK"
            refine r_take I.h (by omega) (by omega) fun H7 r7 s7 h7 hr7 => ?_
            have I := I.go s7 h7
            walk_at "WK"
            refine r_take I.h (by omega) (by omega) fun H8 r8 s8 h8 hr8 => ?_
            have I := I.go s8 h8
            obtain ⟨ts0, ps0, hts, _⟩ := id I.cs
            by_cases e78 : r7 = r8
            · subst e78
              have kd2 : (!decide (V.int (r7 : Int) = V.int (r7 : Int))) = false := by simp
              walk_at "WK"
              exact ⟨_, _, _, _, rfl, I.le (by omega)⟩
            · have kd2 : (!decide (V.int (r7 : Int) = V.int (r8 : Int))) = true := by
                rw [decide_eq_false fun z => e78 (by have := V.int.inj z; omega)]
                rfl
              walk_at "WK"
              intro t ht
              walk_at "WK"
              refine I.app ht ⟨by omega, by omega⟩ ⟨by omega, by omega⟩ (by omega) (by omega) fun H5 I => ?_
              exact ⟨_, _, _, _, rfl, I⟩
          · rintro σ H5 ⟨y4, y5, y6, y7, rfl, I⟩
            walk_at "WK"
            refine r_take I.h (by decide) (by decide) fun H6 r6 s6 h6 hr6 => ?_
            have I := I.go s6 h6
            obtain ⟨ts1, ps1, g1, g2, g3, g4⟩ := I.cs
            by_cases z6 : r6 = 0
            · subst z6
              walk_at "WK"
              refine k_slL_f1 g1 fun q hq => ?_
              walk_at "WK"
              have sq := same_new hq (o := .lst ((refs ts1).drop 1))
              refine k _ q (ts1.drop 1) (ps1.drop 1) (I.s.trans sq) (I.h.ext sq) ((dr_ne (I.h.fresh hq).1).trans (upd_same.trans (by simp [refs, List.map_drop]))) (CpT.tups (CpT.ext ?_ sq) (I.h.ext sq).tup) ?_ fun p hp => ?_
              · cases g2 with
                | nil => exact .nil
                | cons _ r => exact r
              · rw [List.length_drop]
                omega
              · have := g4 p (List.mem_of_mem_drop hp)
                omega
            · have kd3 : decide (V.int (r6 : Int) = V.int 0) = false := decide_eq_false fun z => by have := V.int.inj z; omega
              walk_at "WK"
              exact k _ tA ts1 ps1 I.s I.h ((dr_ne I.ne).trans g1) (CpT.tups g2 I.h.tup) (by omega) fun p hp => by have := g4 p hp; omega
        · by_cases k5 : r1 = 1
          · subst k5
            walk_at "WK"
            refine r_take I.h (by decide) (by decide) fun H6 r6 s6 h6 hr6 => ?_
            have I := I.go s6 h6
            obtain ⟨ts1, ps1, g1, g2, g3, g4⟩ := I.cs
            by_cases z6 : r6 = 0
            · subst z6
              walk_at "WK"
              refine k_slL_f1 g1 fun q hq => ?_
              walk_at "WK"
              have sq := same_new hq (o := .lst ((refs ts1).drop 1))
              refine k _ q (ts1.drop 1) (ps1.drop 1) (I.s.trans sq) (I.h.ext sq) ((dr_ne (I.h.fresh hq).1).trans (upd_same.trans (by simp [refs, List.map_drop]))) (CpT.tups (CpT.ext ?_ sq) (I.h.ext sq).tup) ?_ fun p hp => ?_
              · cases g2 with
                | nil => exact .nil
                | cons _ r => exact r
              · rw [List.length_drop]
                omega
              · have := g4 p (List.mem_of_mem_drop hp)
                omega
            · have kd3 : decide (V.int (r6 : Int) = V.int 0) = false := decide_eq_false fun z => by have := V.int.inj z; omega
              walk_at "WK"
              exact k _ tA ts1 ps1 I.s I.h ((dr_ne I.ne).trans g1) (CpT.tups g2 I.h.tup) (by omega) fun p hp => by have := g4 p hp; omega
          · have kd : decide (V.int (r1 : Int) = V.int 1) = false := decide_eq_false fun z => by have := V.int.inj z; omega
            walk_at "WK"
            refine r_take I.h (by decide) (by decide) fun H6 r6 s6 h6 hr6 => ?_
            have I := I.go s6 h6
            obtain ⟨ts1, ps1, g1, g2, g3, g4⟩ := I.cs
            by_cases z6 : r6 = 0
            · subst z6
              walk_at "WK"
              refine k_slL_f1 g1 fun q hq => ?_
              walk_at "WK"
              have sq := same_new hq (o := .lst ((refs ts1).drop 1))
              refine k _ q (ts1.drop 1) (ps1.drop 1) (I.s.trans sq) (I.h.ext sq) ((dr_ne (I.h.fresh hq).1).trans (upd_same.trans (by simp [refs, List.map_drop]))) (CpT.tups (CpT.ext ?_ sq) (I.h.ext sq).tup) ?_ fun p hp => ?_
              · cases g2 with
                | nil => exact .nil
                | cons _ r => exact r
              · rw [List.length_drop]
                omega
              · have := g4 p (List.mem_of_mem_drop hp)
                omega
            · have kd3 : decide (V.int (r6 : Int) = V.int 0) = false := decide_eq_false fun z => by have := V.int.inj z; omega
              walk_at "WK"
              exact k _ tA ts1 ps1 I.s I.h ((dr_ne I.ne).trans g1) (CpT.tups g2 I.h.tup) (by omega) fun p hp => by have := g4 p hp; omega
end
end G6
end
section
set_option maxHeartbeats 4000000
set_option Elab.async false
set_option linter.all false
set_option maxRecDepth 100000
namespace G6
open PySem PySem.Spec PyProof.Rows L2 PySem.W
section
variable {P : Program} {w : World} {K : PySem.W.Frag} {mg : Str → Option Value} {base : Heap}
theorem sc_L_marks : FnScope ["_law_hand_here", "_law_many", "_law_wanted", "_law_marks_here", "_law_turn", "_law_start", "_law_step", "_law_cell"] ["_law_hand_here", "_law_many", "_law_wanted"] (defScope s_L_marks) := ⟨rfl, rfl, rfl, by decide +kernel, rfl, by decide +kernel, by decide +kernel⟩
def sp_mks : Sp := fun vs H Q _ => ∃ (a c : Addr) (m : Nat) (x : Int), vs = [.ref a, .int (m : Int), .int x] ∧ Hand H a c ∧ 1 ≤ m ∧ m ≤ 100 ∧ 1 ≤ x ∧ x ≤ 1000 ∧ ∀ H' q ms, Same (dr H a) H' → Hand H' a c → LN (dr H' a) q ms → ms.Nodup → (∀ v ∈ ms, v < m) → 1 ≤ ms.length → (ms.length : Int) ≤ x → Q (.ref q) H'
/-- marks that are being made, in the list at tA -/
structure MkI (H H' : Hp) (a c tA : Addr) (m : Nat) (lo hi : Nat) : Prop where
  s : Same (dr H a) H'
  h : Hand H' a c
  ne : tA ≠ a
  nc : tA ≠ c
  new : dr H a tA = none
  ms : ∃ ms, LN H' tA ms ∧ ms.Nodup ∧ (∀ v ∈ ms, v < m) ∧ lo ≤ ms.length ∧ ms.length ≤ hi
theorem ok_marks (T : TX K mg) : C8.Cal P w K mg base 3 "_law_marks" sp_mks [] := by
  have c_L_take := ok_take (P := P) (w := w) (base := base) T
  obtain ⟨fd, F⟩ := T.F_L_marks
  refine ⟨_, fd, ["_law_hand_here", "_law_many", "_law_wanted"], [], ?_, T.g_L_marks, F.kp, (F.bindsN (fun _ _ _ _ _ _ us hl => match us, hl with | [_, _, _], _ => rfl)), .nil⟩
  refine F.ok sc_L_marks (fun vs H Q E h => ?_) (fun cdv A outer s H vs Q E hr h => ?_)
  · obtain ⟨a, c, m, x, rfl, _⟩ := h
    rfl
  · obtain ⟨a, c, m, x, rfl, ha, hm1, hm, hx0, hx1, k⟩ := h
    refine ⟨_, PSs.nox (pss_cons (ps_set (i := 3) sc_L_marks.nd rfl (.inl rfl) (pe_lst pa_nil))
      (pss_cons (ps_for PassesOwn.never rfl (pi_range1 (by rfl) T.f_range (pa_cons (pe_callB (call_min2K rfl) (by rfl) T.f_min (by decide +kernel) (pa_cons (pv 2) (pa_cons (pv 1) pa_nil))) pa_nil)) (pg_name (i := 4) sc_L_marks.nd rfl (.inl rfl)) (pss_cons (ps_set (i := 5) sc_L_marks.nd rfl (.inl rfl) (C8.pe_c (c_L_take) hr (by omega) (by rfl) (pa_cons (pv 0) (pa_cons (pv 1) pa_nil))))
      (pss_one (ps_for PassesOwn.never rfl (pi_range1 (by rfl) T.f_range (pa_cons (pv 1) pa_nil)) (pg_name (i := 6) sc_L_marks.nd rfl (.inl rfl)) (pss_cons (ps_set (i := 7) sc_L_marks.nd rfl (.inl rfl) (pe_op op_mod (pe_callTy call_int1K (by rfl) T.f_int (by decide +kernel) (pa_cons (pe_op op_add (pv 5) (pv 6)) pa_nil)) (pv 1)))
      (pss_one (ps_if (pt_cmpR (op_notIn_seq' K rfl) (pv 7) (pv 3) (by rfl)) (pss_cons (ps_expr (pe_bm' K rfl PySem.F.plainAttrs_list PySem.F.slot_list_append PySem.F.type_list_append mt_append (pv 3) (pa_cons (pv 7) pa_nil)))
      (pss_one ps_break)) pss_nil)))))))
      (pss_one (ps_ret (pv 3))))), ?_⟩
    try dsimp only [cxOf]
    walk_at "WK"
    intro tA htA
    have I0 : MkI H (upd H tA (.lst [])) a c tA m 0 0 := ⟨(dr_same (x := a)).trans (same_new htA), ha.ext (same_new htA), (ha.fresh htA).1, (ha.fresh htA).2, (dr_same (x := a)).free htA, [], upd_same, List.nodup_nil, (fun _ z => by cases z), Nat.le_refl _, Nat.le_refl _⟩
    generalize upd H tA (.lst []) = H1 at I0 ⊢
    walk_at "WK"
    have hz : (if (m : Int) < x then (m : Int) else x) = ((min m x.toNat : Nat) : Int) := by split <;> omega
    rw [hz]
    have hmin : min m x.toNat ≤ m := Nat.min_le_left _ _
    have hmin2 : min m x.toNat ≤ x.toNat := Nat.min_le_right _ _
    have hmin3 : 1 ≤ min m x.toNat := by omega
    generalize min m x.toNat = n at hz hmin hmin2 hmin3 ⊢
    refine r_ir1k (by omega) (by omega) ?_
    rw [Int.toNat_natCast]
    refine for_R (fun i σ H' => ∃ y4 y5 y6 y7, σ = [some (.ref a), some (.int (m : Int)), some (.int x), some (.ref tA), y4, y5, y6, y7] ∧ MkI H H' a c tA m (min i 1) i) ⟨_, _, _, _, rfl, I0⟩ ?_ ?_
    · rintro i σ H' hi ⟨y4, y5, y6, y7, rfl, I⟩
      walk_at "WK"
      refine r_take I.h (by omega) (by omega) fun H2 r s2 h2 hr2 => ?_
      obtain ⟨ms, hms, hnd, hlt, hlo, hhi⟩ := I.ms
      have hms2 : LN H2 tA ms := s2 _ _ ((dr_ne I.ne).trans hms)
      have s12 := dr_then I.s s2
      have ine := I.ne
      have inc := I.nc
      have inw := I.new
      clear I hms s2
      walk_at "WK"
      refine r_ir1k (by omega) (by omega) ?_
      rw [Int.toNat_natCast]
      refine for_R (fun j σ H' => ∃ y6 y7, σ = [some (.ref a), some (.int (m : Int)), some (.int x), some (.ref tA), some (.int (0 + (i : Int))), some (.int (r : Int)), y6, y7] ∧ H' = H2 ∧ (1 ≤ j → ms ≠ [])) ⟨_, _, rfl, rfl, fun z => by omega⟩ ?_ ?_
      · rintro j σ H3 hj ⟨y6, y7, rfl, rfl, hne⟩
        walk_at "WK"
        obtain ⟨v, ev, hv⟩ := nat_mod (x := (r : Int) + (0 + (j : Int))) (m := (m : Int)) (by omega)
        refine r_mod (by omega) ?_
        rw [ev]
        walk_at "WK"
        rw [if_pos rfl]
        by_cases hin : v ∈ ms
        · rw [decide_eq_true hin]
          walk_at "WK"
          exact ⟨_, _, rfl, rfl, fun _ z => by rw [z] at hin; cases hin⟩
        · rw [decide_eq_false hin]
          walk_at "WK"
          refine r_append hms2 (lt_sz (by rw [vN_len]; omega)) ?_
          rw [vN_app]
          walk_at "WK"
          exact ⟨_, _, _, _, rfl, same_of s12 inw, h2.upd ine inc, ine, inc, inw, ms ++ [v], upd_same, List.nodup_append.mpr ⟨hnd, by simp, fun p hp q hq => by
            rw [List.mem_singleton] at hq
            exact fun z => hin (by rw [← hq, ← z]; exact hp)⟩, fun u hu => by
            rcases List.mem_append.mp hu with z | z
            · exact hlt u z
            · rw [List.mem_singleton.mp z]
              omega, by rw [List.length_append, List.length_singleton]; omega, by rw [List.length_append, List.length_singleton]; omega⟩
      · rintro σ H3 ⟨y6, y7, rfl, rfl, hne⟩
        have := List.length_pos_iff.mpr (hne (by omega))
        exact ⟨_, _, _, _, rfl, s12, h2, ine, inc, inw, ms, hms2, hnd, hlt, by omega, by omega⟩
    · rintro σ H' ⟨y4, y5, y6, y7, rfl, I⟩
      obtain ⟨ms, hms, hnd, hlt, hlo, hhi⟩ := I.ms
      walk_at "WK"
      exact k _ tA ms I.s I.h ((dr_ne I.ne).trans hms) hnd hlt (by omega) (by omega)
end
end G6
end
section
set_option maxHeartbeats 4000000
set_option Elab.async false
set_option linter.all false
set_option maxRecDepth 100000
namespace G6
open PySem PySem.Spec PyProof.Rows L2 PySem.W
section
variable {P : Program} {w : World} {K : PySem.W.Frag} {mg : Str → Option Value} {base : Heap}
theorem sc_neighbour_lists : FnScope ["picture", "lists", "less", "greater", "colour"] ["picture"] (defScope s_neighbour_lists) := ⟨rfl, rfl, rfl, by decide +kernel, rfl, by decide +kernel, by decide +kernel⟩
def sp_nbl (K : PySem.W.Frag) : Sp := fun vs H Q _ => ∃ (p : Addr) (d : PicD), vs = [.ref p] ∧ PicAt K H p d ∧ (∀ t ∈ d.tie, t.1 < d.col.length ∧ t.2 < d.col.length) ∧ d.tie.length ≤ 1000 ∧ d.col.length ≤ 1000 ∧ ∀ H' l, Same H H' → LL H' l (nbl d.col.length d.tie) → Q (.ref l) H'
theorem ok_nbl (T : TX K mg) : C8.Cal P w K mg base 1 "neighbour_lists" (sp_nbl K) [] := by
  obtain ⟨fd, F⟩ := T.F_neighbour_lists
  refine ⟨_, fd, ["picture"], [], ?_, T.g_neighbour_lists, F.kp, (F.bindsN (fun _ _ _ _ _ _ us hl => match us, hl with | [_], _ => rfl)), .nil⟩
  refine F.ok sc_neighbour_lists (fun vs H Q E h => ?_) (fun cdv A outer s H vs Q E hr h => ?_)
  · obtain ⟨p, d, rfl, _⟩ := h
    rfl
  · obtain ⟨p, d, rfl, hp, ht, ht2, hc2, k⟩ := h
    obtain ⟨dx, c, t, m, ts, h1, h2, h3, h4, h5⟩ := id hp
    refine ⟨_, PSs.nox (pss_cons (ps_setLc (i := 1) (own := [("colour", 4)]) (g := gName 4) (by rfl) sc_neighbour_lists.nd rfl rfl (sw_true rfl rfl rfl (by decide +kernel)) (pi_tup' K rfl (pe_fld' K rfl (pv 0) rfl)) (blkOk_by (own := [("colour", 4)]) (N := ["picture", "lists", "less", "greater", "colour"]) (sc := defScope s_neighbour_lists) (by decide +kernel)) (fun _ _ _ _ _ => (pg_name (i := 4) sc_neighbour_lists.nd rfl (.inl rfl))) (fun _ _ _ _ _ => pts_nil) (fun _ _ _ _ _ => (pe_lst pa_nil)))
      (pss_cons (ps_for PassesOwn.never rfl (pi_tup' K rfl (pe_fld' K rfl (pv 0) rfl)) (pg_tup' (n := 2) K rfl (by rfl) (pgs_cons (pg_name (i := 2) sc_neighbour_lists.nd rfl (.inl rfl)) (pgs_cons (pg_name (i := 3) sc_neighbour_lists.nd rfl (.inl rfl)) pgs_nil)) (by rfl)) (pss_cons (ps_expr (pe_bm' K rfl PySem.F.plainAttrs_list PySem.F.slot_list_append PySem.F.type_list_append mt_append (pe_ix (ix_list' K rfl) (pv 1) (pv 2) (fun _ _ => rfl)) (pa_cons (pv 3) pa_nil)))
      (pss_one (ps_expr (pe_bm' K rfl PySem.F.plainAttrs_list PySem.F.slot_list_append PySem.F.type_list_append mt_append (pe_ix (ix_list' K rfl) (pv 1) (pv 3) (fun _ _ => rfl)) (pa_cons (pv 2) pa_nil))))))
      (pss_one (ps_ret (pv 1))))), ?_⟩
    try dsimp only [cxOf]
    walk_at "WK"
    refine lc_T (xs := vN d.col) (fun L i H' => ∃ as, LLm H H' L as (List.replicate i []) ∧ Same H H') (fun L hL => ⟨[], ⟨upd_same, .nil, List.nodup_nil, by simp, hL, by simp⟩, same_new hL⟩) (fun L i H' _ h => h.elim fun as q => q.2 _ _ h2) ?_ ?_
    · rintro L i x H' hx ⟨as, q, sm⟩
      walk_at "WK"
      intro a ha
      have naL : a ≠ L := (ne_of_none q.at_ ha).symm
      have qa := q.at_
      have hi : i ≤ d.col.length := Nat.le_of_lt (by have z := (List.getElem?_eq_some_iff.mp hx).1; rw [vN_len] at z; exact z)
      have hla : as.length = i := by rw [q.all.len, List.length_replicate]
      refine r_eltk (acc := refs as) (by walk_at "HL") (lt_sz (by rw [List.length_map]; omega)) ?_
      refine ⟨as ++ [a], ⟨?_, ?_, ?_, ?_, q.new, ?_⟩, ?_⟩
      · rw [upd_same, refs, refs, List.map_append]
        rfl
      · rw [List.replicate_succ']
        refine All2.snoc ?_ ?_
        · refine q.all.imp' fun b l hb r => ?_
          show upd (upd H' a _) L _ b = _
          have nbL : b ≠ L := fun z => q.nL (z ▸ hb)
          rw [upd_ne nbL, upd_ne (ne_of_none r ha)]
          exact r
        · show upd (upd H' a _) L _ a = _
          rw [upd_ne naL, upd_same]
          rfl
      · refine List.nodup_append.mpr ⟨q.nd, by simp, fun b hb c hc => ?_⟩
        rw [List.mem_singleton] at hc
        subst hc
        obtain ⟨j, hj⟩ := List.getElem?_of_mem hb
        obtain ⟨l, _, hl⟩ := q.all.getL hj
        exact ne_of_none hl ha
      · rw [List.mem_append, List.mem_singleton]
        exact fun z => z.elim q.nL fun z => naL z.symm
      · intro b hb
        rcases List.mem_append.mp hb with h | h
        · exact q.news b h
        · rw [List.mem_singleton] at h
          subst h
          exact sm.free ha
      · exact same_of (same_of sm (sm.free ha)) q.new
    · rintro L H' ⟨as, q, sm⟩
      walk_at "WK"
      rw [vN_len] at q
      refine for_T (xs := refs ts) (fun i σ H' => ∃ y2 y3, σ = [some (.ref p), some (.ref L), y2, y3, none] ∧ Same H H' ∧ LLm H H' L as ((d.tie.take i).foldl nblS (List.replicate d.col.length []))) ⟨none, none, rfl, sm, q⟩ (fun i σ H' _ ⟨_, _, _, sm, _⟩ => sm _ _ h3) ?_ ?_
      · rintro i x σ H2 hx ⟨y2, y3, rfl, sm, q⟩
        obtain ⟨b, eb, rfl⟩ := refs_inv hx
        obtain ⟨t', et, hb⟩ := h4.getL eb
        have ht' := ht t' (List.mem_of_getElem? et)
        have hil : (d.tie.take i).length ≤ d.tie.length := by rw [List.length_take]; omega
        have bd := nblF_bd (d.tie.take i) (rep_bd (n := d.col.length))
        obtain ⟨l1, e1⟩ := getElem?_of_lt (ls := (d.tie.take i).foldl nblS (List.replicate d.col.length [])) (i := t'.1) (by rw [nblF_len, List.length_replicate]; exact ht'.1)
        obtain ⟨b1, f1, g1, n1, nb1, q1⟩ := q.at e1
        have qa := q.at_
        walk_at "WK"
        refine r_append g1 (lt_sz (by rw [vN_len]; have := bd l1 (List.mem_of_getElem? e1); omega)) ?_
        rw [vN_app]
        have q2 := q1 (l1 ++ [t'.2])
        have eS : psh ((d.tie.take i).foldl nblS (List.replicate d.col.length [])) t'.1 t'.2 = ((d.tie.take i).foldl nblS (List.replicate d.col.length [])).set t'.1 (l1 ++ [t'.2]) := by rw [psh, getD_of e1]
        rw [← eS] at q2
        have bd2 := psh_bd bd (i := t'.1) (x := t'.2)
        obtain ⟨l2, e2⟩ := getElem?_of_lt (ls := psh ((d.tie.take i).foldl nblS (List.replicate d.col.length [])) t'.1 t'.2) (i := t'.2) (by rw [psh_len, nblF_len, List.length_replicate]; exact ht'.2)
        obtain ⟨b2, f2, g2, n2, nb2, q3⟩ := q2.at e2
        have qa2 := q2.at_
        have sm2 := same_of sm n1 (o := .lst (vN (l1 ++ [t'.2])))
        walk_at "WK"
        refine r_append g2 (lt_sz (by rw [vN_len]; have := bd2 l2 (List.mem_of_getElem? e2); omega)) ?_
        walk_at "WK"
        refine ⟨_, _, rfl, same_of sm2 n2, ?_⟩
        have q4 := q3 (l2 ++ [t'.1])
        rw [foldl_take _ _ _ et, nblS, psh, getD_of e2, vN_app]
        exact q4
      · rintro σ H2 ⟨y2, y3, rfl, sm, q⟩
        rw [List.length_map, h4.len, List.take_length] at q
        walk_at "WK"
        exact k _ _ sm q.fin
end
end G6
end
section
set_option maxHeartbeats 4000000
set_option Elab.async false
set_option linter.all false
set_option maxRecDepth 100000
namespace G6
open PySem PySem.Spec PyProof.Rows L2 PySem.W

section
variable {P : Program} {w : World} {K : PySem.W.Frag} {mg : Str → Option Value} {base : Heap}
theorem sc_is_whole : FnScope ["thing", "low", "high"] ["thing", "low", "high"] (defScope s_is_whole) := ⟨rfl, rfl, rfl, by decide +kernel, rfl, by decide +kernel, by decide +kernel⟩
def sp_isw : Sp := fun vs H Q _ => ∃ i lo hi : Int, vs = [.int i, .int lo, .int hi] ∧ Q (.bl (decide (lo ≤ i) && decide (i ≤ hi))) H
theorem ok_is_whole (T : TX K mg) : C8.Cal P w K mg base 1 "is_whole" sp_isw [] := by
  obtain ⟨fd, F⟩ := T.F_is_whole
  have B : Binds K fd ["thing", "low", "high"] [] := by
    obtain ⟨ds, h1, h2⟩ := F.binds1 (ps := ["thing", "low", "high"]) 3 2 (by simp) rfl (fun T kV doc pm an cdv ct us its hl hd => match us, hl, its, hd with | [_, _, _], _, [_, _], _ => ⟨_, rfl, rfl⟩)
    cases h1
    exact h2
  refine ⟨_, fd, ["thing", "low", "high"], [], ?_, T.g_is_whole, F.kp, B, .nil⟩
  refine F.ok sc_is_whole (fun vs H Q E h => ?_) (fun cdv A outer s H vs Q E hr h => ?_)
  · obtain ⟨i, lo, hi, rfl, _⟩ := h
    rfl
  · obtain ⟨i, lo, hi, rfl, k⟩ := h
    refine ⟨_, PSs.nox (pss_cons (ps_if (PW.pt (pw_or (pt_not (pt_val (pe_callB (call_isi' K rfl) (by rfl) T.f_isinstance (by decide +kernel) (pa_cons (pv 0) (pa_cons (pe_bltn (v := .ty "int") (by rfl) T.f_int (by decide +kernel) rfl) pa_nil))))) (pw_or1 (pt_val (pe_callB (call_isi' K rfl) (by rfl) T.f_isinstance (by decide +kernel) (pa_cons (pv 0) (pa_cons (pe_bltn (v := .ty "bool") (by rfl) T.f_bool (by decide +kernel) rfl) pa_nil))))))) (pss_one (ps_ret pe_bl)) pss_nil)
      (pss_cons (ps_if (PW.pt (pw_and (pt_cmpR op_notNK (pv 1) pe_non (nomark _)) (pw_and1 (pt_cmpR op_lt (pv 0) (pv 1) (nomark _))))) (pss_one (ps_ret pe_bl)) pss_nil)
      (pss_one (ps_ret (pe_or (pe_cmpR op_isNK (pv 2) pe_non (nomark _)) (pe_one (pe_cmpR op_le (pv 0) (pv 2) (nomark _)))))))), ?_⟩
    try dsimp only [cxOf]
    walk_at "WK"
    by_cases h1 : i < lo
    · refine r_ifT2 (decide_eq_true h1) ?_
      walk_at "WK"
      have e : (decide (lo ≤ i) && decide (i ≤ hi)) = false := by simp; omega
      rw [e] at k
      exact k
    · refine r_ifF2 (decide_eq_false h1) ?_
      walk_at "WK"
      have e : (decide (lo ≤ i) && decide (i ≤ hi)) = decide (i ≤ hi) := by simp; omega
      rw [e] at k
      exact k
theorem r_isw {i lo hi : Int} {H : Hp} {Q : VK} {E : XK} (h : Q (.bl (decide (lo ≤ i) && decide (i ≤ hi))) H) : sp_isw ([.int i, .int lo, .int hi] ++ []) H Q E := ⟨i, lo, hi, rfl, h⟩
end
end G6
end
local macro_rules | `(tactic| walk_at "W1") => `(tactic| ((with_reducible apply G6.r_isw)))
section
set_option maxHeartbeats 4000000
set_option Elab.async false
set_option linter.all false
set_option maxRecDepth 100000
namespace G6
open PySem PySem.Spec PyProof.Rows L2 PySem.W
section
variable {P : Program} {w : World} {K : PySem.W.Frag} {mg : Str → Option Value} {base : Heap}
theorem sc_check_cells : FnScope ["colours", "index", "colour"] ["colours"] (defScope s_check_cells) := ⟨rfl, rfl, rfl, by decide +kernel, rfl, by decide +kernel, by decide +kernel⟩
def sp_chc : Sp := fun vs H Q _ => ∃ (a : Addr) (ns : List Nat), vs = [.ref a] ∧ Sq H a (vN ns) ∧ 1 ≤ ns.length ∧ ns.length ≤ 700 ∧ (∀ n ∈ ns, n ≤ 99) ∧ ∀ H', Same H H' → Q .non H'
theorem ok_check_cells (T : TX K mg) : C8.Cal P w K mg base 2 "_check_cells" sp_chc [] := by
  have c_is_whole := ok_is_whole (P := P) (w := w) (base := base) T
  obtain ⟨fd, F⟩ := T.F_check_cells
  refine ⟨_, fd, ["colours"], [], ?_, T.g_check_cells, F.kp, (F.bindsN (fun _ _ _ _ _ _ us hl => match us, hl with | [_], _ => rfl)), .nil⟩
  refine F.ok sc_check_cells (fun vs H Q E h => ?_) (fun cdv A outer s H vs Q E hr h => ?_)
  · obtain ⟨a, ns, rfl, _⟩ := h
    rfl
  · obtain ⟨a, ns, rfl, hS, hl1, hl2, hb, k⟩ := h
    have hl := vN_len ns
    refine ⟨_, PSs.nox (pss_cons (ps_if (PW.pt (pw_or (pt_not (pt_val (pe_callB (call_isiT' K rfl) (by rfl) T.f_isinstance (by decide +kernel) (pa_cons (pv 0) (pa_cons (pe_tup (pa_cons (pe_bltn (v := .ty "list") (by rfl) T.f_list (by decide +kernel) rfl) (pa_cons (pe_bltn (v := .ty "tuple") (by rfl) T.f_tuple (by decide +kernel) rfl) pa_nil))) pa_nil))))) (pw_or1 (pt_not (pt_chain op_le op_le pe_int (pe_callB (call_lenK' K rfl) (by rfl) T.f_len (by decide +kernel) (pa_cons (pv 0) pa_nil)) (C8.pe_gc (by rfl) T.c_MOST_CELLS)))))) (pss_one ps_never) pss_nil)
      (pss_one (ps_for PassesOwn.never rfl (pi_ei (pi_enum' K rfl (by rfl) T.f_enumerate (pa_cons (pv 0) pa_nil)) (pi_enumT' K rfl (by rfl) T.f_enumerate (pa_cons (pv 0) pa_nil))) (pg_tup' (n := 2) K rfl (by rfl) (pgs_cons (pg_name (i := 1) sc_check_cells.nd rfl (.inl rfl)) (pgs_cons (pg_name (i := 2) sc_check_cells.nd rfl (.inl rfl)) pgs_nil)) (by rfl)) (pss_one (ps_if (pt_not (pt_val (C8.pe_c (c_is_whole) hr (by omega) (by rfl) (pa_cons (pv 2) (pa_cons pe_int (pa_cons (C8.pe_gc (by rfl) T.c_MOST_COLOUR) pa_nil)))))) (pss_one ps_never) pss_nil))))), ?_⟩
    try dsimp only [cxOf]
    rcases hS with hS | hS
    · walk_at "WK"
      intro t ht
      have s1 := same_new ht (o := .tup [.ty "list", .ty "tuple"])
      walk_at "WK"
      refine .inl ?_
      walk_at "WK"
      refine for_EL (xs := vN ns) (fun i σ H' => ∃ y1 y2, σ = [some (.ref a), y1, y2] ∧ Same H H') ⟨_, _, rfl, s1⟩ (fun i σ H' _ h => h.elim fun _ h => h.elim fun _ h => h.2 _ _ hS) ?_ ?_
      · rintro i x σ H' t2 hx ⟨y1, y2, rfl, sm⟩ ht2
        obtain ⟨n, hn, rfl⟩ := vN_inv hx
        have b1 := hb n (List.mem_of_getElem? hn)
        walk_at "WK"
        exact ⟨_, _, rfl, same_of sm (sm.free ht2)⟩
      · rintro σ H' ⟨y1, y2, rfl, sm⟩
        exact k _ sm
    · walk_at "WK"
      intro t ht
      have s1 := same_new ht (o := .tup [.ty "list", .ty "tuple"])
      walk_at "WK"
      refine .inr ?_
      walk_at "WK"
      refine for_ET (xs := vN ns) (fun i σ H' => ∃ y1 y2, σ = [some (.ref a), y1, y2] ∧ Same H H') ⟨_, _, rfl, s1⟩ (fun i σ H' _ h => h.elim fun _ h => h.elim fun _ h => h.2 _ _ hS) ?_ ?_
      · rintro i x σ H' t2 hx ⟨y1, y2, rfl, sm⟩ ht2
        obtain ⟨n, hn, rfl⟩ := vN_inv hx
        have b1 := hb n (List.mem_of_getElem? hn)
        walk_at "WK"
        exact ⟨_, _, rfl, same_of sm (sm.free ht2)⟩
      · rintro σ H' ⟨y1, y2, rfl, sm⟩
        exact k _ sm
theorem sc_check_ties : FnScope ["ties", "many", "index", "tie"] ["ties", "many"] (defScope s_check_ties) := ⟨rfl, rfl, rfl, by decide +kernel, rfl, by decide +kernel, by decide +kernel⟩
def sp_cht : Sp := fun vs H Q _ => ∃ (a : Addr) (ts : List Addr) (ps : List (Nat × Nat)) (many : Nat), vs = [.ref a, .int (many : Int)] ∧ Sq H a (refs ts) ∧ CpT H ts ps ∧ ts.length ≤ 1000 ∧ (∀ p ∈ ps, p.1 < many ∧ p.2 < many ∧ p.1 ≠ p.2) ∧ ∀ H', Same H H' → Q .non H'
theorem ok_check_ties (T : TX K mg) : C8.Cal P w K mg base 2 "_check_ties" sp_cht [] := by
  have c_is_whole := ok_is_whole (P := P) (w := w) (base := base) T
  obtain ⟨fd, F⟩ := T.F_check_ties
  refine ⟨_, fd, ["ties", "many"], [], ?_, T.g_check_ties, F.kp, (F.bindsN (fun _ _ _ _ _ _ us hl => match us, hl with | [_, _], _ => rfl)), .nil⟩
  refine F.ok sc_check_ties (fun vs H Q E h => ?_) (fun cdv A outer s H vs Q E hr h => ?_)
  · obtain ⟨a, ts, ps, many, rfl, _⟩ := h
    rfl
  · obtain ⟨a, ts, ps, many, rfl, hS, hC, hl, hb, k⟩ := h
    have hl0 : (refs ts).length = ts.length := List.length_map ..
    refine ⟨_, PSs.nox (pss_cons (ps_if (PW.pt (pw_or (pt_not (pt_val (pe_callB (call_isiT' K rfl) (by rfl) T.f_isinstance (by decide +kernel) (pa_cons (pv 0) (pa_cons (pe_tup (pa_cons (pe_bltn (v := .ty "list") (by rfl) T.f_list (by decide +kernel) rfl) (pa_cons (pe_bltn (v := .ty "tuple") (by rfl) T.f_tuple (by decide +kernel) rfl) pa_nil))) pa_nil))))) (pw_or1 (pt_cmpR op_gt (pe_callB (call_lenK' K rfl) (by rfl) T.f_len (by decide +kernel) (pa_cons (pv 0) pa_nil)) (C8.pe_gc (by rfl) T.c_MOST_TIES) (nomark _))))) (pss_one ps_never) pss_nil)
      (pss_one (ps_for PassesOwn.never rfl (pi_ei (pi_enum' K rfl (by rfl) T.f_enumerate (pa_cons (pv 0) pa_nil)) (pi_enumT' K rfl (by rfl) T.f_enumerate (pa_cons (pv 0) pa_nil))) (pg_tup' (n := 2) K rfl (by rfl) (pgs_cons (pg_name (i := 2) sc_check_ties.nd rfl (.inl rfl)) (pgs_cons (pg_name (i := 3) sc_check_ties.nd rfl (.inl rfl)) pgs_nil)) (by rfl)) (pss_cons (ps_if (PW.pt (pw_or (pt_not (pt_val (pe_callB (call_isiT' K rfl) (by rfl) T.f_isinstance (by decide +kernel) (pa_cons (pv 3) (pa_cons (pe_tup (pa_cons (pe_bltn (v := .ty "list") (by rfl) T.f_list (by decide +kernel) rfl) (pa_cons (pe_bltn (v := .ty "tuple") (by rfl) T.f_tuple (by decide +kernel) rfl) pa_nil))) pa_nil))))) (pw_or1 (pt_cmpR op_ne (pe_callB (call_lenK' K rfl) (by rfl) T.f_len (by decide +kernel) (pa_cons (pv 3) pa_nil)) pe_int (nomark _))))) (pss_one ps_never) pss_nil)
      (pss_one (ps_if (PW.pt (pw_or (pt_not (pt_val (C8.pe_c (c_is_whole) hr (by omega) (by rfl) (pa_cons (pe_ix (ix_tup' K rfl) (pv 3) pe_int (fun _ _ => rfl)) (pa_cons pe_int (pa_cons (pe_op op_sub (pv 1) pe_int) pa_nil)))))) (pw_or (pt_not (pt_val (C8.pe_c (c_is_whole) hr (by omega) (by rfl) (pa_cons (pe_ix (ix_tup' K rfl) (pv 3) pe_int (fun _ _ => rfl)) (pa_cons pe_int (pa_cons (pe_op op_sub (pv 1) pe_int) pa_nil)))))) (pw_or1 (pt_cmpR op_eq (pe_ix (ix_tup' K rfl) (pv 3) pe_int (fun _ _ => rfl)) (pe_ix (ix_tup' K rfl) (pv 3) pe_int (fun _ _ => rfl)) (nomark _)))))) (pss_one ps_never) pss_nil)))))), ?_⟩
    try dsimp only [cxOf]
    rcases hS with hS | hS
    · walk_at "WK"
      intro t ht
      have s1 := same_new ht (o := .tup [.ty "list", .ty "tuple"])
      walk_at "WK"
      refine .inl ?_
      walk_at "WK"
      refine for_EL (xs := refs ts) (fun i σ H' => ∃ y1 y2, σ = [some (.ref a), some (.int (many : Int)), y1, y2] ∧ Same H H') ⟨_, _, rfl, s1⟩ (fun i σ H' _ h => h.elim fun _ h => h.elim fun _ h => h.2 _ _ hS) ?_ ?_
      · rintro i x σ H' t2 hx ⟨y1, y2, rfl, sm⟩ ht2
        obtain ⟨b, hb1, rfl⟩ := refs_inv hx
        obtain ⟨p, hp, hp2⟩ := hC.getL hb1
        have b1 := hb p (List.mem_of_getElem? hp)
        have hp3 := sm _ _ hp2
        have sm2 := same_of sm (sm.free ht2) (o := .tup [.int (i : Int), .ref b])
        walk_at "WK"
        intro t3 ht3
        have n32 : t3 ≠ t2 := fun z => by rw [z, upd_same] at ht3; cases ht3
        rw [upd_ne n32] at ht3
        have sm3 := same_of sm2 (sm.free ht3) (o := .tup [.ty "list", .ty "tuple"])
        walk_at "WK"
        exact ⟨_, _, rfl, sm3⟩
      · rintro σ H' ⟨y1, y2, rfl, sm⟩
        exact k _ sm
    · walk_at "WK"
      intro t ht
      have s1 := same_new ht (o := .tup [.ty "list", .ty "tuple"])
      walk_at "WK"
      refine .inr ?_
      walk_at "WK"
      refine for_ET (xs := refs ts) (fun i σ H' => ∃ y1 y2, σ = [some (.ref a), some (.int (many : Int)), y1, y2] ∧ Same H H') ⟨_, _, rfl, s1⟩ (fun i σ H' _ h => h.elim fun _ h => h.elim fun _ h => h.2 _ _ hS) ?_ ?_
      · rintro i x σ H' t2 hx ⟨y1, y2, rfl, sm⟩ ht2
        obtain ⟨b, hb1, rfl⟩ := refs_inv hx
        obtain ⟨p, hp, hp2⟩ := hC.getL hb1
        have b1 := hb p (List.mem_of_getElem? hp)
        have hp3 := sm _ _ hp2
        have sm2 := same_of sm (sm.free ht2) (o := .tup [.int (i : Int), .ref b])
        walk_at "WK"
        intro t3 ht3
        have n32 : t3 ≠ t2 := fun z => by rw [z, upd_same] at ht3; cases ht3
        rw [upd_ne n32] at ht3
        have sm3 := same_of sm2 (sm.free ht3) (o := .tup [.ty "list", .ty "tuple"])
        walk_at "WK"
        exact ⟨_, _, rfl, sm3⟩
      · rintro σ H' ⟨y1, y2, rfl, sm⟩
        exact k _ sm
theorem sc_check_marks : FnScope ["marks", "many", "index", "cell"] ["marks", "many"] (defScope s_check_marks) := ⟨rfl, rfl, rfl, by decide +kernel, rfl, by decide +kernel, by decide +kernel⟩
def sp_chm : Sp := fun vs H Q _ => ∃ (a : Addr) (ns : List Nat) (many : Nat), vs = [.ref a, .int (many : Int)] ∧ Sq H a (vN ns) ∧ 1 ≤ ns.length ∧ ns.length ≤ 4 ∧ (∀ n ∈ ns, n < many) ∧ ns.Nodup ∧ ∀ H', Same H H' → Q .non H'
theorem nodup_take {ns : List Nat} (h : ns.Nodup) {i n : Nat} (e : ns[i]? = some n) : n ∉ ns.take i := fun m => by
  obtain ⟨j, hj⟩ := List.getElem?_of_mem m
  rw [List.getElem?_take] at hj
  split at hj
  · rename_i hlt
    obtain ⟨p1, q1⟩ := List.getElem?_eq_some_iff.mp e
    obtain ⟨p2, q2⟩ := List.getElem?_eq_some_iff.mp hj
    have := (List.getElem_inj h).mp (q1.trans q2.symm)
    omega
  · cases hj
theorem ok_check_marks (T : TX K mg) : C8.Cal P w K mg base 2 "_check_marks" sp_chm [] := by
  have c_is_whole := ok_is_whole (P := P) (w := w) (base := base) T
  obtain ⟨fd, F⟩ := T.F_check_marks
  refine ⟨_, fd, ["marks", "many"], [], ?_, T.g_check_marks, F.kp, (F.bindsN (fun _ _ _ _ _ _ us hl => match us, hl with | [_, _], _ => rfl)), .nil⟩
  refine F.ok sc_check_marks (fun vs H Q E h => ?_) (fun cdv A outer s H vs Q E hr h => ?_)
  · obtain ⟨a, ns, many, rfl, _⟩ := h
    rfl
  · obtain ⟨a, ns, many, rfl, hS, hl1, hl2, hb, hnd, k⟩ := h
    have hl := vN_len ns
    refine ⟨_, PSs.nox (pss_cons (ps_if (PW.pt (pw_or (pt_not (pt_val (pe_callB (call_isiT' K rfl) (by rfl) T.f_isinstance (by decide +kernel) (pa_cons (pv 0) (pa_cons (pe_tup (pa_cons (pe_bltn (v := .ty "list") (by rfl) T.f_list (by decide +kernel) rfl) (pa_cons (pe_bltn (v := .ty "tuple") (by rfl) T.f_tuple (by decide +kernel) rfl) pa_nil))) pa_nil))))) (pw_or1 (pt_not (pt_chain op_le op_le pe_int (pe_callB (call_lenK' K rfl) (by rfl) T.f_len (by decide +kernel) (pa_cons (pv 0) pa_nil)) pe_int))))) (pss_one ps_never) pss_nil)
      (pss_one (ps_for PassesOwn.never rfl (pi_ei (pi_enum' K rfl (by rfl) T.f_enumerate (pa_cons (pv 0) pa_nil)) (pi_enumT' K rfl (by rfl) T.f_enumerate (pa_cons (pv 0) pa_nil))) (pg_tup' (n := 2) K rfl (by rfl) (pgs_cons (pg_name (i := 2) sc_check_marks.nd rfl (.inl rfl)) (pgs_cons (pg_name (i := 3) sc_check_marks.nd rfl (.inl rfl)) pgs_nil)) (by rfl)) (pss_one (ps_if (PW.pt (pw_or (pt_not (pt_val (C8.pe_c (c_is_whole) hr (by omega) (by rfl) (pa_cons (pv 3) (pa_cons pe_int (pa_cons (pe_op op_sub (pv 1) pe_int) pa_nil)))))) (pw_or1 (pt_cmpR (op_in_seq' K rfl) (pv 3) (pe_ei (pe_slice (sl_list' K rfl) (pv 0) po_none (po_some (pv 2))) (pe_slice (sl_tup' K rfl) (pv 0) po_none (po_some (pv 2)))) (by rfl))))) (pss_one ps_never) pss_nil))))), ?_⟩
    try dsimp only [cxOf]
    rcases hS with hS | hS
    · walk_at "WK"
      intro t ht
      have s1 := same_new ht (o := .tup [.ty "list", .ty "tuple"])
      walk_at "WK"
      refine .inl ?_
      walk_at "WK"
      refine for_EL (xs := vN ns) (fun i σ H' => ∃ y1 y2, σ = [some (.ref a), some (.int (many : Int)), y1, y2] ∧ Same H H') ⟨_, _, rfl, s1⟩ (fun i σ H' _ h => h.elim fun _ h => h.elim fun _ h => h.2 _ _ hS) ?_ ?_
      · rintro i x σ H' t2 hx ⟨y1, y2, rfl, sm⟩ ht2
        have hx1 := (List.getElem?_eq_some_iff.mp hx).1
        obtain ⟨n, hn, rfl⟩ := vN_inv hx
        have b1 := hb n (List.mem_of_getElem? hn)
        have nd1 := nodup_take hnd hn
        have hS' := sm _ _ hS
        have sm2 := same_of sm (sm.free ht2) (o := .tup [.int (i : Int), .int (n : Int)])
        walk_at "WK"
        refine .inl ?_
        walk_at "WK"
        intro t3 ht3
        rw [vN_take]
        have sm3 := same_of sm2 (sm2.free ht3) (o := .lst (vN (ns.take i)))
        walk_at "WK"
        exact ⟨_, _, rfl, sm3⟩
      · rintro σ H' ⟨y1, y2, rfl, sm⟩
        exact k _ sm
    · walk_at "WK"
      intro t ht
      have s1 := same_new ht (o := .tup [.ty "list", .ty "tuple"])
      walk_at "WK"
      refine .inr ?_
      walk_at "WK"
      refine for_ET (xs := vN ns) (fun i σ H' => ∃ y1 y2, σ = [some (.ref a), some (.int (many : Int)), y1, y2] ∧ Same H H') ⟨_, _, rfl, s1⟩ (fun i σ H' _ h => h.elim fun _ h => h.elim fun _ h => h.2 _ _ hS) ?_ ?_
      · rintro i x σ H' t2 hx ⟨y1, y2, rfl, sm⟩ ht2
        have hx1 := (List.getElem?_eq_some_iff.mp hx).1
        obtain ⟨n, hn, rfl⟩ := vN_inv hx
        have b1 := hb n (List.mem_of_getElem? hn)
        have nd1 := nodup_take hnd hn
        have hS' := sm _ _ hS
        have sm2 := same_of sm (sm.free ht2) (o := .tup [.int (i : Int), .int (n : Int)])
        walk_at "WK"
        refine .inr ?_
        walk_at "WK"
        intro t3 ht3
        rw [vN_take]
        have sm3 := same_of sm2 (sm2.free ht3) (o := .tup (vN (ns.take i)))
        walk_at "WK"
        exact ⟨_, _, rfl, sm3⟩
      · rintro σ H' ⟨y1, y2, rfl, sm⟩
        exact k _ sm
end
end G6
end
section
set_option maxHeartbeats 4000000
set_option Elab.async false
set_option linter.all false
set_option maxRecDepth 100000
namespace G6
open PySem PySem.Spec PyProof.Rows L2 PySem.W
/-! couples, put in order -/
def mm (t : Nat × Nat) : Nat × Nat := (min t.1 t.2, max t.1 t.2)
def addP (ks : List (Nat × Nat)) (p : Nat × Nat) : List (Nat × Nat) := if p ∈ ks then ks else ks ++ [p]
def ddS (ks : List (Nat × Nat)) (t : Nat × Nat) : List (Nat × Nat) := addP ks (mm t)
def dd (ts : List (Nat × Nat)) : List (Nat × Nat) := ts.foldl ddS []
def normT (ts : List (Nat × Nat)) : List (Nat × Nat) := srt2 (dd ts)
theorem mm_min (a b : Nat) : (if (b : Int) < (a : Int) then (b : Int) else (a : Int)) = ((mm (a, b)).1 : Int) := by
  show _ = ((min a b : Nat) : Int)
  split <;> omega
theorem mm_max (a b : Nat) : (if (b : Int) > (a : Int) then (b : Int) else (a : Int)) = ((mm (a, b)).2 : Int) := by
  show _ = ((max a b : Nat) : Int)
  split <;> omega
theorem addP_nd {ks : List (Nat × Nat)} {p : Nat × Nat} (h : ks.Nodup) : (addP ks p).Nodup := by
  unfold addP
  split
  · exact h
  · rename_i hn
    refine List.nodup_append.mpr ⟨h, by simp, fun a ha b hb => ?_⟩
    rw [List.mem_singleton] at hb
    exact fun z => hn (by rw [← hb, ← z]; exact ha)
theorem mem_addP {ks : List (Nat × Nat)} {p q : Nat × Nat} : q ∈ addP ks p ↔ q ∈ ks ∨ q = p := by
  unfold addP
  split
  · rename_i h
    exact ⟨.inl, fun z => z.elim id fun e => e ▸ h⟩
  · simp
theorem addP_len (ks : List (Nat × Nat)) (p : Nat × Nat) : (addP ks p).length ≤ ks.length + 1 := by
  unfold addP
  split
  · omega
  · simp
theorem dd_nd (ts : List (Nat × Nat)) : ∀ ks : List (Nat × Nat), ks.Nodup → (ts.foldl ddS ks).Nodup := by
  induction ts with
  | nil => exact fun _ h => h
  | cons t ts ih => exact fun ks h => ih _ (addP_nd h)
theorem dd_mem (ts : List (Nat × Nat)) : ∀ (ks : List (Nat × Nat)) (q : Nat × Nat), q ∈ ts.foldl ddS ks ↔ q ∈ ks ∨ ∃ t ∈ ts, q = mm t := by
  induction ts with
  | nil => intro ks q; simp
  | cons t ts ih =>
    intro ks q
    rw [List.foldl_cons, ih, ddS, mem_addP]
    simp only [List.mem_cons, exists_eq_or_imp, or_assoc]
theorem dd_len (ts : List (Nat × Nat)) : ∀ ks : List (Nat × Nat), (ts.foldl ddS ks).length ≤ ks.length + ts.length := by
  induction ts with
  | nil => intro ks; simp
  | cons t ts ih =>
    intro ks
    have := ih (addP ks (mm t))
    have := addP_len ks (mm t)
    rw [List.foldl_cons, List.length_cons]
    show (ts.foldl ddS (addP ks (mm t))).length ≤ _
    omega
theorem normT_mem {ts : List (Nat × Nat)} {q : Nat × Nat} : q ∈ normT ts ↔ ∃ t ∈ ts, q = mm t := by
  unfold normT srt2 dd
  rw [List.mem_mergeSort, dd_mem]
  simp
theorem normT_len (ts : List (Nat × Nat)) : (normT ts).length ≤ ts.length := by
  unfold normT srt2 dd
  rw [List.length_mergeSort]
  have := dd_len ts []
  simpa using this
theorem mm_mm (t : Nat × Nat) : mm (mm t) = mm t := by
  unfold mm
  refine Prod.ext ?_ ?_
  · show min (min t.1 t.2) (max t.1 t.2) = min t.1 t.2
    omega
  · show max (min t.1 t.2) (max t.1 t.2) = max t.1 t.2
    omega
theorem dd_id (ts : List (Nat × Nat)) (h : ∀ t ∈ ts, mm t = t) : ∀ ks : List (Nat × Nat), (ks ++ ts).Nodup → ts.foldl ddS ks = ks ++ ts := by
  induction ts with
  | nil => intro ks _; simp
  | cons t ts ih =>
    intro ks hn
    have hm := h t (List.mem_cons_self ..)
    have hk : t ∉ ks := fun m => by
      have := (List.nodup_append.mp hn).2.2 t m t (List.mem_cons_self ..)
      exact this rfl
    have e : ddS ks t = ks ++ [t] := by rw [ddS, hm, addP, if_neg hk]
    rw [List.foldl_cons, e, ih (fun u hu => h u (List.mem_cons_of_mem _ hu)) _ (by rw [List.append_assoc]; exact hn), List.append_assoc]
    rfl
theorem lex2_trans (a b c : Nat × Nat) (h1 : lex2 a b = true) (h2 : lex2 b c = true) : lex2 a c = true := by
  unfold lex2 at *
  simp only [decide_eq_true_eq] at *
  omega
theorem lex2_total (a b : Nat × Nat) : (lex2 a b || lex2 b a) = true := by
  unfold lex2
  simp only [Bool.or_eq_true, decide_eq_true_eq]
  omega
theorem normT_idem (ts : List (Nat × Nat)) : normT (normT ts) = normT ts := by
  have h1 : ∀ t ∈ normT ts, mm t = t := fun t ht => by
    obtain ⟨u, _, rfl⟩ := normT_mem.mp ht
    exact mm_mm u
  have h2 : (normT ts).Nodup := by
    unfold normT srt2
    exact (List.mergeSort_perm _ _).nodup_iff.mpr (dd_nd ts [] List.nodup_nil)
  have h3 : dd (normT ts) = normT ts := dd_id _ h1 [] h2
  show srt2 (dd (normT ts)) = normT ts
  rw [h3]
  exact List.mergeSort_of_pairwise (List.pairwise_mergeSort lex2_trans lex2_total _)
theorem normT_lt {ts : List (Nat × Nat)} {n : Nat} (h : ∀ p ∈ ts, p.1 < n ∧ p.2 < n ∧ p.1 ≠ p.2) : ∀ p ∈ normT ts, p.1 < n ∧ p.2 < n ∧ p.1 ≠ p.2 := fun p hp => by
  obtain ⟨t, ht, rfl⟩ := normT_mem.mp hp
  have := h t ht
  show min t.1 t.2 < n ∧ max t.1 t.2 < n ∧ min t.1 t.2 ≠ max t.1 t.2
  omega
section
variable {P : Program} {w : World} {K : PySem.W.Frag} {mg : Str → Option Value} {base : Heap}
theorem r_chc {H : Hp} {Q : VK} {E : XK} {a : Addr} {ns : List Nat} (hS : Sq H a (vN ns)) (h1 : 1 ≤ ns.length) (h2 : ns.length ≤ 700) (h3 : ∀ n ∈ ns, n ≤ 99) (k : ∀ H', Same H H' → Q .non H') : sp_chc ([.ref a] ++ []) H Q E := ⟨a, ns, rfl, hS, h1, h2, h3, k⟩
theorem r_cht {H : Hp} {Q : VK} {E : XK} {a : Addr} {ts : List Addr} {ps : List (Nat × Nat)} {many : Nat} (hS : Sq H a (refs ts)) (hC : CpT H ts ps) (h2 : ts.length ≤ 1000) (h3 : ∀ p ∈ ps, p.1 < many ∧ p.2 < many ∧ p.1 ≠ p.2) (k : ∀ H', Same H H' → Q .non H') : sp_cht ([.ref a, .int (many : Int)] ++ []) H Q E := ⟨a, ts, ps, many, rfl, hS, hC, h2, h3, k⟩
theorem r_chm {H : Hp} {Q : VK} {E : XK} {a : Addr} {ns : List Nat} {many : Nat} (hS : Sq H a (vN ns)) (h1 : 1 ≤ ns.length) (h2 : ns.length ≤ 4) (h3 : ∀ n ∈ ns, n < many) (h4 : ns.Nodup) (k : ∀ H', Same H H' → Q .non H') : sp_chm ([.ref a, .int (many : Int)] ++ []) H Q E := ⟨a, ns, many, rfl, hS, h1, h2, h3, h4, k⟩
theorem kP_depth (p : Nat × Nat) : (NestedKey.tup [.num (p.1 : Int), .num (p.2 : Int)]).depth ≤ 8 := by simp [NestedKey.depth, NestedKey.depthAll]
theorem CpT.extT {H H' : Hp} {as : List Addr} {ps : List (Nat × Nat)} (h : CpT H as ps) (t : TupSame H H') : CpT H' as ps := All2.imp h fun _ _ r => t _ _ r
theorem sc_Picture_init : FnScope ["self", "colours", "ties", "marks", "many", "pairs", "tie"] ["self", "colours", "ties", "marks"] (defScope s_Picture_init) := ⟨rfl, rfl, rfl, by decide +kernel, rfl, by decide +kernel, by decide +kernel⟩
/-- what a picture may be made of -/
structure PicOk (col : List Nat) (ps : List (Nat × Nat)) (ms : List Nat) : Prop where
  c1 : 1 ≤ col.length
  c2 : col.length ≤ 700
  c3 : ∀ n ∈ col, n ≤ 99
  t1 : ps.length ≤ 1000
  t2 : ∀ p ∈ ps, p.1 < col.length ∧ p.2 < col.length ∧ p.1 ≠ p.2
  m1 : 1 ≤ ms.length
  m2 : ms.length ≤ 4
  m3 : ∀ n ∈ ms, n < col.length
  m4 : ms.Nodup
def sp_pic (K : PySem.W.Frag) : Sp := fun vs H Q _ => ∃ (x dx a b c : Addr) (col : List Nat) (ts : List Addr) (ps : List (Nat × Nat)) (ms : List Nat) (H0 : Hp), vs = [.ref x, .ref a, .ref b, .ref c] ∧ Same H0 H ∧ H0 x = none ∧ H0 dx = none ∧ H x = some (.ins (He.ga K "Picture") dx []) ∧ Sq H0 a (vN col) ∧ Sq H0 b (refs ts) ∧ CpT H0 ts ps ∧ Sq H0 c (vN ms) ∧ PicOk col ps ms ∧
  ∀ H', Same H0 H' → PicAt K H' x ⟨col, normT ps, ms⟩ → Q .non H'
theorem ok_Picture_init (T : TX K mg) : C8.Mak P w K mg base 3 "Picture" (He.ga K "Picture") (sp_pic K) [] := by
  have c_check_cells := ok_check_cells (P := P) (w := w) (base := base) T
  have c_check_ties := ok_check_ties (P := P) (w := w) (base := base) T
  have c_check_marks := ok_check_marks (P := P) (w := w) (base := base) T
  obtain ⟨fd, F⟩ := T.F_Picture_init
  refine ⟨_, fd, ["self", "colours", "ties", "marks"], [], T.m_Picture, ?_, T.g_Picture, (F.bindsN (fun _ _ _ _ _ _ us hl => match us, hl with | [_, _, _, _], _ => rfl)), .nil⟩
  refine F.ok sc_Picture_init (fun vs H Q E h => ?_) (fun cdv A outer s H vs Q E hr h => ?_)
  · obtain ⟨x, dx, a, b, c, col, ts, ps, ms, H0, rfl, _⟩ := h
    rfl
  · obtain ⟨x, dx, a, b, c, col, ts, ps, ms, H0, rfl, s0, nx, ndx, hx, ha, hb, hC, hc, ok, k⟩ := h
    have hlc := vN_len col
    refine ⟨_, PSs.nox (pss_cons (ps_expr (C8.pe_c (c_check_cells) hr (by omega) (by rfl) (pa_cons (pv 1) pa_nil)))
      (pss_cons (ps_set (i := 4) sc_Picture_init.nd rfl (.inl rfl) (pe_callB (call_lenK' K rfl) (by rfl) T.f_len (by decide +kernel) (pa_cons (pv 1) pa_nil)))
      (pss_cons (ps_expr (C8.pe_c (c_check_ties) hr (by omega) (by rfl) (pa_cons (pv 2) (pa_cons (pv 4) pa_nil))))
      (pss_cons (ps_expr (C8.pe_c (c_check_marks) hr (by omega) (by rfl) (pa_cons (pv 3) (pa_cons (pv 4) pa_nil))))
      (pss_cons (ps_setDcN (j := 5) (own := [("tie", 6)]) (g := gName 6) hr.u80 (by rfl) sc_Picture_init.nd rfl rfl (sw_dict rfl rfl rfl (by decide +kernel)) (pi_ei (pi_list' K rfl (pv 2)) (pi_tup' K rfl (pv 2))) (blkOk_by (own := [("tie", 6)]) (N := ["self", "colours", "ties", "marks", "many", "pairs", "tie"]) (sc := defScope s_Picture_init) (by decide +kernel)) (fun _ _ _ _ _ => (pg_name (i := 6) sc_Picture_init.nd rfl (.inl rfl))) (fun _ _ _ _ _ => pts_nil) (fun _ _ _ _ _ => (pe_tup (pa_cons (pe_callB (call_min2K rfl) (by rfl) T.f_min (by decide +kernel) (pa_cons (pe_ix (ix_tup' K rfl) (pv 6) pe_int (fun _ _ => rfl)) (pa_cons (pe_ix (ix_tup' K rfl) (pv 6) pe_int (fun _ _ => rfl)) pa_nil))) (pa_cons (pe_callB (call_max2K rfl) (by rfl) T.f_max (by decide +kernel) (pa_cons (pe_ix (ix_tup' K rfl) (pv 6) pe_int (fun _ _ => rfl)) (pa_cons (pe_ix (ix_tup' K rfl) (pv 6) pe_int (fun _ _ => rfl)) pa_nil))) pa_nil)))) (fun _ _ _ _ _ => pe_bl))
      (pss_cons (ps_fld (pv 0) (pe_callTy (call_tupleK' K rfl) (by rfl) T.f_tuple (by decide +kernel) (pa_cons (pv 1) pa_nil)) rfl)
      (pss_cons (ps_fld (pv 0) (pe_callTy (call_tupleK' K rfl) (by rfl) T.f_tuple (by decide +kernel) (pa_cons (pe_callB (cr_sortKN' w rfl hr.units rfl) (by rfl) T.f_sorted (by decide +kernel) (pa_cons (pe_keysv' w rfl (pv 5)) pa_nil)) pa_nil)) rfl)
      (pss_one (ps_fld (pv 0) (pe_callTy (call_tupleK' K rfl) (by rfl) T.f_tuple (by decide +kernel) (pa_cons (pv 3) pa_nil)) rfl))))))))), ?_⟩
    try dsimp only [cxOf]
    walk_at "WK"
    refine r_chc (ha.ext s0) ok.c1 ok.c2 ok.c3 fun H1 s1 => ?_
    have s01 := s0.trans s1
    have hx1 := s1 _ _ hx
    walk_at "WK"
    refine k_lenSq (ha.ext s01) ?_
    walk_at "WK"
    rw [hlc]
    refine r_cht (hb.ext s01) (hC.ext s01) (by rw [hC.len]; exact ok.t1) ok.t2 fun H2 s2 => ?_
    have s02 := s01.trans s2
    have hx2 := s2 _ _ hx1
    walk_at "WK"
    refine r_chm (hc.ext s02) ok.m1 ok.m2 ok.m3 ok.m4 fun H3 s3 => ?_
    have s03 := s02.trans s3
    have hx3 := s3 _ _ hx2
    walk_at "WK"
    have hb3 := hb.ext s03
    have hC3 := hC.ext s03
    -- the couples
    rcases hb3 with hb3 | hb3
    · refine .inl ?_
      walk_at "WK"
      refine dcn_J walk_list (fun Dd i H4 => Same H3 H4 ∧ ∃ xs ep, DN w H4 Dd xs ep ∧ H3 Dd = none ∧ xs.map (·.1) = ((ps.take i).foldl ddS []).map kP) (fun Dd hd hdn => ⟨same_new hd, [], 0, hdn, hd, rfl⟩) (fun Dd i H4 _ h => by exact .of (h.1 _ _ hb3)) ?_ ?_
      · rintro Dd i y H4 _ hi ⟨s4, xs, ep, hd, nd, he⟩ ⟨rfl, hy⟩
        obtain ⟨b1, hb1, rfl⟩ := refs_inv hy
        obtain ⟨p, hp, hp2⟩ := hC3.getL hb1
        have hp4 := s4 _ _ hp2
        walk_at "WK"
        rw [mm_min]
        walk_at "WK"
        rw [mm_max]
        walk_at "WK"
        intro t ht
        have s5 := same_new ht (o := .tup [.int ((mm p).1 : Int), .int ((mm p).2 : Int)])
        have d5 := hd.same s5
        walk_at "WK"
        have hlen : xs.length = ((ps.take i).foldl ddS []).length := by
          have := congrArg List.length he
          rw [List.length_map, List.length_map] at this
          exact this
        refine r_putk (xs := xs) (ks := [.num ((mm p).1 : Int), .num ((mm p).2 : Int)]) d5 (rp_pair (p := mm p) upd_same) (kP_depth _) (lt_sz (by
          have h1 := dd_len (ps.take i) []
          rw [List.length_take] at h1
          have h2 := ok.t1
          simp only [List.length_nil] at h1
          omega)) fun ep' hd' => ⟨same_of (s4.trans s5) nd, _, ep', hd', nd, ?_⟩
        show (putX xs (kP (mm p)) t _).map (·.1) = _
        rw [keys_putX, he, foldl_take _ _ _ hp, ddS, addP]
        by_cases hm : mm p ∈ (ps.take i).foldl ddS []
        · rw [if_pos hm, if_pos (List.mem_map.mpr ⟨_, hm, rfl⟩)]
        · rw [if_neg hm, if_neg (fun z => by
            obtain ⟨q, hq, e⟩ := List.mem_map.mp z
            exact hm (kP_inj e ▸ hq)), List.map_append]
          rfl
      · rintro Dd H4 ⟨s4, xs, ep, hd, nd, he⟩
        rw [List.length_map, hC.len, List.take_length] at he
        have s04 := s03.trans s4
        have hx4 := s4 _ _ hx3
        walk_at "WK"
        refine k_tupSq (ha.ext s04) fun l1 H5 hl1 s5 => ?_
        have hx5 := s5 _ _ hx4
        have s05 := s04.trans s5
        have hd5 := hd.same s5
        walk_at "WK"
        have xl1 : l1 ≠ x := fun z => by rw [z] at hl1; rw [hl1] at hx5; cases hx5
        have s06 := same_of s05 nx (o := .ins (He.ga K "Picture") dx [("colours", .ref l1)])
        have nDx : Dd ≠ x := fun z => by rw [z] at hd5; rw [hd5.at_] at hx5; cases hx5
        have hd6 := hd5.ext (H' := upd H5 x (.ins (He.ga K "Picture") dx [("colours", .ref l1)])) (upd_ne nDx) (TupSame.mut fun vs e => by rw [hx5] at e; cases e)
        have hx6 : upd H5 x (.ins (He.ga K "Picture") dx [("colours", .ref l1)]) x = some (.ins (He.ga K "Picture") dx [("colours", .ref l1)]) := upd_same
        refine r_keysN hd6 fun pv hpv => ?_
        have hd7 := hd6.same (same_new hpv (o := viewO pv Dd))
        walk_at "WK"
        refine r_sortKP upd_same hd7 he fun q tq hq hcq => ?_
        walk_at "WK"
        intro q2 hq2
        have nxp : x ≠ pv := ne_of_none hx6 hpv
        have s7 := same_new hpv (o := viewO pv Dd)
        have s8 := same_new hq (o := .lst (refs tq))
        have s9 := same_new hq2 (o := .tup (refs tq))
        have s79 := (s7.trans s8).trans s9
        have hx9 := s79 _ _ hx6
        have hl9 : upd H5 x (.ins (He.ga K "Picture") dx [("colours", .ref l1)]) l1 = some (.tup (vN col)) := (upd_ne xl1).trans hl1
        have hl10 := s79 _ _ hl9
        have hcq2 := (hcq.ext s8).ext s9
        have s09 := s06.trans s79
        walk_at "WK"
        have nq2x : q2 ≠ x := (ne_of_none (s8 _ _ (s7 _ _ hx6)) hq2).symm
        refine k_tupSq (hc.ext (same_of s09 nx)) fun l3 H6 hl3 s10 => ?_
        have hx11 := s10 _ _ upd_same
        have xl3 : l3 ≠ x := fun z => by rw [z] at hl3; rw [hl3] at hx11; cases hx11
        walk_at "WK"
        have s11 := (same_of s09 nx).trans s10
        refine k _ (same_of s11 nx) ⟨dx, l1, q2, l3, tq, upd_same, (upd_ne xl1).trans (s10 _ _ ((upd_ne xl1).trans hl10)), (upd_ne nq2x).trans (s10 _ _ ((upd_ne nq2x).trans upd_same)), ?_, (upd_ne xl3).trans hl3⟩
        exact ((hcq2.extT (TupSame.mut fun vs e => by rw [hx9] at e; cases e)).ext s10).extT (TupSame.mut fun vs e => by rw [hx11] at e; cases e)
    · refine .inr ?_
      walk_at "WK"
      refine dcn_J walk_tup (fun Dd i H4 => Same H3 H4 ∧ ∃ xs ep, DN w H4 Dd xs ep ∧ H3 Dd = none ∧ xs.map (·.1) = ((ps.take i).foldl ddS []).map kP) (fun Dd hd hdn => ⟨same_new hd, [], 0, hdn, hd, rfl⟩) (fun Dd i H4 _ h => by exact .of (h.1 _ _ hb3)) ?_ ?_
      · rintro Dd i y H4 _ hi ⟨s4, xs, ep, hd, nd, he⟩ ⟨rfl, hy⟩
        obtain ⟨b1, hb1, rfl⟩ := refs_inv hy
        obtain ⟨p, hp, hp2⟩ := hC3.getL hb1
        have hp4 := s4 _ _ hp2
        walk_at "WK"
        rw [mm_min]
        walk_at "WK"
        rw [mm_max]
        walk_at "WK"
        intro t ht
        have s5 := same_new ht (o := .tup [.int ((mm p).1 : Int), .int ((mm p).2 : Int)])
        have d5 := hd.same s5
        walk_at "WK"
        have hlen : xs.length = ((ps.take i).foldl ddS []).length := by
          have := congrArg List.length he
          rw [List.length_map, List.length_map] at this
          exact this
        refine r_putk (xs := xs) (ks := [.num ((mm p).1 : Int), .num ((mm p).2 : Int)]) d5 (rp_pair (p := mm p) upd_same) (kP_depth _) (lt_sz (by
          have h1 := dd_len (ps.take i) []
          rw [List.length_take] at h1
          have h2 := ok.t1
          simp only [List.length_nil] at h1
          omega)) fun ep' hd' => ⟨same_of (s4.trans s5) nd, _, ep', hd', nd, ?_⟩
        show (putX xs (kP (mm p)) t _).map (·.1) = _
        rw [keys_putX, he, foldl_take _ _ _ hp, ddS, addP]
        by_cases hm : mm p ∈ (ps.take i).foldl ddS []
        · rw [if_pos hm, if_pos (List.mem_map.mpr ⟨_, hm, rfl⟩)]
        · rw [if_neg hm, if_neg (fun z => by
            obtain ⟨q, hq, e⟩ := List.mem_map.mp z
            exact hm (kP_inj e ▸ hq)), List.map_append]
          rfl
      · rintro Dd H4 ⟨s4, xs, ep, hd, nd, he⟩
        rw [List.length_map, hC.len, List.take_length] at he
        have s04 := s03.trans s4
        have hx4 := s4 _ _ hx3
        walk_at "WK"
        refine k_tupSq (ha.ext s04) fun l1 H5 hl1 s5 => ?_
        have hx5 := s5 _ _ hx4
        have s05 := s04.trans s5
        have hd5 := hd.same s5
        walk_at "WK"
        have xl1 : l1 ≠ x := fun z => by rw [z] at hl1; rw [hl1] at hx5; cases hx5
        have s06 := same_of s05 nx (o := .ins (He.ga K "Picture") dx [("colours", .ref l1)])
        have nDx : Dd ≠ x := fun z => by rw [z] at hd5; rw [hd5.at_] at hx5; cases hx5
        have hd6 := hd5.ext (H' := upd H5 x (.ins (He.ga K "Picture") dx [("colours", .ref l1)])) (upd_ne nDx) (TupSame.mut fun vs e => by rw [hx5] at e; cases e)
        have hx6 : upd H5 x (.ins (He.ga K "Picture") dx [("colours", .ref l1)]) x = some (.ins (He.ga K "Picture") dx [("colours", .ref l1)]) := upd_same
        refine r_keysN hd6 fun pv hpv => ?_
        have hd7 := hd6.same (same_new hpv (o := viewO pv Dd))
        walk_at "WK"
        refine r_sortKP upd_same hd7 he fun q tq hq hcq => ?_
        walk_at "WK"
        intro q2 hq2
        have nxp : x ≠ pv := ne_of_none hx6 hpv
        have s7 := same_new hpv (o := viewO pv Dd)
        have s8 := same_new hq (o := .lst (refs tq))
        have s9 := same_new hq2 (o := .tup (refs tq))
        have s79 := (s7.trans s8).trans s9
        have hx9 := s79 _ _ hx6
        have hl9 : upd H5 x (.ins (He.ga K "Picture") dx [("colours", .ref l1)]) l1 = some (.tup (vN col)) := (upd_ne xl1).trans hl1
        have hl10 := s79 _ _ hl9
        have hcq2 := (hcq.ext s8).ext s9
        have s09 := s06.trans s79
        walk_at "WK"
        have nq2x : q2 ≠ x := (ne_of_none (s8 _ _ (s7 _ _ hx6)) hq2).symm
        refine k_tupSq (hc.ext (same_of s09 nx)) fun l3 H6 hl3 s10 => ?_
        have hx11 := s10 _ _ upd_same
        have xl3 : l3 ≠ x := fun z => by rw [z] at hl3; rw [hl3] at hx11; cases hx11
        walk_at "WK"
        have s11 := (same_of s09 nx).trans s10
        refine k _ (same_of s11 nx) ⟨dx, l1, q2, l3, tq, upd_same, (upd_ne xl1).trans (s10 _ _ ((upd_ne xl1).trans hl10)), (upd_ne nq2x).trans (s10 _ _ ((upd_ne nq2x).trans upd_same)), ?_, (upd_ne xl3).trans hl3⟩
        exact ((hcq2.extT (TupSame.mut fun vs e => by rw [hx9] at e; cases e)).ext s10).extT (TupSame.mut fun vs e => by rw [hx11] at e; cases e)
end
end G6
end
section
set_option maxHeartbeats 4000000
set_option Elab.async false
set_option linter.all false
/-! M3: what the searches through one picture compute -/
namespace G6
open PySem PySem.Spec PyProof.Rows L2 PySem.W
theorem vN_snoc {ns : List Nat} {ys : List V} {y : V} (h : vN ns = ys ++ [y]) : ∃ (r : List Nat) (n : Nat), ns = r ++ [n] ∧ ys = vN r ∧ y = .int (n : Int) := by
  rcases List.eq_nil_or_concat ns with rfl | ⟨r, n, rfl⟩
  · simp at h
  · have e : vN (r.concat n) = vN r ++ [.int (n : Int)] := by rw [List.concat_eq_append, vN_app]
    rw [e] at h
    obtain ⟨h1, h2⟩ := List.append_inj' h rfl
    exact ⟨r, n, by rw [List.concat_eq_append], h1.symm, (List.cons.inj h2).1.symm⟩
theorem nodup_sub_len {α : Type} [DecidableEq α] : ∀ {xs ys : List α}, xs.Nodup → (∀ x ∈ xs, x ∈ ys) → xs.length ≤ ys.length
  | [], _, _, _ => Nat.zero_le _
  | x :: xs, ys, hn, h => by
    have hx := h x (List.mem_cons_self ..)
    have hn' := List.nodup_cons.mp hn
    have ih := nodup_sub_len (ys := ys.erase x) hn'.2 fun z hz => by
      have hzx : z ≠ x := fun e => hn'.1 (by rw [← e]; exact hz)
      exact (List.mem_erase_of_ne hzx).mpr (h z (List.mem_cons_of_mem _ hz))
    rw [List.length_erase_of_mem hx] at ih
    have : 0 < ys.length := List.length_pos_of_mem hx
    rw [List.length_cons]
    omega
theorem nodup_lt_len {xs : List Nat} {n : Nat} (h : xs.Nodup) (hl : ∀ x ∈ xs, x < n) : xs.length ≤ n := by
  have := nodup_sub_len (ys := List.range n) h fun x hx => List.mem_range.mpr (hl x hx)
  rwa [List.length_range] at this
def grS (eqc : Nat → Bool) (acc : List Nat × List Nat) (b : Nat) : List Nat × List Nat := if b ∉ acc.1 ∧ eqc b = true then (acc.1 ++ [b], acc.2 ++ [b]) else acc
def grow (near : List (List Nat)) (eqc : Nat → Bool) : Nat → List Nat → List Nat → List Nat
  | 0, f, _ => f
  | n + 1, f, r => match r.getLast? with
    | none => f
    | some h => let a := (near.getD h []).foldl (grS eqc) (f, r.dropLast); grow near eqc n a.1 a.2
theorem grow_nil (near : List (List Nat)) (eqc : Nat → Bool) (n : Nat) (f : List Nat) : grow near eqc n f [] = f := by
  cases n <;> rfl
theorem grow_snoc (near : List (List Nat)) (eqc : Nat → Bool) (n : Nat) (f r : List Nat) (h : Nat) :
    grow near eqc (n + 1) f (r ++ [h]) = grow near eqc n ((near.getD h []).foldl (grS eqc) (f, r)).1 ((near.getD h []).foldl (grS eqc) (f, r)).2 := by
  simp [grow]
/-- the state of a search: found, rest -/
structure GrOk (N : Nat) (f r : List Nat) : Prop where
  nd : f.Nodup
  fl : ∀ x ∈ f, x < N
  rl : ∀ x ∈ r, x < N
theorem grS_ok {N : Nat} {eqc : Nat → Bool} {f r : List Nat} {b : Nat} (h : GrOk N f r) (hb : b < N) : GrOk N (grS eqc (f, r) b).1 (grS eqc (f, r) b).2 := by
  unfold grS
  split
  · rename_i hc
    refine ⟨List.nodup_append.mpr ⟨h.nd, by simp, fun a ha c hc' => ?_⟩, fun x hx => ?_, fun x hx => ?_⟩
    · rw [List.mem_singleton] at hc'
      exact fun z => hc.1 (by rw [← hc', ← z]; exact ha)
    · rcases List.mem_append.mp hx with h1 | h1
      · exact h.fl x h1
      · rw [List.mem_singleton] at h1; omega
    · rcases List.mem_append.mp hx with h1 | h1
      · exact h.rl x h1
      · rw [List.mem_singleton] at h1; omega
  · exact h
theorem grS_len (eqc : Nat → Bool) (f r : List Nat) (b : Nat) : (grS eqc (f, r) b).1.length + r.length = f.length + (grS eqc (f, r) b).2.length := by
  unfold grS
  split
  · simp; omega
  · rfl
theorem grF_ok {N : Nat} {eqc : Nat → Bool} : ∀ {bs : List Nat} {f r : List Nat}, GrOk N f r → (∀ b ∈ bs, b < N) → GrOk N (bs.foldl (grS eqc) (f, r)).1 (bs.foldl (grS eqc) (f, r)).2
  | [], _, _, h, _ => h
  | b :: bs, f, r, h, hb => grF_ok (bs := bs) (grS_ok (b := b) h (hb b (List.mem_cons_self ..))) fun c hc => hb c (List.mem_cons_of_mem _ hc)
theorem grF_len {eqc : Nat → Bool} : ∀ {bs : List Nat} {f r : List Nat}, (bs.foldl (grS eqc) (f, r)).1.length + r.length = f.length + (bs.foldl (grS eqc) (f, r)).2.length
  | [], _, _ => rfl
  | b :: bs, f, r => by
    have h1 := grF_len (eqc := eqc) (bs := bs) (f := (grS eqc (f, r) b).1) (r := (grS eqc (f, r) b).2)
    have h2 := grS_len eqc f r b
    rw [List.foldl_cons]
    show (bs.foldl (grS eqc) ((grS eqc (f, r) b).1, (grS eqc (f, r) b).2)).1.length + r.length = f.length + (bs.foldl (grS eqc) ((grS eqc (f, r) b).1, (grS eqc (f, r) b).2)).2.length
    omega
theorem grow_ok {N : Nat} {near : List (List Nat)} {eqc : Nat → Bool} (hn : ∀ l ∈ near, ∀ b ∈ l, b < N) : ∀ {n : Nat} {f r : List Nat}, GrOk N f r → GrOk N (grow near eqc n f r) []
  | 0, f, r, h => ⟨h.nd, h.fl, fun _ z => by cases z⟩
  | n + 1, f, r, h => by
    rcases List.eq_nil_or_concat r with rfl | ⟨s, x, rfl⟩
    · rw [grow_nil]
      exact ⟨h.nd, h.fl, fun _ z => by cases z⟩
    · rw [List.concat_eq_append] at h ⊢
      rw [grow_snoc]
      refine grow_ok hn (grF_ok ⟨h.nd, h.fl, fun y hy => h.rl y (List.mem_append.mpr (.inl hy))⟩ fun b hb => ?_)
      cases e : near[x]? with
      | none => rw [List.getD_eq_getElem?_getD, e] at hb; cases hb
      | some l => rw [getD_of e] at hb; exact hn l (List.mem_of_getElem? e) b hb
/-- the patch of a cell -/
def patchF (near : List (List Nat)) (eqc : Nat → Bool) (N c : Nat) : List Nat := grow near eqc N [c] [c]
theorem patchF_ok {near : List (List Nat)} {eqc : Nat → Bool} {N c : Nat} (hn : ∀ l ∈ near, ∀ b ∈ l, b < N) (hc : c < N) : GrOk N (patchF near eqc N c) [] :=
  grow_ok hn ⟨by simp, fun x hx => by rw [List.mem_singleton] at hx; omega, fun x hx => by rw [List.mem_singleton] at hx; omega⟩
end G6
end
section
set_option maxHeartbeats 4000000
set_option Elab.async false
set_option linter.all false
set_option maxRecDepth 100000
namespace G6
open PySem PySem.Spec PyProof.Rows L2 PySem.W
section
variable {P : Program} {w : World} {K : PySem.W.Frag} {mg : Str → Option Value} {base : Heap}
theorem sc_with_colours : FnScope ["picture", "colours"] ["picture", "colours"] (defScope s_with_colours) := ⟨rfl, rfl, rfl, by decide +kernel, rfl, by decide +kernel, by decide +kernel⟩
def sp_wcol (K : PySem.W.Frag) : Sp := fun vs H Q _ => ∃ (p a : Addr) (d : PicD) (col : List Nat), vs = [.ref p, .ref a] ∧ PicAt K H p d ∧ LN H a col ∧ col.length = d.col.length ∧ PicOk col d.tie d.mks ∧ ∀ H' x, Same H H' → PicAt K H' x ⟨col, normT d.tie, d.mks⟩ → Q (.ref x) H'
theorem ok_with_colours (T : TX K mg) : C8.Cal P w K mg base 5 "with_colours" (sp_wcol K) [] := by
  have c_Picture := ok_Picture_init (P := P) (w := w) (base := base) T
  obtain ⟨fd, F⟩ := T.F_with_colours
  refine ⟨_, fd, ["picture", "colours"], [], ?_, T.g_with_colours, F.kp, (F.bindsN (fun _ _ _ _ _ _ us hl => match us, hl with | [_, _], _ => rfl)), .nil⟩
  refine F.ok sc_with_colours (fun vs H Q E h => ?_) (fun cdv A outer s H vs Q E hr h => ?_)
  · obtain ⟨p, a, d, col, rfl, _⟩ := h
    rfl
  · obtain ⟨p, a, d, col, rfl, hp, ha, hl, ok, k⟩ := h
    obtain ⟨dx, c, t, m, ts, h1, h2, h3, h4, h5⟩ := id hp
    have hl1 := vN_len col
    have hl2 := vN_len d.col
    refine ⟨_, PSs.nox (pss_cons (ps_if (PW.pt (pw_or (pt_not (pt_val (pe_callB (call_isiT' K rfl) (by rfl) T.f_isinstance (by decide +kernel) (pa_cons (pv 1) (pa_cons (pe_tup (pa_cons (pe_bltn (v := .ty "list") (by rfl) T.f_list (by decide +kernel) rfl) (pa_cons (pe_bltn (v := .ty "tuple") (by rfl) T.f_tuple (by decide +kernel) rfl) pa_nil))) pa_nil))))) (pw_or1 (pt_cmpR op_ne (pe_callB (call_lenK' K rfl) (by rfl) T.f_len (by decide +kernel) (pa_cons (pv 1) pa_nil)) (pe_callB (call_lenK' K rfl) (by rfl) T.f_len (by decide +kernel) (pa_cons (pe_fld' K rfl (pv 0) rfl) pa_nil)) (nomark _))))) (pss_one ps_never) pss_nil)
      (pss_one (ps_ret (C8.pe_mk (c_Picture) hr (by omega) (by rfl) (pa_cons (pv 1) (pa_cons (pe_fld' K rfl (pv 0) rfl) (pa_cons (pe_fld' K rfl (pv 0) rfl) pa_nil))))))), ?_⟩
    try dsimp only [cxOf]
    walk_at "WK"
    intro t1 ht1
    have s1 := same_new ht1 (o := .tup [.ty "list", .ty "tuple"])
    walk_at "WK"
    intro x dx2 nx ndx ne
    refine ⟨x, dx2, a, t, m, col, ts, d.tie, d.mks, _, rfl, (same_new ndx).trans (same_new (by rw [upd_ne ne.symm]; exact nx)), nx, ndx, upd_same, .inl (s1 _ _ ha), .inr (s1 _ _ h3), h4.ext s1, .inr (s1 _ _ h5), ok, fun H' s2 hp2 => ⟨rfl, k _ _ (s1.trans s2) hp2⟩⟩
theorem sc_grown : FnScope ["picture", "lists", "cell", "colour", "found", "rest", "here", "near"] ["picture", "lists", "cell"] (defScope s_grown) := ⟨rfl, rfl, rfl, by decide +kernel, rfl, by decide +kernel, by decide +kernel⟩
def sp_grown (K : PySem.W.Frag) : Sp := fun vs H Q _ => ∃ (p l : Addr) (d : PicD) (ls : List (List Nat)) (c cc : Nat), vs = [.ref p, .ref l, .int (c : Int)] ∧ PicAt K H p d ∧ LL H l ls ∧ ls.length = d.col.length ∧ (∀ l ∈ ls, ∀ b ∈ l, b < d.col.length) ∧ d.col[c]? = some cc ∧ d.col.length ≤ 700 ∧
  ∀ H' q, Same H H' → TN H' q (srt (patchF ls (fun b => decide (d.col.getD b 0 = cc)) d.col.length c)) → Q (.ref q) H'
theorem ok_grown (T : TX K mg) : C8.Cal P w K mg base 1 "_grown" (sp_grown K) [] := by
  obtain ⟨fd, F⟩ := T.F_grown
  refine ⟨_, fd, ["picture", "lists", "cell"], [], ?_, T.g_grown, F.kp, (F.bindsN (fun _ _ _ _ _ _ us hl => match us, hl with | [_, _, _], _ => rfl)), .nil⟩
  refine F.ok sc_grown (fun vs H Q E h => ?_) (fun cdv A outer s H vs Q E hr h => ?_)
  · obtain ⟨p, l, d, ls, c, cc, rfl, _⟩ := h
    rfl
  · obtain ⟨p, l, d, ls, c, cc, rfl, hp, hl, hll, hlt, hc, hN, k⟩ := h
    obtain ⟨dx, cA, t, m, ts, h1, h2, h3, h4, h5⟩ := id hp
    obtain ⟨las, hla, hls⟩ := id hl
    refine ⟨_, PSs.nox (pss_cons (ps_set (i := 3) sc_grown.nd rfl (.inl rfl) (pe_ix (ix_tup' K rfl) (pe_fld' K rfl (pv 0) rfl) (pv 2) (fun _ _ => rfl)))
      (pss_cons (ps_set (i := 4) sc_grown.nd rfl (.inl rfl) (pe_disp (pps_cons (pv 2) pe_bl pps_nil) (by rfl) (by rfl) (fun z => by cases z) (by decide)))
      (pss_cons (ps_set (i := 5) sc_grown.nd rfl (.inl rfl) (pe_lst (pa_cons (pv 2) pa_nil)))
      (pss_cons (ps_while PassesOwn.never (pt_tru' K rfl (pv 5) (by intro _; rfl)) (pss_cons (ps_set (i := 6) sc_grown.nd rfl (.inl rfl) (pe_bm0' K rfl PySem.F.plainAttrs_list PySem.F.slot_list_pop PySem.F.type_list_pop mt_pop (pv 5)))
      (pss_one (ps_for PassesOwn.never rfl (pi_list' K rfl (pe_ix (ix_list' K rfl) (pv 1) (pv 6) (fun _ _ => rfl))) (pg_name (i := 7) sc_grown.nd rfl (.inl rfl)) (pss_one (ps_if (PW.pt (pw_and (pt_cmp (pc_dnotin hr.u1 (pv 7) (pv 4))) (pw_and1 (pt_cmpR op_eq (pe_ix (ix_tup' K rfl) (pe_fld' K rfl (pv 0) rfl) (pv 7) (fun _ _ => rfl)) (pv 3) (nomark _))))) (pss_cons (ps_dput hr.u1 (pv 4) (pv 7) pe_bl rfl)
      (pss_one (ps_expr (pe_bm' K rfl PySem.F.plainAttrs_list PySem.F.slot_list_append PySem.F.type_list_append mt_append (pv 5) (pa_cons (pv 7) pa_nil))))) pss_nil))))))
      (pss_one (ps_ret (pe_callTy (call_tupleK' K rfl) (by rfl) T.f_tuple (by decide +kernel) (pa_cons (pe_callB (cr_sortKI hr.units rfl) (by rfl) T.f_sorted (by decide +kernel) (pa_cons (pe_keysv' w rfl (pv 4)) pa_nil)) pa_nil)))))))), ?_⟩
    try dsimp only [cxOf]
    walk_at "WK"
    intro dd hdd
    have s1 := same_new hdd (o := .dK [((Sum.inl (c : Int) : Key), .bl true)])
    walk_at "WK"
    intro L hL
    have nLd : L ≠ dd := fun z => by rw [z, upd_same] at hL; cases hL
    have s2 := s1.trans (same_new hL (o := .lst [.int (c : Int)]))
    have hLH : H L = none := s1.free hL
    walk_at "WK"
    have hcN : c < d.col.length := (List.getElem?_eq_some_iff.mp hc).1
    let eqc : Nat → Bool := fun b => decide (d.col.getD b 0 = cc)
    refine wh_L (fun m σ H' => ∃ f r y1 y2, σ = [some (.ref p), some (.ref l), some (.int (c : Int)), some (.int (cc : Int)), some (.ref dd), some (.ref L), y1, y2] ∧ Same H H' ∧ H' dd = some (.dK (kT f)) ∧ LN H' L r ∧ grow ls eqc m f r = patchF ls eqc d.col.length c ∧ GrOk d.col.length f r ∧ m + f.length = d.col.length + r.length ∧ m ≤ d.col.length) (m := d.col.length)
      ⟨[c], [c], _, _, rfl, s2, by walk_at "HL", upd_same, rfl, ⟨by simp, fun x hx => by rw [List.mem_singleton] at hx; rw [hx]; exact hcN, fun x hx => by rw [List.mem_singleton] at hx; rw [hx]; exact hcN⟩, rfl, Nat.le_refl _⟩ ?_ ?_ ?_
    · rintro m σ H' ⟨f, r, y1, y2, rfl, sm, e1, e2, e3, ok, e4, e9⟩
      exact ⟨L, vN r, rfl, e2⟩
    · rintro m σ H' rr y ys ⟨f, r, y1, y2, rfl, sm, e1, e2, e3, ok, e4, e9⟩ hrr hys
      cases hrr
      have er := Option.some.inj (e2.symm.trans hys)
      obtain ⟨r0, x0, rfl, rfl, rfl⟩ := vN_snoc (HO.lst.inj er)
      have hx0 : x0 < d.col.length := ok.rl x0 (by simp)
      obtain ⟨m', rfl⟩ : ∃ m', m = m' + 1 := by
        have := nodup_lt_len ok.nd ok.fl
        rw [List.length_append, List.length_singleton] at e4
        exact ⟨m - 1, by omega⟩
      rw [grow_snoc] at e3
      have e10 := e4
      rw [List.length_append, List.length_singleton] at e10
      obtain ⟨nb, hnb⟩ := getElem?_of_lt (ls := ls) (i := x0) (by omega)
      obtain ⟨na, hna, hnb2⟩ := hls.get hnb
      have hla' := sm _ _ hla
      have hnb3 := sm _ _ hnb2
      have hnlt := hlt nb (List.mem_of_getElem? hnb)
      rw [getD_of hnb] at e3
      have ok0 : GrOk d.col.length f r0 := ⟨ok.nd, ok.fl, fun z hz => ok.rl z (List.mem_append.mpr (.inl hz))⟩
      walk_at "WK"
      refine r_popL hys ?_
      have s3 := same_of sm hLH (o := .lst (vN r0))
      have e5 : upd H' L (.lst (vN r0)) dd = some (.dK (kT f)) := by walk_at "HL"
      walk_at "WK"
      refine for_L (xs := vN nb) (fun i σ H2 => ∃ y1, σ = [some (.ref p), some (.ref l), some (.int (c : Int)), some (.int (cc : Int)), some (.ref dd), some (.ref L), some (.int (x0 : Int)), y1] ∧ Same H H2 ∧ H2 dd = some (.dK (kT ((nb.take i).foldl (grS eqc) (f, r0)).1)) ∧ LN H2 L ((nb.take i).foldl (grS eqc) (f, r0)).2) ⟨_, rfl, s3, e5, upd_same⟩ (fun i σ H2 _ h => by
        obtain ⟨_, _, s4, _⟩ := h
        exact s4 _ _ hnb2) ?_ ?_
      · rintro i x σ H2 hx ⟨y1, rfl, s4, e6, e7⟩
        obtain ⟨b, hb, rfl⟩ := vN_inv hx
        have hbN := hnlt b (List.mem_of_getElem? hb)
        obtain ⟨cb, hcb⟩ := getElem?_of_lt (ls := d.col) (i := b) hbN
        have oki := grF_ok (eqc := eqc) ok0 (bs := nb.take i) fun z hz => hnlt z (List.mem_of_mem_take hz)
        have hL1 := nodup_lt_len oki.nd oki.fl
        have hL2 := grF_len (eqc := eqc) (bs := nb.take i) (f := f) (r := r0)
        rw [foldl_take _ _ _ hb]
        generalize (nb.take i).foldl (grS eqc) (f, r0) = a at e6 e7 oki hL1 hL2 ⊢
        obtain ⟨f1, r1⟩ := a
        dsimp only at e6 e7 oki hL1 hL2
        walk_at "WK"
        rw [if_pos rfl, kT_val]
        by_cases hm : b ∈ f1
        · rw [decide_eq_true hm]
          walk_at "WK"
          refine ⟨_, rfl, s4, ?_, ?_⟩
          · rw [grS, if_neg (fun z => z.1 hm)]
            exact e6
          · rw [grS, if_neg (fun z => z.1 hm)]
            exact e7
        · rw [decide_eq_false hm]
          walk_at "WK"
          by_cases hcc : cb = cc
          · subst hcc
            refine r_ifT2 (decide_eq_true rfl) ?_
            have hg : grS eqc (f1, r1) b = (f1 ++ [b], r1 ++ [b]) := by
              rw [grS, if_pos ⟨hm, decide_eq_true (getD_of hcb)⟩]
            rw [hg]
            walk_at "WK"
            have hl1 : f1.length < d.col.length := by
              have h1 := nodup_lt_len (xs := f1 ++ [b]) (n := d.col.length) (List.nodup_append.mpr ⟨oki.nd, by simp, fun z hz c hc => by rw [List.mem_singleton] at hc; exact fun e => hm (by rw [← hc, ← e]; exact hz)⟩) (fun z hz => (List.mem_append.mp hz).elim (oki.fl z) fun h => by rw [List.mem_singleton] at h; rw [h]; exact hbN)
              rw [List.length_append, List.length_singleton] at h1
              exact h1
            refine r_dputk e6 (lt_sz (by rw [kT_len]; omega)) ?_
            rw [kT_put, addK, if_neg hm]
            have s5 := same_of s4 hdd (o := .dK (kT (f1 ++ [b])))
            have e8 : upd H2 dd (.dK (kT (f1 ++ [b]))) L = some (.lst (vN r1)) := by walk_at "HL"
            walk_at "WK"
            refine r_append e8 (lt_sz (by rw [vN_len]; omega)) ?_
            rw [vN_app]
            exact ⟨_, rfl, same_of s5 hLH, by walk_at "HL", upd_same⟩
          · refine r_ifF2 (decide_eq_false (fun z => hcc (by have := V.int.inj z; omega))) ?_
            have hg : grS eqc (f1, r1) b = (f1, r1) := by
              rw [grS, if_neg (fun z => hcc (by
                have := of_decide_eq_true z.2
                rw [getD_of hcb] at this
                exact this))]
            rw [hg]
            walk_at "WK"
            exact ⟨_, rfl, s4, e6, e7⟩
      · rintro σ H2 ⟨y1, rfl, s4, e6, e7⟩
        rw [vN_len, List.take_length] at e6 e7
        have okf := grF_ok (eqc := eqc) ok0 (bs := nb) hnlt
        have hL2 := grF_len (eqc := eqc) (bs := nb) (f := f) (r := r0)
        refine ⟨m', Nat.lt_succ_self _, _, _, _, _, rfl, s4, e6, e7, e3, okf, ?_, ?_⟩
        · rw [List.length_append, List.length_singleton] at e4
          omega
        · omega
    · rintro m σ H' rr ⟨f, r, y1, y2, rfl, sm, e1, e2, e3, ok, e4, e9⟩ hrr hys
      cases hrr
      have er := Option.some.inj (e2.symm.trans hys)
      have er2 : r = [] := by
        have := HO.lst.inj er
        cases r with
        | nil => rfl
        | cons _ _ => cases this
      subst er2
      rw [grow_nil] at e3
      walk_at "WK"
      intro pv hpv
      have npd : dd ≠ pv := ne_of_none e1 hpv
      have sv := same_of sm (sm.free hpv) (o := viewO pv dd)
      walk_at "WK"
      refine r_sortKI (kvs := kT f) (ns := f.map fun n : Nat => (n : Int)) upd_same (by walk_at "HL") (kT_keys f) fun q hq => ?_
      rw [srt_int]
      have sq := same_of sv (sv.free hq) (o := .lst (vN (srt f)))
      walk_at "WK"
      intro q2 hq2
      exact k _ _ (same_of sq (sq.free hq2)) (by rw [← e3]; exact upd_same)
end
end G6
end
section
set_option maxHeartbeats 4000000
set_option Elab.async false
set_option linter.all false
/-! M4: patches, their numbers, the folding -/
namespace G6
open PySem PySem.Spec PyProof.Rows L2 PySem.W
def ptc (col : List Nat) (ls : List (List Nat)) (c : Nat) : List Nat := srt (patchF ls (fun b => decide (col.getD b 0 = col.getD c 0)) col.length c)
def ptsS (col : List Nat) (ls : List (List Nat)) (F : List (List Nat)) (c : Nat) : List (List Nat) := if c ∈ F.flatten then F else F ++ [ptc col ls c]
def pts (col : List Nat) (ls : List (List Nat)) : List (List Nat) := (List.range col.length).foldl (ptsS col ls) []
theorem ptc_lt {col : List Nat} {ls : List (List Nat)} {c : Nat} (hn : ∀ l ∈ ls, ∀ b ∈ l, b < col.length) (hc : c < col.length) : ∀ x ∈ ptc col ls c, x < col.length := fun x hx =>
  (patchF_ok hn hc).fl x ((srt_perm _).mem_iff.mp hx)
theorem ptc_len {col : List Nat} {ls : List (List Nat)} {c : Nat} (hn : ∀ l ∈ ls, ∀ b ∈ l, b < col.length) (hc : c < col.length) : (ptc col ls c).length ≤ col.length := by
  have h := patchF_ok (eqc := fun b => decide (col.getD b 0 = col.getD c 0)) hn hc
  rw [ptc, (srt_perm _).length_eq]
  exact nodup_lt_len h.nd h.fl
theorem ptsF {col : List Nat} {ls : List (List Nat)} (hn : ∀ l ∈ ls, ∀ b ∈ l, b < col.length) : ∀ (cs : List Nat) (F : List (List Nat)), (∀ c ∈ cs, c < col.length) → (∀ l ∈ F, ∀ x ∈ l, x < col.length) →
    (∀ l ∈ cs.foldl (ptsS col ls) F, ∀ x ∈ l, x < col.length) ∧ (cs.foldl (ptsS col ls) F).length ≤ F.length + cs.length
  | [], F, _, h => ⟨h, Nat.le_refl _⟩
  | c :: cs, F, hc, h => by
    have hc0 := hc c (List.mem_cons_self ..)
    have h1 : (∀ l ∈ ptsS col ls F c, ∀ x ∈ l, x < col.length) ∧ (ptsS col ls F c).length ≤ F.length + 1 := by
      unfold ptsS
      split
      · exact ⟨h, by omega⟩
      · refine ⟨fun l hl => ?_, by simp⟩
        rcases List.mem_append.mp hl with z | z
        · exact h l z
        · rw [List.mem_singleton] at z
          rw [z]
          exact ptc_lt hn hc0
    obtain ⟨a, b⟩ := ptsF hn cs (ptsS col ls F c) (fun d hd => hc d (List.mem_cons_of_mem _ hd)) h1.1
    refine ⟨a, ?_⟩
    rw [List.foldl_cons, List.length_cons]
    have := h1.2
    omega
theorem pts_lt {col : List Nat} {ls : List (List Nat)} (hn : ∀ l ∈ ls, ∀ b ∈ l, b < col.length) : ∀ l ∈ pts col ls, ∀ x ∈ l, x < col.length :=
  (ptsF hn _ [] (fun c hc => List.mem_range.mp hc) (fun _ h => by cases h)).1
theorem pts_len {col : List Nat} {ls : List (List Nat)} (hn : ∀ l ∈ ls, ∀ b ∈ l, b < col.length) : (pts col ls).length ≤ col.length := by
  have := (ptsF hn (List.range col.length) [] (fun c hc => List.mem_range.mp hc) (fun _ h => by cases h)).2
  simpa [pts] using this
/-- numbers of the patches -/
def stAll (k : Nat) (a : List Nat) (cs : List Nat) : List Nat := cs.foldl (fun a c => a.set c k) a
def pnS (a : List Nat) (p : List Nat × Nat) : List Nat := stAll p.2 a p.1
def pnums (col : List Nat) (ls : List (List Nat)) : List Nat := (pts col ls).zipIdx.foldl pnS (List.replicate col.length 0)
theorem stAll_len (k : Nat) : ∀ (cs a : List Nat), (stAll k a cs).length = a.length
  | [], _ => rfl
  | c :: cs, a => by rw [stAll, List.foldl_cons]; exact (stAll_len k cs _).trans (List.length_set ..)
theorem pnF_len : ∀ (ps : List (List Nat × Nat)) (a : List Nat), (ps.foldl pnS a).length = a.length
  | [], _ => rfl
  | p :: ps, a => by rw [List.foldl_cons, pnF_len ps]; exact stAll_len ..
theorem pnums_len (col : List Nat) (ls : List (List Nat)) : (pnums col ls).length = col.length := by rw [pnums, pnF_len, List.length_replicate]
theorem stAll_bd {k B : Nat} (hk : k < B) : ∀ (cs a : List Nat), (∀ x ∈ a, x < B) → ∀ x ∈ stAll k a cs, x < B
  | [], _, h => h
  | c :: cs, a, h => stAll_bd hk cs _ fun x hx => (List.mem_or_eq_of_mem_set hx).elim (h x) fun e => e ▸ hk
theorem pnF_bd {B : Nat} : ∀ (ps : List (List Nat × Nat)) (a : List Nat), (∀ p ∈ ps, p.2 < B) → (∀ x ∈ a, x < B) → ∀ x ∈ ps.foldl pnS a, x < B
  | [], _, _, h => h
  | p :: ps, a, hp, h => pnF_bd ps _ (fun q hq => hp q (List.mem_cons_of_mem _ hq)) (stAll_bd (hp p (List.mem_cons_self ..)) p.1 a h)
theorem pnums_bd {col : List Nat} {ls : List (List Nat)} (hn : ∀ l ∈ ls, ∀ b ∈ l, b < col.length) (hc : 0 < col.length) : ∀ x ∈ pnums col ls, x < col.length := by
  refine pnF_bd _ _ (fun p hp => ?_) fun x hx => ?_
  · obtain ⟨l, k⟩ := p
    have := List.mem_zipIdx hp
    have h2 := pts_len (col := col) hn
    show k < col.length
    omega
  · rw [(List.mem_replicate.mp hx).2]; exact hc
theorem zipIdx_get {α : Type} {xs : List α} {i : Nat} {x : α} (h : xs[i]? = some x) : xs.zipIdx[i]? = some (x, i) := by
  rw [List.getElem?_zipIdx, h]; simp
/-- the folding -/
structure FoldD where
  nums : List Nat
  near : List (List Nat)
  homes : List Nat
  hues : List Nat
def manyOf (nums : List Nat) : Nat := nums.foldl max 0 + 1
def fhS (col : List Nat) (a : List Nat) (p : Nat × Nat) : List Nat := a.set p.1 (col.getD p.2 0)
def fhue (nums col : List Nat) : List Nat := nums.zipIdx.foldl (fhS col) (List.replicate (manyOf nums) 0)
def fnB (nums : List Nat) (k : Nat) (nr : List (List Nat)) (b : Nat) : List (List Nat) := if nums.getD b 0 ≠ k then nr.set k (addK (nr.getD k []) (nums.getD b 0)) else nr
def fnS (nums : List Nat) (ls : List (List Nat)) (nr : List (List Nat)) (p : Nat × Nat) : List (List Nat) := (ls.getD p.2 []).foldl (fnB nums p.1) nr
def fnear (nums : List Nat) (ls : List (List Nat)) : List (List Nat) := nums.zipIdx.foldl (fnS nums ls) (List.replicate (manyOf nums) [])
def foldOf (d : PicD) (nums : List Nat) : FoldD :=
  { nums := nums, near := (fnear nums (nbl d.col.length d.tie)).map srt, homes := d.mks.map fun c => nums.getD c 0, hues := fhue nums d.col }
theorem foldl_max_ge : ∀ (xs : List Nat) (a : Nat), a ≤ xs.foldl max a ∧ ∀ x ∈ xs, x ≤ xs.foldl max a
  | [], a => ⟨Nat.le_refl _, fun _ h => by cases h⟩
  | y :: xs, a => by
    obtain ⟨h1, h2⟩ := foldl_max_ge xs (max a y)
    refine ⟨by rw [List.foldl_cons]; omega, fun x hx => ?_⟩
    rcases List.mem_cons.mp hx with rfl | h
    · rw [List.foldl_cons]; omega
    · exact h2 x h
theorem foldl_max_le {B : Nat} : ∀ (xs : List Nat) (a : Nat), a ≤ B → (∀ x ∈ xs, x ≤ B) → xs.foldl max a ≤ B
  | [], _, h, _ => h
  | y :: xs, a, h, hx => foldl_max_le xs _ (by have := hx y (List.mem_cons_self ..); omega) fun x hx' => hx x (List.mem_cons_of_mem _ hx')
theorem many_lt {nums : List Nat} : ∀ x ∈ nums, x < manyOf nums := fun x hx => Nat.lt_succ_of_le ((foldl_max_ge nums 0).2 x hx)
theorem many_le {nums : List Nat} {B : Nat} (hB : 0 < B) (h : ∀ x ∈ nums, x < B) : manyOf nums ≤ B := by
  have := foldl_max_le (B := B - 1) nums 0 (Nat.zero_le _) fun x hx => by have := h x hx; omega
  unfold manyOf
  omega
theorem max_int : ∀ (ns : List Nat) (a : Nat), (ns.map fun n : Nat => (n : Int)).foldl max (a : Int) = ((ns.foldl max a : Nat) : Int)
  | [], _ => rfl
  | n :: ns, a => by
    rw [List.map_cons, List.foldl_cons, List.foldl_cons, ← max_int ns (max a n)]
    congr 1
    omega
theorem fhF_len (col : List Nat) : ∀ (ps : List (Nat × Nat)) (a : List Nat), (ps.foldl (fhS col) a).length = a.length
  | [], _ => rfl
  | p :: ps, a => by rw [List.foldl_cons, fhF_len col ps]; exact List.length_set ..
theorem fhue_len (nums col : List Nat) : (fhue nums col).length = manyOf nums := by rw [fhue, fhF_len, List.length_replicate]
theorem fnB_len (nums : List Nat) (k : Nat) (nr : List (List Nat)) (b : Nat) : (fnB nums k nr b).length = nr.length := by
  unfold fnB
  split
  · exact List.length_set ..
  · rfl
theorem fnBF_len (nums : List Nat) (k : Nat) : ∀ (bs : List Nat) (nr : List (List Nat)), (bs.foldl (fnB nums k) nr).length = nr.length
  | [], _ => rfl
  | b :: bs, nr => by rw [List.foldl_cons, fnBF_len nums k bs, fnB_len]
theorem fnF_len (nums : List Nat) (ls : List (List Nat)) : ∀ (ps : List (Nat × Nat)) (nr : List (List Nat)), (ps.foldl (fnS nums ls) nr).length = nr.length
  | [], _ => rfl
  | p :: ps, nr => by rw [List.foldl_cons, fnF_len nums ls ps]; exact fnBF_len ..
theorem fnear_len (nums : List Nat) (ls : List (List Nat)) : (fnear nums ls).length = manyOf nums := by rw [fnear, fnF_len, List.length_replicate]
/-- what holds of a row of near: its owner is a number in use, so are its members -/
def NrOk (nums : List Nat) (nr : List (List Nat)) : Prop := ∀ (k : Nat) l, nr[k]? = some l → l.Nodup ∧ ∀ x ∈ l, x ∈ nums ∧ k ∈ nums
theorem fnB_ok {nums : List Nat} {k : Nat} {nr : List (List Nat)} {b : Nat} (h : NrOk nums nr) (hk : k ∈ nums) (hb : b < nums.length) : NrOk nums (fnB nums k nr b) := by
  unfold fnB
  split
  · intro j l e
    by_cases hj : k = j
    · subst hj
      cases e0 : nr[k]? with
      | none =>
        have : nr.length ≤ k := by
          rcases Nat.lt_or_ge k nr.length with z | z
          · rw [List.getElem?_eq_getElem z] at e0; cases e0
          · exact z
        rw [List.set_eq_of_length_le this, e0] at e
        cases e
      | some l0 =>
        rw [List.getElem?_set_self (List.getElem?_eq_some_iff.mp e0).1, getD_of e0] at e
        cases e
        obtain ⟨n0, h0⟩ := h k l0 e0
        refine ⟨addK_nd n0, fun x hx => ?_⟩
        rcases mem_addK.mp hx with z | z
        · exact h0 x z
        · obtain ⟨v, hv⟩ := getElem?_of_lt hb
          rw [z, getD_of hv]
          exact ⟨List.mem_of_getElem? hv, hk⟩
    · rw [List.getElem?_set_ne hj] at e
      exact h j l e
  · exact h
theorem fnBF_ok {nums : List Nat} {k : Nat} (hk : k ∈ nums) : ∀ (bs : List Nat) (nr : List (List Nat)), (∀ b ∈ bs, b < nums.length) → NrOk nums nr → NrOk nums (bs.foldl (fnB nums k) nr)
  | [], _, _, h => h
  | b :: bs, nr, hb, h => fnBF_ok hk bs _ (fun c hc => hb c (List.mem_cons_of_mem _ hc)) (fnB_ok h hk (hb b (List.mem_cons_self ..)))
theorem fnF_ok {nums : List Nat} {ls : List (List Nat)} (hl : ∀ l ∈ ls, ∀ b ∈ l, b < nums.length) : ∀ (ps : List (Nat × Nat)) (nr : List (List Nat)), (∀ p ∈ ps, p.1 ∈ nums) → NrOk nums nr → NrOk nums (ps.foldl (fnS nums ls) nr)
  | [], _, _, h => h
  | p :: ps, nr, hp, h => fnF_ok hl ps _ (fun q hq => hp q (List.mem_cons_of_mem _ hq)) (fnBF_ok (hp p (List.mem_cons_self ..)) _ _ (fun b hb => by
    cases e : ls[p.2]? with
    | none => rw [List.getD_eq_getElem?_getD, e] at hb; cases hb
    | some l => rw [getD_of e] at hb; exact hl l (List.mem_of_getElem? e) b hb) h)
theorem zipIdx_fst {α : Type} {xs : List α} {p : α × Nat} (h : p ∈ xs.zipIdx) : p.1 ∈ xs := by
  obtain ⟨i, hi⟩ := List.getElem?_of_mem h
  rw [List.getElem?_zipIdx] at hi
  cases e : xs[i]? with
  | none => rw [e] at hi; cases hi
  | some x =>
    rw [e] at hi
    cases hi
    exact List.mem_of_getElem? e
theorem fnear_ok {nums : List Nat} {ls : List (List Nat)} (hl : ∀ l ∈ ls, ∀ b ∈ l, b < nums.length) : NrOk nums (fnear nums ls) :=
  fnF_ok hl _ _ (fun p hp => zipIdx_fst hp) fun k l e => by
    have := (List.mem_replicate.mp (List.mem_of_getElem? e)).2
    subst this
    exact ⟨List.nodup_nil, fun _ z => by cases z⟩
end G6
end
section
set_option maxHeartbeats 4000000
set_option Elab.async false
set_option linter.all false
set_option maxRecDepth 100000
namespace G6
open PySem PySem.Spec PyProof.Rows L2 PySem.W
theorem addKF_mem : ∀ (cs ks : List Nat) (x : Nat), x ∈ cs.foldl addK ks ↔ x ∈ ks ∨ x ∈ cs
  | [], ks, x => by simp
  | c :: cs, ks, x => by
    rw [List.foldl_cons, addKF_mem cs, mem_addK]
    simp [or_assoc]
theorem addKF_nd : ∀ (cs ks : List Nat), ks.Nodup → (cs.foldl addK ks).Nodup
  | [], _, h => h
  | c :: cs, ks, h => addKF_nd cs _ (addK_nd h)
structure PicW (d : PicD) : Prop where
  t : ∀ p ∈ d.tie, p.1 < d.col.length ∧ p.2 < d.col.length
  tl : d.tie.length ≤ 1000
  c1 : 1 ≤ d.col.length
  c2 : d.col.length ≤ 700
  m : ∀ x ∈ d.mks, x < d.col.length
  ml : d.mks.length ≤ 4
section
variable {P : Program} {w : World} {K : PySem.W.Frag} {mg : Str → Option Value} {base : Heap}
theorem r_nbl {H : Hp} {Q : VK} {E : XK} {p : Addr} {d : PicD} (hp : PicAt K H p d) (h : PicW d) (k : ∀ H' l, Same H H' → LL H' l (nbl d.col.length d.tie) → Q (.ref l) H') : sp_nbl K ([.ref p] ++ []) H Q E := ⟨p, d, rfl, hp, h.t, h.tl, by have := h.c2; omega, k⟩
theorem r_grown {H : Hp} {Q : VK} {E : XK} {p l : Addr} {d : PicD} {ls : List (List Nat)} {c : Nat} (hp : PicAt K H p d) (hl : LL H l ls) (hll : ls.length = d.col.length) (hlt : ∀ l ∈ ls, ∀ b ∈ l, b < d.col.length) (hc : c < d.col.length) (hN : d.col.length ≤ 700)
    (k : ∀ H' q, Same H H' → TN H' q (ptc d.col ls c) → Q (.ref q) H') : sp_grown K ([.ref p, .ref l, .int (c : Int)] ++ []) H Q E := by
  obtain ⟨cc, hcc⟩ := getElem?_of_lt hc
  refine ⟨p, l, d, ls, c, cc, rfl, hp, hl, hll, hlt, hcc, hN, ?_⟩
  have e : ptc d.col ls c = srt (patchF ls (fun b => decide (d.col.getD b 0 = cc)) d.col.length c) := by rw [ptc, getD_of hcc]
  rw [← e]
  exact k
theorem sc_patches_of : FnScope ["picture", "lists", "done", "found", "cell", "cells", "each"] ["picture"] (defScope s_patches_of) := ⟨rfl, rfl, rfl, by decide +kernel, rfl, by decide +kernel, by decide +kernel⟩
def sp_pof (K : PySem.W.Frag) : Sp := fun vs H Q _ => ∃ (p : Addr) (d : PicD), vs = [.ref p] ∧ PicAt K H p d ∧ PicW d ∧ ∀ H' q as, Same H H' → H' q = some (.tup (refs as)) → All2 (fun a l => TN H' a l) as (pts d.col (nbl d.col.length d.tie)) → Q (.ref q) H'
theorem ok_patches_of (T : TX K mg) : C8.Cal P w K mg base 2 "patches_of" (sp_pof K) [] := by
  have c_neighbour_lists := ok_nbl (P := P) (w := w) (base := base) T
  have c_grown := ok_grown (P := P) (w := w) (base := base) T
  obtain ⟨fd, F⟩ := T.F_patches_of
  refine ⟨_, fd, ["picture"], [], ?_, T.g_patches_of, F.kp, (F.bindsN (fun _ _ _ _ _ _ us hl => match us, hl with | [_], _ => rfl)), .nil⟩
  refine F.ok sc_patches_of (fun vs H Q E h => ?_) (fun cdv A outer s H vs Q E hr h => ?_)
  · obtain ⟨p, d, rfl, _⟩ := h
    rfl
  · obtain ⟨p, d, rfl, hp, hw, k⟩ := h
    refine ⟨_, PSs.nox (pss_cons (ps_set (i := 1) sc_patches_of.nd rfl (.inl rfl) (C8.pe_c (c_neighbour_lists) hr (by omega) (by rfl) (pa_cons (pv 0) pa_nil)))
      (pss_cons (ps_set (i := 2) sc_patches_of.nd rfl (.inl rfl) pe_dnewK)
      (pss_cons (ps_set (i := 3) sc_patches_of.nd rfl (.inl rfl) (pe_lst pa_nil))
      (pss_cons (ps_for PassesOwn.never rfl (pi_range1 (by rfl) T.f_range (pa_cons (pe_callB (call_lenK' K rfl) (by rfl) T.f_len (by decide +kernel) (pa_cons (pe_fld' K rfl (pv 0) rfl) pa_nil)) pa_nil)) (pg_name (i := 4) sc_patches_of.nd rfl (.inl rfl)) (pss_one (ps_if (pt_cmp (pc_dnotin hr.u1 (pv 4) (pv 2))) (pss_cons (ps_set (i := 5) sc_patches_of.nd rfl (.inl rfl) (C8.pe_c (c_grown) hr (by omega) (by rfl) (pa_cons (pv 0) (pa_cons (pv 1) (pa_cons (pv 4) pa_nil)))))
      (pss_cons (ps_expr (pe_bm' K rfl PySem.F.plainAttrs_list PySem.F.slot_list_append PySem.F.type_list_append mt_append (pv 3) (pa_cons (pv 5) pa_nil)))
      (pss_one (ps_for PassesOwn.never rfl (pi_tup' K rfl (pv 5)) (pg_name (i := 6) sc_patches_of.nd rfl (.inl rfl)) (pss_one (ps_dput hr.u1 (pv 2) (pv 6) pe_bl rfl)))))) pss_nil)))
      (pss_one (ps_ret (pe_callTy (call_tupleK' K rfl) (by rfl) T.f_tuple (by decide +kernel) (pa_cons (pv 3) pa_nil)))))))), ?_⟩
    try dsimp only [cxOf]
    walk_at "WK"
    refine r_nbl hp hw fun H1 l s1 hl => ?_
    walk_at "WK"
    intro dd hdd
    have s2 := same_new hdd (o := .dK [])
    walk_at "WK"
    intro ff hff
    have nfd : ff ≠ dd := fun z => by rw [z, upd_same] at hff; cases hff
    have hff1 : H1 ff = none := s2.free hff
    have s3 := s2.trans (same_new hff (o := .lst []))
    have hp1 := hp.ext s1
    obtain ⟨dx, cA, t, m, ts, h1, h2, h3, h4, h5⟩ := id hp1
    have hlen := vN_len d.col
    have hc2 := hw.c2
    walk_at "WK"
    refine r_ir1k (by omega) (by omega) ?_
    rw [hlen, Int.toNat_natCast]
    have hlt := nbl_lt hw.t
    refine for_R (lo := 0) (n := d.col.length) (fun i σ H' => ∃ as ks y4 y5 y6, σ = [some (.ref p), some (.ref l), some (.ref dd), some (.ref ff), y4, y5, y6] ∧ Same H1 H' ∧ H' dd = some (.dK (kT ks)) ∧ H' ff = some (.lst (refs as)) ∧ All2 (fun a l => TN H' a l) as (((List.range d.col.length).take i).foldl (ptsS d.col (nbl d.col.length d.tie)) []) ∧ (∀ x, x ∈ ks ↔ x ∈ (((List.range d.col.length).take i).foldl (ptsS d.col (nbl d.col.length d.tie)) []).flatten) ∧ ks.Nodup ∧ (∀ x ∈ ks, x < d.col.length))
      ⟨[], [], _, _, _, rfl, s3, by walk_at "HL", upd_same, .nil, fun x => by simp, List.nodup_nil, fun x hx => by cases hx⟩ ?_ ?_
    · rintro i σ H' hi ⟨as, ks, y4, y5, y6, rfl, s4, e1, e2, e3, e4, e5, e6⟩
      have hri : (List.range d.col.length)[i]? = some i := by rw [List.getElem?_range hi]
      rw [show ((0 : Int) + (i : Int)) = (i : Int) by omega]
      have hF := ptsF (col := d.col) hlt ((List.range d.col.length).take i) [] (fun c hc => List.mem_range.mp (List.mem_of_mem_take hc)) (fun _ h => by cases h)
      rw [foldl_take _ _ _ hri]
      generalize ((List.range d.col.length).take i).foldl (ptsS d.col (nbl d.col.length d.tie)) [] = Fi at e3 e4 hF ⊢
      have hlas := e3.len
      walk_at "WK"
      rw [if_pos rfl, kT_val]
      by_cases hm : i ∈ ks
      · rw [decide_eq_true hm]
        walk_at "WK"
        have hg : ptsS d.col (nbl d.col.length d.tie) Fi i = Fi := by rw [ptsS, if_pos ((e4 i).mp hm)]
        rw [hg]
        exact ⟨as, ks, _, _, _, rfl, s4, e1, e2, e3, e4, e5, e6⟩
      · rw [decide_eq_false hm]
        walk_at "WK"
        refine r_grown (hp1.ext s4) (hl.ext s4) (by rw [nbl_len]) hlt hi hw.c2 fun H2 q s5 hq => ?_
        have s6 := s4.trans s5
        have e1' := s5 _ _ e1
        have e2' := s5 _ _ e2
        have hg : ptsS d.col (nbl d.col.length d.tie) Fi i = Fi ++ [ptc d.col (nbl d.col.length d.tie) i] := by rw [ptsS, if_neg fun z => hm ((e4 i).mpr z)]
        rw [hg]
        have hpl := ptc_lt hlt hi
        generalize ptc d.col (nbl d.col.length d.tie) i = cs at hq hpl ⊢
        walk_at "WK"
        refine r_append e2' (lt_sz (by have := hF.2; simp at this; rw [List.length_map]; omega)) ?_
        have s7 := same_of s6 hff1 (o := .lst (refs as ++ [.ref q]))
        have nqf : q ≠ ff := fun z => by rw [z] at hq; rw [hq] at e2'; cases e2'
        have nqd : q ≠ dd := fun z => by rw [z] at hq; rw [hq] at e1'; cases e1'
        have e1'' : upd H2 ff (.lst (refs as ++ [.ref q])) dd = some (.dK (kT ks)) := by walk_at "HL"
        have hq2 : upd H2 ff (.lst (refs as ++ [.ref q])) q = some (.tup (vN cs)) := by walk_at "HL"
        have eA : All2 (fun a l => TN (upd H2 ff (.lst (refs as ++ [.ref q]))) a l) (as ++ [q]) (Fi ++ [cs]) := by
          refine All2.snoc (e3.imp fun a l r => ?_) hq2
          have z := s5 _ _ r
          have naf : a ≠ ff := fun y => by rw [y] at z; rw [z] at e2'; cases e2'
          exact (upd_ne naf).trans z
        have eff : upd H2 ff (.lst (refs as ++ [.ref q])) ff = some (.lst (refs (as ++ [q]))) := by rw [upd_same]; simp [refs]
        generalize upd H2 ff (.lst (refs as ++ [.ref q])) = H3 at s7 e1'' hq2 eA eff ⊢
        walk_at "WK"
        refine for_T (xs := vN cs) (fun j σ H4 => ∃ y6, σ = [some (.ref p), some (.ref l), some (.ref dd), some (.ref ff), some (.int (i : Int)), some (.ref q), y6] ∧ H4 = upd H3 dd (.dK (kT ((cs.take j).foldl addK ks)))) ⟨_, rfl, ?_⟩ (fun j σ H4 _ h => ?_) ?_ ?_
        · funext b
          by_cases hb : b = dd
          · rw [hb, upd_same]; exact e1''
          · rw [upd_ne hb]
        · obtain ⟨_, _, rfl⟩ := h
          exact (upd_ne nqd).trans hq2
        · rintro j x σ H4 hx ⟨y6, rfl, rfl⟩
          obtain ⟨b, hb, rfl⟩ := vN_inv hx
          have kl : ((cs.take j).foldl addK ks).length ≤ d.col.length := nodup_lt_len (addKF_nd _ _ e5) fun z hz => ((addKF_mem _ _ _).mp hz).elim (e6 z) fun h => hpl z (List.mem_of_mem_take h)
          walk_at "WK"
          refine r_dputk upd_same (lt_sz (by rw [kT_len]; omega)) ?_
          rw [kT_put, upd_upd, foldl_take _ _ _ hb]
          exact ⟨_, rfl, rfl⟩
        · rintro σ H4 ⟨y6, rfl, rfl⟩
          rw [vN_len, List.take_length]
          refine ⟨as ++ [q], _, _, _, _, rfl, same_of s7 hdd, upd_same, (upd_ne nfd).trans eff, ?_, ?_, addKF_nd _ _ e5, ?_⟩
          · refine eA.imp fun a l r => ?_
            have nad : a ≠ dd := fun y => by rw [y] at r; rw [r] at e1''; cases e1''
            exact (upd_ne nad).trans r
          · intro x
            rw [addKF_mem, e4 x, List.flatten_append]
            simp
          · exact fun z hz => ((addKF_mem _ _ _).mp hz).elim (e6 z) fun h => hpl z h
    · rintro σ H' ⟨as, ks, y4, y5, y6, rfl, s4, e1, e2, e3, e4, e5, e6⟩
      rw [List.take_of_length_le (by rw [List.length_range]; exact Nat.le_refl _)] at e3
      walk_at "WK"
      intro q hq
      exact k _ q as (s1.trans (same_of s4 (s4.free hq))) upd_same (e3.imp fun a l r => (upd_ne (ne_of_none r hq)).trans r)
end
end G6
end
section
set_option maxHeartbeats 4000000
set_option Elab.async false
set_option linter.all false
set_option maxRecDepth 100000
namespace G6
open PySem PySem.Spec PyProof.Rows L2 PySem.W
theorem ixN_of {n j : Nat} (h : j < n) : ixN n (j : Int) = some j := by
  unfold ixN
  rw [if_pos (by omega), if_pos (by omega), Int.toNat_natCast]
theorem rep_vN (n v : Nat) : (List.replicate (n : Int).toNat [V.int (v : Int)]).flatten = vN (List.replicate n v) := by
  rw [Int.toNat_natCast]
  induction n with
  | zero => rfl
  | succ n ih => rw [List.replicate_succ, List.flatten_cons, ih, List.replicate_succ]; rfl
section
variable {P : Program} {w : World} {K : PySem.W.Frag} {mg : Str → Option Value} {base : Heap}
theorem r_pof {H : Hp} {Q : VK} {E : XK} {p : Addr} {d : PicD} (hp : PicAt K H p d) (h : PicW d) (k : ∀ H' q as, Same H H' → H' q = some (.tup (refs as)) → All2 (fun a l => TN H' a l) as (pts d.col (nbl d.col.length d.tie)) → Q (.ref q) H') : sp_pof K ([.ref p] ++ []) H Q E := ⟨p, d, rfl, hp, h, k⟩
theorem sc_patch_numbers : FnScope ["picture", "numbers", "number", "cells", "cell"] ["picture"] (defScope s_patch_numbers) := ⟨rfl, rfl, rfl, by decide +kernel, rfl, by decide +kernel, by decide +kernel⟩
def sp_pn (K : PySem.W.Frag) : Sp := fun vs H Q _ => ∃ (p : Addr) (d : PicD), vs = [.ref p] ∧ PicAt K H p d ∧ PicW d ∧ ∀ H' q, Same H H' → TN H' q (pnums d.col (nbl d.col.length d.tie)) → Q (.ref q) H'
theorem ok_patch_numbers (T : TX K mg) : C8.Cal P w K mg base 3 "patch_numbers" (sp_pn K) [] := by
  have c_patches_of := ok_patches_of (P := P) (w := w) (base := base) T
  obtain ⟨fd, F⟩ := T.F_patch_numbers
  refine ⟨_, fd, ["picture"], [], ?_, T.g_patch_numbers, F.kp, (F.bindsN (fun _ _ _ _ _ _ us hl => match us, hl with | [_], _ => rfl)), .nil⟩
  refine F.ok sc_patch_numbers (fun vs H Q E h => ?_) (fun cdv A outer s H vs Q E hr h => ?_)
  · obtain ⟨p, d, rfl, _⟩ := h
    rfl
  · obtain ⟨p, d, rfl, hp, hw, k⟩ := h
    obtain ⟨dx, cA, t, m, ts, h1, h2, h3, h4, h5⟩ := id hp
    have hlen := vN_len d.col
    have hc2 := hw.c2
    refine ⟨_, PSs.nox (pss_cons (ps_set (i := 1) sc_patch_numbers.nd rfl (.inl rfl) (pe_op op_rep (pe_lst (pa_cons pe_int pa_nil)) (pe_callB (call_lenK' K rfl) (by rfl) T.f_len (by decide +kernel) (pa_cons (pe_fld' K rfl (pv 0) rfl) pa_nil))))
      (pss_cons (ps_for PassesOwn.never rfl (pi_enumT' K rfl (by rfl) T.f_enumerate (pa_cons (C8.pe_c (c_patches_of) hr (by omega) (by rfl) (pa_cons (pv 0) pa_nil)) pa_nil)) (pg_tup' (n := 2) K rfl (by rfl) (pgs_cons (pg_name (i := 2) sc_patch_numbers.nd rfl (.inl rfl)) (pgs_cons (pg_name (i := 3) sc_patch_numbers.nd rfl (.inl rfl)) pgs_nil)) (by rfl)) (pss_one (ps_for PassesOwn.never rfl (pi_tup' K rfl (pv 3)) (pg_name (i := 4) sc_patch_numbers.nd rfl (.inl rfl)) (pss_one (ps_asg (pv 2) (pg_sub (pv 1) (pv 4) set_list))))))
      (pss_one (ps_ret (pe_callTy (call_tupleK' K rfl) (by rfl) T.f_tuple (by decide +kernel) (pa_cons (pv 1) pa_nil)))))), ?_⟩
    try dsimp only [cxOf]
    walk_at "WK"
    intro z1 hz1
    have s1 := same_new hz1 (o := .lst [.int 0])
    walk_at "WK"
    refine r_rep (by walk_at "HL") (by omega) (by omega) (le_sz (by rw [hlen, Int.toNat_natCast]; simp; omega)) fun a1 ha1 => ?_
    have ha1H := s1.free ha1
    rw [hlen]
    have hrep := rep_vN d.col.length 0
    rw [show (((0 : Nat) : Int)) = (0 : Int) by rfl] at hrep
    rw [hrep]
    have s2 := s1.trans (same_new ha1 (o := .lst (vN (List.replicate d.col.length 0))))
    walk_at "WK"
    refine r_pof (hp.ext s2) hw fun H1 q as s3 hq hqs => ?_
    have s4 := s2.trans s3
    have ea1 := s3 _ _ upd_same
    have hlt := nbl_lt hw.t
    have hpl := pts_lt (col := d.col) hlt
    walk_at "WK"
    refine for_ET (xs := refs as) (fun i σ H' => ∃ y2 y3 y4, σ = [some (.ref p), some (.ref a1), y2, y3, y4] ∧ Same H H' ∧ LN H' a1 (((pts d.col (nbl d.col.length d.tie)).zipIdx.take i).foldl pnS (List.replicate d.col.length 0)) ∧ H' q = some (.tup (refs as)) ∧ All2 (fun a l => TN H' a l) as (pts d.col (nbl d.col.length d.tie)))
      ⟨_, _, _, rfl, s4, ea1, hq, hqs⟩ (fun i σ H' _ h => ?_) ?_ ?_
    · obtain ⟨_, _, _, _, _, _, h, _⟩ := h
      exact h
    · rintro i x σ H' tt hx ⟨y2, y3, y4, rfl, s5, e1, e2, e3⟩ htt
      obtain ⟨b, hb, rfl⟩ := refs_inv hx
      obtain ⟨cs, hcs, hbt⟩ := e3.getL hb
      have hcl := hpl cs (List.mem_of_getElem? hcs)
      rw [foldl_take _ _ _ (zipIdx_get hcs)]
      have hal := pnF_len ((pts d.col (nbl d.col.length d.tie)).zipIdx.take i) (List.replicate d.col.length 0)
      rw [List.length_replicate] at hal
      generalize ((pts d.col (nbl d.col.length d.tie)).zipIdx.take i).foldl pnS (List.replicate d.col.length 0) = a0 at e1 hal ⊢
      have sT := same_new htt (o := .tup [.int (i : Int), .ref b])
      have e1' := sT _ _ e1
      have e2' := sT _ _ e2
      have e3' := e3.imp fun a l r => sT _ _ r
      have hbt' := sT _ _ hbt
      have s6 := s5.trans sT
      have htt2 : upd H' tt (.tup [.int (i : Int), .ref b]) tt = some (.tup [.int (i : Int), .ref b]) := upd_same
      generalize upd H' tt (.tup [.int (i : Int), .ref b]) = H2 at e1' e2' e3' hbt' s6 htt2 ⊢
      walk_at "WK"
      have hmut : ∀ a : List Nat, TupSame H2 (upd H2 a1 (.lst (vN a))) := fun a => TupSame.mut fun vs e => by rw [e1'] at e; cases e
      refine for_T (xs := vN cs) (fun j σ H4 => ∃ y4, σ = [some (.ref p), some (.ref a1), some (.int (i : Int)), some (.ref b), y4] ∧ H4 = upd H2 a1 (.lst (vN (stAll i a0 (cs.take j))))) ⟨_, rfl, ?_⟩ (fun j σ H4 _ h => ?_) ?_ ?_
      · funext c
        by_cases hb : c = a1
        · rw [hb, upd_same]; exact e1'
        · rw [upd_ne hb]
      · obtain ⟨_, _, rfl⟩ := h
        exact hmut _ _ _ hbt'
      · rintro j x σ H4 hx ⟨y4, rfl, rfl⟩
        obtain ⟨c, hc, rfl⟩ := vN_inv hx
        have hcN := hcl c (List.mem_of_getElem? hc)
        have hsl := stAll_len i (cs.take j) a0
        walk_at "WK"
        refine r_setL upd_same (ixN_of (by rw [vN_len, hsl, hal]; exact hcN)) ?_
        rw [vN_set, upd_upd]
        refine ⟨_, rfl, ?_⟩
        rw [stAll, stAll, foldl_take _ _ _ hc]
      · rintro σ H4 ⟨y4, rfl, rfl⟩
        rw [vN_len, List.take_length]
        exact ⟨_, _, _, rfl, same_of s6 ha1H, upd_same, hmut _ _ _ e2', e3'.imp fun a l r => hmut _ _ _ r⟩
    · rintro σ H' ⟨y2, y3, y4, rfl, s5, e1, e2, e3⟩
      rw [List.length_map, e3.len, List.take_of_length_le (by rw [List.length_zipIdx]; exact Nat.le_refl _)] at e1
      walk_at "WK"
      intro q2 hq2
      exact k _ _ (s5.trans (same_new hq2)) upd_same
end
end G6
end
section
set_option maxHeartbeats 4000000
set_option Elab.async false
set_option linter.all false
set_option maxRecDepth 100000
namespace G6
open PySem PySem.Spec PyProof.Rows L2 PySem.W
theorem ne_li {H : Hp} {a x C dx : Addr} {xs : List V} {fs : List (Str × V)} (h : H a = some (.lst xs)) (hx : H x = some (.ins C dx fs)) : a ≠ x := fun z => by rw [z, hx] at h; cases h
theorem ne_ti {H : Hp} {a x C dx : Addr} {xs : List V} {fs : List (Str × V)} (h : H a = some (.tup xs)) (hx : H x = some (.ins C dx fs)) : a ≠ x := fun z => by rw [z, hx] at h; cases h
theorem ne_tl {H : Hp} {a x : Addr} {xs ys : List V} (h : H a = some (.tup xs)) (hx : H x = some (.lst ys)) : a ≠ x := fun z => by rw [z, hx] at h; cases h
theorem ne_dl {H : Hp} {a x : Addr} {xs : List (Key × V)} {ys : List V} (h : H a = some (.dK xs)) (hx : H x = some (.lst ys)) : a ≠ x := fun z => by rw [z, hx] at h; cases h
theorem ne_dt {H : Hp} {a x : Addr} {xs : List (Key × V)} {ys : List V} (h : H a = some (.dK xs)) (hx : H x = some (.tup ys)) : a ≠ x := fun z => by rw [z, hx] at h; cases h
/-- a list of dicts that are made here -/
structure DLm (H0 H : Hp) (L : Addr) (as : List Addr) (ls : List (List Nat)) : Prop where
  at_ : H L = some (.lst (refs as))
  all : All2 (fun a l => H a = some (.dK (kT l))) as ls
  nd : as.Nodup
  nL : L ∉ as
  new : H0 L = none
  news : ∀ a ∈ as, H0 a = none
theorem DLm.same {H0 H H' : Hp} {L : Addr} {as : List Addr} {ls : List (List Nat)} (h : DLm H0 H L as ls) (s : Same H H') : DLm H0 H' L as ls :=
  ⟨s _ _ h.at_, h.all.imp fun _ _ r => s _ _ r, h.nd, h.nL, h.new, h.news⟩
theorem DLm.keep {H0 H : Hp} {L b : Addr} {as : List Addr} {ls : List (List Nat)} {xs : List V} {o : HO} (h : DLm H0 H L as ls) (n : b ≠ L) (hb : H b = some (.lst xs)) : DLm H0 (upd H b o) L as ls :=
  ⟨(upd_ne n.symm).trans h.at_, h.all.imp fun a l r => (upd_ne (fun z => by subst z; rw [hb] at r; cases r)).trans r, h.nd, h.nL, h.new, h.news⟩
theorem DLm.at {H0 H : Hp} {L : Addr} {as : List Addr} {ls : List (List Nat)} (h : DLm H0 H L as ls) {i : Nat} {l : List Nat} (e : ls[i]? = some l) :
    ∃ b, as[i]? = some b ∧ H b = some (.dK (kT l)) ∧ H0 b = none ∧ b ≠ L ∧ ∀ l', DLm H0 (upd H b (.dK (kT l'))) L as (ls.set i l') := by
  obtain ⟨b, e1, e2⟩ := h.all.get e
  have m : b ∈ as := List.mem_of_getElem? e1
  have nb : b ≠ L := fun z => h.nL (z ▸ m)
  refine ⟨b, e1, e2, h.news b m, nb, fun l' => ⟨(upd_ne nb.symm).trans h.at_, ?_, h.nd, h.nL, h.new, h.news⟩⟩
  refine All2.of (by rw [List.length_set]; exact h.all.len) fun j c m' f1 f2 => ?_
  by_cases hj : i = j
  · subst hj
    rw [e1] at f1
    cases f1
    rw [List.getElem?_set_self (List.getElem?_eq_some_iff.mp e).1] at f2
    cases f2
    exact upd_same
  · rw [List.getElem?_set_ne hj] at f2
    have nc : c ≠ b := fun z => by
      subst z
      obtain ⟨p1, q1⟩ := List.getElem?_eq_some_iff.mp e1
      obtain ⟨p2, q2⟩ := List.getElem?_eq_some_iff.mp f1
      exact hj ((List.getElem_inj h.nd).mp (q1.trans q2.symm))
    obtain ⟨c', g1, g2⟩ := h.all.get f2
    rw [f1] at g1
    cases g1
    exact (upd_ne nc).trans g2
theorem DLm.push {H0 H : Hp} {L a : Addr} {as : List Addr} {ls : List (List Nat)} {l : List Nat} (h : DLm H0 H L as ls) (ha : H a = none) (h0 : H0 a = none) : DLm H0 (upd (upd H a (.dK (kT l))) L (.lst (refs as ++ [.ref a]))) L (as ++ [a]) (ls ++ [l]) := by
  have naL : a ≠ L := (ne_of_none h.at_ ha).symm
  refine ⟨?_, ?_, ?_, ?_, h.new, ?_⟩
  · rw [upd_same, refs, refs, List.map_append]
    rfl
  · refine All2.snoc (h.all.imp' fun b l hb r => ?_) ((upd_ne naL).trans upd_same)
    have nbL : b ≠ L := fun z => h.nL (z ▸ hb)
    exact (upd_ne nbL).trans ((upd_ne (ne_of_none r ha)).trans r)
  · refine List.nodup_append.mpr ⟨h.nd, by simp, fun b hb c hc => ?_⟩
    rw [List.mem_singleton] at hc
    subst hc
    obtain ⟨j, hj⟩ := List.getElem?_of_mem hb
    obtain ⟨l, _, hl⟩ := h.all.getL hj
    exact ne_of_none hl ha
  · rw [List.mem_append, List.mem_singleton]
    exact fun z => z.elim h.nL fun z => naL z.symm
  · intro b hb
    rcases List.mem_append.mp hb with z | z
    · exact h.news b z
    · rw [List.mem_singleton] at z
      rw [z]
      exact h0
theorem r_maxN {K : PySem.W.Frag} {H : Hp} {Q : VK} {a : Addr} {nums : List Nat} (hx : H a = some (.tup (vN nums))) (hn : nums ≠ []) (k : Q (.int ((nums.foldl max 0 : Nat) : Int)) H) : rMaxT K [.ref a] H Q := by
  cases nums with
  | nil => exact absurd rfl hn
  | cons n ns =>
    refine ⟨a, (n : Int), ns.map fun n : Nat => (n : Int), rfl, ?_, ?_⟩
    · refine SqT.of ?_
      rw [hx]
      simp [vN]
    · rw [max_int]
      have e : (n :: ns).foldl max 0 = ns.foldl max n := by rw [List.foldl_cons, Nat.zero_max]
      rw [e] at k
      exact k
def FoldAt (K : PySem.W.Frag) (H : Hp) (a : Addr) (F : FoldD) : Prop := ∃ dx n nr ho hu : Addr, H a = some (.ins (He.ga K "Folding") dx (f_Folding (.ref n) (.ref nr) (.ref ho) (.ref hu))) ∧ TN H n F.nums ∧ LL H nr F.near ∧ LN H ho F.homes ∧ TN H hu F.hues
theorem FoldAt.ext {K : PySem.W.Frag} {H H' : Hp} {a : Addr} {F : FoldD} (h : FoldAt K H a F) (s : Same H H') : FoldAt K H' a F := by
  obtain ⟨dx, n, nr, ho, hu, h1, h2, h3, h4, h5⟩ := h
  exact ⟨dx, n, nr, ho, hu, s _ _ h1, s _ _ h2, h3.ext s, s _ _ h4, s _ _ h5⟩
section
variable {P : Program} {w : World} {K : PySem.W.Frag} {mg : Str → Option Value} {base : Heap}
theorem sc_Folding_init : FnScope ["self", "picture", "numbers", "lists", "many", "near", "hues", "cell", "number", "beside", "_", "found"] ["self", "picture", "numbers"] (defScope s_Folding_init) := ⟨rfl, rfl, rfl, by decide +kernel, rfl, by decide +kernel, by decide +kernel⟩
def sp_fold (K : PySem.W.Frag) : Sp := fun vs H Q _ => ∃ (x dx p n : Addr) (d : PicD) (nums : List Nat) (H0 : Hp), vs = [.ref x, .ref p, .ref n] ∧ Same H0 H ∧ H0 x = none ∧ H x = some (.ins (He.ga K "Folding") dx []) ∧ PicAt K H0 p d ∧ PicW d ∧ TN H0 n nums ∧ nums.length = d.col.length ∧ (∀ v ∈ nums, v < d.col.length) ∧
  ∀ H', Same H0 H' → FoldAt K H' x (foldOf d nums) → Q .non H'
theorem ok_Folding_init (T : TX K mg) : C8.Mak P w K mg base 3 "Folding" (He.ga K "Folding") (sp_fold K) [] := by
  have c_neighbour_lists := ok_nbl (P := P) (w := w) (base := base) T
  obtain ⟨fd, F⟩ := T.F_Folding_init
  refine ⟨_, fd, ["self", "picture", "numbers"], [], T.m_Folding, ?_, T.g_Folding, (F.bindsN (fun _ _ _ _ _ _ us hl => match us, hl with | [_, _, _], _ => rfl)), .nil⟩
  refine F.ok sc_Folding_init (fun vs H Q E h => ?_) (fun cdv A outer s H vs Q E hr h => ?_)
  · obtain ⟨x, dx, p, n, d, nums, H0, rfl, _⟩ := h
    rfl
  · obtain ⟨x, dx, p, n, d, nums, H0, rfl, s0, nx, hx, hp, hw, hn, hl, hv, k⟩ := h
    have hc2 := hw.c2
    have hc1 := hw.c1
    refine ⟨_, PSs.nox (pss_cons (ps_set (i := 3) sc_Folding_init.nd rfl (.inl rfl) (C8.pe_c (c_neighbour_lists) hr (by omega) (by rfl) (pa_cons (pv 1) pa_nil)))
      (pss_cons (ps_set (i := 4) sc_Folding_init.nd rfl (.inl rfl) (pe_op op_add (pe_callB (cr_maxT' K rfl hr.units rfl) (by rfl) T.f_max (by decide +kernel) (pa_cons (pv 2) pa_nil)) pe_int))
      (pss_cons (ps_setLc (i := 5) (own := [("_", 10)]) (g := gName 10) (by rfl) sc_Folding_init.nd rfl rfl (sw_true rfl rfl rfl (by decide +kernel)) (pi_range1 (by rfl) T.f_range (pa_cons (pv 4) pa_nil)) (blkOk_by (own := [("_", 10)]) (N := ["self", "picture", "numbers", "lists", "many", "near", "hues", "cell", "number", "beside", "_", "found"]) (sc := defScope s_Folding_init) (by decide +kernel)) (fun _ _ _ _ _ => (pg_name (i := 10) sc_Folding_init.nd rfl (.inl rfl))) (fun _ _ _ _ _ => pts_nil) (fun _ _ _ _ _ => pe_dnewK))
      (pss_cons (ps_set (i := 6) sc_Folding_init.nd rfl (.inl rfl) (pe_op op_rep (pe_lst (pa_cons pe_int pa_nil)) (pv 4)))
      (pss_cons (ps_for PassesOwn.never rfl (pi_enumT' K rfl (by rfl) T.f_enumerate (pa_cons (pv 2) pa_nil)) (pg_tup' (n := 2) K rfl (by rfl) (pgs_cons (pg_name (i := 7) sc_Folding_init.nd rfl (.inl rfl)) (pgs_cons (pg_name (i := 8) sc_Folding_init.nd rfl (.inl rfl)) pgs_nil)) (by rfl)) (pss_cons (ps_asg (pe_ix (ix_tup' K rfl) (pe_fld' K rfl (pv 1) rfl) (pv 7) (fun _ _ => rfl)) (pg_sub (pv 6) (pv 8) set_list))
      (pss_one (ps_for PassesOwn.never rfl (pi_list' K rfl (pe_ix (ix_list' K rfl) (pv 3) (pv 7) (fun _ _ => rfl))) (pg_name (i := 9) sc_Folding_init.nd rfl (.inl rfl)) (pss_one (ps_if (pt_cmpR op_ne (pe_ix (ix_tup' K rfl) (pv 2) (pv 9) (fun _ _ => rfl)) (pv 8) (nomark _)) (pss_one (ps_dput hr.u1 (pe_ix (ix_list' K rfl) (pv 5) (pv 8) (fun _ _ => rfl)) (pe_ix (ix_tup' K rfl) (pv 2) (pv 9) (fun _ _ => rfl)) pe_bl rfl)) pss_nil))))))
      (pss_cons (ps_fld (pv 0) (pe_callTy (call_tupleK' K rfl) (by rfl) T.f_tuple (by decide +kernel) (pa_cons (pv 2) pa_nil)) rfl)
      (pss_cons (ps_fld (pv 0) (pe_lc (own := [("found", 11)]) (g := gName 11) (by rfl) sc_Folding_init.nd (pi_list' K rfl (pv 5)) (blkOk_by (own := [("found", 11)]) (N := ["self", "picture", "numbers", "lists", "many", "near", "hues", "cell", "number", "beside", "_", "found"]) (sc := defScope s_Folding_init) (by decide +kernel)) (fun _ _ _ _ _ => (pg_name (i := 11) sc_Folding_init.nd rfl (.inl rfl))) (fun _ _ _ _ _ => pts_nil) (fun _ _ _ _ _ => (pe_callB (cr_sortKI hr.units rfl) (by rfl) T.f_sorted (by decide +kernel) (pa_cons (pe_keysv' w rfl (pv 11)) pa_nil)))) rfl)
      (pss_cons (ps_fld (pv 0) (pe_lc (own := [("cell", 7)]) (g := gName 7) (by rfl) sc_Folding_init.nd (pi_tup' K rfl (pe_fld' K rfl (pv 1) rfl)) (blkOk_by (own := [("cell", 7)]) (N := ["self", "picture", "numbers", "lists", "many", "near", "hues", "cell", "number", "beside", "_", "found"]) (sc := defScope s_Folding_init) (by decide +kernel)) (fun _ _ _ _ _ => (pg_name (i := 7) sc_Folding_init.nd rfl (.inl rfl))) (fun _ _ _ _ _ => pts_nil) (fun _ _ _ _ _ => (pe_ix (ix_tup' K rfl) (pv 2) (pv 7) (fun _ _ => rfl)))) rfl)
      (pss_one (ps_fld (pv 0) (pe_callTy (call_tupleK' K rfl) (by rfl) T.f_tuple (by decide +kernel) (pa_cons (pv 6) pa_nil)) rfl)))))))))), ?_⟩
    try dsimp only [cxOf]
    walk_at "WK"
    refine r_nbl (hp.ext s0) hw fun H1 l s1 hls => ?_
    have s01 := s0.trans s1
    have hn1 := s01 _ _ hn
    have hx1 := s1 _ _ hx
    have hp1 := hp.ext s01
    obtain ⟨dx2, cA, t, m, ts, h1, h2, h3, h4, h5⟩ := id hp1
    obtain ⟨las, hla, hlall⟩ := id hls
    walk_at "WK"
    refine r_maxN hn1 (fun z => by rw [z] at hl; simp at hl; omega) ?_
    walk_at "WK"
    have hmany : (((nums.foldl max 0 : Nat) : Int) + 1) = ((manyOf nums : Nat) : Int) := by unfold manyOf; omega
    rw [hmany]
    have hml : manyOf nums ≤ 700 := by
      have := many_le (B := d.col.length) (by omega) hv
      omega
    walk_at "WK"
    refine r_ir1k (by omega) (by omega) ?_
    rw [Int.toNat_natCast]
    refine lc_R (n := manyOf nums) (fun L i H' => Same H1 H' ∧ ∃ as, DLm H1 H' L as (List.replicate i [])) (fun L hL => ⟨same_new hL, [], ⟨upd_same, .nil, List.nodup_nil, by simp, hL, by simp⟩⟩) ?_ ?_
    · rintro L i H' hi ⟨sm, as, q⟩
      walk_at "WK"
      intro a ha
      have qa := q.at_
      have naL : a ≠ L := (ne_of_none q.at_ ha).symm
      have hla2 : as.length = i := by rw [q.all.len, List.length_replicate]
      refine r_eltk (acc := refs as) (by walk_at "HL") (lt_sz (by rw [List.length_map]; omega)) ?_
      refine ⟨same_of (same_of sm (sm.free ha)) q.new, as ++ [a], ?_⟩
      rw [List.replicate_succ']
      exact q.push (l := []) ha (sm.free ha)
    · rintro nA H2 ⟨s2, as, q⟩
      walk_at "WK"
      intro z1 hz1
      have hz1' := s2.free hz1
      have s3 := same_of s2 hz1' (o := .lst [.int 0])
      have q3 := q.same (same_new hz1 (o := .lst [.int 0]))
      walk_at "WK"
      refine r_rep (by walk_at "HL") (by omega) (by omega) (le_sz (by simp; omega)) fun hA hhA => ?_
      have hhA' := s3.free hhA
      have hrep := rep_vN (manyOf nums) 0
      rw [show (((0 : Nat) : Int)) = (0 : Int) by rfl] at hrep
      rw [hrep]
      have nAh : hA ≠ nA := (ne_of_none q3.at_ hhA).symm
      have s4 := same_of s3 hhA' (o := .lst (vN (List.replicate (manyOf nums) 0)))
      have q4 := q3.same (same_new hhA (o := .lst (vN (List.replicate (manyOf nums) 0))))
      have e4 : upd (upd H2 z1 (.lst [.int 0])) hA (.lst (vN (List.replicate (manyOf nums) 0))) hA = some (.lst (vN (List.replicate (manyOf nums) 0))) := upd_same
      generalize upd (upd H2 z1 (.lst [.int 0])) hA (.lst (vN (List.replicate (manyOf nums) 0))) = H3 at s4 q4 e4 ⊢
      walk_at "WK"
      have hlt := nbl_lt hw.t
      have hlv := vN_len nums
      refine for_ET (xs := vN nums) (fun i σ H' => ∃ y7 y8 y9, σ = [some (.ref x), some (.ref p), some (.ref n), some (.ref l), some (.int (manyOf nums : Int)), some (.ref nA), some (.ref hA), y7, y8, y9, none, none] ∧ Same H1 H' ∧ DLm H1 H' nA as ((nums.zipIdx.take i).foldl (fnS nums (nbl d.col.length d.tie)) (List.replicate (manyOf nums) [])) ∧ LN H' hA ((nums.zipIdx.take i).foldl (fhS d.col) (List.replicate (manyOf nums) 0)))
        ⟨_, _, _, rfl, s4, q4, e4⟩ (fun i σ H' _ h => by obtain ⟨_, _, _, _, s5, _⟩ := h; exact s5 _ _ hn1) ?_ ?_
      · rintro i y σ H' tt hy ⟨y7, y8, y9, rfl, s5, q5, e5⟩ htt
        obtain ⟨v, hv1, rfl⟩ := vN_inv hy
        have hvm := List.mem_of_getElem? hv1
        have hiN : i < d.col.length := by rw [← hl]; exact (List.getElem?_eq_some_iff.mp hv1).1
        obtain ⟨ci, hci⟩ := getElem?_of_lt hiN
        obtain ⟨li, hli⟩ := getElem?_of_lt (ls := nbl d.col.length d.tie) (i := i) (by rw [nbl_len]; exact hiN)
        obtain ⟨la, hla1, hla2⟩ := hlall.get hli
        have hlil := hlt li (List.mem_of_getElem? hli)
        have hvB := many_lt v hvm
        rw [foldl_take _ _ _ (zipIdx_get hv1), foldl_take _ _ _ (zipIdx_get hv1)]
        have hln := fnF_len nums (nbl d.col.length d.tie) (nums.zipIdx.take i) (List.replicate (manyOf nums) [])
        have hlh := fhF_len d.col (nums.zipIdx.take i) (List.replicate (manyOf nums) 0)
        rw [List.length_replicate] at hln hlh
        have okn : NrOk nums ((nums.zipIdx.take i).foldl (fnS nums (nbl d.col.length d.tie)) (List.replicate (manyOf nums) [])) := fnF_ok (fun l hl' b hb => by rw [hl]; exact hlt l hl' b hb) _ _ (fun q hq => zipIdx_fst (List.mem_of_mem_take hq)) fun k l e => by
          have := (List.mem_replicate.mp (List.mem_of_getElem? e)).2
          subst this
          exact ⟨List.nodup_nil, fun _ z => by cases z⟩
        generalize (nums.zipIdx.take i).foldl (fnS nums (nbl d.col.length d.tie)) (List.replicate (manyOf nums) []) = nr at q5 hln okn ⊢
        generalize (nums.zipIdx.take i).foldl (fhS d.col) (List.replicate (manyOf nums) 0) = hu at e5 hlh ⊢
        have sT := same_new htt (o := .tup [.int (i : Int), .int (v : Int)])
        have e6 := sT _ _ e5
        have q6 := q5.same sT
        have s6 := s5.trans sT
        have ht6 : upd H' tt (.tup [.int (i : Int), .int (v : Int)]) tt = some (.tup [.int (i : Int), .int (v : Int)]) := upd_same
        generalize upd H' tt (.tup [.int (i : Int), .int (v : Int)]) = H4 at e6 q6 s6 ht6 ⊢
        walk_at "WK"
        refine r_setL e6 (ixN_of (by rw [vN_len, hlh]; exact hvB)) ?_
        rw [vN_set]
        have s7 := same_of s6 hhA' (o := .lst (vN (hu.set v ci)))
        have q7 := q6.keep (o := .lst (vN (hu.set v ci))) nAh e6
        have e7 : upd H4 hA (.lst (vN (hu.set v ci))) hA = some (.lst (vN (hu.set v ci))) := upd_same
        generalize upd H4 hA (.lst (vN (hu.set v ci))) = H5 at s7 q7 e7 ⊢
        have hlaH := s7 _ _ hla
        have hla2H := s7 _ _ hla2
        have hnH := s7 _ _ hn1
        walk_at "WK"
        refine for_L (xs := vN li) (fun j σ H' => ∃ y9, σ = [some (.ref x), some (.ref p), some (.ref n), some (.ref l), some (.int (manyOf nums : Int)), some (.ref nA), some (.ref hA), some (.int (i : Int)), some (.int (v : Int)), y9, none, none] ∧ Same H1 H' ∧ DLm H1 H' nA as ((li.take j).foldl (fnB nums v) nr) ∧ LN H' hA (hu.set v ci))
          ⟨_, rfl, s7, q7, e7⟩ (fun j σ H' _ h => by obtain ⟨_, _, s8, _⟩ := h; exact s8 _ _ hla2) ?_ ?_
        · rintro j z σ H' hz ⟨y9, rfl, s8, q8, e8⟩
          obtain ⟨b, hb, rfl⟩ := vN_inv hz
          have hbN := hlil b (List.mem_of_getElem? hb)
          obtain ⟨nb, hnb⟩ := getElem?_of_lt (ls := nums) (i := b) (by omega)
          have hnbv := getD_of (d := 0) hnb
          rw [foldl_take _ _ _ hb]
          have okj := fnBF_ok hvm (li.take j) nr (fun z hz => by rw [hl]; exact hlil z (List.mem_of_mem_take hz)) okn
          have hlj := fnBF_len nums v (li.take j) nr
          rw [hln] at hlj
          generalize (li.take j).foldl (fnB nums v) nr = nj at q8 okj hlj ⊢
          walk_at "WK"
          by_cases hne : nb = v
          · refine r_ifF2 (by rw [hne]; simp) ?_
            walk_at "WK"
            refine ⟨_, rfl, s8, ?_, e8⟩
            rw [fnB, if_neg (fun z => z (hnbv.trans hne))]
            exact q8
          · refine r_ifT2 (by simp; omega) ?_
            obtain ⟨lv, hlv1⟩ := getElem?_of_lt (ls := nj) (i := v) (by rw [hlj]; exact hvB)
            obtain ⟨da, f1, f2, f3, f4, f5⟩ := q8.at hlv1
            have qa := q8.at_
            have hnH2 := s8 _ _ hn1
            obtain ⟨ndl, hml2⟩ := okj v lv hlv1
            have lvl : lv.length ≤ d.col.length := nodup_lt_len ndl fun z hz => hv z (hml2 z hz).1
            walk_at "WK"
            refine r_dputk f2 (lt_sz (by rw [kT_len]; omega)) ?_
            rw [kT_put]
            have q9 := f5 (addK lv nb)
            refine ⟨_, rfl, same_of s8 f3, ?_, ?_⟩
            · rw [fnB, if_pos (by rw [hnbv]; exact hne), getD_of hlv1, hnbv]
              exact q9
            · refine (upd_ne (fun z => ?_)).trans e8
              rw [← z, e8] at f2
              cases f2
        · rintro σ H' ⟨y9, rfl, s8, q8, e8⟩
          rw [vN_len, List.take_length] at q8
          refine ⟨_, _, _, rfl, s8, ?_, ?_⟩
          · rw [fnS]
            dsimp only
            rw [getD_of hli]
            exact q8
          · rw [fhS]
            dsimp only
            rw [getD_of hci]
            exact e8
      · rintro σ H4 ⟨y7, y8, y9, rfl, s5, q5, e5⟩
        rw [hlv, List.take_of_length_le (by rw [List.length_zipIdx]; exact Nat.le_refl _)] at q5 e5
        have hnH := s5 _ _ hn1
        have hxH := s5 _ _ hx1
        have qat := q5.at_
        walk_at "WK"
        have okF : NrOk nums (fnear nums (nbl d.col.length d.tie)) := fnear_ok fun l hl' b hb => by rw [hl]; exact hlt l hl' b hb
        have sA := same_of (s01.trans s5) nx (o := .ins (He.ga K "Folding") dx [("numbers", .ref n)])
        have hx5 : upd H4 x (.ins (He.ga K "Folding") dx [("numbers", .ref n)]) x = some (.ins (He.ga K "Folding") dx [("numbers", .ref n)]) := upd_same
        have nnx : nA ≠ x := fun z => by rw [z, hxH] at qat; cases qat
        have nhx : hA ≠ x := ne_li e5 hxH
        have qat5 : upd H4 x (.ins (He.ga K "Folding") dx [("numbers", .ref n)]) nA = some (.lst (refs as)) := (upd_ne nnx).trans qat
        have e55 : upd H4 x (.ins (He.ga K "Folding") dx [("numbers", .ref n)]) hA = some (.lst (vN (fhue nums d.col))) := (upd_ne nhx).trans e5
        have qall : All2 (fun a l => upd H4 x (.ins (He.ga K "Folding") dx [("numbers", .ref n)]) a = some (.dK (kT l))) as (fnear nums (nbl d.col.length d.tie)) := q5.all.imp fun a l r => (upd_ne (fun z => by rw [z, hxH] at r; cases r)).trans r
        have hn5 := sA _ _ hn
        generalize upd H4 x (.ins (He.ga K "Folding") dx [("numbers", .ref n)]) = H5 at sA hx5 qat5 e55 qall hn5 ⊢
        refine r_ilstk qat5 ?_
        refine lc_L (xs := refs as) (fun D i H' => Same H5 H' ∧ H5 D = none ∧ ∃ bs, H' D = some (.lst (refs bs)) ∧ D ∉ bs ∧ All2 (fun a l => LN H' a l) bs (((fnear nums (nbl d.col.length d.tie)).take i).map srt)) (fun D hD => ⟨same_new hD, hD, [], upd_same, by simp, .nil⟩) (fun D i H' _ h => h.1 _ _ qat5) ?_ ?_
        · rintro D i y H' hy ⟨s6, nD, bs, g1, gD, g2⟩
          obtain ⟨a, ha, rfl⟩ := refs_inv hy
          obtain ⟨la, hla1, hla2⟩ := qall.getL ha
          have hla3 := s6 _ _ hla2
          obtain ⟨ndl, hml2⟩ := okF i la hla1
          walk_at "WK"
          intro pv hpv
          have npa : a ≠ pv := ne_of_none hla3 hpv
          walk_at "WK"
          refine r_sortKI (kvs := kT la) (ns := la.map fun n : Nat => (n : Int)) upd_same (by walk_at "HL") (kT_keys la) fun q hq => ?_
          rw [srt_int]
          have sv := same_new hpv (o := viewO pv a)
          have sq := same_new hq (o := .lst (vN (srt la)))
          have svq := sv.trans sq
          have g3 := svq _ _ g1
          have hbl : bs.length ≤ 700 := by
            have z1 := g2.len
            have z2 := fnear_len nums (nbl d.col.length d.tie)
            rw [List.length_map, List.length_take] at z1
            omega
          refine r_eltk g3 (lt_sz (by rw [List.length_map]; omega)) ?_
          have nqD : q ≠ D := (ne_of_none (sv _ _ g1) hq).symm
          refine ⟨same_of (s6.trans svq) nD, nD, bs ++ [q], ?_, ?_, ?_⟩
          · rw [upd_same]; simp [refs]
          · rw [List.mem_append, List.mem_singleton]
            exact fun z => z.elim gD fun z => nqD z.symm
          · rw [List.take_add_one, hla1, List.map_append]
            refine All2.snoc (g2.imp' fun b l hb r => ?_) ((upd_ne nqD).trans upd_same)
            exact (upd_ne (fun z => gD (by rw [← z]; exact hb))).trans (svq _ _ r)
        · rintro D H6 ⟨s6, nD, bs, g1, gD, g2⟩
          rw [List.length_map, qall.len, List.take_length] at g2
          have hx6 := s6 _ _ hx5
          have s06 := sA.trans s6
          walk_at "WK"
          have hxx : upd H6 x (.ins (He.ga K "Folding") dx [("numbers", .ref n), ("near", .ref D)]) x = some (.ins (He.ga K "Folding") dx [("numbers", .ref n), ("near", .ref D)]) := upd_same
          have sB := same_of s06 nx (o := .ins (He.ga K "Folding") dx [("numbers", .ref n), ("near", .ref D)])
          have nDx : D ≠ x := fun z => by rw [z, hx6] at g1; cases g1
          have gB : LL (upd H6 x (.ins (He.ga K "Folding") dx [("numbers", .ref n), ("near", .ref D)])) D ((fnear nums (nbl d.col.length d.tie)).map srt) :=
            ⟨bs, (upd_ne nDx).trans g1, g2.imp fun a l r => (upd_ne (ne_li r hx6)).trans r⟩
          have eB : upd H6 x (.ins (He.ga K "Folding") dx [("numbers", .ref n), ("near", .ref D)]) hA = some (.lst (vN (fhue nums d.col))) := (upd_ne nhx).trans (s6 _ _ e55)
          generalize upd H6 x (.ins (He.ga K "Folding") dx [("numbers", .ref n), ("near", .ref D)]) = H7 at sB hxx gB eB ⊢
          have hn7 := sB _ _ hn
          obtain ⟨dx3, cA3, t3, m3, ts3, p1, p2, p3, p4, p5⟩ := id (hp.ext sB)
          walk_at "WK"
          refine lc_T (xs := vN d.mks) (fun D2 i H' => Same H7 H' ∧ H7 D2 = none ∧ LN H' D2 ((d.mks.take i).map fun c => nums.getD c 0)) (fun D2 hD2 => ⟨same_new hD2, hD2, upd_same⟩) (fun D2 i H' _ h => h.1 _ _ p5) ?_ ?_
          · rintro D2 i y H' hy ⟨s8, nD2, g3⟩
            obtain ⟨c, hc, rfl⟩ := vN_inv hy
            have hcN := hw.m c (List.mem_of_getElem? hc)
            obtain ⟨nc, hnc⟩ := getElem?_of_lt (ls := nums) (i := c) (by omega)
            have hn8 := s8 _ _ hn7
            walk_at "WK"
            refine r_eltk g3 (lt_sz (by have := hw.ml; simp; omega)) ?_
            refine ⟨same_of s8 nD2, nD2, ?_⟩
            show upd H' D2 _ D2 = _
            rw [upd_same, List.take_add_one, hc, List.map_append, vN_app]
            have e : nums.getD c 0 = nc := getD_of hnc
            simp only [Option.toList_some, List.map_cons, List.map_nil]
            rw [e]
          · rintro D2 H8 ⟨s8, nD2, g3⟩
            rw [vN_len, List.take_length] at g3
            have hx8 := s8 _ _ hxx
            have s08 := sB.trans s8
            walk_at "WK"
            have nD2x : D2 ≠ x := ne_li g3 hx8
            have hx9 : upd H8 x (.ins (He.ga K "Folding") dx [("numbers", .ref n), ("near", .ref D), ("homes", .ref D2)]) x = some (.ins (He.ga K "Folding") dx [("numbers", .ref n), ("near", .ref D), ("homes", .ref D2)]) := upd_same
            have e9 : upd H8 x (.ins (He.ga K "Folding") dx [("numbers", .ref n), ("near", .ref D), ("homes", .ref D2)]) hA = some (.lst (vN (fhue nums d.col))) := (upd_ne nhx).trans (s8 _ _ eB)
            walk_at "WK"
            intro q hq
            have nqx : q ≠ x := (ne_of_none hx9 hq).symm
            walk_at "WK"
            have nsx : ∀ {a : Addr} {xs : List V}, H8 a = some (.lst xs) → a ≠ x := fun r z => by rw [z, hx8] at r; cases r
            have ntx : ∀ {a : Addr} {xs : List V}, H8 a = some (.tup xs) → a ≠ x := fun r z => by rw [z, hx8] at r; cases r
            have hq8 : H8 q = none := by rw [upd_ne nqx] at hq; exact hq
            have up : ∀ {a : Addr} {o o1 o2 o3 : HO}, H8 a = some o → a ≠ x → upd (upd (upd H8 x o1) q o2) x o3 a = some o := fun r n => (upd_ne n).trans ((upd_ne (ne_of_none r hq8)).trans ((upd_ne n).trans r))
            have gB8 := gB.ext s8
            obtain ⟨bs8, g5, g6⟩ := gB8
            have hn88 := s8 _ _ hn7
            refine k _ (same_of (same_of (same_of s08 nx) (by rw [← hq8]; exact (s08.free hq8).trans hq8.symm)) nx) ⟨dx, n, D, D2, q, upd_same, up hn88 (ntx hn88), ⟨bs8, up g5 (nsx g5), g6.imp fun a l r => up r (nsx r)⟩, up g3 (nsx g3), (upd_ne nqx).trans upd_same⟩
end
end G6
end
section
set_option maxHeartbeats 4000000
set_option Elab.async false
set_option linter.all false
set_option maxRecDepth 100000
namespace G6
open PySem PySem.Spec PyProof.Rows L2 PySem.W
def foldP (d : PicD) : FoldD := foldOf d (pnums d.col (nbl d.col.length d.tie))
/-! a pour -/
def spS (st : List Nat) (was hue : Nat) (acc : List Nat × List Nat) (b : Nat) : List Nat × List Nat := if st.getD b 0 = was ∧ acc.1.getD b 0 = was then (acc.1.set b hue, acc.2 ++ [b]) else acc
def sprd (near : List (List Nat)) (st : List Nat) (was hue : Nat) : Nat → List Nat → List Nat → List Nat
  | 0, a, _ => a
  | n + 1, a, r => match r.getLast? with
    | none => a
    | some h => let z := (near.getD h []).foldl (spS st was hue) (a, r.dropLast); sprd near st was hue n z.1 z.2
theorem sprd_nil (near : List (List Nat)) (st : List Nat) (was hue n : Nat) (a : List Nat) : sprd near st was hue n a [] = a := by
  cases n <;> rfl
theorem sprd_snoc (near : List (List Nat)) (st : List Nat) (was hue n : Nat) (a r : List Nat) (h : Nat) :
    sprd near st was hue (n + 1) a (r ++ [h]) = sprd near st was hue n ((near.getD h []).foldl (spS st was hue) (a, r)).1 ((near.getD h []).foldl (spS st was hue) (a, r)).2 := by
  simp [sprd]
def spread (F : FoldD) (st : List Nat) (home hue : Nat) : List Nat :=
  if st.getD home 0 = hue then st else sprd F.near st (st.getD home 0) hue (st.count (st.getD home 0)) (st.set home hue) [home]
structure SpOk (N : Nat) (a r : List Nat) : Prop where
  al : a.length = N
  rl : ∀ x ∈ r, x < N
theorem spS_ok {N : Nat} {st : List Nat} {was hue : Nat} {a r : List Nat} {b : Nat} (h : SpOk N a r) (hb : b < N) : SpOk N (spS st was hue (a, r) b).1 (spS st was hue (a, r) b).2 := by
  unfold spS
  split
  · refine ⟨by rw [List.length_set]; exact h.al, fun x hx => ?_⟩
    rcases List.mem_append.mp hx with z | z
    · exact h.rl x z
    · rw [List.mem_singleton] at z; rw [z]; exact hb
  · exact h
theorem spF_ok {N : Nat} {st : List Nat} {was hue : Nat} : ∀ {bs : List Nat} {a r : List Nat}, SpOk N a r → (∀ b ∈ bs, b < N) → SpOk N (bs.foldl (spS st was hue) (a, r)).1 (bs.foldl (spS st was hue) (a, r)).2
  | [], _, _, h, _ => h
  | b :: bs, a, r, h, hb => spF_ok (bs := bs) (spS_ok (b := b) h (hb b (List.mem_cons_self ..))) fun c hc => hb c (List.mem_cons_of_mem _ hc)
theorem count_set' {a : List Nat} {b was hue : Nat} (hb : a.getD b 0 = was) (hl : b < a.length) (hne : was ≠ hue) : (a.set b hue).count was + 1 = a.count was := by
  induction a generalizing b with
  | nil => simp at hl
  | cons x a ih =>
    cases b with
    | zero =>
      have e : x = was := hb
      subst e
      simp [List.count_cons, Ne.symm hne]
    | succ b =>
      have := ih (b := b) hb (by simpa using hl)
      rw [List.set_cons_succ, List.count_cons, List.count_cons]
      omega
theorem spS_cnt {N : Nat} {st : List Nat} {was hue : Nat} {a r : List Nat} {b : Nat} (h : SpOk N a r) (hb : b < N) (hne : was ≠ hue) : (spS st was hue (a, r) b).1.count was + (spS st was hue (a, r) b).2.length = a.count was + r.length := by
  unfold spS
  split
  · rename_i hc
    have h1 : (a.set b hue).count was + 1 = a.count was := count_set' hc.2 (by rw [h.al]; exact hb) hne
    show (a.set b hue).count was + (r ++ [b]).length = _
    rw [List.length_append, List.length_singleton]
    omega
  · rfl
theorem spF_cnt {N : Nat} {st : List Nat} {was hue : Nat} (hne : was ≠ hue) : ∀ {bs : List Nat} {a r : List Nat}, SpOk N a r → (∀ b ∈ bs, b < N) → (bs.foldl (spS st was hue) (a, r)).1.count was + (bs.foldl (spS st was hue) (a, r)).2.length = a.count was + r.length
  | [], _, _, _, _ => rfl
  | b :: bs, a, r, h, hb => by
    have h1 := spS_cnt (st := st) h (hb b (List.mem_cons_self ..)) hne
    have h2 := spF_cnt (st := st) hne (bs := bs) (spS_ok (st := st) (was := was) (hue := hue) (b := b) h (hb b (List.mem_cons_self ..))) fun c hc => hb c (List.mem_cons_of_mem _ hc)
    rw [List.foldl_cons]
    exact h2.trans h1
section
variable {P : Program} {w : World} {K : PySem.W.Frag} {mg : Str → Option Value} {base : Heap}
theorem r_pn {H : Hp} {Q : VK} {E : XK} {p : Addr} {d : PicD} (hp : PicAt K H p d) (h : PicW d) (k : ∀ H' q, Same H H' → TN H' q (pnums d.col (nbl d.col.length d.tie)) → Q (.ref q) H') : sp_pn K ([.ref p] ++ []) H Q E := ⟨p, d, rfl, hp, h, k⟩
theorem sc_folded_patches : FnScope ["picture", "most", "numbers"] ["picture", "most"] (defScope s_folded_patches) := ⟨rfl, rfl, rfl, by decide +kernel, rfl, by decide +kernel, by decide +kernel⟩
def sp_fp (K : PySem.W.Frag) : Sp := fun vs H Q _ => ∃ (p : Addr) (d : PicD) (most : Nat), vs = [.ref p, .int (most : Int)] ∧ PicAt K H p d ∧ PicW d ∧ d.col.length ≤ most ∧ ∀ H' a, Same H H' → FoldAt K H' a (foldP d) → Q (.ref a) H'
theorem ok_folded_patches (T : TX K mg) : C8.Cal P w K mg base 5 "folded_patches" (sp_fp K) [] := by
  have c_patch_numbers := ok_patch_numbers (P := P) (w := w) (base := base) T
  have c_Folding := ok_Folding_init (P := P) (w := w) (base := base) T
  obtain ⟨fd, F⟩ := T.F_folded_patches
  refine ⟨_, fd, ["picture", "most"], [], ?_, T.g_folded_patches, F.kp, (F.bindsN (fun _ _ _ _ _ _ us hl => match us, hl with | [_, _], _ => rfl)), .nil⟩
  refine F.ok sc_folded_patches (fun vs H Q E h => ?_) (fun cdv A outer s H vs Q E hr h => ?_)
  · obtain ⟨p, d, most, rfl, _⟩ := h
    rfl
  · obtain ⟨p, d, most, rfl, hp, hw, hm, k⟩ := h
    have hlt := nbl_lt hw.t
    have hbd := pnums_bd (col := d.col) hlt hw.c1
    have hpl := pnums_len d.col (nbl d.col.length d.tie)
    refine ⟨_, PSs.nox (pss_cons (ps_set (i := 2) sc_folded_patches.nd rfl (.inl rfl) (C8.pe_c (c_patch_numbers) hr (by omega) (by rfl) (pa_cons (pv 0) pa_nil)))
      (pss_cons (ps_if (pt_cmpR op_gt (pe_op op_add (pe_callB (cr_maxT' K rfl hr.units rfl) (by rfl) T.f_max (by decide +kernel) (pa_cons (pv 2) pa_nil)) pe_int) (pv 1) (nomark _)) (pss_one ps_never) pss_nil)
      (pss_one (ps_ret (C8.pe_mk (c_Folding) hr (by omega) (by rfl) (pa_cons (pv 0) (pa_cons (pv 2) pa_nil))))))), ?_⟩
    try dsimp only [cxOf]
    walk_at "WK"
    refine r_pn hp hw fun H1 q s1 hq => ?_
    have hne : pnums d.col (nbl d.col.length d.tie) ≠ [] := fun z => by
      have := hw.c1
      rw [z] at hpl
      simp at hpl
      omega
    have hml := many_le hw.c1 hbd
    unfold manyOf at hml
    walk_at "WK"
    refine r_maxN hq hne ?_
    walk_at "WK"
    intro x dx nx ndx ne
    refine ⟨x, dx, p, q, d, _, H1, rfl, (same_new ndx).trans (same_new (by rw [upd_ne ne.symm]; exact nx)), nx, upd_same, hp.ext s1, hw, hq, hpl, hbd, fun H' s2 hF => ⟨rfl, k _ _ (s1.trans s2) hF⟩⟩
theorem sc_spread_hue : FnScope ["folding", "state", "home", "hue", "was", "after", "rest", "here", "beside"] ["folding", "state", "home", "hue"] (defScope s_spread_hue) := ⟨rfl, rfl, rfl, by decide +kernel, rfl, by decide +kernel, by decide +kernel⟩
def sp_spr (K : PySem.W.Frag) : Sp := fun vs H Q _ => ∃ (f a : Addr) (F : FoldD) (st : List Nat) (home hue : Nat), vs = [.ref f, .ref a, .int (home : Int), .int (hue : Int)] ∧ FoldAt K H f F ∧ TN H a st ∧ F.near.length = st.length ∧ (∀ l ∈ F.near, ∀ b ∈ l, b < st.length) ∧ home < st.length ∧ st.length ≤ 700 ∧
  ∀ H' q, Same H H' → TN H' q (spread F st home hue) → Q (.ref q) H'
theorem ok_spread_hue (T : TX K mg) : C8.Cal P w K mg base 1 "spread_hue" (sp_spr K) [] := by
  obtain ⟨fd, F⟩ := T.F_spread_hue
  refine ⟨_, fd, ["folding", "state", "home", "hue"], [], ?_, T.g_spread_hue, F.kp, (F.bindsN (fun _ _ _ _ _ _ us hl => match us, hl with | [_, _, _, _], _ => rfl)), .nil⟩
  refine F.ok sc_spread_hue (fun vs H Q E h => ?_) (fun cdv A outer s H vs Q E hr h => ?_)
  · obtain ⟨f, a, F, st, home, hue, rfl, _⟩ := h
    rfl
  · obtain ⟨f, a, F, st, home, hue, rfl, hF, ha, hnl, hlt, hh, hN, k⟩ := h
    obtain ⟨dx, nA, nrA, hoA, huA, h1, h2, h3, h4, h5⟩ := id hF
    obtain ⟨nas, hna, hnall⟩ := id h3
    obtain ⟨was, hwas⟩ := getElem?_of_lt hh
    have hgw := getD_of (d := 0) hwas
    refine ⟨_, PSs.nox (pss_cons (ps_set (i := 4) sc_spread_hue.nd rfl (.inl rfl) (pe_ix (ix_tup' K rfl) (pv 1) (pv 2) (fun _ _ => rfl)))
      (pss_cons (ps_if (pt_cmpR op_eq (pv 4) (pv 3) (nomark _)) (pss_one (ps_ret (pv 1))) pss_nil)
      (pss_cons (ps_set (i := 5) sc_spread_hue.nd rfl (.inl rfl) (pe_callTy (call_listK' K rfl) (by rfl) T.f_list (by decide +kernel) (pa_cons (pv 1) pa_nil)))
      (pss_cons (ps_asg (pv 3) (pg_sub (pv 5) (pv 2) set_list))
      (pss_cons (ps_set (i := 6) sc_spread_hue.nd rfl (.inl rfl) (pe_lst (pa_cons (pv 2) pa_nil)))
      (pss_cons (ps_while PassesOwn.never (pt_tru' K rfl (pv 6) (by intro _; rfl)) (pss_cons (ps_set (i := 7) sc_spread_hue.nd rfl (.inl rfl) (pe_bm0' K rfl PySem.F.plainAttrs_list PySem.F.slot_list_pop PySem.F.type_list_pop mt_pop (pv 6)))
      (pss_one (ps_for PassesOwn.never rfl (pi_list' K rfl (pe_ix (ix_list' K rfl) (pe_fld' K rfl (pv 0) rfl) (pv 7) (fun _ _ => rfl))) (pg_name (i := 8) sc_spread_hue.nd rfl (.inl rfl)) (pss_one (ps_if (PW.pt (pw_and (pt_cmpR op_eq (pe_ix (ix_tup' K rfl) (pv 1) (pv 8) (fun _ _ => rfl)) (pv 4) (nomark _)) (pw_and1 (pt_cmpR op_eq (pe_ix (ix_list' K rfl) (pv 5) (pv 8) (fun _ _ => rfl)) (pv 4) (nomark _))))) (pss_cons (ps_asg (pv 3) (pg_sub (pv 5) (pv 8) set_list))
      (pss_one (ps_expr (pe_bm' K rfl PySem.F.plainAttrs_list PySem.F.slot_list_append PySem.F.type_list_append mt_append (pv 6) (pa_cons (pv 8) pa_nil))))) pss_nil))))))
      (pss_one (ps_ret (pe_callTy (call_tupleK' K rfl) (by rfl) T.f_tuple (by decide +kernel) (pa_cons (pv 5) pa_nil)))))))))), ?_⟩
    try dsimp only [cxOf]
    walk_at "WK"
    by_cases he : was = hue
    · refine r_ifT2 (by rw [he]; exact decide_eq_true rfl) ?_
      walk_at "WK"
      refine k _ _ (Same.refl H) ?_
      rw [spread, hgw, if_pos he]
      exact ha
    · refine r_ifF2 (decide_eq_false fun z => he (by have := V.int.inj z; omega)) ?_
      walk_at "WK"
      intro L hL
      have s1 := same_new hL (o := .lst (vN st))
      walk_at "WK"
      refine r_setL upd_same (ixN_of (by rw [vN_len]; exact hh)) ?_
      rw [vN_set, upd_upd]
      have s2 := same_new hL (o := .lst (vN (st.set home hue)))
      walk_at "WK"
      intro R hR
      have hRH := s2.free hR
      have nRL : R ≠ L := fun z => by rw [z, upd_same] at hR; cases hR
      have s3 := same_of s2 hRH (o := .lst [.int (home : Int)])
      walk_at "WK"
      have hcnt := count_set' (hue := hue) hgw hh he
      have hcl : st.count was ≤ st.length := List.count_le_length
      refine wh_L (fun m σ H' => ∃ a' r y1 y2, σ = [some (.ref f), some (.ref a), some (.int (home : Int)), some (.int (hue : Int)), some (.int (was : Int)), some (.ref L), some (.ref R), y1, y2] ∧ Same H H' ∧ LN H' L a' ∧ LN H' R r ∧ sprd F.near st was hue m a' r = spread F st home hue ∧ SpOk st.length a' r ∧ m = a'.count was + r.length ∧ m ≤ st.length) (m := st.count was)
        ⟨st.set home hue, [home], _, _, rfl, s3, by walk_at "HL", upd_same, ?_, ⟨List.length_set .., fun x hx => by rw [List.mem_singleton] at hx; rw [hx]; exact hh⟩, by rw [List.length_singleton]; exact hcnt.symm, hcl⟩ ?_ ?_ ?_
      · rw [spread, hgw, if_neg he]
      · rintro m σ H' ⟨a', r, y1, y2, rfl, sm, e1, e2, e3, ok, e4, e9⟩
        exact ⟨R, vN r, rfl, e2⟩
      · rintro m σ H' rr y ys ⟨a', r, y1, y2, rfl, sm, e1, e2, e3, ok, e4, e9⟩ hrr hys
        cases hrr
        have er := Option.some.inj (e2.symm.trans hys)
        obtain ⟨r0, x0, rfl, rfl, rfl⟩ := vN_snoc (HO.lst.inj er)
        have hx0 : x0 < st.length := ok.rl x0 (by simp)
        rw [List.length_append, List.length_singleton] at e4
        obtain ⟨m', rfl⟩ : ∃ m', m = m' + 1 := ⟨m - 1, by omega⟩
        rw [sprd_snoc] at e3
        obtain ⟨nb, hnb⟩ := getElem?_of_lt (ls := F.near) (i := x0) (by omega)
        obtain ⟨la, hla, hnb2⟩ := hnall.get hnb
        have hna' := sm _ _ hna
        have h1' := sm _ _ h1
        have hnlt := hlt nb (List.mem_of_getElem? hnb)
        rw [getD_of hnb] at e3
        have ok0 : SpOk st.length a' r0 := ⟨ok.al, fun z hz => ok.rl z (List.mem_append.mpr (.inl hz))⟩
        walk_at "WK"
        refine r_popL hys ?_
        have s4 := same_of sm hRH (o := .lst (vN r0))
        have e5 : upd H' R (.lst (vN r0)) L = some (.lst (vN a')) := by walk_at "HL"
        have h1'' := s4 _ _ h1
        have hna'' := s4 _ _ hna
        have e6 : upd H' R (.lst (vN r0)) R = some (.lst (vN r0)) := upd_same
        generalize upd H' R (.lst (vN r0)) = H2 at s4 e5 h1'' hna'' e6 ⊢
        have hla2 := s4 _ _ hnb2
        walk_at "WK"
        refine for_L (xs := vN nb) (fun i σ H' => ∃ y1, σ = [some (.ref f), some (.ref a), some (.int (home : Int)), some (.int (hue : Int)), some (.int (was : Int)), some (.ref L), some (.ref R), some (.int (x0 : Int)), y1] ∧ Same H H' ∧ LN H' L ((nb.take i).foldl (spS st was hue) (a', r0)).1 ∧ LN H' R ((nb.take i).foldl (spS st was hue) (a', r0)).2) ⟨_, rfl, s4, e5, e6⟩ (fun i σ H' _ h => by
          obtain ⟨_, _, s5, _⟩ := h
          exact s5 _ _ hnb2) ?_ ?_
        · rintro i x σ H3 hx ⟨y1, rfl, s5, e7, e8⟩
          obtain ⟨b, hb, rfl⟩ := vN_inv hx
          have hbN := hnlt b (List.mem_of_getElem? hb)
          obtain ⟨cb, hcb⟩ := getElem?_of_lt (ls := st) (i := b) hbN
          have hcbv := getD_of (d := 0) hcb
          have oki := spF_ok (st := st) (was := was) (hue := hue) ok0 (bs := nb.take i) fun z hz => hnlt z (List.mem_of_mem_take hz)
          have hci := spF_cnt (st := st) he ok0 (bs := nb.take i) fun z hz => hnlt z (List.mem_of_mem_take hz)
          rw [foldl_take _ _ _ hb]
          generalize (nb.take i).foldl (spS st was hue) (a', r0) = ac at e7 e8 oki hci ⊢
          obtain ⟨a1, r1⟩ := ac
          dsimp only at e7 e8 oki hci
          have ha3 := s5 _ _ ha
          obtain ⟨ab, hab⟩ := getElem?_of_lt (ls := a1) (i := b) (by rw [oki.al]; exact hbN)
          have habv := getD_of (d := 0) hab
          walk_at "WK"
          by_cases hc1 : cb = was
          · refine r_ifT2 (by rw [hc1]; exact decide_eq_true rfl) ?_
            walk_at "WK"
            by_cases hc2 : ab = was
            · refine r_ifT2 (by rw [hc2]; exact decide_eq_true rfl) ?_
              walk_at "WK"
              refine r_setL e7 (ixN_of (by rw [vN_len, oki.al]; exact hbN)) ?_
              rw [vN_set]
              have e10 : upd H3 L (.lst (vN (a1.set b hue))) R = some (.lst (vN r1)) := by walk_at "HL"
              walk_at "WK"
              refine r_append e10 (lt_sz (by rw [vN_len]; omega)) ?_
              rw [vN_app]
              have hg : spS st was hue (a1, r1) b = (a1.set b hue, r1 ++ [b]) := by rw [spS, if_pos ⟨hcbv.trans hc1, habv.trans hc2⟩]
              rw [hg]
              exact ⟨_, rfl, same_of (same_of s5 hL) hRH, by walk_at "HL", upd_same⟩
            · refine r_ifF2 (decide_eq_false fun z => hc2 (by have := V.int.inj z; omega)) ?_
              walk_at "WK"
              have hg : spS st was hue (a1, r1) b = (a1, r1) := by rw [spS, if_neg fun z => hc2 (habv.symm.trans z.2)]
              rw [hg]
              exact ⟨_, rfl, s5, e7, e8⟩
          · refine r_ifF2 (decide_eq_false fun z => hc1 (by have := V.int.inj z; omega)) ?_
            walk_at "WK"
            have hg : spS st was hue (a1, r1) b = (a1, r1) := by rw [spS, if_neg fun z => hc1 (hcbv.symm.trans z.1)]
            rw [hg]
            exact ⟨_, rfl, s5, e7, e8⟩
        · rintro σ H3 ⟨y1, rfl, s5, e7, e8⟩
          rw [vN_len, List.take_length] at e7 e8
          have okf := spF_ok (st := st) (was := was) (hue := hue) ok0 (bs := nb) hnlt
          have hci := spF_cnt (st := st) he ok0 (bs := nb) hnlt
          refine ⟨m', Nat.lt_succ_self _, _, _, _, _, rfl, s5, e7, e8, e3, okf, ?_, ?_⟩
          · omega
          · omega
      · rintro m σ H' rr ⟨a', r, y1, y2, rfl, sm, e1, e2, e3, ok, e4, e9⟩ hrr hys
        cases hrr
        have er := Option.some.inj (e2.symm.trans hys)
        have er2 : r = [] := by
          have := HO.lst.inj er
          cases r with
          | nil => rfl
          | cons _ _ => cases this
        subst er2
        rw [sprd_nil] at e3
        walk_at "WK"
        intro q hq
        exact k _ _ (same_of sm (sm.free hq)) (by rw [← e3]; exact upd_same)
end
end G6
end
section
set_option maxHeartbeats 4000000
set_option Elab.async false
set_option linter.all false
set_option maxRecDepth 100000
namespace G6
open PySem PySem.Spec PyProof.Rows L2 PySem.W
theorem r_star {K : PySem.W.Frag} {σ : L2.St} {H : Hp} {t : TGs} {a : Addr} {x : V} {xs : List V} {Q : L2.St → Hp → Prop} (hx : H a = some (.tup (x :: xs))) (hl : xs.length ≤ 1000) (h : ∀ D, H D = none → t [x, .ref D] σ (upd H D (.lst xs)) Q) : gStar K t (.ref a) σ H Q := ⟨a, x, xs, rfl, SqT.of hx, hl, h⟩
def alike_ (F : FoldD) (st : List Nat) (h : Nat) : List Nat := patchF F.near (fun b => decide (st.getD b 0 = st.getD h 0)) st.length h
inductive WishD where
  | all
  | col (m c : Nat)
  | one (a b : Nat)
  | reach (c : Nat)
def wishV : WishD → List V
  | .all => [.str "all one"]
  | .col m c => [.str "colour", .int (m : Int), .int (c : Int)]
  | .one a b => [.str "one", .int (a : Int), .int (b : Int)]
  | .reach c => [.str "reached", .int (c : Int)]
def holds (F : FoldD) (w : WishD) (st : List Nat) : Bool := match w with
  | .all => decide ((alike_ F st 0).length = st.length)
  | .col m c => decide (st.getD (F.homes.getD m 0) 0 = c)
  | .one a b => decide (F.homes.getD b 0 ∈ alike_ F st (F.homes.getD a 0))
  | .reach c => F.homes.any fun h => decide (h ∈ alike_ F st (F.nums.getD c 0))
structure FOk (F : FoldD) (n : Nat) : Prop where
  nl : F.near.length = n
  nr : ∀ l ∈ F.near, ∀ b ∈ l, b < n
  ho : ∀ h ∈ F.homes, h < n
  nu : ∀ h ∈ F.nums, h < n
  n0 : 0 < n
  n7 : n ≤ 700
  hl : F.homes.length ≤ 4
  hu : F.hues.length = n
def WishOk (F : FoldD) : WishD → Prop
  | .all => True
  | .col m _ => m < F.homes.length
  | .one a b => a < F.homes.length ∧ b < F.homes.length
  | .reach c => c < F.nums.length
theorem w_ca : decide ((V.str "colour") = V.str "all one") = false := by decide +kernel
theorem w_cc : decide ((V.str "colour") = V.str "colour") = true := by decide +kernel
theorem w_aa : decide ((V.str "all one") = V.str "all one") = true := by decide +kernel
theorem w_oa : decide ((V.str "one") = V.str "all one") = false := by decide +kernel
theorem w_oc : decide ((V.str "one") = V.str "colour") = false := by decide +kernel
theorem w_oo : decide ((V.str "one") = V.str "one") = true := by decide +kernel
theorem w_ra : decide ((V.str "reached") = V.str "all one") = false := by decide +kernel
theorem w_rc : decide ((V.str "reached") = V.str "colour") = false := by decide +kernel
theorem w_ro : decide ((V.str "reached") = V.str "one") = false := by decide +kernel
theorem w_rr : decide ((V.str "reached") = V.str "reached") = true := by decide +kernel
theorem w_cr : decide ((V.str "colour") = V.str "reached") = false := by decide +kernel
theorem w_or : decide ((V.str "one") = V.str "reached") = false := by decide +kernel
theorem w_co : decide ((V.str "colour") = V.str "one") = false := by decide +kernel
local macro_rules | `(tactic| walk_at "W1") => `(tactic| ((with_reducible apply G6.r_star); walk_at "HL"; (first | exact Nat.le_of_ble_eq_true rfl)))
section
variable {P : Program} {w : World} {K : PySem.W.Frag} {mg : Str → Option Value} {base : Heap}
theorem sc_alike_parts : FnScope ["folding", "state", "home", "found", "rest", "here", "beside"] ["folding", "state", "home"] (defScope s_alike_parts) := ⟨rfl, rfl, rfl, by decide +kernel, rfl, by decide +kernel, by decide +kernel⟩
def sp_alike (K : PySem.W.Frag) : Sp := fun vs H Q _ => ∃ (f a : Addr) (F : FoldD) (st : List Nat) (home : Nat), vs = [.ref f, .ref a, .int (home : Int)] ∧ FoldAt K H f F ∧ TN H a st ∧ FOk F st.length ∧ home < st.length ∧
  ∀ H' q, Same H H' → H' q = some (.dK (kT (alike_ F st home))) → Q (.ref q) H'
theorem ok_alike_parts (T : TX K mg) : C8.Cal P w K mg base 1 "alike_parts" (sp_alike K) [] := by
  obtain ⟨fd, F⟩ := T.F_alike_parts
  refine ⟨_, fd, ["folding", "state", "home"], [], ?_, T.g_alike_parts, F.kp, (F.bindsN (fun _ _ _ _ _ _ us hl => match us, hl with | [_, _, _], _ => rfl)), .nil⟩
  refine F.ok sc_alike_parts (fun vs H Q E h => ?_) (fun cdv A outer s H vs Q E hr h => ?_)
  · obtain ⟨f, a, F, st, home, rfl, _⟩ := h
    rfl
  · obtain ⟨f, a, F, st, home, rfl, hF, ha, ok, hh, k⟩ := h
    obtain ⟨dx, nA, nrA, hoA, huA, h1, h2, h3, h4, h5⟩ := id hF
    obtain ⟨nas, hna, hnall⟩ := id h3
    obtain ⟨ch, hch⟩ := getElem?_of_lt hh
    have hchv := getD_of (d := 0) hch
    have hnl := ok.nl
    have hlt := ok.nr
    have hN := ok.n7
    refine ⟨_, PSs.nox (pss_cons (ps_set (i := 3) sc_alike_parts.nd rfl (.inl rfl) (pe_disp (pps_cons (pv 2) pe_bl pps_nil) (by rfl) (by rfl) (fun z => by cases z) (by decide)))
      (pss_cons (ps_set (i := 4) sc_alike_parts.nd rfl (.inl rfl) (pe_lst (pa_cons (pv 2) pa_nil)))
      (pss_cons (ps_while PassesOwn.never (pt_tru' K rfl (pv 4) (by intro _; rfl)) (pss_cons (ps_set (i := 5) sc_alike_parts.nd rfl (.inl rfl) (pe_bm0' K rfl PySem.F.plainAttrs_list PySem.F.slot_list_pop PySem.F.type_list_pop mt_pop (pv 4)))
      (pss_one (ps_for PassesOwn.never rfl (pi_list' K rfl (pe_ix (ix_list' K rfl) (pe_fld' K rfl (pv 0) rfl) (pv 5) (fun _ _ => rfl))) (pg_name (i := 6) sc_alike_parts.nd rfl (.inl rfl)) (pss_one (ps_if (PW.pt (pw_and (pt_cmp (pc_dnotin hr.u1 (pv 6) (pv 3))) (pw_and1 (pt_cmpR op_eq (pe_ix (ix_tup' K rfl) (pv 1) (pv 6) (fun _ _ => rfl)) (pe_ix (ix_tup' K rfl) (pv 1) (pv 2) (fun _ _ => rfl)) (nomark _))))) (pss_cons (ps_dput hr.u1 (pv 3) (pv 6) pe_bl rfl)
      (pss_one (ps_expr (pe_bm' K rfl PySem.F.plainAttrs_list PySem.F.slot_list_append PySem.F.type_list_append mt_append (pv 4) (pa_cons (pv 6) pa_nil))))) pss_nil))))))
      (pss_one (ps_ret (pv 3)))))), ?_⟩
    try dsimp only [cxOf]
    walk_at "WK"
    intro dd hdd
    have s1 := same_new hdd (o := .dK [((Sum.inl (home : Int) : Key), .bl true)])
    walk_at "WK"
    intro L hL
    have nLd : L ≠ dd := fun z => by rw [z, upd_same] at hL; cases hL
    have s2 := s1.trans (same_new hL (o := .lst [.int (home : Int)]))
    have hLH : H L = none := s1.free hL
    walk_at "WK"
    let eqc : Nat → Bool := fun b => decide (st.getD b 0 = st.getD home 0)
    refine wh_L (fun m σ H' => ∃ f' r y1 y2, σ = [some (.ref f), some (.ref a), some (.int (home : Int)), some (.ref dd), some (.ref L), y1, y2] ∧ Same H H' ∧ H' dd = some (.dK (kT f')) ∧ LN H' L r ∧ grow F.near eqc m f' r = patchF F.near eqc st.length home ∧ GrOk st.length f' r ∧ m + f'.length = st.length + r.length ∧ m ≤ st.length) (m := st.length)
      ⟨[home], [home], _, _, rfl, s2, by walk_at "HL", upd_same, rfl, ⟨by simp, fun x hx => by rw [List.mem_singleton] at hx; rw [hx]; exact hh, fun x hx => by rw [List.mem_singleton] at hx; rw [hx]; exact hh⟩, rfl, Nat.le_refl _⟩ ?_ ?_ ?_
    · rintro m σ H' ⟨f', r, y1, y2, rfl, sm, e1, e2, e3, ok, e4, e9⟩
      exact ⟨L, vN r, rfl, e2⟩
    · rintro m σ H' rr y ys ⟨f', r, y1, y2, rfl, sm, e1, e2, e3, ok, e4, e9⟩ hrr hys
      cases hrr
      have er := Option.some.inj (e2.symm.trans hys)
      obtain ⟨r0, x0, rfl, rfl, rfl⟩ := vN_snoc (HO.lst.inj er)
      have hx0 : x0 < st.length := ok.rl x0 (by simp)
      have e10 := e4
      rw [List.length_append, List.length_singleton] at e10
      obtain ⟨m', rfl⟩ : ∃ m', m = m' + 1 := by
        have := nodup_lt_len ok.nd ok.fl
        exact ⟨m - 1, by omega⟩
      rw [grow_snoc] at e3
      obtain ⟨nb, hnb⟩ := getElem?_of_lt (ls := F.near) (i := x0) (by omega)
      obtain ⟨na, hla, hnb2⟩ := hnall.get hnb
      have hnlt := hlt nb (List.mem_of_getElem? hnb)
      rw [getD_of hnb] at e3
      have ok0 : GrOk st.length f' r0 := ⟨ok.nd, ok.fl, fun z hz => ok.rl z (List.mem_append.mpr (.inl hz))⟩
      walk_at "WK"
      refine r_popL hys ?_
      have s3 := same_of sm hLH (o := .lst (vN r0))
      have e5 : upd H' L (.lst (vN r0)) dd = some (.dK (kT f')) := by walk_at "HL"
      have e6 : upd H' L (.lst (vN r0)) L = some (.lst (vN r0)) := upd_same
      generalize upd H' L (.lst (vN r0)) = H2 at s3 e5 e6 ⊢
      have h1' := s3 _ _ h1
      have hna' := s3 _ _ hna
      have hnb3 := s3 _ _ hnb2
      walk_at "WK"
      refine for_L (xs := vN nb) (fun i σ H2 => ∃ y1, σ = [some (.ref f), some (.ref a), some (.int (home : Int)), some (.ref dd), some (.ref L), some (.int (x0 : Int)), y1] ∧ Same H H2 ∧ H2 dd = some (.dK (kT ((nb.take i).foldl (grS eqc) (f', r0)).1)) ∧ LN H2 L ((nb.take i).foldl (grS eqc) (f', r0)).2) ⟨_, rfl, s3, e5, e6⟩ (fun i σ H2 _ h => by
        obtain ⟨_, _, s4, _⟩ := h
        exact s4 _ _ hnb2) ?_ ?_
      · rintro i x σ H2 hx ⟨y1, rfl, s4, e6, e7⟩
        obtain ⟨b, hb, rfl⟩ := vN_inv hx
        have hbN := hnlt b (List.mem_of_getElem? hb)
        obtain ⟨cb, hcb⟩ := getElem?_of_lt (ls := st) (i := b) hbN
        have hcbv := getD_of (d := 0) hcb
        have oki := grF_ok (eqc := eqc) ok0 (bs := nb.take i) fun z hz => hnlt z (List.mem_of_mem_take hz)
        have hL1 := nodup_lt_len oki.nd oki.fl
        have hL2 := grF_len (eqc := eqc) (bs := nb.take i) (f := f') (r := r0)
        have ha2 := s4 _ _ ha
        rw [foldl_take _ _ _ hb]
        generalize (nb.take i).foldl (grS eqc) (f', r0) = ac at e6 e7 oki hL1 hL2 ⊢
        obtain ⟨f1, r1⟩ := ac
        dsimp only at e6 e7 oki hL1 hL2
        walk_at "WK"
        rw [if_pos rfl, kT_val]
        by_cases hm : b ∈ f1
        · rw [decide_eq_true hm]
          walk_at "WK"
          refine ⟨_, rfl, s4, ?_, ?_⟩
          · rw [grS, if_neg (fun z => z.1 hm)]
            exact e6
          · rw [grS, if_neg (fun z => z.1 hm)]
            exact e7
        · rw [decide_eq_false hm]
          walk_at "WK"
          by_cases hcc : cb = ch
          · subst hcc
            refine r_ifT2 (decide_eq_true rfl) ?_
            have hg : grS eqc (f1, r1) b = (f1 ++ [b], r1 ++ [b]) := by
              rw [grS, if_pos ⟨hm, decide_eq_true (hcbv.trans hchv.symm)⟩]
            rw [hg]
            walk_at "WK"
            have hl1 : f1.length < st.length := by
              have h1 := nodup_lt_len (xs := f1 ++ [b]) (n := st.length) (List.nodup_append.mpr ⟨oki.nd, by simp, fun z hz c hc => by rw [List.mem_singleton] at hc; exact fun e => hm (by rw [← hc, ← e]; exact hz)⟩) (fun z hz => (List.mem_append.mp hz).elim (oki.fl z) fun h => by rw [List.mem_singleton] at h; rw [h]; exact hbN)
              rw [List.length_append, List.length_singleton] at h1
              exact h1
            refine r_dputk e6 (lt_sz (by rw [kT_len]; omega)) ?_
            rw [kT_put, addK, if_neg hm]
            have s5 := same_of s4 hdd (o := .dK (kT (f1 ++ [b])))
            have e8 : upd H2 dd (.dK (kT (f1 ++ [b]))) L = some (.lst (vN r1)) := by walk_at "HL"
            walk_at "WK"
            refine r_append e8 (lt_sz (by rw [vN_len]; omega)) ?_
            rw [vN_app]
            exact ⟨_, rfl, same_of s5 hLH, by walk_at "HL", upd_same⟩
          · refine r_ifF2 (decide_eq_false (fun z => hcc (by have := V.int.inj z; omega))) ?_
            have hg : grS eqc (f1, r1) b = (f1, r1) := by
              rw [grS, if_neg (fun z => hcc (by
                have := of_decide_eq_true z.2
                rw [hcbv, hchv] at this
                exact this))]
            rw [hg]
            walk_at "WK"
            exact ⟨_, rfl, s4, e6, e7⟩
      · rintro σ H2 ⟨y1, rfl, s4, e6, e7⟩
        rw [vN_len, List.take_length] at e6 e7
        have okf := grF_ok (eqc := eqc) ok0 (bs := nb) hnlt
        have hL2 := grF_len (eqc := eqc) (bs := nb) (f := f') (r := r0)
        refine ⟨m', Nat.lt_succ_self _, _, _, _, _, rfl, s4, e6, e7, e3, okf, ?_, ?_⟩
        · omega
        · omega
    · rintro m σ H' rr ⟨f', r, y1, y2, rfl, sm, e1, e2, e3, ok, e4, e9⟩ hrr hys
      cases hrr
      have er := Option.some.inj (e2.symm.trans hys)
      have er2 : r = [] := by
        have := HO.lst.inj er
        cases r with
        | nil => rfl
        | cons _ _ => cases this
      subst er2
      rw [grow_nil] at e3
      walk_at "WK"
      exact k _ _ sm (by rw [alike_, ← e3]; exact e1)
theorem alike_ok {F : FoldD} {st : List Nat} {h : Nat} (ok : FOk F st.length) (hh : h < st.length) : GrOk st.length (alike_ F st h) [] := patchF_ok ok.nr hh
theorem r_alike {H : Hp} {Q : VK} {E : XK} {f a : Addr} {F : FoldD} {st : List Nat} {home : Nat} (hF : FoldAt K H f F) (ha : TN H a st) (ok : FOk F st.length) (hh : home < st.length) (k : ∀ H' q, Same H H' → H' q = some (.dK (kT (alike_ F st home))) → Q (.ref q) H') : sp_alike K ([.ref f, .ref a, .int (home : Int)] ++ []) H Q E := ⟨f, a, F, st, home, rfl, hF, ha, ok, hh, k⟩
theorem sc_wish_in_state : FnScope ["folding", "state", "wish", "word", "rest", "found", "home"] ["folding", "state", "wish"] (defScope s_wish_in_state) := ⟨rfl, rfl, rfl, by decide +kernel, rfl, by decide +kernel, by decide +kernel⟩
def sp_wis (K : PySem.W.Frag) : Sp := fun vs H Q _ => ∃ (f a b : Addr) (F : FoldD) (st : List Nat) (wd : WishD), vs = [.ref f, .ref a, .ref b] ∧ FoldAt K H f F ∧ TN H a st ∧ H b = some (.tup (wishV wd)) ∧ FOk F st.length ∧ WishOk F wd ∧ ∀ H', Same H H' → Q (.bl (holds F wd st)) H'
theorem ok_wish_in_state (T : TX K mg) : C8.Cal P w K mg base 2 "wish_in_state" (sp_wis K) [] := by
  have c_alike_parts := ok_alike_parts (P := P) (w := w) (base := base) T
  obtain ⟨fd, F⟩ := T.F_wish_in_state
  refine ⟨_, fd, ["folding", "state", "wish"], [], ?_, T.g_wish_in_state, F.kp, (F.bindsN (fun _ _ _ _ _ _ us hl => match us, hl with | [_, _, _], _ => rfl)), .nil⟩
  refine F.ok sc_wish_in_state (fun vs H Q E h => ?_) (fun cdv A outer s H vs Q E hr h => ?_)
  · obtain ⟨f, a, b, F, st, wd, rfl, _⟩ := h
    rfl
  · obtain ⟨f, a, b, F, st, wd, rfl, hF, ha, hb, ok, hw, k⟩ := h
    obtain ⟨dx, nA, nrA, hoA, huA, h1, h2, h3, h4, h5⟩ := id hF
    have c1 := w_ca
    have c2 := w_cc
    have c3 := w_aa
    have c4 := w_oa
    have c5 := w_oc
    have c6 := w_oo
    have c7 := w_ra
    have c8 := w_rc
    have c9 := w_ro
    refine ⟨_, PSs.nox (pss_cons (ps_asg (pv 2) (pg_star' K rfl (by rfl) (pgs_cons (pg_name (i := 3) sc_wish_in_state.nd rfl (.inl rfl)) (pgs_cons (pg_name (i := 4) sc_wish_in_state.nd rfl (.inl rfl)) pgs_nil))))
      (pss_cons (ps_if (pt_cmpR op_eq (pv 3) pe_str (nomark _)) (pss_one (ps_ret (pe_cmpR op_eq (pe_callB call_lenDK (by rfl) T.f_len (by decide +kernel) (pa_cons (C8.pe_c (c_alike_parts) hr (by omega) (by rfl) (pa_cons (pv 0) (pa_cons (pv 1) (pa_cons pe_int pa_nil)))) pa_nil)) (pe_callB (call_lenK' K rfl) (by rfl) T.f_len (by decide +kernel) (pa_cons (pv 1) pa_nil)) (nomark _)))) pss_nil)
      (pss_cons (ps_if (pt_cmpR op_eq (pv 3) pe_str (nomark _)) (pss_one (ps_ret (pe_cmpR op_eq (pe_ix (ix_tup' K rfl) (pv 1) (pe_ix (ix_list' K rfl) (pe_fld' K rfl (pv 0) rfl) (pe_ix (ix_list' K rfl) (pv 4) pe_int (fun _ _ => rfl)) (fun _ _ => rfl)) (fun _ _ => rfl)) (pe_ix (ix_list' K rfl) (pv 4) pe_int (fun _ _ => rfl)) (nomark _)))) pss_nil)
      (pss_cons (ps_if (pt_cmpR op_eq (pv 3) pe_str (nomark _)) (pss_one (ps_ret (pe_cmp (pc_din hr.u1 (pe_ix (ix_list' K rfl) (pe_fld' K rfl (pv 0) rfl) (pe_ix (ix_list' K rfl) (pv 4) pe_int (fun _ _ => rfl)) (fun _ _ => rfl)) (C8.pe_c (c_alike_parts) hr (by omega) (by rfl) (pa_cons (pv 0) (pa_cons (pv 1) (pa_cons (pe_ix (ix_list' K rfl) (pe_fld' K rfl (pv 0) rfl) (pe_ix (ix_list' K rfl) (pv 4) pe_int (fun _ _ => rfl)) (fun _ _ => rfl)) pa_nil))))) rfl))) pss_nil)
      (pss_cons (ps_set (i := 5) sc_wish_in_state.nd rfl (.inr rfl) (C8.pe_c (c_alike_parts) hr (by omega) (by rfl) (pa_cons (pv 0) (pa_cons (pv 1) (pa_cons (pe_ix (ix_tup' K rfl) (pe_fld' K rfl (pv 0) rfl) (pe_ix (ix_list' K rfl) (pv 4) pe_int (fun _ _ => rfl)) (fun _ _ => rfl)) pa_nil)))))
      (pss_one (ps_ret (pe_callB (cr_any' K rfl rfl) (by rfl) T.f_any (by decide +kernel) (pa_cons (pe_lc (own := [("home", 6)]) (g := gName 6) (by rfl) sc_wish_in_state.nd (pi_list' K rfl (pe_fld' K rfl (pv 0) rfl)) (blkOk_by (own := [("home", 6)]) (N := ["folding", "state", "wish", "word", "rest", "found", "home"]) (sc := defScope s_wish_in_state) (by decide +kernel)) (fun _ _ _ _ _ => (pg_name (i := 6) sc_wish_in_state.nd rfl (.inl rfl))) (fun _ _ _ _ _ => pts_nil) (fun _ _ _ _ _ => (pe_cmp (pc_din hr.u1 (pv 6) (pv 5)) rfl))) pa_nil))))))))), ?_⟩
    try dsimp only [cxOf]
    cases wd with
    | all =>
      unfold wishV at hb
      walk_at "WK"
      intro D hD
      have s1 := same_new hD (o := .lst [])
      walk_at "WK"
      refine r_alike (home := 0) (hF.ext s1) (s1 _ _ ha) ok ok.n0 fun H1 q s2 hq => ?_
      have ha1 := (s1.trans s2) _ _ ha
      walk_at "WK"
      have e : decide (V.int ((kT (alike_ F st 0)).length : Int) = V.int ((vN st).length : Int)) = holds F .all st := by
        show _ = decide _
        rw [kT_len, vN_len]
        refine decide_eq_decide.mpr ⟨fun z => by have := V.int.inj z; omega, fun z => by rw [z]⟩
      rw [e]
      exact k _ (s1.trans s2)
    | col m c =>
      obtain ⟨hm, hhm⟩ := getElem?_of_lt (ls := F.homes) (i := m) hw
      obtain ⟨cm, hcm⟩ := getElem?_of_lt (ls := st) (i := hm) (ok.ho hm (List.mem_of_getElem? hhm))
      unfold wishV at hb
      walk_at "WK"
      intro D hD
      have s1 := same_new hD (o := .lst [.int (m : Int), .int (c : Int)])
      have e0 : atI [V.int (m : Int), V.int (c : Int)] 0 = some (V.int (m : Int)) := atI_nat (j := 0) rfl
      have e1 : atI [V.int (m : Int), V.int (c : Int)] 1 = some (V.int (c : Int)) := atI_nat (j := 1) rfl
      walk_at "WK"
      have e : decide (V.int (cm : Int) = V.int (c : Int)) = holds F (.col m c) st := by
        show _ = decide _
        rw [getD_of hhm, getD_of hcm]
        refine decide_eq_decide.mpr ⟨fun z => by have := V.int.inj z; omega, fun z => by rw [z]⟩
      rw [e]
      exact k _ s1
    | one m c =>
      obtain ⟨hm, hhm⟩ := getElem?_of_lt (ls := F.homes) (i := m) hw.1
      obtain ⟨hc, hhc⟩ := getElem?_of_lt (ls := F.homes) (i := c) hw.2
      unfold wishV at hb
      walk_at "WK"
      intro D hD
      have s1 := same_new hD (o := .lst [.int (m : Int), .int (c : Int)])
      have e0 : atI [V.int (m : Int), V.int (c : Int)] 0 = some (V.int (m : Int)) := atI_nat (j := 0) rfl
      have e1 : atI [V.int (m : Int), V.int (c : Int)] 1 = some (V.int (c : Int)) := atI_nat (j := 1) rfl
      walk_at "WK"
      refine r_alike (hF.ext s1) (s1 _ _ ha) ok (ok.ho hm (List.mem_of_getElem? hhm)) fun H1 q s2 hq => ?_
      walk_at "WK"
      rw [if_neg (fun z => Bool.noConfusion z), kT_val]
      have e : decide (hc ∈ alike_ F st hm) = holds F (.one m c) st := by
        show _ = decide _
        rw [getD_of hhm, getD_of hhc]
      rw [e]
      exact k _ (s1.trans s2)
    | reach c =>
      obtain ⟨hm, hhm⟩ := getElem?_of_lt (ls := F.nums) (i := c) hw
      unfold wishV at hb
      walk_at "WK"
      intro D hD
      have s1 := same_new hD (o := .lst [.int (c : Int)])
      have e0 : atI [V.int (c : Int)] 0 = some (V.int (c : Int)) := atI_nat (j := 0) rfl
      walk_at "WK"
      refine r_alike (hF.ext s1) (s1 _ _ ha) ok (ok.nu hm (List.mem_of_getElem? hhm)) fun H1 q s2 hq => ?_
      have h1' := (s1.trans s2) _ _ h1
      have h4' := (s1.trans s2) _ _ h4
      walk_at "WK"
      refine lc_L (xs := vN F.homes) (fun D2 i H' => Same H1 H' ∧ H1 D2 = none ∧ H' D2 = some (.lst (((F.homes.take i).map fun h => decide (h ∈ alike_ F st hm)).map V.bl))) (fun D2 hD2 => ⟨same_new hD2, hD2, upd_same⟩) (fun D2 i H' _ h => h.1 _ _ h4') ?_ ?_
      · rintro D2 i y H' hy ⟨s3, nD2, g⟩
        obtain ⟨h, hh, rfl⟩ := vN_inv hy
        have hq' := s3 _ _ hq
        walk_at "WK"
        rw [if_neg (fun z => Bool.noConfusion z), kT_val]
        refine r_eltk g (lt_sz (by have := ok.hl; simp; omega)) ?_
        refine ⟨same_of s3 nD2, nD2, ?_⟩
        rw [upd_same, List.take_add_one, hh]
        simp
      · rintro D2 H2 ⟨s3, nD2, g⟩
        rw [vN_len, List.take_length] at g
        refine r_any g ?_
        have e : ((F.homes.map fun h => decide (h ∈ alike_ F st hm)).any id) = holds F (.reach c) st := by
          show _ = F.homes.any _
          rw [getD_of hhm, List.any_map]
          rfl
        rw [e]
        exact k _ ((s1.trans s2).trans s3)
theorem sc_unfold_state : FnScope ["folding", "state", "number"] ["folding", "state"] (defScope s_unfold_state) := ⟨rfl, rfl, rfl, by decide +kernel, rfl, by decide +kernel, by decide +kernel⟩
def sp_unf (K : PySem.W.Frag) : Sp := fun vs H Q _ => ∃ (f a : Addr) (F : FoldD) (st : List Nat), vs = [.ref f, .ref a] ∧ FoldAt K H f F ∧ TN H a st ∧ FOk F st.length ∧ F.nums.length ≤ 700 ∧ ∀ H' q st', Same H H' → TN H' q st' → Q (.ref q) H'
theorem ok_unfold_state (T : TX K mg) : C8.Cal P w K mg base 1 "unfold_state" (sp_unf K) [] := by
  obtain ⟨fd, F⟩ := T.F_unfold_state
  refine ⟨_, fd, ["folding", "state"], [], ?_, T.g_unfold_state, F.kp, (F.bindsN (fun _ _ _ _ _ _ us hl => match us, hl with | [_, _], _ => rfl)), .nil⟩
  refine F.ok sc_unfold_state (fun vs H Q E h => ?_) (fun cdv A outer s H vs Q E hr h => ?_)
  · obtain ⟨f, a, F, st, rfl, _⟩ := h
    rfl
  · obtain ⟨f, a, F, st, rfl, hF, ha, ok, hn, k⟩ := h
    obtain ⟨dx, nA, nrA, hoA, huA, h1, h2, h3, h4, h5⟩ := id hF
    refine ⟨_, PSs.nox (pss_one (ps_ret (pe_callTy (call_tupleK' K rfl) (by rfl) T.f_tuple (by decide +kernel) (pa_cons (pe_lc (own := [("number", 2)]) (g := gName 2) (by rfl) sc_unfold_state.nd (pi_tup' K rfl (pe_fld' K rfl (pv 0) rfl)) (blkOk_by (own := [("number", 2)]) (N := ["folding", "state", "number"]) (sc := defScope s_unfold_state) (by decide +kernel)) (fun _ _ _ _ _ => (pg_name (i := 2) sc_unfold_state.nd rfl (.inl rfl))) (fun _ _ _ _ _ => pts_nil) (fun _ _ _ _ _ => (pe_ix (ix_tup' K rfl) (pv 1) (pv 2) (fun _ _ => rfl)))) pa_nil)))), ?_⟩
    try dsimp only [cxOf]
    walk_at "WK"
    refine lc_T (xs := vN F.nums) (fun D i H' => Same H H' ∧ H D = none ∧ ∃ ns, ns.length ≤ i ∧ LN H' D ns) (fun D hD => ⟨same_new hD, hD, [], Nat.le_refl _, upd_same⟩) (fun D i H' _ h => h.1 _ _ h2) ?_ ?_
    · rintro D i y H' hy ⟨s3, nD, ns, hl, g⟩
      obtain ⟨v, hv, rfl⟩ := vN_inv hy
      obtain ⟨c, hc⟩ := getElem?_of_lt (ls := st) (i := v) (ok.nu v (List.mem_of_getElem? hv))
      have ha' := s3 _ _ ha
      have hi := (List.getElem?_eq_some_iff.mp hv).1
      walk_at "WK"
      refine r_eltk g (lt_sz (by rw [vN_len]; omega)) ?_
      exact ⟨same_of s3 nD, nD, ns ++ [c], by simp; omega, by rw [vN_app]; exact upd_same⟩
    · rintro D H2 ⟨s3, nD, ns, hl, g⟩
      walk_at "WK"
      intro q hq
      exact k _ _ _ (same_of s3 (s3.free hq)) upd_same
end
end G6
end
local macro_rules | `(tactic| walk_at "W1") => `(tactic| ((with_reducible apply G6.r_star); walk_at "HL"; (first | exact Nat.le_of_ble_eq_true rfl)))
section
set_option maxHeartbeats 4000000
set_option Elab.async false
set_option linter.all false
set_option maxRecDepth 100000
namespace G6
open PySem PySem.Spec PyProof.Rows L2 PySem.W
section
variable {K : PySem.W.Frag} {σ : L2.St} {H : Hp} {Q : VK} {g g1 : TG} {tt tt1 : TT} {te : TE} {vs vs1 : List Nat} {wi1 : TI} {xs : List V} {a : Addr}
def InK (g1 : TG) (tt1 : TT) (te : TE) (vs1 : List Nat) (σ2 : L2.St) (D : Addr) (Nx : Hp → Prop) (J1 : It) (H4 : Hp) : Prop := ∃ W1 : Nat → Nat → Hp → Prop, (∃ m, W1 0 m H4) ∧ ∀ j k H, W1 j k H →
  (J1.stop j H ∧ Nx H) ∨ (J1.go j H ∧ ∃ Nx1 : Hp → Prop, (∀ H', Nx1 H' → ∃ k', k' < k ∧ W1 (j + 1) k' H') ∧ ∀ x H', J1.yld j H x H' → g1 x (wipe σ2 vs1) H' (TurnK tt1 te vs1 σ2 D Nx1))
theorem in_T {D : Addr} {Nx : Hp → Prop} (Pv : Nat → Hp → Prop) (h0 : Pv 0 H) (hG : ∀ i H, i ≤ xs.length → Pv i H → H a = some (.tup xs)) (hs : ∀ i x H, xs[i]? = some x → Pv i H → g1 x (wipe σ vs1) H (TurnK tt1 te vs1 σ D (Pv (i + 1)))) (hd : ∀ H, Pv xs.length H → Nx H) : InK g1 tt1 te vs1 σ D Nx (Itt K a) H := by
  have wk : Walk (Itt K a) xs.length (fun H => SqT K H a xs) (YAt xs) := walk_tup
  refine ⟨fun i m H => m = xs.length - i ∧ i ≤ xs.length ∧ Pv i H, ⟨_, rfl, Nat.zero_le _, h0⟩, ?_⟩
  rintro i m H ⟨rfl, hi, p⟩
  have q := hG i H hi p
  by_cases hlt : i < xs.length
  · exact .inr ⟨wk.goes i H hlt (.of q), Pv (i + 1), fun H' p' => ⟨xs.length - (i + 1), by omega, rfl, hlt, p'⟩, fun x H' y => by
      obtain ⟨rfl, e⟩ := wk.yields i H x H' hlt (.of q) y
      exact hs i x _ e p⟩
  · obtain rfl : i = xs.length := by omega
    exact .inl ⟨wk.stops H (.of q), hd H p⟩
def Turn2K (tt : TT) (wi1 : TI) (g1 : TG) (tt1 : TT) (te : TE) (vs vs1 : List Nat) (σ : L2.St) (D : Addr) (Nx : Hp → Prop) (σ2 : L2.St) (H2 : Hp) : Prop := wipe σ2 vs = wipe σ vs ∧ tt σ2 H2 fun b H3 => if b = true then wi1 σ2 H3 (InK g1 tt1 te vs1 σ2 D Nx) else Nx H3
theorem r_turn2 {D : Addr} {Nx : Hp → Prop} {σ2 : L2.St} (e : wipe σ2 vs = wipe σ vs) (h : tt σ2 H fun b H3 => if b = true then wi1 σ2 H3 (InK g1 tt1 te vs1 σ2 D Nx) else Nx H3) : Turn2K tt wi1 g1 tt1 te vs vs1 σ D Nx σ2 H := ⟨e, h⟩
def Lc2K (g : TG) (tt : TT) (wi1 : TI) (g1 : TG) (tt1 : TT) (te : TE) (vs vs1 : List Nat) (σ : L2.St) (Q : VK) (J : It) (H1 : Hp) : Prop := ∀ D, H1 D = none → ∃ W : Nat → Nat → Hp → Prop, (∃ m, W 0 m (upd H1 D (.lst []))) ∧ ∀ i m H, W i m H →
  (J.stop i H ∧ Q (.ref D) H) ∨ (J.go i H ∧ ∃ Nx : Hp → Prop, (∀ H', Nx H' → ∃ m', m' < m ∧ W (i + 1) m' H') ∧ ∀ x H', J.yld i H x H' → g x (wipe σ vs) H' (Turn2K tt wi1 g1 tt1 te vs vs1 σ D Nx))
theorem r_lc2 {wi : TI} (h : wi σ H (Lc2K g tt wi1 g1 tt1 te vs vs1 σ Q)) : tLc2 wi g tt wi1 g1 tt1 te vs vs1 σ H Q := h
theorem lc2_T (Pv : Addr → Nat → Hp → Prop) (h0 : ∀ D, H D = none → Pv D 0 (upd H D (.lst []))) (hG : ∀ D i H, i ≤ xs.length → Pv D i H → H a = some (.tup xs))
    (hs : ∀ D i x H, xs[i]? = some x → Pv D i H → g x (wipe σ vs) H (Turn2K tt wi1 g1 tt1 te vs vs1 σ D (Pv D (i + 1)))) (hd : ∀ D H, Pv D xs.length H → Q (.ref D) H) : Lc2K g tt wi1 g1 tt1 te vs vs1 σ Q (Itt K a) H := by
  intro D hD
  have wk : Walk (Itt K a) xs.length (fun H => SqT K H a xs) (YAt xs) := walk_tup
  refine ⟨fun i m H => m = xs.length - i ∧ i ≤ xs.length ∧ Pv D i H, ⟨_, rfl, Nat.zero_le _, h0 D hD⟩, ?_⟩
  rintro i m H ⟨rfl, hi, p⟩
  have q := hG D i H hi p
  by_cases hlt : i < xs.length
  · exact .inr ⟨wk.goes i H hlt (.of q), Pv D (i + 1), fun H' p' => ⟨xs.length - (i + 1), by omega, rfl, hlt, p'⟩, fun x H' y => by
      obtain ⟨rfl, e⟩ := wk.yields i H x H' hlt (.of q) y
      exact hs D i x _ e p⟩
  · obtain rfl : i = xs.length := by omega
    exact .inl ⟨wk.stops H (.of q), hd D H p⟩
end
def poursOf (ms hs : List Nat) : List (Nat × Nat) := ms.flatMap fun m => hs.map fun h => (m, h)
theorem addKF_id : ∀ (cs ks : List Nat), (ks ++ cs).Nodup → cs.foldl addK ks = ks ++ cs
  | [], ks, _ => by simp
  | c :: cs, ks, h => by
    have hk : c ∉ ks := fun m => (List.nodup_append.mp h).2.2 c m c (List.mem_cons_self ..) rfl
    have e : addK ks c = ks ++ [c] := by rw [addK, if_neg hk]
    rw [List.foldl_cons, e, addKF_id cs _ (by rw [List.append_assoc]; exact h), List.append_assoc]
    rfl
/-- a wish that suits a picture -/
def WishG (d : PicD) : WishD → Prop
  | .all => True
  | .col m c => m < d.mks.length ∧ c ≤ 99
  | .one a b => a < d.mks.length ∧ b < d.mks.length ∧ a ≠ b
  | .reach c => c < d.col.length
theorem r_lc2_ : True := trivial
local macro_rules | `(tactic| walk_at "W1") => `(tactic| ((with_reducible apply G6.r_turn2); exact rfl))
local macro_rules | `(tactic| walk_at "W1") => `(tactic| ((with_reducible apply G6.r_lc2)))
section
variable {P : Program} {w : World} {K : PySem.W.Frag} {mg : Str → Option Value} {base : Heap}
theorem sc_unlike_wholes : FnScope ["things", "most", "top", "found", "thing"] ["things", "most", "top"] (defScope s_unlike_wholes) := ⟨rfl, rfl, rfl, by decide +kernel, rfl, by decide +kernel, by decide +kernel⟩
def sp_unw : Sp := fun vs H Q _ => ∃ (a : Addr) (ns : List Nat) (most : Nat) (top : Int), vs = [.ref a, .int (most : Int), .int top] ∧ LN H a ns ∧ 1 ≤ ns.length ∧ ns.length ≤ most ∧ ns.length ≤ 100 ∧ (∀ n ∈ ns, (n : Int) ≤ top) ∧ ns.Nodup ∧ ∀ H' q, Same H H' → TN H' q (srt ns) → Q (.ref q) H'
theorem ok_unlike_wholes (T : TX K mg) : C8.Cal P w K mg base 2 "unlike_wholes" sp_unw [] := by
  have c_is_whole := ok_is_whole (P := P) (w := w) (base := base) T
  obtain ⟨fd, F⟩ := T.F_unlike_wholes
  refine ⟨_, fd, ["things", "most", "top"], [], ?_, T.g_unlike_wholes, F.kp, (F.bindsN (fun _ _ _ _ _ _ us hl => match us, hl with | [_, _, _], _ => rfl)), .nil⟩
  refine F.ok sc_unlike_wholes (fun vs H Q E h => ?_) (fun cdv A outer s H vs Q E hr h => ?_)
  · obtain ⟨a, ns, most, top, rfl, _⟩ := h
    rfl
  · obtain ⟨a, ns, most, top, rfl, ha, hl1, hl2, hl3, hb, hnd, k⟩ := h
    have hlv := vN_len ns
    refine ⟨_, PSs.nox (pss_cons (ps_if (PW.pt (pw_or (pt_not (pt_val (pe_callB (call_isiT' K rfl) (by rfl) T.f_isinstance (by decide +kernel) (pa_cons (pv 0) (pa_cons (pe_tup (pa_cons (pe_bltn (v := .ty "list") (by rfl) T.f_list (by decide +kernel) rfl) (pa_cons (pe_bltn (v := .ty "tuple") (by rfl) T.f_tuple (by decide +kernel) rfl) pa_nil))) pa_nil))))) (pw_or1 (pt_not (pt_chain op_le op_le pe_int (pe_callB (call_lenK' K rfl) (by rfl) T.f_len (by decide +kernel) (pa_cons (pv 0) pa_nil)) (pv 1)))))) (pss_one (ps_ret pe_non)) pss_nil)
      (pss_cons (ps_if (pt_not (pt_val (pe_callB (cr_all' K rfl rfl) (by rfl) T.f_all (by decide +kernel) (pa_cons (pe_lc (own := [("thing", 4)]) (g := gName 4) (by rfl) sc_unlike_wholes.nd (pi_list' K rfl (pv 0)) (blkOk_by (own := [("thing", 4)]) (N := ["things", "most", "top", "found", "thing"]) (sc := defScope s_unlike_wholes) (by decide +kernel)) (fun _ _ _ _ _ => (pg_name (i := 4) sc_unlike_wholes.nd rfl (.inl rfl))) (fun _ _ _ _ _ => pts_nil) (fun _ _ _ _ _ => (C8.pe_c (c_is_whole) hr (by omega) (by rfl) (pa_cons (pv 4) (pa_cons pe_int (pa_cons (pv 2) pa_nil)))))) pa_nil)))) (pss_one (ps_ret pe_non)) pss_nil)
      (pss_cons (ps_set (i := 3) sc_unlike_wholes.nd rfl (.inl rfl) (pe_callTy (call_tupleK' K rfl) (by rfl) T.f_tuple (by decide +kernel) (pa_cons (pe_callB (cr_sortKI hr.units rfl) (by rfl) T.f_sorted (by decide +kernel) (pa_cons (pe_keysv' w rfl (pe_dc (own := [("thing", 4)]) (g := gName 4) (by rfl) sc_unlike_wholes.nd (pi_list' K rfl (pv 0)) (blkOk_by (own := [("thing", 4)]) (N := ["things", "most", "top", "found", "thing"]) (sc := defScope s_unlike_wholes) (by decide +kernel)) (fun _ _ _ _ _ => (pg_name (i := 4) sc_unlike_wholes.nd rfl (.inl rfl))) (fun _ _ _ _ _ => pts_nil) (fun _ _ _ _ _ => (pv 4)) (fun _ _ _ _ _ => pe_bl))) pa_nil)) pa_nil)))
      (pss_one (ps_ret (pe_ifExp (pt_cmpR op_eq (pe_callB (call_lenK' K rfl) (by rfl) T.f_len (by decide +kernel) (pa_cons (pv 3) pa_nil)) (pe_callB (call_lenK' K rfl) (by rfl) T.f_len (by decide +kernel) (pa_cons (pv 0) pa_nil)) (nomark _)) (pv 3) pe_non)))))), ?_⟩
    try dsimp only [cxOf]
    walk_at "WK"
    intro t1 ht1
    have s1 := same_new ht1 (o := .tup [.ty "list", .ty "tuple"])
    have ha1 := s1 _ _ ha
    walk_at "WK"
    refine lc_L (xs := vN ns) (fun D i H' => Same H H' ∧ H D = none ∧ H' D = some (.lst ((List.replicate i true).map V.bl))) (fun D hD => ⟨same_of s1 (s1.free hD), s1.free hD, upd_same⟩) (fun D i H' _ h => h.1 _ _ ha) ?_ ?_
    · rintro D i y H' hy ⟨s3, nD, gD⟩
      obtain ⟨n, hn, rfl⟩ := vN_inv hy
      have hbn := hb n (List.mem_of_getElem? hn)
      have hi := (List.getElem?_eq_some_iff.mp hn).1
      walk_at "WK"
      have e : (decide ((0 : Int) ≤ (n : Int)) && decide ((n : Int) ≤ top)) = true := by simp; omega
      rw [e]
      refine r_eltk gD (lt_sz (by simp; omega)) ?_
      refine ⟨same_of s3 nD, nD, ?_⟩
      rw [upd_same, List.replicate_succ', List.map_append]
      rfl
    · rintro D H2 ⟨s3, nD, gD⟩
      refine r_all gD ?_
      have e : ((List.replicate (vN ns).length true).all id) = true := by simp
      rw [e]
      have ha2 := s3 _ _ ha
      walk_at "WK"
      refine dck_J walk_list (fun Dd i H' => Same H2 H' ∧ H2 Dd = none ∧ H' Dd = some (.dK (kT ((ns.take i).foldl addK [])))) (fun Dd hd => ⟨same_new hd, hd, upd_same⟩) (fun Dd i H' _ h => .of (h.1 _ _ ha2)) ?_ ?_
      · rintro Dd i y H' _ hi ⟨s4, nd, gd⟩ ⟨rfl, hy⟩
        obtain ⟨n, hn, rfl⟩ := vN_inv hy
        walk_at "WK"
        refine r_putkk gd (lt_sz (by
          have z1 := addKF_nd (ns.take i) [] List.nodup_nil
          have z2 := nodup_sub_len z1 (ys := ns) fun x hx => List.mem_of_mem_take (((addKF_mem _ _ _).mp hx).resolve_left (by simp))
          rw [kT_len]
          omega)) ?_
        refine ⟨same_of s4 nd, nd, ?_⟩
        rw [upd_same, kT_put, foldl_take _ _ _ hn]
      · rintro Dd H3 ⟨s4, nd, gd⟩
        rw [vN_len, List.take_length, addKF_id ns [] hnd, List.nil_append] at gd
        walk_at "WK"
        intro pv hpv
        have npd : Dd ≠ pv := ne_of_none gd hpv
        have s03 := s3.trans s4
        have sv := same_of s03 (s03.free hpv) (o := viewO pv Dd)
        walk_at "WK"
        refine r_sortKI (kvs := kT ns) (ns := ns.map fun n : Nat => (n : Int)) upd_same (by walk_at "HL") (kT_keys ns) fun q hq => ?_
        rw [srt_int]
        have sq := same_of sv (sv.free hq) (o := .lst (vN (srt ns)))
        walk_at "WK"
        intro q2 hq2
        have sq2 := same_of sq (sq.free hq2) (o := .tup (vN (srt ns)))
        have hls : (vN (srt ns)).length = (vN ns).length := by rw [vN_len, vN_len, (srt_perm ns).length_eq]
        have hq3 : upd (upd (upd H3 pv (viewO pv Dd)) q (.lst (vN (srt ns)))) q2 (.tup (vN (srt ns))) q2 = some (.tup (vN (srt ns))) := upd_same
        walk_at "WK"
        refine r_ifT2 (by rw [hls]; exact decide_eq_true rfl) ?_
        walk_at "WK"
        exact k _ _ sq2 upd_same
theorem r_unw {H : Hp} {Q : VK} {E : XK} {a : Addr} {ns : List Nat} {most : Nat} {top : Int} (ha : LN H a ns) (h1 : 1 ≤ ns.length) (h2 : ns.length ≤ most) (h3 : ns.length ≤ 100) (h4 : ∀ n ∈ ns, (n : Int) ≤ top) (h5 : ns.Nodup) (k : ∀ H' q, Same H H' → TN H' q (srt ns) → Q (.ref q) H') : sp_unw ([.ref a, .int (most : Int), .int top] ++ []) H Q E := ⟨a, ns, most, top, rfl, ha, h1, h2, h3, h4, h5, k⟩
theorem sc_list_pours : FnScope ["marks", "hues", "mark", "hue"] ["marks", "hues"] (defScope s_list_pours) := ⟨rfl, rfl, rfl, by decide +kernel, rfl, by decide +kernel, by decide +kernel⟩
def sp_lp (K : PySem.W.Frag) : Sp := fun vs H Q _ => ∃ (a b : Addr) (ms hs : List Nat), vs = [.ref a, .ref b] ∧ TN H a ms ∧ TN H b hs ∧ ms.length ≤ 10 ∧ hs.length ≤ 10 ∧ ∀ H' q as, Same H H' → H' q = some (.lst (refs as)) → CpT H' as (poursOf ms hs) → Q (.ref q) H'
theorem poursOf_take {ms hs : List Nat} {i m : Nat} (h : ms[i]? = some m) : poursOf (ms.take (i + 1)) hs = poursOf (ms.take i) hs ++ hs.map fun h => (m, h) := by
  rw [poursOf, List.take_add_one, h, List.flatMap_append]
  simp [poursOf]
theorem poursOf_len (hs : List Nat) : ∀ ms : List Nat, (poursOf ms hs).length = ms.length * hs.length
  | [] => by simp [poursOf]
  | m :: ms => by
    have := poursOf_len hs ms
    rw [poursOf] at this ⊢
    rw [List.flatMap_cons, List.length_append, this, List.length_map, List.length_cons, Nat.succ_mul]
    omega
theorem ok_list_pours (T : TX K mg) : C8.Cal P w K mg base 1 "list_pours" (sp_lp K) [] := by
  obtain ⟨fd, F⟩ := T.F_list_pours
  refine ⟨_, fd, ["marks", "hues"], [], ?_, T.g_list_pours, F.kp, (F.bindsN (fun _ _ _ _ _ _ us hl => match us, hl with | [_, _], _ => rfl)), .nil⟩
  refine F.ok sc_list_pours (fun vs H Q E h => ?_) (fun cdv A outer s H vs Q E hr h => ?_)
  · obtain ⟨a, b, ms, hs, rfl, _⟩ := h
    rfl
  · obtain ⟨a, b, ms, hs, rfl, ha, hb, hl1, hl2, k⟩ := h
    refine ⟨_, PSs.nox (pss_one (ps_ret (pe_lc2 (own := [("mark", 2), ("hue", 3)]) (vs1 := [3]) (by rfl) sc_list_pours.nd (pi_tup' K rfl (pv 0)) (blkOk_by (own := [("mark", 2), ("hue", 3)]) (N := ["marks", "hues", "mark", "hue"]) (sc := defScope s_list_pours) (by decide +kernel)) (by decide) (fun _ _ _ _ _ => (pg_name (i := 2) sc_list_pours.nd rfl (.inl rfl))) (fun _ _ _ _ _ => pts_nil) (fun _ _ _ _ _ => (pi_tup' K rfl (pv 1))) (fun _ _ _ _ _ => (pg_name (i := 3) sc_list_pours.nd rfl (.inl rfl))) (fun _ _ _ _ _ => pts_nil) (fun _ _ _ _ _ => (pe_tup (pa_cons (pv 2) (pa_cons (pv 3) pa_nil))))))), ?_⟩
    try dsimp only [cxOf]
    walk_at "WK"
    refine lc2_T (xs := vN ms) (fun D i H' => Same H H' ∧ H D = none ∧ ∃ as, H' D = some (.lst (refs as)) ∧ CpT H' as (poursOf (ms.take i) hs)) (fun D hD => ⟨same_new hD, hD, [], upd_same, .nil⟩) (fun D i H' _ h => h.1 _ _ ha) ?_ ?_
    · rintro D i y H' hy ⟨s3, nD, as, gD, gC⟩
      obtain ⟨m, hm, rfl⟩ := vN_inv hy
      have hi := (List.getElem?_eq_some_iff.mp hm).1
      have hb' := s3 _ _ hb
      walk_at "WK"
      refine in_T (xs := vN hs) (fun j H'' => Same H H'' ∧ ∃ as, H'' D = some (.lst (refs as)) ∧ CpT H'' as (poursOf (ms.take i) hs ++ (hs.take j).map fun h => (m, h))) ⟨s3, as, gD, by simpa using gC⟩ (fun j H'' _ h => h.1 _ _ hb) ?_ ?_
      · rintro j z H'' hz ⟨s4, as2, gD2, gC2⟩
        obtain ⟨h, hh, rfl⟩ := vN_inv hz
        walk_at "WK"
        intro t ht
        have sT := same_new ht (o := .tup [.int (m : Int), .int (h : Int)])
        have ntD : t ≠ D := (ne_of_none gD2 ht).symm
        have hlen := gC2.len
        rw [List.length_append, poursOf_len, List.length_map, List.length_take, List.length_take] at hlen
        have hmul : min i ms.length * hs.length ≤ 10 * 10 := Nat.mul_le_mul (by omega) hl2
        refine r_eltk (sT _ _ gD2) (lt_sz (by rw [List.length_map]; omega)) ?_
        refine ⟨same_of (s4.trans sT) nD, as2 ++ [t], by rw [upd_same]; simp [refs], ?_⟩
        rw [List.take_add_one, hh, List.map_append, ← List.append_assoc]
        refine All2.snoc (gC2.imp fun b p r => ?_) ((upd_ne ntD).trans upd_same)
        exact (upd_ne (ne_tl (sT _ _ r) (sT _ _ gD2))).trans (sT _ _ r)
      · rintro H'' ⟨s4, as2, gD2, gC2⟩
        rw [vN_len, List.take_length] at gC2
        exact ⟨s4, nD, as2, gD2, by rw [poursOf_take hm]; exact gC2⟩
    · rintro D H2 ⟨s3, nD, as, gD, gC⟩
      rw [vN_len, List.take_length] at gC
      exact k _ _ as s3 gD gC
end
end G6
end
local macro_rules | `(tactic| walk_at "W1") => `(tactic| ((with_reducible apply G6.r_turn2); exact rfl))
local macro_rules | `(tactic| walk_at "W1") => `(tactic| ((with_reducible apply G6.r_lc2)))
section
set_option maxHeartbeats 4000000
set_option Elab.async false
set_option linter.all false
set_option maxRecDepth 100000
namespace G6
open PySem PySem.Spec PyProof.Rows L2 PySem.W
/-- marks and colours that may be asked with -/
structure MsOk (ns : List Nat) (most top : Nat) : Prop where
  l1 : 1 ≤ ns.length
  l2 : ns.length ≤ most
  b : ∀ n ∈ ns, n < top
  nd : ns.Nodup
section
variable {P : Program} {w : World} {K : PySem.W.Frag} {mg : Str → Option Value} {base : Heap}
theorem sc_check_choice : FnScope ["picture", "chosen", "colours", "marks", "hues"] ["picture", "chosen", "colours"] (defScope s_check_choice) := ⟨rfl, rfl, rfl, by decide +kernel, rfl, by decide +kernel, by decide +kernel⟩
def sp_chch (K : PySem.W.Frag) : Sp := fun vs H Q _ => ∃ (p a b : Addr) (d : PicD) (ms hs : List Nat), vs = [.ref p, .ref a, .ref b] ∧ PicAt K H p d ∧ LN H a ms ∧ LN H b hs ∧ MsOk ms 2 d.mks.length ∧ MsOk hs 4 100 ∧
  ∀ H' q x y, Same H H' → H' q = some (.tup [.ref x, .ref y]) → TN H' x (srt ms) → TN H' y (srt hs) → Q (.ref q) H'
theorem ok_check_choice (T : TX K mg) : C8.Cal P w K mg base 3 "check_choice" (sp_chch K) [] := by
  have c_unlike_wholes := ok_unlike_wholes (P := P) (w := w) (base := base) T
  obtain ⟨fd, F⟩ := T.F_check_choice
  refine ⟨_, fd, ["picture", "chosen", "colours"], [], ?_, T.g_check_choice, F.kp, (F.bindsN (fun _ _ _ _ _ _ us hl => match us, hl with | [_, _, _], _ => rfl)), .nil⟩
  refine F.ok sc_check_choice (fun vs H Q E h => ?_) (fun cdv A outer s H vs Q E hr h => ?_)
  · obtain ⟨p, a, b, d, ms, hs, rfl, _⟩ := h
    rfl
  · obtain ⟨p, a, b, d, ms, hs, rfl, hp, ha, hb, om, oh, k⟩ := h
    obtain ⟨dx, c, t, m, ts, h1, h2, h3, h4, h5⟩ := id hp
    have hlm := vN_len d.mks
    have om2 := om.l2
    have oh2 := oh.l2
    refine ⟨_, PSs.nox (pss_cons (ps_set (i := 3) sc_check_choice.nd rfl (.inl rfl) (C8.pe_c (c_unlike_wholes) hr (by omega) (by rfl) (pa_cons (pv 1) (pa_cons pe_int (pa_cons (pe_op op_sub (pe_callB (call_lenK' K rfl) (by rfl) T.f_len (by decide +kernel) (pa_cons (pe_fld' K rfl (pv 0) rfl) pa_nil)) pe_int) pa_nil)))))
      (pss_cons (ps_if (pt_cmpR op_isNK (pv 3) pe_non (nomark _)) (pss_one ps_never) pss_nil)
      (pss_cons (ps_set (i := 4) sc_check_choice.nd rfl (.inl rfl) (C8.pe_c (c_unlike_wholes) hr (by omega) (by rfl) (pa_cons (pv 2) (pa_cons pe_int (pa_cons (C8.pe_gc (by rfl) T.c_MOST_COLOUR) pa_nil)))))
      (pss_cons (ps_if (pt_cmpR op_isNK (pv 4) pe_non (nomark _)) (pss_one ps_never) pss_nil)
      (pss_one (ps_ret (pe_tup (pa_cons (pv 3) (pa_cons (pv 4) pa_nil))))))))), ?_⟩
    try dsimp only [cxOf]
    walk_at "WK"
    refine r_unw (most := 2) ha om.l1 om.l2 (by omega) (fun n hn => by have := om.b n hn; omega) om.nd fun H1 x s1 hx => ?_
    walk_at "WK"
    refine r_unw (most := 4) (s1 _ _ hb) oh.l1 oh.l2 (by omega) (fun n hn => by have := oh.b n hn; omega) oh.nd fun H2 y s2 hy => ?_
    have hx2 := s2 _ _ hx
    walk_at "WK"
    intro q hq
    have sq := same_new hq (o := .tup [.ref x, .ref y])
    exact k _ q x y ((s1.trans s2).trans sq) upd_same (sq _ _ hx2) (sq _ _ hy)
theorem sc_check_hands : FnScope ["picture", "mine", "theirs", "colours", "top", "marks", "others", "hues"] ["picture", "mine", "theirs", "colours"] (defScope s_check_hands) := ⟨rfl, rfl, rfl, by decide +kernel, rfl, by decide +kernel, by decide +kernel⟩
def sp_chh (K : PySem.W.Frag) : Sp := fun vs H Q _ => ∃ (p a b c : Addr) (d : PicD) (ms os hs : List Nat), vs = [.ref p, .ref a, .ref b, .ref c] ∧ PicAt K H p d ∧ LN H a ms ∧ LN H b os ∧ LN H c hs ∧ MsOk ms 4 d.mks.length ∧ MsOk os 4 d.mks.length ∧ MsOk hs 3 100 ∧
  ∀ H' q x z y, Same H H' → H' q = some (.tup [.ref x, .ref z, .ref y]) → TN H' x (srt ms) → TN H' z (srt os) → TN H' y (srt hs) → Q (.ref q) H'
theorem ok_check_hands (T : TX K mg) : C8.Cal P w K mg base 3 "check_hands" (sp_chh K) [] := by
  have c_unlike_wholes := ok_unlike_wholes (P := P) (w := w) (base := base) T
  obtain ⟨fd, F⟩ := T.F_check_hands
  refine ⟨_, fd, ["picture", "mine", "theirs", "colours"], [], ?_, T.g_check_hands, F.kp, (F.bindsN (fun _ _ _ _ _ _ us hl => match us, hl with | [_, _, _, _], _ => rfl)), .nil⟩
  refine F.ok sc_check_hands (fun vs H Q E h => ?_) (fun cdv A outer s H vs Q E hr h => ?_)
  · obtain ⟨p, a, b, c, d, ms, os, hs, rfl, _⟩ := h
    rfl
  · obtain ⟨p, a, b, c, d, ms, os, hs, rfl, hp, ha, hb, hc, om, oo, oh, k⟩ := h
    obtain ⟨dx, cA, t, m, ts, h1, h2, h3, h4, h5⟩ := id hp
    have hlm := vN_len d.mks
    have om2 := om.l2
    have oo2 := oo.l2
    have oh2 := oh.l2
    refine ⟨_, PSs.nox (pss_cons (ps_set (i := 4) sc_check_hands.nd rfl (.inl rfl) (pe_op op_sub (pe_callB (call_lenK' K rfl) (by rfl) T.f_len (by decide +kernel) (pa_cons (pe_fld' K rfl (pv 0) rfl) pa_nil)) pe_int))
      (pss_cons (ps_set (i := 5) sc_check_hands.nd rfl (.inl rfl) (C8.pe_c (c_unlike_wholes) hr (by omega) (by rfl) (pa_cons (pv 1) (pa_cons pe_int (pa_cons (pv 4) pa_nil)))))
      (pss_cons (ps_if (pt_cmpR op_isNK (pv 5) pe_non (nomark _)) (pss_one ps_never) pss_nil)
      (pss_cons (ps_set (i := 6) sc_check_hands.nd rfl (.inl rfl) (C8.pe_c (c_unlike_wholes) hr (by omega) (by rfl) (pa_cons (pv 2) (pa_cons pe_int (pa_cons (pv 4) pa_nil)))))
      (pss_cons (ps_if (pt_cmpR op_isNK (pv 6) pe_non (nomark _)) (pss_one ps_never) pss_nil)
      (pss_cons (ps_set (i := 7) sc_check_hands.nd rfl (.inl rfl) (C8.pe_c (c_unlike_wholes) hr (by omega) (by rfl) (pa_cons (pv 3) (pa_cons pe_int (pa_cons (C8.pe_gc (by rfl) T.c_MOST_COLOUR) pa_nil)))))
      (pss_cons (ps_if (pt_cmpR op_isNK (pv 7) pe_non (nomark _)) (pss_one ps_never) pss_nil)
      (pss_one (ps_ret (pe_tup (pa_cons (pv 5) (pa_cons (pv 6) (pa_cons (pv 7) pa_nil))))))))))))), ?_⟩
    try dsimp only [cxOf]
    walk_at "WK"
    refine r_unw (most := 4) ha om.l1 om.l2 (by omega) (fun n hn => by have := om.b n hn; omega) om.nd fun H1 x s1 hx => ?_
    walk_at "WK"
    refine r_unw (most := 4) (s1 _ _ hb) oo.l1 oo.l2 (by omega) (fun n hn => by have := oo.b n hn; omega) oo.nd fun H2 z s2 hz => ?_
    walk_at "WK"
    refine r_unw (most := 3) (s2 _ _ (s1 _ _ hc)) oh.l1 oh.l2 (by omega) (fun n hn => by have := oh.b n hn; omega) oh.nd fun H3 y s3 hy => ?_
    have hx3 := s3 _ _ (s2 _ _ hx)
    have hz3 := s3 _ _ hz
    walk_at "WK"
    intro q hq
    have sq := same_new hq (o := .tup [.ref x, .ref z, .ref y])
    exact k _ q x z y (((s1.trans s2).trans s3).trans sq) upd_same (sq _ _ hx3) (sq _ _ hz3) (sq _ _ hy)
theorem sc_is_wish : FnScope ["picture", "wish", "top", "word"] ["picture", "wish"] (defScope s_is_wish) := ⟨rfl, rfl, rfl, by decide +kernel, rfl, by decide +kernel, by decide +kernel⟩
def sp_isw2 (K : PySem.W.Frag) : Sp := fun vs H Q _ => ∃ (p a : Addr) (d : PicD) (wd : WishD), vs = [.ref p, .ref a] ∧ PicAt K H p d ∧ H a = some (.tup (wishV wd)) ∧ WishG d wd ∧ ∀ H', Same H H' → Q (.bl true) H'
theorem ok_is_wish (T : TX K mg) : C8.Cal P w K mg base 2 "is_wish" (sp_isw2 K) [] := by
  have c_is_whole := ok_is_whole (P := P) (w := w) (base := base) T
  obtain ⟨fd, F⟩ := T.F_is_wish
  refine ⟨_, fd, ["picture", "wish"], [], ?_, T.g_is_wish, F.kp, (F.bindsN (fun _ _ _ _ _ _ us hl => match us, hl with | [_, _], _ => rfl)), .nil⟩
  refine F.ok sc_is_wish (fun vs H Q E h => ?_) (fun cdv A outer s H vs Q E hr h => ?_)
  · obtain ⟨p, a, d, wd, rfl, _⟩ := h
    rfl
  · obtain ⟨p, a, d, wd, rfl, hp, ha, hw, k⟩ := h
    obtain ⟨dx, cA, t, m, ts, h1, h2, h3, h4, h5⟩ := id hp
    have hlm := vN_len d.mks
    have hlc := vN_len d.col
    have c1 := w_ca
    have c2 := w_cc
    have c3 := w_aa
    have c4 := w_oa
    have c5 := w_oc
    have c6 := w_oo
    have c7 := w_ra
    have c8 := w_rc
    have c9 := w_ro
    have c10 := w_rr
    have c11 := w_cr
    have c12 := w_or
    have c13 := w_co
    refine ⟨_, PSs.nox (pss_cons (ps_if (PW.pt (pw_or (pt_not (pt_val (pe_callB (call_isiT' K rfl) (by rfl) T.f_isinstance (by decide +kernel) (pa_cons (pv 1) (pa_cons (pe_tup (pa_cons (pe_bltn (v := .ty "list") (by rfl) T.f_list (by decide +kernel) rfl) (pa_cons (pe_bltn (v := .ty "tuple") (by rfl) T.f_tuple (by decide +kernel) rfl) pa_nil))) pa_nil))))) (pw_or (pt_not (pt_tru' K rfl (pv 1) (by intro _; rfl))) (pw_or1 (pt_not (pt_val (pe_callB (call_isi' K rfl) (by rfl) T.f_isinstance (by decide +kernel) (pa_cons (pe_ix (ix_tup' K rfl) (pv 1) pe_int (fun _ _ => rfl)) (pa_cons (pe_bltn (v := .ty "str") (by rfl) T.f_str (by decide +kernel) rfl) pa_nil))))))))) (pss_one (ps_ret pe_bl)) pss_nil)
      (pss_cons (ps_set (i := 2) sc_is_wish.nd rfl (.inl rfl) (pe_op op_sub (pe_callB (call_lenK' K rfl) (by rfl) T.f_len (by decide +kernel) (pa_cons (pe_fld' K rfl (pv 0) rfl) pa_nil)) pe_int))
      (pss_cons (ps_set (i := 3) sc_is_wish.nd rfl (.inl rfl) (pe_ix (ix_tup' K rfl) (pv 1) pe_int (fun _ _ => rfl)))
      (pss_cons (ps_if (pt_cmpR op_eq (pv 3) pe_str (nomark _)) (pss_one (ps_ret (pe_cmpR op_eq (pe_callB (call_lenK' K rfl) (by rfl) T.f_len (by decide +kernel) (pa_cons (pv 1) pa_nil)) pe_int (nomark _)))) pss_nil)
      (pss_cons (ps_if (pt_cmpR op_eq (pv 3) pe_str (nomark _)) (pss_one (ps_ret (pe_and (pe_cmpR op_eq (pe_callB (call_lenK' K rfl) (by rfl) T.f_len (by decide +kernel) (pa_cons (pv 1) pa_nil)) pe_int (nomark _)) (pe_one (C8.pe_c (c_is_whole) hr (by omega) (by rfl) (pa_cons (pe_ix (ix_tup' K rfl) (pv 1) pe_int (fun _ _ => rfl)) (pa_cons pe_int (pa_cons (pe_op op_sub (pe_callB (call_lenK' K rfl) (by rfl) T.f_len (by decide +kernel) (pa_cons (pe_fld' K rfl (pv 0) rfl) pa_nil)) pe_int) pa_nil)))))))) pss_nil)
      (pss_cons (ps_if (PW.pt (pw_or (pt_cmpR op_ne (pe_callB (call_lenK' K rfl) (by rfl) T.f_len (by decide +kernel) (pa_cons (pv 1) pa_nil)) pe_int (nomark _)) (pw_or1 (pt_not (pt_val (C8.pe_c (c_is_whole) hr (by omega) (by rfl) (pa_cons (pe_ix (ix_tup' K rfl) (pv 1) pe_int (fun _ _ => rfl)) (pa_cons pe_int (pa_cons (pv 2) pa_nil))))))))) (pss_one (ps_ret pe_bl)) pss_nil)
      (pss_cons (ps_if (pt_cmpR op_eq (pv 3) pe_str (nomark _)) (pss_one (ps_ret (pe_and (C8.pe_c (c_is_whole) hr (by omega) (by rfl) (pa_cons (pe_ix (ix_tup' K rfl) (pv 1) pe_int (fun _ _ => rfl)) (pa_cons pe_int (pa_cons (pv 2) pa_nil)))) (pe_one (pe_cmpR op_ne (pe_ix (ix_tup' K rfl) (pv 1) pe_int (fun _ _ => rfl)) (pe_ix (ix_tup' K rfl) (pv 1) pe_int (fun _ _ => rfl)) (nomark _)))))) pss_nil)
      (pss_one (ps_ret (pe_and (pe_cmpR op_eq (pv 3) pe_str (nomark _)) (pe_one (C8.pe_c (c_is_whole) hr (by omega) (by rfl) (pa_cons (pe_ix (ix_tup' K rfl) (pv 1) pe_int (fun _ _ => rfl)) (pa_cons pe_int (pa_cons (C8.pe_gc (by rfl) T.c_MOST_COLOUR) pa_nil))))))))))))))), ?_⟩
    try dsimp only [cxOf]
    cases wd with
    | all =>
      unfold wishV at ha
      have e0 : atI [V.str "all one"] 0 = some (V.str "all one") := atI_nat (j := 0) rfl
      walk_at "WK"
      intro t1 ht1
      have s1 := same_new ht1 (o := .tup [.ty "list", .ty "tuple"])
      have ha1 := s1 _ _ ha
      walk_at "WK"
      exact k _ s1
    | reach c =>
      have hw' : c < d.col.length := hw
      unfold wishV at ha
      have e0 : atI [V.str "reached", V.int (c : Int)] 0 = some (V.str "reached") := atI_nat (j := 0) rfl
      have e1 : atI [V.str "reached", V.int (c : Int)] 1 = some (V.int (c : Int)) := atI_nat (j := 1) rfl
      walk_at "WK"
      intro t1 ht1
      have s1 := same_new ht1 (o := .tup [.ty "list", .ty "tuple"])
      have ha1 := s1 _ _ ha
      have h1' := s1 _ _ h1
      have h2' := s1 _ _ h2
      have h5' := s1 _ _ h5
      walk_at "WK"
      have e : (decide ((0 : Int) ≤ (c : Int)) && decide ((c : Int) ≤ ((vN d.col).length : Int) - 1)) = true := by simp; omega
      rw [e]
      exact k _ s1
    | col mm c =>
      obtain ⟨hw1, hw2⟩ := hw
      unfold wishV at ha
      have e0 : atI [V.str "colour", V.int (mm : Int), V.int (c : Int)] 0 = some (V.str "colour") := atI_nat (j := 0) rfl
      have e1 : atI [V.str "colour", V.int (mm : Int), V.int (c : Int)] 1 = some (V.int (mm : Int)) := atI_nat (j := 1) rfl
      have e2 : atI [V.str "colour", V.int (mm : Int), V.int (c : Int)] 2 = some (V.int (c : Int)) := atI_nat (j := 2) rfl
      walk_at "WK"
      intro t1 ht1
      have s1 := same_new ht1 (o := .tup [.ty "list", .ty "tuple"])
      have ha1 := s1 _ _ ha
      have h1' := s1 _ _ h1
      have h2' := s1 _ _ h2
      have h5' := s1 _ _ h5
      walk_at "WK"
      have e : (decide ((0 : Int) ≤ (c : Int)) && decide ((c : Int) ≤ 99)) = true := by simp; omega
      rw [e]
      exact k _ s1
    | one mm c =>
      obtain ⟨hw1, hw2, hw3⟩ := hw
      unfold wishV at ha
      have e0 : atI [V.str "one", V.int (mm : Int), V.int (c : Int)] 0 = some (V.str "one") := atI_nat (j := 0) rfl
      have e1 : atI [V.str "one", V.int (mm : Int), V.int (c : Int)] 1 = some (V.int (mm : Int)) := atI_nat (j := 1) rfl
      have e2 : atI [V.str "one", V.int (mm : Int), V.int (c : Int)] 2 = some (V.int (c : Int)) := atI_nat (j := 2) rfl
      walk_at "WK"
      intro t1 ht1
      have s1 := same_new ht1 (o := .tup [.ty "list", .ty "tuple"])
      have ha1 := s1 _ _ ha
      have h1' := s1 _ _ h1
      have h2' := s1 _ _ h2
      have h5' := s1 _ _ h5
      walk_at "WK"
      have e : (!decide (V.int (mm : Int) = V.int (c : Int))) = true := by simp; omega
      rw [e]
      exact k _ s1
theorem r_isw2 {H : Hp} {Q : VK} {E : XK} {p a : Addr} {d : PicD} {wd : WishD} (hp : PicAt K H p d) (ha : H a = some (.tup (wishV wd))) (hw : WishG d wd) (k : ∀ H', Same H H' → Q (.bl true) H') : sp_isw2 K ([.ref p, .ref a] ++ []) H Q E := ⟨p, a, d, wd, rfl, hp, ha, hw, k⟩
theorem sc_check_wish : FnScope ["picture", "wish"] ["picture", "wish"] (defScope s_check_wish) := ⟨rfl, rfl, rfl, by decide +kernel, rfl, by decide +kernel, by decide +kernel⟩
def sp_chw (K : PySem.W.Frag) : Sp := fun vs H Q _ => ∃ (p a : Addr) (d : PicD) (wd : WishD), vs = [.ref p, .ref a] ∧ PicAt K H p d ∧ H a = some (.tup (wishV wd)) ∧ WishG d wd ∧ ∀ H' q, Same H H' → H' q = some (.tup (wishV wd)) → Q (.ref q) H'
theorem ok_check_wish (T : TX K mg) : C8.Cal P w K mg base 3 "check_wish" (sp_chw K) [] := by
  have c_is_wish := ok_is_wish (P := P) (w := w) (base := base) T
  obtain ⟨fd, F⟩ := T.F_check_wish
  refine ⟨_, fd, ["picture", "wish"], [], ?_, T.g_check_wish, F.kp, (F.bindsN (fun _ _ _ _ _ _ us hl => match us, hl with | [_, _], _ => rfl)), .nil⟩
  refine F.ok sc_check_wish (fun vs H Q E h => ?_) (fun cdv A outer s H vs Q E hr h => ?_)
  · obtain ⟨p, a, d, wd, rfl, _⟩ := h
    rfl
  · obtain ⟨p, a, d, wd, rfl, hp, ha, hw, k⟩ := h
    refine ⟨_, PSs.nox (pss_cons (ps_if (pt_not (pt_val (C8.pe_c (c_is_wish) hr (by omega) (by rfl) (pa_cons (pv 0) (pa_cons (pv 1) pa_nil))))) (pss_one ps_never) pss_nil)
      (pss_one (ps_ret (pe_callTy (call_tupleK' K rfl) (by rfl) T.f_tuple (by decide +kernel) (pa_cons (pv 1) pa_nil))))), ?_⟩
    try dsimp only [cxOf]
    walk_at "WK"
    refine r_isw2 hp ha hw fun H1 s1 => ?_
    have ha1 := s1 _ _ ha
    walk_at "WK"
    exact k _ _ s1 ha1
theorem sc_Book_init : FnScope ["self", "rows"] ["self", "rows"] (defScope s_Book_init) := ⟨rfl, rfl, rfl, by decide +kernel, rfl, by decide +kernel, by decide +kernel⟩
def sp_iBook (K : PySem.W.Frag) : Sp := fun vs H Q _ => ∃ (x dx : Addr) (v0 : V) (H0 : Hp), vs = [.ref x, v0] ∧ Same H0 H ∧ H0 x = none ∧ H x = some (.ins (He.ga K "Book") dx []) ∧ ∀ H', Same H0 H' → H' x = some (.ins (He.ga K "Book") dx (f_Book v0)) → Q .non H'
theorem ok_Book_init (T : TX K mg) : C8.Mak P w K mg base 1 "Book" (He.ga K "Book") (sp_iBook K) [] := by
  obtain ⟨fd, F⟩ := T.F_Book_init
  refine ⟨_, fd, ["self", "rows"], [], T.m_Book, ?_, T.g_Book, (F.bindsN (fun _ _ _ _ _ _ us hl => match us, hl with | [_, _], _ => rfl)), .nil⟩
  refine F.ok sc_Book_init (fun vs H Q E h => ?_) (fun cdv A outer s H vs Q E hr h => ?_)
  · obtain ⟨x, dx, v0, H0, rfl, _⟩ := h
    rfl
  · obtain ⟨x, dx, v0, H0, rfl, s0, nx, hx, k⟩ := h
    refine ⟨_, PSs.nox (pss_one (ps_fld (pv 0) (pv 1) rfl)), ?_⟩
    try dsimp only [cxOf]
    walk_at "WK"
    exact k _ (same_of s0 nx) upd_same
theorem sc_Forced_init : FnScope ["self", "rank", "book"] ["self", "rank", "book"] (defScope s_Forced_init) := ⟨rfl, rfl, rfl, by decide +kernel, rfl, by decide +kernel, by decide +kernel⟩
def sp_iForced (K : PySem.W.Frag) : Sp := fun vs H Q _ => ∃ (x dx : Addr) (v0 v1 : V) (H0 : Hp), vs = [.ref x, v0, v1] ∧ Same H0 H ∧ H0 x = none ∧ H x = some (.ins (He.ga K "Forced") dx []) ∧ ∀ H', Same H0 H' → H' x = some (.ins (He.ga K "Forced") dx (f_Forced v0 v1)) → Q .non H'
theorem ok_Forced_init (T : TX K mg) : C8.Mak P w K mg base 1 "Forced" (He.ga K "Forced") (sp_iForced K) [] := by
  obtain ⟨fd, F⟩ := T.F_Forced_init
  refine ⟨_, fd, ["self", "rank", "book"], [], T.m_Forced, ?_, T.g_Forced, (F.bindsN (fun _ _ _ _ _ _ us hl => match us, hl with | [_, _, _], _ => rfl)), .nil⟩
  refine F.ok sc_Forced_init (fun vs H Q E h => ?_) (fun cdv A outer s H vs Q E hr h => ?_)
  · obtain ⟨x, dx, v0, v1, H0, rfl, _⟩ := h
    rfl
  · obtain ⟨x, dx, v0, v1, H0, rfl, s0, nx, hx, k⟩ := h
    refine ⟨_, PSs.nox (pss_cons (ps_fld (pv 0) (pv 1) rfl)
      (pss_one (ps_fld (pv 0) (pv 2) rfl))), ?_⟩
    try dsimp only [cxOf]
    walk_at "WK"
    rw [upd_upd]
    exact k _ (same_of s0 nx) upd_same
theorem sc_Kept_init : FnScope ["self", "book"] ["self", "book"] (defScope s_Kept_init) := ⟨rfl, rfl, rfl, by decide +kernel, rfl, by decide +kernel, by decide +kernel⟩
def sp_iKept (K : PySem.W.Frag) : Sp := fun vs H Q _ => ∃ (x dx : Addr) (v0 : V) (H0 : Hp), vs = [.ref x, v0] ∧ Same H0 H ∧ H0 x = none ∧ H x = some (.ins (He.ga K "Kept") dx []) ∧ ∀ H', Same H0 H' → H' x = some (.ins (He.ga K "Kept") dx (f_Kept v0)) → Q .non H'
theorem ok_Kept_init (T : TX K mg) : C8.Mak P w K mg base 1 "Kept" (He.ga K "Kept") (sp_iKept K) [] := by
  obtain ⟨fd, F⟩ := T.F_Kept_init
  refine ⟨_, fd, ["self", "book"], [], T.m_Kept, ?_, T.g_Kept, (F.bindsN (fun _ _ _ _ _ _ us hl => match us, hl with | [_, _], _ => rfl)), .nil⟩
  refine F.ok sc_Kept_init (fun vs H Q E h => ?_) (fun cdv A outer s H vs Q E hr h => ?_)
  · obtain ⟨x, dx, v0, H0, rfl, _⟩ := h
    rfl
  · obtain ⟨x, dx, v0, H0, rfl, s0, nx, hx, k⟩ := h
    refine ⟨_, PSs.nox (pss_one (ps_fld (pv 0) (pv 1) rfl)), ?_⟩
    try dsimp only [cxOf]
    walk_at "WK"
    exact k _ (same_of s0 nx) upd_same
theorem sc_Fewest_init : FnScope ["self", "number", "script"] ["self", "number", "script"] (defScope s_Fewest_init) := ⟨rfl, rfl, rfl, by decide +kernel, rfl, by decide +kernel, by decide +kernel⟩
def sp_iFewest (K : PySem.W.Frag) : Sp := fun vs H Q _ => ∃ (x dx : Addr) (v0 v1 : V) (H0 : Hp), vs = [.ref x, v0, v1] ∧ Same H0 H ∧ H0 x = none ∧ H x = some (.ins (He.ga K "Fewest") dx []) ∧ ∀ H', Same H0 H' → H' x = some (.ins (He.ga K "Fewest") dx (f_Fewest v0 v1)) → Q .non H'
theorem ok_Fewest_init (T : TX K mg) : C8.Mak P w K mg base 1 "Fewest" (He.ga K "Fewest") (sp_iFewest K) [] := by
  obtain ⟨fd, F⟩ := T.F_Fewest_init
  refine ⟨_, fd, ["self", "number", "script"], [], T.m_Fewest, ?_, T.g_Fewest, (F.bindsN (fun _ _ _ _ _ _ us hl => match us, hl with | [_, _, _], _ => rfl)), .nil⟩
  refine F.ok sc_Fewest_init (fun vs H Q E h => ?_) (fun cdv A outer s H vs Q E hr h => ?_)
  · obtain ⟨x, dx, v0, v1, H0, rfl, _⟩ := h
    rfl
  · obtain ⟨x, dx, v0, v1, H0, rfl, s0, nx, hx, k⟩ := h
    refine ⟨_, PSs.nox (pss_cons (ps_fld (pv 0) (pv 1) rfl)
      (pss_one (ps_fld (pv 0) (pv 2) rfl))), ?_⟩
    try dsimp only [cxOf]
    walk_at "WK"
    rw [upd_upd]
    exact k _ (same_of s0 nx) upd_same
theorem sc_NeverSo_init : FnScope ["self", "standings"] ["self", "standings"] (defScope s_NeverSo_init) := ⟨rfl, rfl, rfl, by decide +kernel, rfl, by decide +kernel, by decide +kernel⟩
def sp_iNeverSo (K : PySem.W.Frag) : Sp := fun vs H Q _ => ∃ (x dx : Addr) (v0 : V) (H0 : Hp), vs = [.ref x, v0] ∧ Same H0 H ∧ H0 x = none ∧ H x = some (.ins (He.ga K "NeverSo") dx []) ∧ ∀ H', Same H0 H' → H' x = some (.ins (He.ga K "NeverSo") dx (f_NeverSo v0)) → Q .non H'
theorem ok_NeverSo_init (T : TX K mg) : C8.Mak P w K mg base 1 "NeverSo" (He.ga K "NeverSo") (sp_iNeverSo K) [] := by
  obtain ⟨fd, F⟩ := T.F_NeverSo_init
  refine ⟨_, fd, ["self", "standings"], [], T.m_NeverSo, ?_, T.g_NeverSo, (F.bindsN (fun _ _ _ _ _ _ us hl => match us, hl with | [_, _], _ => rfl)), .nil⟩
  refine F.ok sc_NeverSo_init (fun vs H Q E h => ?_) (fun cdv A outer s H vs Q E hr h => ?_)
  · obtain ⟨x, dx, v0, H0, rfl, _⟩ := h
    rfl
  · obtain ⟨x, dx, v0, H0, rfl, s0, nx, hx, k⟩ := h
    refine ⟨_, PSs.nox (pss_one (ps_fld (pv 0) (pv 1) rfl)), ?_⟩
    try dsimp only [cxOf]
    walk_at "WK"
    exact k _ (same_of s0 nx) upd_same
end
end G6
end
section
set_option maxHeartbeats 4000000
set_option Elab.async false
set_option linter.all false
set_option maxRecDepth 100000
namespace G6
open PySem PySem.Spec PyProof.Rows L2 PySem.W
/-- the drawn picture's parts -/
structure WldAt (D : Hp) (q l t m : Addr) (ts : List Addr) (cols : List Nat) (ps : List (Nat × Nat)) (ms : List Nat) : Prop where
  at_ : D q = some (.lst [.ref l, .ref t, .ref m])
  l : LN D l cols
  t : D t = some (.lst (refs ts))
  ts : CpT D ts ps
  m : LN D m ms
  c2 : 2 ≤ cols.length
  c9 : ∀ v ∈ cols, v ≤ 99
  p2 : ps.length ≤ 20
  pv : ∀ p ∈ ps, p.1 < cols.length ∧ p.2 < cols.length ∧ p.1 ≠ p.2
  mn : ms.Nodup
  ml : ∀ v ∈ ms, v < cols.length
  m1 : 1 ≤ ms.length
theorem WldAt.ext {D D' : Hp} {q l t m : Addr} {ts : List Addr} {cols : List Nat} {ps : List (Nat × Nat)} {ms : List Nat} (h : WldAt D q l t m ts cols ps ms) (s : Same D D') : WldAt D' q l t m ts cols ps ms :=
  ⟨s _ _ h.at_, s _ _ h.l, s _ _ h.t, CpT.ext h.ts s, s _ _ h.m, h.c2, h.c9, h.p2, h.pv, h.mn, h.ml, h.m1⟩
section
variable {P : Program} {w : World} {K : PySem.W.Frag} {mg : Str → Option Value} {base : Heap}
theorem r_ties {H : Hp} {Q : VK} {E : XK} {a c : Addr} {m : Nat} (h : Hand H a c) (h2 : 2 ≤ m) (h5 : m ≤ 5) (k : ∀ H' q ts ps, Same (dr H a) H' → Hand H' a c → dr H' a q = some (.lst (refs ts)) → CpT (dr H' a) ts ps → ps.length ≤ 20 → (∀ p ∈ ps, p.1 < m ∧ p.2 < m ∧ p.1 ≠ p.2) → Q (.ref q) H') : sp_ties ([.ref a, .int (m : Int)] ++ []) H Q E := ⟨a, c, m, rfl, h, h2, h5, k⟩
theorem r_mks {H : Hp} {Q : VK} {E : XK} {a c : Addr} {m : Nat} {x : Int} (h : Hand H a c) (h1 : 1 ≤ m) (h2 : m ≤ 100) (h3 : 1 ≤ x) (h4 : x ≤ 1000) (k : ∀ H' q ms, Same (dr H a) H' → Hand H' a c → LN (dr H' a) q ms → ms.Nodup → (∀ v ∈ ms, v < m) → 1 ≤ ms.length → (ms.length : Int) ≤ x → Q (.ref q) H') : sp_mks ([.ref a, .int (m : Int), .int x] ++ []) H Q E := ⟨a, c, m, x, rfl, h, h1, h2, h3, h4, k⟩
theorem r_unl {H : Hp} {Q : VK} {E : XK} {a c : Addr} {m : Nat} {x : Int} (h : Hand H a c) (h2 : m ≤ 100) (h3 : 0 ≤ x) (h4 : x ≤ 1000) (k : ∀ H' q ms, Same (dr H a) H' → Hand H' a c → LN (dr H' a) q ms → ms.Nodup → (∀ v ∈ ms, v < m) → ms.length = min m x.toNat → Q (.ref q) H') : sp_unl ([.ref a, .int (m : Int), .int x] ++ []) H Q E := ⟨a, c, m, x, rfl, h, h2, h3, h4, k⟩
theorem sc_L_picture : FnScope ["_law_hand_here", "_law_most", "_law_wanted", "_law_many", "_law_cell"] ["_law_hand_here", "_law_most", "_law_wanted"] (defScope s_L_picture) := ⟨rfl, rfl, rfl, by decide +kernel, rfl, by decide +kernel, by decide +kernel⟩
def sp_pict : Sp := fun vs H Q _ => ∃ (a c : Addr) (most x : Int), vs = [.ref a, .int most, .int x] ∧ Hand H a c ∧ 2 ≤ most ∧ most ≤ 5 ∧ 1 ≤ x ∧ x ≤ 4 ∧ ∀ H' q l t m ts cols ps ms, Same (dr H a) H' → Hand H' a c → WldAt (dr H' a) q l t m ts cols ps ms → (cols.length : Int) ≤ most → (ms.length : Int) ≤ x → Q (.ref q) H'
theorem ok_picture (T : TX K mg) : C8.Cal P w K mg base 4 "_law_picture" sp_pict [] := by
  have c_L_take := ok_take (P := P) (w := w) (base := base) T
  have c_L_colour := ok_colour (P := P) (w := w) (base := base) T
  have c_L_ties := ok_ties (P := P) (w := w) (base := base) T
  have c_L_marks := ok_marks (P := P) (w := w) (base := base) T
  obtain ⟨fd, F⟩ := T.F_L_picture
  refine ⟨_, fd, ["_law_hand_here", "_law_most", "_law_wanted"], [], ?_, T.g_L_picture, F.kp, (F.bindsN (fun _ _ _ _ _ _ us hl => match us, hl with | [_, _, _], _ => rfl)), .nil⟩
  refine F.ok sc_L_picture (fun vs H Q E h => ?_) (fun cdv A outer s H vs Q E hr h => ?_)
  · obtain ⟨a, c, most, x, rfl, _⟩ := h
    rfl
  · obtain ⟨a, c, most, x, rfl, ha, hm2, hm5, hx1, hx4, k⟩ := h
    refine ⟨_, PSs.nox (pss_cons (ps_set (i := 3) sc_L_picture.nd rfl (.inl rfl) (pe_op op_add pe_int (C8.pe_c (c_L_take) hr (by omega) (by rfl) (pa_cons (pv 0) (pa_cons (pe_op op_sub (pv 1) pe_int) pa_nil)))))
      (pss_one (ps_ret (pe_lst (pa_cons (pe_lc (own := [("_law_cell", 4)]) (g := gName 4) (by rfl) sc_L_picture.nd (pi_range1 (by rfl) T.f_range (pa_cons (pv 3) pa_nil)) (blkOk_by (own := [("_law_cell", 4)]) (N := ["_law_hand_here", "_law_most", "_law_wanted", "_law_many", "_law_cell"]) (sc := defScope s_L_picture) (by decide +kernel)) (fun _ _ _ _ _ => (pg_name (i := 4) sc_L_picture.nd rfl (.inl rfl))) (fun _ _ _ _ _ => pts_nil) (fun _ _ _ _ _ => (C8.pe_c (c_L_colour) hr (by omega) (by rfl) (pa_cons (pv 0) pa_nil)))) (pa_cons (C8.pe_c (c_L_ties) hr (by omega) (by rfl) (pa_cons (pv 0) (pa_cons (pv 3) pa_nil))) (pa_cons (C8.pe_c (c_L_marks) hr (by omega) (by rfl) (pa_cons (pv 0) (pa_cons (pv 3) (pa_cons (pv 2) pa_nil)))) pa_nil))))))), ?_⟩
    try dsimp only [cxOf]
    walk_at "WK"
    refine r_take ha (by omega) (by omega) fun H1 r s1 h1 hr1 => ?_
    refine r_i0 ?_
    rw [show (2 : Int) + (r : Int) = ((2 + r : Nat) : Int) by omega]
    obtain ⟨n, hn⟩ : ∃ n : Nat, n = 2 + r := ⟨_, rfl⟩
    rw [← hn]
    walk_at "WK"
    refine r_ir1k (by omega) (by omega) ?_
    rw [Int.toNat_natCast]
    refine lc_R (fun D i H' => Same (dr H a) H' ∧ Hand H' a c ∧ D ≠ a ∧ D ≠ c ∧ dr H a D = none ∧ ∃ cols, LN H' D cols ∧ cols.length = i ∧ ∀ v ∈ cols, v ≤ 99) (fun D hD => ⟨s1.trans (same_new hD), h1.ext (same_new hD), (h1.fresh hD).1, (h1.fresh hD).2, s1.free hD, [], upd_same, rfl, fun _ z => by cases z⟩) ?_ ?_
    · rintro D i H' hi ⟨s2, h2, na, nc, nD, cols, hD, hl, h9⟩
      walk_at "WK"
      refine r_col h2 fun H3 v s3 h3 hv => ?_
      have hD3 : LN H3 D cols := s3 _ _ ((dr_ne na).trans hD)
      refine r_eltk hD3 (lt_sz (by rw [vN_len]; omega)) ?_
      rw [vN_app]
      refine ⟨same_of (dr_then s2 s3) nD, h3.upd na nc, na, nc, nD, cols ++ [v], upd_same, by rw [List.length_append, List.length_singleton, hl], fun u hu => ?_⟩
      rcases List.mem_append.mp hu with z | z
      · exact h9 u z
      · rw [List.mem_singleton.mp z]
        exact hv
    · rintro D H2 ⟨s2, h2, na, nc, nD, cols, hD, hl, h9⟩
      have hD2 : LN (dr H2 a) D cols := (dr_ne na).trans hD
      walk_at "WK"
      refine r_ties h2 (by omega) (by omega) fun H3 t ts ps s3 h3 ht hts hpl hpv => ?_
      have d3 := dr_dr s3
      have hD3 := d3 _ _ hD2
      walk_at "WK"
      refine r_mks h3 (by omega) (by omega) hx1 (by omega) fun H4 m ms s4 h4 hms hnd hml hm1 hmx => ?_
      have d4 := dr_dr s4
      walk_at "WK"
      intro q hq
      have sq := same_new hq (o := .lst [.ref D, .ref t, .ref m])
      have dq : Same (dr H4 a) (dr (upd H4 q (.lst [.ref D, .ref t, .ref m])) a) := dr_mono sq
      refine k _ q D t m ts cols ps ms ((dr_then (dr_then s2 s3) s4).trans sq) (h4.ext sq) ⟨(dr_ne (h4.fresh hq).1).trans upd_same, dq _ _ (d4 _ _ hD3), dq _ _ (d4 _ _ ht), CpT.ext (CpT.ext hts d4) dq, dq _ _ hms, by omega, h9, hpl, fun p hp => ?_, hnd, fun v hv => ?_, hm1⟩ (by omega) hmx
      · have := hpv p hp
        omega
      · have := hml v hv
        omega
theorem sc_L_wish : FnScope ["_law_hand_here", "_law_cells", "_law_marks_here", "_law_kind", "_law_one"] ["_law_hand_here", "_law_cells", "_law_marks_here"] (defScope s_L_wish) := ⟨rfl, rfl, rfl, by decide +kernel, rfl, by decide +kernel, by decide +kernel⟩
theorem mod_ne {o r m : Nat} (ho : o < m) (hr : r + 1 < m) : (o + 1 + r) % m < m ∧ (o + 1 + r) % m ≠ o := by
  refine ⟨Nat.mod_lt _ (by omega), ?_⟩
  rcases Nat.lt_or_ge (o + 1 + r) m with z | z
  · rw [Nat.mod_eq_of_lt z]
    omega
  · rw [Nat.mod_eq_sub_mod z, Nat.mod_eq_of_lt (by omega)]
    omega
def sp_wsh : Sp := fun vs H Q _ => ∃ (a c : Addr) (n m : Nat), vs = [.ref a, .int (n : Int), .int (m : Int)] ∧ Hand H a c ∧ 1 ≤ n ∧ n ≤ 1000 ∧ 1 ≤ m ∧ m ≤ 1000 ∧ ∀ H' q wd, Same (dr H a) H' → Hand H' a c → dr H' a q = some (.tup (wishV wd)) → (∀ d : PicD, d.col.length = n → d.mks.length = m → WishG d wd) → Q (.ref q) H'
theorem ok_wish (T : TX K mg) : C8.Cal P w K mg base 4 "_law_wish" sp_wsh [] := by
  have c_L_take := ok_take (P := P) (w := w) (base := base) T
  have c_L_colour := ok_colour (P := P) (w := w) (base := base) T
  obtain ⟨fd, F⟩ := T.F_L_wish
  refine ⟨_, fd, ["_law_hand_here", "_law_cells", "_law_marks_here"], [], ?_, T.g_L_wish, F.kp, (F.bindsN (fun _ _ _ _ _ _ us hl => match us, hl with | [_, _, _], _ => rfl)), .nil⟩
  refine F.ok sc_L_wish (fun vs H Q E h => ?_) (fun cdv A outer s H vs Q E hr h => ?_)
  · obtain ⟨a, c, n, m, rfl, _⟩ := h
    rfl
  · obtain ⟨a, c, n, m, rfl, ha, hn1, hn, hm1, hm, k⟩ := h
    refine ⟨_, PSs.nox (pss_cons (ps_set (i := 3) sc_L_wish.nd rfl (.inl rfl) (C8.pe_c (c_L_take) hr (by omega) (by rfl) (pa_cons (pv 0) (pa_cons pe_int pa_nil))))
      (pss_cons (ps_if (PW.pt (pw_and (pt_cmpR op_lt (pv 3) pe_int (nomark _)) (pw_and1 (pt_cmpR op_gt (pv 2) pe_int (nomark _))))) (pss_cons (ps_set (i := 4) sc_L_wish.nd rfl (.inl rfl) (C8.pe_c (c_L_take) hr (by omega) (by rfl) (pa_cons (pv 0) (pa_cons (pv 2) pa_nil))))
      (pss_one (ps_ret (pe_tup (pa_cons pe_str (pa_cons (pv 4) (pa_cons (pe_op op_mod (pe_callTy call_int1K (by rfl) T.f_int (by decide +kernel) (pa_cons (pe_op op_add (pe_op op_add (pv 4) pe_int) (C8.pe_c (c_L_take) hr (by omega) (by rfl) (pa_cons (pv 0) (pa_cons (pe_op op_sub (pv 2) pe_int) pa_nil)))) pa_nil)) (pv 2)) pa_nil))))))) pss_nil)
      (pss_cons (ps_if (pt_cmpR op_eq (pv 3) pe_int (nomark _)) (pss_one (ps_ret (pe_tup (pa_cons pe_str (pa_cons (C8.pe_c (c_L_take) hr (by omega) (by rfl) (pa_cons (pv 0) (pa_cons (pv 2) pa_nil))) (pa_cons (C8.pe_c (c_L_colour) hr (by omega) (by rfl) (pa_cons (pv 0) pa_nil)) pa_nil)))))) pss_nil)
      (pss_cons (ps_if (pt_cmpR op_eq (pv 3) pe_int (nomark _)) (pss_one (ps_ret (pe_tup (pa_cons pe_str (pa_cons (C8.pe_c (c_L_take) hr (by omega) (by rfl) (pa_cons (pv 0) (pa_cons (pv 1) pa_nil))) pa_nil))))) pss_nil)
      (pss_one (ps_ret (pe_tup (pa_cons pe_str pa_nil)))))))), ?_⟩
    try dsimp only [cxOf]
    walk_at "WK"
    refine r_take ha (by decide) (by decide) fun H1 r1 s1 h1 hr1 => ?_
    by_cases k2 : (r1 : Int) < 2 ∧ 1 < m
    · obtain ⟨k2, k3⟩ := k2
      walk_at "WK"
      refine r_take h1 (by omega) (by omega) fun H2 o s2 h2 ho => ?_
      walk_at "WK"
      refine r_take h2 (by omega) (by omega) fun H3 r s3 h3 hr3 => ?_
      walk_at "WK"
      refine r_mod (by omega) ?_
      have e : ((o : Int) + 1 + (r : Int)) % (m : Int) = (((o + 1 + r) % m : Nat) : Int) := by
        rw [Int.natCast_emod]
        rfl
      rw [e]
      obtain ⟨g1, g2⟩ := mod_ne (o := o) (r := r) (m := m) (by omega) (by omega)
      generalize (o + 1 + r) % m = b at g1 g2 ⊢
      walk_at "WK"
      intro q hq
      have sq := same_new hq (o := .tup [.str "one", .int (o : Int), .int (b : Int)])
      exact k _ q (.one o b) ((dr_then (dr_then s1 s2) s3).trans sq) (h3.ext sq) ((dr_ne (h3.fresh hq).1).trans upd_same) fun d h1 h2 => ⟨by rw [h2]; omega, by rw [h2]; exact g1, g2.symm⟩
    · have hc5 : ((r1 : Int) < 2 ∧ ¬ 1 < m) ∨ r1 = 2 ∨ r1 = 3 ∨ r1 = 4 := by omega
      rcases hc5 with ⟨k4, k5⟩ | rfl | rfl | rfl
      · have n2 : decide (V.int (r1 : Int) = V.int 2) = false := decide_eq_false fun z => by have := V.int.inj z; omega
        have n3 : decide (V.int (r1 : Int) = V.int 3) = false := decide_eq_false fun z => by have := V.int.inj z; omega
        walk_at "WK"
        intro q hq
        have sq := same_new hq (o := .tup [.str "all one"])
        exact k _ q .all (s1.trans sq) (h1.ext sq) ((dr_ne (h1.fresh hq).1).trans upd_same) fun d _ _ => trivial
      · walk_at "WK"
        refine r_take h1 (by omega) (by omega) fun H2 o s2 h2 ho => ?_
        walk_at "WK"
        refine r_col h2 fun H3 v s3 h3 hv => ?_
        walk_at "WK"
        intro q hq
        have sq := same_new hq (o := .tup [.str "colour", .int (o : Int), .int (v : Int)])
        exact k _ q (.col o v) ((dr_then (dr_then s1 s2) s3).trans sq) (h3.ext sq) ((dr_ne (h3.fresh hq).1).trans upd_same) fun d h1 h2 => ⟨by rw [h2]; omega, hv⟩
      · walk_at "WK"
        refine r_take h1 (by omega) (by omega) fun H2 o s2 h2 ho => ?_
        walk_at "WK"
        intro q hq
        have sq := same_new hq (o := .tup [.str "reached", .int (o : Int)])
        exact k _ q (.reach o) ((dr_then s1 s2).trans sq) (h2.ext sq) ((dr_ne (h2.fresh hq).1).trans upd_same) fun d h1 h2 => by show o < d.col.length; rw [h1]; omega
      · walk_at "WK"
        intro q hq
        have sq := same_new hq (o := .tup [.str "all one"])
        exact k _ q .all (s1.trans sq) (h1.ext sq) ((dr_ne (h1.fresh hq).1).trans upd_same) fun d _ _ => trivial
end
end G6
end
section
set_option maxHeartbeats 4000000
set_option Elab.async false
set_option linter.all false
set_option maxRecDepth 100000
/-! A6: zip of two lists, kept under a name, then walked over -/
namespace G6
open PySem PySem.Spec PyProof.Rows L2 PySem.W
section
variable {X : Cx} {pins : List (Addr × Obj)} {σ : L2.St} {H : Hp} {s : Shared} {a : Addr}
theorem fp_upd {c : Addr} {o : HO} (f : FpOk X pins H a) (n : a ≠ c) : FpOk X pins (upd H c o) a := ⟨(upd_ne n).trans f.1, f.2⟩
/-- a thing of ours that stands already is tracked from here on -/
theorem inv_track {φ : Heap → Prop} (I : Inv X pins σ H s) (f : FpOk X pins H a) (hx : X.s_0.heap.objs.size ≤ a) (ok : ObjOk X.prog X.w (upd H a (.ext φ)) s.heap a (.ext φ)) : Inv X pins σ (upd H a (.ext φ)) s := by
  obtain ⟨f0, f1, f2, f3, f4, f5⟩ := f
  have ne : ∀ {b : Addr} {u : HO}, H b = some u → b ≠ a := fun e z => by rw [z, f0] at e; cases e
  have old : ∀ {b : Addr} {o : Obj}, X.s_0.heap.get? b = some o → b ≠ a := fun e => Nat.ne_of_lt (Nat.lt_of_lt_of_le (Heap.lt_size e) hx)
  refine ⟨I.ok, I.os, I.bare, ?_, I.loc, I.cell, (upd_ne f1.symm).trans I.free, fun x c e => (upd_ne (f4 x c e)).trans (I.freeC x c e), fun p hp => ?_, fun b u e => ?_, I.len⟩
  · refine ⟨I.base.keep, I.base.slot, fun b o h1 h2 h3 => (upd_ne (old h1)).trans (I.base.free b o h1 h2 h3), I.base.there, fun b xs e => ?_, fun b o u e => ?_, fun b ps e => ?_⟩
    · have z := I.base.tups b xs e
      exact (upd_ne (ne z)).trans z
    · have z := I.base.frzs b o u e
      exact (upd_ne (ne z)).trans z
    · obtain ⟨m, z⟩ := I.base.tbls b ps e
      exact ⟨m, (upd_ne (ne z)).trans z⟩
  · obtain ⟨h1, h2, h3⟩ := I.pin p hp
    exact ⟨h1, (upd_ne (f5 p hp)).trans h2, h3⟩
  · by_cases hb : b = a
    · subst hb
      rw [upd_same] at e
      cases e
      exact ok
    · rw [upd_ne hb] at e
      exact (I.hok b u e).stay (fun _ _ _ z => z) (fun c z => (upd_ne (ne z)).trans z) fun c xs z => (upd_ne (ne z)).trans z
/-- still ours, when it is forgotten -/
theorem fp_of {H1 : Hp} (I : Inv X pins σ H s) {u : HO} (h : H a = some u) (hn : X.s_0.heap.objs.size ≤ a) (h1 : H1 a = none) : FpOk X pins H1 a := by
  obtain ⟨f0, f⟩ := ItX.inv_fp I h hn
  exact ⟨h1, f⟩
end
def zA (i l : Addr) : HO := .ext fun h => h.IsListIter i l 0
def zB (t i1 i2 : Addr) : HO := .ext fun h => IsPair h t (.ref i1) (.ref i2)
def zC (t : Addr) : HO := .ext fun h => ∃ x y, IsPair h t x y
def zD (z t1 t2 : Addr) : HO := .ext fun h => IsZip h z t1 t2 .none
/-- the heap with a zip of a and b at n + 4 -/
def zH (H : Hp) (n a b : Addr) : Hp := upd (upd (upd (upd (upd H n (zA n a)) (n + 1) (zA (n + 1) b)) (n + 2) (zB (n + 2) n (n + 1))) (n + 3) (zC (n + 3))) (n + 4) (zD (n + 4) (n + 2) (n + 3))
theorem nz {n i : Nat} (h : i ≠ 0) : (n + i) ≠ n := by omega
theorem nn {n i j : Nat} (h : i ≠ j) : (n + i : Addr) ≠ n + j := fun e => h (Nat.add_left_cancel e)
/-- z = zip(e, e2) -/
def tZipV (K : PySem.W.Frag) (m : Nat) (ta : TA) : TE := fun σ H Q => ta σ H fun vs H1 => ∃ a b xs ys, vs = [.ref a, .ref b] ∧ SqL K H1 a xs ∧ SqL K H1 b ys ∧ ∀ n : Addr, m ≤ n → a < n → b < n → (∀ j, H1 (n + j) = none) → Q (.ref (n + 4 : Addr)) (zH H1 n a b)
def ZipK (K : PySem.W.Frag) (m : Nat) (Q : VK) (vs : List V) (H1 : Hp) : Prop := ∃ a b xs ys, vs = [.ref a, .ref b] ∧ SqL K H1 a xs ∧ SqL K H1 b ys ∧ ∀ n : Addr, m ≤ n → a < n → b < n → (∀ j, H1 (n + j) = none) → Q (.ref (n + 4 : Addr)) (zH H1 n a b)
theorem r_zipv {K : PySem.W.Frag} {m : Nat} {ta : TA} {σ : L2.St} {H : Hp} {Q : VK} (h : ta σ H (ZipK K m Q)) : tZipV K m ta σ H Q := h
theorem r_zipk {K : PySem.W.Frag} {m : Nat} {H : Hp} {Q : VK} {a b : Addr} {xs ys : List V} (hx : H a = some (.lst xs)) (hy : H b = some (.lst ys)) (k : ∀ n : Addr, m ≤ n → a < n → b < n → (∀ j, H (n + j) = none) → Q (.ref (n + 4 : Addr)) (zH H n a b)) : ZipK K m Q [.ref a, .ref b] H := ⟨a, b, xs, ys, rfl, .of hx, .of hy, k⟩
theorem iter_ok {P : Program} {w : World} {H : Hp} {h : Heap} {i l : Addr} (e : h.IsListIter i l 0) : ObjOk P w H h i (zA i l) :=
  ⟨e, ⟨_, e.choose_spec.1⟩, fun h1 h2 q st => by
    obtain ⟨o, e1, e2⟩ := q
    exact ⟨o, st o e1, e2⟩⟩
section
variable {X : Cx} {K : PySem.W.Frag} {e e2 : Expr} {ta : TA} {p pos : Pos}
theorem pe_zipv (hK : X.K = K) (hg : Gl X "zip") (hm : X.mg "zip" = none) (ha : PA X [e, e2] ta)
    (hs : starEach [e, e2] X.env = (false, eval e X.env) :: starEach [e2] X.env := by rfl) (hpl : (backTo pos (starEach [e2] X.env)).any (·.1) = false := by rfl) :
    PE X (.Call (.Name "zip" p) [e, e2] [] pos) (tZipV K X.s_0.heap.objs.size ta) := by
  subst hK
  refine ⟨fun pins s σ H Q I h => ?_⟩
  refine Call_ (ld_blt I hg hm PyProof.Rows.boot_zip (PyProof.Rows.callWith_type1 (thn (ha.run pos pins s σ H _ I h) fun us s1 ⟨vs, H1, I1, r1, q1⟩ => ?_) hs hpl))
  obtain ⟨a, b, xs, ys, ex, hqx, hqy, q⟩ := q1
  subst ex
  cases r1 with
  | cons r rr =>
    cases rr with
    | cons r' rr =>
      cases rr
      cases r
      cases r'
      obtain ⟨its, rv, p1, _⟩ := I1.list hqx
      obtain ⟨its2, rv2, p2, _⟩ := I1.list hqy
      have la : a < s1.heap.objs.size := p1.lt
      have lb : b < s1.heap.objs.size := p2.lt
      have fr : ∀ j, H1 (s1.heap.objs.size + j) = none := fun j => I1.hok.fresh (Nat.le_add_right _ _)
      have fp : ∀ j, FpOk X pins H1 (s1.heap.objs.size + j) := fun j => I1.fpOk (Nat.le_add_right _ _) (fr j)
      have sz : ∀ j, X.s_0.heap.objs.size ≤ s1.heap.objs.size + j := fun j => Nat.le_trans I1.sz (Nat.le_add_right _ _)
      have q' := q s1.heap.objs.size I1.sz la lb fr
      generalize hn : s1.heap.objs.size = n at *
      refine call_zip_2 p1.isList p2.isList fun h' hz hTI hTO h1 h2 hsz hk => ?_
      rw [hn] at hz hTI hTO h1 h2 ⊢
      have I2 : Inv X pins σ H1 { s1 with heap := h' } := I1.kept (t' := s1.toks) hk
      have I3 := inv_track (φ := fun h => h.IsListIter n a 0) I2 (fp 0) (sz 0) (iter_ok h1)
      have I4 := inv_track (φ := fun h => h.IsListIter (n + 1) b 0) I3 (fp_upd (fp 1) (nz (by decide) : (n + 1 : Addr) ≠ n)) (sz 1) (iter_ok h2)
      have I5 := inv_track (φ := fun h => IsPair h (n + 2) (.ref n) (.ref (n + 1))) I4 (fp_upd (fp_upd (fp 2) (nz (by decide) : (n + 2 : Addr) ≠ n)) (nn (by decide) : (n + 2 : Addr) ≠ n + 1)) (sz 2) ⟨hTI, ⟨_, hTI⟩, fun _ _ q st => st _ q⟩
      have I6 := inv_track (φ := fun h => ∃ x y, IsPair h (n + 3) x y) I5 (fp_upd (fp_upd (fp_upd (fp 3) (nz (by decide) : (n + 3 : Addr) ≠ n)) (nn (by decide) : (n + 3 : Addr) ≠ n + 1)) (nn (by decide) : (n + 3 : Addr) ≠ n + 2)) (sz 3) ⟨⟨_, _, hTO⟩, ⟨_, hTO⟩, fun _ _ q st => by
        obtain ⟨x, y, q⟩ := q
        exact ⟨x, y, st _ q⟩⟩
      have I7 := inv_track (φ := fun h => IsZip h (n + 4) (n + 2) (n + 3) .none) I6 (fp_upd (fp_upd (fp_upd (fp_upd (fp 4) (nz (by decide) : (n + 4 : Addr) ≠ n)) (nn (by decide) : (n + 4 : Addr) ≠ n + 1)) (nn (by decide) : (n + 4 : Addr) ≠ n + 2)) (nn (by decide) : (n + 4 : Addr) ≠ n + 3)) (sz 4) ⟨hz, ⟨_, hz⟩, fun _ _ q st => st _ q⟩
      exact ⟨V.ref (n + 4 : Addr), _, I7, rfl, q'⟩
/-- for x, y in z, z a name that holds a zip -/
def iZipV (K : PySem.W.Frag) (m k : Nat) : TI := fun σ H R => ∃ (n a b : Addr) (H1 : Hp) (xs ys : List V), σ[k]? = some (some (.ref (n + 4 : Addr))) ∧ H = zH H1 n a b ∧ m ≤ n ∧ a < n ∧ b < n ∧ (∀ j, H1 (n + j) = none) ∧ SqL K H1 a xs ∧ SqL K H1 b ys ∧ R (Itz K a b) H1
variable {elts : List Expr} {kk k : Nat} {tpos : Pos} {x : Str}
theorem pi_zipv (hK : X.K = K) (hN : X.N[k]? = some x) (hv : Vis X.env.scope x) (hd : (x == ("__debug__" : Str)) = false := by decide) (hcd : (x == ("__classdict__" : Str)) = false := by decide) : PI X (.Tuple elts kk tpos) (.Name x p) (iZipV K X.s_0.heap.objs.size k) := by
  subst hK
  refine ⟨fun pins s σ H R I h => ?_⟩
  obtain ⟨n, a, b, H1, xs, ys, hs, rfl, hm, la, lb, fr, hqx, hqy, q⟩ := h
  refine thn ((pe_var (pos := p) (i := k) hN hv hd hcd).run pins s σ _ (fun v H2 => v = .ref (n + 4 : Addr) ∧ H2 = zH H1 n a b) I ⟨.ref (n + 4 : Addr), hs, rfl, rfl⟩) fun u s1 ⟨v, H2, I1, r1, ev, eH⟩ => ?_
  subst ev
  subst eH
  cases r1
  have g4 : zH H1 n a b (n + 4) = some (zD (n + 4) (n + 2) (n + 3)) := upd_same
  have g3 : zH H1 n a b (n + 3) = some (zC (n + 3)) := (upd_ne (nn (by decide) : (n + 3 : Addr) ≠ n + 4)).trans upd_same
  have g2 : zH H1 n a b (n + 2) = some (zB (n + 2) n (n + 1)) := (upd_ne (nn (by decide) : (n + 2 : Addr) ≠ n + 4)).trans ((upd_ne (nn (by decide) : (n + 2 : Addr) ≠ n + 3)).trans upd_same)
  have g1 : zH H1 n a b (n + 1) = some (zA (n + 1) b) := (upd_ne (nn (by decide) : (n + 1 : Addr) ≠ n + 4)).trans ((upd_ne (nn (by decide) : (n + 1 : Addr) ≠ n + 3)).trans ((upd_ne (nn (by decide) : (n + 1 : Addr) ≠ n + 2)).trans upd_same))
  have g0 : zH H1 n a b n = some (zA n a) := (upd_ne (nz (by decide) : (n + 4 : Addr) ≠ n).symm).trans ((upd_ne (nz (by decide) : (n + 3 : Addr) ≠ n).symm).trans ((upd_ne (nz (by decide) : (n + 2 : Addr) ≠ n).symm).trans ((upd_ne (nz (by decide) : (n + 1 : Addr) ≠ n).symm).trans upd_same)))
  have z4 : IsZip s1.heap (n + 4) (n + 2) (n + 3) .none := (show ObjOk X.prog X.w _ s1.heap (n + 4) (zD (n + 4) (n + 2) (n + 3)) from I1.hok _ _ g4).1
  have z3 : ∃ x y, IsPair s1.heap (n + 3) x y := (show ObjOk X.prog X.w _ s1.heap (n + 3) (zC (n + 3)) from I1.hok _ _ g3).1
  have z2 : IsPair s1.heap (n + 2) (.ref n) (.ref (n + 1)) := (show ObjOk X.prog X.w _ s1.heap (n + 2) (zB (n + 2) n (n + 1)) from I1.hok _ _ g2).1
  have z1 : s1.heap.IsListIter (n + 1) b 0 := (show ObjOk X.prog X.w _ s1.heap (n + 1) (zA (n + 1) b) from I1.hok _ _ g1).1
  have z0 : s1.heap.IsListIter n a 0 := (show ObjOk X.prog X.w _ s1.heap n (zA n a) from I1.hok _ _ g0).1
  have f0 := fp_of (H1 := H1) I1 g0 hm (fr 0)
  have f1 := fp_of (H1 := H1) I1 g1 (Nat.le_trans hm (Nat.le_add_right _ _)) (fr 1)
  have f2 := fp_of (H1 := H1) I1 g2 (Nat.le_trans hm (Nat.le_add_right _ _)) (fr 2)
  have f3 := fp_of (H1 := H1) I1 g3 (Nat.le_trans hm (Nat.le_add_right _ _)) (fr 3)
  have f4 := fp_of (H1 := H1) I1 g4 (Nat.le_trans hm (Nat.le_add_right _ _)) (fr 4)
  have J1 := ItX.inv_drop I1 g4
  have e1 : ItX.dropH (zH H1 n a b) (n + 4) = upd (upd (upd (upd H1 n (zA n a)) (n + 1) (zA (n + 1) b)) (n + 2) (zB (n + 2) n (n + 1))) (n + 3) (zC (n + 3)) :=
    ItX.dropH_upd ((upd_ne (nn (by decide) : (n + 4 : Addr) ≠ n + 3)).trans ((upd_ne (nn (by decide) : (n + 4 : Addr) ≠ n + 2)).trans ((upd_ne (nn (by decide) : (n + 4 : Addr) ≠ n + 1)).trans ((upd_ne (nz (by decide) : (n + 4 : Addr) ≠ n)).trans (fr 4)))))
  rw [e1] at J1
  have J2 := ItX.inv_drop (a := n + 3) J1 upd_same
  rw [ItX.dropH_upd ((upd_ne (nn (by decide) : (n + 3 : Addr) ≠ n + 2)).trans ((upd_ne (nn (by decide) : (n + 3 : Addr) ≠ n + 1)).trans ((upd_ne (nz (by decide) : (n + 3 : Addr) ≠ n)).trans (fr 3))))] at J2
  have J3 := ItX.inv_drop (a := n + 2) J2 upd_same
  rw [ItX.dropH_upd ((upd_ne (nn (by decide) : (n + 2 : Addr) ≠ n + 1)).trans ((upd_ne (nz (by decide) : (n + 2 : Addr) ≠ n)).trans (fr 2)))] at J3
  have J4 := ItX.inv_drop (a := n + 1) J3 upd_same
  rw [ItX.dropH_upd ((upd_ne (nz (by decide) : (n + 1 : Addr) ≠ n)).trans (fr 1))] at J4
  have J5 := ItX.inv_drop (a := n) J4 upd_same
  rw [ItX.dropH_upd (show H1 n = none from fr 0)] at J5
  refine wpAny_pyIter_zip z4 ?_
  refine ⟨n + 4, [n + 4, n + 2, n + 3, n, n + 1], _, _, H1, rfl, J5, turn_zip (PySem.W.ktu_apart n a b la lb), ⟨z4, z2, z3, z0, z1⟩, fun c hcm => ?_, q⟩
  have e' : c = n + 4 ∨ c = n + 2 ∨ c = n + 3 ∨ c = n ∨ c = n + 1 := by simpa using hcm
  rcases e' with z | z | z | z | z
  · rw [z]; exact f4
  · rw [z]; exact f2
  · rw [z]; exact f3
  · rw [z]; exact f0
  · rw [z]; exact f1
end
end G6
end
local macro_rules | `(tactic| walk_at "W1") => `(tactic| ((with_reducible apply G6.r_zipv)))
section
set_option maxHeartbeats 4000000
set_option Elab.async false
set_option linter.all false
set_option maxRecDepth 100000
/-! F0: dicts whose keys are states or turns -/
namespace G6
open PySem PySem.Spec PyProof.Rows L2 PySem.W
theorem lt_szM {n : Nat} (h : n ≤ 1000000) : n < sizeLine := Nat.lt_of_le_of_lt h (by decide)
/-- a way to write keys as tuples -/
structure KeyF (κ : Type) where
  f : κ → List NestedKey
  inj : ∀ a b, f a = f b → a = b
  dp : ∀ k, (NestedKey.tup (f k)).depth ≤ 8
def KeyF.k {κ : Type} (F : KeyF κ) (k : κ) : NestedKey := .tup (F.f k)
theorem KeyF.kinj {κ : Type} (F : KeyF κ) {a b : κ} (h : F.k a = F.k b) : a = b := F.inj _ _ (NestedKey.tup.inj h)
/-! states -/
def stK (st : List Nat) : List NestedKey := st.map fun n : Nat => .num (n : Int)
theorem stK_inj : ∀ a b : List Nat, stK a = stK b → a = b
  | [], [], _ => rfl
  | [], _ :: _, h => by cases h
  | _ :: _, [], h => by cases h
  | x :: a, y :: b, h => by
    obtain ⟨h1, h2⟩ := List.cons.inj h
    have e := NestedKey.num.inj h1
    rw [stK_inj a b h2]
    congr 1
    omega
theorem stK_dp : ∀ st : List Nat, NestedKey.depthAll (stK st) = 0
  | [] => by simp [stK, NestedKey.depthAll]
  | x :: st => by
    have := stK_dp st
    show NestedKey.depthAll (.num (x : Int) :: stK st) = 0
    simp [NestedKey.depthAll, NestedKey.depth, this]
def KS : KeyF (List Nat) := ⟨stK, stK_inj, fun k => by rw [NestedKey.depth, stK_dp]; omega⟩
/-! turns: a state and a hand -/
def tnK (t : List Nat × Nat) : List NestedKey := [.tup (stK t.1), .num (t.2 : Int)]
def KT : KeyF (List Nat × Nat) := ⟨tnK, fun a b h => by
    unfold tnK at h
    simp only [List.cons.injEq, NestedKey.tup.injEq, NestedKey.num.injEq, and_true] at h
    exact Prod.ext (stK_inj _ _ h.1) (by omega), fun k => by
    unfold tnK
    rw [NestedKey.depth]
    simp [NestedKey.depthAll, NestedKey.depth, stK_dp]⟩
theorem rpa_st {H : Hp} : ∀ st : List Nat, RpAll H (stK st) (vN st)
  | [] => rpa_nil.mpr rfl
  | x :: st => rpa_cons.mpr ⟨_, _, rfl, rp_num.mpr rfl, rpa_st st⟩
theorem rpa_st' {H : Hp} : ∀ (st : List Nat) (vs : List V), RpAll H (stK st) vs → vs = vN st
  | [], vs, h => rpa_nil.mp h
  | x :: st, vs, h => by
    obtain ⟨y, r, rfl, hy, hr⟩ := rpa_cons.mp h
    rw [rp_num.mp hy, rpa_st' st r hr]
    rfl
theorem rp_st {H : Hp} {a : Addr} {st : List Nat} (h : TN H a st) : Rp H (KS.k st) (.ref a) := rp_tup.mpr ⟨a, _, rfl, h, rpa_st st⟩
theorem rp_st' {H : Hp} {a : Addr} {st : List Nat} (h : Rp H (KS.k st) (.ref a)) : TN H a st := by
  obtain ⟨b, vs, e, h1, h2⟩ := rp_tup.mp h
  cases e
  rw [rpa_st' st vs h2] at h1
  exact h1
/-- a turn at an address -/
def TT2 (H : Hp) (t : Addr) (k : List Nat × Nat) : Prop := ∃ a, H t = some (.tup [.ref a, .int (k.2 : Int)]) ∧ TN H a k.1
theorem TT2.extT {H H' : Hp} {t : Addr} {k : List Nat × Nat} (h : TT2 H t k) (s : TupSame H H') : TT2 H' t k := by
  obtain ⟨a, h1, h2⟩ := h
  exact ⟨a, s _ _ h1, s _ _ h2⟩
theorem TT2.ext {H H' : Hp} {t : Addr} {k : List Nat × Nat} (h : TT2 H t k) (s : Same H H') : TT2 H' t k := h.extT (Same.tups s)
theorem rp_tn {H : Hp} {t : Addr} {k : List Nat × Nat} (h : TT2 H t k) : Rp H (KT.k k) (.ref t) := by
  obtain ⟨a, h1, h2⟩ := h
  exact rp_tup.mpr ⟨t, _, rfl, h1, rpa_cons.mpr ⟨_, _, rfl, rp_st h2, rpa_cons.mpr ⟨_, _, rfl, rp_num.mpr rfl, rpa_nil.mpr rfl⟩⟩⟩
theorem rp_tn' {H : Hp} {t : Addr} {k : List Nat × Nat} (h : Rp H (KT.k k) (.ref t)) : TT2 H t k := by
  obtain ⟨b, vs, e, h1, h2⟩ := rp_tup.mp h
  cases e
  obtain ⟨x, r, rfl, hx, h3⟩ := rpa_cons.mp h2
  obtain ⟨y, r2, rfl, hy, h4⟩ := rpa_cons.mp h3
  obtain ⟨c, vs2, e2, h5, h6⟩ := rp_tup.mp hx
  subst e2
  rw [rp_num.mp hy, rpa_nil.mp h4] at h1
  exact ⟨c, h1, by rw [rpa_st' _ _ h6] at h5; exact h5⟩
/-! the dict, told by its keys and values -/
section
variable {κ : Type} [DecidableEq κ]
theorem valV_inj {β : Type} [DecidableEq β] (f : κ → β) (hf : ∀ a b, f a = f b → a = b) (k : κ) : ∀ g : List (κ × V), valV (g.map fun p => (f p.1, p.2)) (f k) = valV g k
  | [] => rfl
  | p :: g => by
    have ih := valV_inj f hf k g
    unfold valV at ih ⊢
    by_cases h : p.1 = k
    · simp [List.find?_cons, h]
    · have h2 : ¬ f p.1 = f k := fun z => h (hf _ _ z)
      simp only [List.map_cons, List.find?_cons, decide_eq_false h, decide_eq_false h2]
      exact ih
theorem putK_inj {β : Type} [DecidableEq β] (f : κ → β) (hf : ∀ a b, f a = f b → a = b) (g : List (κ × V)) (k : κ) (v : V) : putK (g.map fun p => (f p.1, p.2)) (f k) v = (putK g k v).map fun p => (f p.1, p.2) := by
  unfold putK
  rw [valV_any, valV_any, valV_inj f hf]
  by_cases h : (valV g k).isSome = true
  · rw [if_pos h, if_pos h, List.map_map, List.map_map]
    refine List.map_congr_left fun p _ => ?_
    show (if f p.1 = f k then _ else _) = _
    by_cases e : p.1 = k
    · simp [e]
    · have e2 : ¬ f p.1 = f k := fun z => e (hf _ _ z)
      simp [e, e2]
  · rw [if_neg h, if_neg h, List.map_append]
    rfl
def GD (w : World) (F : KeyF κ) (H : Hp) (a : Addr) (g : List (κ × V)) : Prop := ∃ xs ep, DN w H a xs ep ∧ kvx xs = g.map fun p => (F.k p.1, p.2)
variable {w : World} {F : KeyF κ} {H H' : Hp} {a : Addr} {g : List (κ × V)} {Q : VK} {v y : V} {k : κ} {σ : L2.St} {D : Ends}
theorem GD.same (d : GD w F H a g) (s : Same H H') : GD w F H' a g := by
  obtain ⟨xs, ep, h1, h2⟩ := d
  exact ⟨xs, ep, h1.same s, h2⟩
theorem GD.ext (d : GD w F H a g) (e : H' a = H a) (t : TupSame H H') : GD w F H' a g := by
  obtain ⟨xs, ep, h1, h2⟩ := d
  exact ⟨xs, ep, h1.ext e t, h2⟩
theorem GD.at_ (d : GD w F H a g) : ∃ φ, H a = some (.ext φ) := by
  obtain ⟨xs, ep, h1, h2⟩ := d
  exact ⟨_, h1.at_⟩
theorem GD.neL (d : GD w F H a g) {b : Addr} {xs : List V} (h : H b = some (.lst xs)) : b ≠ a := fun z => by
  obtain ⟨φ, e⟩ := d.at_
  rw [z, e] at h
  cases h
theorem GD.neT (d : GD w F H a g) {b : Addr} {xs : List V} (h : H b = some (.tup xs)) : b ≠ a := fun z => by
  obtain ⟨φ, e⟩ := d.at_
  rw [z, e] at h
  cases h
theorem GD.neI (d : GD w F H a g) {b C dx : Addr} {fs : List (Str × V)} (h : H b = some (.ins C dx fs)) : b ≠ a := fun z => by
  obtain ⟨φ, e⟩ := d.at_
  rw [z, e] at h
  cases h
theorem GD.neN (d : GD w F H a g) {b : Addr} (h : H b = none) : b ≠ a := fun z => by
  obtain ⟨φ, e⟩ := d.at_
  rw [z, e] at h
  cases h
/-- another object is changed -/
theorem GD.keep (d : GD w F H a g) {b : Addr} {o : HO} (n : b ≠ a) (t : ∀ vs, H b ≠ some (.tup vs)) : GD w F (upd H b o) a g := d.ext (upd_ne n.symm) (TupSame.mut t)
theorem GD.keepL (d : GD w F H a g) {b : Addr} {xs : List V} {o : HO} (h : H b = some (.lst xs)) : GD w F (upd H b o) a g := d.keep (d.neL h) fun vs e => by rw [h] at e; cases e
theorem GD.val (d : GD w F H a g) : ∃ xs ep, DN w H a xs ep ∧ ∀ k, valV (kvx xs) (F.k k) = valV g k := by
  obtain ⟨xs, ep, h1, h2⟩ := d
  exact ⟨xs, ep, h1, fun k => by rw [h2]; exact valV_inj F.k (fun _ _ => F.kinj) k g⟩
theorem GD.nd (d : GD w F H a g) : (g.map (·.1)).Nodup := by
  obtain ⟨xs, ep, h1, h2⟩ := d
  have e : xs.map (·.1) = (g.map (·.1)).map F.k := by
    have := congrArg (List.map Prod.fst) h2
    unfold kvx at this
    rw [List.map_map, List.map_map] at this
    rw [List.map_map]
    exact this
  have n := h1.nd
  rw [e] at n
  exact List.Pairwise.of_map F.k (fun _ _ h z => h (by rw [z])) n
theorem GD.len (d : GD w F H a g) : g.length ≤ sizeLine := by
  obtain ⟨xs, ep, h1, h2⟩ := d
  have := congrArg List.length h2
  unfold kvx at this
  rw [List.length_map, List.length_map] at this
  rw [← this]
  exact h1.le
/-- what the readings ask -/
theorem r_inG (d : GD w F H a g) (hk : Rp H (F.k k) y) (q : Q (.bl (valV g k).isSome) H) : rInN w y (.ref a) H Q := by
  obtain ⟨xs, ep, h1, h2⟩ := d.val
  exact r_inN h1 hk (F.dp k) (by rw [show NestedKey.tup (F.f k) = F.k k from rfl, h2]; exact q)
theorem r_ninG (d : GD w F H a g) (hk : Rp H (F.k k) y) (q : Q (.bl (!(valV g k).isSome)) H) : rNotInN w y (.ref a) H Q := by
  obtain ⟨xs, ep, h1, h2⟩ := d.val
  exact r_ninN h1 hk (F.dp k) (by rw [show NestedKey.tup (F.f k) = F.k k from rfl, h2]; exact q)
def NGetK (w : World) (Q : VK) (x y : V) (H2 : Hp) : Prop := ∃ (a : Addr) (v : V), x = .ref a ∧ NGet w H2 a y (some v) ∧ Q v H2
theorem r_nget {td ty : TE} (h : td σ H fun x H1 => ty σ H1 fun y H2 => NGetK w Q x y H2) : tNGet w td ty σ H Q := h
theorem r_ngetG (d : GD w F H a g) (hk : Rp H (F.k k) y) (e : valV g k = some v) (q : Q v H) : NGetK w Q (.ref a) y H := by
  obtain ⟨xs, ep, h1, h2⟩ := d.val
  exact ⟨a, v, rfl, ⟨xs, ep, F.f k, h1, hk, F.dp k, by rw [show NestedKey.tup (F.f k) = F.k k from rfl, h2, e]⟩, q⟩
theorem GD.put {b : Addr} {q : Hp → Prop} (d : GD w F H a g) (hk : Rp H (F.k k) (.ref b)) (hl : g.length < sizeLine)
    (c : ∀ o', GD w F (upd H a o') a (putK g k v) → TupSame H (upd H a o') → q (upd H a o')) : NPut w H a (.ref b) v q := by
  obtain ⟨xs, ep, h1, h2⟩ := d
  have hlen : xs.length = g.length := by
    have := congrArg List.length h2
    unfold kvx at this
    rw [List.length_map, List.length_map] at this
    exact this
  refine ⟨xs, ep, F.f k, b, h1, rfl, hk, F.dp k, by omega, fun ep' h3 => c _ ⟨_, ep', h3, ?_⟩ (TupSame.mut h1.notup)⟩
  rw [kvx_putX, h2]
  exact putK_inj F.k (fun _ _ => F.kinj) g k v
theorem r_setG {b : Addr} {q : Hp → Prop} (d : GD w F H a g) (hk : Rp H (F.k k) (.ref b)) (hl : g.length < sizeLine)
    (c : ∀ o', GD w F (upd H a o') a (putK g k v) → TupSame H (upd H a o') → q (upd H a o')) : setN w (.ref a) (.ref b) v H q := ⟨a, rfl, d.put hk hl c⟩
theorem r_putG {b : Addr} {Nx : Hp → Prop} {z : V} (d : GD w F H a g) (hk : Rp H (F.k k) (.ref b)) (hl : g.length < sizeLine)
    (c : ∀ o', GD w F (upd H a o') a (putK g k z) → TupSame H (upd H a o') → Nx (upd H a o')) : PutK w a (.ref b) Nx z H := d.put hk hl c
theorem GD.nil (d : DN w H a [] 0) : GD w F H a [] := ⟨[], 0, d, rfl⟩
theorem r_newG (F : KeyF κ) (h : ∀ p o, H p = none → GD w F (upd H p o) p [] → Q (.ref p) (upd H p o)) : tNNew w σ H Q := fun p hp d => h p _ hp (GD.nil d)
/-- {k: v} -/
def NOneK (w : World) (p : Addr) (Q : VK) (y v : V) (H2 : Hp) : Prop := H2 p = some (dN w p [] 0) ∧ NPut w H2 p y v fun H3 => Q (.ref p) H3
theorem r_none {tk tv : TE} (h : ∀ p, H p = none → DN w (upd H p (dN w p [] 0)) p [] 0 → tk σ (upd H p (dN w p [] 0)) fun y H1 => tv σ H1 fun v H2 => NOneK w p Q y v H2) : tNOne w tk tv σ H Q := h
theorem r_noneG {p b : Addr} (d : DN w H p [] 0) (hk : Rp H (F.k k) (.ref b)) (c : ∀ o', GD w F (upd H p o') p [(k, v)] → TupSame H (upd H p o') → Q (.ref p) (upd H p o')) : NOneK w p Q (.ref b) v H :=
  ⟨d.at_, (GD.nil (F := F) d).put hk (by show 0 < sizeLine; decide) c⟩
/-- walks over its keys -/
theorem walk_G (d : GD w F H a g) : ∃ xs ep, DN w H a xs ep ∧ xs.length = g.length ∧ ∀ {i : Nat} {k : κ} {v : V}, g[i]? = some (k, v) → ∃ z, xs[i]? = some z ∧ z.1 = F.k k ∧ z.2.2 = v := by
  obtain ⟨xs, ep, h1, h2⟩ := d
  refine ⟨xs, ep, h1, ?_, fun {i k v} e => ?_⟩
  · have := congrArg List.length h2
    unfold kvx at this
    rw [List.length_map, List.length_map] at this
    exact this
  · have e2 : (kvx xs)[i]? = some (F.k k, v) := by rw [h2, List.getElem?_map, e]; rfl
    unfold kvx at e2
    rw [List.getElem?_map] at e2
    obtain ⟨z, hz, ez⟩ := Option.map_eq_some_iff.mp e2
    exact ⟨z, hz, congrArg Prod.fst ez, congrArg Prod.snd ez⟩
/-- the dict as it stands is the one that was walked over -/
def GDx (w : World) (H : Hp) (a : Addr) (xs : DX) (ep : Nat) : Prop := DN w H a xs ep
def INK (w : World) (R : It → Hp → Prop) : VK := fun x H1 => ∃ d xs ep, x = .ref d ∧ DN w H1 d xs ep ∧ R (ItN w d xs ep) H1
variable {R : It → Hp → Prop} {gg : TG} {tb : TS}
theorem r_in {td : TE} (h : td σ H (INK w R)) : iN w td σ H R := h
theorem r_ink {xs : DX} {ep : Nat} (d : DN w H a xs ep) (h : R (ItN w a xs ep) H) : INK w R (.ref a) H := ⟨a, xs, ep, rfl, d, h⟩
theorem for_N {xs : DX} {ep : Nat} (Pv : Nat → L2.St → Hp → Prop) (h0 : Pv 0 σ H) (hG : ∀ i σ H, i ≤ xs.length → Pv i σ H → DN w H a xs ep)
    (hs : ∀ i z σ H, xs[i]? = some z → Pv i σ H → gg (.ref z.2.1) σ H fun σ2 H2 => tb { D with nx := Pv (i + 1), ct := Pv (i + 1), bk := D.nx } σ2 H2) (hd : ∀ σ H, Pv xs.length σ H → D.nx σ H) : ForK gg tb D σ (ItN w a xs ep) H :=
  for_it walk_N Pv h0 hG (fun i x σ H H' hi p y => by obtain ⟨rfl, z, hz, rfl⟩ := y; exact hs i z σ _ hz p) hd
variable {tt : TT} {te : TE} {vs : List Nat}
theorem lc_N {xs : DX} {ep : Nat} (Pv : Addr → Nat → Hp → Prop) (h0 : ∀ D, H D = none → Pv D 0 (upd H D (.lst []))) (hG : ∀ D i H, i ≤ xs.length → Pv D i H → DN w H a xs ep)
    (hs : ∀ D i z H, xs[i]? = some z → Pv D i H → gg (.ref z.2.1) (wipe σ vs) H (TurnK tt te vs σ D (Pv D (i + 1)))) (hd : ∀ D H, Pv D xs.length H → Q (.ref D) H) : LcK gg tt te vs σ Q (ItN w a xs ep) H :=
  lc_J walk_N Pv h0 hG (fun D i x H H' hi p y => by obtain ⟨rfl, z, hz, rfl⟩ := y; exact hs D i z _ hz p) hd
end
end G6
end
local macro_rules | `(tactic| walk_at "W1") => `(tactic| ((with_reducible apply G6.r_none)))
local macro_rules | `(tactic| walk_at "W1") => `(tactic| ((with_reducible apply G6.r_in)))
local macro_rules | `(tactic| walk_at "W1") => `(tactic| ((with_reducible apply G6.r_nget)))
section
set_option maxHeartbeats 4000000
set_option Elab.async false
set_option linter.all false
set_option maxRecDepth 100000
namespace G6
open PySem PySem.Spec PyProof.Rows L2 PySem.W
/-- the states behind one pour each -/
def mvs (F : FoldD) (ps : List (Nat × Nat)) (st : List Nat) : List (List Nat) := ps.map fun p => spread F st (F.homes.getD p.1 0) p.2
def SuccV (H : Hp) (R : Addr) (v : V) (ss : List (List Nat)) : Prop := ∃ (L : Addr) (as : List Addr), v = .ref L ∧ L ≠ R ∧ H L = some (.lst (refs as)) ∧ All2 (fun a st => TN H a st) as ss
theorem SuccV.ext {H H' : Hp} {R : Addr} {v : V} {ss : List (List Nat)} (h : SuccV H R v ss) (s : Same H H') : SuccV H' R v ss := by
  obtain ⟨L, as, h1, h2, h3, h4⟩ := h
  exact ⟨L, as, h1, h2, s _ _ h3, h4.imp fun _ _ r => s _ _ r⟩
theorem SuccV.mut {H : Hp} {R b : Addr} {o : HO} {v : V} {ss : List (List Nat)} (h : SuccV H R v ss) (n : ∀ L xs, L ≠ R → H L = some (.lst xs) → L ≠ b) (t : TupSame H (upd H b o)) : SuccV (upd H b o) R v ss := by
  obtain ⟨L, as, h1, h2, h3, h4⟩ := h
  exact ⟨L, as, h1, h2, (upd_ne (n L _ h2 h3)).trans h3, h4.imp fun _ _ r => t _ _ r⟩
structure CsI (w : World) (U : List (List Nat)) (mv need : List Nat → List (List Nat)) (H : Hp) (gA R : Addr) (g : List (List Nat × V)) (rest : List (List Nat)) : Prop where
  gd : GD w KS H gA g
  inU : ∀ p ∈ g, p.1 ∈ U
  dn : ∀ p ∈ g, p.1 ∈ rest ∨ (SuccV H R p.2 (mv p.1) ∧ ∀ s ∈ need p.1, s ∈ g.map (·.1))
  rs : ∃ ras, H R = some (.lst (refs ras)) ∧ All2 (fun a st => TN H a st) ras rest
  rk : ∀ s ∈ rest, s ∈ g.map (·.1)
theorem CsI.len {w : World} {U : List (List Nat)} {mv need : List Nat → List (List Nat)} {H : Hp} {gA R : Addr} {g : List (List Nat × V)} {rest : List (List Nat)} (h : CsI w U mv need H gA R g rest) : g.length ≤ U.length := by
  have := nodup_sub_len h.gd.nd (ys := U) fun x hx => by
    obtain ⟨p, hp, rfl⟩ := List.mem_map.mp hx
    exact h.inU p hp
  rwa [List.length_map] at this
theorem CsI.same {w : World} {U : List (List Nat)} {mv need : List Nat → List (List Nat)} {H H' : Hp} {gA R : Addr} {g : List (List Nat × V)} {rest : List (List Nat)} (h : CsI w U mv need H gA R g rest) (s : Same H H') : CsI w U mv need H' gA R g rest :=
  ⟨h.gd.same s, h.inU, fun p hp => (h.dn p hp).imp id fun z => ⟨z.1.ext s, z.2⟩, by
    obtain ⟨ras, h1, h2⟩ := h.rs
    exact ⟨ras, s _ _ h1, h2.imp fun _ _ r => s _ _ r⟩, h.rk⟩
theorem mem_putK {κ : Type} [DecidableEq κ] {g : List (κ × V)} {k : κ} {v : V} {p : κ × V} (h : p ∈ putK g k v) : (p ∈ g ∧ p.1 ≠ k) ∨ p = (k, v) := by
  unfold putK at h
  split at h
  · obtain ⟨q, hq, e⟩ := List.mem_map.mp h
    by_cases hk : q.1 = k
    · rw [if_pos hk] at e
      exact .inr (by rw [← e, hk])
    · rw [if_neg hk] at e
      subst e
      exact .inl ⟨hq, hk⟩
  · rename_i hn
    rcases List.mem_append.mp h with h1 | h1
    · refine .inl ⟨h1, fun z => hn ?_⟩
      exact List.any_eq_true.mpr ⟨p, h1, decide_eq_true z⟩
    · exact .inr (List.mem_singleton.mp h1)
theorem keys_putK {κ : Type} [DecidableEq κ] (g : List (κ × V)) (k : κ) (v : V) : (putK g k v).map (·.1) = if k ∈ g.map (·.1) then g.map (·.1) else g.map (·.1) ++ [k] := by
  unfold putK
  have e : (g.any fun kv => decide (kv.1 = k)) = decide (k ∈ g.map (·.1)) := by
    rw [Bool.eq_iff_iff]
    simp only [List.any_eq_true, decide_eq_true_eq, List.mem_map]
  rw [e]
  by_cases h : k ∈ g.map (·.1)
  · rw [if_pos h, if_pos (decide_eq_true h), List.map_map]
    refine List.map_congr_left fun p _ => ?_
    show (if p.1 = k then (p.1, v) else p).1 = p.1
    split <;> rfl
  · rw [if_neg h, if_neg (by rw [decide_eq_false h]; exact fun z => Bool.noConfusion z), List.map_append]
    rfl
theorem mem_keys_putK {κ : Type} [DecidableEq κ] {g : List (κ × V)} {k s : κ} {v : V} : s ∈ (putK g k v).map (·.1) ↔ s ∈ g.map (·.1) ∨ s = k := by
  rw [keys_putK]
  split
  · rename_i h
    exact ⟨.inl, fun z => z.elim id fun e => e ▸ h⟩
  · simp
theorem valV_keys {κ : Type} [DecidableEq κ] (g : List (κ × V)) (k : κ) : (valV g k).isSome = decide (k ∈ g.map (·.1)) := by
  rw [← valV_any, Bool.eq_iff_iff]
  simp only [List.any_eq_true, decide_eq_true_eq, List.mem_map]
theorem valV_in {κ : Type} [DecidableEq κ] {g : List (κ × V)} {k : κ} (h : k ∈ g.map (·.1)) : (valV g k).isSome = true := by rw [valV_keys]; exact decide_eq_true h
theorem valV_nin {κ : Type} [DecidableEq κ] {g : List (κ × V)} {k : κ} (h : k ∉ g.map (·.1)) : (valV g k).isSome = false := by rw [valV_keys]; exact decide_eq_false h
theorem putK_len {κ : Type} [DecidableEq κ] {g : List (κ × V)} {k : κ} {v : V} (h : k ∉ g.map (·.1)) : (putK g k v).length = g.length + 1 := by
  have := congrArg List.length (keys_putK g k v)
  rw [if_neg h, List.length_map, List.length_append, List.length_map] at this
  exact this
theorem putK_len' {κ : Type} [DecidableEq κ] {g : List (κ × V)} {k : κ} {v : V} (h : k ∈ g.map (·.1)) : (putK g k v).length = g.length := by
  have := congrArg List.length (keys_putK g k v)
  rw [if_pos h, List.length_map, List.length_map] at this
  exact this
theorem refs_snoc {as : List Addr} {ys : List V} {y : V} (h : refs as = ys ++ [y]) : ∃ (r : List Addr) (n : Addr), as = r ++ [n] ∧ ys = refs r ∧ y = .ref n := by
  rcases List.eq_nil_or_concat as with rfl | ⟨r, n, rfl⟩
  · simp at h
  · have e : refs (r.concat n) = refs r ++ [.ref n] := by rw [List.concat_eq_append]; simp [refs]
    rw [e] at h
    obtain ⟨h1, h2⟩ := List.append_inj' h rfl
    exact ⟨r, n, by rw [List.concat_eq_append], h1.symm, (List.cons.inj h2).1.symm⟩
theorem All2.snoc_inv {α β : Type} {R : α → β → Prop} {as : List α} {a : α} {cs : List β} (h : All2 R (as ++ [a]) cs) : ∃ bs b, cs = bs ++ [b] ∧ All2 R as bs ∧ R a b := by
  induction as generalizing cs with
  | nil =>
    cases h with
    | cons r h2 =>
      cases h2
      exact ⟨[], _, rfl, .nil, r⟩
  | cons x as ih =>
    cases h with
    | cons r h2 =>
      obtain ⟨bs, b, rfl, h3, h4⟩ := ih h2
      exact ⟨_ :: bs, b, rfl, .cons r h3, h4⟩
/-- a set of states that pours do not leave -/
structure UniS (F : FoldD) (ps : List (Nat × Nat)) (n : Nat) (U : List (List Nat)) : Prop where
  st : F.hues ∈ U
  cl : ∀ s ∈ U, ∀ p ∈ ps, spread F s (F.homes.getD p.1 0) p.2 ∈ U
  ln : ∀ s ∈ U, s.length = n
  sz : U.length ≤ 60000
section
variable {P : Program} {w : World} {K : PySem.W.Frag} {mg : Str → Option Value} {base : Heap}
theorem r_spr {H : Hp} {Q : VK} {E : XK} {f a : Addr} {F : FoldD} {st : List Nat} {home hue : Nat} (hF : FoldAt K H f F) (ha : TN H a st) (ok : FOk F st.length) (hh : home < st.length) (k : ∀ H' q, Same H H' → TN H' q (spread F st home hue) → Q (.ref q) H') : sp_spr K ([.ref f, .ref a, .int (home : Int), .int (hue : Int)] ++ []) H Q E :=
  ⟨f, a, F, st, home, hue, rfl, hF, ha, ok.nl, ok.nr, hh, ok.n7, k⟩
theorem sc_close_states : FnScope ["folding", "pours", "graph", "rest", "state", "steps", "after", "mark", "hue"] ["folding", "pours"] (defScope s_close_states) := ⟨rfl, rfl, rfl, by decide +kernel, rfl, by decide +kernel, by decide +kernel⟩
def sp_cs (K : PySem.W.Frag) (w : World) : Sp := fun vs H Q _ => ∃ (f a : Addr) (F : FoldD) (ps : List (Nat × Nat)) (pas : List Addr) (n : Nat) (U : List (List Nat)), vs = [.ref f, .ref a] ∧ FoldAt K H f F ∧ H a = some (.lst (refs pas)) ∧ CpT H pas ps ∧ FOk F n ∧ UniS F ps n U ∧ (∀ p ∈ ps, p.1 < F.homes.length) ∧ ps.length ≤ 1000 ∧
  ∀ H' gA g, Same H H' → GD w KS H' gA g → F.hues ∈ g.map (·.1) → (∀ p ∈ g, p.1 ∈ U ∧ (∃ R, SuccV H' R p.2 (mvs F ps p.1)) ∧ ∀ s ∈ mvs F ps p.1, s ∈ g.map (·.1)) → Q (.ref gA) H'
theorem ok_close_states (T : TX K mg) : C8.Cal P w K mg base 2 "close_states" (sp_cs K w) [] := by
  have c_spread_hue := ok_spread_hue (P := P) (w := w) (base := base) T
  obtain ⟨fd, F⟩ := T.F_close_states
  refine ⟨_, fd, ["folding", "pours"], [], ?_, T.g_close_states, F.kp, (F.bindsN (fun _ _ _ _ _ _ us hl => match us, hl with | [_, _], _ => rfl)), .nil⟩
  refine F.ok sc_close_states (fun vs H Q E h => ?_) (fun cdv A outer s H vs Q E hr h => ?_)
  · obtain ⟨f, a, F, ps, pas, n, U, rfl, _⟩ := h
    rfl
  · obtain ⟨f, a, F, ps, pas, n, U, rfl, hF, ha, hC, ok, hU, hps, hpl, k⟩ := h
    obtain ⟨dx, nA, nrA, hoA, huA, h1, h2, h3, h4, h5⟩ := id hF
    refine ⟨_, PSs.nox (pss_cons (ps_set (i := 2) sc_close_states.nd rfl (.inl rfl) (pe_none' w rfl hr.units (pe_fld' K rfl (pv 0) rfl) (pe_lst pa_nil)))
      (pss_cons (ps_set (i := 3) sc_close_states.nd rfl (.inl rfl) (pe_lst (pa_cons (pe_fld' K rfl (pv 0) rfl) pa_nil)))
      (pss_cons (ps_while PassesOwn.never (pt_tru' K rfl (pv 3) (by intro _; rfl)) (pss_cons (ps_set (i := 4) sc_close_states.nd rfl (.inr rfl) (pe_bm0' K rfl PySem.F.plainAttrs_list PySem.F.slot_list_pop PySem.F.type_list_pop mt_pop (pv 3)))
      (pss_cons (ps_setLc (i := 5) (own := [("mark", 7), ("hue", 8)]) (by rfl) sc_close_states.nd rfl rfl (sw_true rfl rfl rfl (by decide +kernel)) (pi_list' K rfl (pv 1)) (blkOk_by (own := [("mark", 7), ("hue", 8)]) (N := ["folding", "pours", "graph", "rest", "state", "steps", "after", "mark", "hue"]) (sc := defScope s_close_states) (by decide +kernel)) (fun _ _ _ _ _ => (pg_tup' (n := 2) K rfl (by rfl) (pgs_cons (pg_name (i := 7) sc_close_states.nd rfl (.inl rfl)) (pgs_cons (pg_name (i := 8) sc_close_states.nd rfl (.inl rfl)) pgs_nil)) (by rfl))) (fun _ _ _ _ _ => pts_nil) (fun _ _ _ _ _ => (C8.pe_c (c_spread_hue) hr (by omega) (by rfl) (pa_cons (pv 0) (pa_cons (pv 4) (pa_cons (pe_ix (ix_list' K rfl) (pe_fld' K rfl (pv 0) rfl) (pv 7) (fun _ _ => rfl)) (pa_cons (pv 8) pa_nil)))))))
      (pss_cons (ps_asg (pv 5) (pg_sub (pv 2) (pv 4) (set_N' w rfl hr.units)))
      (pss_one (ps_for PassesOwn.never rfl (pi_list' K rfl (pv 5)) (pg_name (i := 6) sc_close_states.nd rfl (.inl rfl)) (pss_one (ps_if (pt_cmpR (op_notInN' w rfl hr.units) (pv 6) (pv 2) (by rfl)) (pss_cons (ps_asg (pe_lst pa_nil) (pg_sub (pv 2) (pv 6) (set_N' w rfl hr.units)))
      (pss_one (ps_expr (pe_bm' K rfl PySem.F.plainAttrs_list PySem.F.slot_list_append PySem.F.type_list_append mt_append (pv 3) (pa_cons (pv 6) pa_nil))))) pss_nil))))))))
      (pss_one (ps_ret (pv 2)))))), ?_⟩
    try dsimp only [cxOf]
    walk_at "WK"
    intro gA hgA hd0
    have s1 := same_new hgA (o := dN w gA [] 0)
    walk_at "WK"
    intro l0 hl0
    have s2 := same_new hl0 (o := .lst [])
    have hd1 := hd0.same s2
    have s02 := s1.trans s2
    have hl0H := s1.free hl0
    refine r_noneG (F := KS) (k := F.hues) hd1 (rp_st (s02 _ _ h5)) fun o' g1 t1 => ?_
    have s3 := same_of s02 hgA (o := o')
    have nlg : l0 ≠ gA := fun z => by rw [z, upd_same] at hl0; cases hl0
    have hl1 : upd (upd (upd H gA (dN w gA [] 0)) l0 (.lst [])) gA o' l0 = some (.lst []) := by walk_at "HL"
    generalize upd (upd (upd H gA (dN w gA [] 0)) l0 (.lst [])) gA o' = H1 at g1 t1 s3 hl1 ⊢
    have h11 := s3 _ _ h1
    walk_at "WK"
    intro R hR
    have hRH := s3.free hR
    have nRg : R ≠ gA := g1.neN hR
    have nlR : l0 ≠ R := ne_of_none hl1 hR
    have s4 := same_of s3 hRH (o := .lst [.ref huA])
    have g2 := g1.same (same_new hR (o := .lst [.ref huA]))
    have hR2 : upd H1 R (.lst [.ref huA]) R = some (.lst (refs [huA])) := upd_same
    have hu2 := s4 _ _ h5
    generalize upd H1 R (.lst [.ref huA]) = H2 at g2 s4 hR2 hu2 ⊢
    walk_at "WK"
    have hUl : 1 ≤ U.length := List.length_pos_of_mem hU.st
    have hsz := hU.sz
    refine wh_L (fun m σ H' => ∃ g rest y4 y5 y6, σ = [some (.ref f), some (.ref a), some (.ref gA), some (.ref R), y4, y5, y6, none, none] ∧ Same H H' ∧ CsI w U (mvs F ps) (mvs F ps) H' gA R g rest ∧ F.hues ∈ g.map (·.1) ∧ 2 * (U.length - g.length) + rest.length = m ∧ m ≤ 2 * U.length) (m := 2 * (U.length - 1) + 1)
      ⟨[(F.hues, .ref l0)], [F.hues], _, _, _, rfl, s4, ⟨g2, fun p hp => by rw [List.mem_singleton] at hp; rw [hp]; exact hU.st, fun p hp => .inl (by rw [List.mem_singleton] at hp; rw [hp]; simp), ⟨[huA], hR2, .cons hu2 .nil⟩, fun s hs => by rw [List.mem_singleton] at hs; rw [hs]; simp⟩, by simp, by simp, by omega⟩ ?_ ?_ ?_
    · rintro m σ H' ⟨g, rest, y4, y5, y6, rfl, sm, I, hst, e4, e5⟩
      obtain ⟨ras, hr1, hr2⟩ := I.rs
      exact ⟨R, refs ras, rfl, hr1⟩
    · rintro m σ H' rr y ys ⟨g, rest, y4, y5, y6, rfl, sm, I, hst, e4, e5⟩ hrr hys
      cases hrr
      obtain ⟨ras, hr1, hr2⟩ := I.rs
      have er := Option.some.inj (hr1.symm.trans hys)
      obtain ⟨ra0, xa, rfl, rfl, rfl⟩ := refs_snoc (HO.lst.inj er)
      obtain ⟨rest0, st, rfl, hr3, hr4⟩ := All2.snoc_inv hr2
      have hstk := I.rk st (by simp)
      have hstU : st ∈ U := by
        obtain ⟨p, hp, e⟩ := List.mem_map.mp hstk
        rw [← e]
        exact I.inU p hp
      have hsl := hU.ln st hstU
      have gl := I.len
      rw [List.length_append, List.length_singleton] at e4
      walk_at "WK"
      refine r_popL hys ?_
      have nRgA : R ≠ gA := I.gd.neL hr1
      have s5 := same_of sm hRH (o := .lst (refs ra0))
      have g3 := I.gd.keepL (o := .lst (refs ra0)) hr1
      have tR : TupSame H' (upd H' R (.lst (refs ra0))) := TupSame.mut fun vs e => by rw [hr1] at e; cases e
      have hR3 : upd H' R (.lst (refs ra0)) R = some (.lst (refs ra0)) := upd_same
      have dn3 : ∀ p ∈ g, p.1 ∈ rest0 ++ [st] ∨ (SuccV (upd H' R (.lst (refs ra0))) R p.2 (mvs F ps p.1) ∧ ∀ s ∈ mvs F ps p.1, s ∈ g.map (·.1)) := fun p hp => (I.dn p hp).imp id fun z => ⟨z.1.mut (fun L xs n _ => n) tR, z.2⟩
      have hxa := tR _ _ hr4
      have hr5 : All2 (fun a st => TN (upd H' R (.lst (refs ra0))) a st) ra0 rest0 := hr3.imp fun _ _ r => tR _ _ r
      generalize upd H' R (.lst (refs ra0)) = H3 at s5 g3 hR3 dn3 hxa hr5 ⊢
      have ha3 := s5 _ _ ha
      have hC3 := hC.ext s5
      walk_at "WK"
      refine lc_L (xs := refs pas) (fun D i H4 => Same H3 H4 ∧ H3 D = none ∧ ∃ as, H4 D = some (.lst (refs as)) ∧ All2 (fun a st => TN H4 a st) as (mvs F (ps.take i) st)) (fun D hD => ⟨same_new hD, hD, [], upd_same, .nil⟩) (fun D i H4 _ h => h.1 _ _ ha3) ?_ ?_
      · rintro D i y H4 hy ⟨s6, nD, as, hD, hA⟩
        obtain ⟨pa, hpa, rfl⟩ := refs_inv hy
        obtain ⟨p, hp, hpt⟩ := hC3.getL hpa
        have hpt4 := s6 _ _ hpt
        have s06 := s5.trans s6
        have h14 := s06 _ _ h1
        have h44 := s06 _ _ h4
        have hpk := hps p (List.mem_of_getElem? hp)
        obtain ⟨hm, hhm⟩ := getElem?_of_lt hpk
        have hpi := (List.getElem?_eq_some_iff.mp hp).1
        walk_at "WK"
        refine r_spr (hF.ext s06) (s6 _ _ hxa) (by rw [hsl]; exact ok) (by rw [hsl]; exact ok.ho hm (List.mem_of_getElem? hhm)) fun H5 q s7 hq => ?_
        have hD5 := s7 _ _ hD
        refine r_eltk hD5 (lt_sz (by
          have := hA.len
          rw [mvs, List.length_map, List.length_take] at this
          rw [List.length_map]
          omega)) ?_
        refine ⟨same_of (s6.trans s7) nD, nD, as ++ [q], by rw [upd_same]; simp [refs], ?_⟩
        rw [List.take_add_one, hp]
        show All2 _ _ (mvs F (ps.take i ++ [p]) st)
        rw [mvs, List.map_append]
        refine All2.snoc (hA.imp fun b s r => ?_) ?_
        · exact (upd_ne (ne_tl (s7 _ _ r) hD5)).trans (s7 _ _ r)
        · show TN _ q (spread F st (F.homes.getD p.1 0) p.2)
          rw [getD_of hhm]
          exact (upd_ne (ne_tl hq hD5)).trans hq
      · rintro S H4 ⟨s6, nS, sas, hS, hSA⟩
        rw [List.length_map, hC.len, List.take_length] at hSA
        have hxa4 := s6 _ _ hxa
        have g4 := g3.same s6
        have hR4 := s6 _ _ hR3
        have nSR : S ≠ R := fun z => by rw [z, hR3] at nS; cases nS
        walk_at "WK"
        refine r_setG g4 (rp_st hxa4) (lt_szM (by omega)) fun o4 g5 t5 => ?_
        have nSg : S ≠ gA := g4.neL hS
        have nRg4 : R ≠ gA := g4.neL hR4
        have s07 := same_of (s5.trans s6) hgA (o := o4)
        have hS5 : upd H4 gA o4 S = some (.lst (refs sas)) := by walk_at "HL"
        have hR5 : upd H4 gA o4 R = some (.lst (refs ra0)) := by walk_at "HL"
        have hSA5 : All2 (fun a st => TN (upd H4 gA o4) a st) sas (mvs F ps st) := hSA.imp fun _ _ r => t5 _ _ r
        have hxa5 := t5 _ _ hxa4
        have hr6 : All2 (fun a st => TN (upd H4 gA o4) a st) ra0 rest0 := hr5.imp fun _ _ r => t5 _ _ (s6 _ _ r)
        have dn5 : ∀ p ∈ g, p.1 ∈ rest0 ++ [st] ∨ (SuccV (upd H4 gA o4) R p.2 (mvs F ps p.1) ∧ ∀ s ∈ mvs F ps p.1, s ∈ g.map (·.1)) := fun p hp => (dn3 p hp).imp id fun z => ⟨(z.1.ext s6).mut (fun L xs _ e => g4.neL e) t5, z.2⟩
        generalize upd H4 gA o4 = H5 at g5 t5 s07 hS5 hR5 hSA5 hxa5 hr6 dn5 ⊢
        have hkp : ∀ s, s ∈ (putK g st (V.ref S)).map (·.1) ↔ s ∈ g.map (·.1) := fun s => by
          rw [mem_keys_putK]
          exact ⟨fun z => z.elim id fun e => e ▸ hstk, .inl⟩
        have I5 : CsI w U (mvs F ps) (fun s => if s = st then (mvs F ps st).take 0 else mvs F ps s) H5 gA R (putK g st (V.ref S)) rest0 := by
          refine ⟨g5, fun p hp => ?_, fun p hp => ?_, ⟨ra0, hR5, hr6⟩, fun s hs => (hkp s).mpr (I.rk s (by simp [hs]))⟩
          · rcases mem_putK hp with ⟨h, _⟩ | h
            · exact I.inU p h
            · rw [h]; exact hstU
          · rcases mem_putK hp with ⟨h, hne⟩ | h
            · rcases dn5 p h with z | z
              · rcases List.mem_append.mp z with z | z
                · exact .inl z
                · rw [List.mem_singleton] at z
                  exact absurd z hne
              · refine .inr ⟨z.1, fun s hs => (hkp s).mpr (z.2 s ?_)⟩
                rw [if_neg hne] at hs
                exact hs
            · refine .inr ⟨?_, fun s hs => ?_⟩
              · rw [h]
                exact ⟨S, sas, rfl, nSR, hS5, hSA5⟩
              · rw [h] at hs
                simp at hs
        have hgl5 : (putK g st (V.ref S)).length = g.length := putK_len' hstk
        have hst5 : F.hues ∈ (putK g st (V.ref S)).map (·.1) := (hkp _).mpr hst
        have e6 : 2 * (U.length - (putK g st (V.ref S)).length) + rest0.length + 1 = m := by omega
        generalize putK g st (V.ref S) = g6 at g5 I5 hgl5 hst5 e6 ⊢
        walk_at "WK"
        refine for_L (xs := refs sas) (fun j σ H' => ∃ g rest y6, σ = [some (.ref f), some (.ref a), some (.ref gA), some (.ref R), some (.ref xa), some (.ref S), y6, none, none] ∧ Same H H' ∧ H' S = some (.lst (refs sas)) ∧ All2 (fun a st => TN H' a st) sas (mvs F ps st) ∧ CsI w U (mvs F ps) (fun s => if s = st then (mvs F ps st).take j else mvs F ps s) H' gA R g rest ∧ F.hues ∈ g.map (·.1) ∧ 2 * (U.length - g.length) + rest.length + 1 ≤ m)
          ⟨g6, rest0, _, rfl, s07, hS5, hSA5, I5, hst5, by omega⟩ (fun j σ H' _ h => by obtain ⟨_, _, _, _, _, h, _⟩ := h; exact h) ?_ ?_
        · rintro j y σ H6 hy ⟨g7, rest7, y6, rfl, s8, hS6, hSA6, I7, hst7, e7⟩
          obtain ⟨sa, hsa, rfl⟩ := refs_inv hy
          obtain ⟨s', hs', hsT⟩ := hSA6.getL hsa
          have gl7 := I7.len
          have hs'U : s' ∈ U := by
            obtain ⟨p, hp, rfl⟩ := List.mem_map.mp (List.mem_of_getElem? hs')
            exact hU.cl st hstU p hp
          have tk : ∀ s, s ∈ (mvs F ps st).take (j + 1) ↔ s ∈ (mvs F ps st).take j ∨ s = s' := fun s => by
            rw [List.take_add_one, hs']
            simp
          walk_at "WK"
          refine r_ninG I7.gd (rp_st hsT) ?_
          by_cases hin : s' ∈ g7.map (·.1)
          · rw [valV_in hin]
            walk_at "WK"
            refine ⟨g7, rest7, _, rfl, s8, hS6, hSA6, ⟨I7.gd, I7.inU, fun p hp => (I7.dn p hp).imp id fun z => ⟨z.1, fun s hs => ?_⟩, I7.rs, I7.rk⟩, hst7, e7⟩
            by_cases he : p.1 = st
            · rw [if_pos he] at hs
              rcases (tk s).mp hs with h | h
              · exact z.2 s (by rw [if_pos he]; exact h)
              · rw [h]; exact hin
            · rw [if_neg he] at hs
              exact z.2 s (by rw [if_neg he]; exact hs)
          · rw [valV_nin hin]
            walk_at "WK"
            intro l1 hl1'
            have sL := same_new hl1' (o := .lst [])
            have I8 := I7.same sL
            have hS7 := sL _ _ hS6
            have hSA7 : All2 (fun a st => TN (upd H6 l1 (.lst [])) a st) sas (mvs F ps st) := hSA6.imp fun _ _ r => sL _ _ r
            have hsT7 := sL _ _ hsT
            have s9 := s8.trans sL
            generalize upd H6 l1 (.lst []) = H7 at I8 hS7 hSA7 hsT7 s9 ⊢
            obtain ⟨ras7, hr71, hr72⟩ := I8.rs
            walk_at "WK"
            refine r_setG I8.gd (rp_st hsT7) (lt_szM (by omega)) fun o7 g9 t9 => ?_
            have nSg7 := I8.gd.neL hS7
            have nRg7 := I8.gd.neL hr71
            have s10 := same_of s9 hgA (o := o7)
            have hS8 : upd H7 gA o7 S = some (.lst (refs sas)) := by walk_at "HL"
            have hR8 : upd H7 gA o7 R = some (.lst (refs ras7)) := by walk_at "HL"
            have hSA8 : All2 (fun a st => TN (upd H7 gA o7) a st) sas (mvs F ps st) := hSA7.imp fun _ _ r => t9 _ _ r
            have hsT8 := t9 _ _ hsT7
            have hr8 : All2 (fun a st => TN (upd H7 gA o7) a st) ras7 rest7 := hr72.imp fun _ _ r => t9 _ _ r
            have dn8 : ∀ p ∈ g7, p.1 ∈ rest7 ∨ (SuccV (upd H7 gA o7) R p.2 (mvs F ps p.1) ∧ ∀ s ∈ (if p.1 = st then (mvs F ps st).take j else mvs F ps p.1), s ∈ g7.map (·.1)) := fun p hp => (I8.dn p hp).imp id fun z => ⟨z.1.mut (fun L xs _ e => I8.gd.neL e) t9, z.2⟩
            generalize upd H7 gA o7 = H8 at g9 t9 s10 hS8 hR8 hSA8 hsT8 hr8 dn8 ⊢
            walk_at "WK"
            refine r_append hR8 (lt_szM (by have := hr8.len; rw [List.length_map]; omega)) ?_
            have tR9 : TupSame H8 (upd H8 R (.lst (refs ras7 ++ [.ref sa]))) := TupSame.mut fun vs e => by rw [hR8] at e; cases e
            have hgl : (putK g7 s' (V.ref l1)).length = g7.length + 1 := putK_len hin
            have gl9 : (putK g7 s' (V.ref l1)).length ≤ U.length := by
              have := nodup_sub_len g9.nd (ys := U) fun x hx => by
                rcases mem_keys_putK.mp hx with h | h
                · obtain ⟨p, hp, rfl⟩ := List.mem_map.mp h
                  exact I7.inU p hp
                · rw [h]; exact hs'U
              rwa [List.length_map] at this
            refine ⟨putK g7 s' (V.ref l1), rest7 ++ [s'], _, rfl, same_of s10 hRH, (upd_ne nSR).trans hS8, hSA8.imp fun _ _ r => tR9 _ _ r, ⟨g9.keepL hR8, fun p hp => ?_, fun p hp => ?_, ⟨ras7 ++ [sa], by rw [upd_same]; simp [refs], All2.snoc (hr8.imp fun _ _ r => tR9 _ _ r) (tR9 _ _ hsT8)⟩, fun s hs => ?_⟩, mem_keys_putK.mpr (.inl hst7), by rw [List.length_append, List.length_singleton, hgl]; omega⟩
            · rcases mem_putK hp with ⟨h, _⟩ | h
              · exact I7.inU p h
              · rw [h]; exact hs'U
            · rcases mem_putK hp with ⟨h, hne⟩ | h
              · rcases dn8 p h with z | z
                · exact .inl (List.mem_append.mpr (.inl z))
                · refine .inr ⟨z.1.mut (fun L xs n _ => n) tR9, fun s hs => mem_keys_putK.mpr ?_⟩
                  by_cases he : p.1 = st
                  · rw [if_pos he] at hs
                    rcases (tk s).mp hs with h | h
                    · exact .inl (z.2 s (by rw [if_pos he]; exact h))
                    · exact .inr h
                  · rw [if_neg he] at hs
                    exact .inl (z.2 s (by rw [if_neg he]; exact hs))
              · exact .inl (by rw [h]; simp)
            · rcases List.mem_append.mp hs with h | h
              · exact mem_keys_putK.mpr (.inl (I7.rk s h))
              · exact mem_keys_putK.mpr (.inr (List.mem_singleton.mp h))
        · rintro σ H6 ⟨g7, rest7, y6, rfl, s8, hS6, hSA6, I7, hst7, e7⟩
          rw [List.length_map, hSA5.len, List.take_length] at I7
          refine ⟨_, by omega, g7, rest7, _, _, _, rfl, s8, ⟨I7.gd, I7.inU, fun p hp => (I7.dn p hp).imp id fun z => ⟨z.1, fun s hs => z.2 s ?_⟩, I7.rs, I7.rk⟩, hst7, rfl, by omega⟩
          split
          · rename_i he
            rw [← he]
            exact hs
          · exact hs
    · rintro m σ H' rr ⟨g, rest, y4, y5, y6, rfl, sm, I, hst, e4, e5⟩ hrr hys
      cases hrr
      obtain ⟨ras, hr1, hr2⟩ := I.rs
      have er := HO.lst.inj (Option.some.inj (hr1.symm.trans hys))
      have er2 : ras = [] := by
        cases ras with
        | nil => rfl
        | cons _ _ => cases er
      subst er2
      cases hr2
      walk_at "WK"
      exact k _ gA g sm I.gd hst fun p hp => ⟨I.inU p hp, ⟨R, ((I.dn p hp).resolve_left (by simp)).1⟩, ((I.dn p hp).resolve_left (by simp)).2⟩
end
end G6
end
section
set_option maxHeartbeats 4000000
set_option Elab.async false
set_option linter.all false
/-! M5: how far a wish is -/
namespace G6
open PySem PySem.Spec PyProof.Rows L2 PySem.W
abbrev St := List Nat
section
variable (hd : St → Bool) (mv : St → List St)
def Dist : Nat → St → Prop
  | 0, s => hd s = true
  | n + 1, s => Dist n s ∨ ∃ t ∈ mv s, Dist n t
variable {hd mv}
theorem Dist.succ {n : Nat} {s : St} (h : Dist hd mv n s) : Dist hd mv (n + 1) s := .inl h
theorem Dist.mono {n m : Nat} {s : St} (h : Dist hd mv n s) (hm : n ≤ m) : Dist hd mv m s := by
  induction hm with
  | refl => exact h
  | step _ ih => exact .inl ih
/-- exactly so far -/
def Exact (hd : St → Bool) (mv : St → List St) (n : Nat) (s : St) : Prop := Dist hd mv n s ∧ ∀ m, m < n → ¬ Dist hd mv m s
theorem Dist.least {n : Nat} {s : St} (h : Dist hd mv n s) : ∃ m, m ≤ n ∧ Exact hd mv m s := by
  induction n with
  | zero => exact ⟨0, Nat.le_refl _, h, fun m hm => absurd hm (Nat.not_lt_zero _)⟩
  | succ n ih =>
    by_cases hn : Dist hd mv n s
    · obtain ⟨m, h1, h2⟩ := ih hn
      exact ⟨m, by omega, h2⟩
    · exact ⟨n + 1, Nat.le_refl _, h, fun m hm z => hn (z.mono (by omega))⟩
/-- one layer more -/
theorem Dist.layer {n : Nat} {s : St} : Dist hd mv (n + 1) s ↔ Dist hd mv n s ∨ ∃ t ∈ mv s, Exact hd mv n t := by
  constructor
  · rintro (h | ⟨t, ht, h⟩)
    · exact .inl h
    · obtain ⟨m, hm, he⟩ := h.least
      rcases Nat.lt_or_ge m n with z | z
      · exact .inl (Dist.mono (n := m + 1) (.inr ⟨t, ht, he.1⟩) z)
      · have : m = n := by omega
        subst this
        exact .inr ⟨t, ht, he⟩
  · rintro (h | ⟨t, ht, h⟩)
    · exact .inl h
    · exact .inr ⟨t, ht, h.1⟩
/-- an empty layer ends it -/
theorem Dist.closed {ks : List St} (hk : ∀ s ∈ ks, ∀ t ∈ mv s, t ∈ ks) {r : Nat} (he : ∀ s ∈ ks, ¬ Exact hd mv r s) : ∀ n s, s ∈ ks → Dist hd mv n s → Dist hd mv r s := by
  have less : ∀ s ∈ ks, Dist hd mv r s → ∃ m, m < r ∧ Dist hd mv m s := fun s hs h => by
    obtain ⟨m, hm, hx⟩ := h.least
    rcases Nat.lt_or_ge m r with z | z
    · exact ⟨m, z, hx.1⟩
    · have : m = r := by omega
      subst this
      exact absurd hx (he s hs)
  intro n
  induction n with
  | zero => exact fun s _ h => h.mono (Nat.zero_le _)
  | succ n ih =>
    rintro s hs (h | ⟨t, ht, h⟩)
    · exact ih s hs h
    · obtain ⟨m, hm, h2⟩ := less t (hk s hs t ht) (ih t (hk s hs t ht) h)
      exact Dist.mono (n := m + 1) (.inr ⟨t, ht, h2⟩) hm
end
end G6
end
section
set_option maxHeartbeats 4000000
set_option Elab.async false
set_option linter.all false
set_option maxRecDepth 100000
namespace G6
open PySem PySem.Spec PyProof.Rows L2 PySem.W
/-- a list of states at an address -/
def LS (H : Hp) (L : Addr) (ss : List St) : Prop := ∃ as, H L = some (.lst (refs as)) ∧ All2 (fun a st => TN H a st) as ss
theorem LS.ext {H H' : Hp} {L : Addr} {ss : List St} (h : LS H L ss) (s : Same H H') : LS H' L ss := by
  obtain ⟨as, h1, h2⟩ := h
  exact ⟨as, s _ _ h1, h2.imp fun _ _ r => s _ _ r⟩
theorem LS.mut {H : Hp} {L b : Addr} {o : HO} {ss : List St} (h : LS H L ss) (n : L ≠ b) (t : TupSame H (upd H b o)) : LS (upd H b o) L ss := by
  obtain ⟨as, h1, h2⟩ := h
  exact ⟨as, (upd_ne n).trans h1, h2.imp fun _ _ r => t _ _ r⟩
theorem LS.push {H : Hp} {L a : Addr} {as : List Addr} {ss : List St} {s : St} (h1 : H L = some (.lst (refs as))) (h2 : All2 (fun a st => TN H a st) as ss) (ha : TN H a s) : LS (upd H L (.lst (refs as ++ [.ref a]))) L (ss ++ [s]) := by
  have t : TupSame H (upd H L (.lst (refs as ++ [.ref a]))) := TupSame.mut fun vs e => by rw [h1] at e; cases e
  exact ⟨as ++ [a], by rw [upd_same]; simp [refs], All2.snoc (h2.imp fun _ _ r => t _ _ r) (t _ _ ha)⟩
/-- the dict ahead: its keys ks, its lists at Ls -/
structure AhI (w : World) (H0 H : Hp) (A : Addr) (ks : List St) (Ls : List Addr) (pls : List (List St)) : Prop where
  gd : GD w KS H A (List.zipWith (fun k L => (k, V.ref L)) ks Ls)
  ln : Ls.length = ks.length
  all : All2 (fun L pl => LS H L pl) Ls pls
  nd : Ls.Nodup
  new : ∀ L ∈ Ls, H0 L = none
  newA : H0 A = none
theorem AhI.same {w : World} {H0 H H' : Hp} {A : Addr} {ks : List St} {Ls : List Addr} {pls : List (List St)} (h : AhI w H0 H A ks Ls pls) (s : Same H H') : AhI w H0 H' A ks Ls pls :=
  ⟨h.gd.same s, h.ln, h.all.imp fun _ _ r => r.ext s, h.nd, h.new, h.newA⟩
theorem AhI.mut {w : World} {H0 H : Hp} {A b : Addr} {o : HO} {ks : List St} {Ls : List Addr} {pls : List (List St)} (h : AhI w H0 H A ks Ls pls) (n : b ≠ A) (nb : b ∉ Ls) (t : ∀ vs, H b ≠ some (.tup vs)) : AhI w H0 (upd H b o) A ks Ls pls :=
  ⟨h.gd.keep n t, h.ln, h.all.imp' fun _ _ hm r => r.mut (fun z => nb (z ▸ hm)) (TupSame.mut t), h.nd, h.new, h.newA⟩
theorem valV_zip {ks : List St} {Ls : List Addr} (hn : ks.Nodup) : ∀ {i : Nat} {k : St} {L : Addr}, ks[i]? = some k → Ls[i]? = some L → valV (List.zipWith (fun k L => (k, V.ref L)) ks Ls) k = some (.ref L) := by
  induction ks generalizing Ls with
  | nil => intro i k L h; simp at h
  | cons x ks ih =>
    intro i k L h1 h2
    cases Ls with
    | nil => simp at h2
    | cons y Ls =>
      cases i with
      | zero =>
        cases h1
        cases h2
        exact valV_pos rfl
      | succ i =>
        have hx : x ≠ k := fun z => (List.nodup_cons.mp hn).1 (by rw [z]; exact List.mem_of_getElem? h1)
        have := ih (List.nodup_cons.mp hn).2 h1 h2
        show valV ((x, V.ref y) :: List.zipWith (fun k L => (k, V.ref L)) ks Ls) k = _
        unfold valV at this ⊢
        rw [List.find?_cons]
        simp only [decide_eq_false hx]
        exact this
theorem AhI.at {w : World} {H0 H : Hp} {A : Addr} {ks : List St} {Ls : List Addr} {pls : List (List St)} (h : AhI w H0 H A ks Ls pls) (hn : ks.Nodup) {i : Nat} {k : St} (hk : ks[i]? = some k) :
    ∃ L pl, Ls[i]? = some L ∧ pls[i]? = some pl ∧ valV (List.zipWith (fun k L => (k, V.ref L)) ks Ls) k = some (.ref L) ∧ LS H L pl := by
  have hi := (List.getElem?_eq_some_iff.mp hk).1
  obtain ⟨L, hL⟩ := getElem?_of_lt (ls := Ls) (i := i) (by rw [h.ln]; exact hi)
  obtain ⟨pl, hp, r⟩ := h.all.getL hL
  exact ⟨L, pl, hL, hp, valV_zip hn hk hL, r⟩
theorem AhI.push {w : World} {H0 H : Hp} {A : Addr} {ks : List St} {Ls : List Addr} {pls : List (List St)} (h : AhI w H0 H A ks Ls pls) {i : Nat} {L a : Addr} {pl : List St} {s : St} {as : List Addr} (hL : Ls[i]? = some L) (hp : pls[i]? = some pl) (h1 : H L = some (.lst (refs as))) (h2 : All2 (fun a st => TN H a st) as pl) (ha : TN H a s) :
    AhI w H0 (upd H L (.lst (refs as ++ [.ref a]))) A ks Ls (pls.set i (pl ++ [s])) := by
  have t : TupSame H (upd H L (.lst (refs as ++ [.ref a]))) := TupSame.mut fun vs e => by rw [h1] at e; cases e
  refine ⟨h.gd.keepL h1, h.ln, All2.of (by rw [List.length_set]; exact h.all.len) fun j c m f1 f2 => ?_, h.nd, h.new, h.newA⟩
  by_cases hj : i = j
  · subst hj
    rw [hL] at f1
    cases f1
    rw [List.getElem?_set_self (List.getElem?_eq_some_iff.mp hp).1] at f2
    cases f2
    exact LS.push h1 h2 ha
  · rw [List.getElem?_set_ne hj] at f2
    have nc : c ≠ L := fun z => by
      subst z
      obtain ⟨p1, q1⟩ := List.getElem?_eq_some_iff.mp hL
      obtain ⟨p2, q2⟩ := List.getElem?_eq_some_iff.mp f1
      exact hj ((List.getElem_inj h.nd).mp (q1.trans q2.symm))
    obtain ⟨c', g1, g2⟩ := h.all.get f2
    rw [f1] at g1
    cases g1
    exact g2.mut nc t
theorem nodup_take' {α : Type} {ns : List α} (h : ns.Nodup) {i : Nat} {n : α} (e : ns[i]? = some n) : n ∉ ns.take i := fun m => by
  obtain ⟨j, hj⟩ := List.getElem?_of_mem m
  rw [List.getElem?_take] at hj
  split at hj
  · rename_i hlt
    obtain ⟨p1, q1⟩ := List.getElem?_eq_some_iff.mp e
    obtain ⟨p2, q2⟩ := List.getElem?_eq_some_iff.mp hj
    have := (List.getElem_inj h).mp (q1.trans q2.symm)
    omega
  · cases hj
theorem valV_get {κ : Type} [DecidableEq κ] : ∀ {g : List (κ × V)} (_ : (g.map (·.1)).Nodup) {i : Nat} {k : κ} {v : V}, g[i]? = some (k, v) → valV g k = some v
  | [], _, i, k, v, e => by simp at e
  | p :: g, hn, 0, k, v, e => by cases e; exact valV_pos rfl
  | p :: g, hn, i + 1, k, v, e => by
    have hn' := List.nodup_cons.mp hn
    have hx : p.1 ≠ k := fun z => hn'.1 (by show p.1 ∈ _; rw [z]; exact List.mem_map.mpr ⟨_, List.mem_of_getElem? (l := g) e, rfl⟩)
    have := valV_get hn'.2 (i := i) e
    unfold valV at this ⊢
    rw [List.find?_cons]
    simp only [decide_eq_false hx]
    exact this
theorem putK_new {κ : Type} [DecidableEq κ] {g : List (κ × V)} {k : κ} {v : V} (h : k ∉ g.map (·.1)) : putK g k v = g ++ [(k, v)] := by
  unfold putK
  rw [valV_any, valV_nin h]
  rfl
theorem zip_keys {ks : List St} {Ls : List Addr} (h : Ls.length = ks.length) : (List.zipWith (fun k L => (k, V.ref L)) ks Ls).map (·.1) = ks := by
  induction ks generalizing Ls with
  | nil => simp
  | cons k ks ih =>
    cases Ls with
    | nil => cases h
    | cons L Ls =>
      show k :: _ = k :: ks
      congr 1
      exact ih (Nat.succ.inj h)
theorem AhI.add {w : World} {H0 H : Hp} {A l : Addr} {o' : HO} {ks : List St} {Ls : List Addr} {pls : List (List St)} {k : St} (h : AhI w H0 H A ks Ls pls) (hl : H l = some (.lst [])) (hl0 : H0 l = none) (hnl : l ∉ Ls) (hk : k ∉ ks)
    (g : GD w KS (upd H A o') A (putK (List.zipWith (fun k L => (k, V.ref L)) ks Ls) k (.ref l))) (t : TupSame H (upd H A o')) : AhI w H0 (upd H A o') A (ks ++ [k]) (Ls ++ [l]) (pls ++ [[]]) := by
  have nlA : l ≠ A := h.gd.neL hl
  refine ⟨?_, by rw [List.length_append, List.length_append, h.ln]; rfl, All2.snoc (h.all.imp fun L pl r => ?_) ⟨[], (upd_ne nlA).trans hl, .nil⟩, ?_, ?_, h.newA⟩
  · rw [putK_new (by rw [zip_keys h.ln]; exact hk)] at g
    rw [List.zipWith_append (by rw [h.ln])]
    exact g
  · obtain ⟨as, h1, h2⟩ := r
    exact ⟨as, (upd_ne (h.gd.neL h1)).trans h1, h2.imp fun _ _ r => t _ _ r⟩
  · refine List.nodup_append.mpr ⟨h.nd, by simp, fun a ha b hb => ?_⟩
    rw [List.mem_singleton] at hb
    exact fun z => hnl (by rw [← hb, ← z]; exact ha)
  · intro L hL
    rcases List.mem_append.mp hL with z | z
    · exact h.new L z
    · rw [List.mem_singleton] at z
      rw [z]
      exact hl0
/-- what a dict of ranks says -/
structure RkI (hd : St → Bool) (mv : St → List St) (ks : List St) (r : Nat) (gr : List (St × V)) : Prop where
  sub : ∀ p ∈ gr, p.1 ∈ ks
  iff : ∀ s ∈ ks, s ∈ gr.map (·.1) ↔ Dist hd mv r s
  val : ∀ p ∈ gr, ∃ n : Nat, p.2 = .int (n : Int) ∧ Exact hd mv n p.1 ∧ n < gr.length
/-- one layer under way: what has been seen -/
structure FlI (ks : List St) (r : Nat) (gr : List (St × V)) (seen : St → Prop) (g2 : List (St × V)) (fs : List St) : Prop where
  keys : ∀ s ∈ ks, s ∈ g2.map (·.1) ↔ s ∈ gr.map (·.1) ∨ seen s
  fsm : ∀ s, s ∈ fs ↔ s ∈ ks ∧ s ∉ gr.map (·.1) ∧ seen s
  ent : ∀ p ∈ g2, p ∈ gr ∨ (p.2 = .int ((r + 1 : Nat) : Int) ∧ p.1 ∈ fs)
  sub : ∀ p ∈ g2, p.1 ∈ ks
  len : g2.length = gr.length + fs.length
theorem FlI.congr {ks : List St} {r : Nat} {gr : List (St × V)} {seen seen' : St → Prop} {g2 : List (St × V)} {fs : List St} (h : FlI ks r gr seen g2 fs) (e : ∀ s ∈ ks, seen s ↔ seen' s) : FlI ks r gr seen' g2 fs :=
  ⟨fun s hs => (h.keys s hs).trans (or_congr Iff.rfl (e s hs)), fun s => by
    rw [h.fsm s]
    exact ⟨fun z => ⟨z.1, z.2.1, (e s z.1).mp z.2.2⟩, fun z => ⟨z.1, z.2.1, (e s z.1).mpr z.2.2⟩⟩, h.ent, h.sub, h.len⟩
theorem FlI.old {ks : List St} {r : Nat} {gr : List (St × V)} {seen : St → Prop} {g2 : List (St × V)} {fs : List St} {b : St} (h : FlI ks r gr seen g2 fs) (hb : b ∈ g2.map (·.1)) : FlI ks r gr (fun s => seen s ∨ s = b) g2 fs := by
  obtain ⟨p, hp, e⟩ := List.mem_map.mp hb
  have hbk : b ∈ ks := e ▸ h.sub p hp
  have hs := (h.keys b hbk).mp hb
  refine ⟨fun s hk => (h.keys s hk).trans ⟨fun z => z.imp id .inl, ?_⟩, fun s => (h.fsm s).trans ⟨fun z => ⟨z.1, z.2.1, .inl z.2.2⟩, ?_⟩, h.ent, h.sub, h.len⟩
  · rintro (z | z | z)
    · exact .inl z
    · exact .inr z
    · rw [z]; exact hs
  · rintro ⟨z1, z2, z3 | z3⟩
    · exact ⟨z1, z2, z3⟩
    · rw [z3] at z2 ⊢
      exact ⟨hbk, z2, hs.resolve_left z2⟩
theorem FlI.add {ks : List St} {r : Nat} {gr : List (St × V)} {seen : St → Prop} {g2 : List (St × V)} {fs : List St} {b : St} (h : FlI ks r gr seen g2 fs) (hbk : b ∈ ks) (hb : b ∉ g2.map (·.1)) : FlI ks r gr (fun s => seen s ∨ s = b) (putK g2 b (.int ((r + 1 : Nat) : Int))) (fs ++ [b]) := by
  have hn : ¬ (b ∈ gr.map (·.1) ∨ seen b) := fun z => hb ((h.keys b hbk).mpr z)
  refine ⟨fun s hk => ?_, fun s => ?_, fun p hp => ?_, fun p hp => ?_, by rw [putK_len hb, h.len, List.length_append, List.length_singleton]; omega⟩
  · rw [mem_keys_putK, h.keys s hk, or_assoc]
  · rw [List.mem_append, List.mem_singleton, h.fsm s]
    constructor
    · rintro (z | z)
      · exact ⟨z.1, z.2.1, .inl z.2.2⟩
      · rw [z]; exact ⟨hbk, fun y => hn (.inl y), .inr rfl⟩
    · rintro ⟨z1, z2, z3 | z3⟩
      · exact .inl ⟨z1, z2, z3⟩
      · exact .inr z3
  · rcases mem_putK hp with ⟨z, _⟩ | z
    · exact (h.ent p z).imp id fun y => ⟨y.1, List.mem_append.mpr (.inl y.2)⟩
    · rw [z]; exact .inr ⟨rfl, by simp⟩
  · rcases mem_putK hp with ⟨z, _⟩ | z
    · exact h.sub p z
    · rw [z]; exact hbk
/-- a layer is done -/
theorem FlI.done {hd : St → Bool} {mv : St → List St} {ks : List St} {r : Nat} {gr g2 : List (St × V)} {fs lyr : List St} (h : FlI ks r gr (fun s => ∃ t ∈ lyr, t ∈ mv s) g2 fs) (R : RkI hd mv ks r gr) (hl : ∀ s, s ∈ lyr ↔ s ∈ ks ∧ Exact hd mv r s) (hk : ∀ s ∈ ks, ∀ t ∈ mv s, t ∈ ks) (hr : r < gr.length) :
    RkI hd mv ks (r + 1) g2 ∧ (∀ s, s ∈ fs ↔ s ∈ ks ∧ Exact hd mv (r + 1) s) ∧ (fs ≠ [] → r + 1 < g2.length) := by
  have key : ∀ s ∈ ks, s ∈ g2.map (·.1) ↔ Dist hd mv (r + 1) s := fun s hs => by
    rw [h.keys s hs, R.iff s hs, Dist.layer]
    refine or_congr Iff.rfl ⟨fun ⟨t, h1, h2⟩ => ⟨t, h2, ((hl t).mp h1).2⟩, fun ⟨t, h1, h2⟩ => ⟨t, (hl t).mpr ⟨hk s hs t h1, h2⟩, h1⟩⟩
  have fse : ∀ s, s ∈ fs ↔ s ∈ ks ∧ Exact hd mv (r + 1) s := fun s => by
    rw [h.fsm s]
    constructor
    · rintro ⟨h1, h2, h3⟩
      refine ⟨h1, (key s h1).mp ((h.keys s h1).mpr (.inr h3)), fun m hm z => h2 ((R.iff s h1).mpr (z.mono (by omega)))⟩
    · rintro ⟨h1, h2⟩
      have z : s ∉ gr.map (·.1) := fun y => h2.2 r (Nat.lt_succ_self _) ((R.iff s h1).mp y)
      exact ⟨h1, z, ((h.keys s h1).mp ((key s h1).mpr h2.1)).resolve_left z⟩
  have fl : fs ≠ [] → r + 1 < g2.length := fun z => by
    have : 0 < fs.length := List.length_pos_iff.mpr z
    rw [h.len]
    omega
  refine ⟨⟨h.sub, key, fun p hp => ?_⟩, fse, fl⟩
  rcases h.ent p hp with z | ⟨z1, z2⟩
  · obtain ⟨n, h1, h2, h3⟩ := R.val p z
    exact ⟨n, h1, h2, by rw [h.len]; omega⟩
  · exact ⟨r + 1, z1, ((fse _).mp z2).2, fl (fun y => by rw [y] at z2; cases z2)⟩
theorem DN.key {w : World} {H : Hp} {a : Addr} {xs : DX} {ep : Nat} (d : DN w H a xs ep) {z : NestedKey × Addr × V} (hz : z ∈ xs) {st : St} (e : z.1 = KS.k st) : TN H z.2.1 st := rp_st' (e ▸ (d.keys z hz).1)
end G6
end
section
set_option maxHeartbeats 4000000
set_option Elab.async false
set_option linter.all false
set_option maxRecDepth 100000
namespace G6
open PySem PySem.Spec PyProof.Rows L2 PySem.W
section
variable {P : Program} {w : World} {K : PySem.W.Frag} {mg : Str → Option Value} {base : Heap}
theorem r_wis {H : Hp} {Q : VK} {E : XK} {f a b : Addr} {F : FoldD} {st : St} {wd : WishD} (hF : FoldAt K H f F) (ha : TN H a st) (hb : H b = some (.tup (wishV wd))) (ok : FOk F st.length) (hw : WishOk F wd) (k : ∀ H', Same H H' → Q (.bl (holds F wd st)) H') : sp_wis K ([.ref f, .ref a, .ref b] ++ []) H Q E := ⟨f, a, b, F, st, wd, rfl, hF, ha, hb, ok, hw, k⟩
theorem sc_rank_states : FnScope ["folding", "graph", "wish", "ahead", "state", "after", "layer", "ranks", "rank", "following", "before"] ["folding", "graph", "wish"] (defScope s_rank_states) := ⟨rfl, rfl, rfl, by decide +kernel, rfl, by decide +kernel, by decide +kernel⟩
def sp_rs (K : PySem.W.Frag) (w : World) : Sp := fun vs H Q _ => ∃ (f gA b : Addr) (F : FoldD) (wd : WishD) (n : Nat) (mv : St → List St) (g : List (St × V)), vs = [.ref f, .ref gA, .ref b] ∧ FoldAt K H f F ∧ H b = some (.tup (wishV wd)) ∧ WishOk F wd ∧ FOk F n ∧ GD w KS H gA g ∧ g.length ≤ 60000 ∧
  (∀ p ∈ g, p.1.length = n ∧ (∃ R, SuccV H R p.2 (mv p.1)) ∧ (mv p.1).length ≤ 16 ∧ ∀ s ∈ mv p.1, s ∈ g.map (·.1)) ∧
  ∀ H' rA gr, Same H H' → GD w KS H' rA gr → (∀ p ∈ gr, p.1 ∈ g.map (·.1)) → (∀ s ∈ g.map (·.1), (s ∈ gr.map (·.1) ↔ ∃ n, Dist (holds F wd) mv n s)) → (∀ p ∈ gr, ∃ n : Nat, p.2 = .int (n : Int) ∧ Exact (holds F wd) mv n p.1 ∧ n ≤ 60000) → Q (.ref rA) H'
theorem ok_rank_states (T : TX K mg) : C8.Cal P w K mg base 3 "rank_states" (sp_rs K w) [] := by
  have c_wish_in_state := ok_wish_in_state (P := P) (w := w) (base := base) T
  obtain ⟨fd, F⟩ := T.F_rank_states
  refine ⟨_, fd, ["folding", "graph", "wish"], [], ?_, T.g_rank_states, F.kp, (F.bindsN (fun _ _ _ _ _ _ us hl => match us, hl with | [_, _, _], _ => rfl)), .nil⟩
  refine F.ok sc_rank_states (fun vs H Q E h => ?_) (fun cdv A outer s H vs Q E hr h => ?_)
  · obtain ⟨f, gA, b, F, wd, n, mv, g, rfl, _⟩ := h
    rfl
  · obtain ⟨f, gA, b, F, wd, n, mv, g, rfl, hF, hb, hw, ok, hg, hgl, hall, k⟩ := h
    obtain ⟨xs, ep, hx, hxl, hxg⟩ := walk_G hg
    have hnd := hg.nd
    have kl : (g.map (·.1)).length = g.length := List.length_map ..
    refine ⟨_, PSs.nox (pss_cons (ps_setDcN (j := 3) (own := [("state", 4)]) (g := gName 4) hr.u80 (by rfl) sc_rank_states.nd rfl rfl (sw_dict rfl rfl rfl (by decide +kernel)) (pi_N' w rfl (pv 1)) (blkOk_by (own := [("state", 4)]) (N := ["folding", "graph", "wish", "ahead", "state", "after", "layer", "ranks", "rank", "following", "before"]) (sc := defScope s_rank_states) (by decide +kernel)) (fun _ _ _ _ _ => (pg_name (i := 4) sc_rank_states.nd rfl (.inl rfl))) (fun _ _ _ _ _ => pts_nil) (fun _ _ _ _ _ => (pv 4)) (fun _ _ _ _ _ => (pe_lst pa_nil)))
      (pss_cons (ps_for PassesOwn.never rfl (pi_N' w rfl (pv 1)) (pg_name (i := 4) sc_rank_states.nd rfl (.inl rfl)) (pss_one (ps_for PassesOwn.never rfl (pi_list' K rfl (pe_nget' w rfl hr.units (pv 1) (pv 4) (fun _ _ => rfl))) (pg_name (i := 5) sc_rank_states.nd rfl (.inl rfl)) (pss_one (ps_expr (pe_bm' K rfl PySem.F.plainAttrs_list PySem.F.slot_list_append PySem.F.type_list_append mt_append (pe_nget' w rfl hr.units (pv 3) (pv 5) (fun _ _ => rfl)) (pa_cons (pv 4) pa_nil)))))))
      (pss_cons (ps_setLc (i := 6) (own := [("state", 4)]) (g := gName 4) (by rfl) sc_rank_states.nd rfl rfl (sw_true rfl rfl rfl (by decide +kernel)) (pi_N' w rfl (pv 1)) (blkOk_by (own := [("state", 4)]) (N := ["folding", "graph", "wish", "ahead", "state", "after", "layer", "ranks", "rank", "following", "before"]) (sc := defScope s_rank_states) (by decide +kernel)) (fun _ _ _ _ _ => (pg_name (i := 4) sc_rank_states.nd rfl (.inl rfl))) (fun _ _ _ _ _ => (pts_one (pt_val (C8.pe_c (c_wish_in_state) hr (by omega) (by rfl) (pa_cons (pv 0) (pa_cons (pv 4) (pa_cons (pv 2) pa_nil))))))) (fun _ _ _ _ _ => (pv 4)))
      (pss_cons (ps_setDcN (j := 7) (own := [("state", 4)]) (g := gName 4) hr.u80 (by rfl) sc_rank_states.nd rfl rfl (sw_dict rfl rfl rfl (by decide +kernel)) (pi_list' K rfl (pv 6)) (blkOk_by (own := [("state", 4)]) (N := ["folding", "graph", "wish", "ahead", "state", "after", "layer", "ranks", "rank", "following", "before"]) (sc := defScope s_rank_states) (by decide +kernel)) (fun _ _ _ _ _ => (pg_name (i := 4) sc_rank_states.nd rfl (.inl rfl))) (fun _ _ _ _ _ => pts_nil) (fun _ _ _ _ _ => (pv 4)) (fun _ _ _ _ _ => pe_int))
      (pss_cons (ps_set (i := 8) sc_rank_states.nd rfl (.inl rfl) pe_int)
      (pss_cons (ps_while PassesOwn.never (pt_tru' K rfl (pv 6) (by intro _; rfl)) (pss_cons (ps_aug (i := 8) sc_rank_states.nd rfl (.inl rfl) pe_int ip_add)
      (pss_cons (ps_set (i := 9) sc_rank_states.nd rfl (.inl rfl) (pe_lst pa_nil))
      (pss_cons (ps_for PassesOwn.never rfl (pi_list' K rfl (pv 6)) (pg_name (i := 4) sc_rank_states.nd rfl (.inl rfl)) (pss_one (ps_for PassesOwn.never rfl (pi_list' K rfl (pe_nget' w rfl hr.units (pv 3) (pv 4) (fun _ _ => rfl))) (pg_name (i := 10) sc_rank_states.nd rfl (.inl rfl)) (pss_one (ps_if (pt_cmpR (op_notInN' w rfl hr.units) (pv 10) (pv 7) (by rfl)) (pss_cons (ps_asg (pv 8) (pg_sub (pv 7) (pv 10) (set_N' w rfl hr.units)))
      (pss_one (ps_expr (pe_bm' K rfl PySem.F.plainAttrs_list PySem.F.slot_list_append PySem.F.type_list_append mt_append (pv 9) (pa_cons (pv 10) pa_nil))))) pss_nil)))))
      (pss_one (ps_set (i := 6) sc_rank_states.nd rfl (.inl rfl) (pe_callTy (call_listK' K rfl) (by rfl) T.f_list (by decide +kernel) (pa_cons (pv 9) pa_nil))))))))
      (pss_one (ps_ret (pv 7))))))))), ?_⟩
    try dsimp only [cxOf]
    walk_at "WK"
    refine r_ink hx ?_
    refine dcn_J walk_N (fun Dd i H' => Same H H' ∧ ∃ Ls, AhI w H H' Dd ((g.map (·.1)).take i) Ls (List.replicate i [])) (fun Dd hd hdn => ⟨same_new hd, [], ⟨GD.nil hdn, rfl, .nil, List.nodup_nil, (fun _ z => by cases z), hd⟩⟩) (fun Dd i H' _ h => hx.same h.1) ?_ ?_
    · rintro Dd i y Ha Hb hi ⟨s1, Ls, A1⟩ ⟨rfl, z, hz, rfl⟩
      obtain ⟨⟨st, v⟩, hp⟩ := getElem?_of_lt (ls := g) (i := i) (by omega)
      obtain ⟨z', hz', hz1, hz2⟩ := hxg hp
      rw [hz] at hz'
      cases hz'
      have hks : (g.map (·.1))[i]? = some st := by rw [List.getElem?_map, hp]; rfl
      have hst := hx.key (List.mem_of_getElem? hz) hz1
      walk_at "WK"
      intro l hl
      have sL := same_new hl (o := .lst [])
      have A2 := A1.same sL
      have hl2 : upd Hb l (.lst []) l = some (.lst []) := upd_same
      have hlLs : l ∉ Ls := fun z => by
        obtain ⟨j, hj⟩ := List.getElem?_of_mem z
        obtain ⟨pl, _, as, h1, _⟩ := A1.all.getL hj
        exact ne_of_none h1 hl rfl
      have hst2 := sL _ _ (s1 _ _ hst)
      refine r_putG A2.gd (rp_st hst2) (lt_szM (by
        rw [List.length_zipWith, List.length_take]
        omega)) fun o' g' t' => ⟨same_of (s1.trans sL) A1.newA, Ls ++ [l], ?_⟩
      have z := A2.add (k := st) hl2 (s1.free hl) hlLs (nodup_take' hnd hks) g' t'
      rw [List.take_add_one, hks, List.replicate_succ']
      exact z
    · rintro Dd H1 ⟨s1, Ls, A1⟩
      rw [hxl, List.take_of_length_le (by omega)] at A1
      have hx1 := hx.same s1
      walk_at "WK"
      refine r_ink hx1 ?_
      refine for_N (fun i σ H' => ∃ y4 y5, σ = [some (.ref f), some (.ref gA), some (.ref b), some (.ref Dd), y4, y5, none, none, none, none, none] ∧ Same H H' ∧ ∃ pls, AhI w H H' Dd (g.map (·.1)) Ls pls ∧ (∀ pl ∈ pls, pl.length ≤ 16 * i) ∧ ∀ (j : Nat) pl k, pls[j]? = some pl → (g.map (·.1))[j]? = some k → ∀ s, s ∈ pl ↔ s ∈ (g.map (·.1)).take i ∧ k ∈ mv s)
        ⟨_, _, rfl, s1, _, A1, fun pl hpl => by rw [(List.mem_replicate.mp hpl).2]; exact Nat.zero_le _, fun j pl k h1 _ s => by rw [(List.mem_replicate.mp (List.mem_of_getElem? h1)).2]; simp⟩ (fun i σ H' _ h => by obtain ⟨_, _, _, s2, _⟩ := h; exact hx.same s2) ?_ ?_
      · rintro i z σ H2 hz ⟨y4, y5, rfl, s2, pls, A2, hpb, hpm⟩
        have hi := (List.getElem?_eq_some_iff.mp hz).1
        obtain ⟨⟨st, v⟩, hp⟩ := getElem?_of_lt (ls := g) (i := i) (by omega)
        obtain ⟨z', hz', hz1, hz2⟩ := hxg hp
        rw [hz] at hz'
        cases hz'
        have hpm1 := List.mem_of_getElem? hp
        have hks : (g.map (·.1))[i]? = some st := by rw [List.getElem?_map, hp]; rfl
        have hst := hx.key (List.mem_of_getElem? hz) hz1
        obtain ⟨hln, ⟨R, L, as, rfl, hLR, hL, hLA⟩, hm16, hmk⟩ := hall _ hpm1
        have hst2 := s2 _ _ hst
        have hL2 := s2 _ _ hL
        walk_at "WK"
        refine r_ngetG (hg.same s2) (rp_st hst2) (valV_get hnd hp) ?_
        walk_at "WK"
        refine for_L (xs := refs as) (fun j σ H' => ∃ y5, σ = [some (.ref f), some (.ref gA), some (.ref b), some (.ref Dd), some (.ref z.2.1), y5, none, none, none, none, none] ∧ Same H H' ∧ ∃ pls, AhI w H H' Dd (g.map (·.1)) Ls pls ∧ (∀ pl ∈ pls, pl.length ≤ 16 * i + j) ∧ ∀ (a : Nat) pl k, pls[a]? = some pl → (g.map (·.1))[a]? = some k → ∀ s, s ∈ pl ↔ (s ∈ (g.map (·.1)).take i ∧ k ∈ mv s) ∨ (s = st ∧ k ∈ (mv st).take j))
          ⟨_, rfl, s2, pls, A2, by simpa using hpb, fun a pl k h1 h2 s => by rw [hpm a pl k h1 h2 s]; simp⟩ (fun j σ H' _ h => by obtain ⟨_, _, s3, _⟩ := h; exact s3 _ _ hL) ?_ ?_
        · rintro j y σ H3 hy ⟨y5, rfl, s3, pls3, A3, hpb3, hpm3⟩
          obtain ⟨ka, hka, rfl⟩ := refs_inv hy
          obtain ⟨k', hk', hkT⟩ := hLA.getL hka
          have hkk := hmk k' (List.mem_of_getElem? hk')
          have hkT3 := s3 _ _ hkT
          have hst3 := s3 _ _ hst
          obtain ⟨q, hq⟩ := List.getElem?_of_mem hkk
          obtain ⟨Lq, plq, hLq, hplq, hval, asq, ha1, ha2⟩ := A3.at hnd hq
          have hbq := hpb3 plq (List.mem_of_getElem? hplq)
          have hj := (List.getElem?_eq_some_iff.mp hk').1
          walk_at "WK"
          refine r_ngetG A3.gd (rp_st hkT3) hval ?_
          walk_at "WK"
          refine r_append ha1 (lt_szM (by have := ha2.len; rw [List.length_map]; omega)) ?_
          refine ⟨_, rfl, same_of s3 (A3.new Lq (List.mem_of_getElem? hLq)), _, A3.push hLq hplq ha1 ha2 hst3, ?_, ?_⟩
          · intro pl hpl
            rcases List.mem_or_eq_of_mem_set hpl with h | h
            · have := hpb3 pl h
              omega
            · rw [h, List.length_append, List.length_singleton]
              omega
          · intro a pl kk h1 h2 s
            have tk : kk ∈ (mv st).take (j + 1) ↔ kk ∈ (mv st).take j ∨ kk = k' := by
              rw [List.take_add_one, hk']
              simp
            by_cases haq : q = a
            · subst haq
              rw [List.getElem?_set_self (List.getElem?_eq_some_iff.mp hplq).1] at h1
              cases h1
              have hkk2 : kk = k' := Option.some.inj (h2.symm.trans hq)
              rw [List.mem_append, List.mem_singleton, hpm3 q plq kk hplq h2 s, tk]
              constructor
              · rintro ((h | h) | h)
                · exact .inl h
                · exact .inr ⟨h.1, .inl h.2⟩
                · exact .inr ⟨h, .inr hkk2⟩
              · rintro (h | ⟨h, h3 | h3⟩)
                · exact .inl (.inl h)
                · exact .inl (.inr ⟨h, h3⟩)
                · exact .inr h
            · rw [List.getElem?_set_ne haq] at h1
              rw [hpm3 a pl kk h1 h2 s, tk]
              have hne : kk ≠ k' := fun z => by
                rw [z] at h2
                obtain ⟨p1, q1⟩ := List.getElem?_eq_some_iff.mp h2
                obtain ⟨p2, q2⟩ := List.getElem?_eq_some_iff.mp hq
                exact haq ((List.getElem_inj hnd).mp (q2.trans q1.symm))
              constructor
              · rintro (h | h)
                · exact .inl h
                · exact .inr ⟨h.1, .inl h.2⟩
              · rintro (h | ⟨h, h3 | h3⟩)
                · exact .inl h
                · exact .inr ⟨h, h3⟩
                · exact absurd h3 hne
        · rintro σ H3 ⟨y5, rfl, s3, pls3, A3, hpb3, hpm3⟩
          rw [List.length_map] at hpb3 hpm3
          have hasl := hLA.len
          refine ⟨_, _, rfl, s3, pls3, A3, fun pl hpl => by have := hpb3 pl hpl; omega, fun a pl kk h1 h2 s => ?_⟩
          rw [hpm3 a pl kk h1 h2 s, hasl, List.take_length, List.take_add_one, hks]
          constructor
          · rintro (h | ⟨h, h3⟩)
            · exact ⟨by simp [h.1], h.2⟩
            · rw [h]
              exact ⟨by simp, h3⟩
          · rintro ⟨h, h3⟩
            rcases List.mem_append.mp h with h | h
            · exact .inl ⟨h, h3⟩
            · have e : s = st := by simpa using h
              rw [e] at h3 ⊢
              exact .inr ⟨rfl, h3⟩
      · rintro σ H2 ⟨y4, y5, rfl, s2, pls, A2, hpb, hpm⟩
        rw [hxl] at hpb
        rw [hxl, List.take_of_length_le (by omega)] at hpm
        have hmvk : ∀ s ∈ g.map (·.1), ∀ t ∈ mv s, t ∈ g.map (·.1) := fun s hs => by
          obtain ⟨p, hp, rfl⟩ := List.mem_map.mp hs
          exact (hall p hp).2.2.2
        have hg2 := hg.same s2
        have hx2 := hx.same s2
        walk_at "WK"
        refine r_ink hx2 ?_
        refine lc_N (fun D i H' => Same H2 H' ∧ H2 D = none ∧ ∃ as, H' D = some (.lst (refs as)) ∧ All2 (fun a st => TN H' a st) as (((g.map (·.1)).take i).filter (holds F wd))) (fun D hD => ⟨same_new hD, hD, [], upd_same, .nil⟩) (fun D i H' _ h => hx2.same h.1) ?_ ?_
        · rintro D i z H3 hz ⟨s3, nD, as, hD, hA⟩
          have hi := (List.getElem?_eq_some_iff.mp hz).1
          obtain ⟨⟨st, v⟩, hp⟩ := getElem?_of_lt (ls := g) (i := i) (by omega)
          obtain ⟨z', hz', hz1, hz2⟩ := hxg hp
          rw [hz] at hz'
          cases hz'
          have hks : (g.map (·.1))[i]? = some st := by rw [List.getElem?_map, hp]; rfl
          have hst := hx.key (List.mem_of_getElem? hz) hz1
          have hln := (hall _ (List.mem_of_getElem? hp)).1
          have s03 := s2.trans s3
          have tk : ((g.map (·.1)).take (i + 1)).filter (holds F wd) = ((g.map (·.1)).take i).filter (holds F wd) ++ (if holds F wd st = true then [st] else []) := by
            rw [List.take_add_one, hks, List.filter_append]
            simp [List.filter_cons]
          walk_at "WK"
          refine r_wis (hF.ext s03) (s03 _ _ hst) (s03 _ _ hb) (by rw [show st.length = n from hln]; exact ok) hw fun H4 s4 => ?_
          have hD4 := s4 _ _ hD
          have hA4 := hA.imp fun a st r => s4 _ _ r
          have hst4 := s4 _ _ (s03 _ _ hst)
          walk_at "WK"
          by_cases hh : holds F wd st = true
          · refine r_ifT2 hh ?_
            walk_at "WK"
            refine r_eltk hD4 (lt_szM (by
              have h1 := hA4.len
              have h2 := List.length_filter_le (holds F wd) ((g.map (·.1)).take i)
              rw [List.length_take] at h2
              rw [List.length_map]
              omega)) ?_
            refine ⟨same_of (s3.trans s4) nD, nD, as ++ [z.2.1], by rw [upd_same]; simp [refs], ?_⟩
            rw [tk, if_pos hh]
            exact All2.snoc (hA4.imp fun a st r => (upd_ne (ne_tl r hD4)).trans r) ((upd_ne (ne_tl hst4 hD4)).trans hst4)
          · refine r_ifF2 (by simpa using hh) ?_
            refine ⟨s3.trans s4, nD, as, hD4, ?_⟩
            rw [tk, if_neg hh, List.append_nil]
            exact hA4
        · rintro LA H3 ⟨s3, nLA, las, hLA, hLAA⟩
          rw [hxl, List.take_of_length_le (by omega)] at hLAA
          have A3 := A2.same s3
          have hLALs : LA ∉ Ls := fun z => by
            obtain ⟨j, hj⟩ := List.getElem?_of_mem z
            obtain ⟨pl, _, as, h1, _⟩ := A2.all.getL hj
            exact ne_of_none h1 nLA rfl
          have s03 := s2.trans s3
          have lnd : ((g.map (·.1)).filter (holds F wd)).Nodup := hnd.filter _
          have lle := List.length_filter_le (holds F wd) (g.map (·.1))
          have lyE : ∀ s, s ∈ (g.map (·.1)).filter (holds F wd) ↔ s ∈ g.map (·.1) ∧ Exact (holds F wd) mv 0 s := fun s => by
            rw [List.mem_filter]
            exact ⟨fun z => ⟨z.1, z.2, fun m hm => absurd hm (Nat.not_lt_zero _)⟩, fun z => ⟨z.1, z.2.1⟩⟩
          generalize (g.map (·.1)).filter (holds F wd) = lay at hLAA lnd lle lyE ⊢
          walk_at "WK"
          refine dcn_J (walk_list (xs := refs las)) (fun Dr i H' => Same H3 H' ∧ H3 Dr = none ∧ GD w KS H' Dr ((lay.take i).map fun s => (s, V.int 0))) (fun Dr hd hdn => ⟨same_new hd, hd, GD.nil hdn⟩) (fun Dr i H' _ h => SqL.of (h.1 _ _ hLA)) ?_ ?_
          · rintro Dr i y Ha Hb hi ⟨s4, nr, gd⟩ ⟨rfl, hy⟩
            obtain ⟨a, ha, rfl⟩ := refs_inv hy
            obtain ⟨st, hst, hT⟩ := hLAA.getL ha
            walk_at "WK"
            refine r_putG gd (rp_st (s4 _ _ hT)) (lt_szM (by rw [List.length_map, List.length_take]; omega)) fun o' g' t' => ⟨same_of s4 nr, nr, ?_⟩
            rw [putK_new (by
              rw [List.map_map]
              show st ∉ (lay.take i).map fun s => s
              rw [List.map_id']
              exact nodup_take' lnd hst)] at g'
            rw [List.take_add_one, hst, List.map_append]
            exact g'
          · rintro rA H4 ⟨s4, nr, gr0⟩
            rw [List.length_map, hLAA.len, List.take_length] at gr0
            have s04 := s03.trans s4
            have A4 := A3.same s4
            have hLA4 := s4 _ _ hLA
            have hLAA4 := hLAA.imp fun a st r => s4 _ _ r
            have nrH := s03.free nr
            have keys0 : (lay.map fun s => ((s, V.int 0) : St × V)).map (·.1) = lay := by rw [List.map_map]; exact List.map_id' lay
            have hrkA : rA ≠ Dd := A3.gd.neN nr
            have hLALs4 := hLALs
            walk_at "WK"
            refine wh_L (fun m σ H' => ∃ y4 y5 y9 y10 r lyr gr LA las, σ = [some (.ref f), some (.ref gA), some (.ref b), some (.ref Dd), y4, y5, some (.ref LA), some (.ref rA), some (.int ((r : Nat) : Int)), y9, y10] ∧ Same H H' ∧ AhI w H H' Dd (g.map (·.1)) Ls pls ∧ H' LA = some (.lst (refs las)) ∧ All2 (fun a st => TN H' a st) las lyr ∧ GD w KS H' rA gr ∧ RkI (holds F wd) mv (g.map (·.1)) r gr ∧ (∀ s, s ∈ lyr ↔ s ∈ g.map (·.1) ∧ Exact (holds F wd) mv r s) ∧ (lyr ≠ [] → r < gr.length) ∧ m = 2 * (g.length - gr.length) + (if lyr = [] then 0 else 1)) (m := 2 * (g.length - lay.length) + (if lay = [] then 0 else 1))
              ⟨_, _, _, _, 0, lay, _, LA, las, rfl, s04, A4, hLA4, hLAA4, gr0, ⟨fun p hp => by
                obtain ⟨s, hs, rfl⟩ := List.mem_map.mp hp
                exact ((lyE s).mp hs).1, fun s hs => by
                rw [keys0, lyE s]
                exact ⟨fun z => z.2.1, fun z => ⟨hs, z, fun m hm => absurd hm (Nat.not_lt_zero _)⟩⟩, fun p hp => by
                obtain ⟨s, hs, rfl⟩ := List.mem_map.mp hp
                exact ⟨0, rfl, ((lyE s).mp hs).2, by rw [List.length_map]; exact List.length_pos_of_mem hs⟩⟩, lyE, fun z => by rw [List.length_map]; exact List.length_pos_iff.mpr z, by rw [List.length_map]⟩ ?_ ?_ ?_
            · rintro m σ H' ⟨y4, y5, y9, y10, r, lyr, gr, LA, las, rfl, s5, A5, h1, h2, gd, R, hl, hr, em⟩
              exact ⟨LA, refs las, rfl, h1⟩
            · rintro m σ H5 rr yy ys ⟨y4, y5, y9, y10, r, lyr, gr, LA2, las, rfl, s5, A5, h1, h2, gd, R, hl, hr, em⟩ hrr hys
              cases hrr
              have hne : lyr ≠ [] := fun z => by
                have e1 := HO.lst.inj (Option.some.inj (h1.symm.trans hys))
                have e2 := congrArg List.length e1
                rw [List.length_map, h2.len, z, List.length_append] at e2
                simp at e2
              have hr' := hr hne
              have grl : gr.length ≤ g.length := by
                have := nodup_sub_len gd.nd (ys := g.map (·.1)) fun x hx => by
                  obtain ⟨p, hp, rfl⟩ := List.mem_map.mp hx
                  exact R.sub p hp
                rwa [List.length_map, List.length_map] at this
              walk_at "WK"
              intro FA hFA
              have sF := same_new hFA (o := .lst [])
              have A6 := A5.same sF
              have gd6 := gd.same sF
              have h16 := sF _ _ h1
              have h26 := h2.imp fun a st r => sF _ _ r
              have hF6 : upd H5 FA (.lst []) FA = some (.lst (refs [])) := upd_same
              have s6 := s5.trans sF
              have nFA := s5.free hFA
              have nFL : FA ≠ rr := (ne_of_none h1 hFA).symm
              have nFr : FA ≠ rA := gd.neN hFA
              have nFD : FA ≠ Dd := A5.gd.neN hFA
              have nFLs : FA ∉ Ls := fun z => by
                obtain ⟨j, hj⟩ := List.getElem?_of_mem z
                obtain ⟨pl, _, as, h1, _⟩ := A5.all.getL hj
                exact ne_of_none h1 hFA rfl
              generalize upd H5 FA (.lst []) = H6 at A6 gd6 h16 h26 hF6 s6 ⊢
              walk_at "WK"
              refine for_L (xs := refs las) (fun i σ H' => ∃ y4 y10 gr2 fs fas, σ = [some (.ref f), some (.ref gA), some (.ref b), some (.ref Dd), y4, y5, some (.ref rr), some (.ref rA), some (.int ((r : Nat) + 1 : Int)), some (.ref FA), y10] ∧ Same H H' ∧ AhI w H H' Dd (g.map (·.1)) Ls pls ∧ H' rr = some (.lst (refs las)) ∧ All2 (fun a st => TN H' a st) las lyr ∧ GD w KS H' rA gr2 ∧ H' FA = some (.lst (refs fas)) ∧ All2 (fun a st => TN H' a st) fas fs ∧ FlI (g.map (·.1)) r gr (fun s => ∃ t ∈ lyr.take i, t ∈ mv s) gr2 fs)
                ⟨_, _, gr, [], [], rfl, s6, A6, h16, h26, gd6, hF6, .nil, ⟨fun s _ => by simp, fun s => by simp, fun p hp => .inl hp, R.sub, rfl⟩⟩ (fun i σ H' _ h => by obtain ⟨_, _, _, _, _, _, _, _, h, _⟩ := h; exact h) ?_ ?_
              · rintro i y σ H7 hy ⟨y4, y10, gr2, fs, fas, rfl, s7, A7, h17, h27, gd7, hF7, hf7, I7⟩
                obtain ⟨a, ha, rfl⟩ := refs_inv hy
                obtain ⟨st, hst, hT⟩ := h27.getL ha
                have hstk := ((hl st).mp (List.mem_of_getElem? hst)).1
                obtain ⟨q, hq⟩ := List.getElem?_of_mem hstk
                obtain ⟨Lq, plq, hLq, hplq, hval, asq, ha1, ha2⟩ := A7.at hnd hq
                have hpl := hpm q plq st hplq hq
                have hplb := hpb plq (List.mem_of_getElem? hplq)
                have nLqF : Lq ≠ FA := fun z => nFLs (z ▸ List.mem_of_getElem? hLq)
                have tk : ∀ s, (∃ t ∈ lyr.take (i + 1), t ∈ mv s) ↔ (∃ t ∈ lyr.take i, t ∈ mv s) ∨ st ∈ mv s := fun s => by
                  rw [List.take_add_one, hst]
                  simp only [List.mem_append, Option.toList_some, List.mem_singleton]
                  constructor
                  · rintro ⟨t, h | h, h3⟩
                    · exact .inl ⟨t, h, h3⟩
                    · exact .inr (h ▸ h3)
                  · rintro (⟨t, h, h3⟩ | h)
                    · exact ⟨t, .inl h, h3⟩
                    · exact ⟨st, .inr rfl, h⟩
                walk_at "WK"
                refine r_ngetG A7.gd (rp_st hT) hval ?_
                walk_at "WK"
                refine for_L (xs := refs asq) (fun j σ H' => ∃ y10 gr2 fs fas, σ = [some (.ref f), some (.ref gA), some (.ref b), some (.ref Dd), some (.ref a), y5, some (.ref rr), some (.ref rA), some (.int ((r : Nat) + 1 : Int)), some (.ref FA), y10] ∧ Same H H' ∧ AhI w H H' Dd (g.map (·.1)) Ls pls ∧ H' rr = some (.lst (refs las)) ∧ All2 (fun a st => TN H' a st) las lyr ∧ GD w KS H' rA gr2 ∧ H' FA = some (.lst (refs fas)) ∧ All2 (fun a st => TN H' a st) fas fs ∧ H' Lq = some (.lst (refs asq)) ∧ All2 (fun a st => TN H' a st) asq plq ∧ FlI (g.map (·.1)) r gr (fun s => (∃ t ∈ lyr.take i, t ∈ mv s) ∨ s ∈ plq.take j) gr2 fs)
                  ⟨_, gr2, fs, fas, rfl, s7, A7, h17, h27, gd7, hF7, hf7, ha1, ha2, I7.congr fun s _ => by simp⟩ (fun j σ H' _ h => by obtain ⟨_, _, _, _, _, _, _, _, _, _, _, _, h, _⟩ := h; exact h) ?_ ?_
                · rintro j y σ H8 hy ⟨y10, gr3, fs3, fas3, rfl, s8, A8, h18, h28, gd8, hF8, hf8, hq8, hq82, I8⟩
                  obtain ⟨ba, hba, rfl⟩ := refs_inv hy
                  obtain ⟨bs, hbs, hbT⟩ := hq82.getL hba
                  have hbk := ((hpl bs).mp (List.mem_of_getElem? hbs)).1
                  have g3l : gr3.length ≤ g.length := by
                    have := nodup_sub_len gd8.nd (ys := g.map (·.1)) fun x hx => by
                      obtain ⟨p, hp, rfl⟩ := List.mem_map.mp hx
                      exact I8.sub p hp
                    rwa [List.length_map, List.length_map] at this
                  have fl3 := I8.len
                  have tj : ∀ s ∈ g.map (·.1), ((∃ t ∈ lyr.take i, t ∈ mv s) ∨ s ∈ plq.take j) ∨ s = bs ↔ (∃ t ∈ lyr.take i, t ∈ mv s) ∨ s ∈ plq.take (j + 1) := fun s _ => by
                    rw [List.take_add_one, hbs, or_assoc]
                    simp
                  walk_at "WK"
                  refine r_ninG gd8 (rp_st hbT) ?_
                  by_cases hin : bs ∈ gr3.map (·.1)
                  · rw [valV_in hin]
                    walk_at "WK"
                    exact ⟨_, gr3, fs3, fas3, rfl, s8, A8, h18, h28, gd8, hF8, hf8, hq8, hq82, (I8.old hin).congr tj⟩
                  · rw [valV_nin hin]
                    walk_at "WK"
                    refine r_setG gd8 (rp_st hbT) (lt_szM (by omega)) fun o9 gd9 t9 => ?_
                    obtain ⟨φ, hφ⟩ := gd8.at_
                    have ntup : ∀ vs, H8 rA ≠ some (.tup vs) := fun vs e => by rw [hφ] at e; cases e
                    have nrLs : rA ∉ Ls := fun z => by
                      obtain ⟨j, hj⟩ := List.getElem?_of_mem z
                      obtain ⟨pl, _, as, h1, _⟩ := A8.all.getL hj
                      rw [hφ] at h1
                      cases h1
                    have A9 := A8.mut (o := o9) hrkA nrLs ntup
                    have s9 := same_of s8 nrH (o := o9)
                    have h19 : upd H8 rA o9 rr = _ := (upd_ne (gd8.neL h18)).trans h18
                    have hF9 : upd H8 rA o9 FA = _ := (upd_ne (gd8.neL hF8)).trans hF8
                    have hq9 : upd H8 rA o9 Lq = _ := (upd_ne (gd8.neL hq8)).trans hq8
                    have h29 := h28.imp fun a st r => t9 _ _ r
                    have hf9 := hf8.imp fun a st r => t9 _ _ r
                    have hq92 := hq82.imp fun a st r => t9 _ _ r
                    have hbT9 := t9 _ _ hbT
                    generalize upd H8 rA o9 = H9 at gd9 t9 A9 s9 h19 hF9 hq9 h29 hf9 hq92 hbT9 ⊢
                    walk_at "WK"
                    refine r_append hF9 (lt_szM (by have := hf9.len; rw [List.length_map]; omega)) ?_
                    have tF : TupSame H9 (upd H9 FA (.lst (refs fas3 ++ [.ref ba]))) := TupSame.mut fun vs e => by rw [hF9] at e; cases e
                    exact ⟨_, _, fs3 ++ [bs], fas3 ++ [ba], rfl, same_of s9 nFA, A9.mut nFD nFLs (fun vs e => by rw [hF9] at e; cases e), (upd_ne nFL.symm).trans h19, h29.imp fun a st r => tF _ _ r, gd9.keepL hF9, by rw [upd_same]; simp [refs], All2.snoc (hf9.imp fun a st r => tF _ _ r) (tF _ _ hbT9), (upd_ne nLqF).trans hq9, hq92.imp fun a st r => tF _ _ r, (I8.add hbk hin).congr tj⟩
                · rintro σ H8 ⟨y10, gr3, fs3, fas3, rfl, s8, A8, h18, h28, gd8, hF8, hf8, hq8, hq82, I8⟩
                  rw [List.length_map, ha2.len, List.take_length] at I8
                  exact ⟨_, _, gr3, fs3, fas3, rfl, s8, A8, h18, h28, gd8, hF8, hf8, I8.congr fun s hs => by
                    rw [tk s, hpl s]
                    exact or_congr Iff.rfl ⟨fun z => z.2, fun z => ⟨hs, z⟩⟩⟩
              · rintro σ H7 ⟨y4, y10, gr2, fs, fas, rfl, s7, A7, h17, h27, gd7, hF7, hf7, I7⟩
                rw [List.length_map, h26.len, List.take_length] at I7
                obtain ⟨R2, hl2, hr2⟩ := I7.done R hl hmvk hr'
                have g2l : gr2.length ≤ g.length := by
                  have := nodup_sub_len gd7.nd (ys := g.map (·.1)) fun x hx => by
                    obtain ⟨p, hp, rfl⟩ := List.mem_map.mp hx
                    exact I7.sub p hp
                  rwa [List.length_map, List.length_map] at this
                have fl2 := I7.len
                walk_at "WK"
                intro LB hLB
                have sB := same_new hLB (o := .lst (refs fas))
                rw [if_neg hne] at em
                refine ⟨_, ?_, y4, _, _, _, r + 1, fs, gr2, LB, fas, rfl, s7.trans sB, A7.same sB, upd_same, hf7.imp fun a st r => sB _ _ r, gd7.same sB, R2, hl2, hr2, rfl⟩
                by_cases hfe : fs = []
                · rw [if_pos hfe]
                  rw [hfe] at fl2
                  simp at fl2
                  omega
                · rw [if_neg hfe]
                  have := List.length_pos_iff.mpr hfe
                  omega
            · rintro m σ H5 rr ⟨y4, y5, y9, y10, r, lyr, gr, LA, las, rfl, s5, A5, h1, h2, gd, R, hl, hr, em⟩ hrr hys
              cases hrr
              have hne : lyr = [] := by
                have e1 := HO.lst.inj (Option.some.inj (h1.symm.trans hys))
                cases las with
                | nil => cases h2; rfl
                | cons _ _ => cases e1
              subst hne
              have hex : ∀ s ∈ g.map (·.1), ¬ Exact (holds F wd) mv r s := fun s hs z => by
                have := (hl s).mpr ⟨hs, z⟩
                cases this
              have grl : gr.length ≤ g.length := by
                have := nodup_sub_len gd.nd (ys := g.map (·.1)) fun x hx => by
                  obtain ⟨p, hp, rfl⟩ := List.mem_map.mp hx
                  exact R.sub p hp
                rwa [List.length_map, List.length_map] at this
              walk_at "WK"
              refine k _ rA gr s5 gd R.sub (fun s hs => ?_) (fun p hp => ?_)
              · rw [R.iff s hs]
                exact ⟨fun z => ⟨r, z⟩, fun ⟨n, z⟩ => Dist.closed hmvk hex n s hs z⟩
              · obtain ⟨n, z1, z2, z3⟩ := R.val p hp
                exact ⟨n, z1, z2, by omega⟩
end
end G6
end
section
set_option maxHeartbeats 4000000
set_option Elab.async false
set_option linter.all false
set_option maxRecDepth 100000
namespace G6
open PySem PySem.Spec PyProof.Rows L2 PySem.W
theorem Exact.pred {hd : St → Bool} {mv : St → List St} {n : Nat} {s : St} (h : Exact hd mv (n + 1) s) : ∃ t ∈ mv s, Exact hd mv n t :=
  (Dist.layer.mp h.1).resolve_left (h.2 n (Nat.lt_succ_self _))
theorem Exact.uniq {hd : St → Bool} {mv : St → List St} {n m : Nat} {s : St} (h : Exact hd mv n s) (h' : Exact hd mv m s) : n = m := by
  rcases Nat.lt_trichotomy n m with z | z | z
  · exact absurd h.1 (h'.2 n z)
  · exact z
  · exact absurd h'.1 (h.2 m z)
section
variable {K : PySem.W.Frag} {H : Hp} {x C dx : Addr} {fs : List (Str × V)}
theorem dr_tup (hx : H x = some (.ins C dx fs)) : TupSame H (dr H x) := fun b vs e => by
  rw [dr_ne (fun z => by rw [z, hx] at e; cases e)]
  exact e
theorem dr_lst (hx : H x = some (.ins C dx fs)) {a : Addr} {xs : List V} (h : H a = some (.lst xs)) : dr H x a = some (.lst xs) := by
  rw [dr_ne (ne_li h hx)]
  exact h
theorem FoldAt.drop {f : Addr} {F : FoldD} (h : FoldAt K H f F) (hx : H x = some (.ins C dx fs)) (n : ∀ a b c d, fs ≠ f_Folding a b c d) : FoldAt K (dr H x) f F := by
  obtain ⟨dx', nA, nr, ho, hu, h1, h2, h3, h4, h5⟩ := h
  have nf : f ≠ x := fun z => by
    rw [z, hx] at h1
    cases h1
    exact n _ _ _ _ rfl
  obtain ⟨as, g1, g2⟩ := h3
  exact ⟨dx', nA, nr, ho, hu, by rw [dr_ne nf]; exact h1, dr_tup hx _ _ h2, ⟨as, dr_lst hx g1, g2.imp fun _ _ r => dr_lst hx r⟩, dr_lst hx h4, dr_tup hx _ _ h5⟩
theorem CpT.drop {as : List Addr} {ps : List (Nat × Nat)} (h : CpT H as ps) (hx : H x = some (.ins C dx fs)) : CpT (dr H x) as ps := h.extT (dr_tup hx)
theorem GD.drop {κ : Type} [DecidableEq κ] {w : World} {KF : KeyF κ} {a : Addr} {g : List (κ × V)} (d : GD w KF H a g) (hx : H x = some (.ins C dx fs)) : GD w KF (dr H x) a g := d.ext (dr_ne (d.neI hx).symm) (dr_tup hx)
theorem SuccV.drop {R : Addr} {v : V} {ss : List (List Nat)} (h : SuccV H R v ss) (hx : H x = some (.ins C dx fs)) : SuccV (dr H x) R v ss := by
  obtain ⟨L, as, h1, h2, h3, h4⟩ := h
  exact ⟨L, as, h1, h2, dr_lst hx h3, h4.imp fun _ _ r => dr_tup hx _ _ r⟩
end
theorem r_keysG {κ : Type} [DecidableEq κ] {w : World} {KF : KeyF κ} {H : Hp} {a : Addr} {g : List (κ × V)} {Q : VK} (d : GD w KF H a g) (k : ∀ p, H p = none → Q (.ref p) (upd H p (viewO p a))) : KeysK w Q (.ref a) H := by
  obtain ⟨xs, ep, h1, h2⟩ := d
  exact r_keysN h1 k
/-- a search as it stands -/
structure SrAt (K : PySem.W.Frag) (w : World) (H : Hp) (x : Addr) (F : FoldD) (ps : List (Nat × Nat)) (wd : WishD) (n : Nat) (fA pA gA rA : Addr) (pas : List Addr) (g gr : List (St × V)) : Prop where
  at_ : ∃ dx, H x = some (.ins (He.ga K "Search") dx (f_Search (.ref fA) (.ref pA) (.ref gA) (.ref rA)))
  fold : FoldAt K H fA F
  pl : H pA = some (.lst (refs pas))
  pc : CpT H pas ps
  gd : GD w KS H gA g
  rd : GD w KS H rA gr
  st : F.hues ∈ g.map (·.1)
  ok : FOk F n
  gp : ∀ p ∈ g, p.1.length = n ∧ (∃ R, SuccV H R p.2 (mvs F ps p.1)) ∧ ∀ s ∈ mvs F ps p.1, s ∈ g.map (·.1)
  gl : g.length ≤ 60000
  rs : ∀ p ∈ gr, p.1 ∈ g.map (·.1)
  ri : ∀ s ∈ g.map (·.1), (s ∈ gr.map (·.1) ↔ ∃ n, Dist (holds F wd) (mvs F ps) n s)
  rv : ∀ p ∈ gr, ∃ n : Nat, p.2 = .int (n : Int) ∧ Exact (holds F wd) (mvs F ps) n p.1 ∧ n ≤ 60000
theorem SrAt.ext {K : PySem.W.Frag} {w : World} {H H' : Hp} {x : Addr} {F : FoldD} {ps : List (Nat × Nat)} {wd : WishD} {n : Nat} {fA pA gA rA : Addr} {pas : List Addr} {g gr : List (St × V)} (h : SrAt K w H x F ps wd n fA pA gA rA pas g gr) (s : Same H H') : SrAt K w H' x F ps wd n fA pA gA rA pas g gr :=
  ⟨by obtain ⟨dx, e⟩ := h.at_; exact ⟨dx, s _ _ e⟩, h.fold.ext s, s _ _ h.pl, h.pc.ext s, h.gd.same s, h.rd.same s, h.st, h.ok, fun p hp => ⟨(h.gp p hp).1, by obtain ⟨R, z⟩ := (h.gp p hp).2.1; exact ⟨R, z.ext s⟩, (h.gp p hp).2.2⟩, h.gl, h.rs, h.ri, h.rv⟩
section
variable {P : Program} {w : World} {K : PySem.W.Frag} {mg : Str → Option Value} {base : Heap}
theorem r_chch {H : Hp} {Q : VK} {E : XK} {p a b : Addr} {d : PicD} {ms hs : List Nat} (hp : PicAt K H p d) (ha : LN H a ms) (hb : LN H b hs) (om : MsOk ms 2 d.mks.length) (oh : MsOk hs 4 100)
    (k : ∀ H' q x y, Same H H' → H' q = some (.tup [.ref x, .ref y]) → TN H' x (srt ms) → TN H' y (srt hs) → Q (.ref q) H') : sp_chch K ([.ref p, .ref a, .ref b] ++ []) H Q E := ⟨p, a, b, d, ms, hs, rfl, hp, ha, hb, om, oh, k⟩
theorem r_chw {H : Hp} {Q : VK} {E : XK} {p a : Addr} {d : PicD} {wd : WishD} (hp : PicAt K H p d) (ha : H a = some (.tup (wishV wd))) (hw : WishG d wd) (k : ∀ H' q, Same H H' → H' q = some (.tup (wishV wd)) → Q (.ref q) H') : sp_chw K ([.ref p, .ref a] ++ []) H Q E := ⟨p, a, d, wd, rfl, hp, ha, hw, k⟩
theorem r_fp {H : Hp} {Q : VK} {E : XK} {p : Addr} {d : PicD} {most : Nat} (hp : PicAt K H p d) (hw : PicW d) (hm : d.col.length ≤ most) (k : ∀ H' a, Same H H' → FoldAt K H' a (foldP d) → Q (.ref a) H') : sp_fp K ([.ref p, .int (most : Int)] ++ []) H Q E := ⟨p, d, most, rfl, hp, hw, hm, k⟩
theorem r_lp {H : Hp} {Q : VK} {E : XK} {a b : Addr} {ms hs : List Nat} (ha : TN H a ms) (hb : TN H b hs) (h1 : ms.length ≤ 10) (h2 : hs.length ≤ 10) (k : ∀ H' q as, Same H H' → H' q = some (.lst (refs as)) → CpT H' as (poursOf ms hs) → Q (.ref q) H') : sp_lp K ([.ref a, .ref b] ++ []) H Q E := ⟨a, b, ms, hs, rfl, ha, hb, h1, h2, k⟩
theorem sc_Search_init : FnScope ["self", "picture", "chosen", "colours", "wish", "marks", "hues", "due"] ["self", "picture", "chosen", "colours", "wish"] (defScope s_Search_init) := ⟨rfl, rfl, rfl, by decide +kernel, rfl, by decide +kernel, by decide +kernel⟩
def sp_search (K : PySem.W.Frag) (w : World) : Sp := fun vs H Q _ => ∃ (x dx p a b c : Addr) (d : PicD) (ms hs : List Nat) (wd : WishD) (n : Nat) (U : List St) (H0 : Hp), vs = [.ref x, .ref p, .ref a, .ref b, .ref c] ∧ Same H0 H ∧ H0 x = none ∧ H x = some (.ins (He.ga K "Search") dx []) ∧ PicAt K H0 p d ∧ PicW d ∧ d.col.length ≤ 10 ∧ LN H0 a ms ∧ LN H0 b hs ∧ H0 c = some (.tup (wishV wd)) ∧ MsOk ms 2 d.mks.length ∧ MsOk hs 4 100 ∧ WishG d wd ∧
  FOk (foldP d) n ∧ WishOk (foldP d) wd ∧ UniS (foldP d) (poursOf (srt ms) (srt hs)) n U ∧ (foldP d).homes.length = d.mks.length ∧
  ∀ H' fA pA gA rA pas g gr, Same H0 H' → SrAt K w H' x (foldP d) (poursOf (srt ms) (srt hs)) wd n fA pA gA rA pas g gr → Q .non H'
theorem ok_Search_init (T : TX K mg) : C8.Mak P w K mg base 6 "Search" (He.ga K "Search") (sp_search K w) [] := by
  have c_check_choice := ok_check_choice (P := P) (w := w) (base := base) T
  have c_check_wish := ok_check_wish (P := P) (w := w) (base := base) T
  have c_folded_patches := ok_folded_patches (P := P) (w := w) (base := base) T
  have c_list_pours := ok_list_pours (P := P) (w := w) (base := base) T
  have c_close_states := ok_close_states (P := P) (w := w) (base := base) T
  have c_rank_states := ok_rank_states (P := P) (w := w) (base := base) T
  obtain ⟨fd, F⟩ := T.F_Search_init
  refine ⟨_, fd, ["self", "picture", "chosen", "colours", "wish"], [], T.m_Search, ?_, T.g_Search, (F.bindsN (fun _ _ _ _ _ _ us hl => match us, hl with | [_, _, _, _, _], _ => rfl)), .nil⟩
  refine F.ok sc_Search_init (fun vs H Q E h => ?_) (fun cdv A outer s H vs Q E hr h => ?_)
  · obtain ⟨x, dx, p, a, b, c, d, ms, hs, wd, n, U, H0, rfl, _⟩ := h
    rfl
  · obtain ⟨x, dx, p, a, b, c, d, ms, hs, wd, n, U, H0, rfl, s0, nx, hx, hp, hw, hc10, ha, hb, hc, om, oh, hwg, fok, hwo, hU, hhl, k⟩ := h
    have lms : (srt ms).length = ms.length := (srt_perm ms).length_eq
    have lhs : (srt hs).length = hs.length := (srt_perm hs).length_eq
    have om2 := om.l2
    have oh2 := oh.l2
    have hpl : ∀ p ∈ poursOf (srt ms) (srt hs), p.1 < (foldP d).homes.length := fun p hp => by
      obtain ⟨m, hm, hp⟩ := List.mem_flatMap.mp hp
      obtain ⟨h, _, rfl⟩ := List.mem_map.mp hp
      rw [hhl]
      exact om.b m ((srt_perm ms).mem_iff.mp hm)
    have hpn : (poursOf (srt ms) (srt hs)).length ≤ 16 := by
      rw [poursOf_len, lms, lhs]
      have : ms.length * hs.length ≤ 2 * 4 := Nat.mul_le_mul om2 oh2
      omega
    obtain ⟨c10, hc10v, t10, rfl⟩ := T.c_MOST_PATCHES
    refine ⟨_, PSs.nox (pss_cons (ps_asg (C8.pe_c (c_check_choice) hr (by omega) (by rfl) (pa_cons (pv 1) (pa_cons (pv 2) (pa_cons (pv 3) pa_nil)))) (pg_tup' (n := 2) K rfl (by rfl) (pgs_cons (pg_name (i := 5) sc_Search_init.nd rfl (.inl rfl)) (pgs_cons (pg_name (i := 6) sc_Search_init.nd rfl (.inl rfl)) pgs_nil)) (by rfl)))
      (pss_cons (ps_set (i := 7) sc_Search_init.nd rfl (.inl rfl) (C8.pe_c (c_check_wish) hr (by omega) (by rfl) (pa_cons (pv 1) (pa_cons (pv 4) pa_nil))))
      (pss_cons (ps_fld (pv 0) (C8.pe_c (c_folded_patches) hr (by omega) (by rfl) (pa_cons (pv 1) (pa_cons (C8.pe_gc (by rfl) T.c_MOST_PATCHES) pa_nil))) rfl)
      (pss_cons (ps_fld (pv 0) (C8.pe_c (c_list_pours) hr (by omega) (by rfl) (pa_cons (pv 5) (pa_cons (pv 6) pa_nil))) rfl)
      (pss_cons (ps_fld (pv 0) (C8.pe_c (c_close_states) hr (by omega) (by rfl) (pa_cons (pe_fld' K rfl (pv 0) rfl) (pa_cons (pe_fld' K rfl (pv 0) rfl) pa_nil))) rfl)
      (pss_one (ps_fld (pv 0) (C8.pe_c (c_rank_states) hr (by omega) (by rfl) (pa_cons (pe_fld' K rfl (pv 0) rfl) (pa_cons (pe_fld' K rfl (pv 0) rfl) (pa_cons (pv 7) pa_nil)))) rfl))))))), ?_⟩
    try dsimp only [cxOf]
    walk_at "WK"
    refine r_chch (hp.ext s0) (s0 _ _ ha) (s0 _ _ hb) om oh fun H1 q m1 h1 s1 hq hm1 hh1 => ?_
    have s01 := s0.trans s1
    have hx1 := s1 _ _ hx
    walk_at "WK"
    refine r_chw (hp.ext s01) (s01 _ _ hc) hwg fun H2 du s2 hdu => ?_
    have s02 := s01.trans s2
    have hx2 := s2 _ _ hx1
    have hm2 := s2 _ _ hm1
    have hh2 := s2 _ _ hh1
    walk_at "WK"
    refine r_fp (most := 10) (hp.ext s02) hw hc10 fun H3 fA s3 hF3 => ?_
    have hx3 := s3 _ _ hx2
    walk_at "WK"
    have D3 := dr_of (s02.trans s3) nx
    have tD3 := dr_tup hx3
    have hm3 := tD3 _ _ (s3 _ _ hm2)
    have hh3 := tD3 _ _ (s3 _ _ hh2)
    have hdu3 := tD3 _ _ (s3 _ _ hdu)
    have hF4 := hF3.drop hx3 (fun _ _ _ _ e => by cases e)
    have u3 : Same (dr H3 x) (upd H3 x (.ins (He.ga K "Search") dx [("folding", .ref fA)])) := dr_up
    refine r_lp (u3 _ _ hm3) (u3 _ _ hh3) (by omega) (by omega) fun H4 pA pas s4 hpA hpC => ?_
    have hx4 := s4 _ _ upd_same
    have D34 := dr_step (Same.refl (dr H3 x)) s4
    have hpA4 := dr_lst hx4 hpA
    have hpC4 := hpC.drop hx4
    walk_at "WK"
    have hx5 : upd H4 x (.ins (He.ga K "Search") dx [("folding", .ref fA), ("pours", .ref pA)]) x = some (.ins (He.ga K "Search") dx [("folding", .ref fA), ("pours", .ref pA)]) := upd_same
    have u4 : Same (dr H4 x) (upd H4 x (.ins (He.ga K "Search") dx [("folding", .ref fA), ("pours", .ref pA)])) := dr_up
    walk_at "WK"
    refine r_fldk hx5 T.k_Search T.n_Search_folding rfl ?_
    walk_at "WK"
    refine r_fldk hx5 T.k_Search T.n_Search_pours rfl ?_
    walk_at "WK"
    refine ⟨fA, pA, foldP d, _, pas, n, U, rfl, hF4.ext (D34.trans u4), u4 _ _ hpA4, hpC4.ext u4, fok, hU, hpl, by omega, fun H5 gA g s5 hg hst hgp => ?_⟩
    have hx6 := s5 _ _ hx5
    have D45 := dr_step (Same.refl (dr H4 x)) s5
    have hg5 := hg.drop hx6
    walk_at "WK"
    have hx7 : upd H5 x (.ins (He.ga K "Search") dx [("folding", .ref fA), ("pours", .ref pA), ("graph", .ref gA)]) x = some (.ins (He.ga K "Search") dx [("folding", .ref fA), ("pours", .ref pA), ("graph", .ref gA)]) := upd_same
    have u5 : Same (dr H5 x) (upd H5 x (.ins (He.ga K "Search") dx [("folding", .ref fA), ("pours", .ref pA), ("graph", .ref gA)])) := dr_up
    walk_at "WK"
    refine r_fldk hx7 T.k_Search T.n_Search_folding rfl ?_
    walk_at "WK"
    refine r_fldk hx7 T.k_Search T.n_Search_graph rfl ?_
    walk_at "WK"
    have D35 := D34.trans D45
    have hgl : g.length ≤ 60000 := by
      have z := nodup_sub_len hg.nd (ys := U) fun y hy => by
        obtain ⟨p, hp, rfl⟩ := List.mem_map.mp hy
        exact (hgp p hp).1
      rw [List.length_map] at z
      have := hU.sz
      omega
    have gp5 : ∀ p ∈ g, p.1.length = n ∧ (∃ R, SuccV (dr H5 x) R p.2 (mvs (foldP d) (poursOf (srt ms) (srt hs)) p.1)) ∧ ∀ s ∈ mvs (foldP d) (poursOf (srt ms) (srt hs)) p.1, s ∈ g.map (·.1) := fun p hp => by
      obtain ⟨z1, ⟨R, z2⟩, z3⟩ := hgp p hp
      exact ⟨hU.ln _ z1, ⟨R, z2.drop hx6⟩, z3⟩
    refine ⟨fA, gA, du, foldP d, wd, n, mvs (foldP d) (poursOf (srt ms) (srt hs)), g, rfl, hF4.ext (D35.trans u5), u5 _ _ (D35 _ _ hdu3), hwo, fok, hg5.same u5, hgl, fun p hp => ?_, fun H6 rA gr s6 hrd hrs hri hrv => ?_⟩
    · obtain ⟨z1, ⟨R, z2⟩, z3⟩ := gp5 p hp
      exact ⟨z1, ⟨R, z2.ext u5⟩, by rw [mvs, List.length_map]; exact hpn, z3⟩
    · have hx8 := s6 _ _ hx7
      have D56 := dr_step (Same.refl (dr H5 x)) s6
      have hrd6 := hrd.drop hx8
      walk_at "WK"
      have u6 : Same (dr H6 x) (upd H6 x (.ins (He.ga K "Search") dx (f_Search (.ref fA) (.ref pA) (.ref gA) (.ref rA)))) := dr_up
      have D36 := D35.trans D56
      have D46 := D45.trans D56
      exact k _ fA pA gA rA pas g gr ((D3.trans D36).trans u6) ⟨⟨dx, upd_same⟩, hF4.ext (D36.trans u6), u6 _ _ (D46 _ _ hpA4), hpC4.ext (D46.trans u6), hg5.same (D56.trans u6), hrd6.same u6, hst, fok, fun p hp => by
        obtain ⟨z1, ⟨R, z2⟩, z3⟩ := gp5 p hp
        exact ⟨z1, ⟨R, z2.ext (D56.trans u6)⟩, z3⟩, hgl, hrs, hri, hrv⟩
end
end G6
end
section
set_option maxHeartbeats 4000000
set_option Elab.async false
set_option linter.all false
set_option maxRecDepth 100000
namespace G6
open PySem PySem.Spec PyProof.Rows L2 PySem.W
theorem valV_mem' {κ : Type} [DecidableEq κ] {g : List (κ × V)} {k : κ} {v : V} (h : valV g k = some v) : (k, v) ∈ g := by
  unfold valV at h
  obtain ⟨p, hp, e⟩ := Option.map_eq_some_iff.mp h
  have h1 := List.mem_of_find?_eq_some hp
  have h2 := List.find?_some hp
  have h3 : p.1 = k := of_decide_eq_true h2
  have : p = (k, v) := Prod.ext h3 e
  rw [← this]
  exact h1
theorem valV_ex {κ : Type} [DecidableEq κ] {g : List (κ × V)} {k : κ} (h : k ∈ g.map (·.1)) : ∃ v, valV g k = some v ∧ (k, v) ∈ g := by
  have := valV_in h
  cases e : valV g k with
  | none => rw [e] at this; cases this
  | some v => exact ⟨v, rfl, valV_mem' e⟩
section
variable {K : PySem.W.Frag} {w : World} {H : Hp} {x : Addr} {F : FoldD} {ps : List (Nat × Nat)} {wd : WishD} {n : Nat} {fA pA gA rA : Addr} {pas : List Addr} {g gr : List (St × V)}
theorem SrAt.rank (h : SrAt K w H x F ps wd n fA pA gA rA pas g gr) {st : St} {m : Nat} (hs : st ∈ g.map (·.1)) (he : Exact (holds F wd) (mvs F ps) m st) : valV gr st = some (.int (m : Int)) := by
  obtain ⟨v, hv, hm⟩ := valV_ex ((h.ri st hs).mpr ⟨m, he.1⟩)
  obtain ⟨n', e1, e2, _⟩ := h.rv _ hm
  rw [hv]
  have : n' = m := e2.uniq he
  rw [← this]
  exact congrArg some e1
theorem SrAt.succ (h : SrAt K w H x F ps wd n fA pA gA rA pas g gr) {st : St} (hs : st ∈ g.map (·.1)) : ∃ L as, valV g st = some (.ref L) ∧ H L = some (.lst (refs as)) ∧ All2 (fun a st => TN H a st) as (mvs F ps st) := by
  obtain ⟨v, hv, hm⟩ := valV_ex hs
  obtain ⟨_, ⟨R, L, as, h1, h2, h3, h4⟩, _⟩ := h.gp _ hm
  have h1 : v = .ref L := h1
  subst h1
  exact ⟨L, as, hv, h3, h4⟩
end
/-- a step that leads on -/
def GoodT (H : Hp) (t : Addr) (hd : St → Bool) (mv : St → List St) (ks : List St) (m : Nat) : Prop := ∃ p b st, H t = some (.tup [.ref p, .ref b]) ∧ TN H b st ∧ st ∈ ks ∧ Exact hd mv m st
theorem GoodT.ext {H H' : Hp} {t : Addr} {hd : St → Bool} {mv : St → List St} {ks : List St} {m : Nat} (h : GoodT H t hd mv ks m) (s : TupSame H H') : GoodT H' t hd mv ks m := by
  obtain ⟨p, b, st, h1, h2, h3, h4⟩ := h
  exact ⟨p, b, st, s _ _ h1, s _ _ h2, h3, h4⟩
section
variable {P : Program} {w : World} {K : PySem.W.Frag} {mg : Str → Option Value} {base : Heap}
theorem sc_Search_following : FnScope ["self", "state", "rank", "steps", "pour", "after"] ["self", "state"] (defScope s_Search_following) := ⟨rfl, rfl, rfl, by decide +kernel, rfl, by decide +kernel, by decide +kernel⟩
def sp_fol (K : PySem.W.Frag) (w : World) : Sp := fun vs H Q _ => ∃ (x a : Addr) (st : St) (m : Nat) (F : FoldD) (ps : List (Nat × Nat)) (wd : WishD) (n : Nat) (fA pA gA rA : Addr) (pas : List Addr) (g gr : List (St × V)), vs = [.ref x, .ref a] ∧ SrAt K w H x F ps wd n fA pA gA rA pas g gr ∧ TN H a st ∧ st ∈ g.map (·.1) ∧ Exact (holds F wd) (mvs F ps) (m + 1) st ∧ ps.length ≤ 1000 ∧
  ∀ H' L ts, Same H H' → H' L = some (.lst (refs ts)) → ts ≠ [] → (∀ t ∈ ts, GoodT H' t (holds F wd) (mvs F ps) (g.map (·.1)) m) → Q (.ref L) H'
theorem ok_following (T : TX K mg) : C8.Met P w K mg base 1 (He.ga K "Search") "following" (sp_fol K w) [] := by
  obtain ⟨fd, F⟩ := T.F_Search_following
  refine ⟨_, fd, ["self", "state"], [], T.k_Search, T.t_Search_following, ?_, (F.bindsN (fun _ _ _ _ _ _ us hl => match us, hl with | [_, _], _ => rfl)), .nil⟩
  refine F.ok sc_Search_following (fun vs H Q E h => ?_) (fun cdv A outer s H vs Q E hr h => ?_)
  · obtain ⟨x, a, st, m, F, ps, wd, n, fA, pA, gA, rA, pas, g, gr, rfl, _⟩ := h
    rfl
  · obtain ⟨x, a, st, m, F, ps, wd, n, fA, pA, gA, rA, pas, g, gr, rfl, S, ha, hst, he, hpl, k⟩ := h
    obtain ⟨dx, hx⟩ := S.at_
    obtain ⟨L, as, hv1, hL, hLA⟩ := S.succ hst
    have hrk := S.rank hst he
    have hpA := S.pl
    refine ⟨_, PSs.nox (pss_cons (ps_set (i := 2) sc_Search_following.nd rfl (.inr rfl) (pe_op op_sub (pe_nget' w rfl hr.units (pe_fld' K rfl (pv 0) rfl) (pv 1) (fun _ _ => rfl)) pe_int))
      (pss_cons (ps_set (i := 3) sc_Search_following.nd rfl (.inl rfl) (pe_zipv (K := K) rfl (by rfl) T.f_zip (pa_cons (pe_fld' K rfl (pv 0) rfl) (pa_cons (pe_nget' w rfl hr.units (pe_fld' K rfl (pv 0) rfl) (pv 1) (fun _ _ => rfl)) pa_nil))))
      (pss_one (ps_ret (pe_lc (own := [("pour", 4), ("after", 5)]) (by rfl) sc_Search_following.nd (pi_zipv (K := K) (k := 3) rfl rfl (.inl rfl)) (blkOk_by (own := [("pour", 4), ("after", 5)]) (N := ["self", "state", "rank", "steps", "pour", "after"]) (sc := defScope s_Search_following) (by decide +kernel)) (fun _ _ _ _ _ => (pg_tup' (n := 2) K rfl (by rfl) (pgs_cons (pg_name (i := 4) sc_Search_following.nd rfl (.inl rfl)) (pgs_cons (pg_name (i := 5) sc_Search_following.nd rfl (.inl rfl)) pgs_nil)) (by rfl))) (fun _ _ _ _ _ => (pts_one (PW.pt (pw_and (pt_cmpR (op_inN' w rfl hr.units) (pv 5) (pe_fld' K rfl (pv 0) rfl) (by rfl)) (pw_and1 (pt_cmpR op_eq (pe_nget' w rfl hr.units (pe_fld' K rfl (pv 0) rfl) (pv 5) (fun _ _ => rfl)) (pv 2) (nomark _))))))) (fun _ _ _ _ _ => (pe_tup (pa_cons (pv 4) (pa_cons (pv 5) pa_nil))))))))), ?_⟩
    try dsimp only [cxOf]
    walk_at "WK"
    refine r_ngetG S.rd (rp_st ha) hrk ?_
    walk_at "WK"
    rw [show (((m + 1 : Nat) : Int) - 1) = (m : Int) by omega]
    walk_at "WK"
    refine r_ngetG S.gd (rp_st ha) hv1 ?_
    walk_at "WK"
    refine r_zipk hpA hL fun z hz1 hz2 hz3 hz4 => ?_
    walk_at "WK"
    refine ⟨z, pA, L, H, _, _, rfl, rfl, hz1, hz2, hz3, hz4, .of hpA, .of hL, ?_⟩
    have hpc := S.pc
    have l1 := hpc.len
    have l2 := hLA.len
    rw [mvs, List.length_map] at l2
    refine lc_J (walk_zip (n := ps.length) (by rw [List.length_map, List.length_map]; omega)) (fun D i H' => Same H H' ∧ H D = none ∧ ∃ ts, H' D = some (.lst (refs ts)) ∧ ts.length ≤ i ∧ (∀ t ∈ ts, GoodT H' t (holds F wd) (mvs F ps) (g.map (·.1)) m) ∧ ∀ j s, j < i → (mvs F ps st)[j]? = some s → Exact (holds F wd) (mvs F ps) m s → ts ≠ [])
      (fun D hD => ⟨same_new hD, hD, [], upd_same, Nat.le_refl _, (fun _ z => by cases z), fun j s hj => absurd hj (Nat.not_lt_zero _)⟩) (fun D i H' _ h => ⟨.of (h.1 _ _ hpA), .of (h.1 _ _ hL)⟩) ?_ ?_
    · rintro D i y H1 H2 hi ⟨s1, nD, ts, hD, htl, hgt, hne⟩ ⟨T1, x1, x2, rfl, hT1, rfl, e1, e2⟩
      obtain ⟨pa, hpa, rfl⟩ := refs_inv e1
      obtain ⟨aa, haa, rfl⟩ := refs_inv e2
      obtain ⟨s', hs', hsT⟩ := hLA.getL haa
      have sT := same_new hT1 (o := .tup [.ref pa, .ref aa])
      have s2 := s1.trans sT
      have hs'k : s' ∈ g.map (·.1) := by
        obtain ⟨p, hp, e⟩ := List.mem_map.mp hst
        rw [← e] at hs'
        exact (S.gp p hp).2.2 _ (List.mem_of_getElem? hs')
      have hD2 := sT _ _ hD
      have hx2 := s2 _ _ hx
      have hT2 : upd H1 T1 (.tup [.ref pa, .ref aa]) T1 = some (.tup [.ref pa, .ref aa]) := upd_same
      have hsT2 := s2 _ _ hsT
      have rd2 := S.rd.same s2
      have hgt2 : ∀ t ∈ ts, GoodT (upd H1 T1 (.tup [.ref pa, .ref aa])) t (holds F wd) (mvs F ps) (g.map (·.1)) m := fun t ht => (hgt t ht).ext (Same.tups sT)
      have hT1H := s1.free hT1
      generalize upd H1 T1 (.tup [.ref pa, .ref aa]) = H2 at s2 hD2 hx2 hT2 hsT2 rd2 hgt2 sT ⊢
      have skip : ¬ Exact (holds F wd) (mvs F ps) m s' → Same H H2 ∧ H D = none ∧ ∃ ts, H2 D = some (.lst (refs ts)) ∧ ts.length ≤ i + 1 ∧ (∀ t ∈ ts, GoodT H2 t (holds F wd) (mvs F ps) (g.map (·.1)) m) ∧ ∀ j s, j < i + 1 → (mvs F ps st)[j]? = some s → Exact (holds F wd) (mvs F ps) m s → ts ≠ [] := fun hne' =>
        ⟨s2, nD, ts, hD2, by omega, hgt2, fun j s hj h1 h2 => by
          rcases Nat.lt_or_ge j i with z | z
          · exact hne j s z h1 h2
          · have : j = i := by omega
            subst this
            rw [hs'] at h1
            cases h1
            exact absurd h2 hne'⟩
      walk_at "WK"
      refine r_inG rd2 (rp_st hsT2) ?_
      by_cases hin : s' ∈ gr.map (·.1)
      · rw [valV_in hin]
        walk_at "WK"
        obtain ⟨v, hv, hvm⟩ := valV_ex hin
        obtain ⟨n', e3, e4, _⟩ := S.rv _ hvm
        have e3 : v = .int (n' : Int) := e3
        subst e3
        have e4 : Exact (holds F wd) (mvs F ps) n' s' := e4
        refine r_ngetG rd2 (rp_st hsT2) hv ?_
        walk_at "WK"
        by_cases hnm : n' = m
        · subst hnm
          refine r_ifT2 (decide_eq_true rfl) ?_
          walk_at "WK"
          intro t2 ht2
          have s3 := same_new ht2 (o := .tup [.ref pa, .ref aa])
          have hD3 := s3 _ _ hD2
          refine r_eltk hD3 (lt_sz (by rw [List.length_map]; omega)) ?_
          have nt2D : t2 ≠ D := (ne_of_none hD2 ht2).symm
          have tD : TupSame (upd H2 t2 (.tup [.ref pa, .ref aa])) (upd (upd H2 t2 (.tup [.ref pa, .ref aa])) D (.lst (refs ts ++ [.ref t2]))) := TupSame.mut fun vs e => by rw [hD3] at e; cases e
          refine ⟨same_of (s2.trans s3) nD, nD, ts ++ [t2], by rw [upd_same]; simp [refs], by rw [List.length_append, List.length_singleton]; omega, fun t ht => ?_, fun _ _ _ _ _ z => by simp at z⟩
          rcases List.mem_append.mp ht with z | z
          · exact ((hgt2 t z).ext (Same.tups s3)).ext tD
          · rw [List.mem_singleton] at z
            subst z
            exact ⟨pa, aa, s', (upd_ne nt2D).trans upd_same, tD _ _ (s3 _ _ hsT2), hs'k, e4⟩
        · refine r_ifF2 (decide_eq_false fun z => hnm (by have := V.int.inj z; omega)) ?_
          exact skip fun z => hnm (e4.uniq z)
      · rw [valV_nin hin]
        walk_at "WK"
        exact skip fun z => hin ((S.ri s' hs'k).mpr ⟨m, z.1⟩)
    · rintro D H2 ⟨s1, nD, ts, hD, htl, hgt, hne⟩
      refine k _ D ts s1 hD ?_ hgt
      obtain ⟨t, ht, hte⟩ := he.pred
      obtain ⟨j, hj⟩ := List.getElem?_of_mem ht
      have hjl := (List.getElem?_eq_some_iff.mp hj).1
      rw [mvs, List.length_map] at hjl
      exact hne j t hjl hj hte
theorem sc_fewest_pours : FnScope ["picture", "chosen", "colours", "wish", "search", "state", "script", "pour", "each"] ["picture", "chosen", "colours", "wish"] (defScope s_fewest_pours) := ⟨rfl, rfl, rfl, by decide +kernel, rfl, by decide +kernel, by decide +kernel⟩
/-- the answer of fewest_pours -/
def FewA (K : PySem.W.Frag) (H : Hp) (y : Addr) (hd : St → Bool) (mv : St → List St) (s : St) : Prop :=
  (∃ dx v, H y = some (.ins (He.ga K "NeverSo") dx (f_NeverSo v)) ∧ ∀ n, ¬ Dist hd mv n s) ∨ ∃ (dx : Addr) (n : Nat) (v : V), H y = some (.ins (He.ga K "Fewest") dx (f_Fewest (.int (n : Int)) v)) ∧ Exact hd mv n s ∧ n ≤ 60000
theorem alike_st (s t : St) : alike (KS.k s).data (KS.k t).data = true := by
  have e : ∀ s : St, (KS.k s).data = .tuple ((s.map fun n : Nat => (n : Int)).map .int) := fun s => by
    show (NestedKey.tup (stK s)).data = _
    rw [NestedKey.data]
    congr 1
    induction s with
    | nil => simp [stK, NestedKey.datas]
    | cons x s ih =>
      show NestedKey.datas (.num (x : Int) :: stK s) = _
      rw [NestedKey.datas, ih]
      simp [NestedKey.data]
  rw [e, e]
  show alikeAll _ _ = true
  exact alike_ints _ _
theorem data_st {s : St} (h : s ≠ []) : ∃ x r, (KS.k s).data = .tuple (x :: r) := by
  cases s with
  | nil => exact absurd rfl h
  | cons x s => exact ⟨.int (x : Int), NestedKey.datas (stK s), by
      show (NestedKey.tup (.num (x : Int) :: stK s)).data = _
      simp [NestedKey.data, NestedKey.datas]⟩
theorem r_sortKS {w : World} {H : Hp} {Q : VK} {p d : Addr} {g : List (St × V)} (hv : H p = some (viewO p d)) (hd : GD w KS H d g) (hn : ∀ k ∈ g.map (·.1), k ≠ [])
    (k : ∀ q ts, H q = none → ts.length = g.length → (∀ t ∈ ts, ∃ st, st ∈ g.map (·.1) ∧ TN H t st) → Q (.ref q) (upd H q (.lst (refs ts)))) : rSortKN w [.ref p] H Q := by
  obtain ⟨xs, ep, h1, h2⟩ := hd
  have ek : xs.map (·.1) = (g.map (·.1)).map KS.k := by
    have := congrArg (List.map Prod.fst) h2
    unfold kvx at this
    rw [List.map_map, List.map_map] at this
    rw [List.map_map]
    exact this
  have ed : xs.map (·.1.data) = (g.map (·.1)).map fun s => (KS.k s).data := by
    have := congrArg (List.map NestedKey.data) ek
    rw [List.map_map, List.map_map] at this
    exact this
  refine ⟨p, d, xs, ep, rfl, hv, h1, ?_, ?_, fun q hq => ?_⟩
  · rw [ed]
    intro a ha b hb
    obtain ⟨s, _, rfl⟩ := List.mem_map.mp ha
    obtain ⟨t, _, rfl⟩ := List.mem_map.mp hb
    exact alike_st s t
  · rw [ed]
    refine .inl fun a ha => ?_
    obtain ⟨s, hs, rfl⟩ := List.mem_map.mp ha
    exact data_st (hn s hs)
  · have e1 : sortB (keysB xs) = refs (((keysB xs).mergeSort (dataLe false (fun b : BD => b.2))).map fun b => match b.1 with | .ref a => a | _ => 0) := by
      unfold sortB refs
      rw [List.map_map]
      refine List.map_congr_left fun b hb => ?_
      have hb' := (List.mergeSort_perm _ _).mem_iff.mp hb
      unfold keysB at hb'
      obtain ⟨z, _, rfl⟩ := List.mem_map.mp hb'
      rfl
    rw [e1]
    refine k q _ hq ?_ fun t ht => ?_
    · rw [List.length_map, List.length_mergeSort]
      unfold keysB
      rw [List.length_map]
      have := congrArg List.length ek
      rw [List.length_map, List.length_map, List.length_map] at this
      exact this
    · obtain ⟨b, hb, rfl⟩ := List.mem_map.mp ht
      have hb' := (List.mergeSort_perm _ _).mem_iff.mp hb
      unfold keysB at hb'
      obtain ⟨z, hz, rfl⟩ := List.mem_map.mp hb'
      have hk : z.1 ∈ xs.map (·.1) := List.mem_map.mpr ⟨z, hz, rfl⟩
      rw [ek] at hk
      obtain ⟨st, hst, e⟩ := List.mem_map.mp hk
      exact ⟨st, hst, h1.key hz e.symm⟩
def sp_few (K : PySem.W.Frag) (w : World) : Sp := fun vs H Q _ => ∃ (p a b c : Addr) (d : PicD) (ms hs : List Nat) (wd : WishD) (n : Nat) (U : List St), vs = [.ref p, .ref a, .ref b, .ref c] ∧ PicAt K H p d ∧ PicW d ∧ d.col.length ≤ 10 ∧ LN H a ms ∧ LN H b hs ∧ H c = some (.tup (wishV wd)) ∧ MsOk ms 2 d.mks.length ∧ MsOk hs 4 100 ∧ WishG d wd ∧
  FOk (foldP d) n ∧ WishOk (foldP d) wd ∧ UniS (foldP d) (poursOf (srt ms) (srt hs)) n U ∧ (foldP d).homes.length = d.mks.length ∧ (foldP d).nums.length ≤ 700 ∧
  ∀ H' y, Same H H' → FewA K H' y (holds (foldP d) wd) (mvs (foldP d) (poursOf (srt ms) (srt hs))) (foldP d).hues → Q (.ref y) H'
theorem ok_fewest_pours (T : TX K mg) : C8.Cal P w K mg base 8 "fewest_pours" (sp_few K w) [] := by
  have c_Search := ok_Search_init (P := P) (w := w) (base := base) T
  have c_m_following := ok_following (P := P) (w := w) (base := base) T
  have c_unfold_state := ok_unfold_state (P := P) (w := w) (base := base) T
  have c_NeverSo := ok_NeverSo_init (P := P) (w := w) (base := base) T
  have c_Fewest := ok_Fewest_init (P := P) (w := w) (base := base) T
  obtain ⟨fd, F⟩ := T.F_fewest_pours
  refine ⟨_, fd, ["picture", "chosen", "colours", "wish"], [], ?_, T.g_fewest_pours, F.kp, (F.bindsN (fun _ _ _ _ _ _ us hl => match us, hl with | [_, _, _, _], _ => rfl)), .nil⟩
  refine F.ok sc_fewest_pours (fun vs H Q E h => ?_) (fun cdv A outer s H vs Q E hr h => ?_)
  · obtain ⟨p, a, b, c, d, ms, hs, wd, n, U, rfl, _⟩ := h
    rfl
  · obtain ⟨p, a, b, c, d, ms, hs, wd, n, U, rfl, hp, hw, hc10, ha, hb, hc, om, oh, hwg, fok, hwo, hU, hhl, hnl, k⟩ := h
    refine ⟨_, PSs.nox (pss_cons (ps_set (i := 4) sc_fewest_pours.nd rfl (.inr rfl) (C8.pe_mk (c_Search) hr (by omega) (by rfl) (pa_cons (pv 0) (pa_cons (pv 1) (pa_cons (pv 2) (pa_cons (pv 3) pa_nil))))))
      (pss_cons (ps_set (i := 5) sc_fewest_pours.nd rfl (.inl rfl) (pe_fld' K rfl (pe_fld' K rfl (pv 4) rfl) rfl))
      (pss_cons (ps_if (pt_cmpR (op_notInN' w rfl hr.units) (pv 5) (pe_fld' K rfl (pv 4) rfl) (by rfl)) (pss_one (ps_ret (C8.pe_mk (c_NeverSo) hr (by omega) (by rfl) (pa_cons (pe_callTy (call_tupleK' K rfl) (by rfl) T.f_tuple (by decide +kernel) (pa_cons (pe_lc (own := [("each", 8)]) (g := gName 8) (by rfl) sc_fewest_pours.nd (pi_list' K rfl (pe_callB (cr_sortKN' w rfl hr.units rfl) (by rfl) T.f_sorted (by decide +kernel) (pa_cons (pe_keysv' w rfl (pe_fld' K rfl (pv 4) rfl)) pa_nil))) (blkOk_by (own := [("each", 8)]) (N := ["picture", "chosen", "colours", "wish", "search", "state", "script", "pour", "each"]) (sc := defScope s_fewest_pours) (by decide +kernel)) (fun _ _ _ _ _ => (pg_name (i := 8) sc_fewest_pours.nd rfl (.inl rfl))) (fun _ _ _ _ _ => pts_nil) (fun _ _ _ _ _ => (C8.pe_c (c_unfold_state) hr (by omega) (by rfl) (pa_cons (pe_fld' K rfl (pv 4) rfl) (pa_cons (pv 8) pa_nil))))) pa_nil)) pa_nil)))) pss_nil)
      (pss_cons (ps_set (i := 6) sc_fewest_pours.nd rfl (.inl rfl) (pe_lst pa_nil))
      (pss_cons (ps_while PassesOwn.never (pt_cmpR op_gt (pe_nget' w rfl hr.units (pe_fld' K rfl (pv 4) rfl) (pv 5) (fun _ _ => rfl)) pe_int (nomark _)) (pss_cons (ps_asg (pe_ix (ix_list' K rfl) (C8.pe_mt (c_m_following) hr (by omega) (pv 4) (pa_cons (pv 5) pa_nil)) pe_int (fun _ _ => rfl)) (pg_tup' (n := 2) K rfl (by rfl) (pgs_cons (pg_name (i := 7) sc_fewest_pours.nd rfl (.inl rfl)) (pgs_cons (pg_name (i := 5) sc_fewest_pours.nd rfl (.inl rfl)) pgs_nil)) (by rfl)))
      (pss_one (ps_expr (pe_bm' K rfl PySem.F.plainAttrs_list PySem.F.slot_list_append PySem.F.type_list_append mt_append (pv 6) (pa_cons (pv 7) pa_nil))))))
      (pss_one (ps_ret (C8.pe_mk (c_Fewest) hr (by omega) (by rfl) (pa_cons (pe_callB (call_lenK' K rfl) (by rfl) T.f_len (by decide +kernel) (pa_cons (pv 6) pa_nil)) (pa_cons (pe_callTy (call_tupleK' K rfl) (by rfl) T.f_tuple (by decide +kernel) (pa_cons (pv 6) pa_nil)) pa_nil)))))))))), ?_⟩
    try dsimp only [cxOf]
    walk_at "WK"
    intro x dx nx ndx ne
    refine ⟨x, dx, p, a, b, c, d, ms, hs, wd, n, U, H, rfl, (same_new ndx).trans (same_new (by rw [upd_ne ne.symm]; exact nx)), nx, upd_same, hp, hw, hc10, ha, hb, hc, om, oh, hwg, fok, hwo, hU, hhl, fun H1 fA pA gA rA pas g gr s1 S => ⟨rfl, ?_⟩⟩
    obtain ⟨dx2, hx⟩ := S.at_
    obtain ⟨dx3, nA, nrA, hoA, huA, f1, f2, f3, f4, f5⟩ := id S.fold
    have lms : (srt ms).length = ms.length := (srt_perm ms).length_eq
    have lhs : (srt hs).length = hs.length := (srt_perm hs).length_eq
    have om2 := om.l2
    have oh2 := oh.l2
    have hpn : (poursOf (srt ms) (srt hs)).length ≤ 16 := by
      rw [poursOf_len, lms, lhs]
      have : ms.length * hs.length ≤ 2 * 4 := Nat.mul_le_mul om2 oh2
      omega
    walk_at "WK"
    refine r_ninG S.rd (rp_st f5) ?_
    by_cases hin : (foldP d).hues ∈ gr.map (·.1)
    · rw [valV_in hin]
      walk_at "WK"
      intro sA hsA
      have s2 := same_new hsA (o := .lst [])
      obtain ⟨r0, hr0⟩ : ∃ m, Exact (holds (foldP d) wd) (mvs (foldP d) (poursOf (srt ms) (srt hs))) m (foldP d).hues ∧ m ≤ 60000 := by
        obtain ⟨v, _, hm⟩ := valV_ex hin
        obtain ⟨n', _, e2, e3⟩ := S.rv _ hm
        exact ⟨n', e2, e3⟩
      obtain ⟨hr0, hr60⟩ := hr0
      walk_at "WK"
      refine ⟨fun m σ H' => ∃ aS st scr y7, σ = [some (.ref p), some (.ref a), some (.ref b), some (.ref c), some (.ref x), some (.ref aS), some (.ref sA), y7, none] ∧ Same H1 H' ∧ TN H' aS st ∧ st ∈ g.map (·.1) ∧ Exact (holds (foldP d) wd) (mvs (foldP d) (poursOf (srt ms) (srt hs))) m st ∧ H' sA = some (.lst scr) ∧ scr.length + m = r0, ⟨r0, huA, _, [], _, rfl, s2, s2 _ _ f5, S.st, hr0, upd_same, by simp⟩, ?_⟩
      rintro m σ H2 ⟨aS, st, scr, y7, rfl, s3, hst, hsk, he, hscr, hlen⟩
      have S2 := S.ext s3
      have hx2 := s3 _ _ hx
      have hrk := S2.rank hsk he
      walk_at "WK"
      refine r_ngetG S2.rd (rp_st hst) hrk ?_
      walk_at "WK"
      cases m with
      | zero =>
        refine r_ifF2 (by simp) ?_
        walk_at "WK"
        intro t ht
        have sT := same_new ht (o := .tup scr)
        walk_at "WK"
        intro y dy ny ndy ne2
        refine ⟨y, dy, _, _, _, rfl, (same_new ndy).trans (same_new (by rw [upd_ne ne2.symm]; exact ny)), ny, upd_same, fun H3 s4 hy => ⟨rfl, ?_⟩⟩
        have hl0 : scr.length = r0 := by omega
        rw [hl0] at hy
        exact k _ y (((s1.trans s3).trans sT).trans s4) (.inr ⟨dy, r0, _, hy, hr0, hr60⟩)
      | succ m =>
        refine r_ifT2 (by first | (simp; done) | (simp; omega)) ?_
        refine ⟨fun σ' H' => ∃ m', m' < m + 1 ∧ ∃ aS st scr y7, σ' = [some (.ref p), some (.ref a), some (.ref b), some (.ref c), some (.ref x), some (.ref aS), some (.ref sA), y7, none] ∧ Same H1 H' ∧ TN H' aS st ∧ st ∈ g.map (·.1) ∧ Exact (holds (foldP d) wd) (mvs (foldP d) (poursOf (srt ms) (srt hs))) m' st ∧ H' sA = some (.lst scr) ∧ scr.length + m' = r0, fun σ' H' z => z, ?_⟩
        walk_at "WK"
        refine r_methk hx2 rfl ?_
        walk_at "WK"
        refine ⟨x, aS, st, m, foldP d, _, wd, n, fA, pA, gA, rA, pas, g, gr, rfl, S2, hst, hsk, he, by omega, fun H3 L ts s4 hL hne hgt => ?_⟩
        obtain ⟨t0, tr, rfl⟩ : ∃ t0 tr, ts = t0 :: tr := by
          cases ts with
          | nil => exact absurd rfl hne
          | cons t tr => exact ⟨t, tr, rfl⟩
        obtain ⟨pp, bb, st', g1, g2, g3, g4⟩ := hgt t0 (List.mem_cons_self ..)
        have e0 : atI (refs (t0 :: tr)) 0 = some (V.ref t0) := atI_nat (j := 0) rfl
        have hscr3 := s4 _ _ hscr
        walk_at "WK"
        refine r_append hscr3 (lt_szM (by omega)) ?_
        have nscr : H1 sA = none := hsA
        exact ⟨m, Nat.lt_succ_self _, bb, st', _, _, rfl, same_of (s3.trans s4) nscr, (upd_ne (ne_tl g2 hscr3)).trans g2, g3, g4, upd_same, by rw [List.length_append, List.length_singleton]; omega⟩
    · rw [valV_nin hin]
      have hnev : ∀ n, ¬ Dist (holds (foldP d) wd) (mvs (foldP d) (poursOf (srt ms) (srt hs))) n (foldP d).hues := fun n z => hin ((S.ri _ S.st).mpr ⟨n, z⟩)
      walk_at "WK"
      refine r_keysG S.gd fun pv hpv => ?_
      have sv := same_new hpv (o := viewO pv gA)
      have gdv := S.gd.same sv
      walk_at "WK"
      refine r_sortKS upd_same gdv (fun k hk z => ?_) fun q ts hq hql hqt => ?_
      · obtain ⟨p, hp, e⟩ := List.mem_map.mp hk
        have h1 := (S.gp p hp).1
        have h2 := fok.n0
        rw [e, z] at h1
        simp at h1
        omega
      have sq := same_new hq (o := .lst (refs ts))
      have s2 := sv.trans sq
      have hgl := S.gl
      have hql2 : upd (upd H1 pv (viewO pv gA)) q (.lst (refs ts)) q = some (.lst (refs ts)) := upd_same
      have hqt2 : ∀ t ∈ ts, ∃ st, st ∈ g.map (·.1) ∧ TN (upd (upd H1 pv (viewO pv gA)) q (.lst (refs ts))) t st := fun t ht => by
        obtain ⟨st, z1, z2⟩ := hqt t ht
        exact ⟨st, z1, sq _ _ z2⟩
      generalize upd (upd H1 pv (viewO pv gA)) q (.lst (refs ts)) = H2 at s2 hql2 hqt2 ⊢
      walk_at "WK"
      refine lc_L (xs := refs ts) (fun D i H' => Same H2 H' ∧ H2 D = none ∧ ∃ us, H' D = some (.lst us) ∧ us.length ≤ i) (fun D hD => ⟨same_new hD, hD, [], upd_same, Nat.le_refl _⟩) (fun D i H' _ h => h.1 _ _ hql2) ?_ ?_
      · rintro D i y H3 hy ⟨s3, nD, us, hD, hul⟩
        obtain ⟨t, ht, rfl⟩ := refs_inv hy
        have hi := (List.getElem?_eq_some_iff.mp ht).1
        obtain ⟨st, hsk, hT⟩ := hqt2 t (List.mem_of_getElem? ht)
        have hxx := (s2.trans s3) _ _ hx
        have stl : st.length = n := by
          obtain ⟨p, hp, e⟩ := List.mem_map.mp hsk
          rw [← e]
          exact (S.gp p hp).1
        walk_at "WK"
        refine ⟨fA, t, foldP d, st, rfl, S.fold.ext (s2.trans s3), s3 _ _ hT, by rw [stl]; exact fok, hnl, fun H4 u st' s4 hu => ?_⟩
        have hD4 := s4 _ _ hD
        refine r_eltk hD4 (lt_szM (by omega)) ?_
        exact ⟨same_of (s3.trans s4) nD, nD, _, upd_same, by rw [List.length_append, List.length_singleton]; omega⟩
      · rintro D H3 ⟨s3, nD, us, hD, hul⟩
        walk_at "WK"
        intro t ht
        have sT := same_new ht (o := .tup us)
        walk_at "WK"
        intro y dy ny ndy ne2
        refine ⟨y, dy, _, _, rfl, (same_new ndy).trans (same_new (by rw [upd_ne ne2.symm]; exact ny)), ny, upd_same, fun H4 s4 hy => ⟨rfl, ?_⟩⟩
        exact k _ y ((((s1.trans s2).trans s3).trans sT).trans s4) (.inl ⟨dy, _, hy, hnev⟩)
end
end G6
end
section
set_option maxHeartbeats 4000000
set_option Elab.async false
set_option linter.all false
set_option maxRecDepth 100000
/-! G0: turns, the two hands -/
namespace G6
open PySem PySem.Spec PyProof.Rows L2 PySem.W
abbrev Tn := List Nat × Nat
section
variable {K : PySem.W.Frag} {mg : Str → Option Value} {H : Hp} {Q : VK}

theorem rc_due (T : TX K mg) {a dx : Addr} {fs : List (Str × V)} {v : V} (h : H a = some (.ins (He.ga K "Contest") dx fs)) (l : fs.lookup ("due" : Str) = some v) (k : Q v H) : FldK K "due" Q (.ref a) H := r_fldk h T.k_Contest T.n_Contest_due l k
theorem rc_folding (T : TX K mg) {a dx : Addr} {fs : List (Str × V)} {v : V} (h : H a = some (.ins (He.ga K "Contest") dx fs)) (l : fs.lookup ("folding" : Str) = some v) (k : Q v H) : FldK K "folding" Q (.ref a) H := r_fldk h T.k_Contest T.n_Contest_folding l k
theorem rc_pours (T : TX K mg) {a dx : Addr} {fs : List (Str × V)} {v : V} (h : H a = some (.ins (He.ga K "Contest") dx fs)) (l : fs.lookup ("pours" : Str) = some v) (k : Q v H) : FldK K "pours" Q (.ref a) H := r_fldk h T.k_Contest T.n_Contest_pours l k
theorem rc_start (T : TX K mg) {a dx : Addr} {fs : List (Str × V)} {v : V} (h : H a = some (.ins (He.ga K "Contest") dx fs)) (l : fs.lookup ("start" : Str) = some v) (k : Q v H) : FldK K "start" Q (.ref a) H := r_fldk h T.k_Contest T.n_Contest_start l k
theorem rc_ended (T : TX K mg) {a dx : Addr} {fs : List (Str × V)} {v : V} (h : H a = some (.ins (He.ga K "Contest") dx fs)) (l : fs.lookup ("ended" : Str) = some v) (k : Q v H) : FldK K "ended" Q (.ref a) H := r_fldk h T.k_Contest T.n_Contest_ended l k
theorem rc_graph (T : TX K mg) {a dx : Addr} {fs : List (Str × V)} {v : V} (h : H a = some (.ins (He.ga K "Contest") dx fs)) (l : fs.lookup ("graph" : Str) = some v) (k : Q v H) : FldK K "graph" Q (.ref a) H := r_fldk h T.k_Contest T.n_Contest_graph l k
theorem rc_found (T : TX K mg) {a dx : Addr} {fs : List (Str × V)} {v : V} (h : H a = some (.ins (He.ga K "Contest") dx fs)) (l : fs.lookup ("found" : Str) = some v) (k : Q v H) : FldK K "found" Q (.ref a) H := r_fldk h T.k_Contest T.n_Contest_found l k
end
/-- the turns behind one pour each -/
def tmv (F : FoldD) (P : Nat → List (Nat × Nat)) (k : Tn) : List Tn := (mvs F (P k.2) k.1).map fun s => (s, 1 - k.2)
def succT (F : FoldD) (wd : WishD) (P : Nat → List (Nat × Nat)) (k : Tn) : List Tn := if holds F wd k.1 = true then [] else tmv F P k
def SuccT (H : Hp) (v : V) (ss : List Tn) : Prop := ∃ (L : Addr) (as : List Addr), v = .ref L ∧ H L = some (.lst (refs as)) ∧ All2 (fun a k => TT2 H a k) as ss
theorem SuccT.ext {H H' : Hp} {v : V} {ss : List Tn} (h : SuccT H v ss) (s : Same H H') : SuccT H' v ss := by
  obtain ⟨L, as, h1, h3, h4⟩ := h
  exact ⟨L, as, h1, s _ _ h3, h4.imp fun _ _ r => r.ext s⟩
/-- the play that is laid out: the dict of turns and the dict of those where the aim holds -/
structure PlAt (w : World) (H : Hp) (gA eA : Addr) (F : FoldD) (wd : WishD) (P : Nat → List (Nat × Nat)) (n : Nat) (g ge : List (Tn × V)) : Prop where
  gd : GD w KT H gA g
  ed : GD w KT H eA ge
  gl : g.length ≤ 2000
  gp : ∀ p ∈ g, p.1.1.length = n ∧ p.1.2 ≤ 1 ∧ SuccT H p.2 (succT F wd P p.1) ∧ ∀ s ∈ succT F wd P p.1, s ∈ g.map (·.1)
  ee : ∀ k, k ∈ ge.map (·.1) ↔ k ∈ g.map (·.1) ∧ holds F wd k.1 = true
  sm : ∀ h, (P h).length ≤ 16
theorem PlAt.ext {w : World} {H H' : Hp} {gA eA : Addr} {F : FoldD} {wd : WishD} {P : Nat → List (Nat × Nat)} {n : Nat} {g ge : List (Tn × V)} (h : PlAt w H gA eA F wd P n g ge) (s : Same H H') : PlAt w H' gA eA F wd P n g ge :=
  ⟨h.gd.same s, h.ed.same s, h.gl, fun p hp => ⟨(h.gp p hp).1, (h.gp p hp).2.1, (h.gp p hp).2.2.1.ext s, (h.gp p hp).2.2.2⟩, h.ee, h.sm⟩
theorem PlAt.succ {w : World} {H : Hp} {gA eA : Addr} {F : FoldD} {wd : WishD} {P : Nat → List (Nat × Nat)} {n : Nat} {g ge : List (Tn × V)} (h : PlAt w H gA eA F wd P n g ge) {k : Tn} (hk : k ∈ g.map (·.1)) : ∃ L as, valV g k = some (.ref L) ∧ H L = some (.lst (refs as)) ∧ All2 (fun a s => TT2 H a s) as (succT F wd P k) ∧ as.length ≤ 16 ∧ ∀ s ∈ succT F wd P k, s ∈ g.map (·.1) := by
  obtain ⟨v, hv, hm⟩ := valV_ex hk
  obtain ⟨_, _, ⟨L, as, h1, h2, h3⟩, h4⟩ := h.gp _ hm
  have h1 : v = .ref L := h1
  subst h1
  refine ⟨L, as, hv, h2, h3, ?_, h4⟩
  rw [h3.len]
  show (succT F wd P k).length ≤ 16
  unfold succT
  split
  · exact Nat.zero_le _
  · rw [tmv, List.length_map, mvs, List.length_map]
    exact h.sm _
/-- whether a turn of theirs is good for me -/
def goodB (F : FoldD) (wd : WishD) (P : Nat → List (Nat × Nat)) (fk : List Tn) (k : Tn) : Bool := holds F wd k.1 || (succT F wd P k).all fun l => decide (l ∈ fk)
end G6
end
local macro_rules | `(tactic| walk_at "W1") => `(tactic| ((with_reducible apply G6.p_fldk); ((with_reducible apply G6.rc_found); assumption; walk_at "HL"; (first | assumption | exact rfl))))
local macro_rules | `(tactic| walk_at "W1") => `(tactic| ((with_reducible apply G6.p_fldk); ((with_reducible apply G6.rc_graph); assumption; walk_at "HL"; (first | assumption | exact rfl))))
local macro_rules | `(tactic| walk_at "W1") => `(tactic| ((with_reducible apply G6.p_fldk); ((with_reducible apply G6.rc_ended); assumption; walk_at "HL"; (first | assumption | exact rfl))))
local macro_rules | `(tactic| walk_at "W1") => `(tactic| ((with_reducible apply G6.p_fldk); ((with_reducible apply G6.rc_start); assumption; walk_at "HL"; (first | assumption | exact rfl))))
local macro_rules | `(tactic| walk_at "W1") => `(tactic| ((with_reducible apply G6.p_fldk); ((with_reducible apply G6.rc_pours); assumption; walk_at "HL"; (first | assumption | exact rfl))))
local macro_rules | `(tactic| walk_at "W1") => `(tactic| ((with_reducible apply G6.p_fldk); ((with_reducible apply G6.rc_folding); assumption; walk_at "HL"; (first | assumption | exact rfl))))
local macro_rules | `(tactic| walk_at "W1") => `(tactic| ((with_reducible apply G6.p_fldk); ((with_reducible apply G6.rc_due); assumption; walk_at "HL"; (first | assumption | exact rfl))))
section
set_option maxHeartbeats 4000000
set_option Elab.async false
set_option linter.all false
set_option maxRecDepth 100000
namespace G6
open PySem PySem.Spec PyProof.Rows L2 PySem.W
section
variable {P : Program} {w : World} {K : PySem.W.Frag} {mg : Str → Option Value} {base : Heap}
theorem sc_Contest_is_good : FnScope ["self", "after", "found", "last"] ["self", "after", "found"] (defScope s_Contest_is_good) := ⟨rfl, rfl, rfl, by decide +kernel, rfl, by decide +kernel, by decide +kernel⟩
def sp_good (K : PySem.W.Frag) (w : World) : Sp := fun vs H Q _ => ∃ (x a fA : Addr) (k : Tn) (dx gA eA : Addr) (fs : List (Str × V)) (F : FoldD) (wd : WishD) (P : Nat → List (Nat × Nat)) (n : Nat) (g ge gf : List (Tn × V)), vs = [.ref x, .ref a, .ref fA] ∧ H x = some (.ins (He.ga K "Contest") dx fs) ∧ fs.lookup ("ended" : Str) = some (.ref eA) ∧ fs.lookup ("graph" : Str) = some (.ref gA) ∧ PlAt w H gA eA F wd P n g ge ∧ GD w KT H fA gf ∧ TT2 H a k ∧ k ∈ g.map (·.1) ∧
  ∀ H', Same H H' → Q (.bl (goodB F wd P (gf.map (·.1)) k)) H'
theorem ok_is_good (T : TX K mg) : C8.Met P w K mg base 1 (He.ga K "Contest") "is_good" (sp_good K w) [] := by
  obtain ⟨fd, F⟩ := T.F_Contest_is_good
  refine ⟨_, fd, ["self", "after", "found"], [], T.k_Contest, T.t_Contest_is_good, ?_, (F.bindsN (fun _ _ _ _ _ _ us hl => match us, hl with | [_, _, _], _ => rfl)), .nil⟩
  refine F.ok sc_Contest_is_good (fun vs H Q E h => ?_) (fun cdv A outer s H vs Q E hr h => ?_)
  · obtain ⟨x, a, fA, k, dx, gA, eA, fs, F, wd, P, n, g, ge, gf, rfl, _⟩ := h
    rfl
  · obtain ⟨x, a, fA, k, dx, gA, eA, fs, F, wd, Pp, n, g, ge, gf, rfl, hx, l1, l2, PL, hf, ha, hk, q⟩ := h
    obtain ⟨L, as, hv, hL, hLA, h16, hsk⟩ := PL.succ hk
    refine ⟨_, PSs.nox (pss_one (ps_ret (pe_or (pe_cmpR (op_inN' w rfl hr.units) (pv 1) (pe_fld' K rfl (pv 0) rfl) (by rfl)) (pe_one (pe_callB (cr_all' K rfl rfl) (by rfl) T.f_all (by decide +kernel) (pa_cons (pe_lc (own := [("last", 3)]) (g := gName 3) (by rfl) sc_Contest_is_good.nd (pi_list' K rfl (pe_nget' w rfl hr.units (pe_fld' K rfl (pv 0) rfl) (pv 1) (fun _ _ => rfl))) (blkOk_by (own := [("last", 3)]) (N := ["self", "after", "found", "last"]) (sc := defScope s_Contest_is_good) (by decide +kernel)) (fun _ _ _ _ _ => (pg_name (i := 3) sc_Contest_is_good.nd rfl (.inl rfl))) (fun _ _ _ _ _ => pts_nil) (fun _ _ _ _ _ => (pe_cmpR (op_inN' w rfl hr.units) (pv 3) (pv 2) (by rfl)))) pa_nil)))))), ?_⟩
    try dsimp only [cxOf]
    walk_at "WK"
    refine r_inG PL.ed (rp_tn ha) ?_
    by_cases hin : k ∈ ge.map (·.1)
    · rw [valV_in hin]
      walk_at "WK"
      have e : goodB F wd Pp (gf.map (·.1)) k = true := by rw [goodB, ((PL.ee k).mp hin).2]; rfl
      rw [e] at q
      exact q H (Same.refl H)
    · rw [valV_nin hin]
      have hh : holds F wd k.1 = false := by
        cases e : holds F wd k.1 with
        | false => rfl
        | true => exact absurd ((PL.ee k).mpr ⟨hk, e⟩) hin
      walk_at "WK"
      refine r_ngetG PL.gd (rp_tn ha) hv ?_
      walk_at "WK"
      refine lc_L (xs := refs as) (fun D i H' => Same H H' ∧ H D = none ∧ H' D = some (.lst ((((succT F wd Pp k).take i).map fun l => decide (l ∈ gf.map (·.1))).map V.bl))) (fun D hD => ⟨same_new hD, hD, upd_same⟩) (fun D i H' _ h => h.1 _ _ hL) ?_ ?_
      · rintro D i y H1 hy ⟨s1, nD, hD⟩
        obtain ⟨b, hb, rfl⟩ := refs_inv hy
        obtain ⟨l, hl, hT⟩ := hLA.getL hb
        have hi := (List.getElem?_eq_some_iff.mp hb).1
        walk_at "WK"
        refine r_inG (hf.same s1) (rp_tn (hT.ext s1)) ?_
        rw [show (valV gf l).isSome = decide (l ∈ gf.map (·.1)) from (valV_keys gf l).trans (decide_eq_decide.mpr Iff.rfl)]
        refine r_eltk hD (lt_sz (by rw [List.length_map, List.length_map, List.length_take]; omega)) ?_
        refine ⟨same_of s1 nD, nD, ?_⟩
        rw [upd_same, List.take_add_one, hl, List.map_append, List.map_append]
        rfl
      · rintro D H2 ⟨s1, nD, hD⟩
        rw [List.length_map, hLA.len, List.take_length] at hD
        refine r_all hD ?_
        have e : (((succT F wd Pp k).map fun l => decide (l ∈ gf.map (·.1))).all id) = goodB F wd Pp (gf.map (·.1)) k := by
          rw [goodB, hh, Bool.false_or, List.all_map]
          rfl
        rw [e]
        exact q H2 s1
theorem sc_Contest_is_sure : FnScope ["self", "here", "found", "after"] ["self", "here", "found"] (defScope s_Contest_is_sure) := ⟨rfl, rfl, rfl, by decide +kernel, rfl, by decide +kernel, by decide +kernel⟩
def sp_sure (K : PySem.W.Frag) (w : World) : Sp := fun vs H Q _ => ∃ (x a fA : Addr) (k : Tn) (dx gA eA : Addr) (fs : List (Str × V)) (F : FoldD) (wd : WishD) (P : Nat → List (Nat × Nat)) (n : Nat) (g ge gf : List (Tn × V)), vs = [.ref x, .ref a, .ref fA] ∧ H x = some (.ins (He.ga K "Contest") dx fs) ∧ fs.lookup ("ended" : Str) = some (.ref eA) ∧ fs.lookup ("graph" : Str) = some (.ref gA) ∧ fs.lookup ("is_good" : Str) = none ∧ PlAt w H gA eA F wd P n g ge ∧ GD w KT H fA gf ∧ TT2 H a k ∧ k ∈ g.map (·.1) ∧
  ∀ H', Same H H' → Q (.bl ((succT F wd P k).any (goodB F wd P (gf.map (·.1))))) H'
theorem ok_is_sure (T : TX K mg) : C8.Met P w K mg base 2 (He.ga K "Contest") "is_sure" (sp_sure K w) [] := by
  have c_m_is_good := ok_is_good (P := P) (w := w) (base := base) T
  obtain ⟨fd, F⟩ := T.F_Contest_is_sure
  refine ⟨_, fd, ["self", "here", "found"], [], T.k_Contest, T.t_Contest_is_sure, ?_, (F.bindsN (fun _ _ _ _ _ _ us hl => match us, hl with | [_, _, _], _ => rfl)), .nil⟩
  refine F.ok sc_Contest_is_sure (fun vs H Q E h => ?_) (fun cdv A outer s H vs Q E hr h => ?_)
  · obtain ⟨x, a, fA, k, dx, gA, eA, fs, F, wd, P, n, g, ge, gf, rfl, _⟩ := h
    rfl
  · obtain ⟨x, a, fA, k, dx, gA, eA, fs, F, wd, Pp, n, g, ge, gf, rfl, hx, l1, l2, l3, PL, hf, ha, hk, q⟩ := h
    obtain ⟨L, as, hv, hL, hLA, h16, hsk⟩ := PL.succ hk
    refine ⟨_, PSs.nox (pss_one (ps_ret (pe_callB (cr_any' K rfl rfl) (by rfl) T.f_any (by decide +kernel) (pa_cons (pe_lc (own := [("after", 3)]) (g := gName 3) (by rfl) sc_Contest_is_sure.nd (pi_list' K rfl (pe_nget' w rfl hr.units (pe_fld' K rfl (pv 0) rfl) (pv 1) (fun _ _ => rfl))) (blkOk_by (own := [("after", 3)]) (N := ["self", "here", "found", "after"]) (sc := defScope s_Contest_is_sure) (by decide +kernel)) (fun _ _ _ _ _ => (pg_name (i := 3) sc_Contest_is_sure.nd rfl (.inl rfl))) (fun _ _ _ _ _ => pts_nil) (fun _ _ _ _ _ => (C8.pe_mt (c_m_is_good) hr (by omega) (pv 0) (pa_cons (pv 3) (pa_cons (pv 2) pa_nil))))) pa_nil)))), ?_⟩
    try dsimp only [cxOf]
    walk_at "WK"
    refine r_ngetG PL.gd (rp_tn ha) hv ?_
    walk_at "WK"
    refine lc_L (xs := refs as) (fun D i H' => Same H H' ∧ H D = none ∧ H' D = some (.lst ((((succT F wd Pp k).take i).map (goodB F wd Pp (gf.map (·.1)))).map V.bl))) (fun D hD => ⟨same_new hD, hD, upd_same⟩) (fun D i H' _ h => h.1 _ _ hL) ?_ ?_
    · rintro D i y H1 hy ⟨s1, nD, hD⟩
      obtain ⟨b, hb, rfl⟩ := refs_inv hy
      obtain ⟨l, hl, hT⟩ := hLA.getL hb
      have hi := (List.getElem?_eq_some_iff.mp hb).1
      have hx1 := s1 _ _ hx
      walk_at "WK"
      refine r_methk hx1 l3 ?_
      walk_at "WK"
      refine ⟨x, b, fA, l, dx, gA, eA, fs, F, wd, Pp, n, g, ge, gf, rfl, hx1, l1, l2, PL.ext s1, hf.same s1, hT.ext s1, hsk l (List.mem_of_getElem? hl), fun H2 s2 => ?_⟩
      have hD2 := s2 _ _ hD
      refine r_eltk hD2 (lt_sz (by rw [List.length_map, List.length_map, List.length_take]; omega)) ?_
      refine ⟨same_of (s1.trans s2) nD, nD, ?_⟩
      rw [upd_same, List.take_add_one, hl, List.map_append, List.map_append]
      rfl
    · rintro D H2 ⟨s1, nD, hD⟩
      rw [List.length_map, hLA.len, List.take_length] at hD
      refine r_any hD ?_
      rw [List.any_map]
      exact q H2 s1
end
end G6
end
section
set_option maxHeartbeats 4000000
set_option Elab.async false
set_option linter.all false
/-! M6: within how many pours of mine the aim is sure -/
namespace G6
open PySem PySem.Spec PyProof.Rows L2 PySem.W
section
variable (hd : St → Bool) (mm mt : St → List St)
def Win : Nat → St → Prop
  | 0, s => hd s = true
  | n + 1, s => Win n s ∨ ∃ t ∈ mm s, hd t = true ∨ ∀ u ∈ mt t, Win n u
variable {hd mm mt}
theorem Win.mono {n m : Nat} {s : St} (h : Win hd mm mt n s) (hm : n ≤ m) : Win hd mm mt m s := by
  induction hm with
  | refl => exact h
  | step _ ih => exact .inl ih
def ExW (hd : St → Bool) (mm mt : St → List St) (n : Nat) (s : St) : Prop := Win hd mm mt n s ∧ ∀ m, m < n → ¬ Win hd mm mt m s
theorem Win.least {n : Nat} {s : St} (h : Win hd mm mt n s) : ∃ m, m ≤ n ∧ ExW hd mm mt m s := by
  induction n with
  | zero => exact ⟨0, Nat.le_refl _, h, fun m hm => absurd hm (Nat.not_lt_zero _)⟩
  | succ n ih =>
    by_cases hn : Win hd mm mt n s
    · obtain ⟨m, h1, h2⟩ := ih hn
      exact ⟨m, by omega, h2⟩
    · exact ⟨n + 1, Nat.le_refl _, h, fun m hm z => hn (z.mono (by omega))⟩
theorem Win.closed {K0 : St → Prop} (hk : ∀ s, K0 s → hd s = false → ∀ t ∈ mm s, hd t = false → ∀ u ∈ mt t, K0 u) {r : Nat} (he : ∀ s, K0 s → Win hd mm mt (r + 1) s → Win hd mm mt r s) : ∀ n s, K0 s → Win hd mm mt n s → Win hd mm mt r s := by
  intro n
  induction n with
  | zero => exact fun s _ h => h.mono (Nat.zero_le _)
  | succ n ih =>
    rintro s hs (h | ⟨t, ht, h⟩)
    · exact ih s hs h
    · cases e : hd s with
      | true => exact Win.mono (n := 0) e (Nat.zero_le _)
      | false =>
        cases e2 : hd t with
        | true => exact he s hs (.inr ⟨t, ht, .inl e2⟩)
        | false =>
          rcases h with h | h
          · rw [e2] at h; cases h
          · exact he s hs (.inr ⟨t, ht, .inr fun u hu => ih u (hk s hs e t ht e2 u hu) (h u hu)⟩)
end
/-- the dict found behind the round r -/
structure WkI (F : FoldD) (wd : WishD) (P : Nat → List (Nat × Nat)) (g : List (Tn × V)) (r : Nat) (gf : List (Tn × V)) : Prop where
  sub : ∀ p ∈ gf, p.1 ∈ g.map (·.1)
  i0 : ∀ s, (s, 0) ∈ g.map (·.1) → ((s, 0) ∈ gf.map (·.1) ↔ Win (holds F wd) (mvs F (P 0)) (mvs F (P 1)) r s)
  val : ∀ p ∈ gf, ∃ n : Nat, p.2 = .int (n : Int) ∧ n ≤ gf.length ∧ (n = 0 → holds F wd p.1.1 = true) ∧ (p.1.2 = 0 → ExW (holds F wd) (mvs F (P 0)) (mvs F (P 1)) n p.1.1) ∧ (p.1.2 ≠ 0 → n = 0)
/-- is_sure, in the words of the game -/
theorem sure_iff {F : FoldD} {wd : WishD} {P : Nat → List (Nat × Nat)} {g gf : List (Tn × V)} {r : Nat} (W : WkI F wd P g r gf) (hc : ∀ k ∈ g.map (·.1), ∀ s ∈ succT F wd P k, s ∈ g.map (·.1)) {s : St} (hs : (s, 0) ∈ g.map (·.1)) (hn : ¬ Win (holds F wd) (mvs F (P 0)) (mvs F (P 1)) r s) :
    ((succT F wd P (s, 0)).any (goodB F wd P (gf.map (·.1)))) = true ↔ Win (holds F wd) (mvs F (P 0)) (mvs F (P 1)) (r + 1) s := by
  have hh : holds F wd s = false := by
    cases e : holds F wd s with
    | false => rfl
    | true => exact absurd (Win.mono (n := 0) e (Nat.zero_le _)) hn
  have es : succT F wd P (s, 0) = (mvs F (P 0) s).map fun t => (t, 1) := by
    show (if holds F wd s = true then _ else _) = _
    rw [if_neg (by rw [hh]; exact fun z => Bool.noConfusion z)]
    rfl
  have good : ∀ t ∈ mvs F (P 0) s, goodB F wd P (gf.map (·.1)) (t, 1) = true ↔ (holds F wd t = true ∨ ∀ u ∈ mvs F (P 1) t, Win (holds F wd) (mvs F (P 0)) (mvs F (P 1)) r u) := fun t ht => by
    have hk : (t, 1) ∈ g.map (·.1) := hc _ hs _ (by rw [es]; exact List.mem_map.mpr ⟨t, ht, rfl⟩)
    unfold goodB
    rw [Bool.or_eq_true]
    cases e : holds F wd t with
    | true => exact ⟨fun _ => .inl rfl, fun _ => .inl rfl⟩
    | false =>
      have et : succT F wd P (t, 1) = (mvs F (P 1) t).map fun u => (u, 0) := by
        show (if holds F wd t = true then _ else _) = _
        rw [if_neg (by rw [e]; exact fun z => Bool.noConfusion z)]
        rfl
      rw [et, List.all_eq_true]
      have ku : ∀ u ∈ mvs F (P 1) t, (u, 0) ∈ g.map (·.1) := fun u hu => hc _ hk _ (by rw [et]; exact List.mem_map.mpr ⟨u, hu, rfl⟩)
      constructor
      · rintro (z | z)
        · cases z
        · exact .inr fun u hu => (W.i0 u (ku u hu)).mp (of_decide_eq_true (z (u, 0) (List.mem_map.mpr ⟨u, hu, rfl⟩)))
      · rintro (z | z)
        · cases z
        · refine .inr fun k hk' => ?_
          obtain ⟨u, hu, rfl⟩ := List.mem_map.mp hk'
          exact decide_eq_true ((W.i0 u (ku u hu)).mpr (z u hu))
  rw [List.any_eq_true, es]
  constructor
  · rintro ⟨k, hk, h⟩
    obtain ⟨t, ht, rfl⟩ := List.mem_map.mp hk
    exact .inr ⟨t, ht, (good t ht).mp h⟩
  · rintro (h | ⟨t, ht, h⟩)
    · exact absurd h hn
    · exact ⟨(t, 1), List.mem_map.mpr ⟨t, ht, rfl⟩, (good t ht).mpr h⟩
/-- a round is done: the fresh turns fr have got the rank r + 1 -/
theorem WkI.step {F : FoldD} {wd : WishD} {P : Nat → List (Nat × Nat)} {g gf : List (Tn × V)} {r : Nat} {fr : List Tn} (W : WkI F wd P g r gf) (hc : ∀ k ∈ g.map (·.1), ∀ s ∈ succT F wd P k, s ∈ g.map (·.1)) (hr : fr ≠ [] → r ≤ gf.length)
    (hf : ∀ k, k ∈ fr ↔ k ∈ g.map (·.1) ∧ k.2 = 0 ∧ k ∉ gf.map (·.1) ∧ Win (holds F wd) (mvs F (P 0)) (mvs F (P 1)) (r + 1) k.1) (hnd : fr.Nodup) :
    WkI F wd P g (r + 1) (gf ++ fr.map fun k => (k, V.int ((r + 1 : Nat) : Int))) := by
  have keys : (gf ++ fr.map fun k => ((k, V.int ((r + 1 : Nat) : Int)) : Tn × V)).map (·.1) = gf.map (·.1) ++ fr := by
    rw [List.map_append, List.map_map]
    congr 1
    exact List.map_id' fr
  refine ⟨fun p hp => ?_, fun s hs => ?_, fun p hp => ?_⟩
  · rcases List.mem_append.mp hp with h | h
    · exact W.sub p h
    · obtain ⟨k, hk, rfl⟩ := List.mem_map.mp h
      exact ((hf k).mp hk).1
  · rw [keys, List.mem_append, W.i0 s hs, hf (s, 0)]
    constructor
    · rintro (h | h)
      · exact .inl h
      · exact h.2.2.2
    · intro h
      by_cases hn : Win (holds F wd) (mvs F (P 0)) (mvs F (P 1)) r s
      · exact .inl hn
      · exact .inr ⟨hs, rfl, fun z => hn ((W.i0 s hs).mp z), h⟩
  · rcases List.mem_append.mp hp with h | h
    · obtain ⟨n, h1, h2, h3⟩ := W.val p h
      exact ⟨n, h1, by rw [List.length_append]; omega, h3⟩
    · obtain ⟨k, hk, rfl⟩ := List.mem_map.mp h
      obtain ⟨k1, k2, k3, k4⟩ := (hf k).mp hk
      have hne : fr ≠ [] := fun z => by rw [z] at hk; cases hk
      have hpos := List.length_pos_iff.mpr hne
      have := hr hne
      refine ⟨r + 1, rfl, by rw [List.length_append, List.length_map]; omega, fun z => absurd z (Nat.succ_ne_zero r), fun _ => ⟨k4, fun m hm z => k3 ?_⟩, fun z => absurd k2 z⟩
      obtain ⟨s, hh⟩ := k
      have e0 : hh = 0 := k2
      subst e0
      exact (W.i0 s k1).mpr (z.mono (by omega))
end G6
end
section
set_option maxHeartbeats 4000000
set_option Elab.async false
set_option linter.all false
set_option maxRecDepth 100000
namespace G6
open PySem PySem.Spec PyProof.Rows L2 PySem.W
/-- a list of turns at an address -/
theorem putK_fold {κ : Type} [DecidableEq κ] {g : List (κ × V)} {v : V} {fr : List κ} {i : Nat} {k : κ} (hk : fr[i]? = some k) (hn : fr.Nodup) (hd : k ∉ g.map (·.1)) : putK (g ++ (fr.take i).map fun k => (k, v)) k v = g ++ (fr.take (i + 1)).map fun k => (k, v) := by
  rw [putK_new (by
    rw [List.map_append, List.map_map, List.mem_append]
    rintro (z | z)
    · exact hd z
    · rw [show ((fun x : κ × V => x.1) ∘ fun k => (k, v)) = id from rfl, List.map_id] at z
      exact nodup_take' hn hk z), List.take_add_one, hk, List.map_append, List.append_assoc]
  rfl
theorem GD.keyT {w : World} {H : Hp} {a : Addr} {xs : DX} {ep : Nat} (d : DN w H a xs ep) {z : NestedKey × Addr × V} (hz : z ∈ xs) {k : Tn} (e : z.1 = KT.k k) : TT2 H z.2.1 k := rp_tn' (e ▸ (d.keys z hz).1)
section
variable {P : Program} {w : World} {K : PySem.W.Frag} {mg : Str → Option Value} {base : Heap}
theorem sc_Contest_sure_ranks : FnScope ["self", "found", "rank", "fresh", "here"] ["self"] (defScope s_Contest_sure_ranks) := ⟨rfl, rfl, rfl, by decide +kernel, rfl, by decide +kernel, by decide +kernel⟩
def sp_srk (K : PySem.W.Frag) (w : World) : Sp := fun vs H Q _ => ∃ (x : Addr) (dx gA eA sA : Addr) (k0 : Tn) (fs : List (Str × V)) (F : FoldD) (wd : WishD) (P : Nat → List (Nat × Nat)) (n : Nat) (g ge : List (Tn × V)), vs = [.ref x] ∧ H x = some (.ins (He.ga K "Contest") dx fs) ∧ fs.lookup ("ended" : Str) = some (.ref eA) ∧ fs.lookup ("graph" : Str) = some (.ref gA) ∧ fs.lookup ("start" : Str) = some (.ref sA) ∧ fs.lookup ("is_good" : Str) = none ∧ fs.lookup ("is_sure" : Str) = none ∧ PlAt w H gA eA F wd P n g ge ∧ TT2 H sA k0 ∧ k0 ∈ g.map (·.1) ∧
  ∀ H' fA gf, Same H H' → GD w KT H' fA gf → (∀ p ∈ gf, p.1 ∈ g.map (·.1)) → (∀ s, (s, 0) ∈ g.map (·.1) → ((s, 0) ∈ gf.map (·.1) ↔ ∃ m, Win (holds F wd) (mvs F (P 0)) (mvs F (P 1)) m s)) →
    (∀ p ∈ gf, ∃ n : Nat, p.2 = .int (n : Int) ∧ n ≤ 2000 ∧ (n = 0 → holds F wd p.1.1 = true) ∧ (p.1.2 = 0 → ExW (holds F wd) (mvs F (P 0)) (mvs F (P 1)) n p.1.1) ∧ (p.1.2 ≠ 0 → n = 0)) → Q (.ref fA) H'
theorem ok_sure_ranks (T : TX K mg) : C8.Met P w K mg base 3 (He.ga K "Contest") "sure_ranks" (sp_srk K w) [] := by
  have c_m_is_sure := ok_is_sure (P := P) (w := w) (base := base) T
  obtain ⟨fd, F⟩ := T.F_Contest_sure_ranks
  refine ⟨_, fd, ["self"], [], T.k_Contest, T.t_Contest_sure_ranks, ?_, (F.bindsN (fun _ _ _ _ _ _ us hl => match us, hl with | [_], _ => rfl)), .nil⟩
  refine F.ok sc_Contest_sure_ranks (fun vs H Q E h => ?_) (fun cdv A outer s H vs Q E hr h => ?_)
  · obtain ⟨x, dx, gA, eA, sA, k0, fs, F, wd, P, n, g, ge, rfl, _⟩ := h
    rfl
  · obtain ⟨x, dx, gA, eA, sA, k0, fs, F, wd, Pp, n, g, ge, rfl, hx, l1, l2, l3, l4, l5, PL, h0, hk0, q⟩ := h
    have hgnd := PL.gd.nd
    have hend := PL.ed.nd
    have hgl := PL.gl
    have hcl : ∀ k ∈ g.map (·.1), ∀ s ∈ succT F wd Pp k, s ∈ g.map (·.1) := fun k hk => by
      obtain ⟨p, hp, rfl⟩ := List.mem_map.mp hk
      exact (PL.gp p hp).2.2.2
    have hle : ∀ {gg : List (Tn × V)}, (gg.map (·.1)).Nodup → (∀ p ∈ gg, p.1 ∈ g.map (·.1)) → gg.length ≤ g.length := fun {gg} h1 h2 => by
      have z := nodup_sub_len h1 (ys := g.map (·.1)) fun y hy => by
        obtain ⟨p, hp, rfl⟩ := List.mem_map.mp hy
        exact h2 p hp
      rw [List.length_map, List.length_map] at z
      exact z
    have hel : ge.length ≤ g.length := hle hend fun p hp => ((PL.ee p.1).mp (List.mem_map.mpr ⟨p, hp, rfl⟩)).1
    obtain ⟨exs, eep, hed, hexl, hexg⟩ := walk_G PL.ed
    obtain ⟨gxs, gep, hgd, hgxl, hgxg⟩ := walk_G PL.gd
    refine ⟨_, PSs.nox (pss_cons (ps_set (i := 1) sc_Contest_sure_ranks.nd rfl (.inr rfl) (pe_dcN (own := [("here", 4)]) (g := gName 4) hr.u80 (by rfl) sc_Contest_sure_ranks.nd (pi_N' w rfl (pe_fld' K rfl (pv 0) rfl)) (blkOk_by (own := [("here", 4)]) (N := ["self", "found", "rank", "fresh", "here"]) (sc := defScope s_Contest_sure_ranks) (by decide +kernel)) (fun _ _ _ _ _ => (pg_name (i := 4) sc_Contest_sure_ranks.nd rfl (.inl rfl))) (fun _ _ _ _ _ => pts_nil) (fun _ _ _ _ _ => (pv 4)) (fun _ _ _ _ _ => pe_int)))
      (pss_cons (ps_set (i := 2) sc_Contest_sure_ranks.nd rfl (.inl rfl) pe_int)
      (pss_cons (ps_set (i := 3) sc_Contest_sure_ranks.nd rfl (.inl rfl) (pe_lst (pa_cons (pe_fld' K rfl (pv 0) rfl) pa_nil)))
      (pss_cons (ps_while PassesOwn.never (pt_tru' K rfl (pv 3) (by intro _; rfl)) (pss_cons (ps_aug (i := 2) sc_Contest_sure_ranks.nd rfl (.inl rfl) pe_int ip_add)
      (pss_cons (ps_setLc (i := 3) (own := [("here", 4)]) (g := gName 4) (by rfl) sc_Contest_sure_ranks.nd rfl rfl (sw_true rfl rfl rfl (by decide +kernel)) (pi_N' w rfl (pe_fld' K rfl (pv 0) rfl)) (blkOk_by (own := [("here", 4)]) (N := ["self", "found", "rank", "fresh", "here"]) (sc := defScope s_Contest_sure_ranks) (by decide +kernel)) (fun _ _ _ _ _ => (pg_name (i := 4) sc_Contest_sure_ranks.nd rfl (.inl rfl))) (fun _ _ _ _ _ => (pts_one (PW.pt (pw_and (pt_cmpR op_eq (pe_ix (ix_tup' K rfl) (pv 4) pe_int (fun _ _ => rfl)) pe_int (nomark _)) (pw_and (pt_cmpR (op_notInN' w rfl hr.units) (pv 4) (pv 1) (by rfl)) (pw_and1 (pt_val (C8.pe_mt (c_m_is_sure) hr (by omega) (pv 0) (pa_cons (pv 4) (pa_cons (pv 1) pa_nil)))))))))) (fun _ _ _ _ _ => (pv 4)))
      (pss_one (ps_for PassesOwn.never rfl (pi_list' K rfl (pv 3)) (pg_name (i := 4) sc_Contest_sure_ranks.nd rfl (.inl rfl)) (pss_one (ps_asg (pv 2) (pg_sub (pv 1) (pv 4) (set_N' w rfl hr.units)))))))))
      (pss_one (ps_ret (pv 1))))))), ?_⟩
    try dsimp only [cxOf]
    walk_at "WK"
    refine r_ink hed ?_
    refine dcn_J walk_N (fun Dd i H' => Same H H' ∧ H Dd = none ∧ GD w KT H' Dd ((ge.take i).map fun p => (p.1, V.int 0))) (fun Dd hd hdn => ⟨same_new hd, hd, GD.nil hdn⟩) (fun Dd i H' _ h => hed.same h.1) ?_ ?_
    · rintro Dd i y Ha Hb hi ⟨s1, nd, gd⟩ ⟨rfl, z, hz, rfl⟩
      obtain ⟨⟨k, v⟩, hp⟩ := getElem?_of_lt (ls := ge) (i := i) (by omega)
      obtain ⟨z', hz', hz1, hz2⟩ := hexg hp
      rw [hz] at hz'
      cases hz'
      have hT := (GD.keyT hed (List.mem_of_getElem? hz) hz1).ext s1
      have hks : (ge.map (·.1))[i]? = some k := by rw [List.getElem?_map, hp]; rfl
      walk_at "WK"
      refine r_putG gd (rp_tn hT) (lt_szM (by rw [List.length_map, List.length_take]; omega)) fun o' g' t' => ⟨same_of s1 nd, nd, ?_⟩
      rw [putK_new (by
        rw [List.map_map]
        show k ∉ (ge.take i).map (·.1)
        rw [List.map_take]
        exact nodup_take' hend hks)] at g'
      rw [List.take_add_one, hp, List.map_append]
      exact g'
    · rintro fA H1 ⟨s1, nf, gd1⟩
      rw [hexl, List.take_of_length_le (Nat.le_refl _)] at gd1
      have k1 : (ge.map fun p => ((p.1, V.int 0) : Tn × V)).map (·.1) = ge.map (·.1) := by rw [List.map_map]; rfl
      have W0 : WkI F wd Pp g 0 (ge.map fun p => (p.1, V.int 0)) := ⟨fun p hp => by
        obtain ⟨p', hp', rfl⟩ := List.mem_map.mp hp
        exact ((PL.ee p'.1).mp (List.mem_map.mpr ⟨p', hp', rfl⟩)).1, fun s hs => by
        rw [k1, PL.ee (s, 0)]
        exact ⟨fun z => z.2, fun z => ⟨hs, z⟩⟩, fun p hp => by
        obtain ⟨p', hp', rfl⟩ := List.mem_map.mp hp
        have hh := ((PL.ee p'.1).mp (List.mem_map.mpr ⟨p', hp', rfl⟩)).2
        exact ⟨0, rfl, Nat.zero_le _, fun _ => hh, fun _ => ⟨hh, fun m hm => absurd hm (Nat.not_lt_zero _)⟩, fun _ => rfl⟩⟩
      have hx1 := s1 _ _ hx
      have gl1 : (ge.map fun p => ((p.1, V.int 0) : Tn × V)).length ≤ g.length := by rw [List.length_map]; exact hel
      generalize (ge.map fun p => ((p.1, V.int 0) : Tn × V)) = gf0 at gd1 W0 gl1
      walk_at "WK"
      intro L0 hL0
      have s2 := s1.trans (same_new hL0 (o := .lst [.ref sA]))
      have gd2 := gd1.same (same_new hL0 (o := .lst [.ref sA]))
      have hL2 : upd H1 L0 (.lst [.ref sA]) L0 = some (.lst (refs [sA])) := upd_same
      have h02 := h0.ext s2
      generalize upd H1 L0 (.lst [.ref sA]) = H2 at s2 gd2 hL2 h02 ⊢
      walk_at "WK"
      refine wh_L (fun m σ H' => ∃ r fr frs L y4 gf, σ = [some (.ref x), some (.ref fA), some (.int ((r : Nat) : Int)), some (.ref L), y4] ∧ Same H H' ∧ GD w KT H' fA gf ∧ H' L = some (.lst (refs frs)) ∧ WkI F wd Pp g r gf ∧ (r ≠ 0 → frs = [] → ∀ s, (s, 0) ∈ g.map (·.1) → Win (holds F wd) (mvs F (Pp 0)) (mvs F (Pp 1)) (r + 0) s → Win (holds F wd) (mvs F (Pp 0)) (mvs F (Pp 1)) (r - 1) s) ∧ (frs ≠ [] → r ≤ gf.length) ∧ (r = 0 → frs ≠ []) ∧ fr = 2 * (g.length - gf.length) + (if frs = [] then 0 else 1) ∧ m = fr) (m := 2 * (g.length - gf0.length) + (if ([sA] : List Addr) = [] then 0 else 1))
        ⟨0, _, [sA], L0, _, gf0, rfl, s2, gd2, hL2, W0, fun z => absurd rfl z, fun _ => Nat.zero_le _, (fun _ z => by cases z), rfl, rfl⟩ ?_ ?_ ?_
      · rintro m σ H' ⟨r, fr, frs, L, y4, gf, rfl, s3, gd, hL, W, w1, w2, w3, em, em2⟩
        exact ⟨L, refs frs, rfl, hL⟩
      · rintro m σ H3 rr yy ys ⟨r, fr, frs, L, y4, gf, rfl, s3, gd, hL, W, w1, w2, w3, em, em2⟩ hrr hys
        cases hrr
        have hne : frs ≠ [] := fun z => by
          have e1 := HO.lst.inj (Option.some.inj (hL.symm.trans hys))
          have e2 := congrArg List.length e1
          rw [z, List.length_append] at e2
          simp at e2
        rw [if_neg hne] at em
        have hr0 := w2 hne
        have hgfl := hle gd.nd W.sub
        have hx3 := s3 _ _ hx
        have hgd3 := hgd.same s3
        walk_at "WK"
        refine r_ink hgd3 ?_
        -- the fresh turns
        let fq : Tn → Bool := fun k => decide (k.2 = 0) && !decide (k ∈ gf.map (·.1)) && ((succT F wd Pp k).any (goodB F wd Pp (gf.map (·.1))))
        refine lc_N (fun D i H' => Same H3 H' ∧ H3 D = none ∧ ∃ fas, H' D = some (.lst (refs fas)) ∧ All2 (fun a k => TT2 H' a k) fas (((g.map (·.1)).take i).filter fq)) (fun D hD => ⟨same_new hD, hD, [], upd_same, .nil⟩) (fun D i H' _ h => hgd3.same h.1) ?_ ?_
        · rintro D i z H4 hz ⟨s4, nD, fas, hD, hA⟩
          have hi := (List.getElem?_eq_some_iff.mp hz).1
          obtain ⟨⟨k, v⟩, hp⟩ := getElem?_of_lt (ls := g) (i := i) (by omega)
          obtain ⟨z', hz', hz1, hz2⟩ := hgxg hp
          rw [hz] at hz'
          cases hz'
          have hks : (g.map (·.1))[i]? = some k := by rw [List.getElem?_map, hp]; rfl
          have hkk := List.mem_of_getElem? hks
          have hT := (GD.keyT hgd (List.mem_of_getElem? hz) hz1).ext (s3.trans s4)
          obtain ⟨kst, hkt, hks2⟩ := id hT
          have e1 : atI [V.ref kst, V.int (k.2 : Int)] 1 = some (V.int (k.2 : Int)) := atI_nat (j := 1) rfl
          have tk : ((g.map (·.1)).take (i + 1)).filter fq = ((g.map (·.1)).take i).filter fq ++ (if fq k = true then [k] else []) := by
            rw [List.take_add_one, hks, List.filter_append]
            simp [List.filter_cons]
          have s34 := s3.trans s4
          have hfl : fas.length ≤ g.length := by
            rw [hA.len]
            refine Nat.le_trans (List.length_filter_le _ _) ?_
            rw [List.length_take, List.length_map]
            omega
          have skip : fq k = false → Same H3 H4 ∧ H3 D = none ∧ ∃ fas, H4 D = some (.lst (refs fas)) ∧ All2 (fun a k => TT2 H4 a k) fas (((g.map (·.1)).take (i + 1)).filter fq) := fun hq => ⟨s4, nD, fas, hD, by rw [tk, if_neg (by rw [hq]; exact fun z => Bool.noConfusion z), List.append_nil]; exact hA⟩
          walk_at "WK"
          by_cases hk2 : k.2 = 0
          · refine r_ifT2 (by rw [hk2]; exact decide_eq_true rfl) ?_
            walk_at "WK"
            refine r_ninG (gd.same s4) (rp_tn hT) ?_
            by_cases hin : k ∈ gf.map (·.1)
            · rw [valV_in hin]
              walk_at "WK"
              exact skip (by show (_ && !decide _ && _) = false; rw [decide_eq_true hin]; simp)
            · rw [valV_nin hin]
              have hx4 := s34 _ _ hx
              walk_at "WK"
              refine r_methk hx4 l5 ?_
              walk_at "WK"
              refine ⟨x, z.2.1, fA, k, dx, gA, eA, fs, F, wd, Pp, n, g, ge, gf, rfl, hx4, l1, l2, l4, PL.ext s34, gd.same s4, hT, hkk, fun H5 s5 => ?_⟩
              have hD5 := s5 _ _ hD
              have hA5 := hA.imp fun a k r => r.ext s5
              have hT5 := hT.ext s5
              walk_at "WK"
              cases hsu : (succT F wd Pp k).any (goodB F wd Pp (gf.map (·.1))) with
              | true =>
                have hfk : fq k = true := by show (_ && !decide _ && _) = true; rw [hsu, decide_eq_false hin, hk2]; rfl
                walk_at "WK"
                refine r_eltk hD5 (lt_szM (by rw [List.length_map]; omega)) ?_
                have tD : TupSame H5 (upd H5 D (.lst (refs fas ++ [.ref z.2.1]))) := TupSame.mut fun vs e => by rw [hD5] at e; cases e
                exact ⟨same_of (s4.trans s5) nD, nD, fas ++ [z.2.1], by rw [upd_same]; simp [refs], by rw [tk, if_pos hfk]; exact All2.snoc (hA5.imp fun a k r => r.extT tD) (hT5.extT tD)⟩
              | false =>
                walk_at "WK"
                have hfk : fq k = false := by show (_ && !decide _ && _) = false; rw [hsu, Bool.and_false]
                exact ⟨s4.trans s5, nD, fas, hD5, by rw [tk, if_neg (by rw [hfk]; exact fun z => Bool.noConfusion z), List.append_nil]; exact hA5⟩
          · refine r_ifF2 (decide_eq_false fun z => hk2 (by have := V.int.inj z; omega)) ?_
            walk_at "WK"
            exact skip (by show (decide _ && _ && _) = false; rw [decide_eq_false hk2]; rfl)
        · rintro LB H4 ⟨s4, nLB, fas, hLB, hA⟩
          rw [hgxl, List.take_of_length_le (by rw [List.length_map]; exact Nat.le_refl _)] at hA
          have hfr : ∀ k, k ∈ (g.map (·.1)).filter fq ↔ k ∈ g.map (·.1) ∧ k.2 = 0 ∧ k ∉ gf.map (·.1) ∧ Win (holds F wd) (mvs F (Pp 0)) (mvs F (Pp 1)) (r + 1) k.1 := fun k => by
            rw [List.mem_filter]
            refine and_congr_right fun hk => ?_
            show ((decide (k.2 = 0) && !decide (k ∈ gf.map (·.1))) && _) = true ↔ _
            rw [Bool.and_eq_true, Bool.and_eq_true, Bool.not_eq_true', decide_eq_true_eq, decide_eq_false_iff_not, and_assoc]
            refine and_congr_right fun h2 => and_congr_right fun h3 => ?_
            obtain ⟨ks, kh⟩ := k
            have h2' : kh = 0 := h2
            subst h2'
            exact sure_iff W hcl hk fun z => h3 ((W.i0 ks hk).mpr z)
          have hfn : ((g.map (·.1)).filter fq).Nodup := hgnd.filter _
          generalize (g.map (·.1)).filter fq = frT at hA hfr hfn
          have W1 := W.step hcl (fun _ => hr0) hfr hfn
          have hal := hA.len
          have gd4 := gd.same s4
          walk_at "WK"
          refine for_L (xs := refs fas) (fun i σ H' => ∃ y4, σ = [some (.ref x), some (.ref fA), some (.int ((r : Nat) + 1 : Int)), some (.ref LB), y4] ∧ Same H H' ∧ H' LB = some (.lst (refs fas)) ∧ All2 (fun a k => TT2 H' a k) fas frT ∧ GD w KT H' fA (gf ++ (frT.take i).map fun k => (k, V.int ((r + 1 : Nat) : Int))))
            ⟨_, rfl, s3.trans s4, hLB, hA, by simpa using gd4⟩ (fun i σ H' _ h => by obtain ⟨_, _, _, h, _⟩ := h; exact h) ?_ ?_
          · rintro i y σ H5 hy ⟨y4, rfl, s5, hLB5, hA5, gd5⟩
            obtain ⟨a, ha, rfl⟩ := refs_inv hy
            obtain ⟨k, hk, hT⟩ := hA5.getL ha
            obtain ⟨kk1, kk2, kk3, kk4⟩ := (hfr k).mp (List.mem_of_getElem? hk)
            have hgl5 := hle gd5.nd fun p hp => W1.sub p (by
              rcases List.mem_append.mp hp with z | z
              · exact List.mem_append.mpr (.inl z)
              · obtain ⟨k, hk, rfl⟩ := List.mem_map.mp z
                exact List.mem_append.mpr (.inr (List.mem_map.mpr ⟨k, List.mem_of_mem_take hk, rfl⟩)))
            walk_at "WK"
            refine r_setG gd5 (rp_tn hT) (lt_szM (by omega)) fun o6 gd6 t6 => ?_
            rw [show ((r : Int) + 1) = ((r + 1 : Nat) : Int) by omega] at gd6
            rw [putK_fold hk hfn kk3] at gd6
            exact ⟨_, rfl, same_of s5 nf, (upd_ne (gd5.neL hLB5)).trans hLB5, hA5.imp fun a k r => r.extT t6, gd6⟩
          · rintro σ H5 ⟨y4, rfl, s5, hLB5, hA5, gd5⟩
            rw [List.length_map, hal, List.take_length] at gd5
            have hgl5 := hle gd5.nd W1.sub
            have hlen5 : (gf ++ frT.map fun k => ((k, V.int ((r + 1 : Nat) : Int)) : Tn × V)).length = gf.length + frT.length := by rw [List.length_append, List.length_map]
            refine ⟨_, ?_, r + 1, _, fas, LB, _, _, rfl, s5, gd5, hLB5, W1, fun _ hfe s hs hw => ?_, fun hne2 => ?_, fun z => absurd z (Nat.succ_ne_zero r), rfl, rfl⟩
            · by_cases hfe : fas = []
              · rw [if_pos hfe]
                omega
              · rw [if_neg hfe]
                have := List.length_pos_iff.mpr hfe
                omega
            · -- nothing is fresh
              show Win _ _ _ (r + 1 - 1) s
              rw [Nat.add_sub_cancel]
              by_cases hn : Win (holds F wd) (mvs F (Pp 0)) (mvs F (Pp 1)) r s
              · exact hn
              · have hm : (s, 0) ∈ frT := (hfr (s, 0)).mpr ⟨hs, rfl, fun z => hn ((W.i0 s hs).mp z), hw⟩
                rw [hfe] at hal
                have : frT = [] := List.length_eq_zero_iff.mp hal.symm
                rw [this] at hm
                cases hm
            · have := List.length_pos_iff.mpr hne2
              omega
      · rintro m σ H3 rr ⟨r, fr, frs, L, y4, gf, rfl, s3, gd, hL, W, w1, w2, w3, em, em2⟩ hrr hys
        cases hrr
        have hfe : frs = [] := by
          have e1 := HO.lst.inj (Option.some.inj (hL.symm.trans hys))
          cases frs with
          | nil => rfl
          | cons _ _ => cases e1
        have hr : r ≠ 0 := fun z => w3 z hfe
        have hgfl := hle gd.nd W.sub
        walk_at "WK"
        obtain ⟨r', rfl⟩ : ∃ r', r = r' + 1 := ⟨r - 1, by omega⟩
        have hst : ∀ s, (s, 0) ∈ g.map (·.1) → Win (holds F wd) (mvs F (Pp 0)) (mvs F (Pp 1)) (r' + 1) s → Win (holds F wd) (mvs F (Pp 0)) (mvs F (Pp 1)) r' s := w1 hr hfe
        refine q _ fA gf s3 gd W.sub (fun s hs => ?_) (fun p hp => ?_)
        · rw [W.i0 s hs]
          refine ⟨fun z => ⟨_, z⟩, fun ⟨m, z⟩ => ?_⟩
          refine Win.mono (Win.closed (K0 := fun s => (s, 0) ∈ g.map (·.1)) (fun s hs e t ht e2 u hu => ?_) hst m s hs z) (Nat.le_succ r')
          have k1 : (t, 1) ∈ g.map (·.1) := hcl _ hs _ (by
            show (t, 1) ∈ (if holds F wd s = true then _ else _)
            rw [if_neg (by rw [e]; exact fun z => Bool.noConfusion z)]
            exact List.mem_map.mpr ⟨t, ht, rfl⟩)
          exact hcl _ k1 _ (by
            show (u, 0) ∈ (if holds F wd t = true then _ else _)
            rw [if_neg (by rw [e2]; exact fun z => Bool.noConfusion z)]
            exact List.mem_map.mpr ⟨u, hu, rfl⟩)
        · obtain ⟨m, z1, z2, z3, z4, z5⟩ := W.val p hp
          exact ⟨m, z1, by omega, z3, z4, z5⟩
end
end G6
end
section
set_option maxHeartbeats 4000000
set_option Elab.async false
set_option linter.all false
set_option maxRecDepth 100000
/-! A7: len of a dict with nested keys -/
namespace G6
open PySem PySem.Spec PyProof.Rows L2 PySem.W
def kLenN (w : World) : List V → Hp → VK → Prop := fun xs H Q => ∃ (a : Addr) (ys : DX) (ep : Nat), xs = [.ref a] ∧ DN w H a ys ep ∧ Q (.int (ys.length : Int)) H
theorem call_lenN {X : Cx} (w : World) (hw : X.w = w) : CallR X (.builtin "len") (kLenN w) := by
  subst hw
  intro pins s σ H xs us Q I r h
  obtain ⟨a, ys, ep, rfl, D, q⟩ := h
  obtain ⟨u, rfl, ru⟩ := vals1 r
  cases ru
  obtain ⟨o, es, zs, rel, dd, _⟩ := D.dict I.hok
  have hl := ent_len rel
  have hs := D.le
  refine call_len_dictH D.sys dd (by rw [← hl]; have : sizeLine = 2 ^ 24 := rfl; omega) ?_
  exact ⟨.int (ys.length : Int), H, I.tok _, ⟨_, by rw [hl]⟩, q⟩
end G6
end
section
set_option maxHeartbeats 4000000
set_option Elab.async false
set_option linter.all false
set_option maxRecDepth 100000
namespace G6
open PySem PySem.Spec PyProof.Rows L2 PySem.W
theorem SuccT.mut {H : Hp} {L b : Addr} {o : HO} {ss : List Tn} (h : SuccT H (.ref L) ss) (n : L ≠ b) (t : TupSame H (upd H b o)) : SuccT (upd H b o) (.ref L) ss := by
  obtain ⟨L', as, h1, h2, h3⟩ := h
  cases h1
  exact ⟨L, as, rfl, (upd_ne n).trans h2, h3.imp fun _ _ r => r.extT t⟩
structure LoI (w : World) (U : Nat → List St) (lst need : Tn → List Tn) (H0 H : Hp) (gA R : Addr) (g : List (Tn × V)) (Ls : List Addr) (rest : List Tn) : Prop where
  gd : GD w KT H gA g
  gv : g.map (·.2) = refs Ls
  lnd : Ls.Nodup
  lnew : ∀ L ∈ Ls, H0 L = none ∧ L ≠ R
  inU : ∀ p ∈ g, p.1.2 ≤ 1 ∧ p.1.1 ∈ U p.1.2
  pe : ∀ p ∈ g, p.1 ∈ rest → SuccT H p.2 []
  dn : ∀ p ∈ g, p.1 ∉ rest → SuccT H p.2 (lst p.1) ∧ ∀ s ∈ need p.1, s ∈ g.map (·.1)
  rs : ∃ ras, H R = some (.lst (refs ras)) ∧ All2 (fun a k => TT2 H a k) ras rest
  rk : ∀ k ∈ rest, k ∈ g.map (·.1)
  rn : rest.Nodup
section
variable {w : World} {U : Nat → List St} {lst need : Tn → List Tn} {H0 H : Hp} {gA R : Addr} {g : List (Tn × V)} {Ls : List Addr} {rest : List Tn}
theorem LoI.same {H' : Hp} (h : LoI w U lst need H0 H gA R g Ls rest) (s : Same H H') : LoI w U lst need H0 H' gA R g Ls rest :=
  ⟨h.gd.same s, h.gv, h.lnd, h.lnew, h.inU, fun p hp z => (h.pe p hp z).ext s, fun p hp z => ⟨(h.dn p hp z).1.ext s, (h.dn p hp z).2⟩, by
    obtain ⟨ras, h1, h2⟩ := h.rs
    exact ⟨ras, s _ _ h1, h2.imp fun _ _ r => r.ext s⟩, h.rk, h.rn⟩
theorem LoI.val (h : LoI w U lst need H0 H gA R g Ls rest) {p : Tn × V} (hp : p ∈ g) : ∃ L, p.2 = .ref L ∧ L ∈ Ls := by
  have : p.2 ∈ g.map (·.2) := List.mem_map.mpr ⟨p, hp, rfl⟩
  rw [h.gv] at this
  obtain ⟨L, hL, e⟩ := List.mem_map.mp this
  exact ⟨L, e.symm, hL⟩
theorem LoI.mutT {b : Addr} {o : HO} (h : LoI w U lst need H0 H gA R g Ls rest) (n1 : b ≠ gA) (n2 : b ∉ Ls) (n3 : b ≠ R) (t : ∀ vs, H b ≠ some (.tup vs)) : LoI w U lst need H0 (upd H b o) gA R g Ls rest := by
  have tt : TupSame H (upd H b o) := TupSame.mut t
  have mv : ∀ p ∈ g, ∀ ss, SuccT H p.2 ss → SuccT (upd H b o) p.2 ss := fun p hp ss z => by
    obtain ⟨L, e, hL⟩ := h.val hp
    rw [e] at z ⊢
    exact z.mut (fun y => n2 (y ▸ hL)) tt
  exact ⟨h.gd.keep n1 t, h.gv, h.lnd, h.lnew, h.inU, fun p hp z => mv p hp _ (h.pe p hp z), fun p hp z => ⟨mv p hp _ (h.dn p hp z).1, (h.dn p hp z).2⟩, by
    obtain ⟨ras, h1, h2⟩ := h.rs
    exact ⟨ras, (upd_ne n3.symm).trans h1, h2.imp fun _ _ r => r.extT tt⟩, h.rk, h.rn⟩
theorem LoI.glen (h : LoI w U lst need H0 H gA R g Ls rest) : g.length ≤ (U 0).length + (U 1).length := by
  have z := nodup_sub_len h.gd.nd (ys := (U 0).map (fun s => ((s, 0) : Tn)) ++ (U 1).map fun s => (s, 1)) fun k hk => by
    obtain ⟨p, hp, rfl⟩ := List.mem_map.mp hk
    obtain ⟨h1, h2⟩ := h.inU p hp
    obtain ⟨⟨s, hh⟩, v⟩ := p
    have h1 : hh ≤ 1 := h1
    have h2 : s ∈ U hh := h2
    rcases Nat.lt_or_ge hh 1 with z | z
    · have e : hh = 0 := by omega
      subst e
      exact List.mem_append.mpr (.inl (List.mem_map.mpr ⟨s, h2, rfl⟩))
    · have e : hh = 1 := by omega
      subst e
      exact List.mem_append.mpr (.inr (List.mem_map.mpr ⟨s, h2, rfl⟩))
  rw [List.length_map, List.length_append, List.length_map, List.length_map] at z
  exact z
/-- the last of rest is taken -/
theorem LoI.pop {ras : List Addr} {a : Addr} {k0 : Tn} {rest0 : List Tn} (h : LoI w U lst need H0 H gA R g Ls (rest0 ++ [k0])) (hR : H R = some (.lst (refs (ras ++ [a])))) (hA : All2 (fun a k => TT2 H a k) ras rest0) :
    LoI w U (fun k => if k = k0 then [] else lst k) (fun k => if k = k0 then [] else need k) H0 (upd H R (.lst (refs ras))) gA R g Ls rest0 := by
  have tt : TupSame H (upd H R (.lst (refs ras))) := TupSame.mut fun vs e => by rw [hR] at e; cases e
  have hk0 : k0 ∉ rest0 := fun z => (List.nodup_append.mp h.rn).2.2 k0 z k0 (List.mem_cons_self ..) rfl
  have mv : ∀ p ∈ g, ∀ ss, SuccT H p.2 ss → SuccT (upd H R (.lst (refs ras))) p.2 ss := fun p hp ss z => by
    obtain ⟨L, e, hL⟩ := h.val hp
    rw [e] at z ⊢
    exact z.mut (h.lnew L hL).2 tt
  refine ⟨h.gd.keepL hR, h.gv, h.lnd, h.lnew, h.inU, fun p hp z => mv p hp _ (h.pe p hp (List.mem_append.mpr (.inl z))), fun p hp z => ?_, ⟨ras, upd_same, hA.imp fun _ _ r => r.extT tt⟩, fun k hk => h.rk k (List.mem_append.mpr (.inl hk)), (List.nodup_append.mp h.rn).1⟩
  by_cases e : p.1 = k0
  · rw [if_pos e, if_pos e]
    exact ⟨mv p hp _ (h.pe p hp (by rw [e]; simp)), fun s hs => by cases hs⟩
  · rw [if_neg e, if_neg e]
    have z' : p.1 ∉ rest0 ++ [k0] := fun y => (List.mem_append.mp y).elim z fun y => e (List.mem_singleton.mp y)
    exact ⟨mv p hp _ (h.dn p hp z').1, (h.dn p hp z').2⟩
/-- the list of k0 gets one more -/
theorem LoI.app {L t : Addr} {as : List Addr} {k0 kk : Tn} (h : LoI w U lst need H0 H gA R g Ls rest) (hp : (k0, V.ref L) ∈ g) (hk : k0 ∉ rest) (hL : H L = some (.lst (refs as))) (hA : All2 (fun a k => TT2 H a k) as (lst k0)) (ht : TT2 H t kk) :
    LoI w U (fun k => if k = k0 then lst k0 ++ [kk] else lst k) need H0 (upd H L (.lst (refs as ++ [.ref t]))) gA R g Ls rest := by
  have tt : TupSame H (upd H L (.lst (refs as ++ [.ref t]))) := TupSame.mut fun vs e => by rw [hL] at e; cases e
  obtain ⟨L', eL, hLm⟩ := h.val hp
  cases eL
  have uniq : ∀ p ∈ g, p.2 = .ref L → p.1 = k0 := fun p hp' e => by
    obtain ⟨i, hi⟩ := List.getElem?_of_mem hp'
    obtain ⟨j, hj⟩ := List.getElem?_of_mem hp
    have h1 : (refs Ls)[i]? = some (.ref L) := by rw [← h.gv, List.getElem?_map, hi, ← e]; rfl
    have h2 : (refs Ls)[j]? = some (.ref L) := by rw [← h.gv, List.getElem?_map, hj]; rfl
    obtain ⟨a1, g1, e1⟩ := refs_inv h1
    obtain ⟨a2, g2, e2⟩ := refs_inv h2
    cases e1
    cases e2
    obtain ⟨p1, q1⟩ := List.getElem?_eq_some_iff.mp g1
    obtain ⟨p2, q2⟩ := List.getElem?_eq_some_iff.mp g2
    have := (List.getElem_inj h.lnd).mp (q1.trans q2.symm)
    subst this
    rw [hi] at hj
    cases hj
    rfl
  have mv : ∀ p ∈ g, p.1 ≠ k0 → ∀ ss, SuccT H p.2 ss → SuccT (upd H L (.lst (refs as ++ [.ref t]))) p.2 ss := fun p hp' ne ss z => by
    obtain ⟨L', e, hL'⟩ := h.val hp'
    have n : L' ≠ L := fun y => ne (uniq p hp' (by rw [e, y]))
    rw [e] at z ⊢
    exact z.mut n tt
  refine ⟨h.gd.keepL hL, h.gv, h.lnd, h.lnew, h.inU, fun p hp' z => mv p hp' (fun e => hk (e ▸ z)) _ (h.pe p hp' z), fun p hp' z => ?_, ?_, h.rk, h.rn⟩
  · refine ⟨?_, (h.dn p hp' z).2⟩
    by_cases e : p.1 = k0
    · rw [if_pos e]
      have e2 : p.2 = .ref L := by
        have v1 := valV_get h.gd.nd (List.getElem?_of_mem hp).choose_spec
        have v2 := valV_get h.gd.nd (i := (List.getElem?_of_mem hp').choose) (k := p.1) (v := p.2) (List.getElem?_of_mem hp').choose_spec
        rw [e, v1] at v2
        exact (Option.some.inj v2).symm
      rw [e2]
      exact ⟨L, as ++ [t], rfl, by rw [upd_same]; simp [refs], All2.snoc (hA.imp fun _ _ r => r.extT tt) (ht.extT tt)⟩
    · rw [if_neg e]
      exact mv p hp' e _ (h.dn p hp' z).1
  · obtain ⟨ras, h1, h2⟩ := h.rs
    exact ⟨ras, (upd_ne (h.lnew L hLm).2.symm).trans h1, h2.imp fun _ _ r => r.extT tt⟩
/-- a new turn is put in, and into rest -/
theorem LoI.ins {l t : Addr} {o' : HO} {ras : List Addr} {kk : Tn} (h : LoI w U lst need H0 H gA R g Ls rest) (hl : H l = some (.lst [])) (hl0 : H0 l = none) (hlL : l ∉ Ls) (hlR : l ≠ R) (hkk : kk ∉ g.map (·.1)) (ht : TT2 H t kk) (hU : kk.2 ≤ 1 ∧ kk.1 ∈ U kk.2)
    (hR : H R = some (.lst (refs ras))) (hA : All2 (fun a k => TT2 H a k) ras rest) (gd : GD w KT (upd H gA o') gA (putK g kk (.ref l))) (tt : TupSame H (upd H gA o')) :
    LoI w U lst need H0 (upd (upd H gA o') R (.lst (refs ras ++ [.ref t]))) gA R (putK g kk (.ref l)) (Ls ++ [l]) (rest ++ [kk]) := by
  have nRg := h.gd.neL hR
  have hR2 : upd H gA o' R = some (.lst (refs ras)) := (upd_ne nRg).trans hR
  have tt2 : TupSame (upd H gA o') (upd (upd H gA o') R (.lst (refs ras ++ [.ref t]))) := TupSame.mut fun vs e => by rw [hR2] at e; cases e
  have hkr : kk ∉ rest := fun z => hkk (h.rk kk z)
  have mv : ∀ p ∈ g, ∀ ss, SuccT H p.2 ss → SuccT (upd (upd H gA o') R (.lst (refs ras ++ [.ref t]))) p.2 ss := fun p hp ss z => by
    obtain ⟨L, e, hL⟩ := h.val hp
    obtain ⟨L', as, e1, e2, e3⟩ := id z
    rw [e] at e1
    cases e1
    rw [e] at z ⊢
    exact (z.mut (h.gd.neL e2) tt).mut (h.lnew L hL).2 tt2
  rw [putK_new hkk] at gd ⊢
  refine ⟨gd.keepL hR2, ?_, ?_, ?_, ?_, ?_, ?_, ⟨ras ++ [t], by rw [upd_same]; simp [refs], All2.snoc (hA.imp fun _ _ r => (r.extT tt).extT tt2) ((ht.extT tt).extT tt2)⟩, ?_, ?_⟩
  · rw [List.map_append, h.gv]; simp [refs]
  · refine List.nodup_append.mpr ⟨h.lnd, by simp, fun a ha b hb => ?_⟩
    rw [List.mem_singleton] at hb
    exact fun z => hlL (by rw [← hb, ← z]; exact ha)
  · intro L hL
    rcases List.mem_append.mp hL with z | z
    · exact h.lnew L z
    · rw [List.mem_singleton] at z
      rw [z]
      exact ⟨hl0, hlR⟩
  · intro p hp
    rcases List.mem_append.mp hp with z | z
    · exact h.inU p z
    · rw [List.mem_singleton] at z
      rw [z]
      exact hU
  · intro p hp hr
    rcases List.mem_append.mp hp with z | z
    · have hne : p.1 ≠ kk := fun e => hkk (e ▸ List.mem_map.mpr ⟨p, z, rfl⟩)
      exact mv p z _ (h.pe p z ((List.mem_append.mp hr).resolve_right fun y => hne (List.mem_singleton.mp y)))
    · rw [List.mem_singleton] at z
      rw [z]
      exact ⟨l, [], rfl, (upd_ne hlR).trans ((upd_ne (h.gd.neL hl)).trans hl), .nil⟩
  · intro p hp hr
    rcases List.mem_append.mp hp with z | z
    · have hr' : p.1 ∉ rest := fun y => hr (List.mem_append.mpr (.inl y))
      refine ⟨mv p z _ (h.dn p z hr').1, fun s hs => ?_⟩
      rw [List.map_append]
      exact List.mem_append.mpr (.inl ((h.dn p z hr').2 s hs))
    · rw [List.mem_singleton] at z
      exact absurd (by rw [z]; simp) hr
  · intro k hk
    rw [List.map_append]
    rcases List.mem_append.mp hk with z | z
    · exact List.mem_append.mpr (.inl (h.rk k z))
    · exact List.mem_append.mpr (.inr (by simpa using z))
  · refine List.nodup_append.mpr ⟨h.rn, by simp, fun a ha b hb => ?_⟩
    rw [List.mem_singleton] at hb
    exact fun z => hkr (by rw [← hb, ← z]; exact ha)
end
end G6
end
section
set_option maxHeartbeats 4000000
set_option Elab.async false
set_option linter.all false
set_option maxRecDepth 100000
namespace G6
open PySem PySem.Spec PyProof.Rows L2 PySem.W
/-- two sets of states, one for each hand, that pours lead to and fro -/
structure UniT (F : FoldD) (P : Nat → List (Nat × Nat)) (n : Nat) (U : Nat → List St) : Prop where
  st : F.hues ∈ U 0
  cl : ∀ h, h ≤ 1 → ∀ s ∈ U h, ∀ p ∈ P h, spread F s (F.homes.getD p.1 0) p.2 ∈ U (1 - h)
  ln : ∀ h, h ≤ 1 → ∀ s ∈ U h, s.length = n
  sz : (U 0).length + (U 1).length ≤ 2000
  ps : ∀ h, ∀ p ∈ P h, p.1 < F.homes.length
  pl : ∀ h, (P h).length ≤ 16
theorem r_lenN {w : World} {H : Hp} {Q : VK} {a : Addr} {g : List (Tn × V)} (d : GD w KT H a g) (k : Q (.int (g.length : Int)) H) : kLenN w [.ref a] H Q := by
  obtain ⟨xs, ep, h1, h2, _⟩ := walk_G d
  exact ⟨a, xs, ep, rfl, h1, by rw [h2]; exact k⟩
section
variable {P : Program} {w : World} {K : PySem.W.Frag} {mg : Str → Option Value} {base : Heap}
theorem sc_Contest_lead_on : FnScope ["self", "graph", "rest", "here", "state", "hand", "mark", "hue", "after"] ["self"] (defScope s_Contest_lead_on) := ⟨rfl, rfl, rfl, by decide +kernel, rfl, by decide +kernel, by decide +kernel⟩
def sp_lead (K : PySem.W.Frag) (w : World) : Sp := fun vs H Q _ => ∃ (x dx du fA pT sA eA p0 p1 : Addr) (pas0 pas1 : List Addr) (fs : List (Str × V)) (F : FoldD) (wd : WishD) (P : Nat → List (Nat × Nat)) (n : Nat) (U : Nat → List St) (H0 : Hp), vs = [.ref x] ∧ Same H0 H ∧ H0 eA = none ∧ GD w KT H eA [] ∧ H0 x = some (.ins (He.ga K "Contest") dx fs) ∧
  fs.lookup ("due" : Str) = some (.ref du) ∧ fs.lookup ("folding" : Str) = some (.ref fA) ∧ fs.lookup ("pours" : Str) = some (.ref pT) ∧ fs.lookup ("start" : Str) = some (.ref sA) ∧ fs.lookup ("ended" : Str) = some (.ref eA) ∧
  H0 du = some (.tup (wishV wd)) ∧ FoldAt K H0 fA F ∧ H0 pT = some (.tup [.ref p0, .ref p1]) ∧ H0 p0 = some (.lst (refs pas0)) ∧ H0 p1 = some (.lst (refs pas1)) ∧ CpT H0 pas0 (P 0) ∧ CpT H0 pas1 (P 1) ∧ TT2 H0 sA (F.hues, 0) ∧ FOk F n ∧ WishOk F wd ∧ UniT F P n U ∧
  ∀ H' gA g ge, Same H0 H' → PlAt w H' gA eA F wd P n g ge → (F.hues, 0) ∈ g.map (·.1) → Q (.ref gA) H'
theorem ok_lead_on (T : TX K mg) : C8.Met P w K mg base 3 (He.ga K "Contest") "lead_on" (sp_lead K w) [] := by
  have c_wish_in_state := ok_wish_in_state (P := P) (w := w) (base := base) T
  have c_spread_hue := ok_spread_hue (P := P) (w := w) (base := base) T
  obtain ⟨fd, F⟩ := T.F_Contest_lead_on
  obtain ⟨cMT, hMT, tMT, rfl⟩ := T.c_MOST_TURNS
  refine ⟨_, fd, ["self"], [], T.k_Contest, T.t_Contest_lead_on, ?_, (F.bindsN (fun _ _ _ _ _ _ us hl => match us, hl with | [_], _ => rfl)), .nil⟩
  refine F.ok sc_Contest_lead_on (fun vs H Q E h => ?_) (fun cdv A outer s H vs Q E hr h => ?_)
  · obtain ⟨x, dx, du, fA, pT, sA, eA, p0, p1, pas0, pas1, fs, F, wd, P, n, U, H0, rfl, _⟩ := h
    rfl
  · obtain ⟨x, dx, du, fA, pT, sA, eA, p0, p1, pas0, pas1, fs, F, wd, Pp, n, U, H0, rfl, s0, ne0, gE0, hx, l1, l2, l3, l4, l5, hdu, hF, hpT, hp0, hp1, hc0, hc1, hs0, ok, hw, hU, k⟩ := h
    obtain ⟨dxf, nA, nrA, hoA, huA, f1, f2, f3, f4, f5⟩ := id hF
    have hsz := hU.sz
    refine ⟨_, PSs.nox (pss_cons (ps_set (i := 1) sc_Contest_lead_on.nd rfl (.inl rfl) (pe_none' w rfl hr.units (pe_fld' K rfl (pv 0) rfl) (pe_lst pa_nil)))
      (pss_cons (ps_set (i := 2) sc_Contest_lead_on.nd rfl (.inl rfl) (pe_lst (pa_cons (pe_fld' K rfl (pv 0) rfl) pa_nil)))
      (pss_cons (ps_while PassesOwn.never (pt_tru' K rfl (pv 2) (by intro _; rfl)) (pss_cons (ps_set (i := 3) sc_Contest_lead_on.nd rfl (.inl rfl) (pe_bm0' K rfl PySem.F.plainAttrs_list PySem.F.slot_list_pop PySem.F.type_list_pop mt_pop (pv 2)))
      (pss_cons (ps_asg (pv 3) (pg_tup' (n := 2) K rfl (by rfl) (pgs_cons (pg_name (i := 4) sc_Contest_lead_on.nd rfl (.inl rfl)) (pgs_cons (pg_name (i := 5) sc_Contest_lead_on.nd rfl (.inl rfl)) pgs_nil)) (by rfl)))
      (pss_cons (ps_if (pt_val (C8.pe_c (c_wish_in_state) hr (by omega) (by rfl) (pa_cons (pe_fld' K rfl (pv 0) rfl) (pa_cons (pv 4) (pa_cons (pe_fld' K rfl (pv 0) rfl) pa_nil))))) (pss_cons (ps_asg pe_bl (pg_sub (pe_fld' K rfl (pv 0) rfl) (pv 3) (set_N' w rfl hr.units)))
      (pss_one ps_continue)) pss_nil)
      (pss_cons (ps_for PassesOwn.never rfl (pi_list' K rfl (pe_ix (ix_tup' K rfl) (pe_fld' K rfl (pv 0) rfl) (pv 5) (fun _ _ => rfl))) (pg_tup' (n := 2) K rfl (by rfl) (pgs_cons (pg_name (i := 6) sc_Contest_lead_on.nd rfl (.inl rfl)) (pgs_cons (pg_name (i := 7) sc_Contest_lead_on.nd rfl (.inl rfl)) pgs_nil)) (by rfl)) (pss_cons (ps_set (i := 8) sc_Contest_lead_on.nd rfl (.inl rfl) (pe_tup (pa_cons (C8.pe_c (c_spread_hue) hr (by omega) (by rfl) (pa_cons (pe_fld' K rfl (pv 0) rfl) (pa_cons (pv 4) (pa_cons (pe_ix (ix_list' K rfl) (pe_fld' K rfl (pe_fld' K rfl (pv 0) rfl) rfl) (pv 6) (fun _ _ => rfl)) (pa_cons (pv 7) pa_nil))))) (pa_cons (pe_op op_sub pe_int (pv 5)) pa_nil))))
      (pss_cons (ps_expr (pe_bm' K rfl PySem.F.plainAttrs_list PySem.F.slot_list_append PySem.F.type_list_append mt_append (pe_nget' w rfl hr.units (pv 1) (pv 3) (fun _ _ => rfl)) (pa_cons (pv 8) pa_nil)))
      (pss_one (ps_if (pt_cmpR (op_notInN' w rfl hr.units) (pv 8) (pv 1) (by rfl)) (pss_cons (ps_asg (pe_lst pa_nil) (pg_sub (pv 1) (pv 8) (set_N' w rfl hr.units)))
      (pss_one (ps_expr (pe_bm' K rfl PySem.F.plainAttrs_list PySem.F.slot_list_append PySem.F.type_list_append mt_append (pv 2) (pa_cons (pv 8) pa_nil))))) pss_nil)))))
      (pss_one (ps_if (pt_cmpR op_gt (pe_callB (call_lenN w rfl) (by rfl) T.f_len (by decide +kernel) (pa_cons (pv 1) pa_nil)) (C8.pe_gc (by rfl) T.c_MOST_TURNS) (nomark _)) (pss_one ps_never) pss_nil)))))))
      (pss_one (ps_ret (pv 1)))))), ?_⟩
    try dsimp only [cxOf]
    have hxH := s0 _ _ hx
    walk_at "WK"
    intro gA hgA hd0
    have s1 := s0.trans (same_new hgA (o := dN w gA [] 0))
    have gE1 := gE0.same (same_new hgA (o := dN w gA [] 0))
    have ngH0 : H0 gA = none := s0.free hgA
    have hx1 := s1 _ _ hx
    walk_at "WK"
    intro l0 hl0
    have nl0 : H0 l0 = none := s1.free hl0
    have hd1 := hd0.same (same_new hl0 (o := .lst []))
    have gE2 := gE1.same (same_new hl0 (o := .lst []))
    have s2 := same_of s1 nl0 (o := .lst [])
    have hl02 : upd (upd H gA (dN w gA [] 0)) l0 (.lst []) l0 = some (.lst []) := upd_same
    have nlg : l0 ≠ gA := fun z => by rw [z, upd_same] at hl0; cases hl0
    have neg : gA ≠ eA := gE0.neN hgA
    refine r_noneG (F := KT) (k := (F.hues, 0)) hd1 (rp_tn (hs0.ext s2)) fun o3 g3 t3 => ?_
    have s3 := same_of s2 ngH0 (o := o3)
    have gE3 := gE2.keep (o := o3) neg (fun vs e => by rw [(hd1.at_)] at e; cases e)
    have hl03 : upd (upd (upd H gA (dN w gA [] 0)) l0 (.lst [])) gA o3 l0 = some (.lst []) := (upd_ne nlg).trans hl02
    generalize upd (upd (upd H gA (dN w gA [] 0)) l0 (.lst [])) gA o3 = H3 at g3 t3 s3 gE3 hl03 ⊢
    have hx3 := s3 _ _ hx
    walk_at "WK"
    intro R hR
    have nR0 := s3.free hR
    have s4 := same_of s3 nR0 (o := .lst [.ref sA])
    have g4 := g3.same (same_new hR (o := .lst [.ref sA]))
    have gE4 := gE3.same (same_new hR (o := .lst [.ref sA]))
    have hl04 := (same_new hR (o := .lst [.ref sA])) _ _ hl03
    have hR4 : upd H3 R (.lst [.ref sA]) R = some (.lst (refs [sA])) := upd_same
    have nRg : R ≠ gA := g3.neN hR
    have nRe : R ≠ eA := gE3.neN hR
    have nRl : l0 ≠ R := ne_of_none hl03 hR
    generalize upd H3 R (.lst [.ref sA]) = H4 at s4 g4 gE4 hl04 hR4 ⊢
    walk_at "WK"
    refine wh_L (fun m σ H' => ∃ g ge Ls rest y3 y4 y5 y6 y7 y8, σ = [some (.ref x), some (.ref gA), some (.ref R), y3, y4, y5, y6, y7, y8] ∧ Same H0 H' ∧ GD w KT H' eA ge ∧ LoI w U (succT F wd Pp) (succT F wd Pp) H0 H' gA R g Ls rest ∧ (∀ k, k ∈ ge.map (·.1) ↔ k ∈ g.map (·.1) ∧ k ∉ rest ∧ holds F wd k.1 = true) ∧ (F.hues, 0) ∈ g.map (·.1) ∧ 2 * (2000 - g.length) + rest.length = m ∧ m ≤ 4000) (m := 2 * (2000 - 1) + 1)
      ⟨[((F.hues, 0), .ref l0)], [], [l0], [(F.hues, 0)], _, _, _, _, _, _, rfl, s4, gE4, ⟨g4, rfl, by simp, fun L hL => by rw [List.mem_singleton] at hL; rw [hL]; exact ⟨nl0, nRl⟩, fun p hp => by rw [List.mem_singleton] at hp; rw [hp]; exact ⟨Nat.zero_le _, hU.st⟩, fun p hp _ => by rw [List.mem_singleton] at hp; rw [hp]; exact ⟨l0, [], rfl, hl04, .nil⟩, fun p hp z => by rw [List.mem_singleton] at hp; rw [hp] at z; exact absurd (List.mem_singleton.mpr rfl) z, ⟨[sA], hR4, .cons (hs0.ext s4) .nil⟩, fun k hk => hk, by simp⟩, fun k => ⟨fun z => by simp at z, fun z => absurd (by simpa using z.1) (by simpa using z.2.1)⟩, by simp, rfl, by omega⟩ ?_ ?_ ?_
    · rintro m σ H' ⟨g, ge, Ls, rest, y3, y4, y5, y6, y7, y8, rfl, s5, gE, I, hee, hst, em, em2⟩
      obtain ⟨ras, h1, h2⟩ := I.rs
      exact ⟨R, refs ras, rfl, h1⟩
    · rintro m σ H5 rr yy ys ⟨g, ge, Ls, rest, y3, y4, y5, y6, y7, y8, rfl, s5, gE, I, hee, hst, em, em2⟩ hrr hys
      cases hrr
      obtain ⟨ras, hr1, hr2⟩ := I.rs
      have er := Option.some.inj (hr1.symm.trans hys)
      obtain ⟨ras0, ka, rfl, rfl, rfl⟩ := refs_snoc (HO.lst.inj er)
      obtain ⟨rest0, k0, rfl, hr3, hr4⟩ := All2.snoc_inv hr2
      have hk0r : k0 ∉ rest0 := fun z => (List.nodup_append.mp I.rn).2.2 k0 z k0 (List.mem_cons_self ..) rfl
      have hk0 := I.rk k0 (by simp)
      have glen := I.glen
      obtain ⟨hk1, hk0U⟩ : k0.2 ≤ 1 ∧ k0.1 ∈ U k0.2 := by
        obtain ⟨p, hp, e⟩ := List.mem_map.mp hk0
        rw [← e]
        exact I.inU p hp
      have hsl := hU.ln _ hk1 _ hk0U
      rw [List.length_append, List.length_singleton] at em
      walk_at "WK"
      refine r_popL hys ?_
      have J := I.pop (ras := ras0) (a := ka) hr1 hr3
      have tR : TupSame H5 (upd H5 R (.lst (refs ras0))) := TupSame.mut fun vs e => by rw [hr1] at e; cases e
      have s6 := same_of s5 nR0 (o := .lst (refs ras0))
      have gE6 := gE.keepL (o := .lst (refs ras0)) hr1
      have hT6 := hr4.extT tR
      generalize upd H5 R (.lst (refs ras0)) = H6 at J s6 gE6 hT6 ⊢
      obtain ⟨sta, hkt, hst6⟩ := id hT6
      have hx6 := s6 _ _ hx
      have f16 := s6 _ _ f1
      have hdu6 := s6 _ _ hdu
      walk_at "WK"
      refine r_wis (hF.ext s6) hst6 hdu6 (by rw [hsl]; exact ok) hw fun H7 s7 => ?_
      have J7 := J.same s7
      have gE7 := gE6.same s7
      have hT7 := hT6.ext s7
      have s07 := s6.trans s7
      have hx7 := s07 _ _ hx
      walk_at "WK"
      by_cases hh : holds F wd k0.1 = true
      · refine r_ifT2 hh ?_
        walk_at "WK"
        refine r_setG gE7 (rp_tn hT7) (lt_szM (by
          have z := nodup_sub_len gE7.nd (ys := g.map (·.1)) fun y hy => ((hee y).mp hy).1
          rw [List.length_map, List.length_map] at z
          omega)) fun o8 gE8 t8 => ?_
        obtain ⟨φ, hφ⟩ := gE7.at_
        have nel : eA ∉ Ls := fun z => by
          have := (J7.lnew eA z)
          obtain ⟨p, hp, e⟩ : ∃ p ∈ g, p.2 = .ref eA := by
            have : V.ref eA ∈ g.map (·.2) := by rw [I.gv]; exact List.mem_map.mpr ⟨eA, z, rfl⟩
            obtain ⟨p, hp, e⟩ := List.mem_map.mp this
            exact ⟨p, hp, e⟩
          by_cases hr : p.1 ∈ rest0
          · obtain ⟨L, as, e1, e2, _⟩ := J7.pe p hp hr
            rw [e] at e1
            cases e1
            rw [hφ] at e2
            cases e2
          · obtain ⟨⟨L, as, e1, e2, _⟩, _⟩ := J7.dn p hp hr
            rw [e] at e1
            cases e1
            rw [hφ] at e2
            cases e2
        have nge : eA ≠ gA := fun z => by
          have hg := J7.gd
          obtain ⟨ψ, hψ⟩ := hg.at_
          exact absurd z (fun z => neg z.symm)
        have J8 := J7.mutT (o := o8) nge nel nRe.symm (fun vs e => by rw [hφ] at e; cases e)
        have esT : succT F wd Pp k0 = [] := by rw [succT, if_pos hh]
        refine ⟨_, ?_, g, putK ge k0 (.bl true), Ls, rest0, _, _, _, _, _, _, rfl, same_of s07 ne0, gE8, ⟨J8.gd, J8.gv, J8.lnd, J8.lnew, J8.inU, J8.pe, fun p hp z => ?_, J8.rs, J8.rk, J8.rn⟩, fun q => ?_, hst, rfl, ?_⟩
        · omega
        · obtain ⟨z1, z2⟩ := J8.dn p hp z
          by_cases e : p.1 = k0
          · rw [if_pos e] at z1 z2
            rw [e, esT]
            exact ⟨z1, z2⟩
          · rw [if_neg e] at z1 z2
            exact ⟨z1, z2⟩
        · rw [mem_keys_putK, hee q]
          constructor
          · rintro (z | z)
            · exact ⟨z.1, fun y => z.2.1 (List.mem_append.mpr (.inl y)), z.2.2⟩
            · rw [z]; exact ⟨hk0, hk0r, hh⟩
          · rintro ⟨z1, z2, z3⟩
            by_cases e : q = k0
            · exact .inr e
            · exact .inl ⟨z1, fun y => (List.mem_append.mp y).elim z2 fun y => e (List.mem_singleton.mp y), z3⟩
        · omega
      · refine r_ifF2 (by simpa using hh) ?_
        have hhf : holds F wd k0.1 = false := by simpa using hh
        have esT : succT F wd Pp k0 = tmv F Pp k0 := by rw [succT, if_neg hh]
        have hpT7 := s07 _ _ hpT
        -- the pours of the hand
        obtain ⟨pA, pas, hpA, hpC, hpi⟩ : ∃ pA pas, H0 pA = some (.lst (refs pas)) ∧ CpT H0 pas (Pp k0.2) ∧ atI [V.ref p0, V.ref p1] (k0.2 : Int) = some (V.ref pA) := by
          rcases Nat.lt_or_ge k0.2 1 with z | z
          · have e : k0.2 = 0 := by omega
            rw [e]
            exact ⟨p0, pas0, hp0, hc0, atI_nat (j := 0) rfl⟩
          · have e : k0.2 = 1 := by omega
            rw [e]
            exact ⟨p1, pas1, hp1, hc1, atI_nat (j := 1) rfl⟩
        have hpA7 := s07 _ _ hpA
        have hpl := hU.pl k0.2
        walk_at "WK"
        refine r_ixT hpT7 hpi ?_
        refine r_ilstk hpA7 ?_
        have hlA := hpC.len
        refine for_L (xs := refs pas) (fun j σ H' => ∃ g Ls rest y6 y7 y8, σ = [some (.ref x), some (.ref gA), some (.ref R), some (.ref ka), some (.ref sta), some (.int (k0.2 : Int)), y6, y7, y8] ∧ Same H0 H' ∧ GD w KT H' eA ge ∧ TT2 H' ka k0 ∧ TN H' sta k0.1 ∧ LoI w U (fun k => if k = k0 then (tmv F Pp k0).take j else succT F wd Pp k) (fun k => if k = k0 then (tmv F Pp k0).take j else succT F wd Pp k) H0 H' gA R g Ls rest ∧ (∀ k, k ∈ ge.map (·.1) ↔ k ∈ g.map (·.1) ∧ k ∉ rest ∧ holds F wd k.1 = true) ∧ k0 ∈ g.map (·.1) ∧ k0 ∉ rest ∧ (F.hues, 0) ∈ g.map (·.1) ∧ 2 * (2000 - g.length) + rest.length + 1 ≤ m)
          ⟨g, Ls, rest0, _, _, _, rfl, s07, gE7, hT7, s7 _ _ hst6, ⟨J7.gd, J7.gv, J7.lnd, J7.lnew, J7.inU, J7.pe, fun p hp z => by simpa using J7.dn p hp z, J7.rs, J7.rk, J7.rn⟩, fun q => by
            rw [hee q]
            constructor
            · exact fun z => ⟨z.1, fun y => z.2.1 (List.mem_append.mpr (.inl y)), z.2.2⟩
            · rintro ⟨z1, z2, z3⟩
              have e : q ≠ k0 := fun e => hh (e ▸ z3)
              exact ⟨z1, fun y => (List.mem_append.mp y).elim z2 fun y => e (List.mem_singleton.mp y), z3⟩, hk0, hk0r, hst, by omega⟩ (fun j σ H' _ h => by obtain ⟨_, _, _, _, _, _, _, h, _⟩ := h; exact h _ _ hpA) ?_ ?_
        · rintro j y σ H8 hy ⟨g8, Ls8, rest8, y6, y7, y8, rfl, s8, gE8, hT8, hst8, J8, hee8, hk08, hk0r8, hst08, em8⟩
          obtain ⟨pa, hpa, rfl⟩ := refs_inv hy
          obtain ⟨p, hp, hpt⟩ := hpC.getL hpa
          have hpt8 := s8 _ _ hpt
          have hx8 := s8 _ _ hx
          have f18 := s8 _ _ f1
          have f48 := s8 _ _ f4
          obtain ⟨hm, hhm⟩ := getElem?_of_lt (hU.ps k0.2 p (List.mem_of_getElem? hp))
          have hji := (List.getElem?_eq_some_iff.mp hp).1
          walk_at "WK"
          refine r_spr (hF.ext s8) hst8 (by rw [hsl]; exact ok) (by rw [hsl]; exact ok.ho hm (List.mem_of_getElem? hhm)) fun H9 q s9 hq => ?_
          walk_at "WK"
          intro t ht
          rw [show ((1 : Int) - (k0.2 : Int)) = ((1 - k0.2 : Nat) : Int) by omega] at *
          have sT := s9.trans (same_new ht (o := .tup [.ref q, .int ((1 - k0.2 : Nat) : Int)]))
          have hkk : TT2 (upd H9 t (.tup [.ref q, .int ((1 - k0.2 : Nat) : Int)])) t (spread F k0.1 hm p.2, 1 - k0.2) := ⟨q, upd_same, (same_new ht) _ _ hq⟩
          have J10 := J8.same sT
          have gE10 := gE8.same sT
          have hT10 := hT8.ext sT
          have hst10 := sT _ _ hst8
          have s10 := s8.trans sT
          generalize upd H9 t (.tup [.ref q, .int ((1 - k0.2 : Nat) : Int)]) = H10 at sT hkk J10 gE10 hT10 hst10 s10 ⊢
          have ekk : (tmv F Pp k0)[j]? = some (spread F k0.1 hm p.2, 1 - k0.2) := by
            rw [tmv, mvs, List.map_map, List.getElem?_map, hp]
            show some (spread F k0.1 (F.homes.getD p.1 0) p.2, 1 - k0.2) = _
            rw [getD_of hhm]
          have hkkU : (1 - k0.2) ≤ 1 ∧ spread F k0.1 hm p.2 ∈ U (1 - k0.2) := ⟨by omega, by
            have z := hU.cl _ hk1 _ hk0U p (List.mem_of_getElem? hp)
            rw [getD_of hhm] at z
            exact z⟩
          generalize hkkd : ((spread F k0.1 hm p.2, 1 - k0.2) : Tn) = kk at hkk ekk
          have hkkU' : kk.2 ≤ 1 ∧ kk.1 ∈ U kk.2 := by rw [← hkkd]; exact hkkU
          have tk : (tmv F Pp k0).take (j + 1) = (tmv F Pp k0).take j ++ [kk] := by rw [List.take_add_one, ekk]; rfl
          obtain ⟨v, hv, hvm⟩ := valV_ex hk08
          obtain ⟨⟨L, las, e1, hL, hLA⟩, _⟩ := J10.dn _ hvm hk0r8
          have e1 : v = .ref L := e1
          subst e1
          have hLA : All2 (fun a k => TT2 H10 a k) las ((tmv F Pp k0).take j) := by
            have z := hLA
            simp only [if_true] at z
            exact z
          have hlen := hLA.len
          walk_at "WK"
          refine r_ngetG J10.gd (rp_tn hT10) hv ?_
          walk_at "WK"
          have hl16 : las.length ≤ 16 := by
            rw [hlen, List.length_take]
            have : (Pp k0.2).length ≤ 16 := hpl
            have : (tmv F Pp k0).length = (Pp k0.2).length := by rw [tmv, mvs, List.length_map, List.length_map]
            omega
          refine r_append hL (lt_sz (by rw [List.length_map]; omega)) ?_
          have J11 := J10.app (kk := kk) (t := t) hvm hk0r8 hL (by simpa using hLA) hkk
          have tL : TupSame H10 (upd H10 L (.lst (refs las ++ [.ref t]))) := TupSame.mut fun vs e => by rw [hL] at e; cases e
          obtain ⟨L', eL', hLm⟩ := J10.val hvm
          cases eL'
          have nL0 := (J10.lnew L hLm).1
          have s11 := same_of s10 nL0 (o := .lst (refs las ++ [.ref t]))
          have gE11 := gE10.keepL (o := .lst (refs las ++ [.ref t])) hL
          have hT11 := hT10.extT tL
          have hst11 := tL _ _ hst10
          have hkk11 := hkk.extT tL
          generalize upd H10 L (.lst (refs las ++ [.ref t])) = H11 at J11 tL s11 gE11 hT11 hst11 hkk11 ⊢
          have gl11 := J11.glen
          walk_at "WK"
          refine r_ninG J11.gd (rp_tn hkk11) ?_
          by_cases hin : kk ∈ g8.map (·.1)
          · rw [valV_in hin]
            walk_at "WK"
            refine ⟨g8, Ls8, rest8, _, _, _, rfl, s11, gE11, hT11, hst11, ⟨J11.gd, J11.gv, J11.lnd, J11.lnew, J11.inU, J11.pe, fun p hp z => ?_, J11.rs, J11.rk, J11.rn⟩, hee8, hk08, hk0r8, hst08, em8⟩
            obtain ⟨z1, z2⟩ := J11.dn p hp z
            by_cases e : p.1 = k0
            · rw [if_pos e, tk]
              rw [if_pos e] at z1 z2
              simp only [if_true] at z1
              exact ⟨z1, fun s hs => (List.mem_append.mp hs).elim (z2 s) fun y => by rw [List.mem_singleton.mp y]; exact hin⟩
            · rw [if_neg e]
              rw [if_neg e] at z1 z2
              rw [if_neg e] at z1
              exact ⟨z1, z2⟩
          · rw [valV_nin hin]
            walk_at "WK"
            intro l hl
            have nl := s11.free hl
            have sL := same_new hl (o := .lst [])
            have J12 := J11.same sL
            have gE12 := gE11.same sL
            have s12 := s11.trans sL
            have hkk12 := hkk11.ext sL
            have hl12 : upd H11 l (.lst []) l = some (.lst []) := upd_same
            have hlLs : l ∉ Ls8 := fun z => by
              obtain ⟨p, hp, e⟩ : ∃ p ∈ g8, p.2 = .ref l := by
                have : V.ref l ∈ g8.map (·.2) := by rw [J8.gv]; exact List.mem_map.mpr ⟨l, z, rfl⟩
                obtain ⟨p, hp, e⟩ := List.mem_map.mp this
                exact ⟨p, hp, e⟩
              by_cases hr : p.1 ∈ rest8
              · obtain ⟨L, as, e1, e2, _⟩ := J11.pe p hp hr
                rw [e] at e1
                cases e1
                rw [hl] at e2
                cases e2
              · obtain ⟨⟨L, as, e1, e2, _⟩, _⟩ := J11.dn p hp hr
                rw [e] at e1
                cases e1
                rw [hl] at e2
                cases e2
            have hT12 := hT11.ext sL
            have hst12 := sL _ _ hst11
            obtain ⟨ras8, hr81, hr82⟩ := J12.rs
            have hlR : l ≠ R := fun z => by rw [z] at hl; obtain ⟨_, h, _⟩ := J11.rs; rw [hl] at h; cases h
            generalize upd H11 l (.lst []) = H12 at J12 gE12 s12 hkk12 hl12 hT12 hst12 hr81 hr82 sL ⊢
            walk_at "WK"
            refine r_setG J12.gd (rp_tn hkk12) (lt_szM (by omega)) fun o13 gd13 t13 => ?_
            have nRg12 := J12.gd.neL hr81
            have hR13 : upd H12 gA o13 R = some (.lst (refs ras8)) := (upd_ne nRg12).trans hr81
            obtain ⟨φ, hφ⟩ := J12.gd.at_
            have gE13 := gE12.keep (o := o13) neg (fun vs e => by rw [hφ] at e; cases e)
            have hr83 := hr82.len
            walk_at "WK"
            refine r_append hR13 (lt_szM (by rw [List.length_map]; omega)) ?_
            have J14 := J12.ins (t := t) hl12 nl hlLs hlR hin hkk12 hkkU' hr81 hr82 gd13 t13
            have tR14 : TupSame (upd H12 gA o13) (upd (upd H12 gA o13) R (.lst (refs ras8 ++ [.ref t]))) := TupSame.mut fun vs e => by rw [hR13] at e; cases e
            have gl14 := J14.glen
            have pl14 : (putK g8 kk (V.ref l)).length = g8.length + 1 := putK_len hin
            have hkr : kk ∉ rest8 := fun z => hin (J11.rk kk z)
            refine ⟨_, _, rest8 ++ [kk], _, _, _, rfl, same_of (same_of s12 ngH0) nR0, gE13.keepL hR13, (hT12.extT t13).extT tR14, tR14 _ _ (t13 _ _ hst12), ⟨J14.gd, J14.gv, J14.lnd, J14.lnew, J14.inU, J14.pe, fun p hp z => ?_, J14.rs, J14.rk, J14.rn⟩, fun q => ?_, mem_keys_putK.mpr (.inl hk08), fun z => (List.mem_append.mp z).elim hk0r8 fun y => hin (List.mem_singleton.mp y ▸ hk08), mem_keys_putK.mpr (.inl hst08), by rw [List.length_append, List.length_singleton, pl14]; omega⟩
            · obtain ⟨z1, z2⟩ := J14.dn p hp z
              by_cases e : p.1 = k0
              · rw [if_pos e, tk]
                rw [if_pos e] at z1 z2
                simp only [if_true] at z1
                exact ⟨z1, fun s hs => (List.mem_append.mp hs).elim (z2 s) fun y => by rw [List.mem_singleton.mp y]; exact mem_keys_putK.mpr (.inr rfl)⟩
              · rw [if_neg e]
                rw [if_neg e] at z1 z2
                rw [if_neg e] at z1
                exact ⟨z1, z2⟩
            · rw [hee8 q, mem_keys_putK]
              constructor
              · rintro ⟨z1, z2, z3⟩
                refine ⟨.inl z1, fun y => (List.mem_append.mp y).elim z2 fun y => hin (List.mem_singleton.mp y ▸ z1), z3⟩
              · rintro ⟨z1, z2, z3⟩
                have hq : q ≠ kk := fun e => z2 (by rw [e]; simp)
                exact ⟨z1.resolve_right hq, fun y => z2 (List.mem_append.mpr (.inl y)), z3⟩
        · rintro σ H8 ⟨g8, Ls8, rest8, y6, y7, y8, rfl, s8, gE8, hT8, hst8, J8, hee8, hk08, hk0r8, hst08, em8⟩
          have etm : (tmv F Pp k0).length = (refs pas).length := by rw [tmv, mvs, List.length_map, List.length_map, List.length_map]; exact hlA.symm
          rw [← etm, List.take_length] at J8
          have gl8 := J8.glen
          walk_at "WK"
          refine r_lenN J8.gd ?_
          walk_at "WK"
          refine ⟨_, ?_, g8, ge, Ls8, rest8, _, _, _, _, _, _, rfl, s8, gE8, ⟨J8.gd, J8.gv, J8.lnd, J8.lnew, J8.inU, J8.pe, fun p hp z => ?_, J8.rs, J8.rk, J8.rn⟩, hee8, hst08, rfl, ?_⟩
          · omega
          · obtain ⟨z1, z2⟩ := J8.dn p hp z
            by_cases e : p.1 = k0
            · rw [if_pos e] at z1 z2
              rw [e, esT]
              exact ⟨z1, z2⟩
            · rw [if_neg e] at z1 z2
              exact ⟨z1, z2⟩
          · omega
    · rintro m σ H5 rr ⟨g, ge, Ls, rest, y3, y4, y5, y6, y7, y8, rfl, s5, gE, I, hee, hst, em, em2⟩ hrr hys
      cases hrr
      obtain ⟨ras, hr1, hr2⟩ := I.rs
      have er := HO.lst.inj (Option.some.inj (hr1.symm.trans hys))
      have er2 : ras = [] := by
        cases ras with
        | nil => rfl
        | cons _ _ => cases er
      subst er2
      cases hr2
      have glen := I.glen
      walk_at "WK"
      exact k _ gA g ge s5 ⟨I.gd, gE, by omega, fun p hp => ⟨hU.ln _ (I.inU p hp).1 _ (I.inU p hp).2, (I.inU p hp).1, (I.dn p hp (by simp)).1, (I.dn p hp (by simp)).2⟩, fun q => by rw [hee q]; exact ⟨fun z => ⟨z.1, z.2.2⟩, fun z => ⟨z.1, by simp, z.2⟩⟩, hU.pl⟩ hst
end
end G6
end
section
set_option maxHeartbeats 4000000
set_option Elab.async false
set_option linter.all false
set_option maxRecDepth 100000
namespace G6
open PySem PySem.Spec PyProof.Rows L2 PySem.W
section
variable {K : PySem.W.Frag} {H : Hp} {x C dx : Addr} {fs : List (Str × V)}
theorem SuccT.drop {v : V} {ss : List Tn} (h : SuccT H v ss) (hx : H x = some (.ins C dx fs)) : SuccT (dr H x) v ss := by
  obtain ⟨L, as, h1, h3, h4⟩ := h
  exact ⟨L, as, h1, dr_lst hx h3, h4.imp fun _ _ r => r.extT (dr_tup hx)⟩
theorem PlAt.drop {w : World} {gA eA : Addr} {F : FoldD} {wd : WishD} {P : Nat → List (Nat × Nat)} {n : Nat} {g ge : List (Tn × V)} (h : PlAt w H gA eA F wd P n g ge) (hx : H x = some (.ins C dx fs)) : PlAt w (dr H x) gA eA F wd P n g ge :=
  ⟨h.gd.drop hx, h.ed.drop hx, h.gl, fun p hp => ⟨(h.gp p hp).1, (h.gp p hp).2.1, (h.gp p hp).2.2.1.drop hx, (h.gp p hp).2.2.2⟩, h.ee, h.sm⟩
end
/-- the pours of the two hands -/
def Pof (ms os hs : List Nat) : Nat → List (Nat × Nat) := fun h => if h = 0 then poursOf (srt ms) (srt hs) else poursOf (srt os) (srt hs)
/-- a contest as it stands -/
structure CtAt (K : PySem.W.Frag) (w : World) (H : Hp) (x : Addr) (F : FoldD) (wd : WishD) (P : Nat → List (Nat × Nat)) (n : Nat) (fA pT sA eA gA rA p0 p1 : Addr) (pas0 pas1 : List Addr) (g ge gf : List (Tn × V)) : Prop where
  at_ : ∃ dx du, H x = some (.ins (He.ga K "Contest") dx (f_Contest (.ref du) (.ref fA) (.ref pT) (.ref sA) (.ref eA) (.ref gA) (.ref rA)))
  fold : FoldAt K H fA F
  ok : FOk F n
  pt : H pT = some (.tup [.ref p0, .ref p1])
  pl0 : H p0 = some (.lst (refs pas0))
  pl1 : H p1 = some (.lst (refs pas1))
  pc0 : CpT H pas0 (P 0)
  pc1 : CpT H pas1 (P 1)
  st : TT2 H sA (F.hues, 0)
  sk : (F.hues, 0) ∈ g.map (·.1)
  PL : PlAt w H gA eA F wd P n g ge
  fd : GD w KT H rA gf
  fsub : ∀ p ∈ gf, p.1 ∈ g.map (·.1)
  fi : ∀ s, (s, 0) ∈ g.map (·.1) → ((s, 0) ∈ gf.map (·.1) ↔ ∃ m, Win (holds F wd) (mvs F (P 0)) (mvs F (P 1)) m s)
  fv : ∀ p ∈ gf, ∃ n : Nat, p.2 = .int (n : Int) ∧ n ≤ 2000 ∧ (n = 0 → holds F wd p.1.1 = true) ∧ (p.1.2 = 0 → ExW (holds F wd) (mvs F (P 0)) (mvs F (P 1)) n p.1.1) ∧ (p.1.2 ≠ 0 → n = 0)
theorem CtAt.ext {K : PySem.W.Frag} {w : World} {H H' : Hp} {x : Addr} {F : FoldD} {wd : WishD} {P : Nat → List (Nat × Nat)} {n : Nat} {fA pT sA eA gA rA p0 p1 : Addr} {pas0 pas1 : List Addr} {g ge gf : List (Tn × V)} (h : CtAt K w H x F wd P n fA pT sA eA gA rA p0 p1 pas0 pas1 g ge gf) (s : Same H H') : CtAt K w H' x F wd P n fA pT sA eA gA rA p0 p1 pas0 pas1 g ge gf :=
  ⟨by obtain ⟨dx, du, e⟩ := h.at_; exact ⟨dx, du, s _ _ e⟩, h.fold.ext s, h.ok, s _ _ h.pt, s _ _ h.pl0, s _ _ h.pl1, h.pc0.ext s, h.pc1.ext s, h.st.ext s, h.sk, h.PL.ext s, h.fd.same s, h.fsub, h.fi, h.fv⟩
section
variable {P : Program} {w : World} {K : PySem.W.Frag} {mg : Str → Option Value} {base : Heap}
theorem r_chh {H : Hp} {Q : VK} {E : XK} {p a b c : Addr} {d : PicD} {ms os hs : List Nat} (hp : PicAt K H p d) (ha : LN H a ms) (hb : LN H b os) (hc : LN H c hs) (om : MsOk ms 4 d.mks.length) (oo : MsOk os 4 d.mks.length) (oh : MsOk hs 3 100)
    (k : ∀ H' q x z y, Same H H' → H' q = some (.tup [.ref x, .ref z, .ref y]) → TN H' x (srt ms) → TN H' z (srt os) → TN H' y (srt hs) → Q (.ref q) H') : sp_chh K ([.ref p, .ref a, .ref b, .ref c] ++ []) H Q E := ⟨p, a, b, c, d, ms, os, hs, rfl, hp, ha, hb, hc, om, oo, oh, k⟩
theorem sc_Contest_init : FnScope ["self", "picture", "mine", "theirs", "colours", "aim", "marks", "others", "hues"] ["self", "picture", "mine", "theirs", "colours", "aim"] (defScope s_Contest_init) := ⟨rfl, rfl, rfl, by decide +kernel, rfl, by decide +kernel, by decide +kernel⟩
def sp_ct (K : PySem.W.Frag) (w : World) : Sp := fun vs H Q _ => ∃ (x dx p a b c e : Addr) (d : PicD) (ms os hs : List Nat) (wd : WishD) (n : Nat) (U : Nat → List St) (H0 : Hp), vs = [.ref x, .ref p, .ref a, .ref b, .ref c, .ref e] ∧ Same H0 H ∧ H0 x = none ∧ H x = some (.ins (He.ga K "Contest") dx []) ∧ PicAt K H0 p d ∧ PicW d ∧ d.col.length ≤ 8 ∧ LN H0 a ms ∧ LN H0 b os ∧ LN H0 c hs ∧ H0 e = some (.tup (wishV wd)) ∧ MsOk ms 4 d.mks.length ∧ MsOk os 4 d.mks.length ∧ MsOk hs 3 100 ∧ WishG d wd ∧
  FOk (foldP d) n ∧ WishOk (foldP d) wd ∧ UniT (foldP d) (Pof ms os hs) n U ∧
  ∀ H' fA pT sA eA gA rA p0 p1 pas0 pas1 g ge gf, Same H0 H' → CtAt K w H' x (foldP d) wd (Pof ms os hs) n fA pT sA eA gA rA p0 p1 pas0 pas1 g ge gf → Q .non H'
theorem ok_Contest_init (T : TX K mg) : C8.Mak P w K mg base 6 "Contest" (He.ga K "Contest") (sp_ct K w) [] := by
  have c_check_hands := ok_check_hands (P := P) (w := w) (base := base) T
  have c_check_wish := ok_check_wish (P := P) (w := w) (base := base) T
  have c_folded_patches := ok_folded_patches (P := P) (w := w) (base := base) T
  have c_list_pours := ok_list_pours (P := P) (w := w) (base := base) T
  have c_m_lead_on := ok_lead_on (P := P) (w := w) (base := base) T
  have c_m_sure_ranks := ok_sure_ranks (P := P) (w := w) (base := base) T
  obtain ⟨fd, F⟩ := T.F_Contest_init
  refine ⟨_, fd, ["self", "picture", "mine", "theirs", "colours", "aim"], [], T.m_Contest, ?_, T.g_Contest, (F.bindsN (fun _ _ _ _ _ _ us hl => match us, hl with | [_, _, _, _, _, _], _ => rfl)), .nil⟩
  refine F.ok sc_Contest_init (fun vs H Q E h => ?_) (fun cdv A outer s H vs Q E hr h => ?_)
  · obtain ⟨x, dx, p, a, b, c, e, d, ms, os, hs, wd, n, U, H0, rfl, _⟩ := h
    rfl
  · obtain ⟨x, dx, p, a, b, c, e, d, ms, os, hs, wd, n, U, H0, rfl, s0, nx, hx, hp, hw, hc8, ha, hb, hc, he, om, oo, oh, hwg, fok, hwo, hU, k⟩ := h
    have lms : (srt ms).length = ms.length := (srt_perm ms).length_eq
    have los : (srt os).length = os.length := (srt_perm os).length_eq
    have lhs : (srt hs).length = hs.length := (srt_perm hs).length_eq
    have om2 := om.l2
    have oo2 := oo.l2
    have oh2 := oh.l2
    obtain ⟨c8, hc8v, t8, rfl⟩ := T.c_MOST_PARTS
    refine ⟨_, PSs.nox (pss_cons (ps_asg (C8.pe_c (c_check_hands) hr (by omega) (by rfl) (pa_cons (pv 1) (pa_cons (pv 2) (pa_cons (pv 3) (pa_cons (pv 4) pa_nil))))) (pg_tup' (n := 3) K rfl (by rfl) (pgs_cons (pg_name (i := 6) sc_Contest_init.nd rfl (.inl rfl)) (pgs_cons (pg_name (i := 7) sc_Contest_init.nd rfl (.inl rfl)) (pgs_cons (pg_name (i := 8) sc_Contest_init.nd rfl (.inl rfl)) pgs_nil))) (by rfl)))
      (pss_cons (ps_fld (pv 0) (C8.pe_c (c_check_wish) hr (by omega) (by rfl) (pa_cons (pv 1) (pa_cons (pv 5) pa_nil))) rfl)
      (pss_cons (ps_fld (pv 0) (C8.pe_c (c_folded_patches) hr (by omega) (by rfl) (pa_cons (pv 1) (pa_cons (C8.pe_gc (by rfl) T.c_MOST_PARTS) pa_nil))) rfl)
      (pss_cons (ps_fld (pv 0) (pe_tup (pa_cons (C8.pe_c (c_list_pours) hr (by omega) (by rfl) (pa_cons (pv 6) (pa_cons (pv 8) pa_nil))) (pa_cons (C8.pe_c (c_list_pours) hr (by omega) (by rfl) (pa_cons (pv 7) (pa_cons (pv 8) pa_nil))) pa_nil))) rfl)
      (pss_cons (ps_fld (pv 0) (pe_tup (pa_cons (pe_fld' K rfl (pe_fld' K rfl (pv 0) rfl) rfl) (pa_cons pe_int pa_nil))) rfl)
      (pss_cons (ps_fld (pv 0) (pe_nnew' w rfl) rfl)
      (pss_cons (ps_fld (pv 0) (C8.pe_mt0 (c_m_lead_on) hr (by omega) (pv 0)) rfl)
      (pss_one (ps_fld (pv 0) (C8.pe_mt0 (c_m_sure_ranks) hr (by omega) (pv 0)) rfl))))))))), ?_⟩
    try dsimp only [cxOf]
    walk_at "WK"
    refine r_chh (hp.ext s0) (s0 _ _ ha) (s0 _ _ hb) (s0 _ _ hc) om oo oh fun H1 q m1 o1 h1 s1 hq hm1 ho1 hh1 => ?_
    have s01 := s0.trans s1
    have hx1 := s1 _ _ hx
    walk_at "WK"
    refine r_chw (hp.ext s01) (s01 _ _ he) hwg fun H2 du s2 hdu => ?_
    have hx2 := s2 _ _ hx1
    have D2 := dr_of (s01.trans s2) nx
    have t2 := dr_tup hx2
    have hm2 := t2 _ _ (s2 _ _ hm1)
    have ho2 := t2 _ _ (s2 _ _ ho1)
    have hh2 := t2 _ _ (s2 _ _ hh1)
    have hdu2 := t2 _ _ hdu
    walk_at "WK"
    have u2 : Same (dr H2 x) (upd H2 x (.ins (He.ga K "Contest") dx [("due", .ref du)])) := dr_up
    have hx2' : upd H2 x (.ins (He.ga K "Contest") dx [("due", .ref du)]) x = some (.ins (He.ga K "Contest") dx [("due", .ref du)]) := upd_same
    refine r_fp (most := 8) (hp.ext (D2.trans u2)) hw hc8 fun H3 fA s3 hF3 => ?_
    have hx3 := s3 _ _ hx2'
    have D23 := dr_step (Same.refl (dr H2 x)) s3
    have nd : ("due" : Str) ≠ "numbers" := by decide +kernel
    have hF3 := hF3.drop hx3 (fun _ _ _ _ z => nd (congrArg Prod.fst (List.cons.inj z).1))
    obtain ⟨dxf, nA, nrA, hoA, huA, f1, f2, f3, f4, f5⟩ := id hF3
    walk_at "WK"
    have u3 : Same (dr H3 x) (upd H3 x (.ins (He.ga K "Contest") dx [("due", .ref du), ("folding", .ref fA)])) := dr_up
    have hx3' : upd H3 x (.ins (He.ga K "Contest") dx [("due", .ref du), ("folding", .ref fA)]) x = some (.ins (He.ga K "Contest") dx [("due", .ref du), ("folding", .ref fA)]) := upd_same
    refine r_lp (u3 _ _ (D23 _ _ hm2)) (u3 _ _ (D23 _ _ hh2)) (by omega) (by omega) fun H4 p0 pas0 s4 hp0 hc0 => ?_
    have hx4 := s4 _ _ hx3'
    have u34 := u3.trans s4
    walk_at "WK"
    refine r_lp (u34 _ _ (D23 _ _ ho2)) (u34 _ _ (D23 _ _ hh2)) (by omega) (by omega) fun H5 p1 pas1 s5 hp1 hc1 => ?_
    have hx5 := s5 _ _ hx4
    walk_at "WK"
    intro pT hpT
    have s6 := same_new hpT (o := .tup [.ref p0, .ref p1])
    have hx6 := s6 _ _ hx5
    have D36 := dr_step (Same.refl (dr H3 x)) ((s4.trans s5).trans s6)
    have hpT6 := dr_tup hx6 _ _ (show upd H5 pT (.tup [.ref p0, .ref p1]) pT = _ from upd_same)
    have hp06 := dr_lst hx6 ((s5.trans s6) _ _ hp0)
    have hp16 := dr_lst hx6 (s6 _ _ hp1)
    have hc06 := (hc0.ext (s5.trans s6)).drop hx6
    have hc16 := (hc1.ext s6).drop hx6
    generalize upd H5 pT (.tup [.ref p0, .ref p1]) = H6 at hx6 D36 hpT6 hp06 hp16 hc06 hc16 ⊢
    walk_at "WK"
    have u6 : Same (dr H6 x) (upd H6 x (.ins (He.ga K "Contest") dx [("due", .ref du), ("folding", .ref fA), ("pours", .ref pT)])) := dr_up
    have hx6' : upd H6 x (.ins (He.ga K "Contest") dx [("due", .ref du), ("folding", .ref fA), ("pours", .ref pT)]) x = some (.ins (He.ga K "Contest") dx [("due", .ref du), ("folding", .ref fA), ("pours", .ref pT)]) := upd_same
    have f16 := u6 _ _ (D36 _ _ f1)
    generalize upd H6 x (.ins (He.ga K "Contest") dx [("due", .ref du), ("folding", .ref fA), ("pours", .ref pT)]) = H6' at u6 hx6' f16 ⊢
    walk_at "WK"
    intro sA hsA
    have s7 := same_new hsA (o := .tup [.ref huA, .int 0])
    have hx7 := s7 _ _ hx6'
    have hs7 : TT2 (upd H6' sA (.tup [.ref huA, .int 0])) sA ((foldP d).hues, 0) := ⟨huA, upd_same, s7 _ _ (u6 _ _ (D36 _ _ f5))⟩
    have s67 := u6.trans s7
    generalize upd H6' sA (.tup [.ref huA, .int 0]) = H7 at hx7 hs7 s67 ⊢
    have hs7d := hs7.extT (dr_tup hx7)
    have D67 : Same (dr H6 x) (dr H7 x) := fun b o e => by
      have hb : b ≠ x := fun z => by rw [z, dr_self] at e; cases e
      rw [dr_ne hb]
      exact s67 _ _ e
    walk_at "WK"
    refine r_newG KT fun eA oE heA gE => ?_
    have hxe : x ≠ eA := ne_of_none upd_same heA
    have heA7 : H7 eA = none := by rw [upd_ne hxe.symm] at heA; exact heA
    have hdu7 := D67 _ _ (D36 _ _ (D23 _ _ hdu2))
    have hF7 := (hF3.ext D36).ext D67
    have hpT7 := D67 _ _ hpT6
    have hp07 := D67 _ _ hp06
    have hp17 := D67 _ _ hp16
    have hc07 := hc06.ext D67
    have hc17 := hc16.ext D67
    have D07 : Same H0 (dr H7 x) := D2.trans (D23.trans (D36.trans D67))
    walk_at "WK"
    have u7 : Same (dr H7 x) (upd H7 x (.ins (He.ga K "Contest") dx [("due", .ref du), ("folding", .ref fA), ("pours", .ref pT), ("start", .ref sA), ("ended", .ref eA)])) := dr_up
    have hx8 : upd (upd (upd H7 x (.ins (He.ga K "Contest") dx [("due", .ref du), ("folding", .ref fA), ("pours", .ref pT), ("start", .ref sA)])) eA oE) x (.ins (He.ga K "Contest") dx [("due", .ref du), ("folding", .ref fA), ("pours", .ref pT), ("start", .ref sA), ("ended", .ref eA)]) x = some (.ins (He.ga K "Contest") dx [("due", .ref du), ("folding", .ref fA), ("pours", .ref pT), ("start", .ref sA), ("ended", .ref eA)]) := upd_same
    have hxx : upd (upd H7 x (.ins (He.ga K "Contest") dx [("due", .ref du), ("folding", .ref fA), ("pours", .ref pT), ("start", .ref sA)])) eA oE x = some (.ins (He.ga K "Contest") dx [("due", .ref du), ("folding", .ref fA), ("pours", .ref pT), ("start", .ref sA)]) := (upd_ne hxe).trans upd_same
    have gE8 := gE.keep (b := x) (o := .ins (He.ga K "Contest") dx [("due", .ref du), ("folding", .ref fA), ("pours", .ref pT), ("start", .ref sA), ("ended", .ref eA)]) hxe (fun vs e => by rw [hxx] at e; cases e)
    have s08 : Same (upd H7 x (.ins (He.ga K "Contest") dx [("due", .ref du), ("folding", .ref fA), ("pours", .ref pT), ("start", .ref sA), ("ended", .ref eA)])) (upd (upd (upd H7 x (.ins (He.ga K "Contest") dx [("due", .ref du), ("folding", .ref fA), ("pours", .ref pT), ("start", .ref sA)])) eA oE) x (.ins (He.ga K "Contest") dx [("due", .ref du), ("folding", .ref fA), ("pours", .ref pT), ("start", .ref sA), ("ended", .ref eA)])) := fun b o e => by
      by_cases hb : b = x
      · subst hb
        rw [upd_same] at e ⊢
        exact e
      · rw [upd_ne hb] at e ⊢
        rw [upd_ne (fun z => by rw [z, heA7] at e; cases e), upd_ne hb]
        exact e
    refine r_methk hx8 rfl ?_
    walk_at "WK"
    refine ⟨x, dx, du, fA, pT, sA, eA, p0, p1, pas0, pas1, _, foldP d, wd, Pof ms os hs, n, U, _, rfl, s08, (upd_ne hxe.symm).trans heA7, gE8, upd_same, rfl, rfl, rfl, rfl, rfl, u7 _ _ hdu7, hF7.ext u7, u7 _ _ hpT7, u7 _ _ hp07, u7 _ _ hp17, hc07.ext u7, hc17.ext u7, hs7d.ext u7, fok, hwo, hU, fun H9 gA g ge s9 PL hst => ?_⟩
    have hx9 := s9 _ _ upd_same
    have D79 := dr_step (Same.refl (dr H7 x)) s9
    have PL9 := PL.drop hx9
    walk_at "WK"
    have u9 : Same (dr H9 x) (upd H9 x (.ins (He.ga K "Contest") dx [("due", .ref du), ("folding", .ref fA), ("pours", .ref pT), ("start", .ref sA), ("ended", .ref eA), ("graph", .ref gA)])) := dr_up
    have hx9' : upd H9 x (.ins (He.ga K "Contest") dx [("due", .ref du), ("folding", .ref fA), ("pours", .ref pT), ("start", .ref sA), ("ended", .ref eA), ("graph", .ref gA)]) x = some (.ins (He.ga K "Contest") dx [("due", .ref du), ("folding", .ref fA), ("pours", .ref pT), ("start", .ref sA), ("ended", .ref eA), ("graph", .ref gA)]) := upd_same
    refine r_methk hx9' rfl ?_
    walk_at "WK"
    refine ⟨x, dx, gA, eA, sA, ((foldP d).hues, 0), _, foldP d, wd, Pof ms os hs, n, g, ge, rfl, hx9', rfl, rfl, rfl, rfl, rfl, PL9.ext u9, (hs7d.ext D79).ext u9, hst, fun H10 rA gf s10 hfd hfs hfi hfv => ?_⟩
    have hx10 := s10 _ _ hx9'
    have D910 := dr_step (Same.refl (dr H9 x)) s10
    have hfd10 := hfd.drop hx10
    walk_at "WK"
    have u10 : Same (dr H10 x) (upd H10 x (.ins (He.ga K "Contest") dx (f_Contest (.ref du) (.ref fA) (.ref pT) (.ref sA) (.ref eA) (.ref gA) (.ref rA)))) := dr_up
    have D := D79.trans (D910.trans u10)
    exact k _ fA pT sA eA gA rA p0 p1 pas0 pas1 g ge gf (D07.trans D) ⟨⟨dx, du, upd_same⟩, hF7.ext D, fok, D _ _ hpT7, D _ _ hp07, D _ _ hp17, hc07.ext D, hc17.ext D, hs7d.ext D, hst, PL9.ext (D910.trans u10), hfd10.same u10, hfs, hfi, hfv⟩
end
end G6
end
section
set_option maxHeartbeats 4000000
set_option Elab.async false
set_option linter.all false
namespace G6
open PySem PySem.Spec PyProof.Rows L2 PySem.W
/-! N1: what a search through a picture finds -/
/-- a way from a to a place, all further places of which pass ok -/
inductive Con (near : List (List Nat)) (ok : Nat → Prop) (a : Nat) : Nat → Prop
  | refl : Con near ok a a
  | step {b c : Nat} (h : Con near ok a b) (hc : c ∈ near.getD b []) (hk : ok c) : Con near ok a c
theorem Con.mono {near : List (List Nat)} {ok ok' : Nat → Prop} {a b : Nat} (h : Con near ok a b) (hk : ∀ l ∈ near, ∀ b ∈ l, ok b → ok' b) : Con near ok' a b := by
  induction h with
  | refl => exact .refl
  | step h hc hok ih =>
    rename_i b c
    refine .step ih hc (hk _ ?_ _ hc hok)
    cases e : near[b]? with
    | none => rw [List.getD_eq_getElem?_getD, e] at hc; cases hc
    | some l => rw [getD_of e]; exact List.mem_of_getElem? e
theorem mem_getD {near : List (List Nat)} {b c : Nat} (h : c ∈ near.getD b []) : ∃ l ∈ near, c ∈ l := by
  cases e : near[b]? with
  | none => rw [List.getD_eq_getElem?_getD, e] at h; cases h
  | some l => rw [getD_of e] at h; exact ⟨l, List.mem_of_getElem? e, h⟩
theorem Con.lt {near : List (List Nat)} {ok : Nat → Prop} {a b N : Nat} (hn : ∀ l ∈ near, ∀ b ∈ l, b < N) (ha : a < N) (h : Con near ok a b) : b < N := by
  cases h with
  | refl => exact ha
  | step _ hc _ => obtain ⟨l, hl, hm⟩ := mem_getD hc; exact hn l hl _ hm
theorem Con.ok {near : List (List Nat)} {ok : Nat → Prop} {a b : Nat} (h : Con near ok a b) (ha : ok a) : ok b := by
  cases h with
  | refl => exact ha
  | step _ _ hk => exact hk
theorem grS_mem {eqc : Nat → Bool} {f r : List Nat} {b x : Nat} : x ∈ (grS eqc (f, r) b).1 ↔ x ∈ f ∨ (x = b ∧ eqc b = true) := by
  unfold grS
  split
  · rename_i h
    simp only [List.mem_append, List.mem_singleton]
    exact ⟨fun z => z.elim .inl fun z => .inr ⟨z, h.2⟩, fun z => z.elim .inl fun z => .inr z.1⟩
  · rename_i h
    refine ⟨.inl, fun z => z.elim id fun z => ?_⟩
    rw [z.1]
    exact Classical.byContradiction fun hn => h ⟨hn, z.2⟩
theorem grF_mem {eqc : Nat → Bool} : ∀ {bs f r : List Nat} {x : Nat}, x ∈ (bs.foldl (grS eqc) (f, r)).1 ↔ x ∈ f ∨ (x ∈ bs ∧ eqc x = true)
  | [], f, r, x => by simp
  | b :: bs, f, r, x => by
    rw [List.foldl_cons]
    have h := grF_mem (eqc := eqc) (bs := bs) (f := (grS eqc (f, r) b).1) (r := (grS eqc (f, r) b).2) (x := x)
    refine h.trans ?_
    rw [grS_mem, List.mem_cons]
    constructor
    · rintro ((z | z) | z)
      · exact .inl z
      · exact .inr ⟨.inl z.1, by rw [z.1]; exact z.2⟩
      · exact .inr ⟨.inr z.1, z.2⟩
    · rintro (z | ⟨z | z, e⟩)
      · exact .inl (.inl z)
      · exact .inl (.inr ⟨z, by rw [← z]; exact e⟩)
      · exact .inr ⟨z, e⟩
/-- found and rest on the way -/
theorem grF_rest {eqc : Nat → Bool} : ∀ {bs f r : List Nat}, (∀ x ∈ r, x ∈ f) → (∀ x ∈ (bs.foldl (grS eqc) (f, r)).2, x ∈ (bs.foldl (grS eqc) (f, r)).1) ∧ (∀ x ∈ r, x ∈ (bs.foldl (grS eqc) (f, r)).2) ∧ ∀ x ∈ (bs.foldl (grS eqc) (f, r)).1, x ∈ f ∨ x ∈ (bs.foldl (grS eqc) (f, r)).2
  | [], f, r, h => ⟨h, fun _ z => z, fun _ z => .inl z⟩
  | b :: bs, f, r, h => by
    rw [List.foldl_cons]
    have e : grS eqc (f, r) b = ((grS eqc (f, r) b).1, (grS eqc (f, r) b).2) := rfl
    have h0 : (∀ x ∈ (grS eqc (f, r) b).2, x ∈ (grS eqc (f, r) b).1) ∧ (∀ x ∈ r, x ∈ (grS eqc (f, r) b).2) ∧ ∀ x ∈ (grS eqc (f, r) b).1, x ∈ f ∨ x ∈ (grS eqc (f, r) b).2 := by
      unfold grS
      split
      · refine ⟨fun x hx => ?_, fun x hx => List.mem_append.mpr (.inl hx), fun x hx => ?_⟩
        · rcases List.mem_append.mp hx with z | z
          · exact List.mem_append.mpr (.inl (h x z))
          · exact List.mem_append.mpr (.inr z)
        · rcases List.mem_append.mp hx with z | z
          · exact .inl z
          · exact .inr (List.mem_append.mpr (.inr z))
      · exact ⟨h, fun _ z => z, fun _ z => .inl z⟩
    obtain ⟨h1, h2, h3⟩ := grF_rest (eqc := eqc) (bs := bs) h0.1
    refine ⟨h1, fun x hx => h2 x (h0.2.1 x hx), fun x hx => ?_⟩
    rcases h3 x hx with z | z
    · rcases h0.2.2 x z with y | y
      · exact .inl y
      · exact .inr (h2 x y)
    · exact .inr z
/-- what the search is at: B bounds all that can be found -/
structure GrI (near : List (List Nat)) (eqc : Nat → Bool) (c N : Nat) (f r : List Nat) : Prop where
  ok : GrOk N f r
  rf : ∀ x ∈ r, x ∈ f
  cf : c ∈ f
  con : ∀ x ∈ f, Con near (fun b => eqc b = true) c x
  cl : ∀ x ∈ f, x ∉ r → ∀ b ∈ near.getD x [], eqc b = true → b ∈ f
theorem grow_con {near : List (List Nat)} {eqc : Nat → Bool} {c N B : Nat} (hn : ∀ l ∈ near, ∀ b ∈ l, b < N) (hB : ∀ l : List Nat, l.Nodup → (∀ x ∈ l, x < N ∧ (x = c ∨ eqc x = true)) → l.length ≤ B) :
    ∀ {n : Nat} {f r : List Nat}, GrI near eqc c N f r → n + f.length = B + r.length → ∀ x, x ∈ grow near eqc n f r ↔ Con near (fun b => eqc b = true) c x := by
  have fin : ∀ {f : List Nat}, GrI near eqc c N f [] → ∀ x, x ∈ f ↔ Con near (fun b => eqc b = true) c x := fun {f} I x => by
    refine ⟨I.con x, fun h => ?_⟩
    induction h with
    | refl => exact I.cf
    | step _ hc hk ih => exact I.cl _ ih (by simp) _ hc hk
  intro n
  induction n with
  | zero =>
    intro f r I e x
    have h1 := hB f I.ok.nd fun y hy => ⟨I.ok.fl y hy, by
      have h := I.con y hy
      cases h with
      | refl => exact .inl rfl
      | step _ _ hk => exact .inr hk⟩
    have : r = [] := List.eq_nil_of_length_eq_zero (by omega)
    subst this
    exact fin I x
  | succ n ih =>
    intro f r I e x
    rcases List.eq_nil_or_concat r with rfl | ⟨s, h, rfl⟩
    · rw [grow_nil]
      exact fin I x
    · rw [List.concat_eq_append] at I e ⊢
      rw [grow_snoc]
      have hh : h < N := I.ok.rl h (by simp)
      have hnb : ∀ b ∈ near.getD h [], b < N := fun b hb => by
        obtain ⟨l, hl, hm⟩ := mem_getD hb
        exact hn l hl b hm
      have hhf : h ∈ f := I.rf h (by simp)
      have rf0 : ∀ x ∈ s, x ∈ f := fun x hx => I.rf x (by simp [hx])
      obtain ⟨g1, g2, g3⟩ := grF_rest (eqc := eqc) (bs := near.getD h []) rf0
      refine ih ⟨grF_ok ⟨I.ok.nd, I.ok.fl, fun y hy => I.ok.rl y (by simp [hy])⟩ hnb, g1, grF_mem.mpr (.inl I.cf), fun y hy => ?_, fun y hy hr b hb hk => ?_⟩ ?_ x
      · rcases grF_mem.mp hy with z | z
        · exact I.con y z
        · exact .step (I.con h hhf) z.1 z.2
      · rcases g3 y hy with z | z
        · by_cases ey : y = h
          · rw [ey] at hb
            exact grF_mem.mpr (.inr ⟨hb, hk⟩)
          · refine grF_mem.mpr (.inl (I.cl y z (fun q => ?_) b hb hk))
            rcases List.mem_append.mp q with q | q
            · exact hr (g2 y q)
            · exact ey (List.mem_singleton.mp q)
        · exact absurd z hr
      · have h1 := grF_len (eqc := eqc) (bs := near.getD h []) (f := f) (r := s)
        rw [List.length_append, List.length_singleton] at e
        omega
theorem patchF_con {near : List (List Nat)} {eqc : Nat → Bool} {N c : Nat} (hn : ∀ l ∈ near, ∀ b ∈ l, b < N) (hc : c < N) (x : Nat) : x ∈ patchF near eqc N c ↔ Con near (fun b => eqc b = true) c x := by
  refine grow_con (B := N) hn (fun l hl h => nodup_lt_len hl fun x hx => (h x hx).1) ⟨⟨by simp, fun x hx => by simp at hx; omega, fun x hx => by simp at hx; omega⟩, fun x hx => hx, by simp, fun x hx => ?_, fun x hx hr => absurd hx hr⟩ rfl x
  rw [List.mem_singleton.mp hx]
  exact .refl
theorem grS_congr {eqc eqc' : Nat → Bool} {acc : List Nat × List Nat} {b : Nat} (h : eqc b = eqc' b) : grS eqc acc b = grS eqc' acc b := by
  unfold grS
  rw [h]
theorem grF_congr {eqc eqc' : Nat → Bool} : ∀ {bs : List Nat} {acc : List Nat × List Nat}, (∀ b ∈ bs, eqc b = eqc' b) → bs.foldl (grS eqc) acc = bs.foldl (grS eqc') acc
  | [], _, _ => rfl
  | b :: bs, acc, h => by
    rw [List.foldl_cons, List.foldl_cons, grS_congr (h b (List.mem_cons_self ..))]
    exact grF_congr fun c hc => h c (List.mem_cons_of_mem _ hc)
theorem grow_congr {near : List (List Nat)} {eqc eqc' : Nat → Bool} (h : ∀ l ∈ near, ∀ b ∈ l, eqc b = eqc' b) : ∀ (n : Nat) (f r : List Nat), grow near eqc n f r = grow near eqc' n f r
  | 0, _, _ => rfl
  | n + 1, f, r => by
    unfold grow
    cases r.getLast? with
    | none => rfl
    | some x =>
      have e : (near.getD x []).foldl (grS eqc) (f, r.dropLast) = (near.getD x []).foldl (grS eqc') (f, r.dropLast) := grF_congr fun b hb => by
        obtain ⟨l, hl, hm⟩ := mem_getD hb
        exact h l hl b hm
      simp only [e]
      exact grow_congr h n _ _
/-! a pour is a search -/
/-- st with hue at the places f -/
def Pnt (st : List Nat) (hue : Nat) (f a : List Nat) : Prop := a.length = st.length ∧ ∀ i, i < st.length → a.getD i 0 = if i ∈ f then hue else st.getD i 0
theorem getD_set (a : List Nat) (b i v : Nat) : (a.set b v).getD i 0 = if b = i ∧ b < a.length then v else a.getD i 0 := by
  rw [List.getD_eq_getElem?_getD, List.getElem?_set]
  by_cases h : b = i
  · subst h
    by_cases hl : b < a.length
    · simp [hl]
    · simp [hl, List.getD_eq_getElem?_getD]
  · simp [h, List.getD_eq_getElem?_getD]
theorem Pnt.add {st : List Nat} {hue : Nat} {f a : List Nat} {b : Nat} (h : Pnt st hue f a) : Pnt st hue (f ++ [b]) (a.set b hue) := by
  refine ⟨by rw [List.length_set]; exact h.1, fun i hi => ?_⟩
  rw [getD_set, h.1, h.2 i hi]
  by_cases e : b = i
  · subst e
    simp [hi]
  · have e' : ¬ i = b := fun z => e z.symm
    by_cases q : i ∈ f <;> simp [e, e', q]
theorem spS_pnt {st : List Nat} {was hue : Nat} {f a r : List Nat} {b : Nat} (hne : was ≠ hue) (hb : b < st.length) (h : Pnt st hue f a) :
    Pnt st hue (grS (fun x => decide (st.getD x 0 = was)) (f, r) b).1 (spS st was hue (a, r) b).1 ∧ (spS st was hue (a, r) b).2 = (grS (fun x => decide (st.getD x 0 = was)) (f, r) b).2 := by
  have e := h.2 b hb
  unfold spS grS
  by_cases h1 : st.getD b 0 = was
  · by_cases h2 : b ∈ f
    · rw [if_neg (c := (¬b ∈ f ∧ decide (st.getD b 0 = was) = true)) (fun z => z.1 h2), if_neg (c := (st.getD b 0 = was ∧ a.getD b 0 = was)) (by rw [e, if_pos h2]; exact fun z => hne z.2.symm)]
      exact ⟨h, rfl⟩
    · rw [if_pos (c := (¬b ∈ f ∧ decide (st.getD b 0 = was) = true)) ⟨h2, decide_eq_true h1⟩, if_pos (c := (st.getD b 0 = was ∧ a.getD b 0 = was)) ⟨h1, by rw [e, if_neg h2]; exact h1⟩]
      exact ⟨h.add, rfl⟩
  · rw [if_neg (c := (¬b ∈ f ∧ decide (st.getD b 0 = was) = true)) (fun z => h1 (of_decide_eq_true z.2)), if_neg (c := (st.getD b 0 = was ∧ a.getD b 0 = was)) (fun z => h1 z.1)]
    exact ⟨h, rfl⟩
theorem spF_pnt {st : List Nat} {was hue : Nat} (hne : was ≠ hue) : ∀ {bs f a r : List Nat}, (∀ b ∈ bs, b < st.length) → Pnt st hue f a →
    Pnt st hue (bs.foldl (grS (fun x => decide (st.getD x 0 = was))) (f, r)).1 (bs.foldl (spS st was hue) (a, r)).1 ∧ (bs.foldl (spS st was hue) (a, r)).2 = (bs.foldl (grS (fun x => decide (st.getD x 0 = was))) (f, r)).2
  | [], _, _, _, _, h => ⟨h, rfl⟩
  | b :: bs, f, a, r, hb, h => by
    obtain ⟨h1, h2⟩ := spS_pnt (r := r) hne (hb b (List.mem_cons_self ..)) h
    rw [List.foldl_cons, List.foldl_cons]
    have := spF_pnt hne (bs := bs) (r := (spS st was hue (a, r) b).2) (fun c hc => hb c (List.mem_cons_of_mem _ hc)) h1
    rw [h2] at this
    rw [show spS st was hue (a, r) b = ((spS st was hue (a, r) b).1, (grS (fun x => decide (st.getD x 0 = was)) (f, r) b).2) from Prod.ext rfl h2]
    exact this
theorem sprd_pnt {near : List (List Nat)} {st : List Nat} {was hue : Nat} (hn : ∀ l ∈ near, ∀ b ∈ l, b < st.length) (hne : was ≠ hue) : ∀ {n : Nat} {f a r : List Nat}, Pnt st hue f a → Pnt st hue (grow near (fun x => decide (st.getD x 0 = was)) n f r) (sprd near st was hue n a r)
  | 0, _, _, _, h => h
  | n + 1, f, a, r, h => by
    rcases List.eq_nil_or_concat r with rfl | ⟨s, x, rfl⟩
    · rw [grow_nil, sprd_nil]
      exact h
    · rw [List.concat_eq_append, grow_snoc, sprd_snoc]
      obtain ⟨h1, h2⟩ := spF_pnt (r := s) hne (bs := near.getD x []) (fun b hb => by
        obtain ⟨l, hl, hm⟩ := mem_getD hb
        exact hn l hl b hm) h
      rw [h2]
      exact sprd_pnt hn hne h1
theorem count_range : ∀ (st : List Nat) (was : Nat), ((List.range st.length).filter fun i => decide (st.getD i 0 = was)).length = st.count was
  | [], _ => rfl
  | x :: st, was => by
    have ih := count_range st was
    rw [List.length_cons, List.range_succ_eq_map, List.filter_cons, List.count_cons, List.filter_map]
    have e : (List.filter ((fun i => decide ((x :: st).getD i 0 = was)) ∘ Nat.succ) (List.range st.length)) = (List.range st.length).filter fun i => decide (st.getD i 0 = was) := rfl
    rw [e]
    by_cases h : x = was
    · subst h
      rw [if_pos (by simp), List.length_cons, List.length_map, ih, if_pos (by simp)]
    · rw [if_neg (by simp [h]), List.length_map, ih, if_neg (by simp [h])]
      rfl
/-- what a pour does -/
theorem spread_get {F : FoldD} {st : List Nat} {home hue : Nat} (hn : ∀ l ∈ F.near, ∀ b ∈ l, b < st.length) (hh : home < st.length) :
    (spread F st home hue).length = st.length ∧ ∀ i, i < st.length → (Con F.near (fun b => st.getD b 0 = st.getD home 0) home i → (spread F st home hue).getD i 0 = hue) ∧ (¬ Con F.near (fun b => st.getD b 0 = st.getD home 0) home i → (spread F st home hue).getD i 0 = st.getD i 0) := by
  unfold spread
  by_cases h : st.getD home 0 = hue
  · rw [if_pos h]
    exact ⟨rfl, fun i _ => ⟨fun c => (c.ok rfl).trans h, fun _ => rfl⟩⟩
  · rw [if_neg h]
    have p0 : Pnt st hue [home] (st.set home hue) := by
      have : Pnt st hue [] st := ⟨rfl, fun i _ => by simp⟩
      exact this.add
    obtain ⟨h1, h2⟩ := sprd_pnt (r := [home]) (n := st.count (st.getD home 0)) hn h p0
    refine ⟨h1, fun i hi => ?_⟩
    have hg := grow_con (near := F.near) (eqc := fun x => decide (st.getD x 0 = st.getD home 0)) (c := home) (N := st.length) (B := st.count (st.getD home 0)) hn (fun l hl hx => by
      rw [← count_range]
      refine nodup_sub_len hl fun x hxl => List.mem_filter.mpr ⟨List.mem_range.mpr (hx x hxl).1, ?_⟩
      rcases (hx x hxl).2 with z | z
      · rw [z]
        exact decide_eq_true rfl
      · exact z) (n := st.count (st.getD home 0)) (f := [home]) (r := [home]) ⟨⟨by simp, fun x hx => by simp at hx; omega, fun x hx => by simp at hx; omega⟩, fun x hx => hx, by simp, fun x hx => by rw [List.mem_singleton.mp hx]; exact .refl, fun x hx hr => absurd hx hr⟩ rfl i
    have hk : (∀ b, decide (st.getD b 0 = st.getD home 0) = true ↔ st.getD b 0 = st.getD home 0) := fun b => decide_eq_true_iff
    simp only [hk] at hg
    rw [h2 i hi]
    exact ⟨fun c => if_pos (hg.mpr c), fun c => if_neg fun z => c (hg.mp z)⟩
end G6
end
section
set_option maxHeartbeats 4000000
set_option linter.all false
namespace G6
open PySem PySem.Spec PyProof.Rows L2 PySem.W
/-! N2: the folding of a picture: every number is in use; other colours, the same folding -/
theorem Con.trans {near : List (List Nat)} {ok : Nat → Prop} {a b c : Nat} (h : Con near ok a b) (h2 : Con near ok b c) : Con near ok a c := by
  induction h2 with
  | refl => exact h
  | step _ hc hk ih => exact .step ih hc hk
theorem Con.symm {near : List (List Nat)} {ok : Nat → Prop} {a b : Nat} (hs : ∀ x y, y ∈ near.getD x [] → x ∈ near.getD y []) (ha : ok a) (h : Con near ok a b) : Con near ok b a := by
  induction h with
  | refl => exact .refl
  | step h hc hk ih => exact (Con.step .refl (hs _ _ hc) (h.ok ha)).trans ih
theorem mem_psh {ls : List (List Nat)} {i v : Nat} (hi : i < ls.length) (j y : Nat) : y ∈ (psh ls i v).getD j [] ↔ y ∈ ls.getD j [] ∨ (j = i ∧ y = v) := by
  unfold psh
  rw [List.getD_eq_getElem?_getD, List.getElem?_set]
  by_cases h : i = j
  · subst h
    simp [hi, List.getD_eq_getElem?_getD]
  · have h' : ¬ j = i := fun z => h z.symm
    simp [h, h', List.getD_eq_getElem?_getD]
theorem nbl_sym {n : Nat} {ts : List (Nat × Nat)} (ht : ∀ t ∈ ts, t.1 < n ∧ t.2 < n) : ∀ x y, y ∈ (nbl n ts).getD x [] → x ∈ (nbl n ts).getD y [] := by
  have key : ∀ (ts : List (Nat × Nat)) (ls : List (List Nat)), ls.length = n → (∀ t ∈ ts, t.1 < n ∧ t.2 < n) → (∀ x y, y ∈ ls.getD x [] → x ∈ ls.getD y []) → ∀ x y, y ∈ (ts.foldl nblS ls).getD x [] → x ∈ (ts.foldl nblS ls).getD y [] := by
    intro ts
    induction ts with
    | nil => exact fun ls _ _ h => h
    | cons t ts ih =>
      intro ls hl ht h
      rw [List.foldl_cons]
      refine ih _ (by rw [nblS_len]; exact hl) (fun u hu => ht u (List.mem_cons_of_mem _ hu)) fun x y hy => ?_
      have h1 := ht t (List.mem_cons_self ..)
      have m : ∀ x y, y ∈ (nblS ls t).getD x [] ↔ (y ∈ ls.getD x [] ∨ (x = t.1 ∧ y = t.2)) ∨ (x = t.2 ∧ y = t.1) := fun x y => by
        unfold nblS
        rw [mem_psh (by rw [psh_len, hl]; exact h1.2), mem_psh (by rw [hl]; exact h1.1)]
      rcases (m x y).mp hy with (z | z) | z
      · exact (m y x).mpr (.inl (.inl (h x y z)))
      · exact (m y x).mpr (.inr ⟨z.2, z.1⟩)
      · exact (m y x).mpr (.inl (.inr ⟨z.2, z.1⟩))
  refine key ts _ (List.length_replicate ..) ht fun x y hy => ?_
  obtain ⟨l, hl, hm⟩ := mem_getD hy
  rw [(List.mem_replicate.mp hl).2] at hm
  cases hm
theorem mem_ptc {col : List Nat} {ls : List (List Nat)} {c : Nat} (hn : ∀ l ∈ ls, ∀ b ∈ l, b < col.length) (hc : c < col.length) (x : Nat) : x ∈ ptc col ls c ↔ Con ls (fun b => col.getD b 0 = col.getD c 0) c x := by
  have h := patchF_con (eqc := fun b => decide (col.getD b 0 = col.getD c 0)) hn hc x
  simp only [decide_eq_true_iff] at h
  exact ((srt_perm _).mem_iff).trans h
theorem ptc_sym {col : List Nat} {ls : List (List Nat)} {c x : Nat} (hn : ∀ l ∈ ls, ∀ b ∈ l, b < col.length) (hs : ∀ x y, y ∈ ls.getD x [] → x ∈ ls.getD y []) (hc : c < col.length) (hx : x ∈ ptc col ls c) : c ∈ ptc col ls x := by
  have h := (mem_ptc hn hc x).mp hx
  refine (mem_ptc hn (h.lt hn hc) c).mpr ?_
  have e : col.getD x 0 = col.getD c 0 := h.ok rfl
  rw [e]
  exact h.symm hs rfl
/-- the patches by the cells that they were found at -/
theorem pts_cs {col : List Nat} {ls : List (List Nat)} : ∀ (xs cs : List Nat), (∀ x ∈ xs, x < col.length) → (∀ c ∈ cs, c < col.length) → cs.Pairwise (fun c c' => c' ∉ ptc col ls c) →
    ∃ cs' : List Nat, xs.foldl (ptsS col ls) (cs.map (ptc col ls)) = cs'.map (ptc col ls) ∧ (∀ c ∈ cs', c < col.length) ∧ cs'.Pairwise (fun c c' => c' ∉ ptc col ls c)
  | [], cs, _, h1, h2 => ⟨cs, rfl, h1, h2⟩
  | x :: xs, cs, h0, h1, h2 => by
    rw [List.foldl_cons]
    unfold ptsS
    by_cases h : x ∈ (cs.map (ptc col ls)).flatten
    · rw [if_pos h]
      exact pts_cs xs cs (fun y hy => h0 y (List.mem_cons_of_mem _ hy)) h1 h2
    · rw [if_neg h]
      have e : cs.map (ptc col ls) ++ [ptc col ls x] = (cs ++ [x]).map (ptc col ls) := by simp
      rw [e]
      refine pts_cs xs (cs ++ [x]) (fun y hy => h0 y (List.mem_cons_of_mem _ hy)) (fun c hc => ?_) ?_
      · rcases List.mem_append.mp hc with z | z
        · exact h1 c z
        · rw [List.mem_singleton.mp z]
          exact h0 x (List.mem_cons_self ..)
      · refine List.pairwise_append.mpr ⟨h2, by simp, fun a ha b hb => ?_⟩
        rw [List.mem_singleton.mp hb]
        exact fun z => h (List.mem_flatten.mpr ⟨_, List.mem_map.mpr ⟨a, ha, rfl⟩, z⟩)
theorem stAll_get (k : Nat) : ∀ (cs a : List Nat) (i : Nat), i < a.length → (stAll k a cs).getD i 0 = if i ∈ cs then k else a.getD i 0
  | [], a, i, _ => by simp [stAll]
  | c :: cs, a, i, hi => by
    have h := stAll_get k cs (a.set c k) i (by rw [List.length_set]; exact hi)
    show (stAll k (a.set c k) cs).getD i 0 = _
    rw [h, getD_set]
    by_cases h1 : i ∈ cs
    · rw [if_pos h1, if_pos (List.mem_cons_of_mem _ h1)]
    · rw [if_neg h1]
      by_cases h2 : c = i
      · rw [if_pos ⟨h2, by omega⟩, if_pos (by rw [h2]; exact List.mem_cons_self ..)]
      · rw [if_neg (fun z => h2 z.1), if_neg (fun z => (List.mem_cons.mp z).elim (fun e => h2 e.symm) h1)]
theorem pnF_get : ∀ (ps : List (List Nat)) (n : Nat) (a : List Nat) (i : Nat), i < a.length →
    ((∀ p ∈ ps, i ∉ p) → ((ps.zipIdx n).foldl pnS a).getD i 0 = a.getD i 0) ∧ ∀ k p, ps[k]? = some p → i ∈ p → (∀ j q, k < j → ps[j]? = some q → i ∉ q) → ((ps.zipIdx n).foldl pnS a).getD i 0 = n + k
  | [], n, a, i, _ => ⟨fun _ => rfl, fun k p h => by simp at h⟩
  | p :: ps, n, a, i, hi => by
    obtain ⟨h1, h2⟩ := pnF_get ps (n + 1) (pnS a (p, n)) i (by rw [show (pnS a (p, n)).length = a.length from stAll_len ..]; exact hi)
    have e : ((p :: ps).zipIdx n).foldl pnS a = (ps.zipIdx (n + 1)).foldl pnS (pnS a (p, n)) := rfl
    have g : (pnS a (p, n)).getD i 0 = if i ∈ p then n else a.getD i 0 := stAll_get n p a i hi
    rw [e]
    refine ⟨fun h => ?_, fun k q hq hi hl => ?_⟩
    · rw [h1 fun q hq => h q (List.mem_cons_of_mem _ hq), g, if_neg (h p (List.mem_cons_self ..))]
    · cases k with
      | zero =>
        have hq' : p = q := by simpa using hq
        subst hq'
        rw [h1 fun r hr => ?_, g, if_pos hi]
        · rfl
        · obtain ⟨j, hj⟩ := List.getElem?_of_mem hr
          exact hl (j + 1) r (Nat.succ_pos _) (by simpa using hj)
      | succ k =>
        rw [h2 k q (by simpa using hq) hi fun j r hj hr => hl (j + 1) r (by omega) (by simpa using hr)]
        omega
/-- every number below the greatest is some cell's -/
theorem pnums_sur {col : List Nat} {ls : List (List Nat)} (hn : ∀ l ∈ ls, ∀ b ∈ l, b < col.length) (hs : ∀ x y, y ∈ ls.getD x [] → x ∈ ls.getD y []) (h0 : 0 < col.length) {k : Nat} (hk : k < manyOf (pnums col ls)) : k ∈ pnums col ls := by
  obtain ⟨cs, e, h1, h2⟩ := pts_cs (col := col) (ls := ls) (List.range col.length) [] (fun x hx => List.mem_range.mp hx) (fun _ z => by cases z) .nil
  have e : pts col ls = cs.map (ptc col ls) := e
  have bd : cs ≠ [] → manyOf (pnums col ls) ≤ cs.length := fun hne => by
    have hp := List.length_pos_iff.mpr hne
    refine many_le hp (pnF_bd _ _ (fun p hp => ?_) fun x hx => ?_)
    · obtain ⟨l, j⟩ := p
      have h3 := (List.mem_zipIdx hp).2.1
      have h4 : (pts col ls).length = cs.length := by rw [e, List.length_map]
      show j < cs.length
      omega
    · rw [(List.mem_replicate.mp hx).2]
      exact hp
  have of_get : ∀ i, i < col.length → (pnums col ls).getD i 0 ∈ pnums col ls := fun i hi => by
    obtain ⟨v, hv⟩ := getElem?_of_lt (ls := pnums col ls) (i := i) (by rw [pnums_len]; exact hi)
    rw [getD_of hv]
    exact List.mem_of_getElem? hv
  by_cases hne : cs = []
  · have ep : pnums col ls = List.replicate col.length 0 := by
      unfold pnums
      rw [e, hne]
      rfl
    rw [ep] at hk ⊢
    have hb : manyOf (List.replicate col.length 0) ≤ 1 := many_le (by omega) fun x hx => by rw [(List.mem_replicate.mp hx).2]; omega
    exact List.mem_replicate.mpr ⟨by omega, by omega⟩
  · have hkl := bd hne
    obtain ⟨c, hc⟩ := getElem?_of_lt (ls := cs) (i := k) (by omega)
    have hcl := h1 c (List.mem_of_getElem? hc)
    have g := (pnF_get (cs.map (ptc col ls)) 0 (List.replicate col.length 0) c (by rw [List.length_replicate]; exact hcl)).2 k (ptc col ls c) (by rw [List.getElem?_map, hc]; rfl) ((mem_ptc hn hcl c).mpr .refl) fun j q hj hq hm => by
      rw [List.getElem?_map] at hq
      obtain ⟨c', hc', rfl⟩ := Option.map_eq_some_iff.mp hq
      have hw := List.pairwise_iff_getElem.mp h2 k j (List.getElem?_eq_some_iff.mp hc).1 (List.getElem?_eq_some_iff.mp hc').1 hj
      rw [(List.getElem?_eq_some_iff.mp hc).2, (List.getElem?_eq_some_iff.mp hc').2] at hw
      exact hw (ptc_sym hn hs (h1 c' (List.mem_of_getElem? hc')) hm)
    have g : (pnums col ls).getD c 0 = k := by
      have := g
      unfold pnums
      rw [e, this]
      omega
    rw [← g]
    exact of_get c hcl
/-! other colours -/
def Inj (ρ : Nat → Nat) : Prop := ∀ a b, ρ a = ρ b → a = b
theorem getD_map {ρ : Nat → Nat} {s : List Nat} {i : Nat} (h : i < s.length) : (s.map ρ).getD i 0 = ρ (s.getD i 0) := by
  obtain ⟨v, hv⟩ := getElem?_of_lt h
  rw [getD_of hv, getD_of (by rw [List.getElem?_map, hv]; rfl)]
theorem ptc_map {ρ : Nat → Nat} (hρ : Inj ρ) {col : List Nat} {ls : List (List Nat)} {c : Nat} (hn : ∀ l ∈ ls, ∀ b ∈ l, b < col.length) (hc : c < col.length) : ptc (col.map ρ) ls c = ptc col ls c := by
  unfold ptc patchF
  rw [List.length_map]
  congr 1
  refine grow_congr (fun l hl b hb => decide_eq_decide.mpr ?_) _ _ _
  rw [getD_map (hn l hl b hb), getD_map hc]
  exact ⟨fun z => hρ _ _ z, fun z => by rw [z]⟩
theorem pts_map {ρ : Nat → Nat} (hρ : Inj ρ) {col : List Nat} {ls : List (List Nat)} (hn : ∀ l ∈ ls, ∀ b ∈ l, b < col.length) : pts (col.map ρ) ls = pts col ls := by
  unfold pts
  rw [List.length_map]
  have key : ∀ (xs : List Nat) (F : List (List Nat)), (∀ x ∈ xs, x < col.length) → xs.foldl (ptsS (col.map ρ) ls) F = xs.foldl (ptsS col ls) F := by
    intro xs
    induction xs with
    | nil => exact fun _ _ => rfl
    | cons x xs ih =>
      intro F h
      rw [List.foldl_cons, List.foldl_cons]
      have e : ptsS (col.map ρ) ls F x = ptsS col ls F x := by
        unfold ptsS
        rw [ptc_map hρ hn (h x (List.mem_cons_self ..))]
      rw [e]
      exact ih _ fun y hy => h y (List.mem_cons_of_mem _ hy)
  exact key _ _ fun x hx => List.mem_range.mp hx
theorem pnums_map {ρ : Nat → Nat} (hρ : Inj ρ) {col : List Nat} {ls : List (List Nat)} (hn : ∀ l ∈ ls, ∀ b ∈ l, b < col.length) : pnums (col.map ρ) ls = pnums col ls := by
  unfold pnums
  rw [List.length_map, pts_map hρ hn]
theorem fhF_map {ρ : Nat → Nat} {col : List Nat} : ∀ (ps : List (Nat × Nat)) (a a' : List Nat), a'.length = a.length → (∀ p ∈ ps, p.2 < col.length) → ∀ k : Nat, (a'[k]? = (a[k]?).map ρ ∨ ∃ p ∈ ps, p.1 = k) → (ps.foldl (fhS (col.map ρ)) a')[k]? = ((ps.foldl (fhS col) a)[k]?).map ρ
  | [], _, _, _, _, k, h => h.elim id fun ⟨_, z, _⟩ => by cases z
  | p :: ps, a, a', hl, hp, k, h => by
    rw [List.foldl_cons, List.foldl_cons]
    refine fhF_map ps _ _ (by show (a'.set _ _).length = (a.set _ _).length; rw [List.length_set, List.length_set, hl]) (fun q hq => hp q (List.mem_cons_of_mem _ hq)) k ?_
    by_cases e : p.1 = k
    · left
      show (a'.set p.1 _)[k]? = ((a.set p.1 _)[k]?).map ρ
      rw [List.getElem?_set, List.getElem?_set, if_pos e, if_pos e, hl, getD_map (hp p (List.mem_cons_self ..))]
      split <;> rfl
    · rcases h with h | ⟨q, hq, h⟩
      · left
        show (a'.set p.1 _)[k]? = ((a.set p.1 _)[k]?).map ρ
        rw [List.getElem?_set, List.getElem?_set, if_neg e, if_neg e]
        exact h
      · rcases List.mem_cons.mp hq with z | z
        · rw [z] at h
          exact absurd h e
        · exact .inr ⟨q, z, h⟩
theorem fhue_map {ρ : Nat → Nat} {nums col : List Nat} (hl : nums.length = col.length) (hs : ∀ k, k < manyOf nums → k ∈ nums) : fhue nums (col.map ρ) = (fhue nums col).map ρ := by
  refine List.ext_getElem? fun k => ?_
  rw [List.getElem?_map]
  refine fhF_map _ _ _ (by rw [List.length_replicate]) (fun p hp => ?_) k ?_
  · obtain ⟨x, i⟩ := p
    have := List.mem_zipIdx hp
    show i < _
    omega
  · by_cases hk : k < manyOf nums
    · obtain ⟨i, hi⟩ := List.getElem?_of_mem (hs k hk)
      exact .inr ⟨(k, i), List.mem_of_getElem? (zipIdx_get hi), rfl⟩
    · left
      rw [List.getElem?_eq_none (by rw [List.length_replicate]; omega)]
      rfl
section
variable {d : PicD}
theorem nblP_lt (W : PicW d) : ∀ l ∈ nbl d.col.length d.tie, ∀ b ∈ l, b < d.col.length := nbl_lt W.t
theorem foldP_nums : (foldP d).nums = pnums d.col (nbl d.col.length d.tie) := rfl
theorem foldP_sur (W : PicW d) : ∀ k, k < manyOf (foldP d).nums → k ∈ (foldP d).nums := fun k hk => pnums_sur (nblP_lt W) (nbl_sym W.t) W.c1 hk
/-- the folding of a picture is as the walk wants it -/
theorem foldP_ok (W : PicW d) : FOk (foldP d) (manyOf (foldP d).nums) := by
  have hl : (foldP d).nums.length = d.col.length := pnums_len ..
  refine ⟨?_, fun l hlm b hb => ?_, fun h hh => ?_, many_lt, Nat.succ_pos _, ?_, ?_, fhue_len ..⟩
  · show ((fnear _ _).map srt).length = _
    rw [List.length_map, fnear_len]
    rfl
  · obtain ⟨l0, h0, rfl⟩ := List.mem_map.mp hlm
    have hb := (srt_perm l0).mem_iff.mp hb
    obtain ⟨k, hk⟩ := List.getElem?_of_mem h0
    have z := (fnear_ok (nums := (foldP d).nums) (fun l hl' b hb => by rw [hl]; exact nblP_lt W l hl' b hb) k l0 hk).2 b hb
    exact many_lt b z.1
  · obtain ⟨c, hc, rfl⟩ := List.mem_map.mp hh
    obtain ⟨v, hv⟩ := getElem?_of_lt (ls := (foldP d).nums) (i := c) (by rw [hl]; exact W.m c hc)
    have e : (pnums d.col (nbl d.col.length d.tie)).getD c 0 = v := getD_of hv
    show (pnums d.col (nbl d.col.length d.tie)).getD c 0 < _
    rw [e]
    exact many_lt v (List.mem_of_getElem? hv)
  · have := many_le (nums := (foldP d).nums) (B := d.col.length) W.c1 (pnums_bd (nblP_lt W) W.c1)
    have := W.c2
    omega
  · show (d.mks.map _).length ≤ 4
    rw [List.length_map]
    exact W.ml
theorem foldP_many (W : PicW d) : manyOf (foldP d).nums ≤ d.col.length := many_le W.c1 (pnums_bd (nblP_lt W) W.c1)
theorem foldP_homes : (foldP d).homes.length = d.mks.length := List.length_map ..
theorem wishOk_of {wd : WishD} (h : WishG d wd) : WishOk (foldP d) wd := by
  have hl : (foldP d).nums.length = d.col.length := pnums_len ..
  cases wd with
  | all => exact trivial
  | col m c => show m < _; rw [foldP_homes]; exact h.1
  | one a b => show a < _ ∧ b < _; rw [foldP_homes]; exact ⟨h.1, h.2.1⟩
  | reach c => show c < _; rw [hl]; exact h
/-- the folding under other colours and another order of marks -/
theorem foldP_ren {ρ : Nat → Nat} (hρ : Inj ρ) (W : PicW d) (ms : List Nat) : foldP ⟨d.col.map ρ, d.tie, ms⟩ = { nums := (foldP d).nums, near := (foldP d).near, homes := ms.map fun c => (foldP d).nums.getD c 0, hues := (foldP d).hues.map ρ } := by
  have e : pnums (d.col.map ρ) (nbl (d.col.map ρ).length d.tie) = pnums d.col (nbl d.col.length d.tie) := by
    rw [List.length_map]
    exact pnums_map hρ (nblP_lt W)
  unfold foldP foldOf
  show FoldD.mk _ _ _ _ = _
  simp only [e]
  rw [List.length_map, fhue_map (pnums_len ..) (foldP_sur W)]
end
end G6
end
section
set_option maxHeartbeats 4000000
set_option linter.all false
namespace G6
open PySem PySem.Spec PyProof.Rows L2 PySem.W
/-! N3: how many states there are -/
theorem mem_poursOf {ms hs : List Nat} {p : Nat × Nat} : p ∈ poursOf (srt ms) (srt hs) ↔ p.1 ∈ ms ∧ p.2 ∈ hs := by
  unfold poursOf
  rw [List.mem_flatMap]
  constructor
  · rintro ⟨m, hm, hp⟩
    obtain ⟨h, hh, rfl⟩ := List.mem_map.mp hp
    exact ⟨(srt_perm ms).mem_iff.mp hm, (srt_perm hs).mem_iff.mp hh⟩
  · rintro ⟨h1, h2⟩
    exact ⟨p.1, (srt_perm ms).mem_iff.mpr h1, List.mem_map.mpr ⟨p.2, (srt_perm hs).mem_iff.mpr h2, rfl⟩⟩
theorem poursOf_len' (ms hs : List Nat) : (poursOf (srt ms) (srt hs)).length = ms.length * hs.length := by
  have key : ∀ a b : List Nat, (poursOf a b).length = a.length * b.length := fun a b => by
    induction a with
    | nil => simp [poursOf]
    | cons x a ih =>
      have e : poursOf (x :: a) b = (b.map fun h => (x, h)) ++ poursOf a b := rfl
      rw [e, List.length_append, List.length_map, ih, List.length_cons, Nat.succ_mul]
      omega
  rw [key, (srt_perm ms).length_eq, (srt_perm hs).length_eq]
def prodL : List (List Nat) → List (List Nat)
  | [] => [[]]
  | o :: os => o.flatMap fun x => (prodL os).map fun r => x :: r
theorem mem_prodL : ∀ (os : List (List Nat)) (s : List Nat), s ∈ prodL os ↔ s.length = os.length ∧ ∀ i, i < s.length → s.getD i 0 ∈ os.getD i []
  | [], s => by
    constructor
    · intro h
      rw [prodL, List.mem_singleton] at h
      subst h
      exact ⟨rfl, fun i hi => absurd hi (Nat.not_lt_zero _)⟩
    · rintro ⟨h, _⟩
      rw [List.eq_nil_of_length_eq_zero h]
      exact List.mem_singleton.mpr rfl
  | o :: os, s => by
    rw [prodL, List.mem_flatMap]
    constructor
    · rintro ⟨x, hx, hs⟩
      obtain ⟨r, hr, rfl⟩ := List.mem_map.mp hs
      obtain ⟨h1, h2⟩ := (mem_prodL os r).mp hr
      refine ⟨by rw [List.length_cons, List.length_cons, h1], fun i hi => ?_⟩
      cases i with
      | zero => exact hx
      | succ i => exact h2 i (by simpa using hi)
    · rintro ⟨h1, h2⟩
      cases s with
      | nil => simp at h1
      | cons x r =>
        exact ⟨x, h2 0 (Nat.succ_pos _), List.mem_map.mpr ⟨r, (mem_prodL os r).mpr ⟨by simpa using h1, fun i hi => h2 (i + 1) (by simpa using hi)⟩, rfl⟩⟩
theorem prodL_cons_len (o : List Nat) (os : List (List Nat)) : (prodL (o :: os)).length = o.length * (prodL os).length := by
  rw [prodL]
  induction o with
  | nil => simp
  | cons x o ih => rw [List.flatMap_cons, List.length_append, List.length_map, ih, List.length_cons, Nat.succ_mul]; omega
theorem prodL_len {B : Nat} : ∀ {os : List (List Nat)}, (∀ o ∈ os, o.length ≤ B) → (prodL os).length ≤ B ^ os.length
  | [], _ => Nat.le_refl _
  | o :: os, h => by
    rw [prodL_cons_len, List.length_cons, Nat.pow_succ, Nat.mul_comm]
    exact Nat.mul_le_mul (prodL_len fun q hq => h q (List.mem_cons_of_mem _ hq)) (h o (List.mem_cons_self ..))
theorem prodL_set {B : Nat} : ∀ {os : List (List Nat)} {a : Nat} {x : List Nat}, (∀ o ∈ os, o.length ≤ B) → a < os.length → (prodL (os.set a x)).length * B ≤ x.length * B ^ os.length
  | [], a, _, _, h => absurd h (Nat.not_lt_zero _)
  | o :: os, 0, x, h, _ => by
    rw [List.set_cons_zero, prodL_cons_len, List.length_cons, Nat.pow_succ, Nat.mul_assoc]
    exact Nat.mul_le_mul_left _ (Nat.mul_le_mul_right _ (prodL_len fun q hq => h q (List.mem_cons_of_mem _ hq)))
  | o :: os, a + 1, x, h, ha => by
    have ih := prodL_set (os := os) (a := a) (x := x) (fun q hq => h q (List.mem_cons_of_mem _ hq)) (by simpa using ha)
    rw [List.set_cons_succ, prodL_cons_len, List.length_cons, Nat.pow_succ, Nat.mul_assoc, ← Nat.mul_assoc x.length, Nat.mul_comm (x.length * _) B]
    exact Nat.mul_le_mul (h o (List.mem_cons_self ..)) ih
theorem prodL_set2 {B : Nat} : ∀ {os : List (List Nat)} {a b : Nat} {x y : List Nat}, (∀ o ∈ os, o.length ≤ B) → a < os.length → b < os.length → a ≠ b → (prodL ((os.set a x).set b y)).length * B * B ≤ x.length * (y.length * B ^ os.length)
  | [], a, _, _, _, _, h, _, _ => absurd h (Nat.not_lt_zero _)
  | o :: os, 0, 0, _, _, _, _, _, h => absurd rfl h
  | o :: os, 0, b + 1, x, y, h, _, hb, _ => by
    have h1 := prodL_set (B := B) (os := os) (a := b) (x := y) (fun q hq => h q (List.mem_cons_of_mem _ hq)) (by simpa using hb)
    rw [List.set_cons_zero, List.set_cons_succ, prodL_cons_len, List.length_cons, Nat.pow_succ, Nat.mul_assoc, Nat.mul_assoc, ← Nat.mul_assoc _ B B, ← Nat.mul_assoc y.length]
    exact Nat.mul_le_mul_left _ (Nat.mul_le_mul_right _ h1)
  | o :: os, a + 1, 0, x, y, h, ha, _, _ => by
    have h1 := prodL_set (B := B) (os := os) (a := a) (x := x) (fun q hq => h q (List.mem_cons_of_mem _ hq)) (by simpa using ha)
    rw [List.set_cons_succ, List.set_cons_zero, prodL_cons_len, List.length_cons, Nat.pow_succ]
    have h2 := Nat.mul_le_mul_left y.length (Nat.mul_le_mul_right B h1)
    have e1 : y.length * (prodL (os.set a x)).length * B * B = y.length * ((prodL (os.set a x)).length * B * B) := by rw [Nat.mul_assoc, Nat.mul_assoc, ← Nat.mul_assoc _ B B]
    have e2 : x.length * (y.length * (B ^ os.length * B)) = y.length * (x.length * B ^ os.length * B) := by
      rw [Nat.mul_left_comm, Nat.mul_assoc]
    rw [e1, e2]
    exact h2
  | o :: os, a + 1, b + 1, x, y, h, ha, hb, hne => by
    have ih := prodL_set2 (B := B) (os := os) (a := a) (b := b) (x := x) (y := y) (fun q hq => h q (List.mem_cons_of_mem _ hq)) (by simpa using ha) (by simpa using hb) (by omega)
    rw [List.set_cons_succ, List.set_cons_succ, prodL_cons_len, List.length_cons, Nat.pow_succ]
    have h2 := Nat.mul_le_mul (h o (List.mem_cons_self ..)) ih
    have e1 : o.length * (prodL ((os.set a x).set b y)).length * B * B = o.length * ((prodL ((os.set a x).set b y)).length * B * B) := by rw [Nat.mul_assoc, Nat.mul_assoc, ← Nat.mul_assoc _ B B]
    have e2 : x.length * (y.length * (B ^ os.length * B)) = B * (x.length * (y.length * B ^ os.length)) := by
      rw [← Nat.mul_assoc y.length, ← Nat.mul_assoc x.length, Nat.mul_comm]
    rw [e1, e2]
    exact h2
/-- the colours that a part can get -/
def opts (F : FoldD) (hs : List Nat) : List (List Nat) := F.hues.map fun h => addK hs h
theorem opts_len (F : FoldD) (hs : List Nat) : (opts F hs).length = F.hues.length := List.length_map ..
theorem opts_bd {F : FoldD} {hs : List Nat} : ∀ o ∈ opts F hs, o.length ≤ hs.length + 1 := fun o ho => by
  obtain ⟨h, _, rfl⟩ := List.mem_map.mp ho
  unfold addK
  split <;> simp
theorem opts_get {F : FoldD} {hs : List Nat} {i : Nat} (hi : i < F.hues.length) : (opts F hs).getD i [] = addK hs (F.hues.getD i 0) := by
  obtain ⟨v, hv⟩ := getElem?_of_lt hi
  rw [getD_of hv, getD_of (by unfold opts; rw [List.getElem?_map, hv]; rfl)]
theorem set_getD {os : List (List Nat)} {a i : Nat} {x : List Nat} : (os.set a x).getD i [] = if a = i ∧ a < os.length then x else os.getD i [] := by
  rw [List.getD_eq_getElem?_getD, List.getElem?_set]
  by_cases h : a = i
  · subst h
    by_cases hl : a < os.length
    · simp [hl]
    · simp [hl, List.getD_eq_getElem?_getD]
  · simp [h, List.getD_eq_getElem?_getD]
section
variable {F : FoldD} {n : Nat} {hs : List Nat}
theorem hues_in (ok : FOk F n) : F.hues ∈ prodL (opts F hs) := (mem_prodL _ _).mpr ⟨(opts_len ..).symm, fun i hi => by
  rw [opts_get hi]
  exact mem_addK.mpr (.inr rfl)⟩
theorem spread_in (ok : FOk F n) {s : List Nat} (hS : s ∈ prodL (opts F hs)) {home hue : Nat} (hh : home < n) (hc : hue ∈ hs) : spread F s home hue ∈ prodL (opts F hs) ∧ (spread F s home hue).getD home 0 = hue := by
  obtain ⟨h1, h2⟩ := (mem_prodL _ _).mp hS
  have hl : s.length = n := by rw [h1, opts_len, ok.hu]
  obtain ⟨g1, g2⟩ := spread_get (F := F) (st := s) (home := home) (hue := hue) (fun l hlm b hb => by rw [hl]; exact ok.nr l hlm b hb) (by omega)
  refine ⟨(mem_prodL _ _).mpr ⟨by rw [g1, h1], fun i hi => ?_⟩, (g2 home (by omega)).1 .refl⟩
  rw [g1] at hi
  by_cases c : Con F.near (fun b => s.getD b 0 = s.getD home 0) home i
  · rw [(g2 i hi).1 c, opts_get (by rw [ok.hu]; omega)]
    exact mem_addK.mpr (.inl hc)
  · rw [(g2 i hi).2 c]
    exact h2 i hi
theorem prod_ln (ok : FOk F n) {s : List Nat} (hS : s ∈ prodL (opts F hs)) : s.length = n := by
  rw [((mem_prodL _ _).mp hS).1, opts_len, ok.hu]
theorem pow_bd {B n m : Nat} (hB : 0 < B) (h : n ≤ m) : B ^ n ≤ B ^ m := Nat.pow_le_pow_right hB h
theorem getD_home (ok : FOk F n) {m : Nat} (hm : m < F.homes.length) : F.homes.getD m 0 < n := by
  obtain ⟨v, hv⟩ := getElem?_of_lt hm
  rw [getD_of hv]
  exact ok.ho v (List.mem_of_getElem? hv)
theorem uniS_of (ok : FOk F n) (hn : n ≤ 5) {ms : List Nat} (hm : ∀ m ∈ ms, m < F.homes.length) (hh : hs.length ≤ 4) : UniS F (poursOf (srt ms) (srt hs)) n (prodL (opts F hs)) := by
  refine ⟨hues_in ok, fun s hS p hp => ?_, fun s hS => prod_ln ok hS, ?_⟩
  · obtain ⟨h1, h2⟩ := mem_poursOf.mp hp
    exact (spread_in ok hS (getD_home ok (hm _ h1)) h2).1
  · have h1 := prodL_len (B := 5) (os := opts F hs) fun o ho => by have := opts_bd o ho; omega
    rw [opts_len, ok.hu] at h1
    have h2 := pow_bd (B := 5) (by omega) hn
    have : (5 : Nat) ^ 5 = 3125 := by decide
    omega
theorem prod_sub {os : List (List Nat)} {a : Nat} {x : List Nat} (hx : ∀ v ∈ x, v ∈ os.getD a []) {s : List Nat} (h : s ∈ prodL (os.set a x)) : s ∈ prodL os := by
  obtain ⟨h1, h2⟩ := (mem_prodL _ _).mp h
  rw [List.length_set] at h1
  refine (mem_prodL _ _).mpr ⟨h1, fun i hi => ?_⟩
  have h3 := h2 i hi
  rw [set_getD] at h3
  split at h3
  · rename_i q
    rw [q.1] at hx
    exact hx _ h3
  · exact h3
theorem prod_to {os : List (List Nat)} {a : Nat} {x : List Nat} {s : List Nat} (h : s ∈ prodL os) (hx : s.getD a 0 ∈ x) : s ∈ prodL (os.set a x) := by
  obtain ⟨h1, h2⟩ := (mem_prodL _ _).mp h
  refine (mem_prodL _ _).mpr ⟨by rw [List.length_set]; exact h1, fun i hi => ?_⟩
  rw [set_getD]
  split
  · rename_i q
    rw [← q.1]
    exact hx
  · exact h2 i hi
/-- the states of theirs: behind a pour of mine -/
def uni1 (F : FoldD) (hs : List Nat) : List (List Nat) := if F.hues.length ≤ 4 then prodL (opts F hs) else
  prodL ((opts F hs).set (F.homes.getD 0 0) hs) ++ (if F.homes.getD 0 0 = F.homes.getD 1 0 then [] else prodL (((opts F hs).set (F.homes.getD 0 0) [F.hues.getD (F.homes.getD 0 0) 0]).set (F.homes.getD 1 0) hs))
theorem uniT_of (ok : FOk F n) (hn : n ≤ 5) {ms os : List Nat} (h24 : n ≤ 4 ∨ F.homes.length ≤ 2) (hm : ∀ m ∈ ms, m < F.homes.length) (ho : ∀ m ∈ os, m < F.homes.length) (hms : ms.length ≤ 4) (hos : os.length ≤ 4) (hm0 : 0 < F.homes.length) (hh : hs.length ≤ 3) :
    UniT F (Pof ms os hs) n (fun h => if h = 0 then prodL (opts F hs) else uni1 F hs) := by
  have hu := ok.hu
  have pb : ∀ o ∈ opts F hs, o.length ≤ 4 := fun o ho => by have := opts_bd o ho; omega
  have b0 : (prodL (opts F hs)).length ≤ 4 ^ n := by
    have h1 := prodL_len pb
    rw [opts_len, ok.hu] at h1
    exact h1
  have aL : F.homes.getD 0 0 < n := getD_home ok hm0
  have sub1 : ∀ s ∈ uni1 F hs, s ∈ prodL (opts F hs) := fun s hS => by
    unfold uni1 at hS
    split at hS
    · exact hS
    · have hA : ∀ v ∈ hs, ∀ i, i < n → v ∈ (opts F hs).getD i [] := fun v hv i hi => by
        rw [opts_get (by omega)]
        exact mem_addK.mpr (.inl hv)
      rcases List.mem_append.mp hS with z | z
      · exact prod_sub (fun v hv => hA v hv _ aL) z
      · split at z
        · cases z
        · rename_i hab
          have h1 : F.homes.getD 0 0 < n := aL
          refine prod_sub (fun v hv => ?_) (prod_sub (x := hs) (fun v hv => ?_) z)
          · rw [List.mem_singleton.mp hv, opts_get (by omega)]
            exact mem_addK.mpr (.inr rfl)
          · rw [set_getD]
            split
            · rename_i q
              exact absurd q.1 hab
            · by_cases h2 : 1 < F.homes.length
              · exact hA v hv _ (getD_home ok h2)
              · have e : F.homes.getD 1 0 = 0 := by rw [List.getD_eq_getElem?_getD, List.getElem?_eq_none (by omega)]; rfl
                rw [e]
                exact hA v hv 0 ok.n0
  have in1 : ∀ s ∈ prodL (opts F hs), ∀ m, m < F.homes.length → s.getD (F.homes.getD m 0) 0 ∈ hs → s ∈ uni1 F hs := fun s hS m hm hc => by
    unfold uni1
    split
    · exact hS
    · rename_i h4
      have h2 := h24.resolve_left (by omega)
      by_cases ha : s.getD (F.homes.getD 0 0) 0 ∈ hs
      · exact List.mem_append.mpr (.inl (prod_to hS ha))
      · have e1 : m = 1 := by
          rcases Nat.lt_or_ge m 1 with z | z
          · have : m = 0 := by omega
            subst this
            exact absurd hc ha
          · omega
        subst e1
        refine List.mem_append.mpr (.inr ?_)
        rw [if_neg (fun z => ha (by rw [z]; exact hc))]
        refine prod_to (prod_to hS (List.mem_singleton.mpr ?_)) hc
        have h3 := ((mem_prodL _ _).mp hS).2 (F.homes.getD 0 0) (by rw [prod_ln ok hS]; exact aL)
        rw [opts_get (by omega)] at h3
        exact (mem_addK.mp h3).resolve_left ha
  have P0 : Pof ms os hs 0 = poursOf (srt ms) (srt hs) := rfl
  have P1 : ∀ h, h ≠ 0 → Pof ms os hs h = poursOf (srt os) (srt hs) := fun h hh => if_neg hh
  refine ⟨hues_in ok, fun h h1 s hS p hp => ?_, fun h h1 s hS => ?_, ?_, fun h p hp => ?_, fun h => ?_⟩
  · rcases Nat.lt_or_ge h 1 with z | z
    · obtain rfl : h = 0 := by omega
      rw [P0] at hp
      obtain ⟨q1, q2⟩ := mem_poursOf.mp hp
      obtain ⟨g1, g2⟩ := spread_in ok hS (getD_home ok (hm _ q1)) q2
      exact in1 _ g1 p.1 (hm _ q1) (by rw [g2]; exact q2)
    · obtain rfl : h = 1 := by omega
      rw [P1 1 (by omega)] at hp
      obtain ⟨q1, q2⟩ := mem_poursOf.mp hp
      exact (spread_in ok (sub1 s hS) (getD_home ok (ho _ q1)) q2).1
  · rcases Nat.lt_or_ge h 1 with z | z
    · obtain rfl : h = 0 := by omega
      exact prod_ln ok hS
    · obtain rfl : h = 1 := by omega
      exact prod_ln ok (sub1 s hS)
  · show (prodL (opts F hs)).length + (uni1 F hs).length ≤ 2000
    rcases Nat.lt_or_ge 4 n with z | z
    · obtain rfl : n = 5 := by omega
      have h2 := h24.resolve_left (by omega)
      have e5 : (4 : Nat) ^ 5 = 1024 := by decide
      unfold uni1
      rw [if_neg (by omega), List.length_append]
      have l1 := prodL_set (B := 4) (os := opts F hs) (a := F.homes.getD 0 0) (x := hs) pb (by rw [opts_len, hu]; exact aL)
      rw [opts_len, hu, e5] at l1
      split
      · have : hs.length * 1024 ≤ 3 * 1024 := Nat.mul_le_mul_right _ hh
        simp only [List.length_nil]
        omega
      · rename_i hab
        have bL : F.homes.getD 1 0 < 5 := by
          by_cases h2 : 1 < F.homes.length
          · exact getD_home ok h2
          · have e : F.homes.getD 1 0 = 0 := by rw [List.getD_eq_getElem?_getD, List.getElem?_eq_none (by omega)]; rfl
            omega
        have l2 := prodL_set2 (B := 4) (os := opts F hs) (a := F.homes.getD 0 0) (b := F.homes.getD 1 0) (x := [F.hues.getD (F.homes.getD 0 0) 0]) (y := hs) pb (by rw [opts_len, hu]; exact aL) (by rw [opts_len, hu]; exact bL) hab
        rw [opts_len, hu, e5, List.length_singleton, Nat.one_mul] at l2
        have : hs.length * 1024 ≤ 3 * 1024 := Nat.mul_le_mul_right _ hh
        omega
    · have e : uni1 F hs = prodL (opts F hs) := if_pos (by omega)
      rw [e]
      have h1 := pow_bd (B := 4) (by omega) z
      have e4 : (4 : Nat) ^ 4 = 256 := by decide
      omega
  · by_cases z : h = 0
    · subst z
      exact hm _ (mem_poursOf.mp hp).1
    · rw [P1 h z] at hp
      exact ho _ (mem_poursOf.mp hp).1
  · by_cases z : h = 0
    · subst z
      rw [P0, poursOf_len']
      have : ms.length * hs.length ≤ 4 * 3 := Nat.mul_le_mul hms hh
      omega
    · rw [P1 h z, poursOf_len']
      have : os.length * hs.length ≤ 4 * 3 := Nat.mul_le_mul hos hh
      omega
end
end G6
end
section
set_option maxHeartbeats 4000000
set_option linter.all false
namespace G6
open PySem PySem.Spec PyProof.Rows L2 PySem.W
/-! N4: the laws of the two games -/
section
variable {hd hd' : St → Bool} {mv mv' : St → List St} {mi mi' mt mt' : St → List St}
theorem Dist.more (h : ∀ s t, t ∈ mv s → t ∈ mv' s) : ∀ n s, Dist hd mv n s → Dist hd mv' n s
  | 0, _, d => d
  | n + 1, s, d => d.elim (fun d => .inl (Dist.more h n s d)) fun ⟨t, ht, d⟩ => .inr ⟨t, h s t ht, Dist.more h n t d⟩
theorem Win.more (h1 : ∀ s t, t ∈ mi s → t ∈ mi' s) (h2 : ∀ s t, t ∈ mt' s → t ∈ mt s) : ∀ n s, Win hd mi mt n s → Win hd mi' mt' n s
  | 0, _, d => d
  | n + 1, s, d => d.elim (fun d => .inl (Win.more h1 h2 n s d)) fun ⟨t, ht, d⟩ => .inr ⟨t, h1 s t ht, d.elim .inl fun d => .inr fun u hu => Win.more h1 h2 n u (d u (h2 t u hu))⟩
theorem Win.dist (h1 : ∀ s t, t ∈ mi s → t ∈ mv s) (h2 : ∀ s t, t ∈ mt s → t ∈ mv s) (hne : ∀ s, ∃ t, t ∈ mt s) : ∀ n s, Win hd mi mt n s → Dist hd mv (2 * n) s
  | 0, _, d => d
  | n + 1, s, d => by
    rcases d with d | ⟨t, ht, d⟩
    · exact (Win.dist h1 h2 hne n s d).mono (by omega)
    · rcases d with d | d
      · exact Dist.mono (n := 1) (.inr ⟨t, h1 s t ht, d⟩) (by omega)
      · obtain ⟨u, hu⟩ := hne t
        have := Win.dist h1 h2 hne n u (d u hu)
        exact Dist.mono (n := 2 * n + 1 + 1) (.inr ⟨t, h1 s t ht, .inr ⟨u, h2 t u hu, this⟩⟩) (by omega)
theorem Dist.iso {φ : St → St} {K0 : St → Prop} (h0 : ∀ s, K0 s → hd' (φ s) = hd s) (hk : ∀ s, K0 s → ∀ t ∈ mv s, K0 t) (hm : ∀ s, K0 s → ∀ t', t' ∈ mv' (φ s) ↔ ∃ t ∈ mv s, t' = φ t) : ∀ n s, K0 s → (Dist hd' mv' n (φ s) ↔ Dist hd mv n s)
  | 0, s, k => by show hd' (φ s) = true ↔ hd s = true; rw [h0 s k]
  | n + 1, s, k => by
    have ih := Dist.iso h0 hk hm n
    constructor
    · rintro (d | ⟨t', ht, d⟩)
      · exact .inl ((ih s k).mp d)
      · obtain ⟨t, hz, rfl⟩ := (hm s k t').mp ht
        exact .inr ⟨t, hz, (ih t (hk s k t hz)).mp d⟩
    · rintro (d | ⟨t, ht, d⟩)
      · exact .inl ((ih s k).mpr d)
      · exact .inr ⟨φ t, (hm s k _).mpr ⟨t, ht, rfl⟩, (ih t (hk s k t ht)).mpr d⟩
theorem Win.iso {φ : St → St} {K0 : St → Prop} (h0 : ∀ s, K0 s → hd' (φ s) = hd s) (hk1 : ∀ s, K0 s → ∀ t ∈ mi s, K0 t) (hk2 : ∀ s, K0 s → ∀ t ∈ mt s, K0 t)
    (hm1 : ∀ s, K0 s → ∀ t', t' ∈ mi' (φ s) ↔ ∃ t ∈ mi s, t' = φ t) (hm2 : ∀ s, K0 s → ∀ t', t' ∈ mt' (φ s) ↔ ∃ t ∈ mt s, t' = φ t) : ∀ n s, K0 s → (Win hd' mi' mt' n (φ s) ↔ Win hd mi mt n s)
  | 0, s, k => by show hd' (φ s) = true ↔ hd s = true; rw [h0 s k]
  | n + 1, s, k => by
    have ih := Win.iso h0 hk1 hk2 hm1 hm2 n
    constructor
    · rintro (d | ⟨t', ht, d⟩)
      · exact .inl ((ih s k).mp d)
      · obtain ⟨t, hz, rfl⟩ := (hm1 s k t').mp ht
        have kt := hk1 s k t hz
        refine .inr ⟨t, hz, ?_⟩
        rcases d with d | d
        · left; rw [← h0 t kt]; exact d
        · exact .inr fun u hu => (ih u (hk2 t kt u hu)).mp (d _ ((hm2 t kt _).mpr ⟨u, hu, rfl⟩))
    · rintro (d | ⟨t, ht, d⟩)
      · exact .inl ((ih s k).mpr d)
      · have kt := hk1 s k t ht
        refine .inr ⟨φ t, (hm1 s k _).mpr ⟨t, ht, rfl⟩, ?_⟩
        rcases d with d | d
        · left; rw [h0 t kt]; exact d
        · refine .inr fun u' hu => ?_
          obtain ⟨u, hz, rfl⟩ := (hm2 t kt u').mp hu
          exact (ih u (hk2 t kt u hz)).mpr (d u hz)
end
/-! the games on a picture -/
def Dd (d : PicD) (ms hs : List Nat) (wd : WishD) (n : Nat) : Prop := Dist (holds (foldP d) wd) (mvs (foldP d) (poursOf (srt ms) (srt hs))) n (foldP d).hues
def Wd (d : PicD) (ms os hs : List Nat) (wd : WishD) (n : Nat) : Prop := Win (holds (foldP d) wd) (mvs (foldP d) (Pof ms os hs 0)) (mvs (foldP d) (Pof ms os hs 1)) n (foldP d).hues
theorem mem_mvs {F : FoldD} {ms hs : List Nat} {s t : St} : t ∈ mvs F (poursOf (srt ms) (srt hs)) s ↔ ∃ m ∈ ms, ∃ c ∈ hs, t = spread F s (F.homes.getD m 0) c := by
  unfold mvs
  rw [List.mem_map]
  constructor
  · rintro ⟨p, hp, rfl⟩
    obtain ⟨h1, h2⟩ := mem_poursOf.mp hp
    exact ⟨p.1, h1, p.2, h2, rfl⟩
  · rintro ⟨m, hm, c, hc, rfl⟩
    exact ⟨(m, c), mem_poursOf.mpr ⟨hm, hc⟩, rfl⟩
theorem mvs_sub {F : FoldD} {ms ms' hs hs' : List Nat} (h1 : ∀ m ∈ ms, m ∈ ms') (h2 : ∀ m ∈ hs, m ∈ hs') (s t : St) (h : t ∈ mvs F (poursOf (srt ms) (srt hs)) s) : t ∈ mvs F (poursOf (srt ms') (srt hs')) s := by
  obtain ⟨m, hm, c, hc, e⟩ := mem_mvs.mp h
  exact mem_mvs.mpr ⟨m, h1 m hm, c, h2 c hc, e⟩
section
variable {d : PicD} {ms ms' os os' hs hs' us : List Nat} {wd : WishD} {n : Nat}
theorem Dd.more (h1 : ∀ m ∈ ms, m ∈ ms') (h2 : ∀ m ∈ hs, m ∈ hs') (h : Dd d ms hs wd n) : Dd d ms' hs' wd n := Dist.more (mvs_sub h1 h2) _ _ h
theorem Wd.mine (h1 : ∀ m ∈ ms, m ∈ ms') (h : Wd d ms os hs wd n) : Wd d ms' os hs wd n := Win.more (mvs_sub h1 fun _ z => z) (fun _ _ z => z) _ _ h
theorem Wd.theirs (h1 : ∀ m ∈ os, m ∈ os') (h : Wd d ms os' hs wd n) : Wd d ms os hs wd n := Win.more (fun _ _ z => z) (mvs_sub h1 fun _ z => z) _ _ h
theorem Wd.dd (h1 : ∀ m ∈ ms, m ∈ us) (h2 : ∀ m ∈ os, m ∈ us) (ho : os ≠ []) (hh : hs ≠ []) (h : Wd d ms os hs wd n) : Dd d us hs wd (2 * n) := by
  refine Win.dist (mvs_sub h1 fun _ z => z) (mvs_sub h2 fun _ z => z) (fun s => ?_) _ _ h
  obtain ⟨o, ho⟩ := List.exists_mem_of_ne_nil _ ho
  obtain ⟨c, hc⟩ := List.exists_mem_of_ne_nil _ hh
  exact ⟨_, mem_mvs.mpr ⟨o, ho, c, hc, rfl⟩⟩
end
/-! other names -/
/-- one folding under other colours ρ and another order π of the marks -/
structure FIso (F F' : FoldD) (n : Nat) (ρ π : Nat → Nat) : Prop where
  ok : FOk F n
  near : F'.near = F.near
  nums : F'.nums = F.nums
  hues : F'.hues = F.hues.map ρ
  inj : Inj ρ
  ho : ∀ m, m < F.homes.length → F'.homes.getD (π m) 0 = F.homes.getD m 0
  mem : ∀ h, h ∈ F'.homes ↔ h ∈ F.homes
def ledW (ρ π : Nat → Nat) : WishD → WishD
  | .all => .all
  | .col m c => .col (π m) (ρ c)
  | .one a b => .one (π a) (π b)
  | .reach c => .reach c
section
variable {F F' : FoldD} {n : Nat} {ρ π : Nat → Nat}
theorem con_map (ok : FOk F n) (hρ : Inj ρ) {s : St} (hs : s.length = n) {h : Nat} (hh : h < n) (i : Nat) : Con F.near (fun b => (s.map ρ).getD b 0 = (s.map ρ).getD h 0) h i ↔ Con F.near (fun b => s.getD b 0 = s.getD h 0) h i := by
  constructor
  · refine fun c => c.mono fun l hl b hb e => ?_
    rw [getD_map (by rw [hs]; exact ok.nr l hl b hb), getD_map (by omega)] at e
    exact hρ _ _ e
  · refine fun c => c.mono fun l hl b hb e => ?_
    rw [getD_map (by rw [hs]; exact ok.nr l hl b hb), getD_map (by omega), e]
theorem FIso.spread (I : FIso F F' n ρ π) {s : St} (hs : s.length = n) {h c : Nat} (hh : h < n) : spread F' (s.map ρ) h (ρ c) = (spread F s h c).map ρ := by
  have nr : ∀ l ∈ F.near, ∀ b ∈ l, b < s.length := fun l hl b hb => by rw [hs]; exact I.ok.nr l hl b hb
  obtain ⟨g1, g2⟩ := spread_get (F := F) (st := s) (home := h) (hue := c) nr (by omega)
  obtain ⟨k1, k2⟩ := spread_get (F := F') (st := s.map ρ) (home := h) (hue := ρ c) (by rw [I.near, List.length_map]; exact nr) (by rw [List.length_map]; omega)
  rw [I.near] at k2
  refine List.ext_getElem (by rw [k1, List.length_map, List.length_map, g1]) fun i h1 h2 => ?_
  have hi : i < s.length := by rw [k1, List.length_map] at h1; exact h1
  have e1 : ∀ (l : List Nat) (h : i < l.length), l[i] = l.getD i 0 := fun l h => by rw [List.getD_eq_getElem?_getD, List.getElem?_eq_getElem h]; rfl
  rw [e1, e1, getD_map (by omega)]
  have k3 := k2 i (by rw [List.length_map]; exact hi)
  by_cases q : Con F.near (fun b => s.getD b 0 = s.getD h 0) h i
  · rw [k3.1 ((con_map I.ok I.inj hs hh i).mpr q), (g2 i hi).1 q]
  · rw [k3.2 (fun z => q ((con_map I.ok I.inj hs hh i).mp z)), (g2 i hi).2 q, getD_map hi]
theorem spread_len (ok : FOk F n) {s : St} (hs : s.length = n) {h c : Nat} (hh : h < n) : (G6.spread F s h c).length = n := by
  rw [(spread_get (fun l hl b hb => by rw [hs]; exact ok.nr l hl b hb) (by omega)).1, hs]
theorem FIso.alike (I : FIso F F' n ρ π) {s : St} (hs : s.length = n) {h : Nat} (hh : h < n) : alike_ F' (s.map ρ) h = alike_ F s h := by
  unfold alike_ patchF
  rw [I.near, List.length_map]
  refine grow_congr (fun l hl b hb => decide_eq_decide.mpr ?_) _ _ _
  rw [getD_map (by rw [hs]; exact I.ok.nr l hl b hb), getD_map (by omega)]
  exact ⟨fun z => I.inj _ _ z, fun z => by rw [z]⟩
theorem FIso.holds (I : FIso F F' n ρ π) {wd : WishD} (hw : WishOk F wd) {s : St} (hs : s.length = n) : G6.holds F' (ledW ρ π wd) (s.map ρ) = G6.holds F wd s := by
  cases wd with
  | all =>
    show decide ((alike_ F' (s.map ρ) 0).length = (s.map ρ).length) = decide ((alike_ F s 0).length = s.length)
    rw [I.alike hs I.ok.n0, List.length_map]
  | col m c =>
    have hm : m < F.homes.length := hw
    show decide ((s.map ρ).getD (F'.homes.getD (π m) 0) 0 = ρ c) = decide (s.getD (F.homes.getD m 0) 0 = c)
    rw [I.ho m hm, getD_map (by rw [hs]; exact getD_home I.ok hm)]
    exact decide_eq_decide.mpr ⟨fun z => I.inj _ _ z, fun z => by rw [z]⟩
  | one a b =>
    have hm : a < F.homes.length ∧ b < F.homes.length := hw
    show decide (F'.homes.getD (π b) 0 ∈ alike_ F' (s.map ρ) (F'.homes.getD (π a) 0)) = decide (F.homes.getD b 0 ∈ alike_ F s (F.homes.getD a 0))
    rw [I.ho a hm.1, I.ho b hm.2, I.alike hs (getD_home I.ok hm.1)]
  | reach c =>
    have hc : c < F.nums.length := hw
    show (F'.homes.any fun h => decide (h ∈ alike_ F' (s.map ρ) (F'.nums.getD c 0))) = F.homes.any fun h => decide (h ∈ alike_ F s (F.nums.getD c 0))
    obtain ⟨v, hv⟩ := getElem?_of_lt hc
    rw [I.nums, getD_of hv, I.alike hs (I.ok.nu v (List.mem_of_getElem? hv)), Bool.eq_iff_iff, List.any_eq_true, List.any_eq_true]
    exact ⟨fun ⟨h, h1, h2⟩ => ⟨h, (I.mem h).mp h1, h2⟩, fun ⟨h, h1, h2⟩ => ⟨h, (I.mem h).mpr h1, h2⟩⟩
theorem FIso.mvs (I : FIso F F' n ρ π) {ms hs : List Nat} (hm : ∀ m ∈ ms, m < F.homes.length) {s : St} (hs' : s.length = n) (t' : St) : t' ∈ G6.mvs F' (poursOf (srt (ms.map π)) (srt (hs.map ρ))) (s.map ρ) ↔ ∃ t ∈ G6.mvs F (poursOf (srt ms) (srt hs)) s, t' = t.map ρ := by
  rw [mem_mvs]
  constructor
  · rintro ⟨m', hm', c', hc', rfl⟩
    obtain ⟨m, hmm, rfl⟩ := List.mem_map.mp hm'
    obtain ⟨c, hc, rfl⟩ := List.mem_map.mp hc'
    exact ⟨_, mem_mvs.mpr ⟨m, hmm, c, hc, rfl⟩, by rw [I.ho m (hm m hmm), I.spread hs' (getD_home I.ok (hm m hmm))]⟩
  · rintro ⟨t, ht, rfl⟩
    obtain ⟨m, hmm, c, hc, rfl⟩ := mem_mvs.mp ht
    exact ⟨π m, List.mem_map.mpr ⟨m, hmm, rfl⟩, ρ c, List.mem_map.mpr ⟨c, hc, rfl⟩, by rw [I.ho m (hm m hmm), I.spread hs' (getD_home I.ok (hm m hmm))]⟩
theorem FIso.keep (I : FIso F F' n ρ π) {ms hs : List Nat} (hm : ∀ m ∈ ms, m < F.homes.length) {s : St} (hs' : s.length = n) : ∀ t ∈ G6.mvs F (poursOf (srt ms) (srt hs)) s, t.length = n := fun t ht => by
  obtain ⟨m, hmm, c, hc, rfl⟩ := mem_mvs.mp ht
  exact spread_len I.ok hs' (getD_home I.ok (hm m hmm))
end
section
variable {d : PicD} {ρ : Nat → Nat} {order : List Nat} {ms os hs : List Nat} {wd : WishD}
/-- the other picture -/
def otherP (d : PicD) (ρ : Nat → Nat) (order : List Nat) : PicD := ⟨d.col.map ρ, d.tie, order.map fun m => d.mks.getD m 0⟩
theorem fiso_of (W : PicW d) (hρ : Inj ρ) {π : Nat → Nat} (hπ : ∀ m, m < d.mks.length → order[π m]? = some m) (ho : ∀ m ∈ order, m < d.mks.length) : FIso (foldP d) (foldP (otherP d ρ order)) (manyOf (foldP d).nums) ρ π := by
  have e : foldP (otherP d ρ order) = { nums := (foldP d).nums, near := (foldP d).near, homes := (order.map fun m => d.mks.getD m 0).map fun c => (foldP d).nums.getD c 0, hues := (foldP d).hues.map ρ } := foldP_ren hρ W _
  have eh : (foldP d).homes = d.mks.map fun c => (foldP d).nums.getD c 0 := rfl
  have hg : ∀ m, m < d.mks.length → (foldP d).homes.getD m 0 = (foldP d).nums.getD (d.mks.getD m 0) 0 := fun m hm => by
    obtain ⟨v, hv⟩ := getElem?_of_lt hm
    rw [eh, getD_of (l := (foldP d).nums.getD v 0) (by rw [List.getElem?_map, hv]; rfl), getD_of hv]
  refine ⟨foldP_ok W, by rw [e], by rw [e], by rw [e], hρ, fun m hm => ?_, fun h => ?_⟩
  · rw [foldP_homes] at hm
    rw [hg m hm, e]
    show (List.map _ (List.map _ order)).getD (π m) 0 = _
    rw [getD_of (l := (foldP d).nums.getD (d.mks.getD m 0) 0)]
    rw [List.getElem?_map, List.getElem?_map, hπ m hm]
    rfl
  · rw [e, eh]
    show h ∈ List.map _ (List.map _ order) ↔ _
    rw [List.map_map, List.mem_map, List.mem_map]
    constructor
    · rintro ⟨m, hm, rfl⟩
      obtain ⟨v, hv⟩ := getElem?_of_lt (ho m hm)
      exact ⟨v, List.mem_of_getElem? hv, by show _ = (foldP d).nums.getD (d.mks.getD m 0) 0; rw [getD_of hv]⟩
    · rintro ⟨v, hv, rfl⟩
      obtain ⟨m, hm⟩ := List.getElem?_of_mem hv
      exact ⟨m, List.mem_of_getElem? (hπ m (List.getElem?_eq_some_iff.mp hm).1), by show (foldP d).nums.getD (d.mks.getD m 0) 0 = _; rw [getD_of hm]⟩
theorem Wd.iso (W : PicW d) (hρ : Inj ρ) {π : Nat → Nat} (hπ : ∀ m, m < d.mks.length → order[π m]? = some m) (ho : ∀ m ∈ order, m < d.mks.length) (hw : WishG d wd) (hm : ∀ m ∈ ms, m < d.mks.length) (hm2 : ∀ m ∈ os, m < d.mks.length) (n : Nat) :
    Wd (otherP d ρ order) (ms.map π) (os.map π) (hs.map ρ) (ledW ρ π wd) n ↔ Wd d ms os hs wd n := by
  have I := fiso_of W hρ hπ ho
  have hw := wishOk_of hw
  unfold Wd
  rw [I.hues]
  have hm' : ∀ m ∈ ms, m < (foldP d).homes.length := fun m h => by rw [foldP_homes]; exact hm m h
  have hm2' : ∀ m ∈ os, m < (foldP d).homes.length := fun m h => by rw [foldP_homes]; exact hm2 m h
  exact Win.iso (φ := List.map ρ) (K0 := fun s => s.length = manyOf (foldP d).nums) (fun s k => I.holds hw k) (fun s k => I.keep hm' k) (fun s k => I.keep hm2' k) (fun s k => I.mvs hm' k) (fun s k => I.mvs hm2' k) n _ I.ok.hu
theorem Dd.iso (W : PicW d) (hρ : Inj ρ) {π : Nat → Nat} (hπ : ∀ m, m < d.mks.length → order[π m]? = some m) (ho : ∀ m ∈ order, m < d.mks.length) (hw : WishG d wd) (hm : ∀ m ∈ ms, m < d.mks.length) (n : Nat) :
    Dd (otherP d ρ order) (ms.map π) (hs.map ρ) (ledW ρ π wd) n ↔ Dd d ms hs wd n := by
  have I := fiso_of W hρ hπ ho
  have hw := wishOk_of hw
  unfold Dd
  rw [I.hues]
  have hm' : ∀ m ∈ ms, m < (foldP d).homes.length := fun m h => by rw [foldP_homes]; exact hm m h
  exact Dist.iso (φ := List.map ρ) (K0 := fun s => s.length = manyOf (foldP d).nums) (fun s k => I.holds hw k) (fun s k => I.keep hm' k) (fun s k => I.mvs hm' k) n _ I.ok.hu
end
/-! the numbers of the answers -/
/-- r is the least number with W, or a million where there is none -/
def Rk (W : Nat → Prop) (r : Nat) : Prop := (r ≤ 60000 ∧ W r ∧ ∀ m, m < r → ¬ W m) ∨ (r = 1000000 ∧ ∀ n, ¬ W n)
theorem Rk.le {W W' : Nat → Prop} {r r' : Nat} (h : Rk W r) (h' : Rk W' r') (i : ∀ n, W n → W' n) : r' ≤ r := by
  rcases h with ⟨h1, h2, h3⟩ | ⟨h1, h2⟩
  · rcases h' with ⟨g1, g2, g3⟩ | ⟨g1, g2⟩
    · rcases Nat.lt_or_ge r r' with z | z
      · exact absurd (i r h2) (g3 r z)
      · exact z
    · exact absurd (i r h2) (g2 r)
  · rcases h' with ⟨g1, g2, g3⟩ | ⟨g1, g2⟩ <;> omega
theorem Rk.eq {W W' : Nat → Prop} {r r' : Nat} (h : Rk W r) (h' : Rk W' r') (i : ∀ n, W' n ↔ W n) : r' = r := by
  have := h.le h' fun n => (i n).mpr
  have := h'.le h fun n => (i n).mp
  omega
theorem Rk.two {W D : Nat → Prop} {r r' : Nat} (h : Rk W r) (h' : Rk D r') (hr : r < 1000000) (i : ∀ n, W n → D (2 * n)) : r' ≤ 2 * r := by
  rcases h with ⟨h1, h2, h3⟩ | ⟨h1, h2⟩
  · have := i r h2
    rcases h' with ⟨g1, g2, g3⟩ | ⟨g1, g2⟩
    · rcases Nat.lt_or_ge (2 * r) r' with z | z
      · exact absurd this (g3 _ z)
      · exact z
    · exact absurd this (g2 _)
  · omega
end G6
end
section
set_option maxHeartbeats 4000000
set_option Elab.async false
set_option linter.all false
set_option maxRecDepth 100000
namespace G6
open PySem PySem.Spec PyProof.Rows L2 PySem.W
section
variable {P : Program} {w : World} {K : PySem.W.Frag} {mg : Str → Option Value} {base : Heap}
theorem sc_L_more : FnScope ["_law_hand_here", "_law_marks_here", "_law_many", "_law_left", "_law_out", "_law_mark"] ["_law_hand_here", "_law_marks_here", "_law_many"] (defScope s_L_more) := ⟨rfl, rfl, rfl, by decide +kernel, rfl, by decide +kernel, by decide +kernel⟩
def sp_mor : Sp := fun vs H Q _ => ∃ (a c l : Addr) (ms : List Nat) (n : Nat), vs = [.ref a, .ref l, .int (n : Int)] ∧ Hand H a c ∧ LN (dr H a) l ms ∧ n ≤ 100 ∧ (∀ v ∈ ms, v < n) ∧ ms.Nodup ∧ ∀ H' q ms', Same (dr H a) H' → Hand H' a c → LN (dr H' a) q ms' → (∀ v ∈ ms, v ∈ ms') → (∀ v ∈ ms', v < n) → ms'.Nodup → Q (.ref q) H'
theorem ok_more (T : TX K mg) : C8.Cal P w K mg base 3 "_law_more" sp_mor [] := by
  have c_L_take := ok_take (P := P) (w := w) (base := base) T
  obtain ⟨fd, F⟩ := T.F_L_more
  refine ⟨_, fd, ["_law_hand_here", "_law_marks_here", "_law_many"], [], ?_, T.g_L_more, F.kp, (F.bindsN (fun _ _ _ _ _ _ us hl => match us, hl with | [_, _, _], _ => rfl)), .nil⟩
  refine F.ok sc_L_more (fun vs H Q E h => ?_) (fun cdv A outer s H vs Q E hr h => ?_)
  · obtain ⟨a, c, l, ms, n, rfl, _⟩ := h
    rfl
  · obtain ⟨a, c, l, ms, n, rfl, ha, hld, hn, hlt, hnd, k⟩ := h
    have hl := dr_same _ _ hld
    have nla : l ≠ a := fun z => by
      have hld : dr H a l = some (.lst (vN ms)) := hld
      rw [z, dr_self] at hld
      cases hld
    have hml := nodup_lt_len hnd hlt
    refine ⟨_, PSs.nox (pss_cons (ps_setLc (i := 3) (own := [("_law_mark", 5)]) (g := gName 5) (by rfl) sc_L_more.nd rfl rfl (sw_true rfl rfl rfl (by decide +kernel)) (pi_range1 (by rfl) T.f_range (pa_cons (pv 2) pa_nil)) (blkOk_by (own := [("_law_mark", 5)]) (N := ["_law_hand_here", "_law_marks_here", "_law_many", "_law_left", "_law_out", "_law_mark"]) (sc := defScope s_L_more) (by decide +kernel)) (fun _ _ _ _ _ => (pg_name (i := 5) sc_L_more.nd rfl (.inl rfl))) (fun _ _ _ _ _ => (pts_one (pt_cmpR (op_notIn_seq' K rfl) (pv 5) (pv 1) (by rfl)))) (fun _ _ _ _ _ => (pv 5)))
      (pss_cons (ps_if (pt_cmpR (op_eqD' K rfl hr.units) (pv 3) (pe_lst pa_nil) (nomark _)) (pss_one (ps_ret (pe_callTy (call_listK' K rfl) (by rfl) T.f_list (by decide +kernel) (pa_cons (pv 1) pa_nil)))) pss_nil)
      (pss_cons (ps_set (i := 4) sc_L_more.nd rfl (.inl rfl) (pe_callTy (call_listK' K rfl) (by rfl) T.f_list (by decide +kernel) (pa_cons (pv 1) pa_nil)))
      (pss_cons (ps_expr (pe_bm' K rfl PySem.F.plainAttrs_list PySem.F.slot_list_insert PySem.F.type_list_insert mt_insert (pv 4) (pa_cons (C8.pe_c (c_L_take) hr (by omega) (by rfl) (pa_cons (pv 0) (pa_cons (pe_op op_add (pe_callB (call_lenK' K rfl) (by rfl) T.f_len (by decide +kernel) (pa_cons (pv 4) pa_nil)) pe_int) pa_nil))) (pa_cons (pe_ix (ix_list' K rfl) (pv 3) (C8.pe_c (c_L_take) hr (by omega) (by rfl) (pa_cons (pv 0) (pa_cons (pe_callB (call_lenK' K rfl) (by rfl) T.f_len (by decide +kernel) (pa_cons (pv 3) pa_nil)) pa_nil))) (fun _ _ => rfl)) pa_nil))))
      (pss_one (ps_ret (pv 4))))))), ?_⟩
    try dsimp only [cxOf]
    walk_at "WK"
    refine r_ir1k (by omega) (by omega) ?_
    rw [Int.toNat_natCast]
    refine lc_R (fun D i H' => Same H H' ∧ H D = none ∧ LN H' D ((List.range i).filter fun v => !decide (v ∈ ms))) (fun D hD => ⟨same_new hD, hD, upd_same⟩) ?_ ?_
    · rintro D i H' hi ⟨s1, nD, hD⟩
      have hl1 := s1 _ _ hl
      have hb : ((List.range i).filter fun v => !decide (v ∈ ms)).length ≤ i := by
        have := List.length_filter_le (fun v => !decide (v ∈ ms)) (List.range i)
        rwa [List.length_range] at this
      have e0 : (0 : Int) + (i : Int) = (i : Int) := by omega
      rw [e0]
      walk_at "WK"
      simp only [if_true]
      have er : List.range (i + 1) = List.range i ++ [i] := List.range_succ
      by_cases hin : i ∈ ms
      · rw [decide_eq_true hin]
        walk_at "WK"
        refine ⟨s1, nD, ?_⟩
        rw [er, List.filter_append]
        simp only [List.filter_cons, decide_eq_true hin, List.filter_nil]
        simpa using hD
      · rw [decide_eq_false hin]
        walk_at "WK"
        refine r_eltk hD (lt_sz (by rw [vN_len]; omega)) ?_
        rw [vN_app]
        refine ⟨same_of s1 nD, nD, ?_⟩
        rw [er, List.filter_append]
        simp only [List.filter_cons, decide_eq_false hin, List.filter_nil]
        exact upd_same
    · rintro D H1 ⟨s1, nD, hD⟩
      have hl1 := s1 _ _ hl
      have h1 := ha.ext s1
      have nDa : D ≠ a := (ha.fresh nD).1
      have hL : ∀ v ∈ (List.range n).filter (fun v => !decide (v ∈ ms)), v < n ∧ v ∉ ms := fun v hv => by
        obtain ⟨z1, z2⟩ := List.mem_filter.mp hv
        refine ⟨List.mem_range.mp z1, fun z => ?_⟩
        rw [decide_eq_true z] at z2
        cases z2
      have hb := List.length_filter_le (fun v => !decide (v ∈ ms)) (List.range n)
      rw [List.length_range] at hb
      generalize (List.range n).filter (fun v => !decide (v ∈ ms)) = L at hD hL hb
      walk_at "WK"
      intro lE hlE
      have sE := same_new hlE (o := .lst [])
      have hD2 := sE _ _ hD
      have hl2 := sE _ _ hl1
      have h2 := h1.ext sE
      have s2 := s1.trans sE
      refine r_eqNil hD2 upd_same ?_
      generalize upd H1 lE (.lst []) = H2 at sE hD2 hl2 h2 s2 ⊢
      have d2 : Same (dr H a) (dr H2 a) := dr_mono s2
      by_cases hL0 : L = []
      · rw [decide_eq_true hL0]
        walk_at "WK"
        intro q hq
        have sq := same_new hq (o := .lst (vN ms))
        exact k _ q ms ((dr_same (x := a)).trans (s2.trans sq)) (h2.ext sq) ((dr_ne (h2.fresh hq).1).trans upd_same) (fun _ z => z) hlt hnd
      · rw [decide_eq_false hL0]
        have hLp := List.length_pos_iff.mpr hL0
        walk_at "WK"
        intro oA hoA
        obtain ⟨noa, noc⟩ := h2.fresh hoA
        have so := same_new hoA (o := .lst (vN ms))
        have s3 := s2.trans so
        have h3 := h2.ext so
        have hD3 := so _ _ hD2
        have ho3 : LN (upd H2 oA (.lst (vN ms))) oA ms := upd_same
        have no : H oA = none := s2.free hoA
        generalize upd H2 oA (.lst (vN ms)) = H3 at s3 h3 hD3 ho3 ⊢
        have hvm := vN_len ms
        have hvL := vN_len L
        walk_at "WK"
        refine r_take h3 (by omega) (by omega) fun H4 r4 s4 h4 hr4 => ?_
        have hD4 := s4 _ _ ((dr_ne nDa).trans hD3)
        have ho4 := s4 _ _ ((dr_ne noa).trans ho3)
        walk_at "WK"
        refine r_take h4 (by omega) (by omega) fun H5 r5 s5 h5 hr5 => ?_
        have hD5 := s5 _ _ ((dr_ne nDa).trans hD4)
        have ho5 : LN H5 oA ms := s5 _ _ ((dr_ne noa).trans ho4)
        obtain ⟨v, hv⟩ := getElem?_of_lt (ls := L) (i := r5) (by omega)
        have ev : atI (vN L) (r5 : Int) = some (V.int (v : Int)) := vN_at hv
        obtain ⟨hvn, hvm2⟩ := hL v (List.mem_of_getElem? hv)
        have s05 : Same (dr H a) H5 := dr_then (dr_then ((dr_same (x := a)).trans s3) s4) s5
        walk_at "WK"
        refine ⟨oA, vN ms, (r4 : Int), .int (v : Int), rfl, rfl, ho5, lt_sz (by omega), by omega, by omega, ?_⟩
        rw [ins_eq]
        walk_at "WK"
        have hmem : ∀ u, u ∈ ms.take r4 ++ [v] ++ ms.drop r4 ↔ u = v ∨ u ∈ ms := fun u => by
          rw [List.mem_append, List.mem_append, List.mem_singleton]
          constructor
          · rintro ((z | z) | z)
            · exact .inr (List.mem_of_mem_take z)
            · exact .inl z
            · exact .inr (List.mem_of_mem_drop z)
          · rintro (z | z)
            · exact .inl (.inr z)
            · rw [← List.take_append_drop r4 ms] at z
              rcases List.mem_append.mp z with y | y
              · exact .inl (.inl y)
              · exact .inr y
        have hperm : (ms.take r4 ++ [v] ++ ms.drop r4).Perm (v :: ms) := by
          have h1 : (ms.take r4 ++ v :: ms.drop r4).Perm (v :: (ms.take r4 ++ ms.drop r4)) := List.perm_middle
          rw [List.take_append_drop] at h1
          rw [List.append_assoc]
          exact h1
        refine k _ oA _ (same_of s05 ((dr_same (x := a)).free no)) (h5.upd noa noc) ((dr_ne noa).trans upd_same) (fun u hu => (hmem u).mpr (.inr hu)) (fun u hu => ?_) (hperm.nodup_iff.mpr (List.nodup_cons.mpr ⟨hvm2, hnd⟩))
        rcases (hmem u).mp hu with z | z
        · rw [z]; exact hvn
        · exact hlt u z
/-- the numbers in a wish -/
def WishN (n : Nat) : WishD → Prop
  | .all => True
  | .col m c => m < n ∧ c ≤ 99
  | .one a b => a < n ∧ b < n
  | .reach _ => True
theorem sc_L_led : FnScope ["_law_aim", "_law_shift", "_law_places"] ["_law_aim", "_law_shift", "_law_places"] (defScope s_L_led) := ⟨rfl, rfl, rfl, by decide +kernel, rfl, by decide +kernel, by decide +kernel⟩
def sp_led : Sp := fun vs H Q _ => ∃ (t l : Addr) (wd : WishD) (sh : Int) (pl : List Nat) (ρ π : Nat → Nat), vs = [.ref t, .int sh, .ref l] ∧ H t = some (.tup (wishV wd)) ∧ LN H l pl ∧ WishN pl.length wd ∧ (∀ m, m < pl.length → pl[m]? = some (π m)) ∧ (∀ c : Nat, c ≤ 99 → ((c : Int) + sh) % 100 = (ρ c : Int)) ∧ ∀ H' q, Same H H' → H' q = some (.tup (wishV (ledW ρ π wd))) → Q (.ref q) H'
theorem ok_led (T : TX K mg) : C8.Cal P w K mg base 1 "_law_led" sp_led [] := by
  obtain ⟨fd, F⟩ := T.F_L_led
  refine ⟨_, fd, ["_law_aim", "_law_shift", "_law_places"], [], ?_, T.g_L_led, F.kp, (F.bindsN (fun _ _ _ _ _ _ us hl => match us, hl with | [_, _, _], _ => rfl)), .nil⟩
  refine F.ok sc_L_led (fun vs H Q E h => ?_) (fun cdv A outer s H vs Q E hr h => ?_)
  · obtain ⟨t, l, wd, sh, pl, ρ, π, rfl, _⟩ := h
    rfl
  · obtain ⟨t, l, wd, sh, pl, ρ, π, rfl, ht, hl, hw, hπ, hρ, k⟩ := h
    refine ⟨_, PSs.nox (pss_cons (ps_if (pt_cmpR op_eq (pe_ix (ix_tup' K rfl) (pv 0) pe_int (fun _ _ => rfl)) pe_str (nomark _)) (pss_one (ps_ret (pe_tup (pa_cons pe_str (pa_cons (pe_ix (ix_list' K rfl) (pv 2) (pe_ix (ix_tup' K rfl) (pv 0) pe_int (fun _ _ => rfl)) (fun _ _ => rfl)) (pa_cons (pe_ix (ix_list' K rfl) (pv 2) (pe_ix (ix_tup' K rfl) (pv 0) pe_int (fun _ _ => rfl)) (fun _ _ => rfl)) pa_nil)))))) pss_nil)
      (pss_one (ps_ret (pe_ifExp (pt_cmpR op_eq (pe_ix (ix_tup' K rfl) (pv 0) pe_int (fun _ _ => rfl)) pe_str (nomark _)) (pe_tup (pa_cons pe_str (pa_cons (pe_ix (ix_list' K rfl) (pv 2) (pe_ix (ix_tup' K rfl) (pv 0) pe_int (fun _ _ => rfl)) (fun _ _ => rfl)) (pa_cons (pe_op op_mod (pe_callTy call_int1K (by rfl) T.f_int (by decide +kernel) (pa_cons (pe_op op_add (pe_ix (ix_tup' K rfl) (pv 0) pe_int (fun _ _ => rfl)) (pv 1)) pa_nil)) pe_int) pa_nil)))) (pv 0))))), ?_⟩
    try dsimp only [cxOf]
    cases wd with
    | all =>
      have ht : H t = some (.tup [.str "all one"]) := ht
      have e0 : atI [V.str "all one"] 0 = some (V.str "all one") := atI_nat (j := 0) rfl
      have w1 : decide ((V.str "all one") = V.str "one") = false := by decide +kernel
      have w2 : decide ((V.str "all one") = V.str "colour") = false := by decide +kernel
      walk_at "WK"
      exact k H t (Same.refl H) ht
    | reach c =>
      have ht : H t = some (.tup [.str "reached", .int (c : Int)]) := ht
      have e0 : atI [V.str "reached", .int (c : Int)] 0 = some (V.str "reached") := atI_nat (j := 0) rfl
      have w1 := w_ro
      have w2 := w_rc
      walk_at "WK"
      exact k H t (Same.refl H) ht
    | one x y =>
      have ht : H t = some (.tup [.str "one", .int (x : Int), .int (y : Int)]) := ht
      have e0 : atI [V.str "one", .int (x : Int), .int (y : Int)] 0 = some (V.str "one") := atI_nat (j := 0) rfl
      have e1 : atI [V.str "one", .int (x : Int), .int (y : Int)] 1 = some (V.int (x : Int)) := atI_nat (j := 1) rfl
      have e2 : atI [V.str "one", .int (x : Int), .int (y : Int)] 2 = some (V.int (y : Int)) := atI_nat (j := 2) rfl
      have w1 := w_oo
      have p1 := hπ x hw.1
      have p2 := hπ y hw.2
      walk_at "WK"
      intro q hq
      exact k _ q (same_new hq) upd_same
    | col m c =>
      have ht : H t = some (.tup [.str "colour", .int (m : Int), .int (c : Int)]) := ht
      have e0 : atI [V.str "colour", .int (m : Int), .int (c : Int)] 0 = some (V.str "colour") := atI_nat (j := 0) rfl
      have e1 : atI [V.str "colour", .int (m : Int), .int (c : Int)] 1 = some (V.int (m : Int)) := atI_nat (j := 1) rfl
      have e2 : atI [V.str "colour", .int (m : Int), .int (c : Int)] 2 = some (V.int (c : Int)) := atI_nat (j := 2) rfl
      have w1 := w_co
      have w2 := w_cc
      have p1 := hπ m hw.1
      walk_at "WK"
      refine r_mod (by decide) ?_
      rw [hρ c hw.2]
      walk_at "WK"
      intro q hq
      exact k _ q (same_new hq) upd_same
theorem sc_L_whole : FnScope ["_law_thing"] ["_law_thing"] (defScope s_L_whole) := ⟨rfl, rfl, rfl, by decide +kernel, rfl, by decide +kernel, by decide +kernel⟩
def sp_whl : Sp := fun vs H Q _ => ∃ n : Int, vs = [.int n] ∧ Q (.bl true) H
theorem ok_whole (T : TX K mg) : C8.Cal P w K mg base 1 "_law_whole" sp_whl [] := by
  obtain ⟨fd, F⟩ := T.F_L_whole
  refine ⟨_, fd, ["_law_thing"], [], ?_, T.g_L_whole, F.kp, (F.bindsN (fun _ _ _ _ _ _ us hl => match us, hl with | [_], _ => rfl)), .nil⟩
  refine F.ok sc_L_whole (fun vs H Q E h => ?_) (fun cdv A outer s H vs Q E hr h => ?_)
  · obtain ⟨n, rfl, _⟩ := h
    rfl
  · obtain ⟨n, rfl, k⟩ := h
    refine ⟨_, PSs.nox (pss_one (ps_ret (pe_and (pe_callB (call_isi' K rfl) (by rfl) T.f_isinstance (by decide +kernel) (pa_cons (pv 0) (pa_cons (pe_bltn (v := .ty "int") (by rfl) T.f_int (by decide +kernel) rfl) pa_nil))) (pe_one (pe_not (pe_callB (call_isi' K rfl) (by rfl) T.f_isinstance (by decide +kernel) (pa_cons (pv 0) (pa_cons (pe_bltn (v := .ty "bool") (by rfl) T.f_bool (by decide +kernel) rfl) pa_nil)))))))), ?_⟩
    try dsimp only [cxOf]
    walk_at "WK"
    exact k
end
end G6
end
section
set_option maxHeartbeats 4000000
set_option Elab.async false
set_option linter.all false
set_option maxRecDepth 100000
namespace G6
open PySem PySem.Spec PyProof.Rows L2 PySem.W
theorem dataT (k : Tn) : (KT.k k).data = .tuple [(KS.k k.1).data, .int (k.2 : Int)] := by
  show (NestedKey.tup [.tup (stK k.1), .num (k.2 : Int)]).data = _
  simp [NestedKey.data, NestedKey.datas, KeyF.k, KS]
theorem alike_tn (a b : Tn) : alike (KT.k a).data (KT.k b).data = true := by
  rw [dataT, dataT]
  have h := alike_st a.1 b.1
  simp [alike, alikeAll, h]
theorem sortB_mem {bs : List BD} {v : V} (h : v ∈ sortB bs) : ∃ b ∈ bs, b.1 = v := by
  unfold sortB at h
  obtain ⟨b, hb, e⟩ := List.mem_map.mp h
  exact ⟨b, (List.mergeSort_perm _ _).mem_iff.mp hb, e⟩
/-- sorted of a list of turns -/
theorem r_sortTn {K : PySem.W.Frag} {H : Hp} {Q : VK} {a : Addr} {as : List Addr} {ks : List Tn} (hx : H a = some (.lst (refs as))) (hA : All2 (fun a k => TT2 H a k) as ks)
    (k : ∀ q ts, H q = none → ts.length = as.length → (∀ t ∈ ts, ∃ k ∈ ks, TT2 H t k) → Q (.ref q) (upd H q (.lst (refs ts)))) : rSortBD K [.ref a] H Q := by
  have hz : ∃ l : List (Addr × Tn), as = l.map (·.1) ∧ ks = l.map (·.2) ∧ ∀ p ∈ l, TT2 H p.1 p.2 := by
    clear hx k
    induction hA with
    | nil => exact ⟨[], rfl, rfl, fun _ z => by cases z⟩
    | cons r _ ih =>
      obtain ⟨l, e1, e2, e3⟩ := ih
      exact ⟨(_, _) :: l, by rw [e1]; rfl, by rw [e2]; rfl, fun p hp => (List.mem_cons.mp hp).elim (fun e => by rw [e]; exact r) (e3 p)⟩
  obtain ⟨l, e1, e2, e3⟩ := hz
  refine ⟨a, l.map fun p => (V.ref p.1, (KT.k p.2).data), rfl, .of ?_, ⟨fun b hb => ?_, ?_, ?_⟩, fun q hq => ?_⟩
  · rw [hx, e1, List.map_map, refs, List.map_map]
    rfl
  · obtain ⟨p, hp, rfl⟩ := List.mem_map.mp hb
    exact ⟨KT.k p.2, rp_tn (e3 p hp), rfl, KT.dp p.2⟩
  · rw [List.map_map]
    intro x hx y hy
    obtain ⟨p, _, rfl⟩ := List.mem_map.mp hx
    obtain ⟨q, _, rfl⟩ := List.mem_map.mp hy
    exact alike_tn p.2 q.2
  · rw [List.map_map]
    refine .inl fun x hx => ?_
    obtain ⟨p, _, rfl⟩ := List.mem_map.mp hx
    exact ⟨_, _, dataT p.2⟩
  · have em : sortB (l.map fun p => ((V.ref p.1, (KT.k p.2).data) : BD)) = refs ((sortB (l.map fun p => ((V.ref p.1, (KT.k p.2).data) : BD))).map fun v => match v with | .ref a => a | _ => 0) := by
      rw [refs, List.map_map]
      refine (List.map_id' _).symm.trans (List.map_congr_left fun v hv => ?_)
      obtain ⟨b, hb, rfl⟩ := sortB_mem hv
      obtain ⟨p, _, rfl⟩ := List.mem_map.mp hb
      rfl
    rw [em]
    refine k q _ hq ?_ fun t ht => ?_
    · rw [List.length_map, sortB_len, List.length_map, e1, List.length_map]
    · obtain ⟨v, hv, rfl⟩ := List.mem_map.mp ht
      obtain ⟨b, hb, rfl⟩ := sortB_mem hv
      obtain ⟨p, hp, rfl⟩ := List.mem_map.mp hb
      exact ⟨p.2, by rw [e2]; exact List.mem_map.mpr ⟨p, hp, rfl⟩, e3 p hp⟩
section
variable {P : Program} {w : World} {K : PySem.W.Frag} {mg : Str → Option Value} {base : Heap}
theorem r_unf {H : Hp} {Q : VK} {E : XK} {f a : Addr} {F : FoldD} {st : List Nat} (hF : FoldAt K H f F) (ha : TN H a st) (ok : FOk F st.length) (hn : F.nums.length ≤ 700) (k : ∀ H' q st', Same H H' → TN H' q st' → Q (.ref q) H') : sp_unf K ([.ref f, .ref a] ++ []) H Q E := ⟨f, a, F, st, rfl, hF, ha, ok, hn, k⟩
theorem sc_Contest_rows_of_theirs : FnScope ["self", "rows", "here", "steps", "good", "each", "pour", "after"] ["self"] (defScope s_Contest_rows_of_theirs) := ⟨rfl, rfl, rfl, by decide +kernel, rfl, by decide +kernel, by decide +kernel⟩
def sp_rot (K : PySem.W.Frag) (w : World) : Sp := fun vs H Q _ => ∃ (x : Addr) (F : FoldD) (wd : WishD) (P : Nat → List (Nat × Nat)) (n : Nat) (fA pT sA eA gA rA p0 p1 : Addr) (pas0 pas1 : List Addr) (g ge gf : List (Tn × V)), vs = [.ref x] ∧ CtAt K w H x F wd P n fA pT sA eA gA rA p0 p1 pas0 pas1 g ge gf ∧ F.nums.length ≤ 700 ∧ ∀ H' v, Same H H' → Q v H'
theorem ok_rows_of_theirs (T : TX K mg) : C8.Met P w K mg base 2 (He.ga K "Contest") "rows_of_theirs" (sp_rot K w) [] := by
  have c_unfold_state := ok_unfold_state (P := P) (w := w) (base := base) T
  obtain ⟨fd, F⟩ := T.F_Contest_rows_of_theirs
  refine ⟨_, fd, ["self"], [], T.k_Contest, T.t_Contest_rows_of_theirs, ?_, (F.bindsN (fun _ _ _ _ _ _ us hl => match us, hl with | [_], _ => rfl)), .nil⟩
  refine F.ok sc_Contest_rows_of_theirs (fun vs H Q E h => ?_) (fun cdv A outer s H vs Q E hr h => ?_)
  · obtain ⟨x, F, wd, P, n, fA, pT, sA, eA, gA, rA, p0, p1, pas0, pas1, g, ge, gf, rfl, _⟩ := h
    rfl
  · obtain ⟨x, F, wd, Pp, n, fA, pT, sA, eA, gA, rA, p0, p1, pas0, pas1, g, ge, gf, rfl, C, hnl, k⟩ := h
    obtain ⟨dx, du, hx⟩ := C.at_
    have hgl := C.PL.gl
    have hpT := C.pt
    have hp1 := C.pl1
    obtain ⟨gxs, gep, hgd, hgxl, hgxg⟩ := walk_G C.PL.gd
    refine ⟨_, PSs.nox (pss_cons (ps_set (i := 1) sc_Contest_rows_of_theirs.nd rfl (.inl rfl) (pe_lst pa_nil))
      (pss_cons (ps_for PassesOwn.never rfl (pi_list' K rfl (pe_callB (cr_sortBD' K rfl hr.units) (by rfl) T.f_sorted (by decide +kernel) (pa_cons (pe_lc (own := [("each", 5)]) (g := gName 5) (by rfl) sc_Contest_rows_of_theirs.nd (pi_N' w rfl (pe_fld' K rfl (pv 0) rfl)) (blkOk_by (own := [("each", 5)]) (N := ["self", "rows", "here", "steps", "good", "each", "pour", "after"]) (sc := defScope s_Contest_rows_of_theirs) (by decide +kernel)) (fun _ _ _ _ _ => (pg_name (i := 5) sc_Contest_rows_of_theirs.nd rfl (.inl rfl))) (fun _ _ _ _ _ => (pts_one (PW.pt (pw_and (pt_cmpR op_eq (pe_ix (ix_tup' K rfl) (pv 5) pe_int (fun _ _ => rfl)) pe_int (nomark _)) (pw_and1 (pt_cmpR (op_notInN' w rfl hr.units) (pv 5) (pe_fld' K rfl (pv 0) rfl) (by rfl))))))) (fun _ _ _ _ _ => (pv 5))) pa_nil))) (pg_name (i := 2) sc_Contest_rows_of_theirs.nd rfl (.inl rfl)) (pss_cons (ps_set (i := 3) sc_Contest_rows_of_theirs.nd rfl (.inl rfl) (pe_zipv (K := K) rfl (by rfl) T.f_zip (pa_cons (pe_ix (ix_tup' K rfl) (pe_fld' K rfl (pv 0) rfl) pe_int (fun _ _ => rfl)) (pa_cons (pe_nget' w rfl hr.units (pe_fld' K rfl (pv 0) rfl) (pv 2) (fun _ _ => rfl)) pa_nil))))
      (pss_cons (ps_setLc (i := 4) (own := [("pour", 6), ("after", 7)]) (by rfl) sc_Contest_rows_of_theirs.nd rfl rfl (sw_true rfl rfl rfl (by decide +kernel)) (pi_zipv (K := K) (k := 3) rfl rfl (.inl rfl)) (blkOk_by (own := [("pour", 6), ("after", 7)]) (N := ["self", "rows", "here", "steps", "good", "each", "pour", "after"]) (sc := defScope s_Contest_rows_of_theirs) (by decide +kernel)) (fun _ _ _ _ _ => (pg_tup' (n := 2) K rfl (by rfl) (pgs_cons (pg_name (i := 6) sc_Contest_rows_of_theirs.nd rfl (.inl rfl)) (pgs_cons (pg_name (i := 7) sc_Contest_rows_of_theirs.nd rfl (.inl rfl)) pgs_nil)) (by rfl))) (fun _ _ _ _ _ => (pts_one (pt_cmpR (op_notInN' w rfl hr.units) (pv 7) (pe_fld' K rfl (pv 0) rfl) (by rfl)))) (fun _ _ _ _ _ => (pv 6)))
      (pss_one (ps_if (pt_tru' K rfl (pv 4) (by intro _; rfl)) (pss_one (ps_expr (pe_bm' K rfl PySem.F.plainAttrs_list PySem.F.slot_list_append PySem.F.type_list_append mt_append (pv 1) (pa_cons (pe_tup (pa_cons (C8.pe_c (c_unfold_state) hr (by omega) (by rfl) (pa_cons (pe_fld' K rfl (pv 0) rfl) (pa_cons (pe_ix (ix_tup' K rfl) (pv 2) pe_int (fun _ _ => rfl)) pa_nil))) (pa_cons pe_non (pa_cons (pe_ix (ix_list' K rfl) (pv 4) pe_int (fun _ _ => rfl)) pa_nil)))) pa_nil)))) pss_nil)))))
      (pss_one (ps_ret (pe_callTy (call_tupleK' K rfl) (by rfl) T.f_tuple (by decide +kernel) (pa_cons (pv 1) pa_nil)))))), ?_⟩
    try dsimp only [cxOf]
    walk_at "WK"
    intro wA hwA
    have s1 := same_new hwA (o := .lst [])
    have hw1 : upd H wA (.lst []) wA = some (.lst []) := upd_same
    generalize upd H wA (.lst []) = H1 at s1 hw1 ⊢
    have hx1 := s1 _ _ hx
    have hgd1 := hgd.same s1
    walk_at "WK"
    refine r_ink hgd1 ?_
    let fq : Tn → Bool := fun k => decide (k.2 = 1) && !decide (k ∈ ge.map (·.1))
    refine lc_N (fun D i H' => Same H1 H' ∧ H1 D = none ∧ ∃ fas, H' D = some (.lst (refs fas)) ∧ All2 (fun a k => TT2 H' a k) fas (((g.map (·.1)).take i).filter fq)) (fun D hD => ⟨same_new hD, hD, [], upd_same, .nil⟩) (fun D i H' _ h => hgd1.same h.1) ?_ ?_
    · rintro D i z H4 hz ⟨s4, nD, fas, hD, hA⟩
      have hi := (List.getElem?_eq_some_iff.mp hz).1
      obtain ⟨⟨kk, v⟩, hp⟩ := getElem?_of_lt (ls := g) (i := i) (by omega)
      obtain ⟨z', hz', hz1, hz2⟩ := hgxg hp
      rw [hz] at hz'
      cases hz'
      have hks : (g.map (·.1))[i]? = some kk := by rw [List.getElem?_map, hp]; rfl
      have s14 := s1.trans s4
      have hT := (GD.keyT hgd (List.mem_of_getElem? hz) hz1).ext s14
      obtain ⟨kst, hkt, hks2⟩ := id hT
      have e1 : atI [V.ref kst, V.int (kk.2 : Int)] 1 = some (V.int (kk.2 : Int)) := atI_nat (j := 1) rfl
      have tk : ((g.map (·.1)).take (i + 1)).filter fq = ((g.map (·.1)).take i).filter fq ++ (if fq kk = true then [kk] else []) := by
        rw [List.take_add_one, hks, List.filter_append]
        simp [List.filter_cons]
      have hfl : fas.length ≤ g.length := by
        rw [hA.len]
        refine Nat.le_trans (List.length_filter_le _ _) ?_
        rw [List.length_take, List.length_map]
        omega
      have skip : fq kk = false → Same H1 H4 ∧ H1 D = none ∧ ∃ fas, H4 D = some (.lst (refs fas)) ∧ All2 (fun a k => TT2 H4 a k) fas (((g.map (·.1)).take (i + 1)).filter fq) := fun hq => ⟨s4, nD, fas, hD, by rw [tk, if_neg (by rw [hq]; exact fun z => Bool.noConfusion z), List.append_nil]; exact hA⟩
      have hx4 := s14 _ _ hx
      walk_at "WK"
      by_cases hk2 : kk.2 = 1
      · refine r_ifT2 (by rw [hk2]; exact decide_eq_true rfl) ?_
        walk_at "WK"
        refine r_ninG (C.PL.ed.same s14) (rp_tn hT) ?_
        by_cases hin : kk ∈ ge.map (·.1)
        · rw [valV_in hin]
          walk_at "WK"
          exact skip (by show (_ && !decide _) = false; rw [decide_eq_true hin]; simp)
        · rw [valV_nin hin]
          have hfk : fq kk = true := by show (_ && !decide _) = true; rw [decide_eq_false hin, hk2]; rfl
          walk_at "WK"
          refine r_eltk hD (lt_szM (by rw [List.length_map]; omega)) ?_
          have tD : TupSame H4 (upd H4 D (.lst (refs fas ++ [.ref z.2.1]))) := TupSame.mut fun vs e => by rw [hD] at e; cases e
          exact ⟨same_of s4 nD, nD, fas ++ [z.2.1], by rw [upd_same]; simp [refs], by rw [tk, if_pos hfk]; exact All2.snoc (hA.imp fun a k r => r.extT tD) (hT.extT tD)⟩
      · refine r_ifF2 (decide_eq_false fun z => hk2 (by have := V.int.inj z; omega)) ?_
        walk_at "WK"
        exact skip (by show (decide _ && _) = false; rw [decide_eq_false hk2]; rfl)
    · rintro LB H2 ⟨s2, nLB, fas, hLB, hA⟩
      rw [hgxl, List.take_of_length_le (by rw [List.length_map]; exact Nat.le_refl _)] at hA
      have hal := hA.len
      have hfll : ((g.map (·.1)).filter fq).length ≤ g.length := by
        have := List.length_filter_le fq (g.map (·.1))
        rw [List.length_map] at this
        exact this
      have hmem : ∀ k ∈ (g.map (·.1)).filter fq, k ∈ g.map (·.1) := fun k hk => (List.mem_filter.mp hk).1
      generalize (g.map (·.1)).filter fq = frT at hA hal hfll hmem
      walk_at "WK"
      refine r_sortTn hLB hA fun q ts hq hql hqt => ?_
      have sq := same_new hq (o := .lst (refs ts))
      have s3 := s2.trans sq
      have hq3 : upd H2 q (.lst (refs ts)) q = some (.lst (refs ts)) := upd_same
      have hqt3 : ∀ t ∈ ts, ∃ k ∈ g.map (·.1), TT2 (upd H2 q (.lst (refs ts))) t k := fun t ht => by
        obtain ⟨k, hk, z⟩ := hqt t ht
        exact ⟨k, hmem k hk, z.ext sq⟩
      have hw3 := s3 _ _ hw1
      have s03 := s1.trans s3
      have nwH : H wA = none := hwA
      generalize upd H2 q (.lst (refs ts)) = H3 at s3 hq3 hqt3 hw3 s03 ⊢
      walk_at "WK"
      refine for_L (xs := refs ts) (fun i σ H' => ∃ y2 y3 y4 us, σ = [some (.ref x), some (.ref wA), y2, y3, y4, none, none, none] ∧ Same H H' ∧ H' q = some (.lst (refs ts)) ∧ (∀ t ∈ ts, ∃ k ∈ g.map (·.1), TT2 H' t k) ∧ H' wA = some (.lst us) ∧ us.length ≤ i)
        ⟨_, _, _, [], rfl, s03, hq3, hqt3, hw3, Nat.le_refl _⟩ (fun i σ H' _ h => by obtain ⟨_, _, _, _, _, _, h, _⟩ := h; exact h) ?_ ?_
      · rintro i y σ H4 hy ⟨y2, y3, y4, us, rfl, s4, hq4, hqt4, hw4, hul⟩
        obtain ⟨t, ht, rfl⟩ := refs_inv hy
        have hi := (List.getElem?_eq_some_iff.mp ht).1
        obtain ⟨kk, hkk, hT⟩ := hqt4 t (List.mem_of_getElem? ht)
        obtain ⟨L, las, hv, hL, hLA, hl16, _⟩ := (C.PL.ext s4).succ hkk
        obtain ⟨kst, hkt, hks2⟩ := id hT
        have hx4 := s4 _ _ hx
        have hpT4 := s4 _ _ hpT
        have hp14 := s4 _ _ hp1
        have e1 : atI [V.ref p0, V.ref p1] 1 = some (V.ref p1) := atI_nat (j := 1) rfl
        have e0 : atI [V.ref kst, V.int (kk.2 : Int)] 0 = some (V.ref kst) := atI_nat (j := 0) rfl
        walk_at "WK"
        refine r_ngetG (C.PL.gd.same s4) (rp_tn hT) hv ?_
        walk_at "WK"
        refine r_zipk hp14 hL fun z hz1 hz2 hz3 hz4 => ?_
        walk_at "WK"
        refine ⟨z, p1, L, H4, _, _, rfl, rfl, hz1, hz2, hz3, hz4, .of hp14, .of hL, ?_⟩
        refine lc_J (walk_zip (n := min (refs pas1).length (refs las).length) rfl) (fun D i H' => Same H4 H' ∧ H4 D = none ∧ ∃ gs, H' D = some (.lst gs) ∧ gs.length ≤ i) (fun D hD => ⟨same_new hD, hD, [], upd_same, Nat.le_refl _⟩) (fun D i H' _ h => ⟨.of (h.1 _ _ hp14), .of (h.1 _ _ hL)⟩) ?_ ?_
        · rintro D j y H5 H6 hj ⟨s5, nD, gs, hD, hgs⟩ ⟨T1, x1, x2, rfl, hT1, rfl, e1, e2⟩
          obtain ⟨pa, hpa, rfl⟩ := refs_inv e1
          obtain ⟨aa, haa, rfl⟩ := refs_inv e2
          obtain ⟨s', hs', hsT⟩ := hLA.getL haa
          have sT := same_new hT1 (o := .tup [.ref pa, .ref aa])
          have s6 := s5.trans sT
          have hT2 : upd H5 T1 (.tup [.ref pa, .ref aa]) T1 = some (.tup [.ref pa, .ref aa]) := upd_same
          have hD6 := sT _ _ hD
          generalize upd H5 T1 (.tup [.ref pa, .ref aa]) = H6 at s6 hT2 hD6 ⊢
          have s46 := s4.trans s6
          have hx6 := s46 _ _ hx
          have hjl : j ≤ 16 := by
            have := (List.getElem?_eq_some_iff.mp haa).1
            omega
          walk_at "WK"
          refine r_ninG (C.fd.same s46) (rp_tn (hsT.ext s6)) ?_
          cases (valV gf s').isSome with
          | true =>
            walk_at "WK"
            exact ⟨s6, nD, gs, hD6, by omega⟩
          | false =>
            walk_at "WK"
            refine r_eltk hD6 (lt_sz (by omega)) ?_
            exact ⟨same_of s6 nD, nD, _, upd_same, by rw [List.length_append, List.length_singleton]; omega⟩
        · rintro D H5 ⟨s5, nD, gs, hD, hgs⟩
          have s45 := s4.trans s5
          have hw5 := s5 _ _ hw4
          have hx5 := s45 _ _ hx
          have hT5 := hT.ext s5
          have hkt5 := s5 _ _ hkt
          walk_at "WK"
          cases gs with
          | nil =>
            walk_at "WK"
            exact ⟨_, _, _, us, rfl, s45, s5 _ _ hq4, fun t ht => by obtain ⟨k, h1, h2⟩ := hqt4 t ht; exact ⟨k, h1, h2.ext s5⟩, hw5, by omega⟩
          | cons g0 gr =>
            have eg : atI (g0 :: gr) 0 = some g0 := atI_nat (j := 0) rfl
            have stl : kk.1.length = n := by
              obtain ⟨p, hp, e⟩ := List.mem_map.mp hkk
              rw [← e]
              exact (C.PL.gp p hp).1
            walk_at "WK"
            refine r_unf (C.fold.ext s45) (s5 _ _ hks2) (by rw [stl]; exact C.ok) hnl fun H6 u st' s6 hu => ?_
            have hD6 := s6 _ _ hD
            have hw6 := s6 _ _ hw5
            walk_at "WK"
            intro t2 ht2
            have sT := same_new ht2 (o := .tup [.ref u, .non, g0])
            have hw7 := sT _ _ hw6
            walk_at "WK"
            refine r_append hw7 (lt_szM (by omega)) ?_
            have s47 := s45.trans (s6.trans sT)
            have s57 := s5.trans (s6.trans sT)
            have tW : TupSame (upd H6 t2 (.tup [.ref u, .non, g0])) (upd (upd H6 t2 (.tup [.ref u, .non, g0])) wA (.lst (us ++ [.ref t2]))) := TupSame.mut fun vs e => by rw [hw7] at e; cases e
            have nqw : q ≠ wA := fun z => by
              rw [z] at hq4
              exact ne_of_none (s2 _ _ hw1) hq z.symm
            exact ⟨_, _, _, _, rfl, same_of s47 nwH, (upd_ne nqw).trans (s57 _ _ hq4), fun t ht => by obtain ⟨k, h1, h2⟩ := hqt4 t ht; exact ⟨k, h1, (h2.ext s57).extT tW⟩, upd_same, by rw [List.length_append, List.length_singleton]; omega⟩
      · rintro σ H4 ⟨y2, y3, y4, us, rfl, s4, hq4, hqt4, hw4, hul⟩
        walk_at "WK"
        intro t ht
        exact k _ _ (s4.trans (same_new ht))
end
end G6
end
section
set_option maxHeartbeats 4000000
set_option Elab.async false
set_option linter.all false
set_option maxRecDepth 100000
namespace G6
open PySem PySem.Spec PyProof.Rows L2 PySem.W
section
variable {P : Program} {w : World} {K : PySem.W.Frag} {mg : Str → Option Value} {base : Heap}
def sp_unf2 (K : PySem.W.Frag) : Sp := fun vs H Q _ => ∃ (f a : Addr) (F : FoldD) (st : List Nat), vs = [.ref f, .ref a] ∧ FoldAt K H f F ∧ TN H a st ∧ FOk F st.length ∧ F.nums.length ≤ 700 ∧ ∀ H' q st', Same H H' → TN H' q st' → st'.length = F.nums.length → Q (.ref q) H'
theorem ok_unfold_state2 (T : TX K mg) : C8.Cal P w K mg base 1 "unfold_state" (sp_unf2 K) [] := by
  obtain ⟨fd, F⟩ := T.F_unfold_state
  refine ⟨_, fd, ["folding", "state"], [], ?_, T.g_unfold_state, F.kp, (F.bindsN (fun _ _ _ _ _ _ us hl => match us, hl with | [_, _], _ => rfl)), .nil⟩
  refine F.ok sc_unfold_state (fun vs H Q E h => ?_) (fun cdv A outer s H vs Q E hr h => ?_)
  · obtain ⟨f, a, F, st, rfl, _⟩ := h
    rfl
  · obtain ⟨f, a, F, st, rfl, hF, ha, ok, hn, k⟩ := h
    obtain ⟨dx, nA, nrA, hoA, huA, h1, h2, h3, h4, h5⟩ := id hF
    refine ⟨_, PSs.nox (pss_one (ps_ret (pe_callTy (call_tupleK' K rfl) (by rfl) T.f_tuple (by decide +kernel) (pa_cons (pe_lc (own := [("number", 2)]) (g := gName 2) (by rfl) sc_unfold_state.nd (pi_tup' K rfl (pe_fld' K rfl (pv 0) rfl)) (blkOk_by (own := [("number", 2)]) (N := ["folding", "state", "number"]) (sc := defScope s_unfold_state) (by decide +kernel)) (fun _ _ _ _ _ => (pg_name (i := 2) sc_unfold_state.nd rfl (.inl rfl))) (fun _ _ _ _ _ => pts_nil) (fun _ _ _ _ _ => (pe_ix (ix_tup' K rfl) (pv 1) (pv 2) (fun _ _ => rfl)))) pa_nil)))), ?_⟩
    try dsimp only [cxOf]
    walk_at "WK"
    refine lc_T (xs := vN F.nums) (fun D i H' => Same H H' ∧ H D = none ∧ ∃ ns, ns.length = i ∧ LN H' D ns) (fun D hD => ⟨same_new hD, hD, [], rfl, upd_same⟩) (fun D i H' _ h => h.1 _ _ h2) ?_ ?_
    · rintro D i y H' hy ⟨s3, nD, ns, hl, g⟩
      obtain ⟨v, hv, rfl⟩ := vN_inv hy
      obtain ⟨c, hc⟩ := getElem?_of_lt (ls := st) (i := v) (ok.nu v (List.mem_of_getElem? hv))
      have ha' := s3 _ _ ha
      have hi := (List.getElem?_eq_some_iff.mp hv).1
      walk_at "WK"
      refine r_eltk g (lt_sz (by rw [vN_len]; omega)) ?_
      exact ⟨same_of s3 nD, nD, ns ++ [c], by rw [List.length_append, hl]; rfl, by rw [vN_app]; exact upd_same⟩
    · rintro D H2 ⟨s3, nD, ns, hl, g⟩
      walk_at "WK"
      intro q hq
      exact k _ _ _ (same_of s3 (s3.free hq)) upd_same (by rw [hl, vN_len])
theorem r_unf2 {K : PySem.W.Frag} {H : Hp} {Q : VK} {E : XK} {f a : Addr} {F : FoldD} {st : List Nat} (hF : FoldAt K H f F) (ha : TN H a st) (ok : FOk F st.length) (hn : F.nums.length ≤ 700) (k : ∀ H' q st', Same H H' → TN H' q st' → st'.length = F.nums.length → Q (.ref q) H') : sp_unf2 K ([.ref f, .ref a] ++ []) H Q E := ⟨f, a, F, st, rfl, hF, ha, ok, hn, k⟩
end
end G6
end
section
set_option maxHeartbeats 4000000
set_option Elab.async false
set_option linter.all false
set_option maxRecDepth 100000
set_option maxHeartbeats 2000000
namespace J0
open PySem PySem.Spec PyProof.Rows L2 PySem.W
abbrev scRow : Scope → Prop := fun scope => scope.kind = .function ∧ scope.isCoroutine = false ∧ scope.isGenerator = false ∧ scope.names = [(("row" : Str), NameKind.local)]
/-- a turn of key=lambda row: row[0] -/
theorem turn_first {prog : Program} {w : World} {A : Around} {s : Shared} {qual : Str} {params : Arguments} {scope : Scope} {pm ctv x : Value} {f c' t : Addr} {its : List Value} {d : PyData} {i : Nat} {p1 p2 p3 : Pos}
    (hA : A.depth < recursionLimit) (hf : s.heap.get? f = some (kla_obj "<lambda>" qual params (.Subscript (.Name "row" p1) (.Constant (.int 0) i p2) p3) scope [] pm c' ctv)) (hc : s.heap.CodeRec (.ref c') qual) (hl : s.heap.NoLimit)
    (hs : scRow scope) (hb : ∀ u, bindArgs (kla_fn "<lambda>" qual params (.Subscript (.Name "row" p1) (.Constant (.int 0) i p2) p3) scope [] pm (.ref c') ctv) ⟨[u], []⟩ = pure [(("row" : Str), u)])
    (ht : IsTup s.heap t its.toArray) (hx : its[0]? = some x) (hr : PySem.Reads s.heap x d []) :
    wpAny (model prog w) A (call (.ref f) [.ref t]) (KeyPure d s) (fun _ _ => False) s := by
  obtain ⟨k1, k2, k3, k4⟩ := hs
  refine wpAny_call (kla_callFunE hA hf rfl k2 k3 rfl hc ?_)
  rw [hb]
  refine wpAny_pure (wpAny_newFunctionEnv (fun y hy => by rw [k4] at hy; simp at hy; rw [hy]; simp) (fun y hy => by simp at hy; rw [hy]; show scope.names.lookup ("row" : Str) = some NameKind.local; rw [k4]; rfl) (fun h₁ hns hsb => ⟨hl.fresh _ hsb, ?_⟩) k1)
  have kp : ∀ b o, s.heap.get? b = some o → h₁.get? b = some o := fun b o e => hsb.extBut b o (Nat.ne_of_lt (Heap.lt_size e)) (Heap.get?_push_of_some _ e)
  refine kla_codeExpr ?_
  refine Subscript_ (wpAny_Name (wpAny_loadName_local (v := .ref t) k1 (show scope.names.lookup ("row" : Str) = some NameKind.local by rw [k4]; rfl) hns rfl ?_))
  refine wpAny_Constant_int ?_
  have hsz : 0 < its.toArray.size := by
    cases its with
    | nil => simp at hx
    | cons a l => simp
  have ht1 : IsTup h₁ t its.toArray := by
    obtain ⟨o, e, r⟩ := ht
    exact ⟨o, kp _ _ e, r⟩
  refine subscriptTail_builtinR (x := x) (id := _) ht1.typeIs slot_tuple_getitem.lookup (getItem_tuple (j := 0) ht1 (by decide) (by decide) ?_ (by simpa using hx) ⟨rfl, ?_⟩) (by with_unfolding_all rfl)
  · obtain ⟨j, h1, h2, h3, h4⟩ := atI_get (atI_nat (j := 0) hx)
    have e0 : seqIndex? ((0 : Nat) : Int) its.toArray.size = some 0 := by
      unfold seqIndex?
      have z : ¬ (((0 : Nat) : Int) < 0) := by omega
      simp only [if_neg z]
      rw [if_pos (by simp only [Bool.and_eq_true, decide_eq_true_eq]; omega)]
      rfl
    exact e0
  · exact ⟨_, _, rfl, kp, PyProof.Rows.Reads.keeps kp hr⟩
end J0
end
section
set_option maxHeartbeats 4000000
set_option Elab.async false
set_option linter.all false
set_option maxRecDepth 100000
set_option maxHeartbeats 2000000
namespace J1
open PySem PySem.Spec PyProof.Rows L2 PySem.W LamX G6 J0
/-- a row whose first item is the key -/
def RowK (H : Hp) (b : BD) : Prop := ∃ (r : Addr) (x0 : V) (xs : List V) (k : NestedKey), b.1 = .ref r ∧ H r = some (.tup (x0 :: xs)) ∧ Rp H k x0 ∧ b.2 = k.data ∧ k.depth ≤ 8
theorem each_imp {α : Type} {R R' : Value → α → Prop} : ∀ {bs : List α} {us : List Value}, (∀ u b, b ∈ bs → R u b → R' u b) → EachIs R us bs → EachIs R' us bs
  | [], _, _, .nil => .nil
  | b :: bs, _, h, .cons r t => .cons (h _ b List.mem_cons_self r) (each_imp (fun u b hb => h u b (List.mem_cons_of_mem _ hb)) t)
section
variable {X : Cx} {pins : List (Addr × Obj)} {σ : L2.St} {H : Hp} {s : Shared}
theorem sort_first {qual : Str} {params : Arguments} {scope : Scope} {pm ctv : Value} {f c' a : Addr} {i : Nat} {p1 p2 p3 : Pos} {bs : List BD} {Q : VK}
    (hA : X.A.depth < recursionLimit) (hu : X.A.units + 64 < cLine) (I : Inv X pins σ H s) (hf : s.heap.get? f = some (kla_obj "<lambda>" qual params (.Subscript (.Name "row" p1) (.Constant (.int 0) i p2) p3) scope [] pm c' ctv)) (hc : H c' = some (CodeO c' qual))
    (hs : scRow scope) (hb : ∀ u, bindArgs (kla_fn "<lambda>" qual params (.Subscript (.Name "row" p1) (.Constant (.int 0) i p2) p3) scope [] pm (.ref c') ctv) ⟨[u], []⟩ = pure [(("row" : Str), u)])
    (hl : SqL X.K H a (bs.map (·.1))) (hr : ∀ b ∈ bs, RowK H b) (hal : AllAlike (bs.map (·.2))) (hk : Sortable (bs.map (·.2))) (q : ∀ q o, H q = none → o.length = bs.length → Q (.ref q) (upd H q (.lst o))) :
    wpAny (model X.prog X.w) X.A (call (.builtin "sorted") [.ref a] [(Str.ofString "key", .ref f)]) (EP X pins σ Q) X.xe s := by
  obtain ⟨its, rv, pl, hz⟩ := I.list hl
  obtain ⟨⟨oc, vs, tq, hoc, hdc, hvc⟩, _, _⟩ := I.hok c' _ hc
  have e := each_imp (R' := fun (u : Value) (b : BD) => RelV b.1 u ∧ ∃ t its x, u = .ref t ∧ IsTup s.heap t (List.toArray its) ∧ its[0]? = some x ∧ PySem.Reads s.heap x b.2 []) (fun u b hb hu => ?_) (vals_each rv)
  · refine sorted_key_data (b := false) (fun b : BD => b.2) pl.isList e hal hk (by rw [List.length_map] at hz; exact hz) (fun b hm => ?_) (ksk_s1 _ _) (fun _ => ksk_l1 _ _) (fun _ => ksk_t1 _ _) (fun v b hR hm h tk kp => ?_) fun out c h' tk kp hn hD hlen eo => ?_
    · obtain ⟨r, x0, xs, k, _, _, _, h2, h3⟩ := hr b hm
      have h4 := data_depth k
      rw [h2]
      omega
    · obtain ⟨_, t, its', x, rfl, ⟨o, h1, h1'⟩, h2, h3⟩ := hR
      exact turn_first (s := { s with heap := h, toks := tk }) hA (kp _ _ hf) ⟨c', oc, vs, tq, rfl, kp _ _ hoc, hdc, hvc⟩ (I.nolimit.keeps kp) hs hb ⟨o, kp _ _ h1, h1'⟩ h2 (PyProof.Rows.Reads.keeps kp h3)
    · have ev := each_vals (each_imp (R' := fun (u : Value) (b : BD) => RelV b.1 u) (fun u b _ h => h.1) eo)
      refine ⟨.ref (s.heap.objs.size + 1), _, I.laid (o := .lst ((bs.mergeSort (dataLe false (fun b : BD => b.2))).map (·.1))) (t' := tk) kp (Nat.le_succ _) ⟨?_, out, c, ev, hD⟩, rfl, q _ _ (I.hok.fresh (Nat.le_succ _)) ?_⟩
      · rw [List.length_map, List.length_mergeSort]
        rw [List.length_map] at hz
        exact hz
      · rw [List.length_map, List.length_mergeSort]
  · obtain ⟨r, x0, xs, k, h1, h2, h3, h4, h5⟩ := hr b hb
    refine ⟨hu, ?_⟩
    rw [h1] at hu
    obtain rfl : u = .ref r := hu
    obtain ⟨its', rv', pl', _⟩ := I.tuple (a := r) (xs := x0 :: xs) (.of h2)
    cases rv' with
    | cons g gs => exact ⟨r, _, _, rfl, pl', rfl, by rw [h4]; exact Rp.reads I.hok k _ _ h3 g⟩
end
end J1
end
section
set_option maxHeartbeats 4000000
set_option Elab.async false
set_option linter.all false
set_option maxRecDepth 100000
set_option maxHeartbeats 2000000
namespace J2
open PySem PySem.Spec PyProof.Rows L2 PySem.W LamX G6 J0 J1
/-- sorted(e, key=lambda row: row[0]) -/
def tSortL (K : PySem.W.Frag) (T : List (Addr × Str)) (t : TA) : TE := fun σ H Q => t σ H fun vs H1 => Tabs T H1 ∧ ∃ (a : Addr) (bs : List BD), vs = [.ref a] ∧ H1 a = some (.lst (bs.map (·.1))) ∧ (∀ b ∈ bs, RowK H1 b) ∧ AllAlike (bs.map (·.2)) ∧ Sortable (bs.map (·.2)) ∧
  ∀ H2 q o, ExtN H1 H2 → Tabs T H2 → H2 q = none → o.length = bs.length → Q (.ref q) (upd H2 q (.lst o))
theorem RowK.extN {H H' : Hp} {b : BD} (e : ExtN H H') (h : RowK H b) : RowK H' b := by
  obtain ⟨r, x0, xs, k, h1, h2, h3, h4, h5⟩ := h
  exact ⟨r, x0, xs, k, h1, e _ _ h2 (fun ps z => by cases z), Rp.ext (fun b vs z => e b _ z (fun ps y => by cases y)) k x0 h3, h4, h5⟩
section
variable {X : Cx} {T : List (Addr × Str)} {c P : Addr} {params : Arguments} {scope : Scope} {e : Expr} {t : TA} {i : Nat} {p p1 p2 p3 lpos kpos pos : Pos}
theorem pe_sortLam (hg : Gl X "sorted") (hm : X.mg "sorted" = none) (ha : PA X [e] t) (hA : X.A.depth < recursionLimit) (hu : X.A.units + 64 < cLine) (TB : TabB X.base X.mg c P) (hcode : X.env.code = .ref c) (hmT : (P, X.env.qual ++ "<lambda>") ∈ T)
    (huT : ∀ p ∈ T, p.1 = P → p.2 = X.env.qual ++ "<lambda>") (hs : scRow scope) (hdef : defaultsOf params X.env = ([], []))
    (hb : ∀ (q : Str) (pm cv ctv u : Value), bindArgs (kla_fn "<lambda>" q params (.Subscript (.Name "row" p1) (.Constant (.int 0) i p2) p3) scope [] pm cv ctv) ⟨[u], []⟩ = pure [(("row" : Str), u)])
    (hst : backTo pos (starEach [e] X.env) = (false, eval e X.env) :: backTo pos (starEach [] X.env) := by rfl) (hpl : (backTo pos (starEach [e] X.env)).any (·.1) = false := by rfl) :
    PE X (.Call (.Name "sorted" p) [e] [⟨some "key", .Lambda params (.Subscript (.Name "row" p1) (.Constant (.int 0) i p2) p3) scope lpos, kpos⟩] pos) (tSortL X.K T t) := by
  refine ⟨fun pins s σ H Q I h => ?_⟩
  refine wpAny_Call_Name_kw (ld_blt (u := .builtin "sorted") I hg hm (by rfl) ?_ (by decide) (by decide))
  refine PyProof.Rows.callWith_kw (thn (ha.run pos pins s σ H _ I h) fun us s1 ⟨vs, H1, I1, r1, q1⟩ => ?_) hst hpl rfl rfl
  · obtain ⟨hT, a, bs, rfl, hl, hr, hal, hk, q⟩ := q1
    obtain rfl := Vals.ref1 r1
    show wpAny _ _ (evalAll [(do let v ← eval (.Lambda params (.Subscript (.Name "row" p1) (.Constant (.int 0) i p2) p3) scope lpos) X.env; standAt pos; pure v)]) _ _ s1
    refine wpAny_evalAll_cons (wpAny_bind (lam_make2 I1 TB hcode hmT huT hT hdef (fun y hy z => by rw [hs.2.2.2] at hy; simp at hy; rw [hy] at z; cases z) fun f c' pm ctv H2 s2 I2 eN T2 hf hfn hfr hc => wpAny_bind (wpAny_standAt (wpAny_pure ?_))))
    refine wpAny_evalAll_nil ?_
    have ecl : cloFrom X.env.cells scope.names [] = [] := by rw [hs.2.2.2]; rfl
    rw [ecl] at hf
    refine sort_first hA hu I2 hf hc hs (fun u => hb _ _ _ _ _) (.of (eN _ _ hl fun ps z => by cases z)) (fun b hb => RowK.extN eN (hr b hb)) hal hk fun q' o hq ho => q H2 q' o eN T2 hq ho
end
end J2
end
section
set_option maxHeartbeats 4000000
set_option Elab.async false
set_option linter.all false
set_option maxRecDepth 100000
namespace G7
open PySem PySem.Spec PyProof.Rows L2 PySem.W LamX G6 J0 J1 J2
theorem FunD_okC {P : Program} {w : World} {K : PySem.W.Frag} {mg : Str → Option Value} {base : Heap} {x qual : Str} {params : Arguments} {body : List Stmt} {scope : Scope} {dvs : List V} {kws : List (Str × V)} {f : Addr} {fd : FuncData} {CX : CXT} {N ps : List Str} {k : Nat} {sp : Sp} (F : FunD K x qual params body scope dvs kws f fd) (S : FnScope N ps scope) (len : ∀ vs H Q E, sp vs H Q E → vs.length = ps.length)
    (hbody : ∀ (cdv : Value) (A : Around) (outer : List Env) (s : Shared) (H : Hp) (vs : List V) (Q : VK) (E : XK), (∃ o, K.lookup f = some o ∧ o.data = .func fd) → fd.code = cdv → Room k (A.deeper (envOfC qual scope s.heap.objs.size f cdv)) → sp vs H Q E →
      ∃ t, PSs (cxOf CX P w K mg base N qual scope f cdv A outer s H E) body t ∧ t { nx := fun _ H' => Q .non H', rt := Q } (start N vs) H) : FnOk P w K mg base CX (k + 1) f fd ps sp := by
  obtain ⟨oc, od, dV, kV, doc, pm, an, cdv, ct, osl, rfl, lk, hcd, _, _⟩ := F.ex
  exact fn_of lk hcd S len fun A outer s H vs Q E hr hsp => hbody cdv A outer s H vs Q E ⟨_, lk, rfl⟩ rfl hr hsp
abbrev qMine : Str := ("Contest.rows_of_mine" : Str) ++ (".<locals>." : Str) ++ ("<lambda>" : Str)
/-- a key of the rank r -/
def isR (r : Nat) (p : Tn × V) : Bool := match p.2 with | .int z => decide (z = (r : Int)) | _ => false
theorem isR_int {r n : Nat} {p : Tn × V} (h : p.2 = .int (n : Int)) : isR r p = decide (n = r) := by
  unfold isR
  rw [h]
  show decide ((n : Int) = (r : Int)) = decide (n = r)
  exact decide_eq_decide.mpr ⟨fun z => by omega, fun z => by omega⟩
theorem _root_.J1.RowK.tups {H H' : Hp} {b : BD} (e : TupSame H H') (h : RowK H b) : RowK H' b := by
  obtain ⟨r, x0, xs, k, h1, h2, h3, h4, h5⟩ := h
  exact ⟨r, x0, xs, k, h1, e _ _ h2, Rp.ext e k x0 h3, h4, h5⟩
theorem rows_bs {H : Hp} : ∀ {us : List Addr}, (∀ u ∈ us, ∃ st, st ≠ [] ∧ RowK H (.ref u, (KS.k st).data)) → ∃ bs : List BD, bs.map (·.1) = refs us ∧ ∀ b ∈ bs, RowK H b ∧ ∃ st, st ≠ [] ∧ b.2 = (KS.k st).data
  | [], _ => ⟨[], rfl, fun b hb => by cases hb⟩
  | u :: us, h => by
    obtain ⟨bs, h1, h2⟩ := rows_bs (us := us) fun v hv => h v (List.mem_cons_of_mem _ hv)
    obtain ⟨st, hne, hs⟩ := h u List.mem_cons_self
    refine ⟨(.ref u, (KS.k st).data) :: bs, by rw [List.map_cons, h1]; rfl, fun b hb => ?_⟩
    rcases List.mem_cons.mp hb with e | e
    · rw [e]
      exact ⟨hs, st, hne, rfl⟩
    · exact h2 b e
/-- a turn of the rank r + 1 has a good pour -/
theorem good_ex {K : PySem.W.Frag} {w : World} {H : Hp} {x : Addr} {F : FoldD} {wd : WishD} {P : Nat → List (Nat × Nat)} {n : Nat} {fA pT sA eA gA rA p0 p1 : Addr} {pas0 pas1 : List Addr} {g ge gf : List (Tn × V)} {gl : List (Tn × V)} {kk : Tn} {r : Nat}
    (C : CtAt K w H x F wd P n fA pT sA eA gA rA p0 p1 pas0 pas1 g ge gf) (hk : (kk, V.int ((r + 1 : Nat) : Int)) ∈ gf) (hl : ∀ k, k ∈ gl.map (·.1) ↔ ∃ n : Nat, n < r + 1 ∧ (k, V.int (n : Int)) ∈ gf) :
    (succT F wd P kk).length = (P 0).length ∧ ∃ l, l ∈ succT F wd P kk ∧ goodB F wd P (gl.map (·.1)) l = true := by
  have hkk : kk ∈ g.map (·.1) := C.fsub _ hk
  obtain ⟨m, hv, _, _, h0, h1⟩ := C.fv _ hk
  have hv : V.int ((r + 1 : Nat) : Int) = V.int (m : Int) := hv
  have em : m = r + 1 := by have := V.int.inj hv; omega
  subst em
  obtain ⟨s, hh⟩ := kk
  have e2 : hh = 0 := Classical.byContradiction fun z => Nat.succ_ne_zero r (h1 z)
  subst e2
  obtain ⟨hw, hmin⟩ := h0 rfl
  have hs : holds F wd s = false := by
    cases e : holds F wd s with
    | false => rfl
    | true => exact absurd e (hmin 0 (Nat.succ_pos r))
  have es : succT F wd P (s, 0) = (mvs F (P 0) s).map fun t => (t, 1) := by
    show (if holds F wd s = true then _ else _) = _
    rw [if_neg (by rw [hs]; exact fun z => Bool.noConfusion z)]
    rfl
  refine ⟨by rw [es, List.length_map, mvs, List.length_map], ?_⟩
  rcases hw with z | ⟨t, ht, z⟩
  · exact absurd z (hmin r (Nat.lt_succ_self r))
  · refine ⟨(t, 1), by rw [es]; exact List.mem_map.mpr ⟨t, ht, rfl⟩, ?_⟩
    have hkt : (t, 1) ∈ g.map (·.1) := by
      obtain ⟨p, hp, e⟩ := List.mem_map.mp hkk
      refine (C.PL.gp p hp).2.2.2 _ ?_
      rw [e, es]
      exact List.mem_map.mpr ⟨t, ht, rfl⟩
    unfold goodB
    rw [Bool.or_eq_true]
    cases e : holds F wd t with
    | true => exact .inl rfl
    | false =>
      right
      have z := z.resolve_left (by rw [e]; exact fun q => Bool.noConfusion q)
      have et : succT F wd P (t, 1) = (mvs F (P 1) t).map fun u => (u, 0) := by
        show (if holds F wd t = true then _ else _) = _
        rw [if_neg (by rw [e]; exact fun z => Bool.noConfusion z)]
        rfl
      rw [et, List.all_eq_true]
      intro k hk'
      obtain ⟨u, hu, rfl⟩ := List.mem_map.mp hk'
      have hku : (u, 0) ∈ g.map (·.1) := by
        obtain ⟨p, hp, e⟩ := List.mem_map.mp hkt
        refine (C.PL.gp p hp).2.2.2 _ ?_
        rw [e, et]
        exact hk'
      refine decide_eq_true ((hl _).mpr ?_)
      obtain ⟨p, hp, e⟩ := List.mem_map.mp ((C.fi u hku).mpr ⟨r, z u hu⟩)
      obtain ⟨q, hq, _, _, q0, _⟩ := C.fv _ hp
      obtain ⟨p1, p2⟩ := p
      have e : p1 = (u, 0) := e
      have hq : p2 = V.int (q : Int) := hq
      subst e hq
      refine ⟨q, ?_, hp⟩
      have := (q0 rfl).2 r
      rcases Nat.lt_or_ge r q with y | y
      · exact absurd (z u hu) (this y)
      · omega
section
variable {P : Program} {w : World} {K : PySem.W.Frag} {mg : Str → Option Value} {base : Heap}
theorem sc_Contest_rows_of_mine : FnScope ["self", "rows", "lesser", "layer", "rank", "here", "steps", "good", "pour", "after"] ["self"] (defScope s_Contest_rows_of_mine) := ⟨rfl, rfl, rfl, by decide +kernel, rfl, by decide +kernel, by decide +kernel⟩
def sp_rom (K : PySem.W.Frag) (w : World) (TT : List (Addr × Str)) : Sp := fun vs H Q _ => ∃ (x : Addr) (F : FoldD) (wd : WishD) (P : Nat → List (Nat × Nat)) (n : Nat) (fA pT sA eA gA rA p0 p1 : Addr) (pas0 pas1 : List Addr) (g ge gf : List (Tn × V)), vs = [.ref x] ∧ CtAt K w H x F wd P n fA pT sA eA gA rA p0 p1 pas0 pas1 g ge gf ∧ F.nums.length ≤ 700 ∧ 0 < F.nums.length ∧ Tabs TT H ∧ ∀ H' v, ExtN H H' → Tabs TT H' → Q v H'
theorem ok_rows_of_mine (T : TX K mg) {cd P0 : Addr} {TT : List (Addr × Str)} (hcd : ∀ o fd, K.lookup (He.ma K (He.ga K "Contest") "rows_of_mine") = some o → o.data = .func fd → fd.code = .ref cd) (TB : TabB base mg cd P0) (hmT : (P0, qMine) ∈ TT) (huT : ∀ p ∈ TT, p.1 = P0 → p.2 = qMine) :
    C8.Met P w K mg base 2 (He.ga K "Contest") "rows_of_mine" (sp_rom K w TT) [] := by
  have c_unfold_state := ok_unfold_state2 (P := P) (w := w) (base := base) T
  have c_m_is_good := ok_is_good (P := P) (w := w) (base := base) T
  obtain ⟨fd, F⟩ := T.F_Contest_rows_of_mine
  refine ⟨_, fd, ["self"], [], T.k_Contest, T.t_Contest_rows_of_mine, ?_, (F.bindsN (fun _ _ _ _ _ _ us hl => match us, hl with | [_], _ => rfl)), .nil⟩
  refine FunD_okC F sc_Contest_rows_of_mine (fun vs H Q E h => ?_) (fun cdv A outer s H vs Q E hlk hcode hr h => ?_)
  · obtain ⟨x, F, wd, P, n, fA, pT, sA, eA, gA, rA, p0, p1, pas0, pas1, g, ge, gf, rfl, _⟩ := h
    rfl
  · obtain ⟨x, F, wd, Pp, n, fA, pT, sA, eA, gA, rA, p0, p1, pas0, pas1, g, ge, gf, rfl, C, hnl, hnz, hTT, k⟩ := h
    obtain ⟨o, lk, od⟩ := hlk
    have ecd : cdv = .ref cd := hcode.symm.trans (hcd o _ lk od)
    obtain ⟨dx, du, hx⟩ := C.at_
    have hgl := C.PL.gl
    have hgfl : gf.length ≤ g.length := by
      have h := nodup_sub_len C.fd.nd (ys := g.map (·.1)) fun k hk => by
        obtain ⟨p, hp, rfl⟩ := List.mem_map.mp hk
        exact C.fsub p hp
      rwa [List.length_map, List.length_map] at h
    have hpT := C.pt
    have hp0 := C.pl0
    obtain ⟨gxs, gep, hfd, hfxl, hfxg⟩ := walk_G C.fd
    refine ⟨_, PSs.nox (pss_cons (ps_set (i := 1) sc_Contest_rows_of_mine.nd rfl (.inl rfl) (pe_lst pa_nil))
      (pss_cons (ps_set (i := 2) sc_Contest_rows_of_mine.nd rfl (.inr rfl) (pe_nnew' w rfl))
      (pss_cons (ps_setLc (i := 3) (own := [("here", 5)]) (g := gName 5) (by rfl) sc_Contest_rows_of_mine.nd rfl rfl (sw_true rfl rfl rfl (by decide +kernel)) (pi_N' w rfl (pe_fld' K rfl (pv 0) rfl)) (blkOk_by (own := [("here", 5)]) (N := ["self", "rows", "lesser", "layer", "rank", "here", "steps", "good", "pour", "after"]) (sc := defScope s_Contest_rows_of_mine) (by decide +kernel)) (fun _ _ _ _ _ => (pg_name (i := 5) sc_Contest_rows_of_mine.nd rfl (.inl rfl))) (fun _ _ _ _ _ => (pts_one (pt_cmpR op_eq (pe_nget' w rfl hr.units (pe_fld' K rfl (pv 0) rfl) (pv 5) (fun _ _ => rfl)) pe_int (nomark _)))) (fun _ _ _ _ _ => (pv 5)))
      (pss_cons (ps_set (i := 4) sc_Contest_rows_of_mine.nd rfl (.inr rfl) pe_int)
      (pss_cons (ps_while PassesOwn.never (pt_tru' K rfl (pv 3) (by intro _; rfl)) (pss_cons (ps_for PassesOwn.never rfl (pi_list' K rfl (pv 3)) (pg_name (i := 5) sc_Contest_rows_of_mine.nd rfl (.inl rfl)) (pss_one (ps_asg pe_bl (pg_sub (pv 2) (pv 5) (set_N' w rfl hr.units)))))
      (pss_cons (ps_aug (i := 4) sc_Contest_rows_of_mine.nd rfl (.inr rfl) pe_int ip_add)
      (pss_cons (ps_setLc (i := 3) (own := [("here", 5)]) (g := gName 5) (by rfl) sc_Contest_rows_of_mine.nd rfl rfl (sw_true rfl rfl rfl (by decide +kernel)) (pi_N' w rfl (pe_fld' K rfl (pv 0) rfl)) (blkOk_by (own := [("here", 5)]) (N := ["self", "rows", "lesser", "layer", "rank", "here", "steps", "good", "pour", "after"]) (sc := defScope s_Contest_rows_of_mine) (by decide +kernel)) (fun _ _ _ _ _ => (pg_name (i := 5) sc_Contest_rows_of_mine.nd rfl (.inl rfl))) (fun _ _ _ _ _ => (pts_one (pt_cmpR op_eq (pe_nget' w rfl hr.units (pe_fld' K rfl (pv 0) rfl) (pv 5) (fun _ _ => rfl)) (pv 4) (nomark _)))) (fun _ _ _ _ _ => (pv 5)))
      (pss_one (ps_for PassesOwn.never rfl (pi_list' K rfl (pv 3)) (pg_name (i := 5) sc_Contest_rows_of_mine.nd rfl (.inl rfl)) (pss_cons (ps_set (i := 6) sc_Contest_rows_of_mine.nd rfl (.inl rfl) (pe_zipv (K := K) rfl (by rfl) T.f_zip (pa_cons (pe_ix (ix_tup' K rfl) (pe_fld' K rfl (pv 0) rfl) pe_int (fun _ _ => rfl)) (pa_cons (pe_nget' w rfl hr.units (pe_fld' K rfl (pv 0) rfl) (pv 5) (fun _ _ => rfl)) pa_nil))))
      (pss_cons (ps_setLc (i := 7) (own := [("pour", 8), ("after", 9)]) (by rfl) sc_Contest_rows_of_mine.nd rfl rfl (sw_true rfl rfl rfl (by decide +kernel)) (pi_zipv (K := K) (k := 6) rfl rfl (.inl rfl)) (blkOk_by (own := [("pour", 8), ("after", 9)]) (N := ["self", "rows", "lesser", "layer", "rank", "here", "steps", "good", "pour", "after"]) (sc := defScope s_Contest_rows_of_mine) (by decide +kernel)) (fun _ _ _ _ _ => (pg_tup' (n := 2) K rfl (by rfl) (pgs_cons (pg_name (i := 8) sc_Contest_rows_of_mine.nd rfl (.inl rfl)) (pgs_cons (pg_name (i := 9) sc_Contest_rows_of_mine.nd rfl (.inl rfl)) pgs_nil)) (by rfl))) (fun _ _ _ _ _ => (pts_one (pt_val (C8.pe_mt (c_m_is_good) hr (by omega) (pv 0) (pa_cons (pv 9) (pa_cons (pv 2) pa_nil)))))) (fun _ _ _ _ _ => (pv 8)))
      (pss_one (ps_expr (pe_bm' K rfl PySem.F.plainAttrs_list PySem.F.slot_list_append PySem.F.type_list_append mt_append (pv 1) (pa_cons (pe_tup (pa_cons (C8.pe_c (c_unfold_state) hr (by omega) (by rfl) (pa_cons (pe_fld' K rfl (pv 0) rfl) (pa_cons (pe_ix (ix_tup' K rfl) (pv 5) pe_int (fun _ _ => rfl)) pa_nil))) (pa_cons (pv 4) (pa_cons (pe_ix (ix_list' K rfl) (pv 7) pe_int (fun _ _ => rfl)) pa_nil)))) pa_nil))))))))))))
      (pss_one (ps_ret (pe_callTy (call_tupleK' K rfl) (by rfl) T.f_tuple (by decide +kernel) (pa_cons (pe_sortLam (X := (cxOf C8.CX0 P w K mg base _ _ _ _ cdv A outer s H E).nox) (T := TT) (by rfl) T.f_sorted (pa_cons (pv 1) pa_nil) (by have := hr.dp; show (A.deeper _).depth < _; omega) hr.units TB ecd hmT huT ⟨rfl, rfl, rfl, rfl⟩ rfl (fun _ _ _ _ _ => rfl)) pa_nil))))))))), ?_⟩
    try dsimp only [cxOf]
    walk_at "WK"
    intro wA hwA
    have s1 := same_new hwA (o := .lst [])
    have hw1 : upd H wA (.lst []) wA = some (.lst []) := upd_same
    generalize upd H wA (.lst []) = H1 at s1 hw1 ⊢
    have hx1 := s1 _ _ hx
    have hfd1 := hfd.same s1
    walk_at "WK"
    intro dA hdA hd0
    have s2 := s1.trans (same_new hdA (o := dN w dA [] 0))
    have hw2 := (same_new hdA (o := dN w dA [] 0)) _ _ hw1
    have gd2 : GD w KT (upd H1 dA (dN w dA [] 0)) dA [] := GD.nil hd0
    have ndw : dA ≠ wA := fun z => by rw [z, hw1] at hdA; cases hdA
    have nd0 : H dA = none := s1.free hdA
    generalize upd H1 dA (dN w dA [] 0) = H2 at s2 hw2 gd2 ⊢
    have hx2 := s2 _ _ hx
    have hfd2 := hfd.same s2
    walk_at "WK"
    refine r_ink hfd2 ?_
    refine lc_N (fun D i H' => Same H2 H' ∧ H2 D = none ∧ ∃ fas, H' D = some (.lst (refs fas)) ∧ All2 (fun a k => TT2 H' a k) fas (((gf.take i).filter (isR 0)).map (·.1))) (fun D hD => ⟨same_new hD, hD, [], upd_same, .nil⟩) (fun D i H' _ h => hfd2.same h.1) ?_ ?_
    · rintro D i z H4 hz ⟨s4, nD, fas, hD, hA⟩
      have hi := (List.getElem?_eq_some_iff.mp hz).1
      obtain ⟨⟨kk, v⟩, hp⟩ := getElem?_of_lt (ls := gf) (i := i) (by omega)
      obtain ⟨z', hz', hz1, hz2⟩ := hfxg hp
      rw [hz] at hz'
      cases hz'
      obtain ⟨nv, hv, _⟩ := C.fv _ (List.mem_of_getElem? hp)
      have hv : v = .int (nv : Int) := hv
      subst hv
      have s14 := s2.trans s4
      have hT := (GD.keyT hfd (List.mem_of_getElem? hz) hz1).ext s14
      have hx4 := s14 _ _ hx
      have tk : ((gf.take (i + 1)).filter (isR 0)).map (·.1) = ((gf.take i).filter (isR 0)).map (·.1) ++ (if isR 0 (kk, V.int (nv : Int)) = true then [kk] else []) := by
        rw [List.take_add_one, hp, List.filter_append, List.map_append]
        congr 1
        cases e : isR 0 (kk, V.int (nv : Int)) <;> simp [List.filter_cons, e]
      walk_at "WK"
      refine r_ngetG (C.fd.same s14) (rp_tn hT) (valV_get C.fd.nd hp) ?_
      walk_at "WK"
      by_cases h0 : nv = 0
      · have er : isR 0 (kk, V.int (nv : Int)) = true := (isR_int rfl).trans (decide_eq_true h0)
        refine r_ifT2 (by rw [h0]; exact decide_eq_true rfl) ?_
        have hfl : fas.length ≤ gf.length := by
          rw [hA.len, List.length_map]
          refine Nat.le_trans (List.length_filter_le _ _) ?_
          rw [List.length_take]
          omega
        walk_at "WK"
        refine r_eltk hD (lt_szM (by rw [List.length_map]; omega)) ?_
        have tD : TupSame H4 (upd H4 D (.lst (refs fas ++ [.ref z.2.1]))) := TupSame.mut fun vs e => by rw [hD] at e; cases e
        exact ⟨same_of s4 nD, nD, fas ++ [z.2.1], by rw [upd_same]; simp [refs], by rw [tk, if_pos er]; exact All2.snoc (hA.imp fun a k r => r.extT tD) (hT.extT tD)⟩
      · have er : isR 0 (kk, V.int (nv : Int)) = false := (isR_int rfl).trans (decide_eq_false h0)
        refine r_ifF2 (decide_eq_false fun z => h0 (by have := V.int.inj z; omega)) ?_
        exact ⟨s4, nD, fas, hD, by rw [tk, if_neg (by rw [er]; exact fun z => Bool.noConfusion z), List.append_nil]; exact hA⟩
    · rintro LB H3 ⟨s3, nLB, fas, hLB, hA⟩
      rw [hfxl, List.take_length] at hA
      have s03 := s2.trans s3
      have hw3 := s3 _ _ hw2
      have gd3 := gd2.same s3
      walk_at "WK"
      refine wh_L (fun m σ H' => ∃ (r : Nat) (LB : Addr) (fas us : List Addr) (gl : List (Tn × V)) (y5 y6 y7 y8 y9 : Option V), σ = [some (.ref x), some (.ref wA), some (.ref dA), some (.ref LB), some (.int (r : Int)), y5, y6, y7, y8, y9] ∧ Same H H' ∧ H' LB = some (.lst (refs fas)) ∧ All2 (fun a k => TT2 H' a k) fas ((gf.filter (isR r)).map (·.1)) ∧ GD w KT H' dA gl ∧ (∀ k, k ∈ gl.map (·.1) ↔ ∃ n : Nat, n < r ∧ (k, V.int (n : Int)) ∈ gf) ∧ H' wA = some (.lst (refs us)) ∧ us.length ≤ gl.length + fas.length ∧ (∀ u ∈ us, ∃ st, st ≠ [] ∧ RowK H' (.ref u, (KS.k st).data)) ∧ r + m = 2001) (m := 2001)
        ⟨0, LB, fas, [], [], _, _, _, _, _, rfl, s03, hLB, hA, gd3, (fun k => ⟨fun z => (by simp at z), fun ⟨n, z, _⟩ => absurd z (Nat.not_lt_zero _)⟩), hw3, Nat.zero_le _, (fun u hu => (by simp at hu)), (by omega)⟩ ?_ ?_ ?_
      · rintro m σ H' ⟨r, LB, fas, us, gl, y5, y6, y7, y8, y9, rfl, s4, hL4, _⟩
        exact ⟨LB, refs fas, rfl, hL4⟩
      · rintro m σ H4 rr yy ys ⟨r, LB, fas, us, gl, y5, y6, y7, y8, y9, rfl, s4, hL4, hA4, gd4, hgk, hw4, hul, hro, em⟩ hrr hys
        cases hrr
        have hx4 := s4 _ _ hx
        have hfl : fas.length ≤ gf.length := by
          rw [hA4.len, List.length_map]
          exact List.length_filter_le _ _
        have hfrm : ∀ k, k ∈ (gf.filter (isR r)).map (·.1) ↔ (k, V.int (r : Int)) ∈ gf := fun k => by
          refine ⟨fun z => ?_, fun z => List.mem_map.mpr ⟨_, List.mem_filter.mpr ⟨z, (isR_int rfl).trans (decide_eq_true rfl)⟩, rfl⟩⟩
          obtain ⟨p, hp, rfl⟩ := List.mem_map.mp z
          obtain ⟨h1, h2⟩ := List.mem_filter.mp hp
          obtain ⟨nv, hv, _⟩ := C.fv _ h1
          rw [isR_int hv] at h2
          have e := of_decide_eq_true h2
          rw [← e, ← hv]
          exact h1
        have hfrn : ((gf.filter (isR r)).map (·.1)).Nodup := C.fd.nd.sublist (List.filter_sublist.map _)
        have hfrl : ((gf.filter (isR r)).map (·.1)).length = fas.length := hA4.len.symm
        have hfdj : ∀ k ∈ (gf.filter (isR r)).map (·.1), k ∉ gl.map (·.1) := fun k hk hk2 => by
          obtain ⟨n2, h1, h2⟩ := (hgk k).mp hk2
          have h3 := (hfrm k).mp hk
          obtain ⟨i, hi⟩ := List.getElem?_of_mem h2
          obtain ⟨j, hj⟩ := List.getElem?_of_mem h3
          have e1 := valV_get C.fd.nd hi
          rw [valV_get C.fd.nd hj] at e1
          have := V.int.inj (Option.some.inj e1)
          omega
        generalize (gf.filter (isR r)).map (·.1) = frT at hA4 hfrm hfrn hfrl hfdj
        have hr2 : r ≤ 2000 := by
          have h1 : fas ≠ [] := fun z => by
            rw [hL4, z] at hys
            have := congrArg (fun o => match o with | some (HO.lst l) => l.length | _ => 0) hys
            simp [refs] at this
          have h2 : frT ≠ [] := fun z => h1 (List.eq_nil_of_length_eq_zero (by rw [← hfrl, z]; rfl))
          obtain ⟨k0, hk0⟩ := List.exists_mem_of_ne_nil _ h2
          obtain ⟨nv, hv, h3, _⟩ := C.fv _ ((hfrm k0).mp hk0)
          have := V.int.inj hv
          omega
        have hgll : gl.length ≤ gf.length := by
          have h := nodup_sub_len gd4.nd (ys := gf.map (·.1)) fun k hk => by
            obtain ⟨_, _, z⟩ := (hgk k).mp hk
            exact List.mem_map.mpr ⟨_, z, rfl⟩
          rwa [List.length_map, List.length_map] at h
        walk_at "WK"
        refine for_L (xs := refs fas) (fun i σ H' => ∃ y5, σ = [some (.ref x), some (.ref wA), some (.ref dA), some (.ref rr), some (.int (r : Int)), y5, y6, y7, y8, y9] ∧ Same H H' ∧ H' rr = some (.lst (refs fas)) ∧ All2 (fun a k => TT2 H' a k) fas frT ∧ GD w KT H' dA (gl ++ (frT.take i).map fun k => (k, V.bl true)) ∧ H' wA = some (.lst (refs us)) ∧ (∀ u ∈ us, ∃ st, st ≠ [] ∧ RowK H' (.ref u, (KS.k st).data)))
          ⟨_, rfl, s4, hL4, hA4, by simpa using gd4, hw4, hro⟩ (fun i σ H' _ h => by obtain ⟨_, _, _, h, _⟩ := h; exact h) ?_ ?_
        · rintro i y σ H5 hy ⟨y5, rfl, s5, hL5, hA5, gd5, hw5, hro5⟩
          obtain ⟨a, ha, rfl⟩ := refs_inv hy
          obtain ⟨k1, hk1, hT⟩ := hA5.getL ha
          have hi := (List.getElem?_eq_some_iff.mp ha).1
          walk_at "WK"
          refine r_setG gd5 (rp_tn hT) (lt_szM (by rw [List.length_append, List.length_map, List.length_take]; omega)) fun o6 gd6 t6 => ?_
          rw [putK_fold hk1 hfrn (hfdj _ (List.mem_of_getElem? hk1))] at gd6
          exact ⟨_, rfl, same_of s5 nd0, (upd_ne (gd5.neL hL5)).trans hL5, hA5.imp fun a k r => r.extT t6, gd6, (upd_ne (gd5.neL hw5)).trans hw5, fun u hu => by obtain ⟨st, h1, h2⟩ := hro5 u hu; exact ⟨st, h1, J1.RowK.tups t6 h2⟩⟩
        · rintro σ H5 ⟨y5, rfl, s5, hL5, hA5, gd5, hw5, hro5⟩
          rw [show (refs fas).length = frT.length by rw [hfrl]; simp [refs], List.take_length] at gd5
          have hx5 := s5 _ _ hx
          walk_at "WK"
          refine r_ink (hfd.same s5) ?_
          refine lc_N (fun D i H' => Same H5 H' ∧ H5 D = none ∧ ∃ fbs, H' D = some (.lst (refs fbs)) ∧ All2 (fun a k => TT2 H' a k) fbs (((gf.take i).filter (isR (r + 1))).map (·.1))) (fun D hD => ⟨same_new hD, hD, [], upd_same, .nil⟩) (fun D i H' _ h => (hfd.same s5).same h.1) ?_ ?_
          · rintro D i z H6 hz ⟨s6, nD, fbs, hD, hA⟩
            have hi := (List.getElem?_eq_some_iff.mp hz).1
            obtain ⟨⟨kk, v⟩, hp⟩ := getElem?_of_lt (ls := gf) (i := i) (by omega)
            obtain ⟨z', hz', hz1, hz2⟩ := hfxg hp
            rw [hz] at hz'
            cases hz'
            obtain ⟨nv, hv, _⟩ := C.fv _ (List.mem_of_getElem? hp)
            have hv : v = .int (nv : Int) := hv
            subst hv
            have s16 := s5.trans s6
            have hT := (GD.keyT hfd (List.mem_of_getElem? hz) hz1).ext s16
            have hx6 := s16 _ _ hx
            have tk : ((gf.take (i + 1)).filter (isR (r + 1))).map (·.1) = ((gf.take i).filter (isR (r + 1))).map (·.1) ++ (if isR (r + 1) (kk, V.int (nv : Int)) = true then [kk] else []) := by
              rw [List.take_add_one, hp, List.filter_append, List.map_append]
              congr 1
              cases e : isR (r + 1) (kk, V.int (nv : Int)) <;> simp [List.filter_cons, e]
            walk_at "WK"
            refine r_ngetG (C.fd.same s16) (rp_tn hT) (valV_get C.fd.nd hp) ?_
            walk_at "WK"
            by_cases h0 : nv = r + 1
            · have er : isR (r + 1) (kk, V.int (nv : Int)) = true := (isR_int rfl).trans (decide_eq_true h0)
              refine r_ifT2 (by rw [h0]; exact decide_eq_true (by congr 1)) ?_
              have hfl6 : fbs.length ≤ gf.length := by
                rw [hA.len, List.length_map]
                refine Nat.le_trans (List.length_filter_le _ _) ?_
                rw [List.length_take]
                omega
              walk_at "WK"
              refine r_eltk hD (lt_szM (by rw [List.length_map]; omega)) ?_
              have tD : TupSame H6 (upd H6 D (.lst (refs fbs ++ [.ref z.2.1]))) := TupSame.mut fun vs e => by rw [hD] at e; cases e
              exact ⟨same_of s6 nD, nD, fbs ++ [z.2.1], by rw [upd_same]; simp [refs], by rw [tk, if_pos er]; exact All2.snoc (hA.imp fun a k r => r.extT tD) (hT.extT tD)⟩
            · have er : isR (r + 1) (kk, V.int (nv : Int)) = false := (isR_int rfl).trans (decide_eq_false h0)
              refine r_ifF2 (decide_eq_false fun z => h0 (by have := V.int.inj z; omega)) ?_
              exact ⟨s6, nD, fbs, hD, by rw [tk, if_neg (by rw [er]; exact fun z => Bool.noConfusion z), List.append_nil]; exact hA⟩
          · rintro LB2 H6 ⟨s6, nLB2, fbs, hLB2, hB⟩
            rw [hfxl, List.take_length] at hB
            have s06 := s5.trans s6
            have gd6 := gd5.same s6
            have hw6 := s6 _ _ hw5
            have hro6 : ∀ u ∈ us, ∃ st, st ≠ [] ∧ RowK H6 (.ref u, (KS.k st).data) := fun u hu => by
              obtain ⟨st, h1, h2⟩ := hro5 u hu
              exact ⟨st, h1, J1.RowK.tups (Same.tups s6) h2⟩
            have nwH : H wA = none := hwA
            walk_at "WK"
            refine for_L (xs := refs fbs) (fun i σ H' => ∃ y5 y6 y7 y8 y9 us2, σ = [some (.ref x), some (.ref wA), some (.ref dA), some (.ref LB2), some (.int ((r + 1 : Nat) : Int)), y5, y6, y7, y8, y9] ∧ Same H H' ∧ H' LB2 = some (.lst (refs fbs)) ∧ All2 (fun a k => TT2 H' a k) fbs ((gf.filter (isR (r + 1))).map (·.1)) ∧ GD w KT H' dA (gl ++ frT.map fun k => (k, V.bl true)) ∧ H' wA = some (.lst (refs us2)) ∧ us2.length ≤ gl.length + fas.length + i ∧ (∀ u ∈ us2, ∃ st, st ≠ [] ∧ RowK H' (.ref u, (KS.k st).data)))
              ⟨_, _, _, _, _, us, rfl, s06, hLB2, hB, gd6, hw6, by omega, hro6⟩ (fun i σ H' _ h => by obtain ⟨_, _, _, _, _, _, _, _, h, _⟩ := h; exact h) ?_ ?_
            · rintro i y σ H7 hy ⟨y5, y6, y7, y8, y9, us2, rfl, s7, hL7, hB7, gd7, hw7, hul7, hro7⟩
              obtain ⟨t, ht, rfl⟩ := refs_inv hy
              obtain ⟨kk, hkf, hT⟩ := hB7.getL ht
              have hi := (List.getElem?_eq_some_iff.mp ht).1
              have hkg : (kk, V.int ((r + 1 : Nat) : Int)) ∈ gf := by
                obtain ⟨p, hp, rfl⟩ := List.mem_map.mp (List.mem_of_getElem? hkf)
                obtain ⟨h1, h2⟩ := List.mem_filter.mp hp
                obtain ⟨nv, hv, _⟩ := C.fv _ h1
                rw [isR_int hv] at h2
                have e := of_decide_eq_true h2
                rw [← e, ← hv]
                exact h1
              have hkk : kk ∈ g.map (·.1) := C.fsub _ hkg
              obtain ⟨L, las, hv, hL, hLA, hl16, hsk⟩ := (C.PL.ext s7).succ hkk
              obtain ⟨kst, hkt, hks2⟩ := id hT
              have hx7 := s7 _ _ hx
              have hpT7 := s7 _ _ hpT
              have hp07 := s7 _ _ hp0
              have e0 : atI [V.ref p0, V.ref p1] 0 = some (V.ref p0) := atI_nat (j := 0) rfl
              have e0' : atI [V.ref kst, V.int (kk.2 : Int)] 0 = some (V.ref kst) := atI_nat (j := 0) rfl
              walk_at "WK"
              refine r_ngetG (C.PL.gd.same s7) (rp_tn hT) hv ?_
              walk_at "WK"
              refine r_zipk hp07 hL fun z hz1 hz2 hz3 hz4 => ?_
              walk_at "WK"
              have hgl2 : ∀ k, k ∈ (gl ++ frT.map fun k => ((k, V.bl true) : Tn × V)).map (·.1) ↔ ∃ n : Nat, n < r + 1 ∧ (k, V.int (n : Int)) ∈ gf := fun k => by
                rw [List.map_append, List.mem_append, hgk, List.map_map]
                show _ ∨ k ∈ frT.map (fun k => k) ↔ _
                rw [List.map_id', hfrm]
                exact ⟨fun z => z.elim (fun ⟨n, h1, h2⟩ => ⟨n, by omega, h2⟩) fun z => ⟨r, by omega, z⟩, fun ⟨n, h1, h2⟩ => by
                  rcases Nat.lt_or_ge n r with q | q
                  · exact .inl ⟨n, q, h2⟩
                  · obtain rfl : n = r := by omega
                    exact .inr h2⟩
              generalize gl ++ frT.map (fun k => ((k, V.bl true) : Tn × V)) = gl2 at gd7 hgl2 ⊢
              obtain ⟨hln, ln, hlg⟩ := good_ex C hkg hgl2
              have hfbl : fbs.length ≤ gf.length := by
                rw [hB7.len, List.length_map]
                exact List.length_filter_le _ _
              have hlas := hLA.len
              have hpas := C.pc0.len
              rw [hln] at hlas
              have hnL : min (refs pas0).length (refs las).length = (Pp 0).length := by
                rw [List.length_map, List.length_map, hlas, hpas, Nat.min_self]
              have hp16 := C.PL.sm 0
              refine ⟨z, p0, L, H7, _, _, rfl, rfl, hz1, hz2, hz3, hz4, .of hp07, .of hL, ?_⟩
              refine lc_J (walk_zip (n := (Pp 0).length) hnL.symm) (fun D i H' => Same H7 H' ∧ H7 D = none ∧ ∃ gs, H' D = some (.lst gs) ∧ gs.length ≤ i ∧ ∀ j l, j < i → (succT F wd Pp kk)[j]? = some l → goodB F wd Pp (gl2.map (·.1)) l = true → gs ≠ []) (fun D hD => ⟨same_new hD, hD, [], upd_same, Nat.le_refl _, fun j l hj => absurd hj (Nat.not_lt_zero _)⟩) (fun D i H' _ h => ⟨.of (h.1 _ _ hp07), .of (h.1 _ _ hL)⟩) ?_ ?_
              · rintro D j y H8 H9 hj ⟨s8, nD, gs, hD, hgs, hgn⟩ ⟨T1, x1, x2, rfl, hT1, rfl, e1, e2⟩
                obtain ⟨pa, hpa, rfl⟩ := refs_inv e1
                obtain ⟨aa, haa, rfl⟩ := refs_inv e2
                obtain ⟨s', hs', hsT⟩ := hLA.getL haa
                have sT := same_new hT1 (o := .tup [.ref pa, .ref aa])
                have s9 := s8.trans sT
                have hT2 : upd H8 T1 (.tup [.ref pa, .ref aa]) T1 = some (.tup [.ref pa, .ref aa]) := upd_same
                have hD9 := sT _ _ hD
                generalize upd H8 T1 (.tup [.ref pa, .ref aa]) = H9 at s9 hT2 hD9 ⊢
                have s79 := s7.trans s9
                have hx9 := s79 _ _ hx
                walk_at "WK"
                refine r_methk hx9 rfl ?_
                walk_at "WK"
                refine ⟨x, aa, dA, s', dx, gA, eA, _, F, wd, Pp, n, g, ge, gl2, rfl, hx9, rfl, rfl, C.PL.ext s79, gd7.same s9, hsT.ext s9, hsk s' (List.mem_of_getElem? hs'), fun H10 s10 => ?_⟩
                have hD10 := s10 _ _ hD9
                cases e : goodB F wd Pp (gl2.map (·.1)) s' with
                | false =>
                  walk_at "WK"
                  refine ⟨s9.trans s10, nD, gs, hD10, by omega, fun j' l hj' h1 h2 => ?_⟩
                  rcases Nat.lt_or_ge j' j with q | q
                  · exact hgn j' l q h1 h2
                  · obtain rfl : j' = j := by omega
                    rw [hs'] at h1
                    cases h1
                    rw [e] at h2
                    cases h2
                | true =>
                  walk_at "WK"
                  refine r_eltk hD10 (lt_sz (by omega)) ?_
                  exact ⟨same_of (s9.trans s10) nD, nD, _, upd_same, by rw [List.length_append, List.length_singleton]; omega, fun j' l _ _ _ => by simp⟩
              · rintro D H8 ⟨s8, nD, gs, hD, hgs, hgn⟩
                obtain ⟨jn, hjn⟩ := List.getElem?_of_mem hlg.1
                have hjl := (List.getElem?_eq_some_iff.mp hjn).1
                have hgne := hgn jn ln (by omega) hjn hlg.2
                obtain ⟨g0, gr, rfl⟩ : ∃ g0 gr, gs = g0 :: gr := by
                  cases gs with
                  | nil => exact absurd rfl hgne
                  | cons g0 gr => exact ⟨g0, gr, rfl⟩
                have eg : atI (g0 :: gr) 0 = some g0 := atI_nat (j := 0) rfl
                have s78 := s7.trans s8
                have hx8 := s78 _ _ hx
                have hkt8 := s8 _ _ hkt
                have hw8 := s8 _ _ hw7
                have stl : kk.1.length = n := by
                  obtain ⟨p, hp, e⟩ := List.mem_map.mp hkk
                  rw [← e]
                  exact (C.PL.gp p hp).1
                walk_at "WK"
                refine r_unf2 (C.fold.ext s78) (s8 _ _ hks2) (by rw [stl]; exact C.ok) hnl fun H10 u st' s10 hu hul => ?_
                have hD10 := s10 _ _ hD
                have hw10 := s10 _ _ hw8
                walk_at "WK"
                intro t2 ht2
                have sT := same_new ht2 (o := .tup [.ref u, .int ((r + 1 : Nat) : Int), g0])
                have hw11 := sT _ _ hw10
                walk_at "WK"
                refine r_append hw11 (lt_szM (by rw [List.length_map]; omega)) ?_
                have s8t := s8.trans (s10.trans sT)
                have s7t := s7.trans s8t
                have tW : TupSame (upd H10 t2 (.tup [.ref u, .int ((r + 1 : Nat) : Int), g0])) (upd (upd H10 t2 (.tup [.ref u, .int ((r + 1 : Nat) : Int), g0])) wA (.lst (refs us2 ++ [.ref t2]))) := TupSame.mut fun vs e => by rw [hw11] at e; cases e
                refine ⟨_, _, _, _, _, us2 ++ [t2], rfl, same_of s7t nwH, (upd_ne ?_).trans (s8t _ _ hL7), hB7.imp fun a k r => (r.ext s8t).extT tW, ?_, by rw [upd_same]; simp [refs], by rw [List.length_append, List.length_singleton]; omega, fun v hv => ?_⟩
                · exact (ne_of_none hw5 nLB2).symm
                · exact (gd7.same s8t).keepL hw11
                · have htu : upd H10 t2 (.tup [.ref u, .int ((r + 1 : Nat) : Int), g0]) t2 = some (.tup [.ref u, .int ((r + 1 : Nat) : Int), g0]) := upd_same
                  rcases List.mem_append.mp hv with q | q
                  · obtain ⟨st, h1, h2⟩ := hro7 v q
                    exact ⟨st, h1, J1.RowK.tups tW (J1.RowK.tups (Same.tups s8t) h2)⟩
                  · rw [List.mem_singleton] at q
                    subst q
                    refine ⟨st', fun z => ?_, v, _, _, KS.k st', rfl, tW _ _ htu, Rp.ext tW _ _ (Rp.ext (Same.tups sT) _ _ (rp_st hu)), rfl, KS.dp st'⟩
                    rw [z] at hul
                    simp at hul
                    omega
            · rintro σ H7 ⟨y5, y6, y7, y8, y9, us2, rfl, s7, hL7, hB7, gd7, hw7, hul7, hro7⟩
              have hbl := hB7.len
              refine ⟨m - 1, ?_, r + 1, LB2, fbs, us2, _, _, _, _, _, _, rfl, s7, hL7, hB7, gd7, fun k => ?_, hw7, ?_, hro7, ?_⟩
              · omega
              · rw [List.map_append, List.mem_append, hgk, List.map_map]
                show _ ∨ k ∈ frT.map (fun k => k) ↔ _
                rw [List.map_id', hfrm]
                exact ⟨fun z => z.elim (fun ⟨n, h1, h2⟩ => ⟨n, by omega, h2⟩) fun z => ⟨r, by omega, z⟩, fun ⟨n, h1, h2⟩ => by
                  rcases Nat.lt_or_ge n r with q | q
                  · exact .inl ⟨n, q, h2⟩
                  · obtain rfl : n = r := by omega
                    exact .inr h2⟩
              · rw [List.length_append, List.length_map, hfrl]
                simpa [refs] using hul7
              · omega
      · rintro m σ H4 rr ⟨r, LB, fas, us, gl, y5, y6, y7, y8, y9, rfl, s4, hL4, hA4, gd4, hgk, hw4, hul, hro, em⟩ hrr hys
        obtain ⟨bs, hbs, hbk⟩ := rows_bs hro
        rw [← hbs] at hw4
        walk_at "WK"
        refine ⟨_, rfl, hTT.ext s4, wA, bs, rfl, hw4, fun b hb => (hbk b hb).1, ?_, ?_, fun H5 q o eN hT5 hq ho => ?_⟩
        · intro x hx y hy
          obtain ⟨b, hb, rfl⟩ := List.mem_map.mp hx
          obtain ⟨c, hc, rfl⟩ := List.mem_map.mp hy
          obtain ⟨_, s1, _, e1⟩ := hbk b hb
          obtain ⟨_, s2, _, e2⟩ := hbk c hc
          rw [e1, e2]
          exact alike_st s1 s2
        · refine .inl fun x hx => ?_
          obtain ⟨b, hb, rfl⟩ := List.mem_map.mp hx
          obtain ⟨_, s1, n1, e1⟩ := hbk b hb
          rw [e1]
          exact data_st n1
        · have hq5 : upd H5 q (.lst o) q = some (.lst o) := upd_same
          have sq := same_new hq (o := .lst o)
          generalize upd H5 q (.lst o) = H6 at hq5 sq ⊢
          have e46 : ExtN H4 H6 := eN.trans (ExtN.of sq)
          have hT6 := hT5.ext sq
          walk_at "WK"
          intro t ht
          exact k _ _ ((ExtN.of s4).trans (e46.trans (ExtN.of (same_new ht)))) (hT6.ext (same_new ht))
end
end G7
end
section
set_option maxHeartbeats 4000000
set_option Elab.async false
set_option linter.all false
set_option maxRecDepth 100000
namespace G6
open PySem PySem.Spec PyProof.Rows L2 PySem.W LamX G7
/-! H1: forced; the two searches by the pictures' own facts -/
/-- pictures as the law draws them -/
structure PicG (d : PicD) : Prop where
  W : PicW d
  c5 : d.col.length ≤ 5
  c4 : d.col.length ≤ 4 ∨ d.mks.length ≤ 2
  m1 : 1 ≤ d.mks.length
theorem PicG.n5 {d : PicD} (h : PicG d) : manyOf (foldP d).nums ≤ 5 := Nat.le_trans (foldP_many h.W) h.c5
theorem PicG.nums {d : PicD} (h : PicG d) : (foldP d).nums.length ≤ 700 := by
  have e : (foldP d).nums.length = d.col.length := pnums_len ..
  have := h.c5
  omega
theorem PicG.nums0 {d : PicD} (h : PicG d) : 0 < (foldP d).nums.length := by
  have e : (foldP d).nums.length = d.col.length := pnums_len ..
  have := h.W.c1
  omega
theorem PicG.uniS {d : PicD} (h : PicG d) {ms hs : List Nat} (om : MsOk ms 2 d.mks.length) (oh : MsOk hs 4 100) : UniS (foldP d) (poursOf (srt ms) (srt hs)) (manyOf (foldP d).nums) (prodL (opts (foldP d) hs)) :=
  uniS_of (foldP_ok h.W) h.n5 (fun m hm => by rw [foldP_homes]; exact om.b m hm) oh.l2
theorem PicG.uniT {d : PicD} (h : PicG d) {ms os hs : List Nat} (om : MsOk ms 4 d.mks.length) (oo : MsOk os 4 d.mks.length) (oh : MsOk hs 3 100) : UniT (foldP d) (Pof ms os hs) (manyOf (foldP d).nums) (fun k => if k = 0 then prodL (opts (foldP d) hs) else uni1 (foldP d) hs) :=
  uniT_of (foldP_ok h.W) h.n5 (h.c4.imp (fun z => Nat.le_trans (foldP_many h.W) z) fun z => by rw [foldP_homes]; exact z) (fun m hm => by rw [foldP_homes]; exact om.b m hm) (fun m hm => by rw [foldP_homes]; exact oo.b m hm) om.l2 oo.l2 (by rw [foldP_homes]; exact h.m1) oh.l2
/-- the answer of forced -/
def ForA (K : PySem.W.Frag) (H : Hp) (y : Addr) (W : Nat → Prop) : Prop :=
  (∃ dx v, H y = some (.ins (He.ga K "Kept") dx (f_Kept v)) ∧ ∀ n, ¬ W n) ∨ ∃ (dx : Addr) (n : Nat) (v : V), H y = some (.ins (He.ga K "Forced") dx (f_Forced (.int (n : Int)) v)) ∧ W n ∧ (∀ m, m < n → ¬ W m) ∧ n ≤ 60000
section
variable {P : Program} {w : World} {K : PySem.W.Frag} {mg : Str → Option Value} {base : Heap}
theorem sc_forced : FnScope ["picture", "mine", "theirs", "colours", "aim", "contest"] ["picture", "mine", "theirs", "colours", "aim"] (defScope s_forced) := ⟨rfl, rfl, rfl, by decide +kernel, rfl, by decide +kernel, by decide +kernel⟩
def sp_for (K : PySem.W.Frag) (w : World) (TT : List (Addr × Str)) : Sp := fun vs H Q _ => ∃ (p a b c e : Addr) (d : PicD) (ms os hs : List Nat) (wd : WishD), vs = [.ref p, .ref a, .ref b, .ref c, .ref e] ∧ PicAt K H p d ∧ PicG d ∧ LN H a ms ∧ LN H b os ∧ LN H c hs ∧ H e = some (.tup (wishV wd)) ∧ MsOk ms 4 d.mks.length ∧ MsOk os 4 d.mks.length ∧ MsOk hs 3 100 ∧ WishG d wd ∧ Tabs TT H ∧
  ∀ H' y, ExtN H H' → Tabs TT H' → ForA K H' y (Wd d ms os hs wd) → Q (.ref y) H'
theorem ok_forced (T : TX K mg) {cd P0 : Addr} {TT : List (Addr × Str)} (hcd : ∀ o fd, K.lookup (He.ma K (He.ga K "Contest") "rows_of_mine") = some o → o.data = .func fd → fd.code = .ref cd) (TB : TabB base mg cd P0) (hmT : (P0, qMine) ∈ TT) (huT : ∀ p ∈ TT, p.1 = P0 → p.2 = qMine) :
    C8.Cal P w K mg base 8 "forced" (sp_for K w TT) [] := by
  have c_Contest := ok_Contest_init (P := P) (w := w) (base := base) T
  have c_m_rows_of_mine := ok_rows_of_mine (P := P) (w := w) (base := base) T hcd TB hmT huT
  have c_m_rows_of_theirs := ok_rows_of_theirs (P := P) (w := w) (base := base) T
  have c_Forced := ok_Forced_init (P := P) (w := w) (base := base) T
  have c_Kept := ok_Kept_init (P := P) (w := w) (base := base) T
  have c_Book := ok_Book_init (P := P) (w := w) (base := base) T
  obtain ⟨fd, F⟩ := T.F_forced
  refine ⟨_, fd, ["picture", "mine", "theirs", "colours", "aim"], [], ?_, T.g_forced, F.kp, (F.bindsN (fun _ _ _ _ _ _ us hl => match us, hl with | [_, _, _, _, _], _ => rfl)), .nil⟩
  refine F.ok sc_forced (fun vs H Q E h => ?_) (fun cdv A outer s H vs Q E hr h => ?_)
  · obtain ⟨p, a, b, c, e, d, ms, os, hs, wd, rfl, _⟩ := h
    rfl
  · obtain ⟨p, a, b, c, e, d, ms, os, hs, wd, rfl, hp, hg, ha, hb, hc, he, om, oo, oh, hw, hT, k⟩ := h
    refine ⟨_, PSs.nox (pss_cons (ps_set (i := 5) sc_forced.nd rfl (.inl rfl) (C8.pe_mk (c_Contest) hr (by omega) (by rfl) (pa_cons (pv 0) (pa_cons (pv 1) (pa_cons (pv 2) (pa_cons (pv 3) (pa_cons (pv 4) pa_nil)))))))
      (pss_cons (ps_if (pt_cmpR (op_inN' w rfl hr.units) (pe_fld' K rfl (pv 5) rfl) (pe_fld' K rfl (pv 5) rfl) (by rfl)) (pss_one (ps_ret (C8.pe_mk (c_Forced) hr (by omega) (by rfl) (pa_cons (pe_nget' w rfl hr.units (pe_fld' K rfl (pv 5) rfl) (pe_fld' K rfl (pv 5) rfl) (fun _ _ => rfl)) (pa_cons (C8.pe_mk (c_Book) hr (by omega) (by rfl) (pa_cons (C8.pe_mt0 (c_m_rows_of_mine) hr (by omega) (pv 5)) pa_nil)) pa_nil))))) pss_nil)
      (pss_one (ps_ret (C8.pe_mk (c_Kept) hr (by omega) (by rfl) (pa_cons (C8.pe_mk (c_Book) hr (by omega) (by rfl) (pa_cons (C8.pe_mt0 (c_m_rows_of_theirs) hr (by omega) (pv 5)) pa_nil)) pa_nil)))))), ?_⟩
    try dsimp only [cxOf]
    walk_at "WK"
    intro x dx nx ndx ne
    refine ⟨x, dx, p, a, b, c, e, d, ms, os, hs, wd, _, _, H, rfl, (same_new ndx).trans (same_new (by rw [upd_ne ne.symm]; exact nx)), nx, upd_same, hp, hg.W, by have := hg.c5; omega, ha, hb, hc, he, om, oo, oh, hw, foldP_ok hg.W, wishOk_of hw, hg.uniT om oo oh, fun H1 fA pT sA eA gA rA p0 p1 pas0 pas1 g ge gf s1 C => ⟨rfl, ?_⟩⟩
    obtain ⟨dx2, du2, hx⟩ := C.at_
    walk_at "WK"
    refine r_inG C.fd (rp_tn C.st) ?_
    by_cases hin : ((foldP d).hues, 0) ∈ gf.map (·.1)
    · rw [valV_in hin]
      obtain ⟨v, hv, hvm⟩ := valV_ex hin
      obtain ⟨n, hvn, hn2, _, hx0, _⟩ := C.fv _ hvm
      have hvn : v = .int (n : Int) := hvn
      subst hvn
      obtain ⟨hw1, hw2⟩ := hx0 rfl
      walk_at "WK"
      refine r_ngetG C.fd (rp_tn C.st) hv ?_
      walk_at "WK"
      refine r_methk hx rfl ?_
      walk_at "WK"
      refine ⟨x, foldP d, wd, Pof ms os hs, manyOf (foldP d).nums, fA, pT, sA, eA, gA, rA, p0, p1, pas0, pas1, g, ge, gf, rfl, C, hg.nums, hg.nums0, hT.ext s1, fun H2 v2 eN hT2 => ?_⟩
      walk_at "WK"
      intro y dy ny ndy ne2
      refine ⟨y, dy, _, _, rfl, (same_new ndy).trans (same_new (by rw [upd_ne ne2.symm]; exact ny)), ny, upd_same, fun H3 s3 hy => ⟨rfl, ?_⟩⟩
      walk_at "WK"
      intro z dz nz ndz ne3
      refine ⟨z, dz, _, _, _, rfl, (same_new ndz).trans (same_new (by rw [upd_ne ne3.symm]; exact nz)), nz, upd_same, fun H4 s4 hz => ⟨rfl, ?_⟩⟩
      exact k _ z ((ExtN.of s1).trans (eN.trans (ExtN.of (s3.trans s4)))) (hT2.ext (s3.trans s4)) (.inr ⟨dz, n, _, hz, hw1, hw2, by omega⟩)
    · rw [valV_nin hin]
      have hnev : ∀ n, ¬ Wd d ms os hs wd n := fun n z => hin ((C.fi _ C.sk).mpr ⟨n, z⟩)
      walk_at "WK"
      refine r_methk hx rfl ?_
      walk_at "WK"
      refine ⟨x, foldP d, wd, Pof ms os hs, manyOf (foldP d).nums, fA, pT, sA, eA, gA, rA, p0, p1, pas0, pas1, g, ge, gf, rfl, C, hg.nums, fun H2 v2 s2 => ?_⟩
      walk_at "WK"
      intro y dy ny ndy ne2
      refine ⟨y, dy, _, _, rfl, (same_new ndy).trans (same_new (by rw [upd_ne ne2.symm]; exact ny)), ny, upd_same, fun H3 s3 hy => ⟨rfl, ?_⟩⟩
      walk_at "WK"
      intro z dz nz ndz ne3
      refine ⟨z, dz, _, _, rfl, (same_new ndz).trans (same_new (by rw [upd_ne ne3.symm]; exact nz)), nz, upd_same, fun H4 s4 hz => ⟨rfl, ?_⟩⟩
      exact k _ z (ExtN.of (s1.trans (s2.trans (s3.trans s4)))) (hT.ext (s1.trans (s2.trans (s3.trans s4)))) (.inl ⟨dz, _, hz, hnev⟩)
theorem r_forced {TT : List (Addr × Str)} {H : Hp} {Q : VK} {E : XK} {p a b c e : Addr} {d : PicD} {ms os hs : List Nat} {wd : WishD} (hp : PicAt K H p d) (hg : PicG d) (ha : LN H a ms) (hb : LN H b os) (hc : LN H c hs) (he : H e = some (.tup (wishV wd))) (om : MsOk ms 4 d.mks.length) (oo : MsOk os 4 d.mks.length) (oh : MsOk hs 3 100) (hw : WishG d wd) (hT : Tabs TT H)
    (k : ∀ H' y, ExtN H H' → Tabs TT H' → ForA K H' y (Wd d ms os hs wd) → Q (.ref y) H') : sp_for K w TT ([.ref p, .ref a, .ref b, .ref c, .ref e] ++ []) H Q E := ⟨p, a, b, c, e, d, ms, os, hs, wd, rfl, hp, hg, ha, hb, hc, he, om, oo, oh, hw, hT, k⟩
theorem r_fewest {H : Hp} {Q : VK} {E : XK} {p a b c : Addr} {d : PicD} {ms hs : List Nat} {wd : WishD} (hp : PicAt K H p d) (hg : PicG d) (ha : LN H a ms) (hb : LN H b hs) (hc : H c = some (.tup (wishV wd))) (om : MsOk ms 2 d.mks.length) (oh : MsOk hs 4 100) (hw : WishG d wd)
    (k : ∀ H' y, Same H H' → FewA K H' y (holds (foldP d) wd) (mvs (foldP d) (poursOf (srt ms) (srt hs))) (foldP d).hues → Q (.ref y) H') : sp_few K w ([.ref p, .ref a, .ref b, .ref c] ++ []) H Q E :=
  ⟨p, a, b, c, d, ms, hs, wd, _, _, rfl, hp, hg.W, by have := hg.c5; omega, ha, hb, hc, om, oh, hw, foldP_ok hg.W, wishOk_of hw, hg.uniS om oh, foldP_homes, hg.nums, k⟩
end
end G6
end
section
set_option maxHeartbeats 4000000
set_option Elab.async false
set_option linter.all false
set_option maxRecDepth 100000
namespace G6
open PySem PySem.Spec PyProof.Rows L2 PySem.W
/-- what is known of the four classes of the answers -/
theorem TX.insB_ {K : PySem.W.Frag} {mg : Str → Option Value} (T : TX K mg) {x : Str} (hx : x ∈ owns) : insB K x = true := by
  have h := T.more
  unfold moreB at h
  rw [Bool.and_eq_true] at h
  exact List.all_eq_true.mp h.2 x hx
theorem TX.kit {K : PySem.W.Frag} {mg : Str → Option Value} (T : TX K mg) {x y : Str} (hx : x ∈ owns) (hy : y ∈ owns) : PySem.W.kitOne K (.ref (He.ga K x)) (.ref (He.ga K y)) = some (decide (x = y)) := by
  have h := T.insB_ hx
  unfold insB at h
  rw [Bool.and_eq_true, Bool.and_eq_true] at h
  exact of_decide_eq_true (List.all_eq_true.mp h.2.2 y hy)
section
variable {P : Program} {w : World} {K : PySem.W.Frag} {mg : Str → Option Value} {base : Heap}
theorem r_isiO (T : TX K mg) {x y : Str} (hx : x ∈ owns) (hy : y ∈ owns) (cl : Cls K (He.ga K x)) {H : Hp} {Q : VK} {a dx : Addr} {fs : List (Str × V)} (h : H a = some (.ins (He.ga K x) dx fs)) {b : Bool} (e : decide (x = y) = b) (k : Q (.bl b) H) : rIsi K [.ref a, .ref (He.ga K y)] H Q := by
  refine ⟨_, _, .ref (He.ga K x), _, b, rfl, .own _, .base ?_, by rw [← e]; exact T.kit hx hy, k⟩
  have hm := T.more
  have hi := T.insB_ hx
  unfold moreB at hm
  unfold insB at hi
  rw [Bool.and_eq_true, Bool.and_eq_true] at hm hi
  exact .ins h cl (He.eqO_ok hi.1) (He.eqO_ok hm.1.1) (of_decide_eq_true hm.1.2) (of_decide_eq_true hi.2.1)
theorem sc_L_number : FnScope ["_law_told"] ["_law_told"] (defScope s_L_number) := ⟨rfl, rfl, rfl, by decide +kernel, rfl, by decide +kernel, by decide +kernel⟩
def sp_num (K : PySem.W.Frag) : Sp := fun vs H Q _ => ∃ (y : Addr) (W : Nat → Prop), vs = [.ref y] ∧ ((∃ dx v, H y = some (.ins (He.ga K "Kept") dx (f_Kept v)) ∧ ∀ n, ¬ W n) ∨ (∃ dx v, H y = some (.ins (He.ga K "NeverSo") dx (f_NeverSo v)) ∧ ∀ n, ¬ W n) ∨ (∃ (dx : Addr) (n : Nat) (v : V), H y = some (.ins (He.ga K "Forced") dx (f_Forced (.int (n : Int)) v)) ∧ W n ∧ (∀ m, m < n → ¬ W m) ∧ n ≤ 60000) ∨ ∃ (dx : Addr) (n : Nat) (v : V), H y = some (.ins (He.ga K "Fewest") dx (f_Fewest (.int (n : Int)) v)) ∧ W n ∧ (∀ m, m < n → ¬ W m) ∧ n ≤ 60000) ∧
  ∀ r : Nat, Rk W r → Q (.int (r : Int)) H
theorem ok_number (T : TX K mg) : C8.Cal P w K mg base 2 "_law_number" (sp_num K) [] := by
  have c_L_whole := ok_whole (P := P) (w := w) (base := base) T
  obtain ⟨fd, F⟩ := T.F_L_number
  refine ⟨_, fd, ["_law_told"], [], ?_, T.g_L_number, F.kp, (F.bindsN (fun _ _ _ _ _ _ us hl => match us, hl with | [_], _ => rfl)), .nil⟩
  refine F.ok sc_L_number (fun vs H Q E h => ?_) (fun cdv A outer s H vs Q E hr h => ?_)
  · obtain ⟨y, W, rfl, _⟩ := h
    rfl
  · obtain ⟨y, W, rfl, h, k⟩ := h
    have oF : ("Forced" : Str) ∈ owns := by decide +kernel
    have oE : ("Fewest" : Str) ∈ owns := by decide +kernel
    have oK : ("Kept" : Str) ∈ owns := by decide +kernel
    have oN : ("NeverSo" : Str) ∈ owns := by decide +kernel
    refine ⟨_, PSs.nox (pss_cons (ps_if (PW.pt (pw_and (pt_val (pe_callB (call_isi' K rfl) (by rfl) T.f_isinstance (by decide +kernel) (pa_cons (pv 0) (pa_cons (pe_glob (v := .ref (He.ga K "Forced")) (by rfl) T.g_Forced rfl) pa_nil)))) (pw_and1 (pt_val (C8.pe_c (c_L_whole) hr (by omega) (by rfl) (pa_cons (pe_fld' K rfl (pv 0) rfl) pa_nil)))))) (pss_one (ps_ret (pe_fld' K rfl (pv 0) rfl))) pss_nil)
      (pss_cons (ps_if (PW.pt (pw_and (pt_val (pe_callB (call_isi' K rfl) (by rfl) T.f_isinstance (by decide +kernel) (pa_cons (pv 0) (pa_cons (pe_glob (v := .ref (He.ga K "Fewest")) (by rfl) T.g_Fewest rfl) pa_nil)))) (pw_and1 (pt_val (C8.pe_c (c_L_whole) hr (by omega) (by rfl) (pa_cons (pe_fld' K rfl (pv 0) rfl) pa_nil)))))) (pss_one (ps_ret (pe_fld' K rfl (pv 0) rfl))) pss_nil)
      (pss_one (ps_ret (pe_ifExp (PW.pt (pw_or (pt_val (pe_callB (call_isi' K rfl) (by rfl) T.f_isinstance (by decide +kernel) (pa_cons (pv 0) (pa_cons (pe_glob (v := .ref (He.ga K "Kept")) (by rfl) T.g_Kept rfl) pa_nil)))) (pw_or1 (pt_val (pe_callB (call_isi' K rfl) (by rfl) T.f_isinstance (by decide +kernel) (pa_cons (pv 0) (pa_cons (pe_glob (v := .ref (He.ga K "NeverSo")) (by rfl) T.g_NeverSo rfl) pa_nil))))))) pe_int (pe_un un_neg pe_int)))))), ?_⟩
    try dsimp only [cxOf]
    rcases h with ⟨dx, v, hy, hW⟩ | ⟨dx, v, hy, hW⟩ | ⟨dx, n, v, hy, h1, h2, h3⟩ | ⟨dx, n, v, hy, h1, h2, h3⟩
    · walk_at "WK"
      refine r_isiO T oK oF T.k_Kept hy (b := false) (by decide +kernel) ?_
      walk_at "WK"
      refine r_isiO T oK oE T.k_Kept hy (b := false) (by decide +kernel) ?_
      walk_at "WK"
      refine r_isiO T oK oK T.k_Kept hy (b := true) (by decide +kernel) ?_
      walk_at "WK"
      exact k 1000000 (.inr ⟨rfl, hW⟩)
    · walk_at "WK"
      refine r_isiO T oN oF T.k_NeverSo hy (b := false) (by decide +kernel) ?_
      walk_at "WK"
      refine r_isiO T oN oE T.k_NeverSo hy (b := false) (by decide +kernel) ?_
      walk_at "WK"
      refine r_isiO T oN oK T.k_NeverSo hy (b := false) (by decide +kernel) ?_
      walk_at "WK"
      refine r_isiO T oN oN T.k_NeverSo hy (b := true) (by decide +kernel) ?_
      walk_at "WK"
      exact k 1000000 (.inr ⟨rfl, hW⟩)
    · walk_at "WK"
      refine r_isiO T oF oF T.k_Forced hy (b := true) (by decide +kernel) ?_
      walk_at "WK"
      refine ⟨(n : Int), rfl, ?_⟩
      walk_at "WK"
      exact k n (.inl ⟨h3, h1, h2⟩)
    · walk_at "WK"
      refine r_isiO T oE oF T.k_Fewest hy (b := false) (by decide +kernel) ?_
      walk_at "WK"
      refine r_isiO T oE oE T.k_Fewest hy (b := true) (by decide +kernel) ?_
      walk_at "WK"
      refine ⟨(n : Int), rfl, ?_⟩
      walk_at "WK"
      exact k n (.inl ⟨h3, h1, h2⟩)
theorem r_numF {H : Hp} {Q : VK} {E : XK} {y : Addr} {W : Nat → Prop} (h : ForA K H y W) (k : ∀ r : Nat, Rk W r → Q (.int (r : Int)) H) : sp_num K ([.ref y] ++ []) H Q E :=
  ⟨y, W, rfl, h.elim .inl fun z => .inr (.inr (.inl z)), k⟩
theorem r_numD {H : Hp} {Q : VK} {E : XK} {y : Addr} {d : PicD} {ms hs : List Nat} {wd : WishD} (h : FewA K H y (holds (foldP d) wd) (mvs (foldP d) (poursOf (srt ms) (srt hs))) (foldP d).hues) (k : ∀ r : Nat, Rk (Dd d ms hs wd) r → Q (.int (r : Int)) H) : sp_num K ([.ref y] ++ []) H Q E :=
  ⟨y, Dd d ms hs wd, rfl, h.elim (fun z => .inr (.inl z)) fun ⟨dx, n, v, h1, h2, h3⟩ => .inr (.inr (.inr ⟨dx, n, v, h1, h2.1, h2.2, h3⟩)), k⟩
end
end G6
end
section
set_option maxHeartbeats 4000000
set_option Elab.async false
set_option linter.all false
set_option maxRecDepth 100000
namespace G6
open PySem PySem.Spec PyProof.Rows L2 PySem.W
/-- the drawn table's parts -/
structure TabAt (D : Hp) (q wA mi th hu l t m : Addr) (ts : List Addr) (cols : List Nat) (ps : List (Nat × Nat)) (mks ms os hs : List Nat) : Prop where
  at_ : D q = some (.lst [.ref wA, .ref mi, .ref th, .ref hu])
  w : WldAt D wA l t m ts cols ps mks
  mi : LN D mi ms
  th : LN D th os
  hu : LN D hu hs
  om : MsOk ms 4 mks.length
  oo : MsOk os 4 mks.length
  oh : MsOk hs 3 100
  m4 : mks.length ≤ 4
  c5 : cols.length ≤ 5
  c4 : cols.length ≤ 4 ∨ mks.length ≤ 2
theorem TabAt.ext {D D' : Hp} {q wA mi th hu l t m : Addr} {ts : List Addr} {cols : List Nat} {ps : List (Nat × Nat)} {mks ms os hs : List Nat} (h : TabAt D q wA mi th hu l t m ts cols ps mks ms os hs) (s : Same D D') : TabAt D' q wA mi th hu l t m ts cols ps mks ms os hs :=
  ⟨s _ _ h.at_, h.w.ext s, s _ _ h.mi, s _ _ h.th, s _ _ h.hu, h.om, h.oo, h.oh, h.m4, h.c5, h.c4⟩
theorem prod_bd {a b : Nat} (ha : a < 2) (hb : b < 100) : ((a : Int) * (b : Int)) = ((a * b : Nat) : Int) ∧ a * b < 100 := by
  refine ⟨(Int.natCast_mul a b).symm, ?_⟩
  rcases Nat.lt_or_ge a 1 with z | z
  · obtain rfl : a = 0 := by omega
    omega
  · obtain rfl : a = 1 := by omega
    omega
theorem r_ifC {c : Bool} {σ : L2.St} {H : Hp} {Q : VK} {x y : V} (h : Q (if c = true then x else y) H) : if c = true then tC x σ H Q else tC y σ H Q := by
  cases c
  · exact h
  · exact h
section
variable {P : Program} {w : World} {K : PySem.W.Frag} {mg : Str → Option Value} {base : Heap}
theorem r_pict {H : Hp} {Q : VK} {E : XK} {a c : Addr} {most x : Int} (h : Hand H a c) (h1 : 2 ≤ most) (h2 : most ≤ 5) (h3 : 1 ≤ x) (h4 : x ≤ 4) (k : ∀ H' q l t m ts cols ps ms, Same (dr H a) H' → Hand H' a c → WldAt (dr H' a) q l t m ts cols ps ms → (cols.length : Int) ≤ most → (ms.length : Int) ≤ x → Q (.ref q) H') : sp_pict ([.ref a, .int most, .int x] ++ []) H Q E := ⟨a, c, most, x, rfl, h, h1, h2, h3, h4, k⟩
theorem r_hues {H : Hp} {Q : VK} {E : XK} {a c l : Addr} {cols : List Nat} (h : Hand H a c) (hl : LN (dr H a) l cols) (h1 : cols.length ≤ 1000) (h2 : ∀ v ∈ cols, v ≤ 99) (k : ∀ H' q hs, Same (dr H a) H' → Hand H' a c → LN (dr H' a) q hs → hs.Nodup → (∀ v ∈ hs, v ≤ 99) → 1 ≤ hs.length → hs.length ≤ 3 → Q (.ref q) H') : sp_hues ([.ref a, .ref l, .int 3] ++ []) H Q E := ⟨a, c, l, cols, rfl, h, hl, h1, h2, k⟩
theorem sc_L_table : FnScope ["_law_hand_here", "_law_wanted", "_law_picture_here", "_law_many", "_law_mine", "_law_theirs"] ["_law_hand_here"] (defScope s_L_table) := ⟨rfl, rfl, rfl, by decide +kernel, rfl, by decide +kernel, by decide +kernel⟩
def sp_tab : Sp := fun vs H Q _ => ∃ (a c : Addr), vs = [.ref a] ∧ Hand H a c ∧ ∀ H' q wA mi th hu l t m ts cols ps mks ms os hs, Same (dr H a) H' → Hand H' a c → TabAt (dr H' a) q wA mi th hu l t m ts cols ps mks ms os hs → Q (.ref q) H'
theorem ok_table (T : TX K mg) : C8.Cal P w K mg base 5 "_law_table" sp_tab [] := by
  have c_L_take := ok_take (P := P) (w := w) (base := base) T
  have c_L_picture := ok_picture (P := P) (w := w) (base := base) T
  have c_L_unlike := ok_unlike (P := P) (w := w) (base := base) T
  have c_L_hues := ok_hues (P := P) (w := w) (base := base) T
  obtain ⟨fd, F⟩ := T.F_L_table
  refine ⟨_, fd, ["_law_hand_here"], [], ?_, T.g_L_table, F.kp, (F.bindsN (fun _ _ _ _ _ _ us hl => match us, hl with | [_], _ => rfl)), .nil⟩
  refine F.ok sc_L_table (fun vs H Q E h => ?_) (fun cdv A outer s H vs Q E hr h => ?_)
  · obtain ⟨a, c, rfl, _⟩ := h
    rfl
  · obtain ⟨a, c, rfl, ha, k⟩ := h
    refine ⟨_, PSs.nox (pss_cons (ps_set (i := 1) sc_L_table.nd rfl (.inl rfl) (pe_op op_add pe_int (C8.pe_c (c_L_take) hr (by omega) (by rfl) (pa_cons (pv 0) (pa_cons pe_int pa_nil)))))
      (pss_cons (ps_set (i := 2) sc_L_table.nd rfl (.inl rfl) (C8.pe_c (c_L_picture) hr (by omega) (by rfl) (pa_cons (pv 0) (pa_cons (pe_ifExp (pt_cmpR op_gt (pv 1) pe_int (nomark _)) pe_int pe_int) (pa_cons (pv 1) pa_nil)))))
      (pss_cons (ps_set (i := 3) sc_L_table.nd rfl (.inl rfl) (pe_callB (call_lenK' K rfl) (by rfl) T.f_len (by decide +kernel) (pa_cons (pe_ix (ix_list' K rfl) (pv 2) pe_int (fun _ _ => rfl)) pa_nil)))
      (pss_cons (ps_set (i := 4) sc_L_table.nd rfl (.inl rfl) (C8.pe_c (c_L_unlike) hr (by omega) (by rfl) (pa_cons (pv 0) (pa_cons (pv 3) (pa_cons (pe_op op_add pe_int (pe_op op_mul (C8.pe_c (c_L_take) hr (by omega) (by rfl) (pa_cons (pv 0) (pa_cons pe_int pa_nil))) (C8.pe_c (c_L_take) hr (by omega) (by rfl) (pa_cons (pv 0) (pa_cons (pv 3) pa_nil))))) pa_nil)))))
      (pss_cons (ps_set (i := 5) sc_L_table.nd rfl (.inl rfl) (C8.pe_c (c_L_unlike) hr (by omega) (by rfl) (pa_cons (pv 0) (pa_cons (pv 3) (pa_cons (pe_op op_add pe_int (pe_op op_mul (C8.pe_c (c_L_take) hr (by omega) (by rfl) (pa_cons (pv 0) (pa_cons pe_int pa_nil))) (C8.pe_c (c_L_take) hr (by omega) (by rfl) (pa_cons (pv 0) (pa_cons (pv 3) pa_nil))))) pa_nil)))))
      (pss_one (ps_ret (pe_lst (pa_cons (pv 2) (pa_cons (pv 4) (pa_cons (pv 5) (pa_cons (C8.pe_c (c_L_hues) hr (by omega) (by rfl) (pa_cons (pv 0) (pa_cons (pe_ix (ix_list' K rfl) (pv 2) pe_int (fun _ _ => rfl)) (pa_cons pe_int pa_nil)))) pa_nil)))))))))))), ?_⟩
    try dsimp only [cxOf]
    walk_at "WK"
    refine r_take ha (by decide) (by decide) fun H1 r s1 h1 hr1 => ?_
    walk_at "WK"
    obtain ⟨most, hmost, hm2, hm5, hm4⟩ : ∃ most : Int, most = (if (2 : Int) < 1 + (r : Int) then 4 else 5) ∧ 2 ≤ most ∧ most ≤ 5 ∧ (2 < 1 + (r : Int) → most = 4) := ⟨_, rfl, by split <;> omega, by split <;> omega, fun z => if_pos z⟩
    refine r_ifC ?_
    have em : (if decide ((2 : Int) < 1 + (r : Int)) = true then V.int 4 else V.int 5) = V.int most := by
      rw [hmost]
      by_cases z : (2 : Int) < 1 + (r : Int)
      · rw [if_pos z, if_pos (decide_eq_true z)]
      · rw [if_neg z, if_neg (by rw [decide_eq_false z]; exact fun q => Bool.noConfusion q)]
    rw [em]
    walk_at "WK"
    refine r_pict h1 hm2 hm5 (by omega) (by omega) fun H2 wA l t m ts cols ps mks s2 h2 W hcm hmx => ?_
    have s12 := dr_then s1 s2
    have hw2 := dr_same _ _ W.at_
    have hm2' := dr_same _ _ W.m
    have hl2' := dr_same _ _ W.l
    have e2 : atI [V.ref l, V.ref t, V.ref m] 2 = some (V.ref m) := atI_nat (j := 2) rfl
    have e0 : atI [V.ref l, V.ref t, V.ref m] 0 = some (V.ref l) := atI_nat (j := 0) rfl
    have hvm := vN_len mks
    have hmks4 : mks.length ≤ 4 := by omega
    have hm1 := W.m1
    walk_at "WK"
    rw [hvm]
    refine r_take h2 (by decide) (by decide) fun H3 r3 s3 h3 hr3 => ?_
    have s13 := dr_then s12 s3
    walk_at "WK"
    refine r_take h3 (by omega) (by omega) fun H4 r4 s4 h4 hr4 => ?_
    have s14 := dr_then s13 s4
    have e34 := prod_bd (a := r3) (b := r4) (by omega) (by omega)
    refine r_mul (.inl ⟨by omega, by omega⟩) ?_
    rw [e34.1]
    walk_at "WK"
    refine r_unl h4 (by omega) (by omega) (by omega) fun H5 mi ms s5 h5 hmi hnd hlt hml => ?_
    have hml2 : 1 ≤ ms.length ∧ ms.length ≤ 4 := by omega
    have d25 : Same (dr H2 a) (dr H5 a) := (dr_dr s3).trans ((dr_dr s4).trans (dr_dr s5))
    have s15 := dr_then s14 s5
    have W5 := W.ext d25
    have h2o := h2
    clear s12 h2 s3 h3 s4 h4 s13 s14 hw2 hm2' hl2'
    have s12 := s15
    have h2 := h5
    walk_at "WK"
    refine r_take h2 (by decide) (by decide) fun H6 r6 s6 h6 hr6 => ?_
    have s16 := dr_then s12 s6
    walk_at "WK"
    refine r_take h6 (by omega) (by omega) fun H7 r7 s7 h7 hr7 => ?_
    have s17 := dr_then s16 s7
    have e67 := prod_bd (a := r6) (b := r7) (by omega) (by omega)
    refine r_mul (.inl ⟨by omega, by omega⟩) ?_
    rw [e67.1]
    walk_at "WK"
    refine r_unl h7 (by omega) (by omega) (by omega) fun H8 th os s8 h8 hth hnd2 hlt2 hol => ?_
    have hol2 : 1 ≤ os.length ∧ os.length ≤ 4 := by omega
    have d58 : Same (dr H5 a) (dr H8 a) := (dr_dr s6).trans ((dr_dr s7).trans (dr_dr s8))
    have s18 := dr_then s17 s8
    have W8 := W5.ext d58
    have hw8 := dr_same _ _ W8.at_
    have hcl := W.c2
    walk_at "WK"
    refine r_hues h8 W8.l (by omega) W.c9 fun H9 hu hs s9 h9 hhu hnd3 hh99 hh1 hh3 => ?_
    have d89 := dr_dr s9
    walk_at "WK"
    intro q hq
    have sq := same_new hq (o := .lst [.ref wA, .ref mi, .ref th, .ref hu])
    have dq : Same (dr H9 a) (dr (upd H9 q (.lst [.ref wA, .ref mi, .ref th, .ref hu])) a) := dr_mono sq
    have d5q := (d58.trans d89).trans dq
    exact k _ q wA mi th hu l t m ts cols ps mks ms os hs ((dr_then s18 s9).trans sq) (h9.ext sq) ⟨(dr_ne (h9.fresh hq).1).trans upd_same, W5.ext d5q, d5q _ _ hmi, (d89.trans dq) _ _ hth, dq _ _ hhu, ⟨hml2.1, hml2.2, hlt, hnd⟩, ⟨hol2.1, hol2.2, hlt2, hnd2⟩, ⟨hh1, hh3, fun v hv => by have := hh99 v hv; omega, hnd3⟩, hmks4, by omega, by
      by_cases z : (2 : Int) < 1 + (r : Int)
      · have := hm4 z
        exact .inl (by omega)
      · exact .inr (by omega)⟩
end
end G6
end
section
set_option maxHeartbeats 4000000
set_option Elab.async false
set_option linter.all false
set_option maxRecDepth 100000
set_option maxHeartbeats 4000000
namespace G6
open PySem PySem.Spec PyProof.Rows L2 PySem.W
theorem r_sortN {K : PySem.W.Frag} {H : Hp} {Q : VK} {a : Addr} {ms : List Nat} (hx : LN H a ms) (k : ∀ q, H q = none → Q (.ref q) (upd H q (.lst (vN (srt ms))))) : rSortBD K [.ref a] H Q := by
  refine ⟨a, intB (ms.map fun n : Nat => (n : Int)), rfl, .of ?_, intB_ok _, fun q hq => ?_⟩
  · rw [hx]
    unfold intB
    rw [List.map_map, List.map_map]
    rfl
  · rw [sortB_int, srt_int]
    exact k q hq
theorem srt_take {ms : List Nat} {top most k : Nat} (om : MsOk ms most top) (hk : 1 ≤ k) : MsOk ((srt ms).take k) k top := by
  have hl := (srt_perm ms).length_eq
  have h1 := om.l1
  refine ⟨by rw [List.length_take]; omega, by rw [List.length_take]; omega, fun n hn => om.b n ((srt_perm ms).mem_iff.mp (List.mem_of_mem_take hn)), ?_⟩
  exact ((srt_perm ms).nodup_iff.mpr om.nd).sublist (List.take_sublist ..)
theorem ms_take {ms : List Nat} {top most k : Nat} (om : MsOk ms most top) (hk : 1 ≤ k) : MsOk (ms.take k) k top := by
  have h1 := om.l1
  exact ⟨by rw [List.length_take]; omega, by rw [List.length_take]; omega, fun n hn => om.b n (List.mem_of_mem_take hn), om.nd.sublist (List.take_sublist ..)⟩
theorem LN.drN {H : Hp} {a b : Addr} {ns : List Nat} (h : LN H b ns) (n : b ≠ a) : LN (dr H a) b ns := (dr_ne n).trans h
section
variable {P : Program} {w : World} {K : PySem.W.Frag} {mg : Str → Option Value} {base : Heap}
theorem r_more {H : Hp} {Q : VK} {E : XK} {a c l : Addr} {ms : List Nat} {n : Nat} (h : Hand H a c) (hl : LN (dr H a) l ms) (h1 : n ≤ 100) (h2 : ∀ v ∈ ms, v < n) (h3 : ms.Nodup) (k : ∀ H' q ms', Same (dr H a) H' → Hand H' a c → LN (dr H' a) q ms' → (∀ v ∈ ms, v ∈ ms') → (∀ v ∈ ms', v < n) → ms'.Nodup → Q (.ref q) H') : sp_mor ([.ref a, .ref l, .int (n : Int)] ++ []) H Q E := ⟨a, c, l, ms, n, rfl, h, hl, h1, h2, h3, k⟩
theorem sc_L_alone_right : FnScope ["_law_hand_here", "_law_picture_here", "_law_mine", "_law_hues_here", "_law_aim", "_law_rank", "_law_theirs", "_law_chosen", "_law_number_here", "_law_one", "_law_wider", "_law_union", "_law_hue", "_law_mark"] ["_law_hand_here", "_law_picture_here", "_law_mine", "_law_hues_here", "_law_aim", "_law_rank", "_law_theirs"] (defScope s_L_alone_right) := ⟨rfl, rfl, rfl, by decide +kernel, rfl, by decide +kernel, by decide +kernel⟩
def sp_alo (K : PySem.W.Frag) : Sp := fun vs H Q _ => ∃ (a c p mi hu aim th : Addr) (d : PicD) (ms os hs : List Nat) (wd : WishD) (rk : Nat), vs = [.ref a, .ref p, .ref mi, .ref hu, .ref aim, .int (rk : Int), .ref th] ∧ Hand H a c ∧ PicAt K (dr H a) p d ∧ PicG d ∧ LN (dr H a) mi ms ∧ LN (dr H a) hu hs ∧ dr H a aim = some (.tup (wishV wd)) ∧ LN (dr H a) th os ∧ MsOk ms 4 d.mks.length ∧ MsOk os 4 d.mks.length ∧ MsOk hs 3 100 ∧ WishG d wd ∧ Rk (Wd d ms os hs wd) rk ∧ ∀ H', Q (.bl true) H'
theorem ok_alone (T : TX K mg) : C8.Cal P w K mg base 9 "_law_alone_right" (sp_alo K) [] := by
  have c_fewest_pours := ok_fewest_pours (P := P) (w := w) (base := base) T
  have c_L_number := ok_number (P := P) (w := w) (base := base) T
  have c_L_more := ok_more (P := P) (w := w) (base := base) T
  obtain ⟨fd, F⟩ := T.F_L_alone_right
  refine ⟨_, fd, ["_law_hand_here", "_law_picture_here", "_law_mine", "_law_hues_here", "_law_aim", "_law_rank", "_law_theirs"], [], ?_, T.g_L_alone_right, F.kp, (F.bindsN (fun _ _ _ _ _ _ us hl => match us, hl with | [_, _, _, _, _, _, _], _ => rfl)), .nil⟩
  refine F.ok sc_L_alone_right (fun vs H Q E h => ?_) (fun cdv A outer s H vs Q E hr h => ?_)
  · obtain ⟨a, c, p, mi, hu, aim, th, d, ms, os, hs, wd, rk, rfl, _⟩ := h
    rfl
  · obtain ⟨a, c, p, mi, hu, aim, th, d, ms, os, hs, wd, rk, rfl, ha, hp, hg, hmi, hhu, haim, hth, om, oo, oh, hw, hrk, k⟩ := h
    have dH : Same (dr H a) H := dr_same
    have hmi0 := dH _ _ hmi
    refine ⟨_, PSs.nox (pss_cons (ps_set (i := 7) sc_L_alone_right.nd rfl (.inl rfl) (pe_slice (sl_list' K rfl) (pe_callB (cr_sortBD' K rfl hr.units) (by rfl) T.f_sorted (by decide +kernel) (pa_cons (pv 2) pa_nil)) po_none (po_some pe_int)))
      (pss_cons (ps_set (i := 8) sc_L_alone_right.nd rfl (.inl rfl) (C8.pe_c (c_L_number) hr (by omega) (by rfl) (pa_cons (C8.pe_c (c_fewest_pours) hr (by omega) (by rfl) (pa_cons (pv 1) (pa_cons (pv 7) (pa_cons (pv 3) (pa_cons (pv 4) pa_nil))))) pa_nil)))
      (pss_cons (ps_if (PW.pt (pw_or (pt_cmpR op_lt (pv 8) pe_int (nomark _)) (pw_or1 (pt_cmpR op_lt (C8.pe_c (c_L_number) hr (by omega) (by rfl) (pa_cons (C8.pe_c (c_fewest_pours) hr (by omega) (by rfl) (pa_cons (pv 1) (pa_cons (pe_slice (sl_list' K rfl) (C8.pe_c (c_L_more) hr (by omega) (by rfl) (pa_cons (pv 0) (pa_cons (pe_slice (sl_list' K rfl) (pv 7) po_none (po_some pe_int)) (pa_cons (pe_callB (call_lenK' K rfl) (by rfl) T.f_len (by decide +kernel) (pa_cons (pe_fld' K rfl (pv 1) rfl) pa_nil)) pa_nil)))) po_none (po_some pe_int)) (pa_cons (pv 3) (pa_cons (pv 4) pa_nil))))) pa_nil)) pe_int (nomark _))))) (pss_one (ps_ret pe_bl)) pss_nil)
      (pss_cons (ps_set (i := 9) sc_L_alone_right.nd rfl (.inl rfl) (C8.pe_c (c_L_number) hr (by omega) (by rfl) (pa_cons (C8.pe_c (c_fewest_pours) hr (by omega) (by rfl) (pa_cons (pv 1) (pa_cons (pe_slice (sl_list' K rfl) (pv 7) po_none (po_some pe_int)) (pa_cons (pv 3) (pa_cons (pv 4) pa_nil))))) pa_nil)))
      (pss_cons (ps_set (i := 10) sc_L_alone_right.nd rfl (.inl rfl) (pe_op op_cat (pe_callTy (call_listK' K rfl) (by rfl) T.f_list (by decide +kernel) (pa_cons (pv 3) pa_nil)) (pe_slice (sl_list' K rfl) (pe_lc (own := [("_law_hue", 12)]) (g := gName 12) (by rfl) sc_L_alone_right.nd (pi_range1 (by rfl) T.f_range (pa_cons pe_int pa_nil)) (blkOk_by (own := [("_law_hue", 12)]) (N := ["_law_hand_here", "_law_picture_here", "_law_mine", "_law_hues_here", "_law_aim", "_law_rank", "_law_theirs", "_law_chosen", "_law_number_here", "_law_one", "_law_wider", "_law_union", "_law_hue", "_law_mark"]) (sc := defScope s_L_alone_right) (by decide +kernel)) (fun _ _ _ _ _ => (pg_name (i := 12) sc_L_alone_right.nd rfl (.inl rfl))) (fun _ _ _ _ _ => (pts_one (pt_cmpR (op_notIn_seq' K rfl) (pv 12) (pv 3) (by rfl)))) (fun _ _ _ _ _ => (pv 12))) po_none (po_some pe_int))))
      (pss_cons (ps_if (PW.pt (pw_or (pt_cmpR op_lt (pv 9) (pv 8) (nomark _)) (pw_or1 (pt_cmpR op_gt (C8.pe_c (c_L_number) hr (by omega) (by rfl) (pa_cons (C8.pe_c (c_fewest_pours) hr (by omega) (by rfl) (pa_cons (pv 1) (pa_cons (pv 7) (pa_cons (pv 10) (pa_cons (pv 4) pa_nil))))) pa_nil)) (pv 8) (nomark _))))) (pss_one (ps_ret pe_bl)) pss_nil)
      (pss_cons (ps_setLc (i := 11) (own := [("_law_mark", 13)]) (g := gName 13) (by rfl) sc_L_alone_right.nd rfl rfl (sw_true rfl rfl rfl (by decide +kernel)) (pi_range1 (by rfl) T.f_range (pa_cons pe_int pa_nil)) (blkOk_by (own := [("_law_mark", 13)]) (N := ["_law_hand_here", "_law_picture_here", "_law_mine", "_law_hues_here", "_law_aim", "_law_rank", "_law_theirs", "_law_chosen", "_law_number_here", "_law_one", "_law_wider", "_law_union", "_law_hue", "_law_mark"]) (sc := defScope s_L_alone_right) (by decide +kernel)) (fun _ _ _ _ _ => (pg_name (i := 13) sc_L_alone_right.nd rfl (.inl rfl))) (fun _ _ _ _ _ => (pts_one (PW.pt (pw_or (pt_cmpR (op_in_seq' K rfl) (pv 13) (pv 2) (by rfl)) (pw_or1 (pt_cmpR (op_in_seq' K rfl) (pv 13) (pv 6) (by rfl))))))) (fun _ _ _ _ _ => (pv 13)))
      (pss_cons (ps_if (PW.pt (pw_and (pt_cmpR op_lt (pe_callB (call_lenK' K rfl) (by rfl) T.f_len (by decide +kernel) (pa_cons (pv 11) pa_nil)) pe_int (nomark _)) (pw_and1 (pt_cmpR op_lt (pv 5) pe_int (nomark _))))) (pss_one (ps_ret (pe_cmpR op_le (C8.pe_c (c_L_number) hr (by omega) (by rfl) (pa_cons (C8.pe_c (c_fewest_pours) hr (by omega) (by rfl) (pa_cons (pv 1) (pa_cons (pv 11) (pa_cons (pv 3) (pa_cons (pv 4) pa_nil))))) pa_nil)) (pe_op op_mul pe_int (pv 5)) (nomark _)))) pss_nil)
      (pss_one (ps_ret pe_bl)))))))))), ?_⟩
    try dsimp only [cxOf]
    walk_at "WK"
    refine r_sortN hmi0 fun q hq => ?_
    have s1 := same_new hq (o := .lst (vN (srt ms)))
    have hq1 : LN (upd H q (.lst (vN (srt ms)))) q (srt ms) := upd_same
    have h1 := ha.ext s1
    generalize upd H q (.lst (vN (srt ms))) = H1 at s1 hq1 h1 ⊢
    walk_at "WK"
    refine k_slL_tN (by decide) hq1 fun ch hch => ?_
    have e2 : (vN (srt ms)).take (2 : Int).toNat = vN ((srt ms).take 2) := vN_take _ _
    rw [e2]
    have oc := srt_take om (k := 2) (by decide)
    have hcs : ∀ v ∈ (srt ms).take 2, v ∈ ms := fun v hv => (srt_perm ms).mem_iff.mp (List.mem_of_mem_take hv)
    generalize (srt ms).take 2 = cs at oc hcs ⊢
    have s2 := s1.trans (same_new hch (o := .lst (vN cs)))
    have h2 := h1.ext (same_new hch (o := .lst (vN cs)))
    have hch2 : LN (upd H1 ch (.lst (vN cs))) ch cs := upd_same
    have nch : ch ≠ a := (h1.fresh hch).1
    generalize upd H1 ch (.lst (vN cs)) = H2 at s2 h2 hch2 ⊢
    have D2 := dr_mono (x := a) s2
    have hpB := hp.ext D2
    have hmiB := D2 _ _ hmi
    have hhuB := D2 _ _ hhu
    have haimB := D2 _ _ haim
    have hthB := D2 _ _ hth
    have hchB := hch2.drN nch
    obtain ⟨dx, pc, pt, pm, pts, g1, g2, g3, g4, g5⟩ := id hpB
    clear hp hmi hhu haim hth dH hmi0 hq hq1 s1 h1 hch s2 D2
    have t2 : Same (dr H2 a) H2 := dr_same
    have x1 := t2 _ _ hhuB
    have x2 := t2 _ _ haimB
    have x3 := t2 _ _ hchB
    walk_at "WK"
    refine r_fewest (hpB.ext t2) hg hch2 x1 x2 oc ⟨oh.l1, by have := oh.l2; omega, oh.b, oh.nd⟩ hw fun H3 y1 s3 A1 => ?_
    refine r_nil (r_numD A1 fun r1 R1 => ?_)
    have h3 := h2.ext s3
    have t3 := t2.trans s3
    clear x1 x2 x3
    have x3 := t3 _ _ hchB
    walk_at "WK"
    refine k_slL_tN (by decide) x3 fun c1 hc1 => ?_
    have e1 : (vN cs).take (1 : Int).toNat = vN (cs.take 1) := vN_take _ _
    rw [e1]
    have t4 := t3.trans (same_new hc1 (o := .lst (vN (cs.take 1))))
    have h4 := h3.ext (same_new hc1 (o := .lst (vN (cs.take 1))))
    have hc4 : LN (dr (upd H3 c1 (.lst (vN (cs.take 1)))) a) c1 (cs.take 1) := LN.drN upd_same (h3.fresh hc1).1
    generalize upd H3 c1 (.lst (vN (cs.take 1))) = H4 at t4 h4 hc4 ⊢
    have oc1 := ms_take oc (k := 1) (by decide)
    have y1' := t4 _ _ g1
    have y2' := t4 _ _ g5
    have hvm := vN_len d.mks
    have hmks4 := hg.W.ml
    clear x3
    walk_at "WK"
    rw [hvm]
    refine r_more h4 hc4 (by omega) oc1.b oc1.nd fun H5 q5 ms5 s5 h5 hq5 hsub hlt5 hnd5 => ?_
    have t5 := dr_then t4 s5
    have hq5' := dr_same _ _ hq5
    have om5 : MsOk ms5 100 d.mks.length := by
      have hl := nodup_lt_len hnd5 hlt5
      refine ⟨?_, by omega, hlt5, hnd5⟩
      obtain ⟨v, hv⟩ := List.exists_mem_of_ne_nil _ (List.length_pos_iff.mp oc1.l1)
      exact List.length_pos_of_mem (hsub v hv)
    clear y1' y2'
    walk_at "WK"
    refine k_slL_tN (by decide) hq5' fun c5 hc5 => ?_
    have e5 : (vN ms5).take (2 : Int).toNat = vN (ms5.take 2) := vN_take _ _
    rw [e5]
    have t6 := t5.trans (same_new hc5 (o := .lst (vN (ms5.take 2))))
    have h6 := h5.ext (same_new hc5 (o := .lst (vN (ms5.take 2))))
    have hc6 : LN (upd H5 c5 (.lst (vN (ms5.take 2)))) c5 (ms5.take 2) := upd_same
    generalize upd H5 c5 (.lst (vN (ms5.take 2))) = H6 at t6 h6 hc6 ⊢
    have x1 := t6 _ _ hhuB
    have x2 := t6 _ _ haimB
    walk_at "WK"
    refine r_fewest (hpB.ext t6) hg hc6 x1 x2 (ms_take om5 (by decide)) ⟨oh.l1, by have := oh.l2; omega, oh.b, oh.nd⟩ hw fun H7 y2 s7 A2 => ?_
    refine r_nil (r_numD A2 fun r2 R2 => ?_)
    have h7 := h6.ext s7
    have t7 := t6.trans s7
    have x3 := t7 _ _ hchB
    clear x1 x2
    walk_at "WK"
    refine k_slL_tN (by decide) x3 fun c8 hc8 => ?_
    rw [e1]
    have t8 := t7.trans (same_new hc8 (o := .lst (vN (cs.take 1))))
    have h8 := h7.ext (same_new hc8 (o := .lst (vN (cs.take 1))))
    have hc8' : LN (upd H7 c8 (.lst (vN (cs.take 1)))) c8 (cs.take 1) := upd_same
    generalize upd H7 c8 (.lst (vN (cs.take 1))) = H8 at t8 h8 hc8' ⊢
    have x1 := t8 _ _ hhuB
    have x2 := t8 _ _ haimB
    walk_at "WK"
    refine r_fewest (hpB.ext t8) hg hc8' x1 x2 ⟨oc1.l1, by have := oc1.l2; omega, oc1.b, oc1.nd⟩ ⟨oh.l1, by have := oh.l2; omega, oh.b, oh.nd⟩ hw fun H9 y3 s9 A3 => ?_
    refine r_nil (r_numD A3 fun r3 R3 => ?_)
    have h9 := h8.ext s9
    have t9 := t8.trans s9
    have l13 : r1 ≤ r3 := R3.le R1 fun n z => z.more (fun m hm => List.mem_of_mem_take hm) fun _ z => z
    clear x1 x2 x3
    have x1 := t9 _ _ hhuB
    walk_at "WK"
    intro lA hlA
    have t10 := t9.trans (same_new hlA (o := .lst (vN hs)))
    have h10 := h9.ext (same_new hlA (o := .lst (vN hs)))
    have hl10 : LN (upd H9 lA (.lst (vN hs))) lA hs := upd_same
    clear x1
    generalize upd H9 lA (.lst (vN hs)) = H10 at t10 h10 hl10 ⊢
    walk_at "WK"
    refine r_ir1k (by omega) (by omega) ?_
    refine lc_R (fun D i H' => Same H10 H' ∧ H10 D = none ∧ LN H' D ((List.range i).filter fun v => !decide (v ∈ hs))) (fun D hD => ⟨same_new hD, hD, upd_same⟩) ?_ ?_
    · rintro D i H' hi ⟨s11, nD, hD⟩
      have hi : i < 100 := hi
      have x1 := s11 _ _ (t10 _ _ hhuB)
      have hb : ((List.range i).filter fun v => !decide (v ∈ hs)).length ≤ i := by
        have := List.length_filter_le (fun v => !decide (v ∈ hs)) (List.range i)
        rwa [List.length_range] at this
      have e0 : (0 : Int) + (i : Int) = (i : Int) := by omega
      rw [e0]
      walk_at "WK"
      simp only [if_true]
      have er : List.range (i + 1) = List.range i ++ [i] := List.range_succ
      by_cases hin : i ∈ hs
      · rw [decide_eq_true hin]
        walk_at "WK"
        refine ⟨s11, nD, ?_⟩
        rw [er, List.filter_append]
        simp only [List.filter_cons, decide_eq_true hin, List.filter_nil]
        simpa using hD
      · rw [decide_eq_false hin]
        walk_at "WK"
        refine r_eltk hD (lt_sz (by rw [vN_len]; omega)) ?_
        rw [vN_app]
        refine ⟨same_of s11 nD, nD, ?_⟩
        rw [er, List.filter_append]
        simp only [List.filter_cons, decide_eq_false hin, List.filter_nil]
        exact upd_same
    · rintro fA H11 ⟨s11, nfA, hfA⟩
      have hfA : LN H11 fA ((List.range 100).filter fun v => !decide (v ∈ hs)) := hfA
      have t11 := t10.trans s11
      have h11 := h10.ext s11
      have hl11 := s11 _ _ hl10
      have hF : ∀ v ∈ (List.range 100).filter (fun v => !decide (v ∈ hs)), v < 100 ∧ v ∉ hs := fun v hv => by
        obtain ⟨z1, z2⟩ := List.mem_filter.mp hv
        refine ⟨List.mem_range.mp z1, fun z => ?_⟩
        rw [decide_eq_true z] at z2
        cases z2
      have hFn : ((List.range 100).filter fun v => !decide (v ∈ hs)).Nodup := List.nodup_range.sublist List.filter_sublist
      generalize (List.range 100).filter (fun v => !decide (v ∈ hs)) = fr at hfA hF hFn
      walk_at "WK"
      refine k_slL_tN (by decide) hfA fun c12 hc12 => ?_
      have e12 : (vN fr).take (1 : Int).toNat = vN (fr.take 1) := vN_take _ _
      rw [e12]
      have t12 := t11.trans (same_new hc12 (o := .lst (vN (fr.take 1))))
      have h12 := h11.ext (same_new hc12 (o := .lst (vN (fr.take 1))))
      have hl12 := same_new hc12 (o := .lst (vN (fr.take 1))) _ _ hl11
      have hc12' : LN (upd H11 c12 (.lst (vN (fr.take 1)))) c12 (fr.take 1) := upd_same
      generalize upd H11 c12 (.lst (vN (fr.take 1))) = H12 at t12 h12 hl12 hc12' ⊢
      have ohl := oh.l2
      refine r_cat hl12 hc12' (le_sz (by rw [vN_len, vN_len, List.length_take]; omega)) fun wA hwA => ?_
      have ew : vN hs ++ vN (fr.take 1) = vN (hs ++ fr.take 1) := by simp [vN]
      rw [ew]
      have ohw : MsOk (hs ++ fr.take 1) 4 100 := by
        refine ⟨by rw [List.length_append]; have := oh.l1; omega, by rw [List.length_append, List.length_take]; omega, fun n hn => ?_, List.nodup_append.mpr ⟨oh.nd, hFn.sublist (List.take_sublist ..), fun x hx y hy z => ?_⟩⟩
        · rcases List.mem_append.mp hn with z | z
          · exact oh.b n z
          · exact (hF n (List.mem_of_mem_take z)).1
        · rw [← z] at hy
          exact (hF x (List.mem_of_mem_take hy)).2 hx
      have t13 := t12.trans (same_new hwA (o := .lst (vN (hs ++ fr.take 1))))
      have h13 := h12.ext (same_new hwA (o := .lst (vN (hs ++ fr.take 1))))
      have hw13 : LN (upd H12 wA (.lst (vN (hs ++ fr.take 1)))) wA (hs ++ fr.take 1) := upd_same
      generalize upd H12 wA (.lst (vN (hs ++ fr.take 1))) = H13 at t13 h13 hw13 ⊢
      have x2 := t13 _ _ haimB
      have x3 := t13 _ _ hchB
      walk_at "WK"
      refine r_fewest (hpB.ext t13) hg x3 hw13 x2 oc ohw hw fun H14 y4 s14 A4 => ?_
      refine r_nil (r_numD A4 fun r4 R4 => ?_)
      have h14 := h13.ext s14
      have t14 := t13.trans s14
      have l41 : r4 ≤ r1 := R1.le R4 fun n z => z.more (fun _ y => y) fun m hm => List.mem_append.mpr (.inl hm)
      clear x2 x3
      walk_at "WK"
      refine r_ir1k (by omega) (by omega) ?_
      refine lc_R (fun D i H' => Same H14 H' ∧ H14 D = none ∧ LN H' D ((List.range i).filter fun v => decide (v ∈ ms) || decide (v ∈ os))) (fun D hD => ⟨same_new hD, hD, upd_same⟩) ?_ ?_
      · rintro D i H' hi ⟨s15, nD, hD⟩
        have hi : i < 4 := hi
        have x1 := s15 _ _ (t14 _ _ hmiB)
        have x2 := s15 _ _ (t14 _ _ hthB)
        have hb : ((List.range i).filter fun v => decide (v ∈ ms) || decide (v ∈ os)).length ≤ i := by
          have := List.length_filter_le (fun v => decide (v ∈ ms) || decide (v ∈ os)) (List.range i)
          rwa [List.length_range] at this
        have e0 : (0 : Int) + (i : Int) = (i : Int) := by omega
        rw [e0]
        have er : List.range (i + 1) = List.range i ++ [i] := List.range_succ
        have yes : (decide (i ∈ ms) || decide (i ∈ os)) = true → Same H14 (upd H' D (.lst (vN (((List.range i).filter fun v => decide (v ∈ ms) || decide (v ∈ os)) ++ [i])))) ∧ H14 D = none ∧ LN (upd H' D (.lst (vN (((List.range i).filter fun v => decide (v ∈ ms) || decide (v ∈ os)) ++ [i])))) D ((List.range (i + 1)).filter fun v => decide (v ∈ ms) || decide (v ∈ os)) := fun q => by
          refine ⟨same_of s15 nD, nD, ?_⟩
          rw [er, List.filter_append]
          simp only [List.filter_cons, q, if_true, List.filter_nil]
          exact upd_same
        walk_at "WK"
        simp only [Bool.false_eq_true, if_false]
        by_cases hin : i ∈ ms
        · rw [decide_eq_true hin] at yes ⊢
          walk_at "WK"
          simp only [if_true]
          walk_at "WK"
          refine r_eltk hD (lt_sz (by rw [vN_len]; omega)) ?_
          rw [vN_app]
          exact yes rfl
        · rw [decide_eq_false hin]
          walk_at "WK"
          simp only [Bool.false_eq_true, if_false]
          by_cases hio : i ∈ os
          · rw [decide_eq_true hio] at yes ⊢
            walk_at "WK"
            refine r_eltk hD (lt_sz (by rw [vN_len]; omega)) ?_
            rw [vN_app]
            exact yes (by simp)
          · rw [decide_eq_false hio]
            walk_at "WK"
            refine ⟨s15, nD, ?_⟩
            rw [er, List.filter_append]
            simp only [List.filter_cons, decide_eq_false hin, decide_eq_false hio, List.filter_nil]
            simpa using hD
      · rintro uA H15 ⟨s15, nuA, huA⟩
        have huA : LN H15 uA ((List.range 4).filter fun v => decide (v ∈ ms) || decide (v ∈ os)) := huA
        have t15 := t14.trans s15
        have hUm : ∀ v, v ∈ (List.range 4).filter (fun v => decide (v ∈ ms) || decide (v ∈ os)) ↔ v ∈ ms ∨ v ∈ os := fun v => by
          rw [List.mem_filter, List.mem_range, Bool.or_eq_true, decide_eq_true_iff, decide_eq_true_iff]
          refine ⟨fun z => z.2, fun z => ⟨?_, z⟩⟩
          rcases z with z | z
          · have := om.b v z
            omega
          · have := oo.b v z
            omega
        have hUn : ((List.range 4).filter fun v => decide (v ∈ ms) || decide (v ∈ os)).Nodup := List.nodup_range.sublist List.filter_sublist
        generalize (List.range 4).filter (fun v => decide (v ∈ ms) || decide (v ∈ os)) = us at huA hUm hUn
        have hvu := vN_len us
        by_cases hc : us.length < 3 ∧ rk < 1000000
        · obtain ⟨hc1, hc2⟩ := hc
          have ou : MsOk us 2 d.mks.length := by
            refine ⟨?_, by omega, fun n hn => ?_, hUn⟩
            · obtain ⟨v, hv⟩ := List.exists_mem_of_ne_nil _ (List.length_pos_iff.mp om.l1)
              exact List.length_pos_of_mem ((hUm v).mpr (.inl hv))
            · rcases (hUm n).mp hn with z | z
              · exact om.b n z
              · exact oo.b n z
          have x1 := t15 _ _ hhuB
          have x2 := t15 _ _ haimB
          generalize hM : (1000000 : Int) = M
          walk_at "WK"
          refine r_fewest (hpB.ext t15) hg huA x1 x2 ou ⟨oh.l1, by have := oh.l2; omega, oh.b, oh.nd⟩ hw fun H16 y5 s16 A5 => ?_
          refine r_nil (r_numD A5 fun r5 R5 => ?_)
          have l5 : r5 ≤ 2 * rk := hrk.two R5 hc2 fun n z => z.dd (fun m hm => (hUm m).mpr (.inl hm)) (fun m hm => (hUm m).mpr (.inr hm)) (List.length_pos_iff.mp oo.l1) (List.length_pos_iff.mp oh.l1)
          walk_at "WK"
          refine r_mul (.inl ⟨by decide, by decide⟩) ?_
          walk_at "WK"
          rw [decide_eq_true (show (r5 : Int) ≤ 2 * (rk : Int) by omega)]
          exact k _
        · generalize hM : (1000000 : Int) = M
          by_cases hu3 : us.length < 3
          · have hrM : ¬ (rk : Int) < M := by omega
            walk_at "WK"
            exact k _
          · walk_at "WK"
            exact k _
end
end G6
end
section
set_option maxHeartbeats 4000000
set_option Elab.async false
set_option linter.all false
set_option maxRecDepth 100000
namespace G6
open PySem PySem.Spec PyProof.Rows L2 PySem.W
/-- a dict from numbers to numbers -/
def kvm (ps : List (Nat × Nat)) : List (Key × V) := ps.map fun p => ((Sum.inl (p.1 : Int) : Key), V.int (p.2 : Int))
theorem kvm_val : ∀ (ps : List (Nat × Nat)) (c : Nat), valV (kvm ps) (Sum.inl (c : Int) : Key) = (ps.find? fun p => decide (p.1 = c)).map fun p => V.int (p.2 : Int)
  | [], _ => rfl
  | p :: ps, c => by
    have ih := kvm_val ps c
    by_cases h : p.1 = c
    · have e : valV (kvm (p :: ps)) (Sum.inl (c : Int) : Key) = some (V.int (p.2 : Int)) := valV_pos (by show (Sum.inl (p.1 : Int) : Key) = _; rw [h])
      rw [e, List.find?_cons]
      simp [h]
    · have h2 : ¬ ((Sum.inl (p.1 : Int) : Key) = Sum.inl (c : Int)) := fun z => h (by have := Sum.inl.inj z; omega)
      rw [List.find?_cons]
      simp only [decide_eq_false h]
      rw [← ih]
      show valV (((Sum.inl (p.1 : Int) : Key), V.int (p.2 : Int)) :: kvm ps) _ = _
      unfold valV
      rw [List.find?_cons]
      simp only [decide_eq_false h2]
theorem kvm_in {ps : List (Nat × Nat)} {c : Nat} : (valV (kvm ps) (Sum.inl (c : Int) : Key)).isSome = decide (c ∈ ps.map (·.1)) := by
  rw [kvm_val, Option.isSome_map, Bool.eq_iff_iff, List.find?_isSome]
  simp only [decide_eq_true_eq, List.mem_map]
theorem kvm_put {ps : List (Nat × Nat)} {a b : Nat} (h : a ∉ ps.map (·.1)) : putK (kvm ps) (Sum.inl (a : Int) : Key) (.int (b : Int)) = kvm (ps ++ [(a, b)]) := by
  unfold putK
  rw [valV_any, kvm_in, decide_eq_false h]
  simp [kvm]
section
variable {P : Program} {w : World} {K : PySem.W.Frag} {mg : Str → Option Value} {base : Heap}
theorem sc_naming : FnScope ["pairs", "colours", "table", "news", "index", "pair", "colour"] ["pairs", "colours"] (defScope s_naming) := ⟨rfl, rfl, rfl, by decide +kernel, rfl, by decide +kernel, by decide +kernel⟩
def sp_nam (K : PySem.W.Frag) : Sp := fun vs H Q _ => ∃ (a b : Addr) (as : List Addr) (ps : List (Nat × Nat)) (cs : List Nat), vs = [.ref a, .ref b] ∧ H a = some (.lst (refs as)) ∧ CpT H as ps ∧ TN H b cs ∧ (ps.map (·.1)).Nodup ∧ (ps.map (·.2)).Nodup ∧ (∀ p ∈ ps, p.1 ≤ 99 ∧ p.2 ≤ 99) ∧ ps.length ≤ 1000 ∧ (∀ c ∈ cs, c ∈ ps.map (·.1)) ∧ ∀ H' t, Same H H' → H' t = some (.dK (kvm ps)) → Q (.ref t) H'
theorem ok_naming (T : TX K mg) : C8.Cal P w K mg base 2 "_naming" (sp_nam K) [] := by
  have c_is_whole := ok_is_whole (P := P) (w := w) (base := base) T
  obtain ⟨fd, F⟩ := T.F_naming
  refine ⟨_, fd, ["pairs", "colours"], [], ?_, T.g_naming, F.kp, (F.bindsN (fun _ _ _ _ _ _ us hl => match us, hl with | [_, _], _ => rfl)), .nil⟩
  refine F.ok sc_naming (fun vs H Q E h => ?_) (fun cdv A outer s H vs Q E hr h => ?_)
  · obtain ⟨a, b, as, ps, cs, rfl, _⟩ := h
    rfl
  · obtain ⟨a, b, as, ps, cs, rfl, ha, hC, hb, hn1, hn2, hbd, hl, hcs, k⟩ := h
    have hasl := hC.len
    refine ⟨_, PSs.nox (pss_cons (ps_if (pt_not (pt_val (pe_callB (call_isiT' K rfl) (by rfl) T.f_isinstance (by decide +kernel) (pa_cons (pv 0) (pa_cons (pe_tup (pa_cons (pe_bltn (v := .ty "list") (by rfl) T.f_list (by decide +kernel) rfl) (pa_cons (pe_bltn (v := .ty "tuple") (by rfl) T.f_tuple (by decide +kernel) rfl) pa_nil))) pa_nil))))) (pss_one ps_never) pss_nil)
      (pss_cons (ps_set (i := 2) sc_naming.nd rfl (.inl rfl) pe_dnewK)
      (pss_cons (ps_set (i := 3) sc_naming.nd rfl (.inl rfl) (pe_lst pa_nil))
      (pss_cons (ps_for PassesOwn.never rfl (pi_enum' K rfl (by rfl) T.f_enumerate (pa_cons (pv 0) pa_nil)) (pg_tup' (n := 2) K rfl (by rfl) (pgs_cons (pg_name (i := 4) sc_naming.nd rfl (.inl rfl)) (pgs_cons (pg_name (i := 5) sc_naming.nd rfl (.inl rfl)) pgs_nil)) (by rfl)) (pss_cons (ps_if (PW.pt (pw_or (pt_not (pt_val (pe_callB (call_isiT' K rfl) (by rfl) T.f_isinstance (by decide +kernel) (pa_cons (pv 5) (pa_cons (pe_tup (pa_cons (pe_bltn (v := .ty "list") (by rfl) T.f_list (by decide +kernel) rfl) (pa_cons (pe_bltn (v := .ty "tuple") (by rfl) T.f_tuple (by decide +kernel) rfl) pa_nil))) pa_nil))))) (pw_or1 (pt_cmpR op_ne (pe_callB (call_lenK' K rfl) (by rfl) T.f_len (by decide +kernel) (pa_cons (pv 5) pa_nil)) pe_int (nomark _))))) (pss_one ps_never) pss_nil)
      (pss_cons (ps_if (PW.pt (pw_or (pt_not (pt_val (C8.pe_c (c_is_whole) hr (by omega) (by rfl) (pa_cons (pe_ix (ix_tup' K rfl) (pv 5) pe_int (fun _ _ => rfl)) (pa_cons pe_int (pa_cons (C8.pe_gc (by rfl) T.c_MOST_COLOUR) pa_nil)))))) (pw_or1 (pt_not (pt_val (C8.pe_c (c_is_whole) hr (by omega) (by rfl) (pa_cons (pe_ix (ix_tup' K rfl) (pv 5) pe_int (fun _ _ => rfl)) (pa_cons pe_int (pa_cons (C8.pe_gc (by rfl) T.c_MOST_COLOUR) pa_nil))))))))) (pss_one ps_never) pss_nil)
      (pss_cons (ps_if (PW.pt (pw_or (pt_cmp (pc_din hr.u1 (pe_ix (ix_tup' K rfl) (pv 5) pe_int (fun _ _ => rfl)) (pv 2))) (pw_or1 (pt_cmpR (op_in_seq' K rfl) (pe_ix (ix_tup' K rfl) (pv 5) pe_int (fun _ _ => rfl)) (pv 3) (by rfl))))) (pss_one ps_never) pss_nil)
      (pss_cons (ps_dput hr.u1 (pv 2) (pe_ix (ix_tup' K rfl) (pv 5) pe_int (fun _ _ => rfl)) (pe_ix (ix_tup' K rfl) (pv 5) pe_int (fun _ _ => rfl)) rfl)
      (pss_one (ps_expr (pe_bm' K rfl PySem.F.plainAttrs_list PySem.F.slot_list_append PySem.F.type_list_append mt_append (pv 3) (pa_cons (pe_ix (ix_tup' K rfl) (pv 5) pe_int (fun _ _ => rfl)) pa_nil)))))))))
      (pss_cons (ps_for PassesOwn.never rfl (pi_tup' K rfl (pv 1)) (pg_name (i := 6) sc_naming.nd rfl (.inl rfl)) (pss_one (ps_if (PW.pt (pw_and (pt_cmp (pc_dnotin hr.u1 (pv 6) (pv 2))) (pw_and1 (pt_cmpR (op_in_seq' K rfl) (pv 6) (pv 3) (by rfl))))) (pss_one ps_never) pss_nil)))
      (pss_one (ps_ret (pv 2)))))))), ?_⟩
    try dsimp only [cxOf]
    walk_at "WK"
    intro t1 ht1
    have s1 := same_new ht1 (o := .tup [.ty "list", .ty "tuple"])
    walk_at "WK"
    intro dA hdA
    have s2 := s1.trans (same_new hdA (o := .dK []))
    have nd : H dA = none := s1.free hdA
    walk_at "WK"
    intro nA hnA
    have nn : H nA = none := s2.free hnA
    have s3 := s2.trans (same_new hnA (o := .lst []))
    have nnd : nA ≠ dA := fun z => by rw [z, upd_same] at hnA; cases hnA
    have hd3 : upd (upd (upd H t1 (.tup [.ty "list", .ty "tuple"])) dA (.dK [])) nA (.lst []) dA = some (.dK []) := by walk_at "HL"
    have hn3 : upd (upd (upd H t1 (.tup [.ty "list", .ty "tuple"])) dA (.dK [])) nA (.lst []) nA = some (.lst []) := upd_same
    generalize upd (upd (upd H t1 (.tup [.ty "list", .ty "tuple"])) dA (.dK [])) nA (.lst []) = H3 at s3 hd3 hn3 ⊢
    walk_at "WK"
    refine for_EL (xs := refs as) (fun i σ H' => ∃ y4 y5 y6, σ = [some (.ref a), some (.ref b), some (.ref dA), some (.ref nA), y4, y5, y6] ∧ Same H H' ∧ H' dA = some (.dK (kvm (ps.take i))) ∧ H' nA = some (.lst (vN ((ps.take i).map (·.2))))) ⟨_, _, _, rfl, s3, hd3, hn3⟩ (fun i σ H' _ h => by obtain ⟨_, _, _, _, h, _⟩ := h; exact h _ _ ha) ?_ ?_
    · rintro i y σ H' tt hy ⟨y4, y5, y6, rfl, s4, hd4, hn4⟩ htt
      obtain ⟨pa, hpa, rfl⟩ := refs_inv hy
      obtain ⟨p, hp, hpt⟩ := hC.getL hpa
      have hb1 := hbd p (List.mem_of_getElem? hp)
      have hpi := (List.getElem?_eq_some_iff.mp hp).1
      have k1 : p.1 ∉ (ps.take i).map (·.1) := by
        rw [List.map_take]
        exact nodup_take' hn1 (by rw [List.getElem?_map, hp]; rfl)
      have k2 : p.2 ∉ (ps.take i).map (·.2) := by
        rw [List.map_take]
        exact nodup_take' hn2 (by rw [List.getElem?_map, hp]; rfl)
      have sT := same_new htt (o := .tup [.int (i : Int), .ref pa])
      have s5 := s4.trans sT
      have hd5 := sT _ _ hd4
      have hn5 := sT _ _ hn4
      have ht5 : upd H' tt (.tup [.int (i : Int), .ref pa]) tt = some (.tup [.int (i : Int), .ref pa]) := upd_same
      have hp5 := s5 _ _ hpt
      generalize upd H' tt (.tup [.int (i : Int), .ref pa]) = H5 at s5 hd5 hn5 ht5 hp5 ⊢
      have tk : ps.take (i + 1) = ps.take i ++ [p] := by rw [List.take_add_one, hp]; rfl
      walk_at "WK"
      intro t2 ht2
      have s6 := s5.trans (same_new ht2 (o := .tup [.ty "list", .ty "tuple"]))
      have hd6 := (same_new ht2 (o := .tup [.ty "list", .ty "tuple"])) _ _ hd5
      have hn6 := (same_new ht2 (o := .tup [.ty "list", .ty "tuple"])) _ _ hn5
      have hp6 := (same_new ht2 (o := .tup [.ty "list", .ty "tuple"])) _ _ hp5
      have ht6 : upd H5 t2 (.tup [.ty "list", .ty "tuple"]) t2 = some (.tup [.ty "list", .ty "tuple"]) := upd_same
      generalize upd H5 t2 (.tup [.ty "list", .ty "tuple"]) = H6 at s6 hd6 hn6 hp6 ht6 ⊢
      walk_at "WK"
      refine r_ifF2 (by simp only [Bool.false_eq_true, if_false]; rw [kvm_in]; exact decide_eq_false k1) ?_
      walk_at "WK"
      refine r_dputk hd6 (lt_sz (by rw [kvm, List.length_map, List.length_take]; omega)) ?_
      rw [kvm_put k1]
      have e7 : upd H6 dA (.dK (kvm (ps.take i ++ [(p.1, p.2)]))) nA = some (.lst (vN ((ps.take i).map (·.2)))) := by walk_at "HL"
      have hp7 : upd H6 dA (.dK (kvm (ps.take i ++ [(p.1, p.2)]))) pa = _ := (upd_ne (fun z => by rw [z, hd6] at hp6; cases hp6)).trans hp6
      walk_at "WK"
      refine r_append e7 (lt_sz (by rw [vN_len, List.length_map, List.length_take]; omega)) ?_
      rw [vN_app]
      refine ⟨_, _, _, rfl, same_of (same_of s6 nd) nn, ?_, ?_⟩
      · rw [tk]
        exact (upd_ne nnd.symm).trans upd_same
      · rw [tk, List.map_append]
        exact upd_same
    · rintro σ H4 ⟨y4, y5, y6, rfl, s4, hd4, hn4⟩
      rw [List.length_map, hasl, List.take_length] at hd4 hn4
      walk_at "WK"
      refine for_T (xs := vN cs) (fun i σ H' => ∃ y6, σ = [some (.ref a), some (.ref b), some (.ref dA), some (.ref nA), y4, y5, y6] ∧ H' = H4) ⟨_, rfl, rfl⟩ (fun i σ H' _ h => by obtain ⟨_, _, rfl⟩ := h; exact s4 _ _ hb) ?_ ?_
      · rintro i y σ H' hy ⟨y6, rfl, rfl⟩
        obtain ⟨c, hc, rfl⟩ := vN_inv hy
        have hcm := hcs c (List.mem_of_getElem? hc)
        walk_at "WK"
        rw [if_pos rfl, kvm_in, decide_eq_true hcm]
        walk_at "WK"
        exact ⟨_, rfl, rfl⟩
      · rintro σ H' ⟨y6, rfl, rfl⟩
        walk_at "WK"
        exact k _ dA s4 hd4
theorem r_nam {H : Hp} {Q : VK} {E : XK} {a b : Addr} {as : List Addr} {ps : List (Nat × Nat)} {cs : List Nat} (ha : H a = some (.lst (refs as))) (hC : CpT H as ps) (hb : TN H b cs) (h1 : (ps.map (·.1)).Nodup) (h2 : (ps.map (·.2)).Nodup) (h3 : ∀ p ∈ ps, p.1 ≤ 99 ∧ p.2 ≤ 99) (h4 : ps.length ≤ 1000) (h5 : ∀ c ∈ cs, c ∈ ps.map (·.1)) (k : ∀ H' t, Same H H' → H' t = some (.dK (kvm ps)) → Q (.ref t) H') : sp_nam K ([.ref a, .ref b] ++ []) H Q E := ⟨a, b, as, ps, cs, rfl, ha, hC, hb, h1, h2, h3, h4, h5, k⟩
theorem r_wcol {H : Hp} {Q : VK} {E : XK} {p a : Addr} {d : PicD} {col : List Nat} (hp : PicAt K H p d) (ha : LN H a col) (hl : col.length = d.col.length) (ok : PicOk col d.tie d.mks) (k : ∀ H' x, Same H H' → PicAt K H' x ⟨col, normT d.tie, d.mks⟩ → Q (.ref x) H') : sp_wcol K ([.ref p, .ref a] ++ []) H Q E := ⟨p, a, d, col, rfl, hp, ha, hl, ok, k⟩
theorem sc_renamed_colours : FnScope ["picture", "pairs", "table", "colour"] ["picture", "pairs"] (defScope s_renamed_colours) := ⟨rfl, rfl, rfl, by decide +kernel, rfl, by decide +kernel, by decide +kernel⟩
def sp_ren (K : PySem.W.Frag) : Sp := fun vs H Q _ => ∃ (p a : Addr) (d : PicD) (as : List Addr) (os : List Nat) (ρ : Nat → Nat), vs = [.ref p, .ref a] ∧ PicAt K H p d ∧ H a = some (.lst (refs as)) ∧ CpT H as (os.map fun h => (h, ρ h)) ∧ os.Nodup ∧ (os.map ρ).Nodup ∧ (∀ h ∈ os, h ≤ 99 ∧ ρ h ≤ 99) ∧ os.length ≤ 1000 ∧ (∀ c ∈ d.col, c ∈ os) ∧ PicOk (d.col.map ρ) d.tie d.mks ∧ ∀ H' x, Same H H' → PicAt K H' x ⟨d.col.map ρ, normT d.tie, d.mks⟩ → Q (.ref x) H'
theorem find_map {os : List Nat} {ρ : Nat → Nat} {c : Nat} (h : c ∈ os) : ((os.map fun h => (h, ρ h)).find? fun p => decide (p.1 = c)).map (fun p => V.int (p.2 : Int)) = some (V.int (ρ c : Int)) := by
  induction os with
  | nil => cases h
  | cons x os ih =>
    rw [List.map_cons, List.find?_cons]
    by_cases e : x = c
    · simp [e]
    · simp only [decide_eq_false e]
      exact ih ((List.mem_cons.mp h).resolve_left fun z => e z.symm)
theorem ok_renamed_colours (T : TX K mg) : C8.Cal P w K mg base 6 "renamed_colours" (sp_ren K) [] := by
  have c_naming := ok_naming (P := P) (w := w) (base := base) T
  have c_with_colours := ok_with_colours (P := P) (w := w) (base := base) T
  obtain ⟨fd, F⟩ := T.F_renamed_colours
  refine ⟨_, fd, ["picture", "pairs"], [], ?_, T.g_renamed_colours, F.kp, (F.bindsN (fun _ _ _ _ _ _ us hl => match us, hl with | [_, _], _ => rfl)), .nil⟩
  refine F.ok sc_renamed_colours (fun vs H Q E h => ?_) (fun cdv A outer s H vs Q E hr h => ?_)
  · obtain ⟨p, a, d, as, os, ρ, rfl, _⟩ := h
    rfl
  · obtain ⟨p, a, d, as, os, ρ, rfl, hp, ha, hC, hn1, hn2, hbd, hl, hcs, ok, k⟩ := h
    obtain ⟨dx, c, t, m, ts, h1, h2, h3, h4, h5⟩ := id hp
    have e1 : (os.map fun h => ((h, ρ h) : Nat × Nat)).map (·.1) = os := by rw [List.map_map]; exact List.map_id' os
    have e2 : (os.map fun h => ((h, ρ h) : Nat × Nat)).map (·.2) = os.map ρ := by rw [List.map_map]; rfl
    refine ⟨_, PSs.nox (pss_cons (ps_set (i := 2) sc_renamed_colours.nd rfl (.inr rfl) (C8.pe_c (c_naming) hr (by omega) (by rfl) (pa_cons (pv 1) (pa_cons (pe_fld' K rfl (pv 0) rfl) pa_nil))))
      (pss_one (ps_ret (C8.pe_c (c_with_colours) hr (by omega) (by rfl) (pa_cons (pv 0) (pa_cons (pe_lc (own := [("colour", 3)]) (g := gName 3) (by rfl) sc_renamed_colours.nd (pi_tup' K rfl (pe_fld' K rfl (pv 0) rfl)) (blkOk_by (own := [("colour", 3)]) (N := ["picture", "pairs", "table", "colour"]) (sc := defScope s_renamed_colours) (by decide +kernel)) (fun _ _ _ _ _ => (pg_name (i := 3) sc_renamed_colours.nd rfl (.inl rfl))) (fun _ _ _ _ _ => pts_nil) (fun _ _ _ _ _ => (pe_dget2 hr.u1 (pv 2) (pv 3) (pv 3) ⟨rfl, rfl, rfl, rfl⟩))) pa_nil)))))), ?_⟩
    try dsimp only [cxOf]
    walk_at "WK"
    refine r_nam ha hC h2 (by rw [e1]; exact hn1) (by rw [e2]; exact hn2) (fun p hp => by
      obtain ⟨h, hh, rfl⟩ := List.mem_map.mp hp
      exact hbd h hh) (by rw [List.length_map]; exact hl) (fun c hc => by rw [e1]; exact hcs c hc) fun H1 tA s1 hT => ?_
    have h11 := s1 _ _ h1
    have h21 := s1 _ _ h2
    have hc2 := ok.c2
    rw [List.length_map] at hc2
    walk_at "WK"
    refine lc_T (xs := vN d.col) (fun D i H' => Same H1 H' ∧ H1 D = none ∧ LN H' D ((d.col.take i).map ρ)) (fun D hD => ⟨same_new hD, hD, upd_same⟩) (fun D i H' _ h => h.1 _ _ h21) ?_ ?_
    · rintro D i y H2 hy ⟨s2, nD, hD⟩
      obtain ⟨cc, hc, rfl⟩ := vN_inv hy
      have hcm := hcs cc (List.mem_of_getElem? hc)
      have hT2 := s2 _ _ hT
      have hi := (List.getElem?_eq_some_iff.mp hc).1
      walk_at "WK"
      refine ⟨_, rfl, tA, rfl, .inl ⟨_, .inl hT2⟩, _, rfl, _, rfl, _, DGet.k (k := Sum.inl (cc : Int)) hT2, ?_⟩
      rw [kvm_val, find_map hcm]
      refine r_eltk hD (lt_sz (by rw [vN_len, List.length_map, List.length_take]; omega)) ?_
      refine ⟨same_of s2 nD, nD, ?_⟩
      show upd H2 D (.lst (vN ((d.col.take i).map ρ) ++ [V.int (ρ cc : Int)])) D = _
      rw [upd_same, List.take_add_one, hc, List.map_append, vN_app]
      rfl
    · rintro D H2 ⟨s2, nD, hD⟩
      rw [vN_len, List.take_length] at hD
      walk_at "WK"
      exact r_wcol ((hp.ext s1).ext s2) hD (by rw [List.length_map]) ok fun H3 x s3 hx => k _ x ((s1.trans s2).trans s3) hx
theorem sc_check_order : FnScope ["order", "many", "place", "mark"] ["order", "many"] (defScope s_check_order) := ⟨rfl, rfl, rfl, by decide +kernel, rfl, by decide +kernel, by decide +kernel⟩
def sp_cho : Sp := fun vs H Q _ => ∃ (a : Addr) (ns : List Nat) (many : Nat), vs = [.ref a, .int (many : Int)] ∧ LN H a ns ∧ ns.length = many ∧ (∀ n ∈ ns, n < many) ∧ ns.Nodup ∧ many ≤ 100 ∧ ∀ H', Same H H' → Q .non H'
theorem ok_check_order (T : TX K mg) : C8.Cal P w K mg base 2 "_check_order" sp_cho [] := by
  have c_is_whole := ok_is_whole (P := P) (w := w) (base := base) T
  obtain ⟨fd, F⟩ := T.F_check_order
  refine ⟨_, fd, ["order", "many"], [], ?_, T.g_check_order, F.kp, (F.bindsN (fun _ _ _ _ _ _ us hl => match us, hl with | [_, _], _ => rfl)), .nil⟩
  refine F.ok sc_check_order (fun vs H Q E h => ?_) (fun cdv A outer s H vs Q E hr h => ?_)
  · obtain ⟨a, ns, many, rfl, _⟩ := h
    rfl
  · obtain ⟨a, ns, many, rfl, hS, hl1, hb, hnd, hm, k⟩ := h
    have hl := vN_len ns
    refine ⟨_, PSs.nox (pss_cons (ps_if (PW.pt (pw_or (pt_not (pt_val (pe_callB (call_isiT' K rfl) (by rfl) T.f_isinstance (by decide +kernel) (pa_cons (pv 0) (pa_cons (pe_tup (pa_cons (pe_bltn (v := .ty "list") (by rfl) T.f_list (by decide +kernel) rfl) (pa_cons (pe_bltn (v := .ty "tuple") (by rfl) T.f_tuple (by decide +kernel) rfl) pa_nil))) pa_nil))))) (pw_or1 (pt_cmpR op_ne (pe_callB (call_lenK' K rfl) (by rfl) T.f_len (by decide +kernel) (pa_cons (pv 0) pa_nil)) (pv 1) (nomark _))))) (pss_one ps_never) pss_nil)
      (pss_one (ps_for PassesOwn.never rfl (pi_enum' K rfl (by rfl) T.f_enumerate (pa_cons (pv 0) pa_nil)) (pg_tup' (n := 2) K rfl (by rfl) (pgs_cons (pg_name (i := 2) sc_check_order.nd rfl (.inl rfl)) (pgs_cons (pg_name (i := 3) sc_check_order.nd rfl (.inl rfl)) pgs_nil)) (by rfl)) (pss_one (ps_if (PW.pt (pw_or (pt_not (pt_val (C8.pe_c (c_is_whole) hr (by omega) (by rfl) (pa_cons (pv 3) (pa_cons pe_int (pa_cons (pe_op op_sub (pv 1) pe_int) pa_nil)))))) (pw_or1 (pt_cmpR (op_in_seq' K rfl) (pv 3) (pe_slice (sl_list' K rfl) (pv 0) po_none (po_some (pv 2))) (by rfl))))) (pss_one ps_never) pss_nil))))), ?_⟩
    try dsimp only [cxOf]
    walk_at "WK"
    intro t ht
    have s1 := same_new ht (o := .tup [.ty "list", .ty "tuple"])
    walk_at "WK"
    refine for_EL (xs := vN ns) (fun i σ H' => ∃ y1 y2, σ = [some (.ref a), some (.int (many : Int)), y1, y2] ∧ Same H H') ⟨_, _, rfl, s1⟩ (fun i σ H' _ h => h.elim fun _ h => h.elim fun _ h => h.2 _ _ hS) ?_ ?_
    · rintro i x σ H' t2 hx ⟨y1, y2, rfl, sm⟩ ht2
      have hx1 := (List.getElem?_eq_some_iff.mp hx).1
      obtain ⟨n, hn, rfl⟩ := vN_inv hx
      have b1 := hb n (List.mem_of_getElem? hn)
      have nd1 := nodup_take hnd hn
      have hS' := sm _ _ hS
      have sm2 := same_of sm (sm.free ht2) (o := .tup [.int (i : Int), .int (n : Int)])
      walk_at "WK"
      intro t3 ht3
      rw [vN_take]
      have sm3 := same_of sm2 (sm2.free ht3) (o := .lst (vN (ns.take i)))
      walk_at "WK"
      exact ⟨_, _, rfl, sm3⟩
    · rintro σ H' ⟨y1, y2, rfl, sm⟩
      exact k _ sm
theorem sc_exchanged_marks : FnScope ["picture", "order", "mark"] ["picture", "order"] (defScope s_exchanged_marks) := ⟨rfl, rfl, rfl, by decide +kernel, rfl, by decide +kernel, by decide +kernel⟩
def sp_exm (K : PySem.W.Frag) : Sp := fun vs H Q _ => ∃ (p a : Addr) (d : PicD) (ns : List Nat), vs = [.ref p, .ref a] ∧ PicAt K H p d ∧ LN H a ns ∧ ns.length = d.mks.length ∧ (∀ n ∈ ns, n < d.mks.length) ∧ ns.Nodup ∧ PicOk d.col d.tie (ns.map fun n => d.mks.getD n 0) ∧ ∀ H' x, Same H H' → PicAt K H' x ⟨d.col, normT d.tie, ns.map fun n => d.mks.getD n 0⟩ → Q (.ref x) H'
theorem ok_exchanged_marks (T : TX K mg) : C8.Cal P w K mg base 5 "exchanged_marks" (sp_exm K) [] := by
  have c_check_order := ok_check_order (P := P) (w := w) (base := base) T
  have c_Picture := ok_Picture_init (P := P) (w := w) (base := base) T
  obtain ⟨fd, F⟩ := T.F_exchanged_marks
  refine ⟨_, fd, ["picture", "order"], [], ?_, T.g_exchanged_marks, F.kp, (F.bindsN (fun _ _ _ _ _ _ us hl => match us, hl with | [_, _], _ => rfl)), .nil⟩
  refine F.ok sc_exchanged_marks (fun vs H Q E h => ?_) (fun cdv A outer s H vs Q E hr h => ?_)
  · obtain ⟨p, a, d, ns, rfl, _⟩ := h
    rfl
  · obtain ⟨p, a, d, ns, rfl, hp, ha, hl, hb, hnd, ok, k⟩ := h
    obtain ⟨dx, c, t, m, ts, h1, h2, h3, h4, h5⟩ := id hp
    have hm2 := ok.m2
    rw [List.length_map] at hm2
    have hlm := vN_len d.mks
    refine ⟨_, PSs.nox (pss_cons (ps_expr (C8.pe_c (c_check_order) hr (by omega) (by rfl) (pa_cons (pv 1) (pa_cons (pe_callB (call_lenK' K rfl) (by rfl) T.f_len (by decide +kernel) (pa_cons (pe_fld' K rfl (pv 0) rfl) pa_nil)) pa_nil))))
      (pss_one (ps_ret (C8.pe_mk (c_Picture) hr (by omega) (by rfl) (pa_cons (pe_fld' K rfl (pv 0) rfl) (pa_cons (pe_fld' K rfl (pv 0) rfl) (pa_cons (pe_lc (own := [("mark", 2)]) (g := gName 2) (by rfl) sc_exchanged_marks.nd (pi_list' K rfl (pv 1)) (blkOk_by (own := [("mark", 2)]) (N := ["picture", "order", "mark"]) (sc := defScope s_exchanged_marks) (by decide +kernel)) (fun _ _ _ _ _ => (pg_name (i := 2) sc_exchanged_marks.nd rfl (.inl rfl))) (fun _ _ _ _ _ => pts_nil) (fun _ _ _ _ _ => (pe_ix (ix_tup' K rfl) (pe_fld' K rfl (pv 0) rfl) (pv 2) (fun _ _ => rfl)))) pa_nil))))))), ?_⟩
    try dsimp only [cxOf]
    walk_at "WK"
    rw [hlm]
    refine ⟨a, ns, _, rfl, ha, hl, hb, hnd, by omega, fun H1 s1 => ?_⟩
    have h11 := s1 _ _ h1
    have ha1 := s1 _ _ ha
    walk_at "WK"
    refine lc_L (xs := vN ns) (fun D i H' => Same H1 H' ∧ H1 D = none ∧ LN H' D ((ns.take i).map fun n => d.mks.getD n 0)) (fun D hD => ⟨same_new hD, hD, upd_same⟩) (fun D i H' _ h => h.1 _ _ ha1) ?_ ?_
    · rintro D i y H2 hy ⟨s2, nD, hD⟩
      obtain ⟨nn, hn, rfl⟩ := vN_inv hy
      obtain ⟨v, hv⟩ := getElem?_of_lt (hb nn (List.mem_of_getElem? hn))
      have hi := (List.getElem?_eq_some_iff.mp hn).1
      have h12 := s2 _ _ h11
      have h52 := s2 _ _ (s1 _ _ h5)
      walk_at "WK"
      refine r_eltk hD (lt_sz (by rw [vN_len, List.length_map, List.length_take]; omega)) ?_
      refine ⟨same_of s2 nD, nD, ?_⟩
      show upd H2 D _ D = _
      rw [upd_same, List.take_add_one, hn, List.map_append, ← getD_of (d := 0) hv, vN_app]
      rfl
    · rintro D H2 ⟨s2, nD, hD⟩
      rw [vN_len, List.take_length] at hD
      have s12 := s1.trans s2
      walk_at "WK"
      intro x dx2 nx ndx ne
      refine ⟨x, dx2, c, t, D, d.col, ts, d.tie, _, H2, rfl, (same_new ndx).trans (same_new (by rw [upd_ne ne.symm]; exact nx)), nx, ndx, upd_same, .inr (s12 _ _ h2), .inr (s12 _ _ h3), h4.ext s12, .inl hD, ok, fun H' s3 hp2 => ⟨rfl, k _ _ (s12.trans s3) hp2⟩⟩
end
end G6
end
section
set_option maxHeartbeats 4000000
set_option Elab.async false
set_option linter.all false
set_option maxRecDepth 100000
namespace G6
open PySem PySem.Spec PyProof.Rows L2 PySem.W LamX
/-! L7: what stands while the hand draws and the tables grow -/
/-- the heap without the hand's list and without tables -/
def bse (H : Hp) (a : Addr) : Hp := fun b => if b = a then none else match H b with
  | some (.tbl _) => none
  | o => o
theorem bse_of {H : Hp} {a b : Addr} {o : HO} (h : H b = some o) (n : b ≠ a) (t : ∀ ps, o ≠ .tbl ps) : bse H a b = some o := by
  unfold bse
  rw [if_neg n, h]
  cases o <;> first | rfl | exact absurd rfl (t _)
theorem bse_in {H : Hp} {a b : Addr} {o : HO} (h : bse H a b = some o) : b ≠ a ∧ H b = some o ∧ ∀ ps, o ≠ .tbl ps := by
  unfold bse at h
  by_cases e : b = a
  · rw [if_pos e] at h
    cases h
  · rw [if_neg e] at h
    cases q : H b with
    | none => rw [q] at h; cases h
    | some u =>
      rw [q] at h
      cases u <;> first | (cases h; exact ⟨e, rfl, fun ps z => by cases z⟩) | cases h
theorem bse_same {H : Hp} {a : Addr} : Same (bse H a) H := fun b o h => (bse_in h).2.1
theorem bse_self {H : Hp} {a : Addr} : bse H a a = none := if_pos rfl
/-- a base: without the hand's list, without tables -/
structure IsB (B : Hp) (a : Addr) : Prop where
  na : B a = none
  nt : ∀ b ps, B b ≠ some (.tbl ps)
theorem isB {H : Hp} {a : Addr} : IsB (bse H a) a := ⟨bse_self, fun b ps h => (bse_in h).2.2 ps rfl⟩
theorem IsB.hand {B H H' : Hp} {a : Addr} (i : IsB B a) (t : Same B H) (s : Same (dr H a) H') : Same B H' := (dr_go t i.na).trans s
theorem IsB.extN {B H H' : Hp} {a : Addr} (i : IsB B a) (t : Same B H) (e : ExtN H H') : Same B H' := fun b o h => e b o (t b o h) fun ps z => i.nt b ps (by rw [h, z])
theorem IsB.into {B H : Hp} {a : Addr} (i : IsB B a) (t : Same B H) : Same B (bse H a) := fun b o h => bse_of (t b o h) (ne_of_none h i.na) fun ps z => i.nt b ps (by rw [h, z])
theorem Hand.extN {H H' : Hp} {a c : Addr} (h : Hand H a c) (e : ExtN H H') : Hand H' a c := by
  obtain ⟨ns, i, j, t, h1, h2, h3⟩ := h
  exact ⟨ns, i, j, t, e _ _ h1 (fun _ z => by cases z), e _ _ h2 (fun _ z => by cases z), h3⟩
theorem Hand.tabs {H H' : Hp} {a c : Addr} {TT : List (Addr × Str)} (h : Hand H a c) (T : Tabs TT H) (s : Same (dr H a) H') : Tabs TT H' := by
  obtain ⟨xs, ha⟩ := h.at_
  have T' : Tabs TT (dr H a) := fun p hp => by
    obtain ⟨ps, h1, h2, h3⟩ := T p hp
    refine ⟨ps, (dr_ne (fun z => by rw [z, ha] at h1; cases h1)).trans h1, h2, fun pos cv hc => ?_⟩
    obtain ⟨c', e1, e2⟩ := h3 pos cv hc
    exact ⟨c', e1, (dr_ne (fun z => by rw [z, ha] at e2; cases e2)).trans e2⟩
  exact T'.ext s
theorem bse_LN {H : Hp} {a b : Addr} {ns : List Nat} (h : LN (dr H a) b ns) : LN (bse H a) b ns := by
  have n : b ≠ a := fun z => by
    have h : dr H a b = some (.lst (vN ns)) := h
    rw [z, dr_self] at h
    cases h
  exact bse_of (dr_same _ _ h) n fun ps z => by cases z
theorem bse_dr {H : Hp} {a b : Addr} {o : HO} (h : dr H a b = some o) (t : ∀ ps, o ≠ .tbl ps) : bse H a b = some o := by
  have n : b ≠ a := fun z => by
    rw [z, dr_self] at h
    cases h
  exact bse_of (dr_same _ _ h) n t
theorem bse_tup {H : Hp} {a c b : Addr} {xs : List V} (ha : Hand H a c) (h : H b = some (.tup xs)) : bse H a b = some (.tup xs) := by
  obtain ⟨ys, e⟩ := ha.at_
  exact bse_of h (fun z => by rw [z, e] at h; cases h) fun ps z => by cases z
theorem PicAt.bse {K : PySem.W.Frag} {H : Hp} {a c p : Addr} {d : PicD} (hp : PicAt K H p d) (ha : Hand H a c) : PicAt K (bse H a) p d := by
  obtain ⟨dx, x, t, m, ts, h1, h2, h3, h4, h5⟩ := hp
  obtain ⟨ys, e⟩ := ha.at_
  exact ⟨dx, x, t, m, ts, bse_of h1 (fun z => by rw [z, e] at h1; cases h1) (fun ps z => by cases z), bse_tup ha h2, bse_tup ha h3, CpT.tups h4 fun b vs h => bse_tup ha h, bse_tup ha h5⟩
theorem pg_lst' {X : Cx} (K : PySem.W.Frag) {es : List Expr} {k : Nat} {t : TGs} {n : Nat} {pos : Pos} (h : X.K = K) (hc : X.calm = true) (hp : PGs X es t)
    (hn : (assignEach es X.env).length = n) (hst : (assignEach es X.env).findIdx? (·.1) = none := by rfl) : PG X (.Tuple es k pos) (gLst K n t) := by subst h; exact pg_lst hc hp hn hst
theorem r_glst {K : PySem.W.Frag} {σ : L2.St} {H : Hp} {n : Nat} {t : TGs} {a : Addr} {xs : List V} {q : L2.St → Hp → Prop} (hx : H a = some (.lst xs)) (hl : xs.length = n) (h : t xs σ H q) : gLst K n t (.ref a) σ H q := ⟨a, xs, rfl, SqL.of hx, hl, h⟩
/-! the renaming of colours, the places of the marks -/
def rho (sh : Nat) (c : Nat) : Nat := if c < 100 then (c + sh) % 100 else c
theorem rho_inj (sh : Nat) : Inj (rho sh) := fun a b h => by
  unfold rho at h
  split at h <;> split at h <;> omega
theorem rho_le {sh c : Nat} (h : c ≤ 99) : rho sh c ≤ 99 := by
  unfold rho
  rw [if_pos (by omega)]
  omega
theorem rho_int {sh c : Nat} (h : c ≤ 99) : ((c : Int) + (sh : Int)) % 100 = (rho sh c : Int) := by
  unfold rho
  rw [if_pos (by omega)]
  omega
theorem perm_has {order : List Nat} {n : Nat} (hl : order.length = n) (hlt : ∀ v ∈ order, v < n) (hnd : order.Nodup) {m : Nat} (hm : m < n) : m ∈ order := Classical.byContradiction fun z => by
  have := nodup_lt_len (xs := m :: order) (n := n) (List.nodup_cons.mpr ⟨z, hnd⟩) fun v hv => (List.mem_cons.mp hv).elim (fun e => by omega) (hlt v)
  rw [List.length_cons] at this
  omega
theorem idx_get {order : List Nat} {m : Nat} (h : m ∈ order) : order[order.idxOf m]? = some m := by
  rw [List.getElem?_eq_getElem (List.idxOf_lt_length_of_mem h)]
  exact congrArg some (List.getElem_idxOf _)
theorem map_nd {α β : Type} [DecidableEq β] {f : α → β} {xs : List α} (hn : xs.Nodup) (hf : ∀ a ∈ xs, ∀ b ∈ xs, f a = f b → a = b) : (xs.map f).Nodup := by
  induction xs with
  | nil => exact List.nodup_nil
  | cons x xs ih =>
    rw [List.map_cons, List.nodup_cons]
    obtain ⟨h1, h2⟩ := List.nodup_cons.mp hn
    refine ⟨fun z => ?_, ih h2 fun a ha b hb => hf a (List.mem_cons_of_mem _ ha) b (List.mem_cons_of_mem _ hb)⟩
    obtain ⟨y, hy, e⟩ := List.mem_map.mp z
    have := hf y (List.mem_cons_of_mem _ hy) x (List.mem_cons_self ..) e
    rw [this] at hy
    exact h1 hy
end G6
end
section
set_option maxHeartbeats 4000000
set_option Elab.async false
set_option linter.all false
set_option maxRecDepth 100000
set_option maxHeartbeats 8000000
namespace G6
open PySem PySem.Spec PyProof.Rows L2 PySem.W LamX G7
section
variable {P : Program} {w : World} {K : PySem.W.Frag} {mg : Str → Option Value} {base : Heap}
theorem sc_law : FnScope ["_law_script", "_law_hand_here", "_law_world", "_law_mine", "_law_theirs", "_law_hues_here", "_law_many", "_law_aim", "_law_picture_here", "_law_rank", "_law_wider", "_law_order", "_law_places", "_law_shift", "_law_olds", "_law_other", "_law_led_here", "_law_shades_here", "_law_first", "_law_mark", "_law_hue"] ["_law_script"] (defScope s_law) := ⟨rfl, rfl, rfl, by decide +kernel, rfl, by decide +kernel, by decide +kernel⟩
def sp_law (K : PySem.W.Frag) (TT : List (Addr × Str)) : Sp := fun vs H Q _ => ∃ (s : Addr) (ns : List Int), vs = [.ref s] ∧ SqL K H s (ns.map V.int) ∧ ns.length ≤ 63 ∧ Tabs TT H ∧ ∀ H', Q (.bl true) H'
theorem r_wish {H : Hp} {Q : VK} {E : XK} {a c : Addr} {n m : Nat} (h : Hand H a c) (h1 : 1 ≤ n) (h2 : n ≤ 1000) (h3 : 1 ≤ m) (h4 : m ≤ 1000) (k : ∀ H' q wd, Same (dr H a) H' → Hand H' a c → dr H' a q = some (.tup (wishV wd)) → (∀ d : PicD, d.col.length = n → d.mks.length = m → WishG d wd) → Q (.ref q) H') : sp_wsh ([.ref a, .int (n : Int), .int (m : Int)] ++ []) H Q E := ⟨a, c, n, m, rfl, h, h1, h2, h3, h4, k⟩
theorem ok_law (T : TX K mg) {cd P0 : Addr} {TT : List (Addr × Str)} (hcd : ∀ o fd, K.lookup (He.ma K (He.ga K "Contest") "rows_of_mine") = some o → o.data = .func fd → fd.code = .ref cd) (TB : TabB base mg cd P0) (hmT : (P0, qMine) ∈ TT) (huT : ∀ p ∈ TT, p.1 = P0 → p.2 = qMine)
    {fd : FuncData} (F : FunD K "law" "law" (defArgs s_law) (defBody s_law) (defScope s_law) [] [] (He.ga K "law") fd) : FnOk P w K mg base C8.CX0 10 (He.ga K "law") fd ["_law_script"] (sp_law K TT) := by
  have c_L_hand := ok_hand (P := P) (w := w) (base := base) T
  have c_L_table := ok_table (P := P) (w := w) (base := base) T
  have c_L_wish := ok_wish (P := P) (w := w) (base := base) T
  have c_Picture := ok_Picture_init (P := P) (w := w) (base := base) T
  have c_forced := ok_forced (P := P) (w := w) (base := base) T hcd TB hmT huT
  have c_fewest_pours := ok_fewest_pours (P := P) (w := w) (base := base) T
  have c_L_number := ok_number (P := P) (w := w) (base := base) T
  have c_L_more := ok_more (P := P) (w := w) (base := base) T
  have c_L_unlike := ok_unlike (P := P) (w := w) (base := base) T
  have c_L_take := ok_take (P := P) (w := w) (base := base) T
  have c_L_shades := ok_shades (P := P) (w := w) (base := base) T
  have c_renamed_colours := ok_renamed_colours (P := P) (w := w) (base := base) T
  have c_exchanged_marks := ok_exchanged_marks (P := P) (w := w) (base := base) T
  have c_L_led := ok_led (P := P) (w := w) (base := base) T
  have c_L_alone_right := ok_alone (P := P) (w := w) (base := base) T
  refine F.ok sc_law (fun vs H Q E h => ?_) (fun cdv A outer s H vs Q E hr h => ?_)
  · obtain ⟨s, ns, rfl, _⟩ := h
    rfl
  · obtain ⟨sA, ns, rfl, hsq, hl, hT, k⟩ := h
    refine ⟨_, PSs.nox (pss_cons (ps_set (i := 1) sc_law.nd rfl (.inl rfl) (C8.pe_c (c_L_hand) hr (by omega) (by rfl) (pa_cons (pv 0) pa_nil)))
      (pss_cons (ps_asg (C8.pe_c (c_L_table) hr (by omega) (by rfl) (pa_cons (pv 1) pa_nil)) (pg_lst' (n := 4) K rfl (by rfl) (pgs_cons (pg_name (i := 2) sc_law.nd rfl (.inl rfl)) (pgs_cons (pg_name (i := 3) sc_law.nd rfl (.inl rfl)) (pgs_cons (pg_name (i := 4) sc_law.nd rfl (.inl rfl)) (pgs_cons (pg_name (i := 5) sc_law.nd rfl (.inl rfl)) pgs_nil)))) (by rfl)))
      (pss_cons (ps_set (i := 6) sc_law.nd rfl (.inl rfl) (pe_callB (call_lenK' K rfl) (by rfl) T.f_len (by decide +kernel) (pa_cons (pe_ix (ix_list' K rfl) (pv 2) pe_int (fun _ _ => rfl)) pa_nil)))
      (pss_cons (ps_set (i := 7) sc_law.nd rfl (.inl rfl) (C8.pe_c (c_L_wish) hr (by omega) (by rfl) (pa_cons (pv 1) (pa_cons (pe_callB (call_lenK' K rfl) (by rfl) T.f_len (by decide +kernel) (pa_cons (pe_ix (ix_list' K rfl) (pv 2) pe_int (fun _ _ => rfl)) pa_nil)) (pa_cons (pv 6) pa_nil)))))
      (pss_cons (ps_set (i := 8) sc_law.nd rfl (.inl rfl) (C8.pe_mk (c_Picture) hr (by omega) (by rfl) (pa_cons (pe_callTy (call_listK' K rfl) (by rfl) T.f_list (by decide +kernel) (pa_cons (pe_ix (ix_list' K rfl) (pv 2) pe_int (fun _ _ => rfl)) pa_nil)) (pa_cons (pe_callTy (call_listK' K rfl) (by rfl) T.f_list (by decide +kernel) (pa_cons (pe_ix (ix_list' K rfl) (pv 2) pe_int (fun _ _ => rfl)) pa_nil)) (pa_cons (pe_callTy (call_listK' K rfl) (by rfl) T.f_list (by decide +kernel) (pa_cons (pe_ix (ix_list' K rfl) (pv 2) pe_int (fun _ _ => rfl)) pa_nil)) pa_nil)))))
      (pss_cons (ps_set (i := 9) sc_law.nd rfl (.inl rfl) (C8.pe_c (c_L_number) hr (by omega) (by rfl) (pa_cons (C8.pe_c (c_forced) hr (by omega) (by rfl) (pa_cons (pv 8) (pa_cons (pv 3) (pa_cons (pv 4) (pa_cons (pv 5) (pa_cons (pv 7) pa_nil)))))) pa_nil)))
      (pss_cons (ps_if (pt_cmpR op_lt (pv 9) pe_int (nomark _)) (pss_one (ps_ret pe_bl)) pss_nil)
      (pss_cons (ps_set (i := 10) sc_law.nd rfl (.inl rfl) (C8.pe_c (c_L_number) hr (by omega) (by rfl) (pa_cons (C8.pe_c (c_forced) hr (by omega) (by rfl) (pa_cons (pv 8) (pa_cons (C8.pe_c (c_L_more) hr (by omega) (by rfl) (pa_cons (pv 1) (pa_cons (pv 3) (pa_cons (pv 6) pa_nil)))) (pa_cons (pv 4) (pa_cons (pv 5) (pa_cons (pv 7) pa_nil)))))) pa_nil)))
      (pss_cons (ps_if (PW.pt (pw_or (pt_not (pt_chain op_le op_le pe_int (pv 10) (pv 9))) (pw_or1 (pt_cmpR op_lt (C8.pe_c (c_L_number) hr (by omega) (by rfl) (pa_cons (C8.pe_c (c_forced) hr (by omega) (by rfl) (pa_cons (pv 8) (pa_cons (pv 3) (pa_cons (C8.pe_c (c_L_more) hr (by omega) (by rfl) (pa_cons (pv 1) (pa_cons (pv 4) (pa_cons (pv 6) pa_nil)))) (pa_cons (pv 5) (pa_cons (pv 7) pa_nil)))))) pa_nil)) (pv 9) (nomark _))))) (pss_one (ps_ret pe_bl)) pss_nil)
      (pss_cons (ps_set (i := 11) sc_law.nd rfl (.inr rfl) (C8.pe_c (c_L_unlike) hr (by omega) (by rfl) (pa_cons (pv 1) (pa_cons (pv 6) (pa_cons (pv 6) pa_nil)))))
      (pss_cons (ps_set (i := 12) sc_law.nd rfl (.inr rfl) (pe_lc (own := [("_law_mark", 19)]) (g := gName 19) (by rfl) sc_law.nd (pi_range1 (by rfl) T.f_range (pa_cons (pv 6) pa_nil)) (blkOk_by (own := [("_law_mark", 19)]) (N := ["_law_script", "_law_hand_here", "_law_world", "_law_mine", "_law_theirs", "_law_hues_here", "_law_many", "_law_aim", "_law_picture_here", "_law_rank", "_law_wider", "_law_order", "_law_places", "_law_shift", "_law_olds", "_law_other", "_law_led_here", "_law_shades_here", "_law_first", "_law_mark", "_law_hue"]) (sc := defScope s_law) (by decide +kernel)) (fun _ _ _ _ _ => (pg_name (i := 19) sc_law.nd rfl (.inl rfl))) (fun _ _ _ _ _ => pts_nil) (fun _ _ _ _ _ => (pe_bm' K rfl PySem.F.plainAttrs_list PySem.F.slot_list_index PySem.F.type_list_index (mt_index' K rfl) (pv 11) (pa_cons (pv 19) pa_nil)))))
      (pss_cons (ps_set (i := 13) sc_law.nd rfl (.inr rfl) (pe_op op_add pe_int (C8.pe_c (c_L_take) hr (by omega) (by rfl) (pa_cons (pv 1) (pa_cons pe_int pa_nil)))))
      (pss_cons (ps_set (i := 14) sc_law.nd rfl (.inl rfl) (C8.pe_c (c_L_shades) hr (by omega) (by rfl) (pa_cons (pe_ix (ix_list' K rfl) (pv 2) pe_int (fun _ _ => rfl)) (pa_cons pe_int pa_nil))))
      (pss_cons (ps_set (i := 15) sc_law.nd rfl (.inl rfl) (C8.pe_c (c_exchanged_marks) hr (by omega) (by rfl) (pa_cons (C8.pe_c (c_renamed_colours) hr (by omega) (by rfl) (pa_cons (pv 8) (pa_cons (pe_lc (own := [("_law_hue", 20)]) (g := gName 20) (by rfl) sc_law.nd (pi_list' K rfl (pv 14)) (blkOk_by (own := [("_law_hue", 20)]) (N := ["_law_script", "_law_hand_here", "_law_world", "_law_mine", "_law_theirs", "_law_hues_here", "_law_many", "_law_aim", "_law_picture_here", "_law_rank", "_law_wider", "_law_order", "_law_places", "_law_shift", "_law_olds", "_law_other", "_law_led_here", "_law_shades_here", "_law_first", "_law_mark", "_law_hue"]) (sc := defScope s_law) (by decide +kernel)) (fun _ _ _ _ _ => (pg_name (i := 20) sc_law.nd rfl (.inl rfl))) (fun _ _ _ _ _ => pts_nil) (fun _ _ _ _ _ => (pe_tup (pa_cons (pv 20) (pa_cons (pe_op op_mod (pe_callTy call_int1K (by rfl) T.f_int (by decide +kernel) (pa_cons (pe_op op_add (pv 20) (pv 13)) pa_nil)) pe_int) pa_nil))))) pa_nil))) (pa_cons (pv 11) pa_nil))))
      (pss_cons (ps_set (i := 16) sc_law.nd rfl (.inl rfl) (C8.pe_c (c_L_led) hr (by omega) (by rfl) (pa_cons (pv 7) (pa_cons (pv 13) (pa_cons (pv 12) pa_nil)))))
      (pss_cons (ps_setLc (i := 17) (own := [("_law_hue", 20)]) (g := gName 20) (by rfl) sc_law.nd rfl rfl (sw_true rfl rfl rfl (by decide +kernel)) (pi_list' K rfl (pv 5)) (blkOk_by (own := [("_law_hue", 20)]) (N := ["_law_script", "_law_hand_here", "_law_world", "_law_mine", "_law_theirs", "_law_hues_here", "_law_many", "_law_aim", "_law_picture_here", "_law_rank", "_law_wider", "_law_order", "_law_places", "_law_shift", "_law_olds", "_law_other", "_law_led_here", "_law_shades_here", "_law_first", "_law_mark", "_law_hue"]) (sc := defScope s_law) (by decide +kernel)) (fun _ _ _ _ _ => (pg_name (i := 20) sc_law.nd rfl (.inl rfl))) (fun _ _ _ _ _ => pts_nil) (fun _ _ _ _ _ => (pe_op op_mod (pe_callTy call_int1K (by rfl) T.f_int (by decide +kernel) (pa_cons (pe_op op_add (pv 20) (pv 13)) pa_nil)) pe_int)))
      (pss_cons (ps_if (pt_cmpR op_ne (C8.pe_c (c_L_number) hr (by omega) (by rfl) (pa_cons (C8.pe_c (c_forced) hr (by omega) (by rfl) (pa_cons (pv 15) (pa_cons (pe_lc (own := [("_law_mark", 19)]) (g := gName 19) (by rfl) sc_law.nd (pi_list' K rfl (pv 3)) (blkOk_by (own := [("_law_mark", 19)]) (N := ["_law_script", "_law_hand_here", "_law_world", "_law_mine", "_law_theirs", "_law_hues_here", "_law_many", "_law_aim", "_law_picture_here", "_law_rank", "_law_wider", "_law_order", "_law_places", "_law_shift", "_law_olds", "_law_other", "_law_led_here", "_law_shades_here", "_law_first", "_law_mark", "_law_hue"]) (sc := defScope s_law) (by decide +kernel)) (fun _ _ _ _ _ => (pg_name (i := 19) sc_law.nd rfl (.inl rfl))) (fun _ _ _ _ _ => pts_nil) (fun _ _ _ _ _ => (pe_ix (ix_list' K rfl) (pv 12) (pv 19) (fun _ _ => rfl)))) (pa_cons (pe_lc (own := [("_law_mark", 19)]) (g := gName 19) (by rfl) sc_law.nd (pi_list' K rfl (pv 4)) (blkOk_by (own := [("_law_mark", 19)]) (N := ["_law_script", "_law_hand_here", "_law_world", "_law_mine", "_law_theirs", "_law_hues_here", "_law_many", "_law_aim", "_law_picture_here", "_law_rank", "_law_wider", "_law_order", "_law_places", "_law_shift", "_law_olds", "_law_other", "_law_led_here", "_law_shades_here", "_law_first", "_law_mark", "_law_hue"]) (sc := defScope s_law) (by decide +kernel)) (fun _ _ _ _ _ => (pg_name (i := 19) sc_law.nd rfl (.inl rfl))) (fun _ _ _ _ _ => pts_nil) (fun _ _ _ _ _ => (pe_ix (ix_list' K rfl) (pv 12) (pv 19) (fun _ _ => rfl)))) (pa_cons (pv 17) (pa_cons (pv 16) pa_nil)))))) pa_nil)) (pv 9) (nomark _)) (pss_one (ps_ret pe_bl)) pss_nil)
      (pss_cons (ps_set (i := 18) sc_law.nd rfl (.inl rfl) (C8.pe_c (c_L_number) hr (by omega) (by rfl) (pa_cons (C8.pe_c (c_fewest_pours) hr (by omega) (by rfl) (pa_cons (pv 8) (pa_cons (pe_slice (sl_list' K rfl) (pv 3) po_none (po_some pe_int)) (pa_cons (pv 5) (pa_cons (pv 7) pa_nil))))) pa_nil)))
      (pss_cons (ps_if (pt_cmpR op_ne (C8.pe_c (c_L_number) hr (by omega) (by rfl) (pa_cons (C8.pe_c (c_fewest_pours) hr (by omega) (by rfl) (pa_cons (pv 15) (pa_cons (pe_lst (pa_cons (pe_ix (ix_list' K rfl) (pv 12) (pe_ix (ix_list' K rfl) (pv 3) pe_int (fun _ _ => rfl)) (fun _ _ => rfl)) pa_nil)) (pa_cons (pv 17) (pa_cons (pv 16) pa_nil))))) pa_nil)) (pv 18) (nomark _)) (pss_one (ps_ret pe_bl)) pss_nil)
      (pss_one (ps_ret (C8.pe_c (c_L_alone_right) hr (by omega) (by rfl) (pa_cons (pv 1) (pa_cons (pv 8) (pa_cons (pv 3) (pa_cons (pv 5) (pa_cons (pv 7) (pa_cons (pv 9) (pa_cons (pv 4) pa_nil))))))))))))))))))))))))))))), ?_⟩
    try dsimp only [cxOf]
    rw [show L2.start _ [V.ref sA] = [some (V.ref sA), none, none, none, none, none, none, none, none, none, none, none, none, none, none, none, none, none, none, none, none] from rfl]
    try dsimp only [List.set, wipe, List.map_cons, List.map_nil]
    walk_at "WK"
    refine ⟨sA, ns, rfl, hsq, hl, fun H1 a c s1 h1 na => ?_⟩
    have T1 := hT.ext s1
    try dsimp only [List.set, wipe, List.map_cons, List.map_nil]
    walk_at "WK"
    refine ⟨a, c, rfl, h1, fun H2 q wA mi th hu l t m ts cols ps mks ms os hs s2 h2 TA => ?_⟩
    have T2 := h1.tabs T1 s2
    have W := TA.w
    have g0 := dr_same _ _ TA.at_
    have g1 := dr_same _ _ W.at_
    have g2 := dr_same _ _ W.m
    have g3 := dr_same _ _ W.l
    have g4 := dr_same _ _ W.t
    have e2 : atI [V.ref l, V.ref t, V.ref m] 2 = some (V.ref m) := atI_nat (j := 2) rfl
    have e1 : atI [V.ref l, V.ref t, V.ref m] 1 = some (V.ref t) := atI_nat (j := 1) rfl
    have e0 : atI [V.ref l, V.ref t, V.ref m] 0 = some (V.ref l) := atI_nat (j := 0) rfl
    have hvm := vN_len mks
    have hvc := vN_len cols
    have hc2 := W.c2
    have hc5 := TA.c5
    have hm1 := W.m1
    have hm4 := TA.m4
    refine r_glst g0 rfl ?_
    try dsimp only [List.set, wipe, List.map_cons, List.map_nil]
    walk_at "WK"
    rw [hvm]
    rw [hvc]
    refine r_wish h2 (by omega) (by omega) hm1 (by omega) fun H3 aim wd s3 h3 haim hwg => ?_
    have T3 := h2.tabs T2 s3
    have d23 := dr_dr s3
    have TA3 := TA.ext d23
    have W3 := TA3.w
    clear g0 g1 g2 g3 g4
    have g1 := dr_same _ _ W3.at_
    have g2 := dr_same _ _ W3.m
    have g3 := dr_same _ _ W3.l
    have g4 := dr_same _ _ W3.t
    try dsimp only [List.set, wipe, List.map_cons, List.map_nil]
    walk_at "WK"
    intro l1 hl1
    have u1 := same_new hl1 (o := .lst (vN cols))
    have x1 : LN (upd H3 l1 (.lst (vN cols))) l1 cols := upd_same
    have y1 := u1 _ _ g1
    have y4 := u1 _ _ g4
    have y2 := u1 _ _ g2
    generalize upd H3 l1 (.lst (vN cols)) = H4 at u1 x1 y1 y4 y2 ⊢
    try dsimp only [List.set, wipe, List.map_cons, List.map_nil]
    walk_at "WK"
    intro l2 hl2
    have u2 := same_new hl2 (o := .lst (refs ts))
    have x2 : upd H4 l2 (.lst (refs ts)) l2 = some (.lst (refs ts)) := upd_same
    have z1 := u2 _ _ y1
    have z2 := u2 _ _ y2
    clear y1 y4 y2
    generalize upd H4 l2 (.lst (refs ts)) = H5 at u2 x2 z1 z2 ⊢
    try dsimp only [List.set, wipe, List.map_cons, List.map_nil]
    walk_at "WK"
    intro l3 hl3
    have u3 := same_new hl3 (o := .lst (vN mks))
    have x3 : LN (upd H5 l3 (.lst (vN mks))) l3 mks := upd_same
    clear z1 z2
    generalize upd H5 l3 (.lst (vN mks)) = H6 at u3 x3 ⊢
    have u36 := (u1.trans u2).trans u3
    try dsimp only [List.set, wipe, List.map_cons, List.map_nil]
    walk_at "WK"
    intro pA dA npA ndA neA
    have ok : PicOk cols ps mks := ⟨by omega, by omega, W.c9, by have := W.p2; omega, W.pv, hm1, hm4, W.ml, W.mn⟩
    refine ⟨pA, dA, l1, l2, l3, cols, ts, ps, mks, H6, rfl, (same_new ndA).trans (same_new (by rw [upd_ne neA.symm]; exact npA)), npA, ndA, upd_same, .inl ((u2.trans u3) _ _ x1), .inl (u3 _ _ x2), CpT.ext W3.ts (dr_same.trans u36), .inl x3, ok, fun H7 u7 hp => ⟨rfl, ?_⟩⟩
    have u37 := u36.trans u7
    have h7 := h3.ext u37
    have T7 := T3.ext u37
    have hpg : PicG ⟨cols, normT ps, mks⟩ := ⟨⟨fun p hp => ⟨(normT_lt W.pv p hp).1, (normT_lt W.pv p hp).2.1⟩, by have := normT_len ps; have := W.p2; show (normT ps).length ≤ 1000; omega, by show 1 ≤ cols.length; omega, by show cols.length ≤ 700; omega, W.ml, hm4⟩, hc5, TA.c4, hm1⟩
    have d37 : Same (dr H3 a) (dr H7 a) := dr_mono u37
    have TA7 := TA3.ext d37
    have W7 := TA7.w
    have tB : Same (bse H7 a) H7 := bse_same
    have iB : IsB (bse H7 a) a := isB
    have hpB := hp.bse h7
    have hmiB := bse_LN TA7.mi
    have hthB := bse_LN TA7.th
    have hhuB := bse_LN TA7.hu
    have haimB := bse_dr (d37 _ _ haim) fun ps z => by cases z
    have hwB := bse_dr W7.at_ fun ps z => by cases z
    have hlB := bse_LN W7.l
    have hwg' := hwg ⟨cols, normT ps, mks⟩ rfl rfl
    have om := TA.om
    have oo := TA.oo
    have oh := TA.oh
    have hc9 := W.c9
    have hmn := W.mn
    have hml := W.ml
    have hpv := W.pv
    have hp2 := W.p2
    clear TA TA3 TA7 W W3 W7 g1 g2 g3 g4 u1 u2 u3 u36 u37 d37 d23 x1 x2 x3 u7 haim hp s1 s2 s3 T1 T2 T3 h1 h2 h3 hT hsq hwg
    generalize bse H7 a = B at tB iB hpB hmiB hthB hhuB haimB hwB hlB
    try dsimp only [List.set, wipe, List.map_cons, List.map_nil]
    walk_at "WK"
    refine r_forced (hpB.ext tB) hpg (tB _ _ hmiB) (tB _ _ hthB) (tB _ _ hhuB) (tB _ _ haimB) om oo oh hwg' T7 fun H8 y8 e8 T8 A8 => ?_
    refine r_nil (r_numF A8 fun r0 R0 => ?_)
    have tB8 := iB.extN tB e8
    have h8 := h7.extN e8
    try dsimp only [List.set, wipe, List.map_cons, List.map_nil]
    walk_at "WK"
    refine r_more h8 ((dr_go tB8 iB.na) _ _ hmiB) (by omega) om.b om.nd fun H9 q9 ms9 s9 h9 hq9 hsub9 hlt9 hnd9 => ?_
    have tB9 := iB.hand tB8 s9
    have T9 := h8.tabs T8 s9
    have om9 : MsOk ms9 4 mks.length := by
      have hl := nodup_lt_len hnd9 hlt9
      refine ⟨?_, by omega, hlt9, hnd9⟩
      obtain ⟨v, hv⟩ := List.exists_mem_of_ne_nil _ (List.length_pos_iff.mp om.l1)
      exact List.length_pos_of_mem (hsub9 v hv)
    try dsimp only [List.set, wipe, List.map_cons, List.map_nil]
    walk_at "WK"
    refine r_forced (hpB.ext tB9) hpg (dr_same _ _ hq9) (tB9 _ _ hthB) (tB9 _ _ hhuB) (tB9 _ _ haimB) om9 oo oh hwg' T9 fun H10 y10 e10 T10 A10 => ?_
    refine r_nil (r_numF A10 fun r1 R1 => ?_)
    have tB10 := iB.extN tB9 e10
    have h10 := h9.extN e10
    have l10 : r1 ≤ r0 := R0.le R1 fun n z => z.mine hsub9
    clear h7 h8 h9 T7 T8 T9 tB tB8 tB9 s9 hq9 e8 e10 A8 A10
    try dsimp only [List.set, wipe, List.map_cons, List.map_nil]
    walk_at "WK"
    refine r_more h10 ((dr_go tB10 iB.na) _ _ hthB) (by omega) oo.b oo.nd fun H11 q11 os11 s11 h11 hq11 hsub11 hlt11 hnd11 => ?_
    have tB11 := iB.hand tB10 s11
    have T11 := h10.tabs T10 s11
    have oo11 : MsOk os11 4 mks.length := by
      have hl := nodup_lt_len hnd11 hlt11
      refine ⟨?_, by omega, hlt11, hnd11⟩
      obtain ⟨v, hv⟩ := List.exists_mem_of_ne_nil _ (List.length_pos_iff.mp oo.l1)
      exact List.length_pos_of_mem (hsub11 v hv)
    try dsimp only [List.set, wipe, List.map_cons, List.map_nil]
    walk_at "WK"
    refine r_forced (hpB.ext tB11) hpg (tB11 _ _ hmiB) (dr_same _ _ hq11) (tB11 _ _ hhuB) (tB11 _ _ haimB) om oo11 oh hwg' T11 fun H12 y12 e12 T12 A12 => ?_
    refine r_nil (r_numF A12 fun r2 R2 => ?_)
    have tB12 := iB.extN tB11 e12
    have h12 := h11.extN e12
    have l12 : r0 ≤ r2 := R2.le R0 fun n z => z.theirs hsub11
    clear h10 h11 T10 T11 tB10 tB11 s11 hq11 e12 A12
    try dsimp only [List.set, wipe, List.map_cons, List.map_nil]
    walk_at "WK"
    refine r_unl h12 (by omega) (by omega) (by omega) fun H13 oA ord s13 h13 hoA hond holt hol => ?_
    rw [show ((mks.length : Nat) : Int).toNat = mks.length by omega, Nat.min_self] at hol
    have tB13 := iB.hand tB12 s13
    have T13 := h12.tabs T12 s13
    clear h12 T12 tB12 s13
    have ho13 := dr_same _ _ hoA
    have hidx : ∀ m, m < mks.length → ord[ord.idxOf m]? = some m := fun m hm => idx_get (perm_has hol holt hond hm)
    try dsimp only [List.set, wipe, List.map_cons, List.map_nil]
    walk_at "WK"
    refine r_ir1k (by omega) (by omega) ?_
    rw [Int.toNat_natCast]
    refine lc_R (fun D i H' => Same H13 H' ∧ H13 D = none ∧ LN H' D ((List.range i).map ord.idxOf)) (fun D hD => ⟨same_new hD, hD, upd_same⟩) ?_ ?_
    · rintro D i H' hi ⟨s14, nD, hD⟩
      have ho := s14 _ _ ho13
      have e0 : (0 : Int) + (i : Int) = (i : Int) := by omega
      rw [e0]
      try dsimp only [List.set, wipe, List.map_cons, List.map_nil]
      walk_at "WK"
      refine r_indexN ho (hidx i hi) hond ?_
      refine r_eltk hD (lt_sz (by rw [vN_len, List.length_map, List.length_range]; omega)) ?_
      rw [vN_app]
      refine ⟨same_of s14 nD, nD, ?_⟩
      rw [show List.range (i + 1) = List.range i ++ [i] from List.range_succ, List.map_append]
      exact upd_same
    rintro plA H14 ⟨s14, nplA, hpl14⟩
    have h14 := h13.ext s14
    have T14 := T13.ext s14
    have tB14 := tB13.trans s14
    have ho14 : LN H14 oA ord := s14 _ _ ho13
    obtain ⟨pl, hpl⟩ : ∃ pl, pl = (List.range mks.length).map ord.idxOf := ⟨_, rfl⟩
    rw [← hpl] at hpl14
    have hpll : pl.length = mks.length := by rw [hpl, List.length_map, List.length_range]
    have hplg : ∀ m, m < mks.length → pl[m]? = some (ord.idxOf m) := fun m hm => by
      rw [hpl, List.getElem?_map, List.getElem?_range hm]
      rfl
    have hilt : ∀ m, m < mks.length → ord.idxOf m < mks.length := fun m hm => by
      have := (List.getElem?_eq_some_iff.mp (hidx m hm)).1
      omega
    have hinj : ∀ m, m < mks.length → ∀ m', m' < mks.length → ord.idxOf m = ord.idxOf m' → m = m' := fun m hm m' hm' e => by
      have h1 := hidx m hm
      rw [e, hidx m' hm'] at h1
      exact (Option.some.inj h1).symm
    clear s14 tB13 T13 h13 ho13 hoA
    try dsimp only [List.set, wipe, List.map_cons, List.map_nil]
    walk_at "WK"
    refine r_take h14 (by decide) (by decide) fun H15 rr s15 h15 hrr => ?_
    have T15 := h14.tabs T14 s15
    have tB15 := iB.hand tB14 s15
    have ho15 : LN H15 oA ord := s15 _ _ (LN.drH ho14 h14)
    have hpl15 : LN H15 plA pl := s15 _ _ (LN.drH hpl14 h14)
    clear h14 T14 tB14 s15 ho14 hpl14
    refine r_i0 ?_
    rw [show (1 : Int) + (rr : Int) = ((1 + rr : Nat) : Int) by omega]
    obtain ⟨sh, hsh⟩ : ∃ sh : Nat, sh = 1 + rr := ⟨_, rfl⟩
    rw [← hsh]
    have g1 := tB15 _ _ hwB
    try dsimp only [List.set, wipe, List.map_cons, List.map_nil]
    walk_at "WK"
    refine ⟨l, cols, rfl, tB15 _ _ hlB, fun H16 olA s16 hol16 => ?_⟩
    have holm : ∀ v, v ∈ (List.range 100).filter (fun v => decide (v ∈ cols)) ↔ v ∈ cols := fun v => by
      rw [List.mem_filter, List.mem_range, decide_eq_true_iff]
      exact ⟨fun z => z.2, fun z => ⟨by have := hc9 v z; omega, z⟩⟩
    have holn : ((List.range 100).filter fun v => decide (v ∈ cols)).Nodup := List.nodup_range.sublist List.filter_sublist
    have holl := List.length_filter_le (fun v => decide (v ∈ cols)) (List.range 100)
    rw [List.length_range] at holl
    generalize (List.range 100).filter (fun v => decide (v ∈ cols)) = olds at hol16 holm holn holl
    have s15x := s16
    clear g1
    try dsimp only [List.set, wipe, List.map_cons, List.map_nil]
    walk_at "WK"
    refine lc_L (xs := vN olds) (fun D i H' => Same H16 H' ∧ H16 D = none ∧ ∃ as, H' D = some (.lst (refs as)) ∧ CpT H' as ((olds.take i).map fun h => (h, rho sh h))) (fun D hD => ⟨same_new hD, hD, [], upd_same, .nil⟩) (fun D i H' _ h => h.1 _ _ hol16) ?_ ?_
    · rintro D i y H' hy ⟨s17, nD, as, hD, hC⟩
      obtain ⟨v, hv, rfl⟩ := vN_inv hy
      have hi := (List.getElem?_eq_some_iff.mp hv).1
      have hv9 := hc9 v ((holm v).mp (List.mem_of_getElem? hv))
      try dsimp only [List.set, wipe, List.map_cons, List.map_nil]
      walk_at "WK"
      refine r_mod (by decide) ?_
      rw [rho_int hv9]
      try dsimp only [List.set, wipe, List.map_cons, List.map_nil]
      walk_at "WK"
      intro t2 ht2
      have st := same_new ht2 (o := .tup [.int (v : Int), .int (rho sh v : Int)])
      have hD2 := st _ _ hD
      have hal := hC.len
      rw [List.length_map, List.length_take] at hal
      refine r_eltk hD2 (lt_sz (by rw [List.length_map]; omega)) ?_
      have tW : TupSame (upd H' t2 (.tup [.int (v : Int), .int (rho sh v : Int)])) (upd (upd H' t2 (.tup [.int (v : Int), .int (rho sh v : Int)])) D (.lst (refs as ++ [.ref t2]))) := TupSame.mut fun vs e => by rw [hD2] at e; cases e
      refine ⟨same_of (s17.trans st) nD, nD, as ++ [t2], by rw [upd_same]; simp [refs], ?_⟩
      rw [List.take_add_one, hv, List.map_append]
      exact All2.snoc (CpT.tups (CpT.ext hC st) tW) (tW _ _ upd_same)
    rintro prA H17 ⟨s17, nprA, pas, hpr, hprC⟩
    rw [vN_len, List.take_length] at hprC
    have t17 := tB15.trans (s16.trans s17)
    try dsimp only [List.set, wipe, List.map_cons, List.map_nil]
    walk_at "WK"
    have hnt := normT_len ps
    have hntv := normT_lt hpv
    have okR : PicOk (cols.map (rho sh)) (normT ps) mks := ⟨by rw [List.length_map]; omega, by rw [List.length_map]; omega, fun n hn => by
      obtain ⟨c0, hc0, rfl⟩ := List.mem_map.mp hn
      exact rho_le (hc9 c0 hc0), by omega, by rw [List.length_map]; exact hntv, hm1, hm4, by rw [List.length_map]; exact hml, hmn⟩
    refine ⟨pA, prA, ⟨cols, normT ps, mks⟩, pas, olds, rho sh, rfl, hpB.ext t17, hpr, hprC, holn, map_nd holn (fun x _ y _ e => rho_inj sh x y e), fun v hv => ⟨hc9 v ((holm v).mp hv), rho_le (hc9 v ((holm v).mp hv))⟩, by omega, fun v hv => (holm v).mpr hv, okR, fun H18 rA s18 hr18 => ?_⟩
    have s15_18 := (s16.trans s17).trans s18
    have ho18 : LN H18 oA ord := s15_18 _ _ ho15
    have hmkg : ∀ m, m < mks.length → ∃ v, mks[m]? = some v ∧ mks.getD m 0 = v := fun m hm => by
      obtain ⟨v, hv⟩ := getElem?_of_lt hm
      exact ⟨v, hv, getD_of hv⟩
    have hmmem : ∀ m, m < mks.length → mks.getD m 0 ∈ mks := fun m hm => by
      obtain ⟨v, hv, e⟩ := hmkg m hm
      rw [e]
      exact List.mem_of_getElem? hv
    have okE : PicOk (cols.map (rho sh)) (normT (normT ps)) (ord.map fun n => mks.getD n 0) := by
      rw [normT_idem]
      refine ⟨okR.c1, okR.c2, okR.c3, okR.t1, okR.t2, by rw [List.length_map]; omega, by rw [List.length_map]; omega, fun n hn => ?_, map_nd hond fun x hx y hy e => ?_⟩
      · obtain ⟨m0, hm0, rfl⟩ := List.mem_map.mp hn
        exact okR.m3 _ (hmmem m0 (holt m0 hm0))
      · obtain ⟨v, hv, e1⟩ := hmkg x (holt x hx)
        obtain ⟨v', hv', e2⟩ := hmkg y (holt y hy)
        rw [e1, e2] at e
        subst e
        obtain ⟨p1, q1⟩ := List.getElem?_eq_some_iff.mp hv
        obtain ⟨p2, q2⟩ := List.getElem?_eq_some_iff.mp hv'
        exact (List.getElem_inj hmn).mp (q1.trans q2.symm)
    try dsimp only [List.set, wipe, List.map_cons, List.map_nil]
    walk_at "WK"
    refine ⟨rA, oA, _, ord, rfl, hr18, ho18, hol, holt, hond, okE, fun H19 xA s19 hx19 => ?_⟩
    have hx19 : PicAt K H19 xA (otherP ⟨cols, normT ps, mks⟩ (rho sh) ord) := by
      have e : normT (normT (normT ps)) = normT ps := by rw [normT_idem, normT_idem]
      have h := hx19
      show PicAt K H19 xA ⟨cols.map (rho sh), normT ps, ord.map fun n => mks.getD n 0⟩
      rw [← e]
      exact h
    have s15_19 := s15_18.trans s19
    have t19 := tB15.trans s15_19
    have hpl19 : LN H19 plA pl := s15_19 _ _ hpl15
    have hwn : WishN pl.length wd := by
      rw [hpll]
      cases wd with
      | all => trivial
      | reach _ => trivial
      | one x y => exact ⟨hwg'.1, hwg'.2.1⟩
      | col x y => exact ⟨hwg'.1, hwg'.2⟩
    try dsimp only [List.set, wipe, List.map_cons, List.map_nil]
    walk_at "WK"
    refine ⟨aim, plA, wd, (sh : Int), pl, rho sh, ord.idxOf, rfl, t19 _ _ haimB, hpl19, hwn, fun m0 hm0 => hplg m0 (by omega), fun c0 hc0 => rho_int hc0, fun H20 ldA s20 hld => ?_⟩
    have s15_20 := s15_19.trans s20
    have t20 := tB15.trans s15_20
    have hx20 := hx19.ext s20
    have hh20 := t20 _ _ hhuB
    clear hx19 hr18 ho18 hpl19 t19 t17 hprC hpr hol16
    try dsimp only [List.set, wipe, List.map_cons, List.map_nil]
    walk_at "WK"
    refine lc_L (xs := vN hs) (fun D i H' => Same H20 H' ∧ H20 D = none ∧ LN H' D ((hs.take i).map (rho sh))) (fun D hD => ⟨same_new hD, hD, upd_same⟩) (fun D i H' _ h => h.1 _ _ hh20) ?_ ?_
    · rintro D i y H' hy ⟨s21, nD, hD⟩
      obtain ⟨v, hv, rfl⟩ := vN_inv hy
      have hi := (List.getElem?_eq_some_iff.mp hv).1
      have hv9 := oh.b v (List.mem_of_getElem? hv)
      have ohl := oh.l2
      try dsimp only [List.set, wipe, List.map_cons, List.map_nil]
      walk_at "WK"
      refine r_mod (by decide) ?_
      rw [rho_int (by omega)]
      refine r_eltk hD (lt_sz (by rw [vN_len, List.length_map, List.length_take]; omega)) ?_
      rw [vN_app]
      refine ⟨same_of s21 nD, nD, ?_⟩
      rw [List.take_add_one, hv, List.map_append]
      exact upd_same
    rintro shA H21 ⟨s21, nsh, hsh21⟩
    rw [vN_len, List.take_length] at hsh21
    have s15_21 := s15_20.trans s21
    have t21 := tB15.trans s15_21
    have h21 := h15.ext s15_21
    have T21 := T15.ext s15_21
    have hx21 := hx20.ext s21
    have hld21 := s21 _ _ hld
    have hpl21 : LN H21 plA pl := s15_21 _ _ hpl15
    have bB := iB.into t21
    have tC : Same (bse H21 a) H21 := bse_same
    have iC : IsB (bse H21 a) a := isB
    have hxC := hx21.bse h21
    have hldC := bse_tup h21 hld21
    have hplC := bse_LN (hpl21.drH h21)
    have hshC := bse_LN (hsh21.drH h21)
    have hpC := hpB.ext bB
    have hmiC := bB _ _ hmiB
    have hthC := bB _ _ hthB
    have hhuC := bB _ _ hhuB
    have haimC := bB _ _ haimB
    clear hpB hmiB hthB hhuB haimB hwB hlB iB tB15 bB t21 t20 s15_18 s15_19 s15_20 s15_21 s16 s17 s18 s19 s20 s21 h15 T15 hx20 hx21 hld hld21 hpl15 hpl21 hsh21 ho15 hh20
    generalize bse H21 a = C at tC iC hxC hldC hplC hshC hpC hmiC hthC hhuC haimC
    have hmi21 := tC _ _ hmiC
    try dsimp only [List.set, wipe, List.map_cons, List.map_nil]
    walk_at "WK"
    refine lc_L (xs := vN ms) (fun D i H' => Same H21 H' ∧ H21 D = none ∧ LN H' D ((ms.take i).map ord.idxOf)) (fun D hD => ⟨same_new hD, hD, upd_same⟩) (fun D i H' _ h => h.1 _ _ hmi21) ?_ ?_
    · rintro D i y H' hy ⟨s22, nD, hD⟩
      obtain ⟨v, hv, rfl⟩ := vN_inv hy
      have hi := (List.getElem?_eq_some_iff.mp hv).1
      have hpv2 := hplg v (om.b v (List.mem_of_getElem? hv))
      have oml := om.l2
      have hplx := s22 _ _ (tC _ _ hplC)
      try dsimp only [List.set, wipe, List.map_cons, List.map_nil]
      walk_at "WK"
      refine r_eltk hD (lt_sz (by rw [vN_len, List.length_map, List.length_take]; omega)) ?_
      rw [vN_app]
      refine ⟨same_of s22 nD, nD, ?_⟩
      rw [List.take_add_one, hv, List.map_append]
      exact upd_same
    rintro miA H22 ⟨s22, nmi, hmi22⟩
    rw [vN_len, List.take_length] at hmi22
    have t22 := tC.trans s22
    have hth22 := t22 _ _ hthC
    clear hmi21
    try dsimp only [List.set, wipe, List.map_cons, List.map_nil]
    walk_at "WK"
    refine lc_L (xs := vN os) (fun D i H' => Same H22 H' ∧ H22 D = none ∧ LN H' D ((os.take i).map ord.idxOf)) (fun D hD => ⟨same_new hD, hD, upd_same⟩) (fun D i H' _ h => h.1 _ _ hth22) ?_ ?_
    · rintro D i y H' hy ⟨s23, nD, hD⟩
      obtain ⟨v, hv, rfl⟩ := vN_inv hy
      have hi := (List.getElem?_eq_some_iff.mp hv).1
      have hpv2 := hplg v (oo.b v (List.mem_of_getElem? hv))
      have oml := oo.l2
      have hplx := s23 _ _ (t22 _ _ hplC)
      try dsimp only [List.set, wipe, List.map_cons, List.map_nil]
      walk_at "WK"
      refine r_eltk hD (lt_sz (by rw [vN_len, List.length_map, List.length_take]; omega)) ?_
      rw [vN_app]
      refine ⟨same_of s23 nD, nD, ?_⟩
      rw [List.take_add_one, hv, List.map_append]
      exact upd_same
    rintro thA H23 ⟨s23, nth, hth23⟩
    rw [vN_len, List.take_length] at hth23
    have t23 := t22.trans s23
    have h23 := h21.ext (s22.trans s23)
    have T23 := T21.ext (s22.trans s23)
    have hmi23 : LN H23 miA (ms.map ord.idxOf) := s23 _ _ hmi22
    have e_mk : (otherP ⟨cols, normT ps, mks⟩ (rho sh) ord).mks.length = mks.length := by
      show (ord.map fun m => mks.getD m 0).length = _
      rw [List.length_map, hol]
    have mo : ∀ {xs : List Nat} {most : Nat}, MsOk xs most mks.length → MsOk (xs.map ord.idxOf) most (otherP ⟨cols, normT ps, mks⟩ (rho sh) ord).mks.length := fun {xs most} o => by
      rw [e_mk]
      exact ⟨by rw [List.length_map]; exact o.l1, by rw [List.length_map]; exact o.l2, fun n hn => by
        obtain ⟨v, hv, rfl⟩ := List.mem_map.mp hn
        exact hilt v (o.b v hv), map_nd o.nd fun x hx y hy e => hinj x (o.b x hx) y (o.b y hy) e⟩
    have ohr : MsOk (hs.map (rho sh)) 3 100 := ⟨by rw [List.length_map]; exact oh.l1, by rw [List.length_map]; exact oh.l2, fun n hn => by
      obtain ⟨v, hv, rfl⟩ := List.mem_map.mp hn
      have := rho_le (sh := sh) (c := v) (by have := oh.b v hv; omega)
      omega, map_nd oh.nd fun x _ y _ e => rho_inj sh x y e⟩
    have hpgO : PicG (otherP ⟨cols, normT ps, mks⟩ (rho sh) ord) := by
      refine ⟨⟨fun p hp => ?_, ?_, ?_, ?_, fun v hv => ?_, ?_⟩, ?_, ?_, ?_⟩
      · show p.1 < (cols.map (rho sh)).length ∧ p.2 < (cols.map (rho sh)).length
        rw [List.length_map]
        have := hntv p hp
        exact ⟨this.1, this.2.1⟩
      · show (normT ps).length ≤ 1000
        omega
      · show 1 ≤ (cols.map (rho sh)).length
        rw [List.length_map]
        omega
      · show (cols.map (rho sh)).length ≤ 700
        rw [List.length_map]
        omega
      · show v < (cols.map (rho sh)).length
        rw [List.length_map]
        obtain ⟨m0, hm0, rfl⟩ := List.mem_map.mp hv
        exact hml _ (hmmem m0 (holt m0 hm0))
      · rw [e_mk]
        exact hm4
      · show (cols.map (rho sh)).length ≤ 5
        rw [List.length_map]
        exact hc5
      · rw [e_mk]
        show (cols.map (rho sh)).length ≤ 4 ∨ _
        rw [List.length_map]
        exact hpg.c4
      · rw [e_mk]
        exact hm1
    have hwgO : WishG (otherP ⟨cols, normT ps, mks⟩ (rho sh) ord) (ledW (rho sh) ord.idxOf wd) := by
      cases wd with
      | all => trivial
      | reach x =>
        show x < (cols.map (rho sh)).length
        rw [List.length_map]
        exact hwg'
      | one x y =>
        show ord.idxOf x < _ ∧ ord.idxOf y < _ ∧ ord.idxOf x ≠ ord.idxOf y
        rw [e_mk]
        exact ⟨hilt x hwg'.1, hilt y hwg'.2.1, fun e => hwg'.2.2 (hinj x hwg'.1 y hwg'.2.1 e)⟩
      | col x y =>
        show ord.idxOf x < _ ∧ rho sh y ≤ 99
        rw [e_mk]
        exact ⟨hilt x hwg'.1, rho_le hwg'.2⟩
    try dsimp only [List.set, wipe, List.map_cons, List.map_nil]
    walk_at "WK"
    refine r_forced (hxC.ext t23) hpgO hmi23 hth23 (t23 _ _ hshC) (t23 _ _ hldC) (mo om) (mo oo) ohr hwgO T23 fun H24 y24 e24 T24 A24 => ?_
    refine r_nil (r_numF A24 fun r3 R3 => ?_)
    have t24 := iC.extN t23 e24
    have h24 := h23.extN e24
    have e3 : r3 = r0 := R0.eq R3 fun n => Wd.iso hpg.W (rho_inj sh) hidx holt hwg' om.b oo.b n
    subst e3
    clear s22 s23 hmi22 hmi23 hth22 hth23 e24 A24 t22 t23 h21 h23 T21 T23
    have hmi24 := t24 _ _ hmiC
    have n33 : (!decide (V.int (r3 : Int) = V.int (r3 : Int))) = false := by simp
    try dsimp only [List.set, wipe, List.map_cons, List.map_nil]
    walk_at "WK"
    refine k_slL_tN (by decide) hmi24 fun f1 hf1 => ?_
    have e1t : (vN ms).take (1 : Int).toNat = vN (ms.take 1) := vN_take _ _
    rw [e1t]
    have sf := same_new hf1 (o := .lst (vN (ms.take 1)))
    have t25 := t24.trans sf
    have h25 := h24.ext sf
    have hf25 : LN (upd H24 f1 (.lst (vN (ms.take 1)))) f1 (ms.take 1) := upd_same
    generalize upd H24 f1 (.lst (vN (ms.take 1))) = H25 at t25 h25 hf25 ⊢
    have om1 := ms_take om (k := 1) (by decide)
    have om12 : MsOk (ms.take 1) 2 mks.length := ⟨om1.l1, by have := om1.l2; omega, om1.b, om1.nd⟩
    have oh4 : MsOk hs 4 100 := ⟨oh.l1, by have := oh.l2; omega, oh.b, oh.nd⟩
    have ohr4 : MsOk (hs.map (rho sh)) 4 100 := ⟨ohr.l1, by have := ohr.l2; omega, ohr.b, ohr.nd⟩
    clear hmi24
    try dsimp only [List.set, wipe, List.map_cons, List.map_nil]
    walk_at "WK"
    refine r_fewest (hpC.ext t25) hpg hf25 (t25 _ _ hhuC) (t25 _ _ haimC) om12 oh4 hwg' fun H26 y26 s26 A26 => ?_
    refine r_nil (r_numD A26 fun r4 R4 => ?_)
    have t26 := t25.trans s26
    have h26 := h25.ext s26
    obtain ⟨m0, mr, hms⟩ : ∃ m0 mr, ms = m0 :: mr := by
      cases ms with
      | nil => exact absurd om.l1 (by simp)
      | cons m0 mr => exact ⟨m0, mr, rfl⟩
    have hm0l := om.b m0 (by rw [hms]; exact List.mem_cons_self ..)
    have hpl0 := hplg m0 hm0l
    have hmi26 := t26 _ _ hmiC
    have hpl26 := t26 _ _ hplC
    have hms0 : ms[0]? = some m0 := by rw [hms]; rfl
    have em0 : atI (vN ms) 0 = some (V.int (m0 : Int)) := vN_at hms0
    try dsimp only [List.set, wipe, List.map_cons, List.map_nil]
    walk_at "WK"
    intro f2 hf2
    have sf2 := same_new hf2 (o := .lst [.int (ord.idxOf m0 : Int)])
    have t27 := t26.trans sf2
    have h27 := h26.ext sf2
    have hf27 : LN (upd H26 f2 (.lst [.int (ord.idxOf m0 : Int)])) f2 ((ms.take 1).map ord.idxOf) := by
      rw [hms]
      exact upd_same
    generalize upd H26 f2 (.lst [.int (ord.idxOf m0 : Int)]) = H27 at t27 h27 hf27 ⊢
    clear hmi26 hpl26
    try dsimp only [List.set, wipe, List.map_cons, List.map_nil]
    walk_at "WK"
    refine r_fewest (hxC.ext t27) hpgO hf27 (t27 _ _ hshC) (t27 _ _ hldC) (mo om12) ohr4 hwgO fun H28 y28 s28 A28 => ?_
    refine r_nil (r_numD A28 fun r5 R5 => ?_)
    have e5 : r5 = r4 := R4.eq R5 fun n => Dd.iso hpg.W (rho_inj sh) hidx holt hwg' om12.b n
    subst e5
    have t28 := t27.trans s28
    have h28 := h27.ext s28
    have n55 : (!decide (V.int (r5 : Int) = V.int (r5 : Int))) = false := by simp
    try dsimp only [List.set, wipe, List.map_cons, List.map_nil]
    walk_at "WK"
    have dC : Same C (dr H28 a) := dr_go t28 iC.na
    exact ⟨a, c, pA, mi, hu, aim, th, _, ms, os, hs, wd, r3, rfl, h28, hpC.ext dC, hpg, dC _ _ hmiC, dC _ _ hhuC, dC _ _ haimC, dC _ _ hthC, om, oo, oh, hwg', R0, k⟩
end
end G6
end
end
set_option Elab.async false
set_option linter.all false
set_option maxRecDepth 100000
set_option maxHeartbeats 0
/-! Z1: the end -/
namespace G6
open PySem PySem.Spec PyProof.Rows L2 LamX G7
abbrev pM : He.Defn := ("Contest", some "rows_of_mine")
theorem facts {w : World} {K : PySem.W.Frag} {h : Heap} {mg : Str → Option Value} {f : Addr} (X : K.In h) (G : h.Ns mainGlobals mg) (hfa : mg ("law" : Str) = some (.ref f)) (c : He.SaysX fa fn [] [("Contest", some "rows_of_mine")] moreB w h K) :
    LawAtS RW w K C8.CX0 10 63 "_law_script" mg f h := by
  have T : TX K mg := ⟨c.t.d, c.more, fun x z => He.glo_ok X G z, fun x z => He.free_ok X G z, fun x i z => He.int_ok X G z⟩
  have e := hfa.symm.trans T.g_law
  cases e
  obtain ⟨fd, F⟩ := T.F_law
  have hcd : ∀ (o : Obj) (fd : FuncData), K.lookup (He.ma K (He.ga K "Contest") "rows_of_mine") = some o → o.data = .func fd → fd.code = .ref (He.cT K pM).1 := fun o fd' lk od => by
    obtain ⟨fd0, F0⟩ := T.F_Contest_rows_of_mine
    obtain ⟨oc, od', dV, kV, doc, pm, an, cdv, ct, osl, hf, lk0, hc0, _, _⟩ := F0.ex
    obtain ⟨c0, e0⟩ := He.codeIn_ref hc0
    have ec : fd0.code = .ref c0 := by rw [hf, ← e0]
    have e1 : He.codeOf K pM = c0 := He.codeOf_eq (p := pM) lk0 ec
    rw [lk0] at lk
    cases lk
    cases od
    rw [ec, ← e1]
    rfl
  have b := FunD.bindsA (ps := ["_law_script"]) F fun _ _ _ _ _ _ us hl => match us, hl with | [_], _ => rfl
  have hm : pM ∈ [pM] := List.mem_singleton.mpr rfl
  refine ⟨fd, [He.cT K pM], sp_law K [((He.cT K pM).2, qMine)], fun p hp => ?_, fun p hp => ?_, fun p hp => ?_, fun s u => b s [u] rfl, fun H a ns hl _ hT hS => ?_, fun base hK hG hTB => ?_⟩
  · rw [List.mem_singleton.mp hp]
    exact c.empty pM hm
  · rw [List.mem_singleton.mp hp]
    exact c.out pM hm
  · rw [List.mem_singleton.mp hp]
    exact PySem.W.codeHd_of_K X (c.hd pM hm)
  · refine ⟨a, ns, rfl, hS, hl, fun p hp => ?_, fun _ => rfl⟩
    rw [List.mem_singleton.mp hp]
    exact TabS.nil (hT _ (List.mem_singleton.mpr rfl))
  · have T' : TX K mg := T
    exact ok_law T' hcd (hTB _ (List.mem_singleton.mpr rfl)) (List.mem_singleton.mpr rfl) (fun p hp _ => by rw [List.mem_singleton.mp hp]) F
end G6
open PySem PySem.W PySem.Calls PyProof.Rows
theorem PySem.Challenge.cw_spreadhues_k96_whole_more_marks_and_othe_holds : PySem.Challenge.rw_spreadhues_k96_whole_more_marks_and_othe.Holds := by
  w_on; o_law
  refine HandSHeadRun.head_any (r := OpenLaw.row PySem.Challenge.rw_spreadhues_k96_whole_more_marks_and_othe) (q := view (OpenLaw.row PySem.Challenge.rw_spreadhues_k96_whole_more_marks_and_othe).prog [79]) (H := G6.hk) (ob := G6.ob) (M := 20000) (loose := G6.names) (d := HandSHeadRun.topDef (OpenLaw.row PySem.Challenge.rw_spreadhues_k96_whole_more_marks_and_othe).prog 79) (kwd := []) G6.ob_eq
    (by kernel_rfl) (fun s => by kernel_rfl) G6.run (by kernel_rfl) (by kernel_rfl) (by kernel_rfl) (by rfl) (by first | assumption | decide +kernel) (by decide +kernel) ⟨rfl, rfl, rfl, rfl, rfl, by decide +kernel⟩ ?hw ?hc
  case hw => w_witness2
  case hc =>
    refine LamX.walk_ofTsE (l := PySem.Challenge.rw_spreadhues_k96_whole_more_marks_and_othe) (n := 63) (k := 10) (x := "_law_script") (CX := fun _ => C8.CX0) rfl (by decide) (by kernel_rfl) ⟨rfl, by decide, by decide⟩ ?F (fun _ _ _ _ _ z => z)
    intro w mg fa h Y G hmg0
    obtain ⟨K, KX, c⟩ := Y
    have hmg : mg ("law" : PySem.Str) = some (.ref fa) := by
      have e : (HandSHeadRun.topDef (OpenLaw.row PySem.Challenge.rw_spreadhues_k96_whole_more_marks_and_othe).prog 79).name = ("law" : PySem.Str) := by kernel_rfl
      rw [← e]
      exact hmg0
    exact ⟨K, KX, G6.facts KX G hmg c⟩
